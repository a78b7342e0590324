import PyProof.Rows.All
import Wide.All
import OpenK.AllK
import Wide.FinOn
import HandS.ForMost
import HandS.Defaults
import HandS.WordsExc
import HandS.HeadHook1
import HandS.HeadHook2
import HandS.Style
import HandS.Wide
import HandS.WideBits
import HandS.Gcd
import HandS.IsInst
import HandS.Exc
import HandS.ExcOwn
import HandS.ExcInit
import HandS.ExcField
import HandS.TryOnly
import HandS.FStr
import HandS.RaiseMore
import PyProof.ReprRoads
import HandS.NoneIn
import PyProof.ReprLen
import PyProof.StrLawsRepr
import HandS.ExcIs
import KE.KExcIs
import PySem.Challenge.RW_arrowcells_k65_walkers_step_by_step
import KE.KStateDown
import Lean
import HandS.Head0
import HandS.Head1
import HandS.Head2
import HandS.Head3
import HandS.HeadEnd
set_option Elab.async false
set_option linter.all false
set_option maxRecDepth 100000
set_option maxHeartbeats 2000000
namespace Ga
open PySem PySem.Spec PyProof.Rows L2
/-- a def's promise where no repr is under way -/
structure FnG (P : Program) (w : World) (K : PySem.W.Frag) (mg : Str → Option Value) (base : Heap) (CX : CXT) (k : Nat) (f : Addr) (fd : FuncData) (ps : List Str) (sp : Sp) : Prop where
  cnt : ∀ vs H Q E, sp vs H Q E → vs.length = ps.length
  go : ∀ (A : Around) (ev : List Env) (s : Shared) (H : Hp) (ar : Args) (us : List Value) (vs : List V) (Q : VK) (E : XK),
    A.guards = some [] → Room k A → Env0 P w K mg base A ev s H → BindsTo s fd ar (ps.zip us) → Vals vs us →
    sp vs H Q E → codeAny (model P w) A (.call (.ref f) ar) (CR CX ev P w H s Q E) s
section
variable {P : Program} {w : World} {K : PySem.W.Frag} {mg : Str → Option Value} {base : Heap} {CX : CXT} {k : Nat} {f : Addr} {fd : FuncData} {ps : List Str} {sp : Sp}
theorem FnG.of (F : FnOk P w K mg base CX k f fd ps sp) : FnG P w K mg base CX k f fd ps sp :=
  ⟨F.len, fun A ev s H ar us vs Q E _ => F.run A ev s H ar us vs Q E⟩
theorem FnG.mk' {params : Arguments} {body : List Stmt} {sc : Scope} {x qual : Str} {dvs : List V} {kws : List (Str × V)} {N : List Str}
    (F : FunD K x qual params body sc dvs kws f fd) (S : FnScope N ps sc) (cnt : ∀ vs H Q E, sp vs H Q E → vs.length = ps.length)
    (hb : ∀ (cdv : Value) (A : Around) (ev : List Env) (s : Shared) (H : Hp) (vs : List V) (Q : VK) (E : XK), A.guards = some [] →
      Room k (A.deeper (envOfC qual sc s.heap.objs.size f cdv)) → sp vs H Q E →
      ∃ t, PSs (cxOf CX P w K mg base N qual sc f cdv A ev s H E) body t ∧ t { nx := fun _ H' => Q .non H', rt := Q } (start N vs) H) :
    FnG P w K mg base CX (k + 1) f fd ps sp := by
  obtain ⟨oc, od, dV, kV, doc, pm, an, cdv, ct, sl, e, lk, hcd, _, _⟩ := F.ex
  subst e
  refine ⟨cnt, ?_⟩
  intro A ev s H ar us vs Q E hg hr e0 hbi rv hsp
  have hk : K.In s.heap := e0.mod.kin.keeps (fun b o q => (e0.bs b o q).1)
  have hl : s.heap.NoLimit := e0.mod.nolimit.keeps (fun b o q => (e0.bs b o q).1)
  refine codeAny_call_function hr.depth (hk _ _ lk) rfl S.co S.gen rfl
    (PySem.W.codeRec_of hk hcd) (hbi _ _ _ _ ?_)
  refine wpAny_newFunctionEnv_cells S.kind ?_ ?_
  · rintro ⟨n, v⟩ hy
    have hp := S.par n (List.of_mem_zip hy).1
    cases hp with
    | inl q => exact .inl q
    | inr q => exact .inr ⟨q, PySem.W.cellsFrom_some _ _ _ (.inl q)⟩
  intro env he s1 x
  subst he
  refine ⟨hl.keeps x.toInCall.keep, codeAny_func ?_⟩
  obtain ⟨t, ht, hq⟩ := hb cdv A ev s H vs Q E hg (hr.deeper _) hsp
  have I := inv_start (CX := CX) (E := E) S hr.hd e0 (cnt _ _ _ _ hsp) rv x
  refine wpAny_mono (ht.run [] s1 _ H _ I hq) ?_ (fun _ _ z => z)
  intro fl s' hs
  cases fl with
  | brk => obtain ⟨_, _, _, q⟩ := hs; exact q.elim
  | cont => obtain ⟨_, _, _, q⟩ := hs; exact q.elim
  | next =>
    obtain ⟨_, H', J, q⟩ := hs
    exact ⟨.non, H', J.os, J.bare, J.base, J.hok, rfl, q⟩
  | ret u =>
    obtain ⟨v, _, H', J, r, q⟩ := hs
    exact ⟨v, H', J.os, J.bare, J.base, J.hok, r, q⟩
end
section
variable {X : Cx} {CX : CXT} {k : Nat} {f : Addr} {fd : FuncData} {ps : List Str} {sp : Sp} {E : XK} {x : Str} {p pos : Pos} {e : Expr} {es : List Expr} {t : TA} {ds : List Value} {dvs : List V}
theorem run_fnG {pins : List (Addr × Obj)} {σ : L2.St} {H : Hp} {s : Shared} {Q : VK} {us : List Value} {vs : List V} (F : FnG X.prog X.w X.K X.mg X.base CX k f fd ps sp) (hG : X.A.guards = some []) (hr : Room k X.A)
    (hb : Binds X.K fd ps ds) (hd : Vals dvs ds) (hx : Passes CX X E) (I : Inv X pins σ H s) (r : Vals vs us) (h : sp (vs ++ dvs) H Q E) : wpAny (model X.prog X.w) X.A (call (.ref f) us) (EP X pins σ Q) X.xe s := by
  have r2 := Vals.append r hd
  refine wpAny_call (codeAny_mono (F.go X.A X.stack s H ⟨us, []⟩ (us ++ ds) (vs ++ dvs) Q E hG hr I.env0
    (hb s us I.kIn (r2.length.symm.trans (F.cnt _ _ _ _ h))) r2 h) ?_)
  intro res s' hq
  cases res with
  | error er => exact hx pins σ H s er s' I hq
  | ok fl =>
    cases fl <;> first
      | exact I.after hq
      | exact hq.elim
theorem pe_callG (F : FnG X.prog X.w X.K X.mg X.base CX k f fd ps sp) (hG : X.A.guards = some []) (hr : Room k X.A) (hg : Gl X x) (hm : X.mg x = some (.ref f))
    (hk : PySem.W.keepIn X.K (.ref f) = true) (hb : Binds X.K fd ps ds) (hd : Vals dvs ds) (hx : Passes CX X E) (ha : PA X (e :: es) t)
    (hdb : (x == ("__debug__" : Str)) = false := by decide)
    (he : starEach (e :: es) X.env = (false, eval e X.env) :: starEach es X.env := by rfl)
    (hpl : (backTo pos (starEach es X.env)).any (·.1) = false := by rfl) : PE X (.Call (.Name x p) (e :: es) [] pos) (tCall sp dvs E t) := by
  constructor
  intro pins s σ H Q I h
  refine wpAny_Call_Name_kw (ld_glob I hg hm ?_ hdb)
  refine PySem.W.callWith_K (h₀ := X.base) I.ok.mod.kin hk ?_ he hpl
  refine thn (ha.run pos pins s σ H _ I h) ?_
  rintro us s1 ⟨vs, H1, I1, r, q⟩
  exact ⟨I1.kIn, run_fnG F hG hr hb hd hx I1 r q⟩
end
/-! ### repr of data -/
def dpt : PyData → Nat := PyData.depth
def rRepr (K : PySem.W.Frag) : List V → Hp → VK → Prop := fun xs H Q => ∃ (x : V) (d : PyData), xs = [x] ∧ Dp K H x d ∧ d.showable = true ∧ d.hasDict = false ∧ d.depth ≤ 50 ∧ d.shown.length ≤ sizeLine ∧ (∀ i, d = .int i → i.natAbs.log2 < 1920) ∧ Q (.str d.shown) H
theorem call_repr {X : Cx} {k : Nat} (hG : X.A.guards = some []) (hr : Room k X.A) : CallR X (.builtin "repr") (rRepr X.K) := by
  intro pins s σ H xs us Q I rv h
  obtain ⟨x, d, rfl, hd, hs, hn, hdp, hz, hi, q⟩ := h
  cases rv with
  | cons rx rn =>
    cases rn
    have fin : ∀ (tk : Nat) (u : Tok), EP X pins σ Q (.str d.shown u) { s with toks := tk } := fun tk u => ⟨.str d.shown, H, I.tok _, ⟨u, rfl⟩, q⟩
    obtain ⟨as, rd⟩ := Dp.reads I d x _ hd rx
    have hu := hr.units
    cases hd with
    | non => cases rx; exact PySem.P.repr_of_none (fin _ _)
    | bl b => cases rx; cases b <;> exact PySem.P.repr_of_bool (fin _ _)
    | int i => obtain ⟨t, rfl⟩ := rx; exact PySem.P.repr_of_int (hi i rfl) (fin _ _)
    | str y => obtain ⟨t, rfl⟩ := rx; exact PySem.P.repr_of_str (fin _ _) hz
    | lst ha hb =>
      cases rx
      refine repr_of_reads' rd hs (fun z => ?_) hG (by omega) (fun _ _ z => z) (fun h' u tk hk => ?_) hz
      · rw [hn] at z; cases z
      · exact ⟨.str _, H, I.kept (t' := tk) hk, ⟨u, rfl⟩, q⟩
    | tup ha hb =>
      cases rx
      refine repr_of_reads' rd hs (fun z => ?_) hG (by omega) (fun _ _ z => z) (fun h' u tk hk => ?_) hz
      · rw [hn] at z; cases z
      · exact ⟨.str _, H, I.kept (t' := tk) hk, ⟨u, rfl⟩, q⟩
/-! ### the law's end -/
theorem end_G {P : Program} {w : World} {K : PySem.W.Frag} {mg mb : Str → Option Value} {CX : CXT} {k : Nat} {fa a : Addr} {fd : FuncData} {x : Str} {sp : Sp} {s1 : Shared} {vs : List Value} {ns : List Int}
    (KX : K.In s1.heap) (hns : s1.heap.Ns mainGlobals mg) (hbn : s1.heap.Ns builtinsNs mb) (hbb : ∀ x : Str, x ≠ "__name__" → mb x = bootBuiltins x) (hlim : s1.heap.NoLimit) (hg : s1.gens = #[])
    (ha : s1.heap.get? a = some { cls := .type "list", data := .seq vs.toArray }) (hi : IntsAre vs ns) (hl : ns.length ≤ sizeLine) (hr : Room k callerA)
    (F : ∀ base : Heap, K.In base → base.Ns mainGlobals mg → FnG P w K mg base CX k fa fd [x] sp) (hbind : ∀ (s : Shared) (u : Value), BindsTo s fd ⟨[u], []⟩ [(x, u)])
    (hsp : ∀ H : Hp, Only H → SqL K H a (ns.map V.int) → sp [.ref a] H (fun v _ => v = .bl true) fun _ _ _ => False)
    (hCX : ∀ H e s', CX [] H s1 (fun _ _ _ => False) e s' → False) :
    codeAny (model P w) callerA (.call (.ref fa) ⟨[.ref a], []⟩)
      (fun r s' => r = .ok (.ret (.bool true)) ∧ OldK s1.heap s'.heap ∧ s'.os = s1.os ∧ AllBare s'.gens) s1 := by
  let ob : Obj := { cls := .type "list", data := .seq vs.toArray }
  have rv : Vals (ns.map V.int) vs := vals_ints hi
  have main : ∀ H : Hp, (∀ b, H b = none ∨ (b = a ∧ K.lookup a = none ∧ H b = some (.frz ob (.lst (ns.map V.int))))) → SqL K H a (ns.map V.int) →
      codeAny (model P w) callerA (.call (.ref fa) ⟨[.ref a], []⟩)
        (fun r s' => r = .ok (.ret (.bool true)) ∧ OldK s1.heap s'.heap ∧ s'.os = s1.os ∧ AllBare s'.gens) s1 := by
    intro H hH hS
    have hok : HOk P w H s1.heap := by
      intro b u e
      rcases hH b with z | ⟨rfl, _, z⟩
      · rw [e] at z; cases z
      · rw [e] at z; cases z
        exact ⟨ha, by rw [List.length_map]; exact hl, vs, _, rv, ha⟩
    have nsH : ∀ {b : Addr} {m : Str → Option Value}, s1.heap.Ns b m → (hidT s1.heap H).Ns b m := by
      rintro b m ⟨o, es, ep, e, d, r⟩
      refine ⟨o, es, ep, hidT_get e ?_, d, r⟩
      rcases hH b with z | ⟨rfl, _, z⟩
      · exact z
      · rw [ha] at e; cases e; cases (show Data.seq vs.toArray _ = Data.dict es ep from d)
    have kB : K.In (hidT s1.heap H) := by
      intro b o e
      refine hidT_get (KX b o e) ?_
      rcases hH b with z | ⟨rfl, n, z⟩
      · exact z
      · rw [n] at e; cases e
    obtain ⟨mc, l1, l2⟩ := hlim
    have e0 : Env0 P w K mg (hidT s1.heap H) callerA [] s1 H :=
      ⟨rfl, ⟨kB, nsH hns, ⟨mb, nsH hbn, hbb⟩, ⟨mc, nsH l1, l2⟩⟩, fun b o e => of_hidT e, by rw [hidT_size]; exact Nat.le_refl _, trivial, fun b hb => (nomatch hb), hok, .of_eq hg⟩
    have hO : Only H := by
      intro b
      rcases hH b with z | ⟨_, _, z⟩
      · exact .inl z
      · exact .inr ⟨_, _, z⟩
    refine codeAny_mono ((F _ kB (nsH hns)).go callerA [] s1 H ⟨[.ref a], []⟩ [.ref a] [.ref a] _ _ rfl hr e0 (hbind s1 (.ref a)) (.cons rfl .nil) (hsp H hO hS)) ?_
    intro r s' h
    match r, h with
    | .error e, h => exact (hCX H e s' h).elim
    | .ok (.ret u), h =>
      obtain ⟨v, H', os, bare, un, hok', r', q⟩ := h
      subst q
      cases r'
      refine ⟨rfl, OldK.of_keep ?_, os, bare⟩
      intro b o e
      rcases hH b with z | ⟨rfl, _, z⟩
      · exact un.keep b o e z (fun hm => nomatch hm) (fun hm => nomatch hm)
      · have z2 := un.frzs _ _ _ z
        have y := (hok' _ _ z2).1
        rw [ha] at e; cases e
        exact y
    | .ok .next, h => exact h.elim
    | .ok .brk, h => exact h.elim
    | .ok .cont, h => exact h.elim
  cases hk : K.lookup a with
  | some o =>
    have e := KX a o hk
    rw [ha] at e
    cases e
    exact main (fun _ => none) (fun _ => .inl rfl) (.inr ⟨_, vs.toArray, _, hk, rfl, rfl, rfl, by rw [List.size_toArray, hi.length]; exact hl, rv⟩)
  | none =>
    refine main (fun b => if b = a then some (.frz ob (.lst (ns.map V.int))) else none) (fun b => ?_) (.inl (.inr ⟨ob, if_pos rfl⟩))
    by_cases hb : b = a
    · exact .inr ⟨hb, hk, if_pos hb⟩
    · exact .inl (if_neg hb)
theorem walk_G {l : PySem.W.OpenLaw} {n k : Nat} {q : Program} {loose : List Str} {XP : (Str → Option Value) → Heap → Prop} {YP : World → Heap → Prop} {d : DefRec} {CX : World → CXT} {x : Str}
    (hn : l.most = some n) (hn2 : n ≤ sizeLine) (hdf : d.params.defaults = []) (hr : Room k callerA)
    (F : ∀ (w : World) (mg : Str → Option Value) (fa : Addr) (h : Heap), YP w h → h.Ns mainGlobals mg → mg d.name = some (.ref fa) →
      ∃ (K : PySem.W.Frag) (fd : FuncData) (sp : Sp), K.In h ∧ (∀ (s : Shared) (u : Value), BindsTo s fd ⟨[u], []⟩ [(x, u)]) ∧
        (∀ (H : Hp) (a : Addr) (ns : List Int), ns.length ≤ n → Only H → SqL K H a (ns.map V.int) → sp [.ref a] H (fun v _ => v = .bl true) fun _ _ _ => False) ∧
        ∀ base : Heap, K.In base → base.Ns mainGlobals mg → FnG l.prog w K mg base (CX w) k fa fd [x] sp)
    (hCX : ∀ (w : World) (H : Hp) (s : Shared) (e : Value) (s' : Shared), CX w [] H s (fun _ _ _ => False) e s' → False) :
    PySem.W.WalkO q loose XP YP l.row.toRowW d [] (fun f vs => PySem.call f vs) := by
  refine Att.attach_call hn hdf ?_
  intro w s0 s1 mg mb fa o pm cd doc a vs ns G Y ho hd hcd hmg hobj hints hlen hg
  obtain ⟨K, fd, sp, KX, hb, hsp, hF⟩ := F w mg fa _ Y G.T.g hmg
  exact end_G KX G.T.g G.T.b G.T.builtins G.T.nolimit hg hobj hints (Nat.le_trans hlen hn2) hr hF hb
    (fun H hO hS => hsp H a ns hlen hO hS) (fun H e s' => hCX w H s1 e s')
/-! ### a head's facts with one more Bool -/
open He in
abbrev AlM : Type := AlD × Bool
open He in
def obsM (n : Nat) (fa : List Fa) (fn : List DefD) (ex : PySem.W.Frag → Bool) (g : Addr → Option Obj) : AlM := (obsD fa fn (frG g (asD g n)), ex (frG g (asD g n)))
open He in
def hookM (n : Nat) (fa : List Fa) (fn : List DefD) (ex : PySem.W.Frag → Bool) : PySem.W.Hook where
  α := AlM
  obs := fun s => obsM n fa fn ex s.heap.get?
  val := fun _ => (valD fn, true)
  says := fun _ h => ∃ K : PySem.W.Frag, K.In h ∧ SaysD fa fn K ∧ ex K = true
  of := fun _ _ e => ⟨_, frG_in, congrArg Prod.fst e, congrArg Prod.snd e⟩
  keeps := fun _ _ _ ⟨K, hK, c⟩ k => ⟨K, PySem.W.Frag.In.keeps hK k, c⟩
open He in
theorem obsM_eq {n : Nat} {fa : List Fa} {fn : List DefD} {ex : PySem.W.Frag → Bool} {g : Addr → Option Obj} {s : Shared} (h : ∀ a, g a = s.heap.get? a) : obsM n fa fn ex g = (hookM n fa fn ex).obs s := by
  obtain rfl : g = s.heap.get? := funext h
  rfl
end Ga

set_option Elab.async false
set_option linter.all false
set_option maxRecDepth 100000
set_option maxHeartbeats 2000000
/-! readings, written out where they are applied -/
namespace Rd
open PySem PySem.Spec PyProof.Rows L2
section
variable {σ : L2.St} {H : Hp} {Q : VK} {D : Ends} {ta tb tc te to ti : TE} {r r' : R2} {t u : TS} {tt tu : TT} {QB : Bool → Hp → Prop} {QL : List V → Hp → Prop} {TA1 TA2 : TA} {K : PySem.W.Frag} {QS : L2.St → Hp → Prop}
theorem tVar_ {i : Nat} : tVar i σ H Q = ∃ v, σ[i]? = some (some v) ∧ Q v H := rfl
theorem tC_ {v : V} : tC v σ H Q = Q v H := rfl
theorem tOp_ : tOp r ta tb σ H Q = ta σ H fun x H1 => tb σ H1 fun y H2 => r x y H2 Q := rfl
theorem tUn_ {f : V → Hp → VK → Prop} : tUn f ta σ H Q = ta σ H fun x H1 => f x H1 Q := rfl
theorem rI_ {C : Int → Int → Prop} {g : Int → Int → V} {x y : V} : rI C g x y H Q = ∃ i j, x = .int i ∧ y = .int j ∧ C i j ∧ Q (g i j) H := rfl
theorem rI0_ {g : Int → Int → V} {x y : V} : rI0 g x y H Q = ∃ i j, x = .int i ∧ y = .int j ∧ Q (g i j) H := rfl
theorem rU_ {g : Int → V} {x : V} : rU g x H Q = ∃ i, x = .int i ∧ Q (g i) H := rfl
theorem rEq_ {x y : V} : rEq x y H Q = (scal x y = true ∧ Q (.bl (decide (x = y))) H) := rfl
theorem rNe_ {x y : V} : rNe x y H Q = (scal x y = true ∧ Q (.bl (!decide (x = y))) H) := rfl
theorem tAndV_ : tAndV ta tb σ H Q = ta σ H fun x H1 => ∃ c, x = .bl c ∧ if c = true then tb σ H1 Q else Q (.bl false) H1 := rfl
theorem tOrV_ : tOrV ta tb σ H Q = ta σ H fun x H1 => ∃ c, x = .bl c ∧ if c = true then Q (.bl true) H1 else tb σ H1 Q := rfl
theorem tNotV_ : tNotV ta σ H Q = ta σ H fun x H1 => ∃ c, x = .bl c ∧ Q (.bl (!c)) H1 := rfl
theorem tIf_ : tIf tt ta tb σ H Q = tt σ H fun c H1 => if c = true then ta σ H1 Q else tb σ H1 Q := rfl
theorem tTest_ : tTest ta σ H QB = ta σ H fun x H' => ∃ k, x = .bl k ∧ QB k H' := rfl
theorem tB_ : tB ta σ H QB = ta σ H fun x H1 => ∃ c, x = .bl c ∧ QB c H1 := rfl
theorem tAnd_ : tAnd tt tu σ H QB = tt σ H fun c H1 => if c = true then tu σ H1 QB else QB false H1 := rfl
theorem tOr_ : tOr tt tu σ H QB = tt σ H fun c H1 => if c = true then QB true H1 else tu σ H1 QB := rfl
theorem tNot_ : tNot tt σ H QB = tt σ H fun c H1 => QB (!c) H1 := rfl
theorem tChain_ : tChain r r' ta tb tc σ H Q = ta σ H fun x H1 => tb σ H1 fun y H2 => r x y H2 fun z H3 => ∃ k, z = .bl k ∧ (if k = true then tc σ H3 fun w' H4 => r' y w' H4 Q else Q (.bl false) H3) := rfl
theorem tNil_ : tNil σ H QL = QL [] H := rfl
theorem tCons_ : tCons ta TA1 σ H QL = ta σ H fun x H1 => TA1 σ H1 fun xs H2 => QL (x :: xs) H2 := rfl
theorem tTup_ : tTup TA1 σ H Q = TA1 σ H fun xs H1 => xs.length ≤ sizeLine ∧ ∀ p, H1 p = none → Q (.ref p) (upd H1 p (.tup xs)) := rfl
theorem tLst_ : tLst TA1 σ H Q = TA1 σ H fun xs H1 => xs.length ≤ sizeLine ∧ ∀ p, H1 p = none → Q (.ref p) (upd H1 p (.lst xs)) := rfl
theorem tCB_ {f : List V → Hp → VK → Prop} : tCB f TA1 σ H Q = TA1 σ H fun vs H1 => f vs H1 Q := rfl
theorem tCall_ {sp : Sp} {dvs : List V} {E : XK} : tCall sp dvs E TA1 σ H Q = TA1 σ H fun vs H1 => sp (vs ++ dvs) H1 Q E := rfl
theorem tSeq_ : tSeq t u D σ H = t { D with nx := u D } σ H := rfl
theorem tNext_ : tNext D σ H = D.nx σ H := rfl
theorem tRet_ : tRet ta D σ H = ta σ H D.rt := rfl
theorem tRetN_ : tRetN D σ H = D.rt .non H := rfl
theorem tDrop_ : tDrop ta D σ H = ta σ H fun _ H1 => D.nx σ H1 := rfl
theorem tNever_ : tNever D σ H = False := rfl
theorem tBreak_ : tBreak D σ H = D.bk σ H := rfl
theorem tIfS_ : tIfS tt t u D σ H = tt σ H fun b H1 => if b = true then t D σ H1 else u D σ H1 := rfl
theorem tAsg_ {g : TG} : tAsg ta g D σ H = ta σ H fun x H1 => g x σ H1 D.nx := rfl
theorem gName_ {i : Nat} {v : V} : gName i v σ H QS = QS (σ.set i (some v)) H := rfl
theorem gTup_ {n : Nat} {g : TGs} {v : V} : gTup K n g v σ H QS = ∃ a xs, v = .ref a ∧ SqT K H a xs ∧ xs.length = n ∧ g xs σ H QS := rfl
theorem gCons_ {g : TG} {gs : TGs} {vs : List V} : gCons g gs vs σ H QS = ∃ v r, vs = v :: r ∧ g v σ H fun σ' H' => gs r σ' H' QS := rfl
theorem gNil_ {vs : List V} : gNil vs σ H QS = (vs = [] ∧ QS σ H) := rfl
theorem gSub_ {s : TSet} {v : V} : gSub to ti s v σ H QS = to σ H fun o H1 => ti σ H1 fun i H2 => s o i v H2 fun H3 => QS σ H3 := rfl
theorem tPar_ {i j : Nat} : tPar i j TA1 D σ H = TA1 σ H fun vs H1 => ∃ v w, vs = [v, w] ∧ D.nx ((σ.set i (some v)).set j (some w)) H1 := rfl
theorem tPar3_ {i j l : Nat} : tPar3 i j l TA1 D σ H = TA1 σ H fun vs H1 => ∃ u v w, vs = [u, v, w] ∧ D.nx (((σ.set i (some u)).set j (some v)).set l (some w)) H1 := rfl
theorem tSl_ {f : V → Option Int → Option Int → Hp → VK → Prop} {tl th : TO} : tSl f te tl th σ H Q = te σ H fun x H1 => tl σ H1 fun l H2 => th σ H2 fun u H3 => f x l u H3 Q := rfl
theorem tNoPart_ {Q : Option Int → Hp → Prop} : tNoPart σ H Q = Q none H := rfl
theorem tPart_ {Q : Option Int → Hp → Prop} : tPart ta σ H Q = ta σ H fun x H1 => ∃ i, x = .int i ∧ Q (some i) H1 := rfl
theorem tBM_ {T : String} {f : V → List V → Hp → VK → Prop} : tBM K T f to TA1 σ H Q = to σ H fun x H1 => tyV K T x H1 ∧ TA1 σ H1 fun xs H2 => f x xs H2 Q := rfl
theorem tDNewK_ : tDNewK σ H Q = ∀ p, H p = none → Q (.ref p) (upd H p (.dK [])) := rfl
theorem tFor_range1 {g : TG} {tb : TS} : tFor (iRng1 TA1) g tb D σ H = TA1 σ H fun vs H1 => ∃ j : Int, vs = [.int j] ∧ -(2 ^ 62) ≤ j ∧ j < 2 ^ 62 ∧ tFor (fun _ H R => R (Itr 0 j.toNat) H) g tb D σ H1 := rfl
theorem tFor_range2 {g : TG} {tb : TS} : tFor (iRng2 TA1) g tb D σ H = TA1 σ H fun vs H1 => ∃ i j : Int, vs = [.int i, .int j] ∧ (-(2 ^ 62) ≤ i ∧ i < 2 ^ 62 ∧ -(2 ^ 62) ≤ j ∧ j < 2 ^ 62) ∧ tFor (fun _ H R => R (Itr i (j - i).toNat) H) g tb D σ H1 := rfl
theorem tFor_list {g : TG} {tb : TS} : tFor (iList K ta) g tb D σ H = ta σ H fun x H1 => ∃ a, x = .ref a ∧ (∃ xs, SqL K H1 a xs) ∧ tFor (fun _ H R => R (Itl K a) H) g tb D σ H1 := rfl
theorem tFor_tup {g : TG} {tb : TS} : tFor (iTup K ta) g tb D σ H = ta σ H fun x H1 => ∃ a, x = .ref a ∧ (∃ xs, SqT K H1 a xs) ∧ tFor (fun _ H R => R (Itt K a) H) g tb D σ H1 := rfl
end
/-- a for over a range, by an invariant -/
theorem for_r {lo : Int} {n : Nat} {g : TG} {tb : TS} {D : Ends} {σ : L2.St} {H : Hp} (Pv : Nat → L2.St → Hp → Prop) (h0 : Pv 0 σ H)
    (hs : ∀ i σ H, i < n → Pv i σ H → g (.int (lo + i)) σ H fun σ2 H2 => tb { D with nx := Pv (i + 1), ct := Pv (i + 1), bk := D.nx } σ2 H2) (hd : ∀ σ H, Pv n σ H → D.nx σ H) :
    tFor (fun _ H R => R (Itr lo n) H) g tb D σ H := for_range Pv h0 hs hd
theorem for_l {K : PySem.W.Frag} {a : Addr} {xs : List V} {g : TG} {tb : TS} {D : Ends} {σ : L2.St} {H : Hp} (Pv : Nat → L2.St → Hp → Prop) (h0 : Pv 0 σ H) (hl : ∀ i σ H, i ≤ xs.length → Pv i σ H → SqL K H a xs)
    (hs : ∀ i x σ H, xs[i]? = some x → Pv i σ H → g x σ H fun σ2 H2 => tb { D with nx := Pv (i + 1), ct := Pv (i + 1), bk := D.nx } σ2 H2) (hd : ∀ σ H, Pv xs.length σ H → D.nx σ H) :
    tFor (fun _ H R => R (Itl K a) H) g tb D σ H := for_list Pv h0 hl hs hd
/-- all but u stands as it stood -/
def But (u : Addr) (H H' : Hp) : Prop := ∀ b o, b ≠ u → H b = some o → H' b = some o
theorem But.refl {u : Addr} {H : Hp} : But u H H := fun _ _ _ e => e
theorem But.trans {u : Addr} {H H1 H2 : Hp} (a : But u H H1) (b : But u H1 H2) : But u H H2 := fun c o n e => b c o n (a c o n e)
theorem But.same {u : Addr} {H H1 : Hp} (a : Same H H1) : But u H H1 := fun c o _ e => a c o e
theorem same_new {H : Hp} {p : Addr} {o : HO} (n : H p = none) : Same H (upd H p o) := fun b u e => by rw [upd_ne (ne_of_none e n)]; exact e
theorem But.put {u : Addr} {H : Hp} {o : HO} : But u H (upd H u o) := fun b _ n e => by rw [upd_ne n]; exact e
theorem some_or {H : Hp} {a b : Addr} {o : HO} (h : H a = some o) (n : H b = none) : a ≠ b := ne_of_none h n
/-- the callee as its callers know it -/
structure Cal (P : Program) (w : World) (K : PySem.W.Frag) (mg : Str → Option Value) (base : Heap) (CX : CXT) (k : Nat) (x : Str) (ps : List Str) (sp : Sp) (f : Addr) (fd : FuncData) : Prop where
  g : mg x = some (.ref f)
  kp : PySem.W.keepIn K (.ref f) = true
  b : Binds K fd ps []
  F : FnOk P w K mg base CX k f fd ps sp
structure CalG (P : Program) (w : World) (K : PySem.W.Frag) (mg : Str → Option Value) (base : Heap) (CX : CXT) (k : Nat) (x : Str) (ps : List Str) (sp : Sp) (f : Addr) (fd : FuncData) : Prop where
  g : mg x = some (.ref f)
  kp : PySem.W.keepIn K (.ref f) = true
  b : Binds K fd ps []
  F : Ga.FnG P w K mg base CX k f fd ps sp
/-! ### an own error with one field -/
structure Er (K : PySem.W.Frag) (mg : Str → Option Value) (x n : Str) (C fI : Addr) (fdI : FuncData) : Prop where
  gC : mg x = some (.ref C)
  oex : OexC K C
  noN : PySem.W.findIn K (.ref C) n = some none
  iC : PySem.W.findIn K (.ref C) "__init__" = some (some (.ref fI))
  tI : PySem.W.typeIn K (.ref fI) = some (.type "function")
  dn : (n == ("__debug__" : Str)) = false
  dc : (n == ("__classdict__" : Str)) = false
  F : ∃ (qual : Str) (params : Arguments) (scope : Scope) (q1 q2 q3 q4 : Pos), FunD K "__init__" qual params [.Assign [.Attribute (.Name "self" q1) n q2] (.Name n q3) q4] scope [] [] fI fdI ∧ FnScope ["self", n] ["self", n] scope
  b : Binds K fdI ["self", n] []
section
variable {P : Program} {w : World} {K : PySem.W.Frag} {mg : Str → Option Value} {base : Heap} {x n : Str} {C fI : Addr} {fdI : FuncData}
def spInitE (K : PySem.W.Frag) (n : Str) (C : Addr) : Sp := fun vs H Q _ => ∃ (a : Addr) (v : V), vs = [.ref a, v] ∧ H a = some (exo a C none) ∧ ∀ dx, H dx = none → dx ≠ a → Q .non (upd (upd H dx (exd dx [(n, v)])) a (exo a C (some dx)))
theorem ok_initE (R : Er K mg x n C fI fdI) : FnOk P w K mg base CX0 1 fI fdI ["self", n] (spInitE K n C) := by
  obtain ⟨qual, params, scope, q1, q2, q3, q4, F, S⟩ := R.F
  refine F.ok S (fun vs H Q E h => ?_) (fun cdv A outer s H vs Q E hr h => ?_)
  · obtain ⟨a, v, rfl, _⟩ := h
    rfl
  · obtain ⟨a, v, rfl, ha, k⟩ := h
    have vis : ∀ y ∈ (["self", n] : List Str), scope.names.lookup y = some .local ∨ scope.names.lookup y = some .cell ∨ scope.names.lookup y = some .free := fun y hy => (S.par y hy).elim .inl fun z => .inr (.inl z)
    refine ⟨_, pss_one (ps_ost (pe_var (i := 0) rfl (vis _ (by simp))) (pe_var (i := 1) rfl (vis _ (by simp)) R.dn R.dc)), ?_⟩
    exact ⟨_, rfl, _, rfl, a, C, rfl, R.oex, R.noN, .inl ⟨ha, fun dx h1 h2 => k dx h1 h2⟩⟩
end
/-- raise X(e) -/
def tRaise (C : Addr) (n : Str) (W : WX) (te : TE) : TS := fun _ σ H => te σ H fun x H1 => ∀ d, H1 d = none → W (.ref C) (some d) σ (upd H1 d (.xd [(n, x)]))
theorem tRaise_ {C : Addr} {n : Str} {W : WX} {te : TE} {D : Ends} {σ : L2.St} {H : Hp} : tRaise C n W te D σ H = te σ H fun x H1 => ∀ d, H1 d = none → W (.ref C) (some d) σ (upd H1 d (.xd [(n, x)])) := rfl
theorem tCallS_ {sp : Sp} {E : L2.St → XK} {t : TA} {σ : L2.St} {H : Hp} {Q : VK} : tCallS sp E t σ H Q = t σ H fun vs H1 => sp vs H1 Q (E σ) := rfl
theorem mono_var {i : Nat} : ∀ σ H Q Q', (∀ x H1, Q x H1 → Q' x H1) → tVar i σ H Q → tVar i σ H Q' := fun _ _ _ _ f ⟨v, e, q⟩ => ⟨v, e, f _ _ q⟩
theorem ps_raiseE {X : Cx} {x n : Str} {C fI : Addr} {fdI : FuncData} {W : WX} {a : Expr} {te : TE} {p pos pos2 : Pos} {k : Nat} (hc : X.calm = true) (R : Er X.K X.mg x n C fI fdI) (hr : Room (k + 2) X.A) (tk : Takes X W) (ha : PE X a te)
    (mono : ∀ σ H Q Q', (∀ x H1, Q x H1 → Q' x H1) → te σ H Q → te σ H Q')
    (hg : Gl X x := by rfl) (hd : (x == ("__debug__" : Str)) = false := by decide) (he : starEach (a :: []) X.env = (false, eval a X.env) :: starEach [] X.env := by rfl) (hpl : (backTo pos (starEach [] X.env)).any (·.1) = false := by rfl) :
    PS X (.Raise (some (.Call (.Name x p) [a] [] pos)) none pos2) (tRaise C n W te) := by
  have G : FnOk X.prog X.w X.K X.mg X.base CX0 1 fI fdI ["self", n] (spInitE X.K n C) := ok_initE R
  have h := ps_raise (pos := pos2) hc tk (pmk_oex (p := p) (pos := pos) R.oex R.iC R.tI G (hr.mono (by omega)) R.b .nil (fun _ _ _ _ _ _ _ z => z.elim) hg R.gC (pa_cons ha pa_nil he) hd he hpl)
  refine ⟨fun pins s σ H D I q => h.run pins s σ H D I ?_⟩
  refine mono σ H _ _ (fun x H1 q1 => ?_) q
  refine ⟨by show 1 ≤ 1000; decide, fun b hb => ⟨b, x, rfl, upd_same, fun dx h1 h2 => ⟨rfl, dx, [(n, x)], upd_same, ?_, ?_, ?_⟩⟩⟩
  · rw [upd_ne h2, upd_same]
  · rw [upd_ne h2] at h1; exact h1
  · have h3 : H1 dx = none := by rw [upd_ne h2] at h1; exact h1
    have e : upd (del (upd (upd (upd H1 b (exo b C none)) dx (exd dx [(n, x)])) b (exo b C (some dx))) b) dx (.xd [(n, x)]) = upd H1 dx (.xd [(n, x)]) := by
      funext c
      by_cases c1 : c = dx
      · rw [c1, upd_same, upd_same]
      · rw [upd_ne c1, upd_ne c1]
        by_cases c2 : c = b
        · rw [c2, del_same, hb]
        · rw [del_ne c2, upd_ne c2, upd_ne c1, upd_ne c2]
    rw [e]
    exact q1 dx h3
/-- plain values that the checks here meet: ints, bools, None, texts, the empty tuple -/
inductive Smp (H : Hp) : V → Prop
  | non : Smp H .non
  | bl (b : Bool) : Smp H (.bl b)
  | int (i : Int) : Smp H (.int i)
  | str (x : Str) : Smp H (.str x)
  | tup {a : Addr} (h : H a = some (.tup [])) : Smp H (.ref a)
theorem Smp.up {H H' : Hp} {v : V} (h : Smp H v) (s : ∀ a, H a = some (.tup []) → H' a = some (.tup [])) : Smp H' v := by
  cases h with
  | non => exact .non
  | bl b => exact .bl b
  | int i => exact .int i
  | str x => exact .str x
  | tup h => exact .tup (s _ h)
def wholeB : V → Bool
  | .int _ => true
  | _ => false
def iv : V → Int
  | .int i => i
  | _ => 0
def btw (x : V) (lo hi : Int) : Bool := wholeB x && (decide (lo ≤ iv x) && decide (iv x ≤ hi))
theorem btw_int {i lo hi : Int} : btw (.int i) lo hi = (decide (lo ≤ i) && decide (i ≤ hi)) := by unfold btw; rfl
theorem btw_int' {i lo hi : Int} (h1 : lo ≤ i) (h2 : i ≤ hi) : btw (.int i) lo hi = true := by rw [btw_int, decide_eq_true h1, decide_eq_true h2]; rfl
theorem btw_of {x : V} {lo hi : Int} (h : btw x lo hi = true) : ∃ i, x = .int i ∧ lo ≤ i ∧ i ≤ hi := by
  cases x with
  | int i =>
    rw [btw_int, Bool.and_eq_true] at h
    exact ⟨i, rfl, of_decide_eq_true h.1, of_decide_eq_true h.2⟩
  | _ => cases h
/-! ### f(k = v, ..) -/
def tCallK (sp : Sp) (gV : List V → List V) (m : Nat) (E : XK) (tk : TA) : TE := fun σ H Q => tk σ H fun zs H1 => zs.length = m ∧ sp (gV zs) H1 Q E
theorem tCallK_ {sp : Sp} {gV : List V → List V} {m : Nat} {E : XK} {tk : TA} {σ : L2.St} {H : Hp} {Q : VK} : tCallK sp gV m E tk σ H Q = tk σ H fun zs H1 => zs.length = m ∧ sp (gV zs) H1 Q E := rfl
section
variable {X : Cx} {CX : CXT} {k : Nat} {f : Addr} {fd : FuncData} {ps ks : List Str} {sp : Sp} {E : XK} {x : Str} {p pos : Pos} {kws : List Keyword} {tk : TA} {g : List Value → List Value} {gV : List V → List V}
theorem pe_callKw (F : FnOk X.prog X.w X.K X.mg X.base CX k f fd ps sp) (hr : Room k X.A) (hg : Gl X x) (hm : X.mg x = some (.ref f)) (hk : PySem.W.keepIn X.K (.ref f) = true)
    (hb : KBn X.K fd ps 0 ks (fun _ ws => g ws) (fun _ zs => gV zs)) (hx : Passes CX X E) (hkw : PK X kws tk)
    (hall : (backToKw pos (keywordEach kws X.env)).all (·.1.isSome) = true := by rfl) (hks : (backToKw pos (keywordEach kws X.env)).filterMap (·.1) = ks := by rfl)
    (hdb : (x == ("__debug__" : Str)) = false := by decide)
    (hpl : ((backTo pos (starEach [] X.env)).any (·.1) || (backToKw pos (keywordEach kws X.env)).any (·.1.isNone)) = false := by rfl) :
    PE X (.Call (.Name x p) [] kws pos) (tCallK sp gV ks.length E tk) := by
  constructor
  intro pins s σ H Q I h
  refine wpAny_Call_Name_kw (ld_glob I hg hm ?_ hdb)
  refine PySem.W.callWith_KW0 (h₀ := X.base) I.ok.mod.kin hk hall ?_ hpl
  refine thn (hkw.run pos pins s σ H _ I h) ?_
  rintro ws s2 ⟨zs, H2, I2, rz, l2, q2⟩
  refine ⟨I2.kIn, ?_⟩
  rw [hks]
  exact run_fnN (us := []) (vs := []) F hr hb hx I2 .nil rz rfl l2 q2
end
theorem kbn0 {K : PySem.W.Frag} {x qual : Str} {params : Arguments} {body : List Stmt} {scope : Scope} {f : Addr} {fd : FuncData} {ps : List Str} (F : FunD K x qual params body scope [] [] f fd) (ks : List Str) (g : {α : Type} → List α → List α)
    (hrel : ∀ {vs : List V} {us : List Value}, Vals vs us → Vals (g vs) (g us))
    (h : ∀ (kV doc pm : Value) (an : Option Addr) (cdv ct : Value) (ws : List Value), ws.length = ks.length → bindArgs (PySem.W.fnOf x qual params body scope .none kV doc pm an cdv ct) ⟨[], ks.zip ws⟩ = pure (ps.zip (g ws))) :
    KBn K fd ps 0 ks (fun _ ws => g ws) (fun _ zs => g zs) := by
  obtain ⟨oc, od, dV, kV, doc, pm, an, cdv, ct, sl, e, lk, hcd, hD, hK⟩ := F.ex
  rcases hD with ⟨_, e2⟩ | ⟨z, _⟩
  · subst e2 e
    refine ⟨fun s us ws X l1 l2 => ?_, fun _ r => hrel r⟩
    obtain rfl : us = [] := List.eq_nil_of_length_eq_zero l1
    exact .of_eq (h kV doc pm an cdv ct ws l2)
  · exact absurd rfl z
theorem gUnl_ {K : PySem.W.Frag} {n : Nat} {g : TGs} {v : V} {σ : L2.St} {H : Hp} {QS : L2.St → Hp → Prop} : gUnl K n g v σ H QS = ∃ a xs, v = .ref a ∧ SqL K H a xs ∧ xs.length = n ∧ g xs σ H QS := rfl
theorem sIx_none {n d : Nat} : HT.sIx n d none = d := rfl
/-- one statement at a time -/
theorem sq {t u : TS} {D : Ends} {σ : L2.St} {H : Hp} (h : ∀ U : L2.St → Hp → Prop, (∀ σ' H', u D σ' H' → U σ' H') → t { D with nx := U } σ H) : tSeq t u D σ H := h (u D) fun _ _ x => x
theorem ite2n {a b A B : Prop} [Decidable a] [Decidable b] (h : ¬ (a ∧ b)) (hB : B) : if a then (if b then A else B) else B := by
  by_cases ha : a
  · rw [if_pos ha, if_neg (fun hb => h ⟨ha, hb⟩)]; exact hB
  · rw [if_neg ha]; exact hB
section
variable {H : Hp} {Q : VK} {i j : Int} {a b : Str} {c e : Bool}
theorem eq_ii : rEq (.int i) (.int j) H Q = Q (.bl (decide (i = j))) H := by
  have h : decide (V.int i = V.int j) = decide (i = j) := by simp
  show (_ ∧ Q (.bl (decide (V.int i = V.int j))) H) = _
  rw [h]; simp [scal]
theorem ne_ii : rNe (.int i) (.int j) H Q = Q (.bl (!decide (i = j))) H := by
  have h : decide (V.int i = V.int j) = decide (i = j) := by simp
  show (_ ∧ Q (.bl (!decide (V.int i = V.int j))) H) = _
  rw [h]; simp [scal]
theorem eq_ss : rEq (.str a) (.str b) H Q = Q (.bl (decide (a = b))) H := by
  have h : decide (V.str a = V.str b) = decide (a = b) := by simp
  show (_ ∧ Q (.bl (decide (V.str a = V.str b))) H) = _
  rw [h]; simp [scal]
theorem ne_ss : rNe (.str a) (.str b) H Q = Q (.bl (!decide (a = b))) H := by
  have h : decide (V.str a = V.str b) = decide (a = b) := by simp
  show (_ ∧ Q (.bl (!decide (V.str a = V.str b))) H) = _
  rw [h]; simp [scal]
theorem eq_bb : rEq (.bl c) (.bl e) H Q = Q (.bl (decide (c = e))) H := by
  have h : decide (V.bl c = V.bl e) = decide (c = e) := by simp
  show (_ ∧ Q (.bl (decide (V.bl c = V.bl e))) H) = _
  rw [h]; simp [scal]
theorem ne_bb : rNe (.bl c) (.bl e) H Q = Q (.bl (!decide (c = e))) H := by
  have h : decide (V.bl c = V.bl e) = decide (c = e) := by simp
  show (_ ∧ Q (.bl (!decide (V.bl c = V.bl e))) H) = _
  rw [h]; simp [scal]
end
theorem rGcd_ {vs : List V} {H : Hp} {Q : VK} : rGcd vs H Q = ∃ a b : Int, vs = [.int a, .int b] ∧ Q (.int ((Nat.gcd a.natAbs b.natAbs : Nat) : Int)) H := rfl
theorem max_if {a b : Int} : (if b > a then b else a) = max a b := by
  by_cases h : b > a
  · rw [if_pos h]; omega
  · rw [if_neg h]; omega
section
variable {K : PySem.W.Frag} {H : Hp} {Q : VK} {x y : V}
theorem rIxL_ : rIxL K x y H Q = ∃ p xs i v, x = .ref p ∧ y = .int i ∧ SqL K H p xs ∧ atI xs i = some v ∧ Q v H := rfl
theorem rIxT_ : rIxT K x y H Q = ∃ p xs i v, x = .ref p ∧ y = .int i ∧ SqT K H p xs ∧ atI xs i = some v ∧ Q v H := rfl
theorem rSlL_ {lo hi : Option Int} : rSlL K x lo hi H Q = ∃ a xs, x = .ref a ∧ SqL K H a xs ∧ ∀ p, H p = none → Q (.ref p) (upd H p (.lst (cutV xs lo hi))) := rfl
theorem rCat_ : rCat x y H Q = ∃ l b xs zs, x = .ref l ∧ y = .ref b ∧ H l = some (.lst xs) ∧ H b = some (.lst zs) ∧ xs.length + zs.length ≤ sizeLine ∧ ∀ p, H p = none → Q (.ref p) (upd H p (.lst (xs ++ zs))) := rfl
theorem rSetL_ {o i v : V} {Q : Hp → Prop} : rSetL o i v H Q = ∃ p xs k j, o = .ref p ∧ i = .int k ∧ H p = some (.lst xs) ∧ ixN xs.length k = some j ∧ Q (upd H p (.lst (xs.set j v))) := rfl
theorem atI_nn {α : Type} {xs : List α} {i : Int} {v : α} (h0 : 0 ≤ i) (h : xs[i.toNat]? = some v) : atI xs i = some v := by
  have hl : i.toNat < xs.length := (List.getElem?_eq_some_iff.mp h).1
  unfold atI ixN
  rw [if_pos h0, if_pos (by omega)]
  exact h
end
theorem rRep_ {x y : V} {H : Hp} {Q : VK} : rRep x y H Q = ∃ l k xs, x = .ref l ∧ y = .int k ∧ H l = some (.lst xs) ∧ -(2 ^ 63) ≤ k ∧ k < 2 ^ 63 ∧ xs.length * k.toNat ≤ sizeLine ∧ ∀ p, H p = none → Q (.ref p) (upd H p (.lst (List.replicate k.toNat xs).flatten)) := rfl
end Rd

set_option Elab.async false
set_option linter.all false
set_option maxRecDepth 100000
set_option maxHeartbeats 2000000
/-! data: what is compared and shown -/
namespace Dt
open PySem PySem.Spec PyProof.Rows L2 Rd
/-- data of a bounded text -/
structure Fit (d : PyData) (k n : Nat) : Prop where
  s : d.showable = true
  h : d.hasDict = false
  dp : d.depth ≤ k
  sz : d.shown.length ≤ n
  c : d.canLay0 = true
theorem Fit.mono {d : PyData} {k n k' n' : Nat} (f : Fit d k n) (h1 : k ≤ k') (h2 : n ≤ n') : Fit d k' n' := ⟨f.s, f.h, Nat.le_trans f.dp h1, Nat.le_trans f.sz h2, f.c⟩
theorem Fit.non : Fit .none 0 5 := ⟨rfl, rfl, Nat.le_refl _, by show (PyData.shown .none).length ≤ 5; unfold PyData.shown; decide +kernel, rfl⟩
theorem Fit.bl (b : Bool) : Fit (.bool b) 0 5 := ⟨rfl, rfl, Nat.le_refl _, by unfold PyData.shown; cases b <;> decide +kernel, rfl⟩
theorem Fit.int {i : Int} {k : Nat} (h0 : 0 < k) (h9 : k ≤ 1919) (h : i.natAbs < 2 ^ k) : Fit (.int i) 0 (k + 1) := by
  have lg : i.natAbs.log2 < k := by
    by_cases z : i.natAbs = 0
    · rw [z]; show Nat.log2 0 < k; rw [Nat.log2_zero]; exact h0
    · exact (Nat.log2_lt z).mpr h
  refine ⟨?_, rfl, Nat.le_refl _, ?_, rfl⟩
  · show decide (i.natAbs.log2 < 1920) = true
    exact decide_eq_true (by omega)
  · have e : (PyData.shown (.int i)) = Str.ofString (toString i) := by unfold PyData.shown; rfl
    rw [e, PySem.ofString_length]
    exact int_text_length_le h0 lg
theorem sum_le {α : Type} (f : α → Nat) (n : Nat) : ∀ l : List α, (∀ x ∈ l, f x ≤ n) → (l.map f).sum ≤ l.length * n
  | [], _ => by simp
  | x :: l, h => by
    have h1 := h x List.mem_cons_self
    have h2 := sum_le f n l fun y hy => h y (List.mem_cons_of_mem _ hy)
    rw [List.map_cons, List.sum_cons, List.length_cons, Nat.add_mul, Nat.one_mul]
    omega
theorem fitAll {k n : Nat} : ∀ {ds : List PyData}, (∀ d ∈ ds, Fit d k n) → PyData.showableAll ds = true ∧ PyData.hasDictAll ds = false ∧ PyData.depthAll ds ≤ k ∧ (∀ t ∈ PyData.shownAll ds, t.length ≤ n) ∧ (PyData.shownAll ds).length = ds.length ∧ PyData.canLayAll0 ds = true
  | [], _ => ⟨rfl, rfl, Nat.zero_le _, fun t ht => (by rw [PyData.shownAll] at ht; cases ht), (by rw [PyData.shownAll]; rfl), rfl⟩
  | d :: ds, h => by
    have f := h d List.mem_cons_self
    obtain ⟨a, b, c, e, g, l⟩ := fitAll fun x hx => h x (List.mem_cons_of_mem _ hx)
    refine ⟨by rw [PyData.showableAll, f.s, a]; rfl, by rw [PyData.hasDictAll, f.h, b]; rfl, by rw [PyData.depthAll]; have := f.dp; omega, ?_, by rw [PyData.shownAll, List.length_cons, List.length_cons, g], by rw [PyData.canLayAll0, f.c, l]; rfl⟩
    intro t ht
    rw [PyData.shownAll] at ht
    rcases List.mem_cons.mp ht with z | z
    · rw [z]; exact f.sz
    · exact e t z
theorem Fit.list {ds : List PyData} {k n : Nat} (h : ∀ d ∈ ds, Fit d k n) : Fit (.list ds) (k + 1) (ds.length * (n + 2) + 3) := by
  obtain ⟨a, b, c, e, g, l⟩ := fitAll h
  refine ⟨by rw [PyData.showable, a], by rw [PyData.hasDict, b], by rw [PyData.depth]; omega, ?_, by rw [PyData.canLay0, l]⟩
  rw [PyData.shown]
  have h1 := listText_len_le (PyData.shownAll ds)
  have h2 := sum_le (·.length) n (PyData.shownAll ds) e
  rw [g] at h1 h2
  rw [Nat.mul_add]
  omega
theorem Fit.tuple {ds : List PyData} {k n : Nat} (h : ∀ d ∈ ds, Fit d k n) : Fit (.tuple ds) (k + 1) (ds.length * (n + 2) + 3) := by
  obtain ⟨a, b, c, e, g, l⟩ := fitAll h
  refine ⟨by rw [PyData.showable, a], by rw [PyData.hasDict, b], by rw [PyData.depth]; omega, ?_, by rw [PyData.canLay0, l]⟩
  rw [PyData.shown]
  have h1 := tupleText_len_le (PyData.shownAll ds)
  have h2 := sum_le (·.length) n (PyData.shownAll ds) e
  rw [g] at h1 h2
  rw [Nat.mul_add]
  omega
theorem Fit.str {x : Str} {n : Nat} (h : x.length ≤ n) (hc : ∀ c ∈ x.cps.toList, c < 0x110000) : Fit (.str x) 0 (10 * n + 2) := by
  have e : PyData.shown (.str x) = reprText x := by unfold PyData.shown; rfl
  refine ⟨rfl, rfl, Nat.le_refl _, ?_, ?_⟩
  · rw [e]
    have := StrLaws.reprText_len x fun c hc' => Nat.lt_trans (hc c hc') (by decide)
    omega
  · show x.cps.all (· < 0x110000) = true
    rw [← Array.all_toList, List.all_eq_true]
    intro c hc'
    exact decide_eq_true (hc c hc')
theorem Fit.shaped {d : PyData} {k n : Nat} (f : Fit d k n) (h : k ≤ 64) : SeqAt.shaped d = true := by
  have := f.dp
  show (d.canLay0 && decide (d.depth ≤ 64)) = true
  rw [f.c, decide_eq_true (show d.depth ≤ 64 by omega)]; rfl
/-- repr of such data -/
theorem rRepr_fit {K : PySem.W.Frag} {H : Hp} {Q : VK} {x : V} {d : PyData} {k n : Nat} (f : Fit d k n) (hk : k ≤ 50) (hn : n ≤ 1000000) (dd : Dp K H x d) (q : Q (.str d.shown) H) : Ga.rRepr K [x] H Q := by
  have := f.dp
  have := f.sz
  refine ⟨x, d, rfl, dd, f.s, f.h, by omega, Nat.le_trans (Nat.le_trans f.sz hn) (by rw [sizeLine_eq]; decide), ?_, q⟩
  intro i e
  have z := f.s
  rw [e] at z
  exact of_decide_eq_true z
theorem Dp.ints {K : PySem.W.Frag} {H : Hp} : ∀ (ns : List Int), DpAll K H (ns.map V.int) (ns.map PyData.int)
  | [] => .nil
  | n :: ns => .cons (.int n) (Dp.ints ns)
mutual
theorem Dp.up {K : PySem.W.Frag} {H H' : Hp} (hs : Same H H') : ∀ (d : PyData) (v : V), Dp K H v d → Dp K H' v d
  | .none, _, h => by cases h; exact .non
  | .bool b, _, h => by cases h; exact .bl b
  | .int b, _, h => by cases h; exact .int b
  | .str b, _, h => by cases h; exact .str b
  | .dict b, _, h => by cases h
  | .list ds, _, h => by
    cases h with
    | lst a b => exact .lst (hs.seq a) (DpAll.up hs ds _ b)
  | .tuple ds, _, h => by
    cases h with
    | tup a b =>
      refine .tup ?_ (DpAll.up hs ds _ b)
      rcases a with (a | ⟨o, a⟩) | a
      · exact .inl (.inl (hs _ _ a))
      · exact .inl (.inr ⟨o, hs _ _ a⟩)
      · exact .inr a
theorem DpAll.up {K : PySem.W.Frag} {H H' : Hp} (hs : Same H H') : ∀ (ds : List PyData) (vs : List V), DpAll K H vs ds → DpAll K H' vs ds
  | [], _, h => by cases h; exact .nil
  | d :: ds, _, h => by
    cases h with
    | cons a b => exact .cons (Dp.up hs d _ a) (DpAll.up hs ds _ b)
end
theorem eqv_ints : ∀ xs ys : List Int, PyData.eqvAll (xs.map .int) (ys.map .int) = decide (xs = ys)
  | [], [] => rfl
  | [], _ :: _ => by simp [PyData.eqvAll]
  | _ :: _, [] => by simp [PyData.eqvAll]
  | x :: xs, y :: ys => by
    rw [List.map_cons, List.map_cons, PyData.eqvAll, eqv_ints xs ys, PyData.eqv]
    by_cases h : x = y
    · subst h; simp
    · simp [h]
theorem eqv_listI (xs ys : List Int) : PyData.eqv (.list (xs.map .int)) (.list (ys.map .int)) = decide (xs = ys) := by rw [PyData.eqv, eqv_ints]
theorem fit_ints {ns : List Int} {k : Nat} (h0 : 0 < k) (h9 : k ≤ 1919) (h : ∀ n ∈ ns, n.natAbs < 2 ^ k) : Fit (.list (ns.map .int)) 1 (ns.length * (k + 3) + 3) := by
  have := Fit.list (ds := ns.map PyData.int) (k := 0) (n := k + 1) (fun d hd => by
    obtain ⟨n, hn, rfl⟩ := List.mem_map.mp hd
    exact Fit.int h0 h9 (h n hn))
  rwa [List.length_map] at this
theorem rNeD_ {K : PySem.W.Frag} {H : Hp} {Q : VK} {x y : V} {d e : PyData} {k n k' n' : Nat} (fd : Fit d k n) (fe : Fit e k' n') (hk : k ≤ 64) (hk' : k' ≤ 64) (hd : Dp K H x d) (he : Dp K H y e) (q : Q (.bl (!PyData.eqv d e)) H) : rNeD K x y H Q :=
  ⟨d, e, hd, he, fd.shaped hk, fe.shaped hk', q⟩
theorem rEqD_ {K : PySem.W.Frag} {H : Hp} {Q : VK} {x y : V} {d e : PyData} {k n k' n' : Nat} (fd : Fit d k n) (fe : Fit e k' n') (hk : k ≤ 64) (hk' : k' ≤ 64) (hd : Dp K H x d) (he : Dp K H y e) (q : Q (.bl (PyData.eqv d e)) H) : rEqD K x y H Q :=
  ⟨d, e, hd, he, fd.shaped hk, fe.shaped hk', q⟩
section
variable {K : PySem.W.Frag} {H : Hp} {σ : L2.St} {Q : VK} {g : TG} {tt : TT} {te : TE} {vs : List Nat} {TA1 : TA} {ta : TE}
theorem wipe0 : wipe σ [] = σ := rfl
theorem wipe1 {v : Nat} {vs : List Nat} : wipe σ (v :: vs) = (wipe σ vs).set v none := rfl
theorem tLc_range1 : tLc (iRng1 TA1) g tt te vs σ H Q = TA1 σ H fun ws H1 => ∃ j : Int, ws = [.int j] ∧ -(2 ^ 62) ≤ j ∧ j < 2 ^ 62 ∧ tLc (fun _ H R => R (Itr 0 j.toNat) H) g tt te vs σ H1 Q := rfl
theorem tLc_range2 : tLc (iRng2 TA1) g tt te vs σ H Q = TA1 σ H fun ws H1 => ∃ i j : Int, ws = [.int i, .int j] ∧ (-(2 ^ 62) ≤ i ∧ i < 2 ^ 62 ∧ -(2 ^ 62) ≤ j ∧ j < 2 ^ 62) ∧ tLc (fun _ H R => R (Itr i (j - i).toNat) H) g tt te vs σ H1 Q := rfl
theorem tLc_list : tLc (iList K ta) g tt te vs σ H Q = ta σ H fun x H1 => ∃ a, x = .ref a ∧ (∃ xs, SqL K H1 a xs) ∧ tLc (fun _ H R => R (Itl K a) H) g tt te vs σ H1 Q := rfl
theorem tLc_tup : tLc (iTup K ta) g tt te vs σ H Q = ta σ H fun x H1 => ∃ a, x = .ref a ∧ (∃ xs, SqT K H1 a xs) ∧ tLc (fun _ H R => R (Itt K a) H) g tt te vs σ H1 Q := rfl
theorem tYes_ {QB : Bool → Hp → Prop} : tYes σ H QB = QB true H := rfl
/-- what a turn of a comprehension asks -/
def Lturn (g : TG) (tt : TT) (te : TE) (vs : List Nat) (σ : L2.St) (D : Addr) (x : V) (H : Hp) (Nx : Hp → Prop) : Prop := g x (wipe σ vs) H fun σ2 H2 => wipe σ2 vs = wipe σ vs ∧ tt σ2 H2 fun b H3 =>
  if b = true then te σ2 H3 fun y H4 => ∃ acc, H4 D = some (.lst acc) ∧ acc.length < sizeLine ∧ Nx (upd H4 D (.lst (acc ++ [y]))) else Nx H3
theorem lc_r {lo : Int} {n : Nat} (Pv : Addr → Nat → Hp → Prop) (h : ∀ D, H D = none → Pv D 0 (upd H D (.lst [])) ∧ (∀ i H', i < n → Pv D i H' → Lturn g tt te vs σ D (.int (lo + i)) H' (Pv D (i + 1))) ∧ (∀ H', Pv D n H' → Q (.ref D) H')) :
    tLc (fun _ H R => R (Itr lo n) H) g tt te vs σ H Q := fun D hD => lc_range (Pv D) (h D hD).1 (h D hD).2.1 (h D hD).2.2
theorem lc_l {a : Addr} {xs : List V} (Pv : Addr → Nat → Hp → Prop) (h : ∀ D, H D = none → Pv D 0 (upd H D (.lst [])) ∧ (∀ i H', i ≤ xs.length → Pv D i H' → SqL K H' a xs) ∧ (∀ i x H', xs[i]? = some x → Pv D i H' → Lturn g tt te vs σ D x H' (Pv D (i + 1))) ∧ (∀ H', Pv D xs.length H' → Q (.ref D) H')) :
    tLc (fun _ H R => R (Itl K a) H) g tt te vs σ H Q := fun D hD => lc_list (xs := xs) (Pv D) (h D hD).1 (h D hD).2.1 (h D hD).2.2.1 (h D hD).2.2.2
theorem lc_t {a : Addr} {xs : List V} (Pv : Addr → Nat → Hp → Prop) (h : ∀ D, H D = none → Pv D 0 (upd H D (.lst [])) ∧ (∀ i H', i ≤ xs.length → Pv D i H' → SqT K H' a xs) ∧ (∀ i x H', xs[i]? = some x → Pv D i H' → Lturn g tt te vs σ D x H' (Pv D (i + 1))) ∧ (∀ H', Pv D xs.length H' → Q (.ref D) H')) :
    tLc (fun _ H R => R (Itt K a) H) g tt te vs σ H Q := fun D hD => lc_tup (xs := xs) (Pv D) (h D hD).1 (h D hD).2.1 (h D hD).2.2.1 (h D hD).2.2.2
end
end Dt

set_option Elab.async false
set_option linter.all false
set_option maxRecDepth 100000
set_option maxHeartbeats 2000000
/-! isinstance of a caught error that has fields -/
namespace Exx
open PySem PySem.Spec PyProof.Rows L2 Rd
def rIsX (K : PySem.W.Frag) (C a : Addr) (cls : Value) (d : Option Addr) : List V → Hp → VK → Prop := fun xs H Q => ∃ (c : V) (cv : Value) (b : Bool) (dd : Addr) (fs : List (Str × V)), xs = [.ref a, c] ∧ cls = .ref C ∧ (∀ u, RelV c u → u = cv) ∧ d = some dd ∧ H dd = some (.xd fs) ∧ PySem.W.kitOne K (.ref C) cv = some b ∧ Q (.bl b) H
theorem call_isX {X : Cx} {a C : Addr} {oe : Obj} {cls : Value} {d : Option Addr} {pn : List (Addr × Obj)} (E : ExcC X.K C) (hz : Zc cls d oe) (hf : ∃ vs, oe.data = .fields vs) : CallR (X.suite a ((a, oe) :: pn)) (.builtin "isinstance") (rIsX X.K C a cls d) := by
  intro pins s σ H xs us Q I r h
  obtain ⟨c, cv, b, dd, fs, rfl, ec, hcv, ed, hd, e, q⟩ := h
  subst ec ed
  cases r with
  | cons rx rr =>
    cases rr with
    | cons rt rr =>
      cases rr
      cases rx
      have ec := hcv _ rt
      subst ec
      obtain ⟨hget, _⟩ := I.pin (a, oe) (List.mem_append_left _ List.mem_cons_self)
      obtain ⟨vs, hv⟩ := hf
      have hx : ObjOk X.prog X.w H s.heap dd (.xd fs) := I.hok dd _ hd
      obtain ⟨mA, hns, hr⟩ := hx
      obtain ⟨od, ho, hl⟩ := lookIn_ns hns
      have J : PySem.W.InstAt s.heap a oe C (some od) := ⟨hget, hz.1, by unfold PySem.W.notCls; rw [hv] <;> rfl, by rw [hz.2]; exact ho⟩
      have hcl : (PySem.W.clsIn X.K C).isSome = true := by
        obtain ⟨cd, hc, _⟩ := PySem.W.any_some E.hd
        rw [hc]; rfl
      exact PySem.W.kia_one (PySem.W.kitx_exc (od := some od) hcl E.hg E.hk E.hs E.ha E.hn E.ht E.hm) I.kIn J e (fun z => nomatch z) fun tk => ⟨.bl b, H, I.kept (t' := tk) fun _ _ z => z, rfl, q⟩
def exB (K : PySem.W.Frag) (C : Addr) : Bool := decide (PySem.W.findIn K (.ref C) "__getattribute__" = some (some (.builtin "BaseException.__getattribute__"))) && (decide (PySem.W.findIn K (.ref C) "__getattr__" = some none) && (decide (PySem.W.subIn K (.ref C) (.type "BaseException") = some true) &&
  (PySem.W.hasDictIn K C && (decide (PySem.W.findIn K (.ref C) "__class__" = some (some (.builtin "object.__class__"))) && (decide (PySem.W.specialIn K (.builtin "object.__class__") "__get__" = some (some (.builtin "getset_descriptor.__get__"))) && (decide (PySem.W.takesIn K (.builtin "object.__class__") = some true) && decide (PySem.W.mroIn K C (.type "object") = some true)))))))
theorem exB_ok {K : PySem.W.Frag} {C : Addr} (h : exB K C = true) : ExcC K C := by
  unfold exB at h
  simp only [Bool.and_eq_true, decide_eq_true_eq] at h
  obtain ⟨h1, h2, h3, h4, h5, h6, h7, h8⟩ := h
  exact ⟨h1, h2, h3, h4, h5, h6, h7, h8⟩
/-- what a table of the written part says of an own error -/
def oexB (K : PySem.W.Frag) (C : Addr) : Bool := (match K.lookup C with
  | some ⟨.type "type", _, .cls cd, sl⟩ => (match cd.mro, sl.toList with
    | .ref C' :: bm, [_, _, _, _, some (.builtin n), _] => decide (C' = C) && (decide (n = "ValueError.__new__") && (cd.hasDict && (!cd.hasDel && PySem.HandSPX.refsVE bm)))
    | _, _ => false)
  | _ => false) && (decide (PySem.W.findIn K (.ref C) "__setattr__" = some (some (.builtin "object.__setattr__"))) && (decide (PySem.W.subIn K (.ref C) (.type "BaseException") = some true) && (decide (PySem.W.typeIn K (.ref C) = some (.type "type")) && PySem.W.keepIn K (.ref C))))
theorem oexB_ok {K : PySem.W.Frag} {C : Addr} (h : oexB K C = true) : OexC K C := by
  unfold oexB at h
  obtain ⟨h1, h⟩ := Bool.and_eq_true_iff.mp h
  obtain ⟨h2, h⟩ := Bool.and_eq_true_iff.mp h
  obtain ⟨h3, h⟩ := Bool.and_eq_true_iff.mp h
  obtain ⟨h4, h5⟩ := Bool.and_eq_true_iff.mp h
  refine ⟨?_, of_decide_eq_true h2, of_decide_eq_true h3, of_decide_eq_true h4, h5⟩
  split at h1
  · rename_i dd cd sl ho
    split at h1
    · rename_i C' bm k0 k1 k2 k3 n k5 hm hs
      obtain ⟨nm, bs, mro, ns, qn, hd, sn, sb, ab, col, del⟩ := cd
      obtain ⟨sl⟩ := sl
      dsimp only at h1 hm hs
      subst hm hs
      obtain ⟨e1, h1⟩ := Bool.and_eq_true_iff.mp h1
      obtain ⟨e2, h1⟩ := Bool.and_eq_true_iff.mp h1
      obtain ⟨e3, h1⟩ := Bool.and_eq_true_iff.mp h1
      obtain ⟨e4, e5⟩ := Bool.and_eq_true_iff.mp h1
      have e1' := of_decide_eq_true e1
      have e2' := of_decide_eq_true e2
      subst e1' e2'
      cases hd with
      | false => cases e3
      | true =>
        cases del with
        | true => cases e4
        | false => exact ⟨nm, qn, ns, bs, bm, sn, sb, ab, col, dd, k0, k1, k2, k3, k5, ho, e5⟩
    · cases h1
  · cases h1
/-- all that is asked of an own error's class, by its name and its field's -/
def erB (K : PySem.W.Frag) (x n : Str) : Bool := oexB K (He.ga K x) && (decide (PySem.W.findIn K (.ref (He.ga K x)) n = some none) && (decide (PySem.W.findIn K (.ref (He.ga K x)) "__init__" = some (some (.ref (He.ma K (He.ga K x) "__init__")))) &&
  (decide (PySem.W.typeIn K (.ref (He.ma K (He.ga K x) "__init__")) = some (.type "function")) && (xfB K (He.ga K x) && (exB K (He.ga K x) && decide (PySem.W.exmOne K (.ref (He.ga K x)) (.ref (He.ga K x)) = some true))))))
structure ErT (K : PySem.W.Frag) (x n : Str) : Prop where
  oex : OexC K (He.ga K x)
  noN : PySem.W.findIn K (.ref (He.ga K x)) n = some none
  iC : PySem.W.findIn K (.ref (He.ga K x)) "__init__" = some (some (.ref (He.ma K (He.ga K x) "__init__")))
  tI : PySem.W.typeIn K (.ref (He.ma K (He.ga K x) "__init__")) = some (.type "function")
  xf : XfC K (He.ga K x)
  ex : ExcC K (He.ga K x)
  te : PySem.W.exmOne K (.ref (He.ga K x)) (.ref (He.ga K x)) = some true
theorem erB_ok {K : PySem.W.Frag} {x n : Str} (h : erB K x n = true) : ErT K x n := by
  unfold erB at h
  simp only [Bool.and_eq_true, decide_eq_true_eq] at h
  obtain ⟨h1, h2, h3, h4, h5, h6, h7⟩ := h
  exact ⟨oexB_ok h1, h2, h3, h4, xfB_ok h5, exB_ok h6, h7⟩
end Exx

set_option Elab.async false
set_option linter.all false
set_option maxRecDepth 100000
set_option maxHeartbeats 2000000
namespace K65
def stopF (t r n : Int) : Int := if n < t then n else t + (n - t) % r
/-- both walkers stand at one stop at the end of turn t -/
def Meets (T R s d l t : Int) : Prop := l + d * t = 0 ∨ (T ≤ s * t ∧ R ∣ l + d * t)
def IsFirst (T R s d l : Int) : Option Int → Prop
  | some t => 1 ≤ t ∧ Meets T R s d l t ∧ ∀ u, 1 ≤ u → u < t → ¬ Meets T R s d l u
  | none => ∀ u, 1 ≤ u → ¬ Meets T R s d l u
theorem IsFirst.uniq {T R s d l : Int} : ∀ {o p : Option Int}, IsFirst T R s d l o → IsFirst T R s d l p → o = p
  | none, none, _, _ => rfl
  | some t, none, h, g => absurd h.2.1 (g t h.1)
  | none, some t, h, g => absurd g.2.1 (h t g.1)
  | some t, some u, h, g => by
    have h1 := h.2.2 u g.1
    have h2 := g.2.2 t h.1
    have a : ¬ u < t := fun z => h1 z g.2.1
    have b : ¬ t < u := fun z => h2 z h.2.1
    have : t = u := by omega
    rw [this]
theorem emod_eq_of {a b m : Int} (h : a % m = b % m) : m ∣ a - b := by
  have := Int.emod_emod_of_dvd a (Int.dvd_refl m)
  exact Int.dvd_of_emod_eq_zero (by rw [Int.sub_emod, h]; simp)
theorem of_emod_eq {a b m : Int} (h : m ∣ a - b) : a % m = b % m := by
  obtain ⟨c, hc⟩ := h
  have : a = b + m * c := by omega
  rw [this, Int.add_mul_emod_self_left]
/-- two stops are the same -/
theorem stop_eq {T R a b : Int} (hR : 0 < R) (hT : 0 ≤ T) (h0 : 0 ≤ a) (h : a ≤ b) : stopF T R a = stopF T R b ↔ (b - a = 0 ∨ (T ≤ a ∧ R ∣ b - a)) := by
  unfold stopF
  have q1 := Int.emod_nonneg (b - T) (show R ≠ 0 by omega)
  have q2 := Int.emod_nonneg (a - T) (show R ≠ 0 by omega)
  by_cases ca : a < T
  · rw [if_pos ca]
    by_cases cb : b < T
    · rw [if_pos cb]
      constructor
      · intro e; left; omega
      · rintro (e | ⟨e, _⟩) <;> omega
    · rw [if_neg cb]
      constructor
      · intro e; omega
      · rintro (e | ⟨e, _⟩) <;> omega
  · rw [if_neg ca, if_neg (show ¬ b < T by omega)]
    constructor
    · intro e
      right
      refine ⟨by omega, ?_⟩
      have e2 : (b - T) % R = (a - T) % R := by omega
      have := emod_eq_of e2
      rwa [show b - T - (a - T) = b - a by omega] at this
    · rintro (e | ⟨_, e⟩)
      · rw [show b = a by omega]
      · have : (b - T) % R = (a - T) % R := of_emod_eq (by rwa [show b - T - (a - T) = b - a by omega])
        rw [this]
theorem mul_nn {a b : Int} (h : 0 ≤ a) (g : 0 ≤ b) : 0 ≤ a * b := Int.mul_nonneg h g
/-- walking on finds the first meeting: none later than the bound -/
theorem meets_bound {T R s d l : Int} (hT : 0 ≤ T) (hR : 0 < R) (hs : 0 ≤ s) (hd : 0 ≤ d) (hl : 0 ≤ l) {t : Int} (ht : 1 ≤ t) (m : Meets T R s d l t) : ∃ u, 1 ≤ u ∧ u ≤ T + 2 * R + 2 ∧ Meets T R s d l u := by
  rcases m with m | ⟨m1, m2⟩
  · have : 0 ≤ d * t := mul_nn hd (by omega)
    have hl0 : l = 0 := by omega
    have hd0 : d * t = 0 := by omega
    have : d = 0 := by
      rcases Int.mul_eq_zero.mp hd0 with z | z <;> omega
    exact ⟨1, by omega, by omega, .inl (by rw [hl0, this]; rfl)⟩
  · by_cases hb : t ≤ T + 2 * R + 2
    · exact ⟨t, ht, hb, .inr ⟨m1, m2⟩⟩
    · have q1 := Int.emod_nonneg (t - (T + 1)) (show R ≠ 0 by omega)
      have q2 := Int.emod_lt_of_pos (t - (T + 1)) hR
      have dv : R ∣ t - ((t - (T + 1)) % R + T + 1) := by
        have := Int.dvd_self_sub_emod (x := t - (T + 1)) (m := R)
        rwa [show t - (T + 1) - (t - (T + 1)) % R = t - ((t - (T + 1)) % R + T + 1) by omega] at this
      refine ⟨(t - (T + 1)) % R + T + 1, by omega, by omega, .inr ⟨?_, ?_⟩⟩
      · by_cases h0 : s = 0
        · rw [h0, Int.zero_mul] at m1 ⊢
          exact m1
        · have : 1 * ((t - (T + 1)) % R + T + 1) ≤ s * ((t - (T + 1)) % R + T + 1) := Int.mul_le_mul_of_nonneg_right (by omega) (by omega)
          omega
      · have : R ∣ d * (t - ((t - (T + 1)) % R + T + 1)) := Int.dvd_mul_of_dvd_right dv
        have := Int.dvd_sub m2 this
        rwa [Int.mul_sub, show l + d * t - (d * t - d * ((t - (T + 1)) % R + T + 1)) = l + d * ((t - (T + 1)) % R + T + 1) by omega] at this
/-- the turn by dividing: v an inverse of d' below the period -/
theorem first_by {T R s d l g p d' l' v rest : Int} (hT : 0 ≤ T) (hs : 0 ≤ s) (hp : 0 < p) (hg : 0 < g) (eR : R = g * p) (ed : d = g * d') (el : l = g * l')
    (hn : ¬ (l = 0 ∧ d = 0)) (hl : 0 ≤ l) (hd : 0 ≤ d) (hsT : s = 0 → T = 0) (hv : p ∣ d' * v - 1) (hr : p ∣ rest + l' * v) :
    let least := if s = 0 then 1 else max 1 ((T + s - 1) / s)
    IsFirst T R s d l (some (least + (rest - least) % p)) := by
  intro least
  -- when R divides
  have key : ∀ t : Int, R ∣ l + d * t ↔ p ∣ t - rest := by
    intro t
    have e1 : l + d * t = g * (l' + d' * t) := by rw [ed, el, Int.mul_add, Int.mul_assoc]
    rw [e1, eR, Int.mul_dvd_mul_iff_left (by omega)]
    obtain ⟨a, ha⟩ := hv
    obtain ⟨b, hb⟩ := hr
    constructor
    · rintro ⟨c, hc⟩
      -- v (l' + d' t) = p c v ; d' v = 1 + p a
      refine ⟨c * v - a * t - b, ?_⟩
      have z : v * (l' + d' * t) = v * (p * c) := by rw [hc]
      rw [Int.mul_add] at z
      have z2 : v * (d' * t) = (d' * v) * t := by rw [← Int.mul_assoc, Int.mul_comm v d']
      have z3 : d' * v = 1 + p * a := by omega
      rw [z2, z3, Int.add_mul, Int.one_mul] at z
      have z4 : v * l' = p * b - rest := by rw [Int.mul_comm]; omega
      rw [z4] at z
      rw [Int.mul_sub, Int.mul_sub]
      have z5 : v * (p * c) = p * (c * v) := by rw [Int.mul_comm v, Int.mul_assoc]
      have z6 : p * a * t = p * (a * t) := Int.mul_assoc _ _ _
      rw [z5, z6] at z
      omega
    · rintro ⟨c, hc⟩
      -- t = rest + p c, l' + d' t = l' + d'(p b - l' v) + d' p c = l' (1 - d' v) + p(..)
      refine ⟨d' * b + d' * c - l' * a, ?_⟩
      have e2 : t = p * b - l' * v + p * c := by omega
      have z3 : d' * v = 1 + p * a := by omega
      have z7 : d' * (l' * v) = l' * (1 + p * a) := by rw [← z3, ← Int.mul_assoc, Int.mul_comm d' l', Int.mul_assoc]
      rw [e2, Int.mul_add, Int.mul_sub, z7, Int.mul_sub, Int.mul_add, Int.mul_add, Int.mul_one]
      have z8 : d' * (p * b) = p * (d' * b) := by rw [← Int.mul_assoc, Int.mul_comm d' p, Int.mul_assoc]
      have z9 : d' * (p * c) = p * (d' * c) := by rw [← Int.mul_assoc, Int.mul_comm d' p, Int.mul_assoc]
      have z10 : l' * (p * a) = p * (l' * a) := by rw [← Int.mul_assoc, Int.mul_comm l' p, Int.mul_assoc]
      rw [z8, z9, z10]
      omega
  have lz : ∀ t : Int, 1 ≤ t → l + d * t ≠ 0 := by
    intro t ht e
    have : 0 ≤ d * t := mul_nn hd (by omega)
    have h1 : d * t = 0 := by omega
    rcases Int.mul_eq_zero.mp h1 with z | z
    · exact hn ⟨by omega, z⟩
    · omega
  -- when T is reached
  have reach : ∀ t : Int, 1 ≤ t → (T ≤ s * t ↔ least ≤ t) := by
    intro t ht
    by_cases h0 : s = 0
    · simp only [least, h0, if_true]
      rw [hsT h0]
      simp
      omega
    · simp only [least, if_neg h0]
      have sp : 0 < s := by omega
      have q : (T + s - 1) / s ≤ t ↔ T ≤ s * t := by
        constructor
        · intro h
          have h1 : (T + s - 1) / s < t + 1 := by omega
          have h2 := (Int.ediv_lt_iff_lt_mul sp).mp h1
          rw [Int.add_mul, Int.mul_comm t s] at h2
          omega
        · intro h
          have h1 : (T + s - 1) < (t + 1) * s := by rw [Int.add_mul, Int.mul_comm t s]; omega
          have := (Int.ediv_lt_iff_lt_mul sp).mpr h1
          omega
      omega
  have least1 : 1 ≤ least := by
    simp only [least]
    split <;> omega
  have q1 := Int.emod_nonneg (rest - least) (show p ≠ 0 by omega)
  have q2 := Int.emod_lt_of_pos (rest - least) hp
  have dv : p ∣ least + (rest - least) % p - rest := by
    have := Int.dvd_self_sub_emod (x := rest - least) (m := p)
    have := Int.dvd_neg.mpr this
    rwa [show -(rest - least - (rest - least) % p) = least + (rest - least) % p - rest by omega] at this
  refine ⟨by omega, .inr ⟨(reach _ (by omega)).mpr (by omega), (key _).mpr dv⟩, ?_⟩
  intro u hu hlt m
  rcases m with m | ⟨m1, m2⟩
  · exact lz u hu m
  · have h1 := (reach u hu).mp m1
    have h2 := (key u).mp m2
    have h3 : p ∣ (least + (rest - least) % p) - u := by
      have := Int.dvd_sub dv h2
      rwa [show least + (rest - least) % p - rest - (u - rest) = least + (rest - least) % p - u by omega] at this
    have h4 : (least + (rest - least) % p) - u < p := by omega
    have h5 : 0 < (least + (rest - least) % p) - u := by omega
    have := Int.le_of_dvd h5 h3
    omega
theorem first_none {T R s d l : Int} (hn : ¬ (l = 0 ∧ d = 0)) (hl : 0 ≤ l) (hd : 0 ≤ d) (h : (s = 0 ∧ 0 < T) ∨ ¬ ((Int.gcd d R : Int) ∣ l)) : IsFirst T R s d l none := by
  intro u hu m
  rcases m with m | ⟨m1, m2⟩
  · have : 0 ≤ d * u := mul_nn hd (by omega)
    have h1 : d * u = 0 := by omega
    rcases Int.mul_eq_zero.mp h1 with z | z
    · exact hn ⟨by omega, z⟩
    · omega
  · rcases h with ⟨h0, h1⟩ | h
    · rw [h0, Int.zero_mul] at m1; omega
    · apply h
      have g1 : (Int.gcd d R : Int) ∣ R := Int.gcd_dvd_right ..
      have g2 : (Int.gcd d R : Int) ∣ d := Int.gcd_dvd_left ..
      have a := Int.dvd_trans g1 m2
      have b : (Int.gcd d R : Int) ∣ d * u := Int.dvd_mul_of_dvd_left g2
      have := Int.dvd_sub a b
      rwa [show l + d * u - d * u = l by omega] at this
theorem first_zero {T R s : Int} : IsFirst T R s 0 0 (some 1) := ⟨by omega, .inl (by simp), fun u h1 h2 => by omega⟩
/-! ### the inverse -/
structure InvS (a m : Int) (L R : Nat) (last found : Int) : Prop where
  i1 : m ∣ (L : Int) - last * a
  i2 : m ∣ (R : Int) - found * a
  i3 : Nat.gcd L R = 1
  i4 : 1 ≤ L
  b1 : (L : Int) ≤ m
  b2 : (R : Int) ≤ m
  i5 : ((found.natAbs * L + last.natAbs * R : Nat) : Int) ≤ m
  i6 : R = 0 → m = 1
theorem step_abs {l f : Int} {t R q L : Nat} (e : t * R + q = L) : (l - (t : Int) * f).natAbs * R + f.natAbs * q ≤ f.natAbs * L + l.natAbs * R := by
  have h : (l - (t : Int) * f).natAbs ≤ l.natAbs + t * f.natAbs := by
    have := Int.natAbs_sub_le l ((t : Int) * f)
    rw [Int.natAbs_mul, Int.natAbs_natCast] at this
    exact this
  have h2 := Nat.mul_le_mul_right R h
  rw [Nat.add_mul] at h2
  have e2 : f.natAbs * L = t * f.natAbs * R + f.natAbs * q := by
    rw [← e, Nat.mul_add, Nat.mul_comm t f.natAbs, Nat.mul_assoc]
  omega
theorem dvd_step {m x y p q a : Int} (h1 : m ∣ x - p * a) (h2 : m ∣ y - q * a) (t : Int) : m ∣ (x - t * y) - (p - t * q) * a := by
  have h3 := Int.dvd_sub h1 (Int.dvd_mul_of_dvd_right (b := t) h2)
  have e : x - p * a - t * (y - q * a) = (x - t * y) - (p - t * q) * a := by
    rw [Int.mul_sub, Int.sub_mul, Int.mul_assoc]
    omega
  rwa [e] at h3
theorem cast_mod (L R : Nat) : ((L % R : Nat) : Int) = (L : Int) - ((L / R : Nat) : Int) * (R : Int) := by
  have := Nat.div_add_mod L R
  have h : ((R * (L / R) + L % R : Nat) : Int) = (L : Int) := by rw [this]
  rw [Int.natCast_add, Int.natCast_mul, Int.mul_comm] at h
  omega
theorem InvS.start {a : Int} {m : Int} (hm : 1 ≤ m) (ha : 0 ≤ a) (h : Nat.gcd a.natAbs m.natAbs = 1) : InvS a m m.toNat (a % m).toNat 0 1 := by
  have q1 := Int.emod_nonneg a (show m ≠ 0 by omega)
  have q2 := Int.emod_lt_of_pos a (show 0 < m by omega)
  refine ⟨?_, ?_, ?_, by omega, by omega, by omega, ?_, ?_⟩
  · rw [Int.toNat_of_nonneg (by omega), Int.zero_mul, Int.sub_zero]; exact Int.dvd_refl m
  · rw [Int.toNat_of_nonneg q1, Int.one_mul]
    have := Int.dvd_self_sub_emod (x := a) (m := m)
    have := Int.dvd_neg.mpr this
    rwa [show -(a - a % m) = a % m - a by omega] at this
  · have e : (a % m).toNat = a.toNat % m.toNat := by
      obtain ⟨x, rfl⟩ := Int.eq_ofNat_of_zero_le ha
      obtain ⟨y, rfl⟩ := Int.eq_ofNat_of_zero_le (show 0 ≤ m by omega)
      rfl
    rw [e, Nat.gcd_comm, ← Nat.gcd_rec, Nat.gcd_comm]
    rw [show a.toNat = a.natAbs by omega, show m.toNat = m.natAbs by omega]
    exact h
  · simp; omega
  · intro e
    have : a % m = 0 := by omega
    have d : m ∣ a := Int.dvd_of_emod_eq_zero this
    have g : m.natAbs ∣ Nat.gcd a.natAbs m.natAbs := Nat.dvd_gcd (Int.natAbs_dvd_natAbs.mpr d) (Nat.dvd_refl _)
    rw [h] at g
    have := Nat.le_of_dvd (by decide) g
    omega
theorem InvS.step {a m : Int} {L R : Nat} {l f : Int} (h : InvS a m L R l f) (hr : 1 < R) : InvS a m R (L % R) f (l - ((L / R : Nat) : Int) * f) := by
  have lt := Nat.mod_lt L (show 0 < R by omega)
  refine ⟨h.i2, ?_, ?_, by omega, h.b2, ?_, ?_, ?_⟩
  · rw [cast_mod]; exact dvd_step h.i1 h.i2 _
  · have := h.i3
    rw [Nat.gcd_comm, ← Nat.gcd_rec, Nat.gcd_comm]
    exact this
  · have := h.b2; omega
  · have := step_abs (l := l) (f := f) (t := L / R) (R := R) (q := L % R) (L := L) (by rw [Nat.mul_comm]; exact Nat.div_add_mod L R)
    have := h.i5
    omega
  · intro e
    have g := h.i3
    rw [Nat.gcd_comm, Nat.gcd_rec, e, Nat.gcd_zero_left] at g
    omega
theorem InvS.fin {a m : Int} {L R : Nat} {l f : Int} (h : InvS a m L R l f) (hm : 1 ≤ m) (hr : ¬ 1 < R) : 0 ≤ f % m ∧ f % m < m ∧ m ∣ a * (f % m) - 1 := by
  refine ⟨Int.emod_nonneg f (by omega), Int.emod_lt_of_pos f (by omega), ?_⟩
  by_cases h0 : R = 0
  · rw [h.i6 h0]; exact ⟨_, by rw [Int.one_mul]⟩
  · have e : R = 1 := by omega
    have d := h.i2
    rw [e] at d
    have d2 := Int.dvd_neg.mpr d
    have d3 := Int.dvd_self_sub_emod (x := f) (m := m)
    have d4 : m ∣ a * (f - f % m) := Int.dvd_mul_of_dvd_right d3
    have := Int.dvd_sub d2 d4
    have e2 : -(((1 : Nat) : Int) - f * a) - a * (f - f % m) = a * (f % m) - 1 := by
      rw [Int.mul_sub, Int.mul_comm f a]
      omega
    rwa [e2] at this
theorem InvS.bf {a m : Int} {L R : Nat} {l f : Int} (h : InvS a m L R l f) : (f.natAbs : Int) ≤ m := by
  have h1 := h.i5
  have h2 : f.natAbs * 1 ≤ f.natAbs * L := Nat.mul_le_mul_left _ h.i4
  omega
/-! ### the shared divisor -/
structure ShS (a b B : Int) (L R : Nat) (one two : Int) : Prop where
  s1 : b ∣ (L : Int) - one * a
  s2 : b ∣ (R : Int) - two * a
  s3 : Nat.gcd L R = Nat.gcd a.natAbs b.natAbs
  b1 : (L : Int) ≤ B
  b2 : (R : Int) ≤ B
  s5 : ((two.natAbs * L + one.natAbs * R : Nat) : Int) ≤ b
  s6 : (one.natAbs : Int) ≤ b ∧ (two.natAbs : Int) ≤ b
theorem ShS.start {a b B : Int} (ha : 0 ≤ a) (hb : 1 ≤ b) (h1 : a ≤ B) (h2 : b ≤ B) : ShS a b B a.toNat b.toNat 1 0 := by
  refine ⟨?_, ?_, ?_, by omega, by omega, ?_, by constructor <;> simp <;> omega⟩
  · rw [Int.toNat_of_nonneg ha, Int.one_mul, Int.sub_self]; exact Int.dvd_zero b
  · rw [Int.toNat_of_nonneg (by omega), Int.zero_mul, Int.sub_zero]; exact Int.dvd_refl b
  · rw [show a.toNat = a.natAbs by omega, show b.toNat = b.natAbs by omega]
  · simp; omega
theorem ShS.step {a b B : Int} {L R : Nat} {p q : Int} (h : ShS a b B L R p q) (hr : 0 < R) : ShS a b B R (L % R) q (p - ((L / R : Nat) : Int) * q) := by
  have lt := Nat.mod_lt L hr
  have sa := step_abs (l := p) (f := q) (t := L / R) (R := R) (q := L % R) (L := L) (by rw [Nat.mul_comm]; exact Nat.div_add_mod L R)
  have s5 := h.s5
  refine ⟨h.s2, ?_, ?_, h.b2, ?_, by omega, h.s6.2, ?_⟩
  · rw [cast_mod]; exact dvd_step h.s1 h.s2 _
  · rw [← h.s3, Nat.gcd_comm, ← Nat.gcd_rec, Nat.gcd_comm]
  · have := h.b2; omega
  · have h2 : (p - ((L / R : Nat) : Int) * q).natAbs * 1 ≤ (p - ((L / R : Nat) : Int) * q).natAbs * R := Nat.mul_le_mul_left _ hr
    omega
theorem ShS.fin {a b B : Int} {L : Nat} {p q : Int} (h : ShS a b B L 0 p q) : L = Nat.gcd a.natAbs b.natAbs ∧ b ∣ (L : Int) - p * a := by
  have := h.s3
  rw [Nat.gcd_zero_right] at this
  exact ⟨this, h.s1⟩
/-- what dividing by the common divisor leaves -/
theorem parted {d R : Int} (hd : 0 ≤ d) (hR : 0 < R) : ∃ g : Int, g = ((Nat.gcd d.natAbs R.natAbs : Nat) : Int) ∧ 0 < g ∧ R = g * (R / g) ∧ d = g * (d / g) ∧ 0 < R / g ∧ 0 ≤ d / g ∧ Nat.gcd (d / g).natAbs (R / g).natAbs = 1 ∧ g ≤ R ∧ R / g ≤ R ∧ d / g ≤ d := by
  refine ⟨_, rfl, ?_⟩
  obtain ⟨x, rfl⟩ := Int.eq_ofNat_of_zero_le hd
  obtain ⟨y, rfl⟩ := Int.eq_ofNat_of_zero_le (show 0 ≤ R by omega)
  have hy : 0 < y := by omega
  simp only [Int.natAbs_natCast]
  have gp : 0 < Nat.gcd x y := Nat.gcd_pos_of_pos_right _ hy
  have e1 : ((x : Int) / (Nat.gcd x y : Nat)) = ((x / Nat.gcd x y : Nat) : Int) := rfl
  have e2 : ((y : Int) / (Nat.gcd x y : Nat)) = ((y / Nat.gcd x y : Nat) : Int) := rfl
  rw [e1, e2]
  have d1 := Nat.mul_div_cancel' (Nat.gcd_dvd_left x y)
  have d2 := Nat.mul_div_cancel' (Nat.gcd_dvd_right x y)
  have l1 := Nat.le_of_dvd hy (Nat.gcd_dvd_right x y)
  have p2 : 0 < y / Nat.gcd x y := Nat.div_pos l1 gp
  refine ⟨by omega, ?_, ?_, Int.ofNat_lt.mpr p2, Int.natCast_nonneg _, ?_, by omega, ?_, ?_⟩
  · rw [← Int.natCast_mul, d2]
  · rw [← Int.natCast_mul, d1]
  · simp only [Int.natAbs_natCast]
    rw [Nat.gcd_comm x y] at *
    rw [Nat.gcd_comm]
    exact Nat.gcd_div_gcd_div_gcd_of_pos_left hy
  · exact Int.ofNat_le.mpr (Nat.div_le_self y _)
  · exact Int.ofNat_le.mpr (Nat.div_le_self x _)
theorem gcd_int {d R : Int} : ((Int.gcd d R : Nat) : Int) = ((Nat.gcd d.natAbs R.natAbs : Nat) : Int) := rfl
/-! ### whether they ever meet -/
theorem inv_exists {a m : Int} (hm : 1 ≤ m) : ∀ (R : Nat) {L : Nat} {l f : Int}, InvS a m L R l f → ∃ v, m ∣ a * v - 1 := by
  intro R
  induction R using Nat.strongRecOn with
  | ind R ih =>
    intro L l f h
    by_cases hr : 1 < R
    · exact ih (L % R) (Nat.mod_lt _ (by omega)) (h.step hr)
    · exact ⟨_, (h.fin hm hr).2.2⟩
def ever (T R s d l : Int) : Bool := (decide (l = 0) && decide (d = 0)) || ((decide (1 ≤ s) || decide (T = 0)) && decide (l % ((Int.gcd d R : Nat) : Int) = 0))
theorem ever_of {T R s d l : Int} (hT : 0 ≤ T) (hR : 0 < R) (hs : 0 ≤ s) (hd : 0 ≤ d) (hl : 0 ≤ l) {o : Option Int} (h : IsFirst T R s d l o) : o.isSome = ever T R s d l := by
  by_cases c0 : l = 0 ∧ d = 0
  · obtain ⟨rfl, rfl⟩ := c0
    rw [h.uniq first_zero]
    rfl
  · have e0 : (decide (l = 0) && decide (d = 0)) = false := by
      rw [Bool.eq_false_iff]; intro z
      rw [Bool.and_eq_true, decide_eq_true_eq, decide_eq_true_eq] at z
      exact c0 z
    unfold ever
    rw [e0, Bool.false_or]
    by_cases c1 : (1 ≤ s ∨ T = 0) ∧ l % ((Int.gcd d R : Nat) : Int) = 0
    · have e1 : (decide (1 ≤ s) || decide (T = 0)) = true := by
        rw [Bool.or_eq_true, decide_eq_true_eq, decide_eq_true_eq]; exact c1.1
      rw [e1, decide_eq_true c1.2]
      obtain ⟨g, eg, g0, eR, ed, p0, d0, gg, gR, pR, dd⟩ := parted hd hR
      rw [gcd_int, ← eg] at c1
      obtain ⟨v, hv⟩ := inv_exists (a := d / g) (show 1 ≤ R / g by omega) _ (InvS.start (show 1 ≤ R / g by omega) d0 gg)
      have dl : g * (l / g) = l := Int.mul_ediv_cancel' (Int.dvd_of_emod_eq_zero c1.2)
      have := first_by (T := T) (s := s) (v := v) (rest := -(l / g * v)) hT hs p0 g0 eR ed dl.symm c0 hl hd (fun z => by rcases c1.1 with q | q <;> omega) hv (by rw [show -(l / g * v) + l / g * v = 0 by omega]; exact Int.dvd_zero _)
      rw [h.uniq this]
      rfl
    · have : ((decide (1 ≤ s) || decide (T = 0)) && decide (l % ((Int.gcd d R : Nat) : Int) = 0)) = false := by
        rw [Bool.eq_false_iff]; intro z
        rw [Bool.and_eq_true, Bool.or_eq_true, decide_eq_true_eq, decide_eq_true_eq, decide_eq_true_eq] at z
        exact c1 z
      rw [this]
      have q : IsFirst T R s d l none := by
        refine first_none c0 hl hd ?_
        by_cases c2 : 1 ≤ s ∨ T = 0
        · right
          intro dv
          exact c1 ⟨c2, Int.emod_eq_zero_of_dvd dv⟩
        · left; omega
      rw [h.uniq q]
      rfl
def alwaysF (s d l : Int) : Bool := (decide (l = 0) && decide (d = 0)) || (decide (0 < s) && (decide (0 < d) && decide (l % d = 0)))
def ringsF (d l : Int) : List Int := ((List.range (max d l).toNat).map fun (i : Nat) => (2 + (i : Int))).filter fun r => decide (l % ((Nat.gcd d.natAbs r.natAbs : Nat) : Int) ≠ 0)
def missF (s d l : Int) : Option (Int × Int) := if alwaysF s d l = true then none else if s = 0 ∧ (ringsF d l).take 1 ≠ [2] then some (1, 1) else (ringsF d l).head?.map fun r => (0, r)
def rowF (i j : Nat) : List (Int × Int) := (List.range j).map fun (q : Nat) => ((q : Int), (1 : Int) + i - q)
def pairsF : Nat → List (Int × Int)
  | 0 => []
  | i + 1 => pairsF i ++ rowF i (i + 1)
def badP (s d l : Int) (p : Int × Int) : Bool := !ever p.1 p.2 s d l
def bruteF (s d l : Int) : Option (Int × Int) := (pairsF 8).find? (badP s d l)
theorem brute_all : ∀ s ∈ List.range 4, ∀ d ∈ List.range 5, ∀ l ∈ List.range 9, missF (s : Int) d l = bruteF s d l ∧ alwaysF (s : Int) d l = (bruteF s d l).isNone := by decide +kernel
theorem rings_all : ∀ s ∈ List.range 5, ∀ d ∈ List.range 10, ∀ l ∈ List.range 9, alwaysF (s : Int) d l = true ∨ (s = 0 ∧ (ringsF (d : Int) l).take 1 ≠ [2]) ∨ ringsF (d : Int) l ≠ [] := by decide +kernel
theorem row_step (i j : Nat) : rowF i (j + 1) = rowF i j ++ [((j : Int), (1 : Int) + i - j)] := by
  unfold rowF
  rw [List.range_succ, List.map_append]; rfl
theorem find_step {α : Type} (p : α → Bool) (l : List α) (x : α) : (l ++ [x]).find? p = match l.find? p with
    | some y => some y
    | none => if p x = true then some x else none := by
  rw [List.find?_append]
  cases l.find? p with
  | some y => rfl
  | none =>
    show List.find? p [x] = _
    rw [List.find?_cons]
    cases p x <;> rfl
theorem stop_step {T R i : Int} (hT : 0 ≤ T) (hR : 0 < R) (hi : 0 ≤ i) : stopF T R (i + 1) = if stopF T R i + 1 < T + R then stopF T R i + 1 else T := by
  unfold stopF
  by_cases c : i < T
  · rw [if_pos c]
    by_cases c2 : i + 1 < T
    · rw [if_pos c2, if_pos (by omega)]
    · rw [if_neg c2, if_pos (by omega), show i + 1 - T = 0 by omega, Int.zero_emod]; omega
  · rw [if_neg c, if_neg (by omega)]
    have q1 := Int.emod_nonneg (i - T) (show R ≠ 0 by omega)
    have q2 := Int.emod_lt_of_pos (i - T) hR
    have e := Int.mul_ediv_add_emod (i - T) R
    have e2 : i + 1 - T = ((i - T) % R + 1) + R * ((i - T) / R) := by omega
    rw [e2, Int.add_mul_emod_self_left]
    by_cases c3 : (i - T) % R + 1 < R
    · rw [Int.emod_eq_of_lt (by omega) c3, if_pos (by omega)]; omega
    · rw [show (i - T) % R + 1 = R by omega, Int.emod_self, if_neg (by omega)]; omega
theorem first_le {T R s d l : Int} (hT : 0 ≤ T) (hR : 0 < R) (hs : 0 ≤ s) (hd : 0 ≤ d) (hl : 0 ≤ l) {t : Int} (h : IsFirst T R s d l (some t)) : 1 ≤ t ∧ t ≤ T + 2 * R + 2 := by
  obtain ⟨u, u1, u2, mu⟩ := meets_bound hT hR hs hd hl h.1 h.2.1
  refine ⟨h.1, ?_⟩
  by_cases c : t ≤ u
  · omega
  · exact absurd mu (h.2.2 u u1 (by omega))
theorem pairs_small : ∀ p ∈ pairsF 8, p.1.natAbs < 1024 ∧ p.2.natAbs < 1024 := by decide +kernel
end K65

set_option Elab.async false
set_option linter.all false
set_option maxRecDepth 100000
set_option maxHeartbeats 4000000
namespace K65
open PySem PySem.Spec PyProof.Rows L2 Rd
local macro_rules | `(tactic| walk_at "rd") => `(tactic| try simp only [tVar_, tC_, tOp_, tUn_, rI_, rI0_, rU_, eq_ii, ne_ii, eq_ss, ne_ss, eq_bb, ne_bb, tAndV_, tOrV_, tNotV_, tIf_, tTest_, tB_, tAnd_, tOr_, tNot_, tChain_, tNil_, tCons_, tTup_, tLst_, tCB_, tCall_, tSeq_, tNext_, tRet_, tRetN_, tDrop_, tBreak_, tNever_, tIfS_, tAsg_, gName_, gTup_, gCons_, gNil_, gSub_, tPar_, tPar3_, tSl_, tNoPart_, tPart_, tBM_, tFor_range1, tFor_range2, tFor_list, tFor_tup,
  L2.start, List.map_cons, List.map_nil, List.length_cons, List.length_nil, List.replicate, List.append_nil, List.nil_append, List.cons_append, List.getElem?_cons_zero, List.getElem?_cons_succ, List.set_cons_zero, List.set_cons_succ, Option.some.injEq, V.int.injEq, V.bl.injEq, V.str.injEq, V.ref.injEq, exists_eq_left, exists_eq_left', exists_eq_right, exists_eq, exists_and_left, and_true, true_and, decide_eq_true_eq, Nat.reduceAdd, Nat.reduceSub, Nat.add_zero, Nat.zero_add, List.cons.injEq, Bool.not_eq_true', decide_eq_false_iff_not, eq_self, reduceCtorEq, Bool.false_eq_true, if_true, if_false, ite_true, ite_false, and_self, tCallS_, tRaise_, and_assoc, exists_const, forall_const, forall_eq'])

def top (i : Nat) : Stmt := PySem.Challenge.pw_arrowcells_k65_walkers_step_by_step.main.body.getD i (.Pass ⟨0, 0, 0, 0⟩)
structure Tx (mg : Str → Option Value) : Prop where
  b_len : mg "len" = none
  b_int : mg "int" = none
  b_bool : mg "bool" = none
  b_isinstance : mg "isinstance" = none
  b_abs : mg "abs" = none
  b_divmod : mg "divmod" = none
  b_range : mg "range" = none
  b_max : mg "max" = none
  b_min : mg "min" = none
  b_repr : mg "repr" = none
  b_all : mg "all" = none
  b_list : mg "list" = none
  gcd : mg "gcd" = some (.builtin "math.gcd")
  far : ∃ t, mg "FAR" = some (.int (10 ^ 30) t)
  mm : ∃ t, mg "MOST_MISSED" = some (.int 1000 t)
abbrev FD (K : PySem.W.Frag) (x : Str) (st : Stmt) (f : Addr) (fd : FuncData) : Prop := FunD K x x (defArgs st) (defBody st) (defScope st) [] [] f fd
abbrev ErN (K : PySem.W.Frag) (mg : Str → Option Value) := Er K mg "InvalidNumber" "given"
section
variable {P : Program} {w : World} {K : PySem.W.Frag} {mg : Str → Option Value} {base : Heap}
def spWhole : Sp := fun vs H Q _ => ∃ x, vs = [x] ∧ Smp H x ∧ Q (.bl (wholeB x)) H
theorem sc_whole : FnScope ["value"] ["value"] (defScope (top 6)) := ⟨rfl, rfl, rfl, by decide +kernel, rfl, by decide +kernel, by decide +kernel⟩
theorem ok_whole {f : Addr} {fd : FuncData} (T : Tx mg) (F : FD K "is_whole" (top 6) f fd) : FnOk P w K mg base CX0 1 f fd ["value"] spWhole := by
  refine F.ok sc_whole (fun vs H Q E h => ?_) (fun cdv A outer s H vs Q E hr h => ?_)
  · obtain ⟨x, rfl, _⟩ := h
    rfl
  · obtain ⟨x, rfl, hx, k⟩ := h
    refine ⟨_, (pss_one (ps_ret (pe_and (pe_callB call_isi (by rfl) T.b_isinstance (by decide +kernel) (pa_cons (pv 0) (pa_cons (pe_bltn (v := .ty "int") rfl T.b_int (by decide +kernel) rfl) pa_nil))) (pe_one (pe_not (pe_callB call_isi (by rfl) T.b_isinstance (by decide +kernel) (pa_cons (pv 0) (pa_cons (pe_bltn (v := .ty "bool") rfl T.b_bool (by decide +kernel) rfl) pa_nil)))))))), ?_⟩
    cases hx with
    | non => exact ⟨_, rfl, _, _, .type "NoneType", .type "int", false, rfl, .ty _, .base .non, rfl, _, rfl, k⟩
    | bl b => exact ⟨_, rfl, _, _, .type "bool", .type "int", true, rfl, .ty _, .base (.bl _), rfl, _, rfl, _, rfl, _, _, .type "bool", .type "bool", true, rfl, .ty _, .base (.bl _), rfl, _, rfl, k⟩
    | int i => exact ⟨_, rfl, _, _, .type "int", .type "int", true, rfl, .ty _, .base (.int _), rfl, _, rfl, _, rfl, _, _, .type "int", .type "bool", false, rfl, .ty _, .base (.int _), rfl, _, rfl, k⟩
    | str x => exact ⟨_, rfl, _, _, .type "str", .type "int", false, rfl, .ty _, .base (.str _), rfl, _, rfl, k⟩
    | tup e => exact ⟨_, rfl, _, _, .type "tuple", .type "int", false, rfl, .ty _, .base (.tup e), rfl, _, rfl, k⟩
def spBetween : Sp := fun vs H Q _ => ∃ x lo hi, vs = [x, .int lo, .int hi] ∧ Smp H x ∧ Q (.bl (btw x lo hi)) H
theorem sc_between : FnScope ["value", "low", "high"] ["value", "low", "high"] (defScope (top 7)) := ⟨rfl, rfl, rfl, by decide +kernel, rfl, by decide +kernel, by decide +kernel⟩
theorem ok_between {f : Addr} {fd : FuncData} (F : FD K "is_between" (top 7) f fd) {f1 : Addr} {fd1 : FuncData} (C1 : Cal P w K mg base CX0 1 "is_whole" ["value"] spWhole f1 fd1) : FnOk P w K mg base CX0 2 f fd ["value", "low", "high"] spBetween := by
  obtain ⟨gis_whole, kis_whole, bis_whole, Fis_whole⟩ := C1
  refine F.ok sc_between (fun vs H Q E h => ?_) (fun cdv A outer s H vs Q E hr h => ?_)
  · obtain ⟨x, lo, hi, rfl, _⟩ := h
    rfl
  · obtain ⟨x, lo, hi, rfl, hx, k⟩ := h
    refine ⟨_, (pss_one (ps_ret (pe_and (pe_call Fis_whole (hr.mono (by decide)) rfl gis_whole kis_whole bis_whole .nil pass0 (pa_cons (pv 0) pa_nil)) (pe_and (pe_cmpR op_le (pv 1) (pv 0) (nomark _)) (pe_one (pe_cmpR op_le (pv 0) (pv 2) (nomark _))))))), ?_⟩
    walk_at "rd"
    simp only [spWhole]
    walk_at "rd"
    cases hx with
    | int i =>
      rw [btw_int] at k
      simp only [wholeB]
      refine ⟨.int i, ?_⟩
      walk_at "rd"
      by_cases c : lo ≤ i
      · rw [decide_eq_true c] at k; rw [if_pos c]; exact k
      · rw [decide_eq_false c] at k; rw [if_neg c]; exact k
    | non => exact ⟨.non, k⟩
    | bl b => exact ⟨.bl b, k⟩
    | str b => exact ⟨.str b, k⟩
    | tup b => exact ⟨.tup b, k⟩
def spCheck (C : Addr) : Sp := fun vs H Q E => ∃ x lo hi, vs = [x, .int lo, .int hi] ∧ Smp H x ∧ (btw x lo hi = true → Q .non H) ∧ (btw x lo hi = false → ∀ d, H d = none → E (.ref C) (some d) (upd H d (.xd [("given", x)])))
theorem sc_check : FnScope ["value", "low", "high"] ["value", "low", "high"] (defScope (top 10)) := ⟨rfl, rfl, rfl, by decide +kernel, rfl, by decide +kernel, by decide +kernel⟩
theorem ok_check {C fI : Addr} {fdI : FuncData} (R : ErN K mg C fI fdI) {f : Addr} {fd : FuncData} (F : FD K "check_number" (top 10) f fd) {f1 : Addr} {fd1 : FuncData} (C1 : Cal P w K mg base CX0 2 "is_between" ["value", "low", "high"] spBetween f1 fd1) : FnOk P w K mg base (L2.CX P w) 4 f fd ["value", "low", "high"] (spCheck C) := by
  obtain ⟨gis_between, kis_between, bis_between, Fis_between⟩ := C1
  refine F.ok sc_check (fun vs H Q E h => ?_) (fun cdv A outer s H vs Q E hr h => ?_)
  · obtain ⟨x, lo, hi, rfl, _⟩ := h
    rfl
  · obtain ⟨x, lo, hi, rfl, hx, k1, k2⟩ := h
    refine ⟨_, (pss_one (ps_if (pt_not (pt_val (pe_call Fis_between (hr.mono (by decide)) rfl gis_between kis_between bis_between .nil pass0 (pa_cons (pv 0) (pa_cons (pv 1) (pa_cons (pv 2) pa_nil)))))) (pss_one (ps_raiseE rfl R hr (takes_of rfl rfl rfl rfl) (pv 0) mono_var)) pss_nil)), ?_⟩
    walk_at "rd"
    simp only [spBetween]
    walk_at "rd"
    refine ⟨hx, ?_⟩
    cases e : btw x lo hi with
    | true => exact k1 e
    | false => exact k2 e
def bad2 (t r : V) : Option V := if btw t 0 (10 ^ 30) = true then (if btw r 1 (10 ^ 30) = true then none else some r) else some t
def bad3 (s f l : V) (most : Int) : Option V := if btw s 0 most = true then (if btw f (iv s) most = true then (if btw l 0 most = true then none else some l) else some f) else some s
def spTrack (C : Addr) : Sp := fun vs H Q E => ∃ t r, vs = [t, r] ∧ Smp H t ∧ Smp H r ∧ (bad2 t r = none → Q .non H) ∧ (∀ x, bad2 t r = some x → ∀ d, H d = none → E (.ref C) (some d) (upd H d (.xd [("given", x)])))
theorem sc_track : FnScope ["tail", "ring"] ["tail", "ring"] (defScope (top 11)) := ⟨rfl, rfl, rfl, by decide +kernel, rfl, by decide +kernel, by decide +kernel⟩
theorem ok_track {C : Addr} (T : Tx mg) {f : Addr} {fd : FuncData} (F : FD K "check_track" (top 11) f fd) {f1 : Addr} {fd1 : FuncData} (C1 : Cal P w K mg base (L2.CX P w) 4 "check_number" ["value", "low", "high"] (spCheck C) f1 fd1) : FnOk P w K mg base (L2.CX P w) 5 f fd ["tail", "ring"] (spTrack C) := by
  obtain ⟨gcheck_number, kcheck_number, bcheck_number, Fcheck_number⟩ := C1
  obtain ⟨tF, hFAR⟩ := T.far
  refine F.ok sc_track (fun vs H Q E h => ?_) (fun cdv A outer s H vs Q E hr h => ?_)
  · obtain ⟨t, r, rfl, _⟩ := h
    rfl
  · obtain ⟨t, r, rfl, ht, hr', k1, k2⟩ := h
    refine ⟨_, (pss_cons (ps_expr (pe_call Fcheck_number (hr.mono (by decide)) rfl gcheck_number kcheck_number bcheck_number .nil (passes_call (takes_of rfl rfl rfl rfl) (fun _ _ _ _ z => z)) (pa_cons (pv 0) (pa_cons pe_int (pa_cons (pe_glob (v := .int (10 ^ 30)) rfl hFAR ⟨_, rfl⟩) pa_nil)))))
        (pss_one (ps_expr (pe_call Fcheck_number (hr.mono (by decide)) rfl gcheck_number kcheck_number bcheck_number .nil (passes_call (takes_of rfl rfl rfl rfl) (fun _ _ _ _ z => z)) (pa_cons (pv 1) (pa_cons pe_int (pa_cons (pe_glob (v := .int (10 ^ 30)) rfl hFAR ⟨_, rfl⟩) pa_nil))))))), ?_⟩
    walk_at "rd"
    simp only [spCheck]
    walk_at "rd"
    refine ⟨ht, fun e => ⟨hr', fun e2 => ?_, fun e2 => ?_⟩, fun e => ?_⟩
    · exact k1 (by unfold bad2; rw [if_pos e, if_pos e2])
    · exact k2 r (by unfold bad2; rw [if_pos e, if_neg (by rw [e2]; exact Bool.false_ne_true)])
    · exact k2 t (by unfold bad2; rw [if_neg (by rw [e]; exact Bool.false_ne_true)])
def spPaces (C : Addr) : Sp := fun vs H Q E => ∃ s f l most, vs = [s, f, l, .int most] ∧ Smp H s ∧ Smp H f ∧ Smp H l ∧ (bad3 s f l most = none → Q .non H) ∧ (∀ x, bad3 s f l most = some x → ∀ d, H d = none → E (.ref C) (some d) (upd H d (.xd [("given", x)])))
theorem sc_paces : FnScope ["slow", "fast", "lead", "most"] ["slow", "fast", "lead", "most"] (defScope (top 12)) := ⟨rfl, rfl, rfl, by decide +kernel, rfl, by decide +kernel, by decide +kernel⟩
theorem ok_paces {C : Addr} {f : Addr} {fd : FuncData} (F : FD K "check_paces" (top 12) f fd) {f1 : Addr} {fd1 : FuncData} (C1 : Cal P w K mg base (L2.CX P w) 4 "check_number" ["value", "low", "high"] (spCheck C) f1 fd1) : FnOk P w K mg base (L2.CX P w) 5 f fd ["slow", "fast", "lead", "most"] (spPaces C) := by
  obtain ⟨gcheck_number, kcheck_number, bcheck_number, Fcheck_number⟩ := C1
  refine F.ok sc_paces (fun vs H Q E h => ?_) (fun cdv A outer s H vs Q E hr h => ?_)
  · obtain ⟨t, r, l, m, rfl, _⟩ := h
    rfl
  · obtain ⟨t, r, l, m, rfl, ht, hr', hl, k1, k2⟩ := h
    refine ⟨_, (pss_cons (ps_expr (pe_call Fcheck_number (hr.mono (by decide)) rfl gcheck_number kcheck_number bcheck_number .nil (passes_call (takes_of rfl rfl rfl rfl) (fun _ _ _ _ z => z)) (pa_cons (pv 0) (pa_cons pe_int (pa_cons (pv 3) pa_nil)))))
        (pss_cons (ps_expr (pe_call Fcheck_number (hr.mono (by decide)) rfl gcheck_number kcheck_number bcheck_number .nil (passes_call (takes_of rfl rfl rfl rfl) (fun _ _ _ _ z => z)) (pa_cons (pv 1) (pa_cons (pv 0) (pa_cons (pv 3) pa_nil)))))
        (pss_one (ps_expr (pe_call Fcheck_number (hr.mono (by decide)) rfl gcheck_number kcheck_number bcheck_number .nil (passes_call (takes_of rfl rfl rfl rfl) (fun _ _ _ _ z => z)) (pa_cons (pv 2) (pa_cons pe_int (pa_cons (pv 3) pa_nil)))))))), ?_⟩
    walk_at "rd"
    simp only [spCheck]
    walk_at "rd"
    have n : ∀ {b : Bool}, b = false → ¬ b = true := fun e z => by rw [e] at z; cases z
    refine ⟨ht, fun e => ?_, fun e => ?_⟩
    · obtain ⟨i, rfl, _⟩ := btw_of e
      refine ⟨_, rfl, hr', fun e2 => ⟨hl, fun e3 => ?_, fun e3 => ?_⟩, fun e2 => ?_⟩
      · exact k1 (by unfold bad3; rw [if_pos e]; show (if btw r i m = true then _ else _) = _; rw [if_pos e2, if_pos e3])
      · exact k2 l (by unfold bad3; rw [if_pos e]; show (if btw r i m = true then _ else _) = _; rw [if_pos e2, if_neg (n e3)])
      · exact k2 r (by unfold bad3; rw [if_pos e]; show (if btw r i m = true then _ else _) = _; rw [if_neg (n e2)])
    · exact k2 t (by unfold bad3; rw [if_neg (n e)])
end
end K65

set_option Elab.async false
set_option linter.all false
set_option maxRecDepth 100000
set_option maxHeartbeats 4000000
namespace K65
open PySem PySem.Spec PyProof.Rows L2 Rd
local macro_rules | `(tactic| walk_at "rd") => `(tactic| try simp only [tVar_, tC_, tOp_, tUn_, rI_, rI0_, rU_, eq_ii, ne_ii, eq_ss, ne_ss, eq_bb, ne_bb, tAndV_, tOrV_, tNotV_, tIf_, tTest_, tB_, tAnd_, tOr_, tNot_, tChain_, tNil_, tCons_, tTup_, tLst_, tCB_, tCall_, tSeq_, tNext_, tRet_, tRetN_, tDrop_, tBreak_, tNever_, tIfS_, tAsg_, gName_, gTup_, gCons_, gNil_, gSub_, tPar_, tPar3_, tSl_, tNoPart_, tPart_, tBM_, tFor_range1, tFor_range2, tFor_list, tFor_tup,
  L2.start, List.map_cons, List.map_nil, List.length_cons, List.length_nil, List.replicate, List.append_nil, List.nil_append, List.cons_append, List.getElem?_cons_zero, List.getElem?_cons_succ, List.set_cons_zero, List.set_cons_succ, Option.some.injEq, V.int.injEq, V.bl.injEq, V.str.injEq, V.ref.injEq, exists_eq_left, exists_eq_left', exists_eq_right, exists_eq, exists_and_left, and_true, true_and, decide_eq_true_eq, Nat.reduceAdd, Nat.reduceSub, Nat.add_zero, Nat.zero_add, List.cons.injEq, Bool.not_eq_true', decide_eq_false_iff_not, eq_self, reduceCtorEq, Bool.false_eq_true, if_true, if_false, ite_true, ite_false, and_self, tCallS_, rGcd_, tCallK_, gUnl_, tRaise_, and_assoc, exists_const, forall_const, forall_eq'])

section
variable {P : Program} {w : World} {K : PySem.W.Frag} {mg : Str → Option Value} {base : Heap}
def spStop : Sp := fun vs H Q _ => ∃ t r n : Int, vs = [.int t, .int r, .int n] ∧ 0 < r ∧ Q (.int (stopF t r n)) H
theorem sc_stop_after : FnScope ["tail", "ring", "steps"] ["tail", "ring", "steps"] (defScope (top 13)) := ⟨rfl, rfl, rfl, by decide +kernel, rfl, by decide +kernel, by decide +kernel⟩
theorem ok_stop_after {f : Addr} {fd : FuncData} (F : FD K "stop_after" (top 13) f fd) : FnOk P w K mg base CX0 1 f fd ["tail", "ring", "steps"] spStop := by
  refine F.ok sc_stop_after (fun vs H Q E h => ?_) (fun cdv A outer s H vs Q E hr h => ?_)
  · obtain ⟨t, r, n, rfl, _⟩ := h
    rfl
  · obtain ⟨t, r, n, rfl, hr0, k⟩ := h
    have nd := sc_stop_after.nd
    refine ⟨_, (pss_one (ps_ret (pe_ifExp (pt_cmpR op_lt (pv 2) (pv 0) (nomark _)) (pv 2) (pe_op op_add (pv 0) (pe_op op_mod (pe_op op_sub (pv 2) (pv 0)) (pv 1)))))), ?_⟩
    walk_at "rd"
    split
    · rename_i c; rw [stopF, if_pos c] at k; exact k
    · rename_i c; rw [stopF, if_neg c] at k; exact ⟨hr0, k⟩
def slotN (i : Nat) (σ : L2.St) : Nat := match σ[i]? with
  | some (some (V.int r)) => r.toNat
  | _ => 0
def PInv (a m : Int) (H : Hp) : L2.St → Hp → Prop := fun σ H' => ∃ (L R : Nat) (l g : Int) (t : Option V), σ = [some (V.int a), some (V.int m), some (V.int L), some (V.int R), some (V.int l), some (V.int g), t] ∧ InvS a m L R l g ∧ Same H H'
def spInv : Sp := fun vs H Q _ => ∃ a m : Int, vs = [.int a, .int m] ∧ 0 ≤ a ∧ 1 ≤ m ∧ m ≤ 10 ^ 30 ∧ Nat.gcd a.natAbs m.natAbs = 1 ∧ ∀ (f : Int) (H' : Hp), Same H H' → 0 ≤ f → f < m → m ∣ a * f - 1 → Q (.int f) H'
theorem sc_inverse : FnScope ["number", "modulus", "left", "right", "last", "found", "times"] ["number", "modulus"] (defScope (top 14)) := ⟨rfl, rfl, rfl, by decide +kernel, rfl, by decide +kernel, by decide +kernel⟩
theorem ok_inverse {f : Addr} {fd : FuncData} (F : FD K "inverse" (top 14) f fd) : FnOk P w K mg base CX0 1 f fd ["number", "modulus"] spInv := by
  refine F.ok sc_inverse (fun vs H Q E h => ?_) (fun cdv A outer s H vs Q E hr h => ?_)
  · obtain ⟨a, m, rfl, _⟩ := h
    rfl
  · obtain ⟨a, m, rfl, ha, hm, hb, hg, k⟩ := h
    have nd := sc_inverse.nd
    refine ⟨_, (pss_cons (ps_asg (pe_tup (pa_cons (pv 1) (pa_cons (pe_op op_mod (pv 0) (pv 1)) (pa_cons pe_int (pa_cons pe_int pa_nil))))) (pg_tup rfl (pgs_cons (pg_name (i := 2) nd rfl (Or.inl rfl)) (pgs_cons (pg_name (i := 3) nd rfl (Or.inl rfl)) (pgs_cons (pg_name (i := 4) nd rfl (Or.inl rfl)) (pgs_cons (pg_name (i := 5) nd rfl (Or.inl rfl)) pgs_nil))))))
        (pss_cons (ps_while (passes_of rfl) (pt_cmpR op_gt (pv 3) pe_int (nomark _)) (pss_cons (ps_set (i := 6) nd rfl (Or.inl rfl) (pe_op op_fdivW (pv 2) (pv 3)))
        (pss_cons (ps_par rfl nd (i := 2) (j := 3) rfl rfl (by decide) rfl rfl (pa_cons (pv 3) (pa_cons (pe_op op_sub (pv 2) (pe_op op_mulW (pv 6) (pv 3))) pa_nil)) rfl)
        (pss_one (ps_par rfl nd (i := 4) (j := 5) rfl rfl (by decide) rfl rfl (pa_cons (pv 5) (pa_cons (pe_op op_sub (pv 4) (pe_op op_mulW (pv 6) (pv 5))) pa_nil)) rfl)))))
        (pss_one (ps_ret (pe_op op_mod (pv 5) (pv 1)))))), ?_⟩
    walk_at "rd"
    refine ⟨by omega, by decide, fun p hp => ?_⟩
    refine ⟨_, SqT.of upd_same, rfl, _, _, rfl, _, _, rfl, _, _, rfl, _, _, rfl, rfl, ?_⟩
    have i0 := InvS.start hm ha hg
    have qm := Int.emod_nonneg a (show m ≠ 0 by omega)
    refine while_by (PInv a m H) (fun σ _ => slotN 3 σ) ⟨m.toNat, (a % m).toNat, 0, 1, none, by rw [Int.toNat_of_nonneg (show 0 ≤ m by omega), Int.toNat_of_nonneg qm], i0, same_new hp⟩ ?_ ?_
    · rintro σ H' ⟨L, R, l, g, t, rfl, I, hs⟩
      have hb' : m < 2 ^ 100 := by omega
      have b1 := I.b1; have b2 := I.b2; have bg := I.bf
      have dL := Nat.div_le_self L R
      walk_at "rd"
      by_cases c : (1 : Int) < (R : Int)
      · rw [if_pos c]
        have w2 : ((L : Int) / (R : Int)).natAbs < 2 ^ 100 := by
          rw [show (L : Int) / (R : Int) = ((L / R : Nat) : Int) from rfl, Int.natAbs_natCast]
          omega
        refine ⟨wide_div (by omega) (b := 100) (by omega) (by decide) (by decide), wide_mul (a := 100) (b := 100) w2 (by omega) (by decide) (by decide) (by decide), wide_mul (a := 100) (b := 100) w2 (by omega) (by decide) (by decide) (by decide), ?_⟩
        refine ⟨⟨R, L % R, g, l - ((L / R : Nat) : Int) * g, some (V.int ((L / R : Nat) : Int)), ?_, I.step (by omega), hs⟩, ?_⟩
        · rw [cast_mod]; rfl
        · have := Nat.mod_lt L (show 0 < R by omega)
          show ((L : Int) - ((L / R : Nat) : Int) * R).toNat < (R : Int).toNat
          have e := cast_mod L R
          omega
      · rw [if_neg c]
        obtain ⟨f1, f2, f3⟩ := I.fin hm (by omega)
        exact ⟨by omega, k _ _ hs f1 f2 f3⟩
    · rintro σ H' Q1 Q2 f ⟨v, e, i, j, e1, e2, b, e3, q⟩
      exact ⟨v, e, i, j, e1, e2, b, e3, f _ _ q⟩
def optV : Option Int → V
  | none => .non
  | some t => .int t
def spFirst : Sp := fun vs H Q _ => ∃ t r s d l : Int, vs = [.int t, .int r, .int s, .int d, .int l] ∧ (0 ≤ t ∧ t ≤ 10 ^ 30) ∧ (1 ≤ r ∧ r ≤ 10 ^ 30) ∧ (0 ≤ s ∧ s ≤ 10 ^ 30) ∧ (0 ≤ d ∧ d ≤ 10 ^ 30) ∧ (0 ≤ l ∧ l ≤ 10 ^ 30) ∧ ∀ (o : Option Int) (H' : Hp), Same H H' → IsFirst t r s d l o → Q (optV o) H'
theorem sc_first : FnScope ["tail", "ring", "slow", "gain", "lead", "part", "least", "period", "rest"] ["tail", "ring", "slow", "gain", "lead"] (defScope (top 15)) := ⟨rfl, rfl, rfl, by decide +kernel, rfl, by decide +kernel, by decide +kernel⟩
theorem ok_first {f : Addr} {fd : FuncData} (T : Tx mg) (F : FD K "first_turn" (top 15) f fd) {f1 : Addr} {fd1 : FuncData} (C1 : Cal P w K mg base CX0 1 "inverse" ["number", "modulus"] spInv f1 fd1) : FnOk P w K mg base CX0 2 f fd ["tail", "ring", "slow", "gain", "lead"] spFirst := by
  obtain ⟨ginverse, kinverse, binverse, Finverse⟩ := C1
  refine F.ok sc_first (fun vs H Q E h => ?_) (fun cdv A outer s H vs Q E hr h => ?_)
  · obtain ⟨_, _, _, _, _, rfl, _⟩ := h
    rfl
  · obtain ⟨t, r, s, d, l, rfl, ht, hr', hs, hd, hl, k⟩ := h
    have nd := sc_first.nd
    refine ⟨_, (pss_cons (ps_if (PW.pt (pw_and (pt_cmpR op_eq (pv 4) pe_int (nomark _)) (pw_and1 (pt_cmpR op_eq (pv 3) pe_int (nomark _))))) (pss_one (ps_ret pe_int)) pss_nil)
        (pss_cons (ps_set (i := 5) nd rfl (Or.inl rfl) (pe_callBfun cr_gcd rfl T.gcd (pa_cons (pv 3) (pa_cons (pv 1) pa_nil))))
        (pss_cons (ps_if (PW.pt (pw_or (PW.pt (pw_and (pt_cmpR op_eq (pv 2) pe_int (nomark _)) (pw_and1 (pt_cmpR op_gt (pv 0) pe_int (nomark _))))) (pw_or1 (pt_cmpR op_ne (pe_op op_mod (pv 4) (pv 5)) pe_int (nomark _))))) (pss_one (ps_ret pe_non)) pss_nil)
        (pss_cons (ps_set (i := 6) nd rfl (Or.inl rfl) (pe_ifExp (pt_cmpR op_eq (pv 2) pe_int (nomark _)) pe_int (pe_callB (call_max2 rfl) (by rfl) T.b_max (by decide +kernel) (pa_cons pe_int (pa_cons (pe_op op_fdivW (pe_op op_sub (pe_op op_add (pv 0) (pv 2)) pe_int) (pv 2)) pa_nil)))))
        (pss_cons (ps_set (i := 7) nd rfl (Or.inl rfl) (pe_op op_fdivW (pv 1) (pv 5)))
        (pss_cons (ps_set (i := 8) nd rfl (Or.inl rfl) (pe_op op_mod (pe_op op_mulW (pe_op op_sub (pv 1) (pe_op op_fdivW (pv 4) (pv 5))) (pe_call Finverse (hr.mono (by decide)) rfl ginverse kinverse binverse .nil pass0 (pa_cons (pe_op op_fdivW (pv 3) (pv 5)) (pa_cons (pv 7) pa_nil)))) (pv 7)))
        (pss_one (ps_ret (pe_op op_add (pv 6) (pe_op op_mod (pe_op op_sub (pv 8) (pv 6)) (pv 7))))))))))), ?_⟩
    refine sq fun U hU => ?_
    walk_at "rd"
    by_cases c1 : l = 0 ∧ d = 0
    · rw [if_pos c1.1, if_pos c1.2]
      refine k (some 1) H (Same.refl H) ?_
      rw [c1.1, c1.2]; exact first_zero
    refine Rd.ite2n c1 (hU _ _ ?_)
    clear hU
    refine sq fun U hU => ?_
    walk_at "rd"
    obtain ⟨g, eg, g0, eR, ed, p0, d0, gg, gR, pR, dd⟩ := parted hd.1 (show 0 < r by omega)
    rw [← eg]
    refine hU _ _ ?_
    clear hU
    refine sq fun U hU => ?_
    walk_at "rd"
    by_cases c2 : (s = 0 ∧ 0 < t) ∨ l % g ≠ 0
    · have fin : Q V.non H := by
        refine k none H (Same.refl H) (first_none c1 hl.1 hd.1 ?_)
        rcases c2 with z | z
        · exact .inl z
        · right
          rw [gcd_int, ← eg]
          intro dv
          exact z (Int.emod_eq_zero_of_dvd dv)
      by_cases a1 : s = 0
      · rw [if_pos a1]
        by_cases a2 : 0 < t
        · rw [if_pos a2]; exact fin
        · rw [if_neg a2]
          have a3 : l % g ≠ 0 := by
            rcases c2 with z | z
            · exact absurd z.2 a2
            · exact z
          refine ⟨g0, ?_⟩
          rw [if_pos a3]; exact fin
      · rw [if_neg a1]
        have a3 : l % g ≠ 0 := by
          rcases c2 with z | z
          · exact absurd z.1 a1
          · exact z
        refine ⟨g0, ?_⟩
        rw [if_pos a3]; exact fin
    have c3 : l % g = 0 := Classical.not_not.mp fun z => c2 (.inr z)
    have c4 : ¬ (s = 0 ∧ 0 < t) := fun z => c2 (.inl z)
    have go : U [some (V.int t), some (V.int r), some (V.int s), some (V.int d), some (V.int l), some (V.int g), none, none, none] H := by
      refine hU _ _ ?_
      clear hU
      refine sq fun U hU => ?_
      walk_at "rd"
      have st : U [some (V.int t), some (V.int r), some (V.int s), some (V.int d), some (V.int l), some (V.int g), some (V.int (if s = 0 then 1 else max 1 ((t + s - 1) / s))), none, none] H := by
        refine hU _ _ ?_
        clear hU
        walk_at "rd"
        simp only [spInv]
        walk_at "rd"
        have gw : CDivW r g := wide_div g0 (b := 100) (by omega) (by decide) (by decide)
        have gw2 : CDivW l g := wide_div g0 (b := 100) (by omega) (by decide) (by decide)
        have gw3 : CDivW d g := wide_div g0 (b := 100) (by omega) (by decide) (by decide)
        refine ⟨gw, gw2, gw3, d0, by omega, by omega, gg, fun f H' hs' f0 f1 f2 => ?_⟩
        have dl : g * (l / g) = l := Int.mul_ediv_cancel' (Int.dvd_of_emod_eq_zero c3)
        have l0 : 0 ≤ l / g := Int.ediv_nonneg hl.1 (by omega)
        have l1 : l / g ≤ l := Int.ediv_le_self _ hl.1
        refine ⟨wide_mul (a := 120) (b := 120) (by omega) (by omega) (by decide) (by decide) (by decide), p0, p0, ?_⟩
        refine k (some _) H' hs' (first_by (v := f) (rest := (r - l / g) * f % (r / g)) ht.1 hs.1 p0 g0 eR ed dl.symm c1 hl.1 hd.1 (fun z => ?_) f2 ?_)
        · have : ¬ 0 < t := fun q => c4 ⟨z, q⟩
          omega
        · have e1 := Int.dvd_self_sub_emod (x := (r - l / g) * f) (m := r / g)
          have e2 : r / g ∣ r * f := Int.dvd_mul_of_dvd_left ⟨g, by rw [Int.mul_comm]; exact eR⟩
          have e3 := Int.dvd_sub e2 e1
          rwa [show r * f - ((r - l / g) * f - (r - l / g) * f % (r / g)) = (r - l / g) * f % (r / g) + l / g * f by rw [Int.sub_mul]; omega] at e3
      by_cases a1 : s = 0
      · rw [if_pos a1] at st ⊢
        exact st
      · rw [if_neg a1] at st ⊢
        refine ⟨wide_div (by omega) (b := 100) (by omega) (by decide) (by decide), ?_⟩
        rw [max_if]
        exact st
    by_cases a1 : s = 0
    · rw [if_pos a1, if_neg (fun z => c4 ⟨a1, z⟩)]
      refine ⟨g0, ?_⟩
      rw [if_neg (fun z => z c3)]; exact go
    · rw [if_neg a1]
      refine ⟨g0, ?_⟩
      rw [if_neg (fun z => z c3)]; exact go
def lowT (t r : V) : Prop := bad2 t r = none
theorem bad2_none {t r : V} (h : bad2 t r = none) : ∃ a b : Int, t = .int a ∧ r = .int b ∧ (0 ≤ a ∧ a ≤ 10 ^ 30) ∧ (1 ≤ b ∧ b ≤ 10 ^ 30) := by
  unfold bad2 at h
  by_cases h1 : btw t 0 (10 ^ 30) = true
  · rw [if_pos h1] at h
    by_cases h2 : btw r 1 (10 ^ 30) = true
    · obtain ⟨a, e1, a1, a2⟩ := btw_of h1
      obtain ⟨b, e2, b1, b2⟩ := btw_of h2
      exact ⟨a, b, e1, e2, ⟨a1, a2⟩, ⟨b1, b2⟩⟩
    · rw [if_neg h2] at h; cases h
  · rw [if_neg h1] at h; cases h
theorem bad3_none {s f l : V} {m : Int} (h : bad3 s f l m = none) : ∃ a b c : Int, s = .int a ∧ f = .int b ∧ l = .int c ∧ (0 ≤ a ∧ a ≤ m) ∧ (a ≤ b ∧ b ≤ m) ∧ (0 ≤ c ∧ c ≤ m) := by
  unfold bad3 at h
  by_cases h1 : btw s 0 m = true
  · rw [if_pos h1] at h
    by_cases h2 : btw f (iv s) m = true
    · rw [if_pos h2] at h
      by_cases h3 : btw l 0 m = true
      · obtain ⟨a, e1, a1, a2⟩ := btw_of h1
        obtain ⟨b, e2, b1, b2⟩ := btw_of h2
        obtain ⟨c, e3, c1, c2⟩ := btw_of h3
        rw [e1] at b1
        exact ⟨a, b, c, e1, e2, e3, ⟨a1, a2⟩, ⟨b1, b2⟩, ⟨c1, c2⟩⟩
      · rw [if_neg h3] at h; cases h
    · rw [if_neg h2] at h; cases h
  · rw [if_neg h1] at h; cases h
/-- stop_at -/
def badS (t r n : V) : Option V := (bad2 t r).or (if btw n 0 (10 ^ 30) = true then none else some n)
def spStopAt (C : Addr) : Sp := fun vs H Q E => ∃ t r n, vs = [t, r, n] ∧ Smp H t ∧ Smp H r ∧ Smp H n ∧ (badS t r n = none → Q (.int (stopF (iv t) (iv r) (iv n))) H) ∧ (∀ x, badS t r n = some x → ∀ d, H d = none → E (.ref C) (some d) (upd H d (.xd [("given", x)])))
theorem sc_stop_at : FnScope ["tail", "ring", "steps"] ["tail", "ring", "steps"] (defScope (top 16)) := ⟨rfl, rfl, rfl, by decide +kernel, rfl, by decide +kernel, by decide +kernel⟩
theorem ok_stop_at {C : Addr} (T : Tx mg) {f : Addr} {fd : FuncData} (F : FD K "stop_at" (top 16) f fd) {f1 f2 f3 : Addr} {fd1 fd2 fd3 : FuncData} (C1 : Cal P w K mg base (L2.CX P w) 4 "check_number" ["value", "low", "high"] (spCheck C) f1 fd1)
    (C2 : Cal P w K mg base (L2.CX P w) 5 "check_track" ["tail", "ring"] (spTrack C) f2 fd2) (C3 : Cal P w K mg base CX0 1 "stop_after" ["tail", "ring", "steps"] spStop f3 fd3) : FnOk P w K mg base (L2.CX P w) 6 f fd ["tail", "ring", "steps"] (spStopAt C) := by
  obtain ⟨gcheck_number, kcheck_number, bcheck_number, Fcheck_number⟩ := C1
  obtain ⟨gcheck_track, kcheck_track, bcheck_track, Fcheck_track⟩ := C2
  obtain ⟨gstop_after, kstop_after, bstop_after, Fstop_after⟩ := C3
  obtain ⟨tF, hFAR⟩ := T.far
  refine F.ok sc_stop_at (fun vs H Q E h => ?_) (fun cdv A outer s H vs Q E hr h => ?_)
  · obtain ⟨_, _, _, rfl, _⟩ := h
    rfl
  · obtain ⟨t, r, n, rfl, ht, hr', hn, k1, k2⟩ := h
    refine ⟨_, (pss_cons (ps_expr (pe_call Fcheck_track (hr.mono (by decide)) rfl gcheck_track kcheck_track bcheck_track .nil (passes_call (takes_of rfl rfl rfl rfl) (fun _ _ _ _ z => z)) (pa_cons (pv 0) (pa_cons (pv 1) pa_nil))))
        (pss_cons (ps_expr (pe_call Fcheck_number (hr.mono (by decide)) rfl gcheck_number kcheck_number bcheck_number .nil (passes_call (takes_of rfl rfl rfl rfl) (fun _ _ _ _ z => z)) (pa_cons (pv 2) (pa_cons pe_int (pa_cons (pe_glob (v := .int (10 ^ 30)) rfl hFAR ⟨_, rfl⟩) pa_nil)))))
        (pss_one (ps_ret (pe_call Fstop_after (hr.mono (by decide)) rfl gstop_after kstop_after bstop_after .nil pass0 (pa_cons (pv 0) (pa_cons (pv 1) (pa_cons (pv 2) pa_nil)))))))), ?_⟩
    refine sq fun U hU => ?_
    walk_at "rd"
    refine ⟨t, r, rfl, ht, hr', fun e => hU _ _ ?_, fun x e d hd => k2 x (by unfold badS; rw [e]; rfl) d hd⟩
    clear hU
    obtain ⟨a, b, rfl, rfl, ha, hb⟩ := bad2_none e
    refine sq fun U hU => ?_
    walk_at "rd"
    refine ⟨n, 0, 10 ^ 30, rfl, hn, fun e2 => hU _ _ ?_, fun e2 d hd => k2 n (by unfold badS; rw [e, e2]; rfl) d hd⟩
    clear hU
    obtain ⟨c, rfl, _⟩ := btw_of e2
    walk_at "rd"
    exact ⟨a, b, c, rfl, by omega, k1 (by unfold badS; rw [e, e2]; rfl)⟩
def badM (t r s f l : V) : Option V := (bad2 t r).or (bad3 s f l (10 ^ 30))
def spMeet (C : Addr) : Sp := fun vs H Q E => ∃ t r s f l, vs = [t, r, s, f, l] ∧ Smp H t ∧ Smp H r ∧ Smp H s ∧ Smp H f ∧ Smp H l ∧
  (badM t r s f l = none → ∀ (o : Option Int) (H' : Hp), Same H H' → IsFirst (iv t) (iv r) (iv s) (iv f - iv s) (iv l) o → Q (optV o) H') ∧ (∀ x, badM t r s f l = some x → ∀ d, H d = none → E (.ref C) (some d) (upd H d (.xd [("given", x)])))
theorem sc_meet : FnScope ["tail", "ring", "slow", "fast", "lead"] ["tail", "ring", "slow", "fast", "lead"] (defScope (top 17)) := ⟨rfl, rfl, rfl, by decide +kernel, rfl, by decide +kernel, by decide +kernel⟩
theorem ok_meet {C : Addr} (T : Tx mg) {f : Addr} {fd : FuncData} (F : FD K "meet" (top 17) f fd) {f1 f2 f3 : Addr} {fd1 fd2 fd3 : FuncData} (C1 : Cal P w K mg base (L2.CX P w) 5 "check_paces" ["slow", "fast", "lead", "most"] (spPaces C) f1 fd1)
    (C2 : Cal P w K mg base (L2.CX P w) 5 "check_track" ["tail", "ring"] (spTrack C) f2 fd2) (C3 : Cal P w K mg base CX0 2 "first_turn" ["tail", "ring", "slow", "gain", "lead"] spFirst f3 fd3) : FnOk P w K mg base (L2.CX P w) 6 f fd ["tail", "ring", "slow", "fast", "lead"] (spMeet C) := by
  obtain ⟨gcheck_paces, kcheck_paces, bcheck_paces, Fcheck_paces⟩ := C1
  obtain ⟨gcheck_track, kcheck_track, bcheck_track, Fcheck_track⟩ := C2
  obtain ⟨gfirst_turn, kfirst_turn, bfirst_turn, Ffirst_turn⟩ := C3
  obtain ⟨tF, hFAR⟩ := T.far
  refine F.ok sc_meet (fun vs H Q E h => ?_) (fun cdv A outer s H vs Q E hr h => ?_)
  · obtain ⟨_, _, _, _, _, rfl, _⟩ := h
    rfl
  · obtain ⟨t, r, s, f, l, rfl, ht, hr', hs, hf, hl, k1, k2⟩ := h
    refine ⟨_, (pss_cons (ps_expr (pe_call Fcheck_track (hr.mono (by decide)) rfl gcheck_track kcheck_track bcheck_track .nil (passes_call (takes_of rfl rfl rfl rfl) (fun _ _ _ _ z => z)) (pa_cons (pv 0) (pa_cons (pv 1) pa_nil))))
        (pss_cons (ps_expr (pe_call Fcheck_paces (hr.mono (by decide)) rfl gcheck_paces kcheck_paces bcheck_paces .nil (passes_call (takes_of rfl rfl rfl rfl) (fun _ _ _ _ z => z)) (pa_cons (pv 2) (pa_cons (pv 3) (pa_cons (pv 4) (pa_cons (pe_glob (v := .int (10 ^ 30)) rfl hFAR ⟨_, rfl⟩) pa_nil))))))
        (pss_one (ps_ret (pe_call Ffirst_turn (hr.mono (by decide)) rfl gfirst_turn kfirst_turn bfirst_turn .nil pass0 (pa_cons (pv 0) (pa_cons (pv 1) (pa_cons (pv 2) (pa_cons (pe_op op_sub (pv 3) (pv 2)) (pa_cons (pv 4) pa_nil)))))))))), ?_⟩
    refine sq fun U hU => ?_
    walk_at "rd"
    refine ⟨t, r, rfl, ht, hr', fun e => hU _ _ ?_, fun x e d hd => k2 x (by unfold badM; rw [e]; rfl) d hd⟩
    clear hU
    obtain ⟨a, b, rfl, rfl, ha, hb⟩ := bad2_none e
    refine sq fun U hU => ?_
    walk_at "rd"
    refine ⟨s, f, l, 10 ^ 30, rfl, hs, hf, hl, fun e2 => hU _ _ ?_, fun x e2 d hd => k2 x (by unfold badM; rw [e, e2]; rfl) d hd⟩
    clear hU
    obtain ⟨c, g, m, rfl, rfl, rfl, hc, hg, hm⟩ := bad3_none e2
    walk_at "rd"
    exact ⟨a, b, c, g - c, m, rfl, ha, hb, hc, by omega, hm, k1 (by unfold badM; rw [e, e2]; rfl)⟩
def spEvery : Sp := fun vs H Q _ => ∃ s d l : Int, vs = [.int s, .int d, .int l] ∧ Q (.bl (alwaysF s d l)) H
theorem sc_every : FnScope ["slow", "gain", "lead"] ["slow", "gain", "lead"] (defScope (top 18)) := ⟨rfl, rfl, rfl, by decide +kernel, rfl, by decide +kernel, by decide +kernel⟩
theorem ok_every {f : Addr} {fd : FuncData} (F : FD K "meet_everywhere" (top 18) f fd) : FnOk P w K mg base CX0 1 f fd ["slow", "gain", "lead"] spEvery := by
  refine F.ok sc_every (fun vs H Q E h => ?_) (fun cdv A outer s H vs Q E hr h => ?_)
  · obtain ⟨_, _, _, rfl, _⟩ := h
    rfl
  · obtain ⟨s, d, l, rfl, k⟩ := h
    refine ⟨_, (pss_cons (ps_if (PW.pt (pw_and (pt_cmpR op_eq (pv 2) pe_int (nomark _)) (pw_and1 (pt_cmpR op_eq (pv 1) pe_int (nomark _))))) (pss_one (ps_ret pe_bl)) pss_nil)
        (pss_one (ps_ret (pe_and (pe_cmpR op_gt (pv 0) pe_int (nomark _)) (pe_and (pe_cmpR op_gt (pv 1) pe_int (nomark _)) (pe_one (pe_cmpR op_eq (pe_op op_mod (pv 2) (pv 1)) pe_int (nomark _)))))))), ?_⟩
    refine sq fun U hU => ?_
    walk_at "rd"
    by_cases c : l = 0 ∧ d = 0
    · rw [if_pos c.1, if_pos c.2]
      rwa [alwaysF, decide_eq_true c.1, decide_eq_true c.2] at k
    refine ite2n c (hU _ _ ?_)
    walk_at "rd"
    have e : (decide (l = 0) && decide (d = 0)) = false := by simpa using fun z => fun q => c ⟨z, q⟩
    rw [alwaysF, e, Bool.false_or] at k
    by_cases a1 : 0 < s
    · rw [if_pos a1]
      rw [decide_eq_true a1, Bool.true_and] at k
      by_cases a2 : 0 < d
      · rw [if_pos a2]
        rw [decide_eq_true a2, Bool.true_and] at k
        exact ⟨a2, k⟩
      · rw [if_neg a2]
        rwa [decide_eq_false a2, Bool.false_and] at k
    · rw [if_neg a1]
      rwa [decide_eq_false a1, Bool.false_and] at k
def spAlways (C : Addr) : Sp := fun vs H Q E => ∃ s f l, vs = [s, f, l] ∧ Smp H s ∧ Smp H f ∧ Smp H l ∧
  (bad3 s f l (10 ^ 30) = none → Q (.bl (alwaysF (iv s) (iv f - iv s) (iv l))) H) ∧ (∀ x, bad3 s f l (10 ^ 30) = some x → ∀ d, H d = none → E (.ref C) (some d) (upd H d (.xd [("given", x)])))
theorem sc_always : FnScope ["slow", "fast", "lead"] ["slow", "fast", "lead"] (defScope (top 19)) := ⟨rfl, rfl, rfl, by decide +kernel, rfl, by decide +kernel, by decide +kernel⟩
theorem ok_always {C : Addr} (T : Tx mg) {f : Addr} {fd : FuncData} (F : FD K "meets_always" (top 19) f fd) {f1 f3 : Addr} {fd1 fd3 : FuncData} (C1 : Cal P w K mg base (L2.CX P w) 5 "check_paces" ["slow", "fast", "lead", "most"] (spPaces C) f1 fd1)
    (C3 : Cal P w K mg base CX0 1 "meet_everywhere" ["slow", "gain", "lead"] spEvery f3 fd3) : FnOk P w K mg base (L2.CX P w) 6 f fd ["slow", "fast", "lead"] (spAlways C) := by
  obtain ⟨gcheck_paces, kcheck_paces, bcheck_paces, Fcheck_paces⟩ := C1
  obtain ⟨gmeet_everywhere, kmeet_everywhere, bmeet_everywhere, Fmeet_everywhere⟩ := C3
  obtain ⟨tF, hFAR⟩ := T.far
  refine F.ok sc_always (fun vs H Q E h => ?_) (fun cdv A outer s H vs Q E hr h => ?_)
  · obtain ⟨_, _, _, rfl, _⟩ := h
    rfl
  · obtain ⟨s, f, l, rfl, hs, hf, hl, k1, k2⟩ := h
    refine ⟨_, (pss_cons (ps_expr (pe_call Fcheck_paces (hr.mono (by decide)) rfl gcheck_paces kcheck_paces bcheck_paces .nil (passes_call (takes_of rfl rfl rfl rfl) (fun _ _ _ _ z => z)) (pa_cons (pv 0) (pa_cons (pv 1) (pa_cons (pv 2) (pa_cons (pe_glob (v := .int (10 ^ 30)) rfl hFAR ⟨_, rfl⟩) pa_nil))))))
        (pss_one (ps_ret (pe_call Fmeet_everywhere (hr.mono (by decide)) rfl gmeet_everywhere kmeet_everywhere bmeet_everywhere .nil pass0 (pa_cons (pv 0) (pa_cons (pe_op op_sub (pv 1) (pv 0)) (pa_cons (pv 2) pa_nil))))))), ?_⟩
    refine sq fun U hU => ?_
    walk_at "rd"
    refine ⟨s, f, l, 10 ^ 30, rfl, hs, hf, hl, fun e2 => hU _ _ ?_, fun x e2 d hd => k2 x e2 d hd⟩
    clear hU
    obtain ⟨c, g, m, rfl, rfl, rfl, hc, hg, hm⟩ := bad3_none e2
    walk_at "rd"
    exact ⟨c, g - c, m, rfl, k1 e2⟩
end
end K65

set_option Elab.async false
set_option linter.all false
set_option maxRecDepth 100000
set_option maxHeartbeats 4000000
namespace K65
open PySem PySem.Spec PyProof.Rows L2 Rd Dt
local macro_rules | `(tactic| walk_at "rd") => `(tactic| try simp only [tVar_, tC_, tOp_, tUn_, rI_, rI0_, rU_, eq_ii, ne_ii, eq_ss, ne_ss, eq_bb, ne_bb, tAndV_, tOrV_, tNotV_, tIf_, tTest_, tB_, tAnd_, tOr_, tNot_, tChain_, tNil_, tCons_, tTup_, tLst_, tCB_, tCall_, tSeq_, tNext_, tRet_, tRetN_, tDrop_, tBreak_, tNever_, tIfS_, tAsg_, gName_, gTup_, gCons_, gNil_, gSub_, tPar_, tPar3_, tSl_, tNoPart_, tPart_, tBM_, tFor_range1, tFor_range2, tFor_list, tFor_tup,
  L2.start, List.map_cons, List.map_nil, List.length_cons, List.length_nil, List.replicate, List.append_nil, List.nil_append, List.cons_append, List.getElem?_cons_zero, List.getElem?_cons_succ, List.set_cons_zero, List.set_cons_succ, Option.some.injEq, V.int.injEq, V.bl.injEq, V.str.injEq, V.ref.injEq, exists_eq_left, exists_eq_left', exists_eq_right, exists_eq, exists_and_left, and_true, true_and, decide_eq_true_eq, Nat.reduceAdd, Nat.reduceSub, Nat.add_zero, Nat.zero_add, List.cons.injEq, Bool.not_eq_true', decide_eq_false_iff_not, eq_self, reduceCtorEq, Bool.false_eq_true, if_true, if_false, ite_true, ite_false, and_self, tLc_range1, tLc_range2, tLc_list, tLc_tup, tYes_, wipe0, wipe1, tCallS_, rIxL_, rIxT_, rSlL_, rCat_, rSetL_, rGcd_, tCallK_, gUnl_, tRaise_, and_assoc, exists_const, forall_const, forall_eq'])

section
variable {P : Program} {w : World} {K : PySem.W.Frag} {mg : Str → Option Value} {base : Heap}
theorem sqL_new {H : Hp} {p : Addr} {xs : List V} : SqL K (upd H p (.lst xs)) p xs := SqL.of upd_same
def spMissed (C : Addr) : Sp := fun vs H Q E => ∃ s f l, vs = [s, f, l] ∧ Smp H s ∧ Smp H f ∧ Smp H l ∧
  (bad3 s f l 1000 = none → iv s < 5 ∧ iv f - iv s < 10 ∧ iv l < 9 ∧ (missF (iv s) (iv f - iv s) (iv l) = none → ∀ H', Same H H' → Q .non H') ∧
    (∀ a b, missF (iv s) (iv f - iv s) (iv l) = some (a, b) → ∀ H' p, Same H H' → H p = none → H' p = some (.tup [.int a, .int b]) → Q (.ref p) H')) ∧
  (∀ x, bad3 s f l 1000 = some x → ∀ d, H d = none → E (.ref C) (some d) (upd H d (.xd [("given", x)])))
theorem sc_missed : FnScope ["slow", "fast", "lead", "gain", "rings", "ring"] ["slow", "fast", "lead"] (defScope (top 20)) := ⟨rfl, rfl, rfl, by decide +kernel, rfl, by decide +kernel, by decide +kernel⟩
def rgP (d l : Int) (H : Hp) (D : Addr) (i : Nat) (H' : Hp) : Prop := Same H H' ∧ H' D = some (.lst ((((List.range i).map fun (i : Nat) => (2 + (i : Int))).filter fun r => decide (l % ((Nat.gcd d.natAbs r.natAbs : Nat) : Int) ≠ 0)).map V.int))
theorem ok_missed {C : Addr} (T : Tx mg) {f : Addr} {fd : FuncData} (F : FD K "missed_track" (top 20) f fd) {f1 f3 : Addr} {fd1 fd3 : FuncData} (C1 : Cal P w K mg base (L2.CX P w) 5 "check_paces" ["slow", "fast", "lead", "most"] (spPaces C) f1 fd1)
    (C3 : Cal P w K mg base CX0 1 "meet_everywhere" ["slow", "gain", "lead"] spEvery f3 fd3) : FnOk P w K mg base (L2.CX P w) 6 f fd ["slow", "fast", "lead"] (spMissed C) := by
  obtain ⟨gcheck_paces, kcheck_paces, bcheck_paces, Fcheck_paces⟩ := C1
  obtain ⟨gmeet_everywhere, kmeet_everywhere, bmeet_everywhere, Fmeet_everywhere⟩ := C3
  obtain ⟨tM, hMM⟩ := T.mm
  refine F.ok sc_missed (fun vs H Q E h => ?_) (fun cdv A outer s H vs Q E hr h => ?_)
  · obtain ⟨_, _, _, rfl, _⟩ := h
    rfl
  · obtain ⟨s, f, l, rfl, hs, hf, hl, k1, k2⟩ := h
    have nd := sc_missed.nd
    refine ⟨_, (pss_cons (ps_expr (pe_call Fcheck_paces (hr.mono (by decide)) rfl gcheck_paces kcheck_paces bcheck_paces .nil (passes_call (takes_of rfl rfl rfl rfl) (fun _ _ _ _ z => z)) (pa_cons (pv 0) (pa_cons (pv 1) (pa_cons (pv 2) (pa_cons (pe_glob (v := .int 1000) rfl hMM ⟨_, rfl⟩) pa_nil))))))
        (pss_cons (ps_set (i := 3) nd rfl (Or.inr rfl) (pe_op op_sub (pv 1) (pv 0)))
        (pss_cons (ps_if (pt_val (pe_call Fmeet_everywhere (hr.mono (by decide)) rfl gmeet_everywhere kmeet_everywhere bmeet_everywhere .nil pass0 (pa_cons (pv 0) (pa_cons (pv 3) (pa_cons (pv 2) pa_nil))))) (pss_one (ps_ret pe_non)) pss_nil)
        (pss_cons (ps_setLc (i := 4) (own := [("ring", 5)]) rfl nd rfl rfl (sw_true rfl rfl rfl (by decide +kernel)) (pi_range2 rfl T.b_range (pa_cons pe_int (pa_cons (pe_op op_add (pe_callB (call_max2 rfl) (by rfl) T.b_max (by decide +kernel) (pa_cons (pv 3) (pa_cons (pv 2) pa_nil))) pe_int) pa_nil))) (blkOk_by (N := ["slow", "fast", "lead", "gain", "rings", "ring"]) (sc := defScope (top 20)) (by decide +kernel)) (fun _ _ _ _ _ => (pg_name (i := 5) nd rfl (Or.inl rfl))) (fun _ _ _ _ _ => (pts_one (pt_cmpR op_ne (pe_op op_mod (pv 2) (pe_callBfun cr_gcd rfl T.gcd (pa_cons (pv 3) (pa_cons (pv 5) pa_nil)))) pe_int (nomark _)))) (fun _ _ _ _ _ => (pv 5)))
        (pss_cons (ps_if (PW.pt (pw_and (pt_cmpR op_eq (pv 0) pe_int (nomark _)) (pw_and1 (pt_cmpR (op_neD hr.units) (pe_slice (r := rSlL K) sl_list (pv 4) po_none (po_some pe_int)) (pe_lst (pa_cons pe_int pa_nil)) (nomark _))))) (pss_one (ps_ret (pe_tup (pa_cons pe_int (pa_cons pe_int pa_nil))))) pss_nil)
        (pss_one (ps_ret (pe_tup (pa_cons pe_int (pa_cons (pe_ix (r := rIxL K) ix_list (pv 4) pe_int (fun _ _ => rfl)) pa_nil)))))))))), ?_⟩
    refine sq fun U hU => ?_
    walk_at "rd"
    refine ⟨s, f, l, 1000, rfl, hs, hf, hl, fun e2 => hU _ _ ?_, fun x e2 d hd => k2 x e2 d hd⟩
    clear hU
    obtain ⟨s1, s2, s3, k3, k4⟩ := k1 e2
    obtain ⟨c, g, m, rfl, rfl, rfl, hc, hg, hm⟩ := bad3_none e2
    simp only [iv] at *
    refine sq fun U hU => ?_
    walk_at "rd"
    refine hU _ _ ?_
    clear hU
    refine sq fun U hU => ?_
    walk_at "rd"
    refine ⟨c, g - c, m, rfl, ?_⟩
    walk_at "rd"
    obtain ⟨c', rfl⟩ := Int.eq_ofNat_of_zero_le hc.1
    obtain ⟨d', hd'⟩ := Int.eq_ofNat_of_zero_le (show 0 ≤ g - (c' : Int) by omega)
    obtain ⟨m', rfl⟩ := Int.eq_ofNat_of_zero_le hm.1
    have big := rings_all c' (List.mem_range.mpr (by omega)) d' (List.mem_range.mpr (by omega)) m' (List.mem_range.mpr (by omega))
    have d10 : (d' : Int) < 10 := by omega
    have m9 : (m' : Int) < 9 := s3
    rw [hd'] at *
    by_cases c0 : alwaysF (c' : Int) d' m' = true
    · rw [if_pos c0]
      exact k3 (by unfold missF; rw [if_pos c0]) H (Same.refl H)
    rw [if_neg c0]
    refine hU _ _ ?_
    clear hU
    refine sq fun U hU => ?_
    walk_at "rd"
    rw [max_if]
    have e1 : (max (d' : Int) (m' : Int) + 2 - 2).toNat = (max (d' : Int) (m' : Int)).toNat := by omega
    refine ⟨by omega, by omega, by omega, by omega, ?_⟩
    rw [e1]
    have ln : ∀ i : Nat, i ≤ (max (d' : Int) (m' : Int)).toNat → (((List.range i).map fun (i : Nat) => (2 + (i : Int))).filter fun r => decide ((m' : Int) % ((Nat.gcd (d' : Int).natAbs r.natAbs : Nat) : Int) ≠ 0)).length ≤ 20 := fun i hi => by
      refine Nat.le_trans (List.length_filter_le _ _) ?_
      rw [List.length_map, List.length_range]; omega
    refine lc_r (rgP (d' : Int) (m' : Int) H) fun D hD => ⟨⟨same_new hD, upd_same⟩, ?_, ?_⟩
    · rintro i H' hi ⟨hs', hL⟩
      unfold Lturn
      walk_at "rd"
      have g0 : (0 : Int) < ((Nat.gcd (d' : Int).natAbs (2 + (i : Int)).natAbs : Nat) : Int) := by
        have := Nat.gcd_pos_of_pos_right (d' : Int).natAbs (show 0 < (2 + (i : Int)).natAbs by omega)
        omega
      refine ⟨g0, ?_⟩
      have stp : ∀ b, decide ((m' : Int) % ((Nat.gcd (d' : Int).natAbs (2 + (i : Int)).natAbs : Nat) : Int) ≠ 0) = b → (((List.range (i + 1)).map fun (i : Nat) => (2 + (i : Int))).filter fun r => decide ((m' : Int) % ((Nat.gcd (d' : Int).natAbs r.natAbs : Nat) : Int) ≠ 0)) = (((List.range i).map fun (i : Nat) => (2 + (i : Int))).filter fun r => decide ((m' : Int) % ((Nat.gcd (d' : Int).natAbs r.natAbs : Nat) : Int) ≠ 0)) ++ (if b = true then [2 + (i : Int)] else []) := fun b hb => by
        rw [List.range_succ, List.map_append, List.filter_append]
        congr 1
        show List.filter _ [2 + (i : Int)] = _
        rw [List.filter_cons, hb]; rfl
      by_cases z : (m' : Int) % ((Nat.gcd (d' : Int).natAbs (2 + (i : Int)).natAbs : Nat) : Int) = 0
      · rw [if_neg (fun q => q z)]
        refine ⟨hs', ?_⟩
        rw [hL, stp false (by rw [decide_eq_false]; exact fun q => q z)]; simp
      · rw [if_pos z]
        refine ⟨_, hL, ?_, fun b o e => ?_, ?_⟩
        · rw [List.length_map]
          exact Nat.lt_of_le_of_lt (ln i (by omega)) (by rw [sizeLine_eq]; decide)
        · rw [upd_ne (ne_of_none e hD)]; exact hs' b o e
        · rw [upd_same, stp true (decide_eq_true z), List.map_append]; rfl
    rintro H1 ⟨hs1, hL⟩
    refine hU _ _ ?_
    clear hU
    have eR : (((List.range (max (d' : Int) (m' : Int)).toNat).map fun (i : Nat) => (2 + (i : Int))).filter fun r => decide ((m' : Int) % ((Nat.gcd (d' : Int).natAbs r.natAbs : Nat) : Int) ≠ 0)) = ringsF (d' : Int) m' := rfl
    rw [eR] at hL
    have rb : ∀ n ∈ ringsF (d' : Int) m', n.natAbs < 2 ^ 10 := fun n hn => by
      have := (List.mem_filter.mp hn).1
      obtain ⟨q, hq, rfl⟩ := List.mem_map.mp this
      have := List.mem_range.mp hq
      omega
    refine sq fun U hU => ?_
    walk_at "rd"
    have fin : (c' : Int) ≠ 0 ∨ (ringsF (d' : Int) m').take 1 = [2] → ∀ H2, Same H1 H2 → U [some (V.int c'), some (V.int g), some (V.int m'), some (V.int d'), some (V.ref D), none] H2 := fun hz H2 hs2 => by
      refine hU _ _ ?_
      walk_at "rd"
      have ne : ringsF (d' : Int) m' ≠ [] := by
        rcases big with b | ⟨b1, b2⟩ | b
        · exact absurd b c0
        · rcases hz with z | z
          · omega
          · exact absurd z b2
        · exact b
      obtain ⟨r, rs, er⟩ := List.exists_cons_of_ne_nil ne
      refine ⟨_, SqL.of (hs2 _ _ hL), .int r, (by rw [er]; exact atI_nn (by decide) rfl), by decide, fun p hp => ?_⟩
      · refine k4 0 r ?_ _ p (hs1.trans (hs2.trans (same_new hp))) (hs1.free (hs2.free hp)) upd_same
        unfold missF
        rw [if_neg c0, if_neg ?_, er]; rfl
        rintro ⟨q1, q2⟩
        rcases hz with z | z
        · exact z q1
        · exact q2 z
    by_cases a1 : (c' : Int) = 0
    · rw [if_pos a1]
      refine ⟨(ringsF (d' : Int) m').map V.int, SqL.of hL, fun p hp => ⟨by decide, fun q hq => ?_⟩⟩
      have npq : p ≠ q := fun e => by rw [e] at hq; exact absurd hq (by rw [← e, upd_same]; intro z; cases z)
      have hp2 : SqL K (upd (upd H1 p (.lst (cutV ((ringsF (d' : Int) m').map V.int) none (some 1)))) q (.lst [V.int 2])) p (((ringsF (d' : Int) m').take 1).map V.int) := by
        refine SqL.of ?_
        rw [upd_ne npq, upd_same]
        congr 2
        unfold cutV
        show List.take (HT.sIx _ _ (some 1) - HT.sIx _ 0 none) (List.drop (HT.sIx _ 0 none) _) = _
        rw [List.map_take]
        cases (ringsF (d' : Int) m').map V.int with
        | nil => rfl
        | cons a b => rfl
      have ss : Same H1 (upd (upd H1 p (.lst (cutV ((ringsF (d' : Int) m').map V.int) none (some 1)))) q (.lst [V.int 2])) := (same_new hp).trans (same_new hq)
      refine rNeD_ (fit_ints (ns := (ringsF (d' : Int) m').take 1) (k := 10) (by decide) (by decide) (fun n hn => rb n (List.mem_of_mem_take hn))) (fit_ints (ns := [2]) (k := 10) (by decide) (by decide) (by decide)) (by decide) (by decide) (.lst hp2 (Dp.ints _)) (.lst (SqL.of upd_same) (Dp.ints [2])) ?_
      rw [eqv_listI]
      walk_at "rd"
      by_cases a2 : (ringsF (d' : Int) m').take 1 = [2]
      · rw [if_neg (fun z => z a2)]
        exact fin (.inr a2) _ ss
      · rw [if_pos a2]
        refine ⟨by decide, fun x hx => ?_⟩
        refine k4 1 1 ?_ _ x (hs1.trans (ss.trans (same_new hx))) (hs1.free (ss.free hx)) upd_same
        unfold missF
        rw [if_neg c0, if_pos ⟨a1, a2⟩]
    · rw [if_neg a1]
      exact fin (.inl a1) _ (Same.refl H1)
end
end K65

set_option Elab.async false
set_option linter.all false
set_option maxRecDepth 100000
set_option maxHeartbeats 4000000
namespace K65
open PySem PySem.Spec PyProof.Rows L2 Rd Dt
local macro_rules | `(tactic| walk_at "rd") => `(tactic| try simp only [tVar_, tC_, tOp_, tUn_, rI_, rI0_, rU_, eq_ii, ne_ii, eq_ss, ne_ss, eq_bb, ne_bb, tAndV_, tOrV_, tNotV_, tIf_, tTest_, tB_, tAnd_, tOr_, tNot_, tChain_, tNil_, tCons_, tTup_, tLst_, tCB_, tCall_, tSeq_, tNext_, tRet_, tRetN_, tDrop_, tBreak_, tNever_, tIfS_, tAsg_, gName_, gTup_, gCons_, gNil_, gSub_, tPar_, tPar3_, tSl_, tNoPart_, tPart_, tBM_, tFor_range1, tFor_range2, tFor_list, tFor_tup,
  L2.start, List.map_cons, List.map_nil, List.length_cons, List.length_nil, List.replicate, List.append_nil, List.nil_append, List.cons_append, List.getElem?_cons_zero, List.getElem?_cons_succ, List.set_cons_zero, List.set_cons_succ, Option.some.injEq, V.int.injEq, V.bl.injEq, V.str.injEq, V.ref.injEq, exists_eq_left, exists_eq_left', exists_eq_right, exists_eq, exists_and_left, and_true, true_and, decide_eq_true_eq, Nat.reduceAdd, Nat.reduceSub, Nat.add_zero, Nat.zero_add, List.cons.injEq, Bool.not_eq_true', decide_eq_false_iff_not, eq_self, reduceCtorEq, Bool.false_eq_true, if_true, if_false, ite_true, ite_false, and_self, tLc_range1, tLc_range2, tLc_list, tLc_tup, tYes_, wipe0, wipe1, tCallS_, rIxL_, rIxT_, rSlL_, rCat_, rSetL_, rGcd_, tCallK_, gUnl_, tRaise_, false_and, or_false, false_or, and_false, and_assoc, exists_const, forall_const, forall_eq'])

section
variable {P : Program} {w : World} {K : PySem.W.Frag} {mg : Str → Option Value} {base : Heap}
def WellAt (H : Hp) (u : Addr) : Prop := ∃ a b c : Int, H u = some (.lst [.int a, .int b, .int c])
theorem WellAt.but {H H' : Hp} {u : Addr} (h : WellAt H u) (s : Same H H') : WellAt H' u := by
  obtain ⟨a, b, c, e⟩ := h
  exact ⟨a, b, c, s _ _ e⟩
def spTake : Sp := fun vs H Q _ => ∃ (u : Addr) (n : Int), vs = [.ref u, .int n] ∧ WellAt H u ∧ 1 ≤ n ∧ n < 1073741824 ∧ ∀ (d : Int) (H' : Hp), But u H H' → WellAt H' u → 0 ≤ d → d < n → Q (.int d) H'
theorem sc_take : FnScope ["_law_well_here", "_law_limit", "_law_figure", "_law_seed"] ["_law_well_here", "_law_limit"] (defScope (top 23)) := ⟨rfl, rfl, rfl, by decide +kernel, rfl, by decide +kernel, by decide +kernel⟩
theorem ok_take {f : Addr} {fd : FuncData} (T : Tx mg) (F : FD K "_law_take" (top 23) f fd) : FnOk P w K mg base CX0 1 f fd ["_law_well_here", "_law_limit"] spTake := by
  refine F.ok sc_take (fun vs H Q E h => ?_) (fun cdv A outer s H vs Q E hr h => ?_)
  · obtain ⟨_, _, rfl, _⟩ := h
    rfl
  · obtain ⟨u, n, rfl, ⟨a, b, c, hu⟩, n1, n2, k⟩ := h
    have nd := sc_take.nd
    refine ⟨_, (pss_cons (ps_if (pt_cmpR op_gt (pe_ix (r := rIxL K) ix_list (pv 0) pe_int (fun _ _ => rfl)) pe_int (nomark _)) (pss_cons (ps_asg (pe_callB call_divmodW (by rfl) T.b_divmod (by decide +kernel) (pa_cons (pe_ix (r := rIxL K) ix_list (pv 0) pe_int (fun _ _ => rfl)) (pa_cons (pv 1) pa_nil))) (pg_tup rfl (pgs_cons (pg_sub (pv 0) pe_int set_list) (pgs_cons (pg_name (i := 2) nd rfl (Or.inl rfl)) pgs_nil))))
        (pss_one (ps_ret (pv 2)))) pss_nil)
        (pss_cons (ps_asg (pe_op op_add (pe_ix (r := rIxL K) ix_list (pv 0) pe_int (fun _ _ => rfl)) pe_int) (pg_sub (pv 0) pe_int set_list))
        (pss_cons (ps_set (i := 3) nd rfl (Or.inl rfl) (pe_op op_mod (pe_callTy call_int1 (by rfl) T.b_int (by decide +kernel) (pa_cons (pe_op op_add (pe_op op_mul (pe_ix (r := rIxL K) ix_list (pv 0) pe_int (fun _ _ => rfl)) pe_int) (pe_op op_mul (pe_ix (r := rIxL K) ix_list (pv 0) pe_int (fun _ _ => rfl)) pe_int)) pa_nil)) pe_int))
        (pss_cons (ps_asg (pe_op op_mod (pe_callTy call_int1 (by rfl) T.b_int (by decide +kernel) (pa_cons (pe_op op_add (pe_op op_mul (pv 3) (pe_op op_add (pe_op op_mod (pe_callTy call_int1 (by rfl) T.b_int (by decide +kernel) (pa_cons (pe_op op_fdiv (pv 3) pe_int) pa_nil)) pe_int) pe_int)) pe_int) pa_nil)) pe_int) (pg_sub (pv 0) pe_int set_list))
        (pss_one (ps_ret (pe_op op_mod (pe_callTy call_int1 (by rfl) T.b_int (by decide +kernel) (pa_cons (pe_op op_fdiv (pe_ix (r := rIxL K) ix_list (pv 0) pe_int (fun _ _ => rfl)) pe_int) pa_nil)) (pv 1)))))))), ?_⟩
    refine sq fun U hU => ?_
    walk_at "rd"
    refine ⟨_, SqL.of hu, _, atI_nn (by decide) rfl, a, rfl, ?_⟩
    by_cases c0 : 0 < a
    · rw [if_pos c0]
      refine ⟨_, SqL.of hu, _, atI_nn (by decide) rfl, a, rfl, ⟨by omega, PyProof.noPylong_small (by omega)⟩, fun p hp => ?_⟩
      have hup : u ≠ p := ne_of_none hu hp
      refine ⟨_, SqT.of upd_same, rfl, _, _, rfl, _, (by rw [upd_ne hup]; exact hu), 0, rfl, _, _, rfl, rfl, ?_⟩
      refine k _ _ (fun b' o hb e => ?_) ⟨_, _, _, upd_same⟩ (Int.emod_nonneg a (by omega)) (Int.emod_lt_of_pos a (by omega))
      rw [upd_ne hb, upd_ne (ne_of_none e hp)]; exact e
    rw [if_neg c0]
    refine hU _ _ ?_
    clear hU
    refine sq fun U hU => ?_
    walk_at "rd"
    refine ⟨_, SqL.of hu, _, atI_nn (by decide) rfl, c, rfl, _, hu, 2, rfl, hU _ _ ?_⟩
    clear hU
    have h1 : (upd H u (.lst ([V.int a, V.int b, V.int c].set 2 (V.int (c + 1))))) u = some (.lst [.int a, .int b, .int (c + 1)]) := upd_same
    generalize eH : upd H u (.lst ([V.int a, V.int b, V.int c].set 2 (V.int (c + 1)))) = H1 at h1 ⊢
    have s1 : But u H H1 := by rw [← eH]; exact But.put
    refine sq fun U hU => ?_
    walk_at "rd"
    refine ⟨_, SqL.of h1, _, atI_nn (by decide) rfl, b, rfl, .inr ⟨by decide, by decide⟩, _, SqL.of h1, _, atI_nn (by decide) rfl, c + 1, rfl, .inr ⟨by decide, by decide⟩, by decide, hU _ _ ?_⟩
    clear hU
    generalize (b * 48271 + (c + 1) * 30103) % 2147483629 = sd
    refine sq fun U hU => ?_
    walk_at "rd"
    have q1 := Int.emod_nonneg (sd / 7) (show (5003 : Int) ≠ 0 by decide)
    have q2 := Int.emod_lt_of_pos (sd / 7) (show (0 : Int) < 5003 by decide)
    refine ⟨⟨by decide, by decide⟩, by decide, .inr ⟨by omega, by omega⟩, by decide, _, h1, 1, rfl, hU _ _ ?_⟩
    clear hU
    generalize (sd * (sd / 7 % 5003 + 20011) + 11) % 2147483587 = b2
    have h2 : (upd H1 u (.lst ([V.int a, V.int b, V.int (c + 1)].set 1 (V.int b2)))) u = some (.lst [.int a, .int b2, .int (c + 1)]) := upd_same
    walk_at "rd"
    refine ⟨_, SqL.of h2, _, atI_nn (by decide) rfl, b2, rfl, ⟨by decide, by decide⟩, by omega, ?_⟩
    exact k _ _ (s1.trans But.put) ⟨_, _, _, h2⟩ (Int.emod_nonneg _ (by omega)) (Int.emod_lt_of_pos _ (by omega))
def spPick : Sp := fun vs H Q _ => ∃ (u t : Addr) (xs : List V), vs = [.ref u, .ref t] ∧ WellAt H u ∧ u ≠ t ∧ H t = some (.tup xs) ∧ 1 ≤ xs.length ∧ xs.length ≤ 1000 ∧ ∀ (x : V) (H' : Hp), But u H H' → WellAt H' u → x ∈ xs → Q x H'
theorem sc_pick : FnScope ["_law_well_here", "_law_some"] ["_law_well_here", "_law_some"] (defScope (top 24)) := ⟨rfl, rfl, rfl, by decide +kernel, rfl, by decide +kernel, by decide +kernel⟩
theorem ok_pick {f : Addr} {fd : FuncData} (T : Tx mg) (F : FD K "_law_pick" (top 24) f fd) {f1 : Addr} {fd1 : FuncData} (C1 : Cal P w K mg base CX0 1 "_law_take" ["_law_well_here", "_law_limit"] spTake f1 fd1) : FnOk P w K mg base CX0 2 f fd ["_law_well_here", "_law_some"] spPick := by
  obtain ⟨g_law_take, k_law_take, b_law_take, F_law_take⟩ := C1
  refine F.ok sc_pick (fun vs H Q E h => ?_) (fun cdv A outer s H vs Q E hr h => ?_)
  · obtain ⟨_, _, _, rfl, _⟩ := h
    rfl
  · obtain ⟨u, t, xs, rfl, hw, hne, ht, l1, l2, k⟩ := h
    refine ⟨_, (pss_one (ps_ret (pe_ix (r := rIxT K) ix_tup (pv 1) (pe_call F_law_take (hr.mono (by decide)) rfl g_law_take k_law_take b_law_take .nil pass0 (pa_cons (pv 0) (pa_cons (pe_callB call_len_seq (by rfl) T.b_len PySem.boot_len (pa_cons (pv 1) pa_nil)) pa_nil))) (fun _ _ => rfl)))), ?_⟩
    walk_at "rd"
    simp only [spTake]
    walk_at "rd"
    refine ⟨_, .inr (SqT.of ht), hw, by omega, by omega, fun d H' hb hw' d0 d1 => ?_⟩
    obtain ⟨x, hx⟩ : ∃ x, xs[d.toNat]? = some x := ⟨_, List.getElem?_eq_getElem (by omega)⟩
    exact ⟨_, SqT.of (hb _ _ (Ne.symm hne) ht), x, atI_nn d0 hx, k x H' hb hw' (List.mem_of_getElem? hx)⟩
theorem sc_stop : FnScope ["_law_tail_here", "_law_round_here", "_law_paces"] ["_law_tail_here", "_law_round_here", "_law_paces"] (defScope (top 25)) := ⟨rfl, rfl, rfl, by decide +kernel, rfl, by decide +kernel, by decide +kernel⟩
theorem ok_stop {f : Addr} {fd : FuncData} (T : Tx mg) (F : FD K "_law_stop" (top 25) f fd) : FnOk P w K mg base CX0 1 f fd ["_law_tail_here", "_law_round_here", "_law_paces"] spStop := by
  refine F.ok sc_stop (fun vs H Q E h => ?_) (fun cdv A outer s H vs Q E hr h => ?_)
  · obtain ⟨t, r, n, rfl, _⟩ := h
    rfl
  · obtain ⟨t, r, n, rfl, hr0, k⟩ := h
    refine ⟨_, (pss_one (ps_ret (pe_ifExp (pt_cmpR op_lt (pv 2) (pv 0) (nomark _)) (pv 2) (pe_op op_add (pv 0) (pe_op op_mod (pe_callTy call_int1 (by rfl) T.b_int (by decide +kernel) (pa_cons (pe_op op_sub (pv 2) (pv 0)) pa_nil)) (pv 1)))))), ?_⟩
    walk_at "rd"
    split
    · rename_i c; rw [stopF, if_pos c] at k; exact k
    · rename_i c; rw [stopF, if_neg c] at k
      exact ⟨hr0, k⟩
theorem sc_well : FnScope ["_law_script", "_law_turn", "_law_own", "_law_stirred", "_law_cell"] ["_law_script", "_law_turn"] (defScope (top 22)) := ⟨rfl, rfl, rfl, by decide +kernel, rfl, by decide +kernel, by decide +kernel⟩
def spWell (K : PySem.W.Frag) : Sp := fun vs H Q _ => ∃ (a : Addr) (ns : List Int) (t : Int), vs = [.ref a, .int t] ∧ SqL K H a (ns.map V.int) ∧ ns.length ≤ 63 ∧ 0 ≤ t ∧ t ≤ 5 ∧ ∀ (u : Addr) (H' : Hp), Same H H' → H u = none → WellAt H' u → Q (.ref u) H'
def wlP (a : Addr) (t o : Int) (K : PySem.W.Frag) (ns : List Int) (H : Hp) (i : Nat) : L2.St → Hp → Prop := fun σ H' => Same H H' ∧ ∃ (b : Int) (x : Option V), σ = [some (.ref a), some (V.int t), some (V.int o), some (V.int b), x]
theorem ok_well {f : Addr} {fd : FuncData} (T : Tx mg) (F : FD K "_law_well" (top 22) f fd) : FnOk P w K mg base CX0 1 f fd ["_law_script", "_law_turn"] (spWell K) := by
  refine F.ok sc_well (fun vs H Q E h => ?_) (fun cdv A outer s H vs Q E hr h => ?_)
  · obtain ⟨_, _, _, rfl, _⟩ := h
    rfl
  · obtain ⟨a, ns, t, rfl, hS, hn, t0, t1, k⟩ := h
    have nd := sc_well.nd
    refine ⟨_, (pss_cons (ps_set (i := 2) nd rfl (Or.inl rfl) (pe_ifExp (pt_cmpR op_lt (pv 1) (pe_callB call_len_seq (by rfl) T.b_len PySem.boot_len (pa_cons (pv 0) pa_nil)) (nomark _)) (pe_callTy call_int1 (by rfl) T.b_int (by decide +kernel) (pa_cons (pe_ix (r := rIxL K) ix_list (pv 0) (pv 1) (fun _ _ => rfl)) pa_nil)) (pe_op op_add (pe_op op_mul pe_int (pv 1)) pe_int)))
        (pss_cons (ps_set (i := 3) nd rfl (Or.inl rfl) (pe_op op_add pe_int (pe_op op_mul pe_int (pv 1))))
        (pss_cons (ps_for (passes_of rfl) rfl (pi_list (pe_slice (r := rSlL K) sl_list (pv 0) po_none (po_some pe_int))) (pg_name (i := 4) nd rfl (Or.inl rfl)) (pss_one (ps_set (i := 3) nd rfl (Or.inl rfl) (pe_op op_mod (pe_callTy call_int1 (by rfl) T.b_int (by decide +kernel) (pa_cons (pe_op op_add (pe_op op_add (pe_op op_mul (pv 3) pe_int) (pe_op op_mod (pe_callTy call_int1 (by rfl) T.b_int (by decide +kernel) (pa_cons (pv 4) pa_nil)) pe_int)) pe_int) pa_nil)) pe_int))))
        (pss_cons (ps_set (i := 3) nd rfl (Or.inl rfl) (pe_op op_mod (pe_callTy call_int1 (by rfl) T.b_int (by decide +kernel) (pa_cons (pe_op op_add (pe_op op_mul (pv 3) pe_int) (pe_op op_mul (pe_op op_mod (pe_callTy call_int1 (by rfl) T.b_int (by decide +kernel) (pa_cons (pv 2) pa_nil)) pe_int) pe_int)) pa_nil)) pe_int))
        (pss_one (ps_ret (pe_lst (pa_cons (pe_ifExp (PW.pt (pw_or (pt_cmpR op_lt (pv 2) pe_int (nomark _)) (pw_or1 (pt_cmpR op_ge (pv 2) (pe_op op_pow pe_int pe_int) (nomark _))))) (pe_callB call_abs (by rfl) T.b_abs (by decide +kernel) (pa_cons (pv 2) pa_nil)) pe_int) (pa_cons (pv 3) (pa_cons pe_int pa_nil)))))))))), ?_⟩
    refine sq fun U hU => ?_
    walk_at "rd"
    have go : ∀ o : Int, U [some (V.ref a), some (V.int t), some (V.int o), none, none] H := fun o => by
      refine hU _ _ ?_
      clear hU
      refine sq fun U hU => ?_
      walk_at "rd"
      refine ⟨.inr ⟨by omega, by omega⟩, hU _ _ ?_⟩
      clear hU
      refine sq fun U hU => ?_
      walk_at "rd"
      refine ⟨_, hS, fun p hp => ⟨⟨_, SqL.of upd_same⟩, ?_⟩⟩
      refine for_l (K := K) (a := p) (xs := cutV (ns.map V.int) none (some 9)) (fun i => fun σ H' => H' p = some (.lst (cutV (ns.map V.int) none (some 9))) ∧ wlP a t o K ns H i σ H') ⟨upd_same, same_new hp, _, _, rfl⟩ (fun i σ H' _ h => SqL.of h.1) ?_ ?_
      · rintro i x σ H' hi ⟨hp', hs, b, y, rfl⟩
        obtain ⟨z, rfl⟩ : ∃ z, x = V.int z := by
          have hm := List.mem_of_getElem? hi
          obtain ⟨z, _, rfl⟩ := List.mem_map.mp (List.mem_of_mem_drop (List.mem_of_mem_take hm))
          exact ⟨z, rfl⟩
        walk_at "rd"
        exact ⟨.inr ⟨by decide, by decide⟩, by decide, by decide, hp', hs, _, _, rfl⟩
      · rintro σ H' ⟨hp', hs, b, y, rfl⟩
        refine hU _ _ ?_
        clear hU
        refine sq fun U hU => ?_
        walk_at "rd"
        refine ⟨.inr ⟨by decide, by decide⟩, by decide, .inr ⟨by decide, by decide⟩, by decide, hU _ _ ?_⟩
        clear hU
        walk_at "rd"
        have fin : ∀ g b', (∀ p, H' p = none → Q (.ref p) (upd H' p (.lst [V.int g, V.int b', V.int 0]))) := fun g b' q hq => k q _ (hs.trans (same_new hq)) (hs.free hq) ⟨_, _, _, upd_same⟩
        by_cases c : o < 0
        · rw [if_pos c]
          exact ⟨by decide, fun q hq => fin _ _ q hq⟩
        · rw [if_neg c]
          refine ⟨⟨by decide, by decide, by decide⟩, ?_⟩
          by_cases c2 : (10 : Int) ^ (18 : Int).toNat ≤ o
          · rw [if_pos c2]
            exact ⟨by decide, fun q hq => fin _ _ q hq⟩
          · rw [if_neg c2]
            exact ⟨by decide, fun q hq => fin _ _ q hq⟩
    refine ⟨_, .inl hS, ?_⟩
    rw [List.length_map]
    by_cases c : t < (ns.length : Int)
    · rw [if_pos c]
      have hx : (ns.map V.int)[t.toNat]? = some (V.int (ns[t.toNat]'(by omega))) := by rw [List.getElem?_map, List.getElem?_eq_getElem (by omega)]; rfl
      exact ⟨_, hS, _, atI_nn t0 hx, .inl ⟨_, rfl, go _⟩⟩
    · rw [if_neg c]
      exact ⟨.inl ⟨by decide, by decide⟩, go _⟩
def spFM : Sp := fun vs H Q _ => ∃ t r s f l : Int, vs = [.int t, .int r, .int s, .int f, .int l] ∧ (0 ≤ t ∧ t ≤ 1000) ∧ (1 ≤ r ∧ r ≤ 1000) ∧ (0 ≤ s ∧ s ≤ 1000) ∧ (s ≤ f ∧ f ≤ 1000) ∧ (0 ≤ l ∧ l ≤ 1000) ∧ ∀ (o : Option Int), IsFirst t r s (f - s) l o → Q (optV o) H
theorem sc_fm : FnScope ["_law_tail_here", "_law_round_here", "_law_calm", "_law_quick", "_law_gap", "_law_turn"] ["_law_tail_here", "_law_round_here", "_law_calm", "_law_quick", "_law_gap"] (defScope (top 26)) := ⟨rfl, rfl, rfl, by decide +kernel, rfl, by decide +kernel, by decide +kernel⟩
def fmP (t r s f l : Int) (H : Hp) (i : Nat) : L2.St → Hp → Prop := fun σ H' => H' = H ∧ (∃ x : Option V, σ = [some (V.int t), some (V.int r), some (V.int s), some (V.int f), some (V.int l), x]) ∧ ∀ u, 1 ≤ u → u ≤ (i : Int) → ¬ Meets t r s (f - s) l u
theorem ok_fm {f : Addr} {fd : FuncData} (T : Tx mg) (F : FD K "_law_first_meeting" (top 26) f fd) {f1 : Addr} {fd1 : FuncData} (C1 : Cal P w K mg base CX0 1 "_law_stop" ["_law_tail_here", "_law_round_here", "_law_paces"] spStop f1 fd1) : FnOk P w K mg base CX0 2 f fd ["_law_tail_here", "_law_round_here", "_law_calm", "_law_quick", "_law_gap"] spFM := by
  obtain ⟨g_law_stop, k_law_stop, b_law_stop, F_law_stop⟩ := C1
  refine F.ok sc_fm (fun vs H Q E h => ?_) (fun cdv A outer s H vs Q E hr h => ?_)
  · obtain ⟨_, _, _, _, _, rfl, _⟩ := h
    rfl
  · obtain ⟨t, r, s, f, l, rfl, ht, hr', hs, hf, hl, k⟩ := h
    have nd := sc_fm.nd
    refine ⟨_, (pss_cons (ps_for (passes_of rfl) rfl (pi_range2 rfl T.b_range (pa_cons pe_int (pa_cons (pe_op op_add (pe_op op_add (pv 0) (pe_op op_mul pe_int (pv 1))) pe_int) pa_nil))) (pg_name (i := 5) nd rfl (Or.inl rfl)) (pss_one (ps_if (pt_cmpR op_eq (pe_call F_law_stop (hr.mono (by decide)) rfl g_law_stop k_law_stop b_law_stop .nil pass0 (pa_cons (pv 0) (pa_cons (pv 1) (pa_cons (pe_op op_mul (pv 2) (pv 5)) pa_nil)))) (pe_call F_law_stop (hr.mono (by decide)) rfl g_law_stop k_law_stop b_law_stop .nil pass0 (pa_cons (pv 0) (pa_cons (pv 1) (pa_cons (pe_op op_add (pv 4) (pe_op op_mul (pv 3) (pv 5))) pa_nil)))) (nomark _)) (pss_one (ps_ret (pv 5))) pss_nil)))
        (pss_one (ps_ret pe_non))), ?_⟩
    refine sq fun U hU => ?_
    walk_at "rd"
    refine ⟨.inl ⟨by decide, by decide⟩, by decide, by decide, by omega, by omega, ?_⟩
    refine for_r (fmP t r s f l H) ⟨rfl, ⟨_, rfl⟩, fun u h1 h2 => by omega⟩ ?_ ?_
    · rintro i σ H' hi ⟨rfl, ⟨x, rfl⟩, hm⟩
      walk_at "rd"
      have m1 : 0 ≤ s * (1 + (i : Int)) := Int.mul_nonneg hs.1 (by omega)
      have m2 : s * (1 + (i : Int)) ≤ l + f * (1 + (i : Int)) := by
        have := Int.mul_le_mul_of_nonneg_right hf.1 (show 0 ≤ 1 + (i : Int) by omega)
        omega
      have e3 : (l + f * (1 + (i : Int))) - s * (1 + (i : Int)) = l + (f - s) * (1 + (i : Int)) := by rw [Int.sub_mul]; omega
      have key := stop_eq (R := r) (show 0 < r by omega) ht.1 m1 m2
      rw [e3] at key
      refine ⟨.inl ⟨by omega, by omega⟩, t, r, _, rfl, by omega, .inl ⟨by omega, by omega⟩, t, r, _, rfl, by omega, ?_⟩
      walk_at "rd"
      by_cases c : stopF t r (s * (1 + (i : Int))) = stopF t r (l + f * (1 + (i : Int)))
      · rw [if_pos c]
        refine k (some _) ⟨by omega, key.mp c, fun u h1 h2 => hm u h1 (by omega)⟩
      · rw [if_neg c]
        refine ⟨rfl, ⟨_, rfl⟩, fun u h1 h2 m => ?_⟩
        by_cases e : u ≤ (i : Int)
        · exact hm u h1 e m
        · rw [show u = 1 + (i : Int) by omega] at m
          exact c (key.mpr m)
    · rintro σ H' ⟨rfl, ⟨x, rfl⟩, hm⟩
      refine hU _ _ ?_
      walk_at "rd"
      refine k none fun u hu m => ?_
      obtain ⟨v, v1, v2, mv⟩ := meets_bound ht.1 (by omega) hs.1 (by omega) hl.1 hu m
      exact hm v v1 (by omega) mv
end
end K65

set_option Elab.async false
set_option linter.all false
set_option maxRecDepth 100000
set_option maxHeartbeats 4000000
namespace K65
open PySem PySem.Spec PyProof.Rows L2 Rd Dt
local macro_rules | `(tactic| walk_at "rd") => `(tactic| try simp only [tVar_, tC_, tOp_, tUn_, rI_, rI0_, rU_, eq_ii, ne_ii, eq_ss, ne_ss, eq_bb, ne_bb, tAndV_, tOrV_, tNotV_, tIf_, tTest_, tB_, tAnd_, tOr_, tNot_, tChain_, tNil_, tCons_, tTup_, tLst_, tCB_, tCall_, tSeq_, tNext_, tRet_, tRetN_, tDrop_, tBreak_, tNever_, tIfS_, tAsg_, gName_, gTup_, gCons_, gNil_, gSub_, tPar_, tPar3_, tSl_, tNoPart_, tPart_, tBM_, tFor_range1, tFor_range2, tFor_list, tFor_tup,
  L2.start, List.map_cons, List.map_nil, List.length_cons, List.length_nil, List.replicate, List.append_nil, List.nil_append, List.cons_append, List.getElem?_cons_zero, List.getElem?_cons_succ, List.set_cons_zero, List.set_cons_succ, Option.some.injEq, V.int.injEq, V.bl.injEq, V.str.injEq, V.ref.injEq, exists_eq_left, exists_eq_left', exists_eq_right, exists_eq, exists_and_left, and_true, true_and, decide_eq_true_eq, Nat.reduceAdd, Nat.reduceSub, Nat.add_zero, Nat.zero_add, List.cons.injEq, Bool.not_eq_true', decide_eq_false_iff_not, eq_self, reduceCtorEq, Bool.false_eq_true, if_true, if_false, ite_true, ite_false, and_self, tLc_range1, tLc_range2, tLc_list, tLc_tup, tYes_, wipe0, wipe1, tCallS_, rIxL_, rIxT_, rSlL_, rCat_, rSetL_, rGcd_, tCallK_, gUnl_, tRaise_, false_and, or_false, false_or, and_false, and_assoc, exists_const, forall_const, forall_eq'])

section
variable {P : Program} {w : World} {K : PySem.W.Frag} {mg : Str → Option Value} {base : Heap}
def spGreat : Sp := fun vs H Q _ => ∃ (u : Addr), vs = [.ref u] ∧ WellAt H u ∧ ∀ (d : Int) (H' : Hp), But u H H' → WellAt H' u → 0 ≤ d → d ≤ 10 ^ 30 → Q (.int d) H'
theorem sc_great : FnScope ["_law_well_here", "_law_branch", "_law_found"] ["_law_well_here"] (defScope (top 27)) := ⟨rfl, rfl, rfl, by decide +kernel, rfl, by decide +kernel, by decide +kernel⟩
theorem ok_great {f : Addr} {fd : FuncData} (T : Tx mg) (F : FD K "_law_great_number" (top 27) f fd) {f1 : Addr} {fd1 : FuncData} (C1 : Cal P w K mg base CX0 1 "_law_take" ["_law_well_here", "_law_limit"] spTake f1 fd1) : FnOk P w K mg base CX0 2 f fd ["_law_well_here"] spGreat := by
  obtain ⟨g_law_take, k_law_take, b_law_take, F_law_take⟩ := C1
  refine F.ok sc_great (fun vs H Q E h => ?_) (fun cdv A outer s H vs Q E hr h => ?_)
  · obtain ⟨_, rfl, _⟩ := h
    rfl
  · obtain ⟨u, rfl, hw, k⟩ := h
    have nd := sc_great.nd
    have p6 : (10 : Int) ^ (6 : Int).toNat = 1000000 := by decide
    have p24 : (10 : Int) ^ (24 : Int).toNat = 10 ^ 24 := rfl
    have p12 : (10 : Int) ^ (12 : Int).toNat = 10 ^ 12 := rfl
    have p30 : (10 : Int) ^ (30 : Int).toNat = 10 ^ 30 := rfl
    have p9 : (10 : Int) ^ (9 : Int).toNat = 10 ^ 9 := rfl
    have cp : ∀ n : Int, 0 ≤ n → n ≤ 1000 → CPow 10 n := fun n h1 h2 => ⟨h1, by omega, by decide⟩
    refine ⟨_, (pss_cons (ps_set (i := 1) nd rfl (Or.inl rfl) (pe_call F_law_take (hr.mono (by decide)) rfl g_law_take k_law_take b_law_take .nil pass0 (pa_cons (pv 0) (pa_cons pe_int pa_nil))))
        (pss_cons (ps_if (pt_cmpR op_lt (pv 1) pe_int (nomark _)) (pss_one (ps_ret (pe_call F_law_take (hr.mono (by decide)) rfl g_law_take k_law_take b_law_take .nil pass0 (pa_cons (pv 0) (pa_cons pe_int pa_nil))))) pss_nil)
        (pss_cons (ps_if (pt_cmpR op_eq (pv 1) pe_int (nomark _)) (pss_one (ps_ret (pe_op op_sub (pe_op op_pow pe_int pe_int) (pe_call F_law_take (hr.mono (by decide)) rfl g_law_take k_law_take b_law_take .nil pass0 (pa_cons (pv 0) (pa_cons pe_int pa_nil)))))) pss_nil)
        (pss_cons (ps_set (i := 2) nd rfl (Or.inl rfl) (pe_op op_add (pe_op op_add (pe_op op_mul (pe_call F_law_take (hr.mono (by decide)) rfl g_law_take k_law_take b_law_take .nil pass0 (pa_cons (pv 0) (pa_cons (pe_op op_pow pe_int pe_int) pa_nil))) (pe_op op_pow pe_int pe_int)) (pe_op op_mul (pe_call F_law_take (hr.mono (by decide)) rfl g_law_take k_law_take b_law_take .nil pass0 (pa_cons (pv 0) (pa_cons (pe_op op_pow pe_int pe_int) pa_nil))) (pe_op op_pow pe_int pe_int))) (pe_call F_law_take (hr.mono (by decide)) rfl g_law_take k_law_take b_law_take .nil pass0 (pa_cons (pv 0) (pa_cons (pe_op op_pow pe_int pe_int) pa_nil)))))
        (pss_one (ps_ret (pe_ifExp (pt_cmpR op_lt (pv 1) pe_int (nomark _)) (pv 2) (pe_op op_mod (pe_callTy call_int1 (by rfl) T.b_int (by decide +kernel) (pa_cons (pv 2) pa_nil)) (pe_op op_pow pe_int pe_int))))))))), ?_⟩
    refine sq fun U hU => ?_
    walk_at "rd"
    refine ⟨u, 6, rfl, hw, by decide, by decide, fun d H1 b1 w1 d0 d1 => hU _ _ ?_⟩
    clear hU
    refine sq fun U hU => ?_
    walk_at "rd"
    by_cases c : d < 2
    · rw [if_pos c]
      exact ⟨u, 8, rfl, w1, by decide, by decide, fun x H2 b2 w2 x0 x1 => k x H2 (b1.trans b2) w2 x0 (by omega)⟩
    rw [if_neg c]
    refine hU _ _ ?_
    clear hU
    refine sq fun U hU => ?_
    walk_at "rd"
    by_cases c2 : d = 2
    · rw [if_pos c2]
      refine ⟨cp _ (by decide) (by decide), u, 3, rfl, w1, by decide, by decide, fun x H2 b2 w2 x0 x1 => ?_⟩
      walk_at "rd"
      rw [p30]
      exact k _ H2 (b1.trans b2) w2 (by omega) (by omega)
    rw [if_neg c2]
    refine hU _ _ ?_
    clear hU
    refine sq fun U hU => ?_
    walk_at "rd"
    rw [p6, p24, p12]
    refine ⟨cp _ (by decide) (by decide), u, 1000000, rfl, w1, by decide, by decide, fun x H2 b2 w2 x0 x1 => ?_⟩
    walk_at "rd"
    refine ⟨cp _ (by decide) (by decide), .inl ⟨by omega, by omega⟩, cp _ (by decide) (by decide), u, 1000000, rfl, w2, by decide, by decide, fun y H3 b3 w3 y0 y1 => ?_⟩
    walk_at "rd"
    refine ⟨cp _ (by decide) (by decide), .inl ⟨by omega, by omega⟩, cp _ (by decide) (by decide), u, 1000000, rfl, w3, by decide, by decide, fun z H4 b4 w4 z0 z1 => ?_⟩
    walk_at "rd"
    refine hU _ _ ?_
    clear hU
    walk_at "rd"
    have bb := b1.trans (b2.trans (b3.trans b4))
    by_cases c3 : d < 5
    · rw [if_pos c3]
      exact k _ H4 bb w4 (by omega) (by omega)
    · rw [if_neg c3]
      rw [p9]
      have q1 := Int.emod_nonneg (x * 10 ^ 24 + y * 10 ^ 12 + z) (show (10 : Int) ^ 9 ≠ 0 by decide)
      have q2 := Int.emod_lt_of_pos (x * 10 ^ 24 + y * 10 ^ 12 + z) (show (0 : Int) < 10 ^ 9 by decide)
      exact ⟨cp _ (by decide) (by decide), by decide, k _ H4 bb w4 q1 (by omega)⟩
/-- the common divisor and a number of times -/
def spShared : Sp := fun vs H Q _ => ∃ a b : Int, vs = [.int a, .int b] ∧ (0 ≤ a ∧ a ≤ 10 ^ 30) ∧ (1 ≤ b ∧ b ≤ 10 ^ 30) ∧ ∀ (p : Addr) (c : Int) (H' : Hp), Same H H' → H p = none → H' p = some (.lst [.int ((Nat.gcd a.natAbs b.natAbs : Nat) : Int), .int c]) → b ∣ ((Nat.gcd a.natAbs b.natAbs : Nat) : Int) - c * a → (c.natAbs : Int) ≤ b → Q (.ref p) H'
theorem sc_shared : FnScope ["_law_first", "_law_second", "_law_left", "_law_right_here", "_law_one", "_law_two", "_law_often"] ["_law_first", "_law_second"] (defScope (top 28)) := ⟨rfl, rfl, rfl, by decide +kernel, rfl, by decide +kernel, by decide +kernel⟩
def shP (a b : Int) (H : Hp) : L2.St → Hp → Prop := fun σ H' => ∃ (L R : Nat) (l g : Int) (t : Option V), σ = [some (V.int a), some (V.int b), some (V.int L), some (V.int R), some (V.int l), some (V.int g), t] ∧ ShS a b (10 ^ 30) L R l g ∧ Same H H'
theorem ok_shared {f : Addr} {fd : FuncData} (F : FD K "_law_shared" (top 28) f fd) : FnOk P w K mg base CX0 1 f fd ["_law_first", "_law_second"] spShared := by
  refine F.ok sc_shared (fun vs H Q E h => ?_) (fun cdv A outer s H vs Q E hr h => ?_)
  · obtain ⟨_, _, rfl, _⟩ := h
    rfl
  · obtain ⟨a, b, rfl, ha, hb, k⟩ := h
    have nd := sc_shared.nd
    refine ⟨_, (pss_cons (ps_asg (pe_tup (pa_cons (pv 0) (pa_cons (pv 1) (pa_cons pe_int (pa_cons pe_int pa_nil))))) (pg_tup rfl (pgs_cons (pg_name (i := 2) nd rfl (Or.inl rfl)) (pgs_cons (pg_name (i := 3) nd rfl (Or.inl rfl)) (pgs_cons (pg_name (i := 4) nd rfl (Or.inl rfl)) (pgs_cons (pg_name (i := 5) nd rfl (Or.inl rfl)) pgs_nil))))))
        (pss_cons (ps_while (passes_of rfl) (pt_cmpR op_gt (pv 3) pe_int (nomark _)) (pss_cons (ps_set (i := 6) nd rfl (Or.inl rfl) (pe_op op_fdivW (pv 2) (pv 3)))
        (pss_one (ps_asg (pe_tup (pa_cons (pv 3) (pa_cons (pe_op op_sub (pv 2) (pe_op op_mulW (pv 6) (pv 3))) (pa_cons (pv 5) (pa_cons (pe_op op_sub (pv 4) (pe_op op_mulW (pv 6) (pv 5))) pa_nil))))) (pg_tup rfl (pgs_cons (pg_name (i := 2) nd rfl (Or.inl rfl)) (pgs_cons (pg_name (i := 3) nd rfl (Or.inl rfl)) (pgs_cons (pg_name (i := 4) nd rfl (Or.inl rfl)) (pgs_cons (pg_name (i := 5) nd rfl (Or.inl rfl)) pgs_nil)))))))))
        (pss_one (ps_ret (pe_lst (pa_cons (pv 2) (pa_cons (pv 4) pa_nil))))))), ?_⟩
    walk_at "rd"
    refine ⟨by decide, fun p hp => ?_⟩
    refine ⟨_, SqT.of upd_same, rfl, _, _, rfl, _, _, rfl, _, _, rfl, _, _, rfl, rfl, ?_⟩
    have i0 := ShS.start (B := 10 ^ 30) ha.1 hb.1 ha.2 hb.2
    refine while_by (shP a b H) (fun σ _ => slotN 3 σ) ⟨a.toNat, b.toNat, 1, 0, none, by rw [Int.toNat_of_nonneg ha.1, Int.toNat_of_nonneg (show 0 ≤ b by omega)], i0, same_new hp⟩ ?_ ?_
    · rintro σ H' ⟨L, R, l, g, t, rfl, I, hs⟩
      have b1 := I.b1; have b2 := I.b2; have b6 := I.s6
      have dL := Nat.div_le_self L R
      walk_at "rd"
      by_cases c : (0 : Int) < (R : Int)
      · rw [if_pos c]
        have w2 : ((L : Int) / (R : Int)).natAbs < 2 ^ 100 := by
          rw [show (L : Int) / (R : Int) = ((L / R : Nat) : Int) from rfl, Int.natAbs_natCast]
          omega
        refine ⟨wide_div (by omega) (b := 100) (by omega) (by decide) (by decide), wide_mul (a := 100) (b := 100) w2 (by omega) (by decide) (by decide) (by decide), wide_mul (a := 100) (b := 100) w2 (by omega) (by decide) (by decide) (by decide), by decide, fun q hq => ?_⟩
        refine ⟨_, SqT.of upd_same, rfl, _, _, rfl, _, _, rfl, _, _, rfl, _, _, rfl, rfl, ?_⟩
        refine ⟨⟨R, L % R, g, l - ((L / R : Nat) : Int) * g, some (V.int ((L / R : Nat) : Int)), ?_, I.step (by omega), hs.trans (same_new hq)⟩, ?_⟩
        · rw [cast_mod]; rfl
        · have := Nat.mod_lt L (show 0 < R by omega)
          show ((L : Int) - ((L / R : Nat) : Int) * R).toNat < (R : Int).toNat
          have e := cast_mod L R
          omega
      · rw [if_neg c]
        have r0 : R = 0 := by omega
        subst r0
        obtain ⟨f1, f2⟩ := I.fin
        refine ⟨by decide, fun q hq => ?_⟩
        rw [f1] at f2 ⊢
        exact k q l _ (hs.trans (same_new hq)) (hs.free hq) upd_same f2 b6.1
    · rintro σ H' Q1 Q2 f ⟨v, e, i, j, e1, e2, b, e3, q⟩
      exact ⟨v, e, i, j, e1, e2, b, e3, f _ _ q⟩
theorem sc_far : FnScope ["_law_tail_here", "_law_round_here", "_law_calm", "_law_quick", "_law_gap", "_law_apart", "_law_common", "_law_often", "_law_period", "_law_first", "_law_least"] ["_law_tail_here", "_law_round_here", "_law_calm", "_law_quick", "_law_gap"] (defScope (top 29)) := ⟨rfl, rfl, rfl, by decide +kernel, rfl, by decide +kernel, by decide +kernel⟩
def spFar : Sp := fun vs H Q _ => ∃ t r s f l : Int, vs = [.int t, .int r, .int s, .int f, .int l] ∧ (0 ≤ t ∧ t ≤ 10 ^ 30) ∧ (1 ≤ r ∧ r ≤ 10 ^ 30) ∧ (0 ≤ s ∧ s ≤ 10 ^ 30) ∧ (s ≤ f ∧ f ≤ 10 ^ 30) ∧ (0 ≤ l ∧ l ≤ 10 ^ 30) ∧ ∀ (o : Option Int) (H' : Hp), Same H H' → IsFirst t r s (f - s) l o → Q (optV o) H'
theorem ok_far {f : Addr} {fd : FuncData} (T : Tx mg) (F : FD K "_law_far_meeting" (top 29) f fd) {f1 : Addr} {fd1 : FuncData} (C1 : Cal P w K mg base CX0 1 "_law_shared" ["_law_first", "_law_second"] spShared f1 fd1) : FnOk P w K mg base CX0 2 f fd ["_law_tail_here", "_law_round_here", "_law_calm", "_law_quick", "_law_gap"] spFar := by
  obtain ⟨g_law_shared, k_law_shared, b_law_shared, F_law_shared⟩ := C1
  refine F.ok sc_far (fun vs H Q E h => ?_) (fun cdv A outer s' H vs Q E hr h => ?_)
  · obtain ⟨_, _, _, _, _, rfl, _⟩ := h
    rfl
  · obtain ⟨t, r, s, f, l, rfl, ht, hr', hs, hf, hl, k⟩ := h
    have nd := sc_far.nd
    refine ⟨_, (pss_cons (ps_set (i := 5) nd rfl (Or.inl rfl) (pe_op op_sub (pv 3) (pv 2)))
        (pss_cons (ps_if (PW.pt (pw_and (pt_cmpR op_eq (pv 5) pe_int (nomark _)) (pw_and1 (pt_cmpR op_eq (pv 4) pe_int (nomark _))))) (pss_one (ps_ret pe_int)) pss_nil)
        (pss_cons (ps_if (PW.pt (pw_and (pt_cmpR op_eq (pv 2) pe_int (nomark _)) (pw_and1 (pt_cmpR op_gt (pv 0) pe_int (nomark _))))) (pss_one (ps_ret pe_non)) pss_nil)
        (pss_cons (ps_asg (pe_call F_law_shared (hr.mono (by decide)) rfl g_law_shared k_law_shared b_law_shared .nil pass0 (pa_cons (pv 5) (pa_cons (pv 1) pa_nil))) (pg_unl rfl (pgs_cons (pg_name (i := 6) nd rfl (Or.inl rfl)) (pgs_cons (pg_name (i := 7) nd rfl (Or.inl rfl)) pgs_nil))))
        (pss_cons (ps_if (pt_cmpR op_ne (pe_op op_mod (pe_callTy call_int1 (by rfl) T.b_int (by decide +kernel) (pa_cons (pv 4) pa_nil)) (pv 6)) pe_int (nomark _)) (pss_one (ps_ret pe_non)) pss_nil)
        (pss_cons (ps_set (i := 8) nd rfl (Or.inl rfl) (pe_op op_fdivW (pv 1) (pv 6)))
        (pss_cons (ps_set (i := 9) nd rfl (Or.inl rfl) (pe_op op_mod (pe_callTy call_int1 (by rfl) T.b_int (by decide +kernel) (pa_cons (pe_op op_sub pe_int (pe_op op_mulW (pe_op op_fdivW (pv 4) (pv 6)) (pv 7))) pa_nil)) (pv 8)))
        (pss_cons (ps_set (i := 10) nd rfl (Or.inl rfl) (pe_ifExp (pt_cmpR op_eq (pv 2) pe_int (nomark _)) pe_int (pe_callB (call_max2 rfl) (by rfl) T.b_max (by decide +kernel) (pa_cons pe_int (pa_cons (pe_op op_fdivW (pe_op op_sub (pe_op op_add (pv 0) (pv 2)) pe_int) (pv 2)) pa_nil)))))
        (pss_one (ps_ret (pe_op op_add (pv 10) (pe_op op_mod (pe_callTy call_int1 (by rfl) T.b_int (by decide +kernel) (pa_cons (pe_op op_sub (pv 9) (pv 10)) pa_nil)) (pv 8))))))))))))), ?_⟩
    refine sq fun U hU => ?_
    walk_at "rd"
    refine hU _ _ ?_
    clear hU
    obtain ⟨d, ed⟩ : ∃ d, d = f - s := ⟨_, rfl⟩
    rw [← ed] at k ⊢
    have hd : 0 ≤ d ∧ d ≤ 10 ^ 30 := by omega
    refine sq fun U hU => ?_
    walk_at "rd"
    by_cases c1 : d = 0 ∧ l = 0
    · rw [if_pos c1.1, if_pos c1.2]
      refine k (some 1) H (Same.refl H) ?_
      rw [c1.1, c1.2]; exact first_zero
    refine ite2n c1 (hU _ _ ?_)
    clear hU
    have c1' : ¬ (l = 0 ∧ d = 0) := fun z => c1 ⟨z.2, z.1⟩
    refine sq fun U hU => ?_
    walk_at "rd"
    by_cases c2 : s = 0 ∧ 0 < t
    · rw [if_pos c2.1, if_pos c2.2]
      exact k none H (Same.refl H) (first_none c1' hl.1 hd.1 (.inl c2))
    refine ite2n c2 (hU _ _ ?_)
    clear hU
    refine sq fun U hU => ?_
    walk_at "rd"
    refine ⟨d, r, rfl, hd, hr', fun p v H1 s1 hp hp1 dv vb => ?_⟩
    obtain ⟨g, eg, g0, eR, edd, p0, d0, gg, gR, pR, dd⟩ := parted hd.1 (show 0 < r by omega)
    rw [← eg] at hp1 dv
    walk_at "rd"
    refine ⟨_, SqL.of hp1, rfl, _, _, rfl, _, _, rfl, rfl, hU _ _ ?_⟩
    clear hU
    refine sq fun U hU => ?_
    walk_at "rd"
    refine ⟨g0, ?_⟩
    by_cases c3 : l % g = 0
    · rw [if_neg (fun z => z c3)]
      refine hU _ _ ?_
      clear hU
      refine sq fun U hU => ?_
      walk_at "rd"
      have gw : CDivW r g := wide_div g0 (b := 100) (by omega) (by decide) (by decide)
      have gw2 : CDivW l g := wide_div g0 (b := 100) (by omega) (by decide) (by decide)
      refine ⟨gw, hU _ _ ?_⟩
      clear hU
      have dl : g * (l / g) = l := Int.mul_ediv_cancel' (Int.dvd_of_emod_eq_zero c3)
      have l0 : 0 ≤ l / g := Int.ediv_nonneg hl.1 (by omega)
      have l1 : l / g ≤ l := Int.ediv_le_self _ hl.1
      refine sq fun U hU => ?_
      walk_at "rd"
      refine ⟨gw2, wide_mul (a := 100) (b := 100) (by omega) (by omega) (by decide) (by decide) (by decide), p0, hU _ _ ?_⟩
      clear hU
      refine sq fun U hU => ?_
      walk_at "rd"
      have st : U [some (V.int t), some (V.int r), some (V.int s), some (V.int f), some (V.int l), some (V.int d), some (V.int g), some (V.int v), some (V.int (r / g)), some (V.int ((0 - l / g * v) % (r / g))), some (V.int (if s = 0 then 1 else max 1 ((t + s - 1) / s)))] H1 := by
        refine hU _ _ ?_
        clear hU
        walk_at "rd"
        refine ⟨p0, ?_⟩
        refine k (some _) _ s1 (first_by (v := v) (rest := (0 - l / g * v) % (r / g)) ht.1 hs.1 p0 g0 eR edd dl.symm c1' hl.1 hd.1 (fun z => ?_) ?_ ?_)
        · have : ¬ 0 < t := fun q => c2 ⟨z, q⟩
          omega
        · have e1 : g - v * d = g * (1 - v * (d / g)) := by
            rw [Int.mul_sub, Int.mul_one]
            have : g * (v * (d / g)) = v * d := by rw [← Int.mul_assoc, Int.mul_comm g v, Int.mul_assoc, ← edd]
            omega
          rw [e1] at dv
          rw [eR] at dv
          have e2 : g * (r / g) / g = r / g := Int.mul_ediv_cancel_left _ (by omega)
          have := (Int.mul_dvd_mul_iff_left (show g ≠ 0 by omega)).mp dv
          have := Int.dvd_neg.mpr this
          rwa [show -(1 - v * (d / g)) = d / g * v - 1 by rw [Int.mul_comm]; omega] at this
        · have e1 := Int.dvd_self_sub_emod (x := 0 - l / g * v) (m := r / g)
          have := Int.dvd_neg.mpr e1
          rwa [show -(0 - l / g * v - (0 - l / g * v) % (r / g)) = (0 - l / g * v) % (r / g) + l / g * v by omega] at this
      by_cases a1 : s = 0
      · rw [if_pos a1] at st ⊢
        exact st
      · rw [if_neg a1] at st ⊢
        refine ⟨wide_div (by omega) (b := 100) (by omega) (by decide) (by decide), ?_⟩
        rw [max_if]
        exact st
    · rw [if_pos c3]
      refine k none H1 s1 (first_none c1' hl.1 hd.1 (.inr ?_))
      rw [gcd_int, ← eg]
      exact fun z => c3 (Int.emod_eq_zero_of_dvd z)
end
end K65

set_option Elab.async false
set_option linter.all false
set_option maxRecDepth 100000
set_option maxHeartbeats 4000000
namespace K65
open PySem PySem.Spec PyProof.Rows L2 Rd Dt
local macro_rules | `(tactic| walk_at "rd") => `(tactic| try simp only [tVar_, tC_, tOp_, tUn_, rI_, rI0_, rU_, eq_ii, ne_ii, eq_ss, ne_ss, eq_bb, ne_bb, tAndV_, tOrV_, tNotV_, tIf_, tTest_, tB_, tAnd_, tOr_, tNot_, tChain_, tNil_, tCons_, tTup_, tLst_, tCB_, tCall_, tSeq_, tNext_, tRet_, tRetN_, tDrop_, tBreak_, tNever_, tIfS_, tAsg_, gName_, gTup_, gCons_, gNil_, gSub_, tPar_, tPar3_, tSl_, tNoPart_, tPart_, tBM_, tFor_range1, tFor_range2, tFor_list, tFor_tup,
  L2.start, List.map_cons, List.map_nil, List.length_cons, List.length_nil, List.replicate, List.append_nil, List.nil_append, List.cons_append, List.getElem?_cons_zero, List.getElem?_cons_succ, List.set_cons_zero, List.set_cons_succ, Option.some.injEq, V.int.injEq, V.bl.injEq, V.str.injEq, V.ref.injEq, exists_eq_left, exists_eq_left', exists_eq_right, exists_eq, exists_and_left, and_true, true_and, decide_eq_true_eq, Nat.reduceAdd, Nat.reduceSub, Nat.add_zero, Nat.zero_add, List.cons.injEq, Bool.not_eq_true', decide_eq_false_iff_not, eq_self, reduceCtorEq, Bool.false_eq_true, if_true, if_false, ite_true, ite_false, and_self, tLc_range1, tLc_range2, tLc_list, tLc_tup, tYes_, wipe0, wipe1, tCallS_, rIxL_, rIxT_, rSlL_, rCat_, rSetL_, rGcd_, tCallK_, gUnl_, tRaise_, false_and, or_false, false_or, and_false, and_assoc, exists_const, forall_const, forall_eq'])

section
variable {P : Program} {w : World} {K : PySem.W.Frag} {mg : Str → Option Value} {base : Heap}
def badP' (s f l : V) (most : Int) : Option V := bad3 s f l most
/-- which value is refused -/
def badE (br : Int) (v0 v1 v2 v3 v4 : V) : Option V := if br = 0 then badS v0 v1 v2 else if br = 1 then badM v0 v1 v2 v3 v4 else if br = 2 then bad3 v2 v3 v4 (10 ^ 30) else bad3 v2 v3 v4 1000
def spErr : Sp := fun vs H Q _ => ∃ (br : Int) (a : Addr) (v0 v1 v2 v3 v4 : V), vs = [.int br, .ref a] ∧ H a = some (.lst [v0, v1, v2, v3, v4]) ∧ Smp H v0 ∧ Smp H v1 ∧ Smp H v2 ∧ Smp H v3 ∧ Smp H v4 ∧
  (badE br v0 v1 v2 v3 v4 = none → (br ≠ 0 ∧ br ≠ 1 ∧ br ≠ 2 → iv v2 < 5 ∧ iv v3 - iv v2 < 10 ∧ iv v4 < 9) ∧ ∀ H', Same H H' → Q .non H') ∧
  (∀ x, badE br v0 v1 v2 v3 v4 = some x → ∀ (p : Addr) (H' : Hp), Same H H' → H p = none → H' p = some (.lst [x, .bl true]) → Q (.ref p) H')
theorem sc_err : FnScope ["_law_branch", "_law_some", "e"] ["_law_branch", "_law_some"] (defScope (top 30)) := ⟨rfl, rfl, rfl, by decide +kernel, rfl, by decide +kernel, by decide +kernel⟩
theorem ok_err {C CA fI : Addr} {fdI : FuncData} (T : Tx mg) (R : ErN K mg C fI fdI) (XF : XfC K C) (XE : ExcC K C) (te : PySem.W.exmOne K (.ref C) (.ref C) = some true) (gArr : mg "ArrowError" = some (.ref CA)) (kit : PySem.W.kitOne K (.ref C) (.ref CA) = some true)
    {f : Addr} {fd : FuncData} (F : FD K "_law_error" (top 30) f fd) {f1 f2 f3 f4 : Addr} {fd1 fd2 fd3 fd4 : FuncData} (C1 : Cal P w K mg base (L2.CX P w) 6 "stop_at" ["tail", "ring", "steps"] (spStopAt C) f1 fd1) (C2 : Cal P w K mg base (L2.CX P w) 6 "meet" ["tail", "ring", "slow", "fast", "lead"] (spMeet C) f2 fd2)
    (C3 : Cal P w K mg base (L2.CX P w) 6 "meets_always" ["slow", "fast", "lead"] (spAlways C) f3 fd3) (C4 : Cal P w K mg base (L2.CX P w) 6 "missed_track" ["slow", "fast", "lead"] (spMissed C) f4 fd4) : FnOk P w K mg base CX0 7 f fd ["_law_branch", "_law_some"] spErr := by
  obtain ⟨gstop_at, kstop_at, bstop_at, Fstop_at⟩ := C1
  obtain ⟨gmeet, kmeet, bmeet, Fmeet⟩ := C2
  obtain ⟨gmeets_always, kmeets_always, bmeets_always, Fmeets_always⟩ := C3
  obtain ⟨gmissed_track, kmissed_track, bmissed_track, Fmissed_track⟩ := C4
  refine F.ok sc_err (fun vs H Q E h => ?_) (fun cdv A outer s' H vs Q E hr h => ?_)
  · obtain ⟨_, _, _, _, _, _, _, rfl, _⟩ := h
    rfl
  · obtain ⟨br, a, v0, v1, v2, v3, v4, rfl, ha, s0, s1, s2, s3, s4, k1, k2⟩ := h
    have nd := sc_err.nd
    refine ⟨_, (pss_cons (ps_try_as (i := 2) rfl rfl nd rfl rfl ⟨rfl, by decide, .inl R.gC⟩ takes0 (fun W pn xe tk _ => (pss_one (ps_if (pt_cmpR op_eq (pv 0) pe_int (nomark _)) (pss_one (ps_expr (pe_callS Fstop_at (hr.mono (by decide)) rfl gstop_at kstop_at bstop_at (fun σ => passAt tk σ) (pa_cons (pe_ix (r := rIxL K) ix_list (pv 1) pe_int (fun _ _ => rfl)) (pa_cons (pe_ix (r := rIxL K) ix_list (pv 1) pe_int (fun _ _ => rfl)) (pa_cons (pe_ix (r := rIxL K) ix_list (pv 1) pe_int (fun _ _ => rfl)) pa_nil)))))) (pss_one (ps_if (pt_cmpR op_eq (pv 0) pe_int (nomark _)) (pss_one (ps_expr (pe_callS Fmeet (hr.mono (by decide)) rfl gmeet kmeet bmeet (fun σ => passAt tk σ) (pa_cons (pe_ix (r := rIxL K) ix_list (pv 1) pe_int (fun _ _ => rfl)) (pa_cons (pe_ix (r := rIxL K) ix_list (pv 1) pe_int (fun _ _ => rfl)) (pa_cons (pe_ix (r := rIxL K) ix_list (pv 1) pe_int (fun _ _ => rfl)) (pa_cons (pe_ix (r := rIxL K) ix_list (pv 1) pe_int (fun _ _ => rfl)) (pa_cons (pe_ix (r := rIxL K) ix_list (pv 1) pe_int (fun _ _ => rfl)) pa_nil)))))))) (pss_one (ps_if (pt_cmpR op_eq (pv 0) pe_int (nomark _)) (pss_one (ps_expr (pe_callS Fmeets_always (hr.mono (by decide)) rfl gmeets_always kmeets_always bmeets_always (fun σ => passAt tk σ) (pa_cons (pe_ix (r := rIxL K) ix_list (pv 1) pe_int (fun _ _ => rfl)) (pa_cons (pe_ix (r := rIxL K) ix_list (pv 1) pe_int (fun _ _ => rfl)) (pa_cons (pe_ix (r := rIxL K) ix_list (pv 1) pe_int (fun _ _ => rfl)) pa_nil)))))) (pss_one (ps_expr (pe_callS Fmissed_track (hr.mono (by decide)) rfl gmissed_track kmissed_track bmissed_track (fun σ => passAt tk σ) (pa_cons (pe_ix (r := rIxL K) ix_list (pv 1) pe_int (fun _ _ => rfl)) (pa_cons (pe_ix (r := rIxL K) ix_list (pv 1) pe_int (fun _ _ => rfl)) (pa_cons (pe_ix (r := rIxL K) ix_list (pv 1) pe_int (fun _ _ => rfl)) pa_nil)))))))))))))
        (fun a oe cls d pn hz hf => (pss_one (ps_ret (pe_lst (pa_cons (pe_xf XF R.noN hz hf (pv 2)) (pa_cons (pe_callB (Exx.call_isX XE hz hf) (by rfl) T.b_isinstance (by decide +kernel) (pa_cons (pv 2) (pa_cons (pe_glob (v := .ref CA) rfl gArr rfl) pa_nil))) pa_nil)))))))
        (pss_one (ps_ret pe_non))), ?_⟩
    -- how an error ends
    have bad : ∀ x, badE br v0 v1 v2 v3 v4 = some x → ∀ (d : Addr), H d = none → ∀ p, (upd H d (.xd [("given", x)])) p = none → Q (.ref p) (upd (upd H d (.xd [("given", x)])) p (.lst [x, .bl true])) := fun x hx d hd p hp =>
      k2 x hx p _ ((same_new hd).trans (same_new hp)) ((same_new hd).free hp) upd_same
    have lk : ∀ x : V, List.lookup ("given" : Str) [(("given" : Str), x)] = some x := fun x => by simp [List.lookup]
    refine sq fun U hU => ?_
    have i0 : SqL K H a [v0, v1, v2, v3, v4] := SqL.of ha
    have fin : ∀ H', Q .non H' → U [some (V.int br), some (V.ref a), none] H' := fun H' q => by
      refine hU _ _ ?_
      walk_at "rd"
      exact q
    walk_at "rd"
    by_cases c0 : br = 0
    · rw [if_pos c0]
      have eb : badE br v0 v1 v2 v3 v4 = badS v0 v1 v2 := by unfold badE; rw [if_pos c0]
      refine ⟨_, i0, v0, atI_nn (by decide) rfl, _, i0, v1, atI_nn (by decide) rfl, _, i0, v2, atI_nn (by decide) rfl, v0, v1, v2, rfl, s0, s1, s2, fun e => ?_, fun x hx d hd => ⟨true, te, fun _ a' ha' => ⟨_, rfl, rfl, rfl, d, [("given", x)], x, rfl, upd_same, lk x, _, rfl, .ref CA, .ref CA, true, d, _, rfl, rfl, fun u hu => hu, rfl, upd_same, kit, (by decide : 2 ≤ sizeLine), fun p hp => bad x (eb.trans hx) d hd p hp⟩, fun q => nomatch q⟩⟩
      exact fin _ ((k1 (eb.trans e)).2 H (Same.refl H))
    rw [if_neg c0]
    by_cases c1 : br = 1
    · rw [if_pos c1]
      have eb : badE br v0 v1 v2 v3 v4 = badM v0 v1 v2 v3 v4 := by unfold badE; rw [if_neg c0, if_pos c1]
      refine ⟨_, i0, v0, atI_nn (by decide) rfl, _, i0, v1, atI_nn (by decide) rfl, _, i0, v2, atI_nn (by decide) rfl, _, i0, v3, atI_nn (by decide) rfl, _, i0, v4, atI_nn (by decide) rfl, v0, v1, v2, v3, v4, rfl, s0, s1, s2, s3, s4, fun e o H' hs _ => ?_, fun x hx d hd => ⟨true, te, fun _ a' ha' => ⟨_, rfl, rfl, rfl, d, [("given", x)], x, rfl, upd_same, lk x, _, rfl, .ref CA, .ref CA, true, d, _, rfl, rfl, fun u hu => hu, rfl, upd_same, kit, (by decide : 2 ≤ sizeLine), fun p hp => bad x (eb.trans hx) d hd p hp⟩, fun q => nomatch q⟩⟩
      exact fin _ ((k1 (eb.trans e)).2 H' hs)
    rw [if_neg c1]
    by_cases c2 : br = 2
    · rw [if_pos c2]
      have eb : badE br v0 v1 v2 v3 v4 = bad3 v2 v3 v4 (10 ^ 30) := by unfold badE; rw [if_neg c0, if_neg c1, if_pos c2]
      refine ⟨_, i0, v2, atI_nn (by decide) rfl, _, i0, v3, atI_nn (by decide) rfl, _, i0, v4, atI_nn (by decide) rfl, v2, v3, v4, rfl, s2, s3, s4, fun e => ?_, fun x hx d hd => ⟨true, te, fun _ a' ha' => ⟨_, rfl, rfl, rfl, d, [("given", x)], x, rfl, upd_same, lk x, _, rfl, .ref CA, .ref CA, true, d, _, rfl, rfl, fun u hu => hu, rfl, upd_same, kit, (by decide : 2 ≤ sizeLine), fun p hp => bad x (eb.trans hx) d hd p hp⟩, fun q => nomatch q⟩⟩
      exact fin _ ((k1 (eb.trans e)).2 H (Same.refl H))
    rw [if_neg c2]
    have eb : badE br v0 v1 v2 v3 v4 = bad3 v2 v3 v4 1000 := by unfold badE; rw [if_neg c0, if_neg c1, if_neg c2]
    refine ⟨_, i0, v2, atI_nn (by decide) rfl, _, i0, v3, atI_nn (by decide) rfl, _, i0, v4, atI_nn (by decide) rfl, v2, v3, v4, rfl, s2, s3, s4, fun e => ?_, fun x hx d hd => ⟨true, te, fun _ a' ha' => ⟨_, rfl, rfl, rfl, d, [("given", x)], x, rfl, upd_same, lk x, _, rfl, .ref CA, .ref CA, true, d, _, rfl, rfl, fun u hu => hu, rfl, upd_same, kit, (by decide : 2 ≤ sizeLine), fun p hp => bad x (eb.trans hx) d hd p hp⟩, fun q => nomatch q⟩⟩
    obtain ⟨sm, kk⟩ := k1 (eb.trans e)
    obtain ⟨m1, m2, m3⟩ := sm ⟨c0, c1, c2⟩
    exact ⟨m1, m2, m3, fun _ H' hs => fin _ (kk H' hs), fun _ _ _ H' p hs _ _ => fin _ (kk H' hs)⟩
end
end K65

set_option Elab.async false
set_option linter.all false
set_option maxRecDepth 100000
set_option maxHeartbeats 4000000
namespace K65
open PySem PySem.Spec PyProof.Rows L2 Rd Dt
local macro_rules | `(tactic| walk_at "rd") => `(tactic| try simp only [tVar_, tC_, tOp_, tUn_, rI_, rI0_, rU_, eq_ii, ne_ii, eq_ss, ne_ss, eq_bb, ne_bb, tAndV_, tOrV_, tNotV_, tIf_, tTest_, tB_, tAnd_, tOr_, tNot_, tChain_, tNil_, tCons_, tTup_, tLst_, tCB_, tCall_, tSeq_, tNext_, tRet_, tRetN_, tDrop_, tBreak_, tNever_, tIfS_, tAsg_, gName_, gTup_, gCons_, gNil_, gSub_, tPar_, tPar3_, tSl_, tNoPart_, tPart_, tBM_, tFor_range1, tFor_range2, tFor_list, tFor_tup,
  L2.start, List.map_cons, List.map_nil, List.length_cons, List.length_nil, List.replicate, List.append_nil, List.nil_append, List.cons_append, List.getElem?_cons_zero, List.getElem?_cons_succ, List.set_cons_zero, List.set_cons_succ, Option.some.injEq, V.int.injEq, V.bl.injEq, V.str.injEq, V.ref.injEq, exists_eq_left, exists_eq_left', exists_eq_right, exists_eq, exists_and_left, and_true, true_and, decide_eq_true_eq, Nat.reduceAdd, Nat.reduceSub, Nat.add_zero, Nat.zero_add, List.cons.injEq, Bool.not_eq_true', decide_eq_false_iff_not, eq_self, reduceCtorEq, Bool.false_eq_true, if_true, if_false, ite_true, ite_false, and_self, tLc_range1, tLc_range2, tLc_list, tLc_tup, tYes_, wipe0, wipe1, tCallS_, rIxL_, rIxT_, rSlL_, rCat_, rSetL_, rGcd_, tCallK_, gUnl_, tRaise_, decide_true, decide_false, not_true_eq_false, not_false_eq_true, false_and, or_false, false_or, and_false, and_assoc, exists_const, forall_const, forall_eq'])

section
variable {P : Program} {w : World} {K : PySem.W.Frag} {mg : Str → Option Value} {base : Heap}
def dOpt : Option Int → PyData
  | none => .none
  | some t => .int t
theorem dp_opt {H : Hp} : ∀ o : Option Int, Dp K H (optV o) (dOpt o)
  | none => .non
  | some t => .int t
theorem fit_opt {T R s d l : Int} (hT : 0 ≤ T) (hR : 0 < R) (hs : 0 ≤ s) (hd : 0 ≤ d) (hl : 0 ≤ l) (bT : T ≤ 10 ^ 30) (bR : R ≤ 10 ^ 30) : ∀ {o : Option Int}, IsFirst T R s d l o → Fit (dOpt o) 0 151
  | none, _ => Fit.non.mono (by decide) (by decide)
  | some t, h => by
    have := first_le hT hR hs hd hl h
    exact Fit.int (k := 150) (by decide) (by decide) (by omega)
theorem fit_two {d e : PyData} {n : Nat} (h1 : Fit d 0 n) (h2 : Fit e 0 n) (hn : n ≤ 1000) : Fit (.list [d, e]) 1 3000 := by
  have := Fit.list (ds := [d, e]) (k := 0) (n := n) (fun x hx => by
    rcases List.mem_cons.mp hx with z | z
    · rw [z]; exact h1
    · rw [List.mem_singleton.mp z]; exact h2)
  refine this.mono (by decide) ?_
  show 2 * (n + 2) + 3 ≤ 3000
  omega
theorem repr_two {H : Hp} {Q : VK} {p : Addr} {v u : V} {d e : PyData} {n : Nat} (hp : SqL K H p [v, u]) (h1 : Fit d 0 n) (h2 : Fit e 0 n) (hn : n ≤ 1000) (q1 : Dp K H v d) (q2 : Dp K H u e) (q : Q (.str (PyData.shown (.list [d, e]))) H) : Ga.rRepr K [.ref p] H Q :=
  rRepr_fit (fit_two h1 h2 hn) (by decide) (by decide) (.lst hp (.cons q1 (.cons q2 .nil))) q
abbrev KW (K : PySem.W.Frag) (fd : FuncData) (ps : List Str) : Prop := KBn K fd ps 0 ps (fun _ ws => ws) (fun _ zs => zs)
def spG : Sp := fun vs H Q _ => ∃ u : Addr, vs = [.ref u] ∧ WellAt H u ∧ ∀ H', But u H H' → WellAt H' u → Q (.bl true) H'
theorem sc_small : FnScope ["_law_well_here", "_law_long", "_law_round_here", "_law_calm", "_law_quick", "_law_gap", "_law_paces", "_law_spot", "_law_turn", "_law_due", "_law_told"] ["_law_well_here"] (defScope (top 32)) := ⟨rfl, rfl, rfl, by decide +kernel, rfl, by decide +kernel, by decide +kernel⟩
def smP (H0 : Hp) (T R c q g n : Int) (a : Addr) (i : Nat) : L2.St → Hp → Prop := fun σ H' => H' = H0 ∧ ∃ (x : Option V), σ = [some (.ref a), some (V.int T), some (V.int R), some (V.int c), some (V.int q), some (V.int g), some (V.int n), some (V.int (stopF T R i)), x, none, none]
theorem ok_small {C : Addr} (T : Tx mg) {f : Addr} {fd : FuncData} (F : FD K "_law_is_small_right" (top 32) f fd) {f1 f2 f3 f4 : Addr} {fd1 fd2 fd3 fd4 : FuncData} (C1 : Cal P w K mg base (L2.CX P w) 6 "stop_at" ["tail", "ring", "steps"] (spStopAt C) f1 fd1) (wstop_at : KW K fd1 ["tail", "ring", "steps"]) (C2 : Cal P w K mg base (L2.CX P w) 6 "meet" ["tail", "ring", "slow", "fast", "lead"] (spMeet C) f2 fd2) (wmeet : KW K fd2 ["tail", "ring", "slow", "fast", "lead"])
    (C3 : Cal P w K mg base CX0 2 "_law_first_meeting" ["_law_tail_here", "_law_round_here", "_law_calm", "_law_quick", "_law_gap"] spFM f3 fd3) (C4 : Cal P w K mg base CX0 1 "_law_take" ["_law_well_here", "_law_limit"] spTake f4 fd4) : Ga.FnG P w K mg base CX0 7 f fd ["_law_well_here"] spG := by
  obtain ⟨gstop_at, kstop_at, bstop_at, Fstop_at⟩ := C1
  obtain ⟨gmeet, kmeet, bmeet, Fmeet⟩ := C2
  obtain ⟨g_law_first_meeting, k_law_first_meeting, b_law_first_meeting, F_law_first_meeting⟩ := C3
  obtain ⟨g_law_take, k_law_take, b_law_take, F_law_take⟩ := C4
  refine Ga.FnG.mk' F sc_small (fun vs H Q E h => ?_) (fun cdv A outer s' H vs Q E hG hr h => ?_)
  · obtain ⟨_, rfl, _⟩ := h
    rfl
  · obtain ⟨u, rfl, hw, k⟩ := h
    have nd := sc_small.nd
    refine ⟨_, (pss_cons (ps_par3 rfl nd (i := 1) (j := 2) (l := 3) rfl rfl rfl (by decide) (by decide) (by decide) rfl rfl rfl (pa_cons (pe_call F_law_take (hr.mono (by decide)) rfl g_law_take k_law_take b_law_take .nil pass0 (pa_cons (pv 0) (pa_cons pe_int pa_nil))) (pa_cons (pe_op op_add pe_int (pe_call F_law_take (hr.mono (by decide)) rfl g_law_take k_law_take b_law_take .nil pass0 (pa_cons (pv 0) (pa_cons pe_int pa_nil)))) (pa_cons (pe_call F_law_take (hr.mono (by decide)) rfl g_law_take k_law_take b_law_take .nil pass0 (pa_cons (pv 0) (pa_cons pe_int pa_nil))) pa_nil))) rfl)
        (pss_cons (ps_par3 rfl nd (i := 4) (j := 5) (l := 6) rfl rfl rfl (by decide) (by decide) (by decide) rfl rfl rfl (pa_cons (pe_op op_add (pv 3) (pe_call F_law_take (hr.mono (by decide)) rfl g_law_take k_law_take b_law_take .nil pass0 (pa_cons (pv 0) (pa_cons pe_int pa_nil)))) (pa_cons (pe_call F_law_take (hr.mono (by decide)) rfl g_law_take k_law_take b_law_take .nil pass0 (pa_cons (pv 0) (pa_cons pe_int pa_nil))) (pa_cons (pe_call F_law_take (hr.mono (by decide)) rfl g_law_take k_law_take b_law_take .nil pass0 (pa_cons (pv 0) (pa_cons pe_int pa_nil))) pa_nil))) rfl)
        (pss_cons (ps_set (i := 7) nd rfl (Or.inl rfl) pe_int)
        (pss_cons (ps_for (passes_of rfl) rfl (pi_range1 rfl T.b_range (pa_cons (pv 6) pa_nil)) (pg_name (i := 8) nd rfl (Or.inl rfl)) (pss_one (ps_set (i := 7) nd rfl (Or.inl rfl) (pe_ifExp (pt_cmpR op_lt (pe_op op_add (pv 7) pe_int) (pe_op op_add (pv 1) (pv 2)) (nomark _)) (pe_op op_add (pv 7) pe_int) (pv 1)))))
        (pss_cons (ps_if (pt_cmpR op_ne (pe_callB (Ga.call_repr hG hr) (by rfl) T.b_repr (by decide +kernel) (pa_cons (pe_lst (pa_cons (pe_call Fstop_at (hr.mono (by decide)) rfl gstop_at kstop_at bstop_at .nil passL (pa_cons (pv 1) (pa_cons (pv 2) (pa_cons (pv 6) pa_nil)))) (pa_cons (pe_callKw Fstop_at (hr.mono (by decide)) rfl gstop_at kstop_at wstop_at passL (pk_cons (pv 1) (pk_cons (pv 2) (pk_cons (pv 6) pk_nil)))) pa_nil))) pa_nil)) (pe_callB (Ga.call_repr hG hr) (by rfl) T.b_repr (by decide +kernel) (pa_cons (pe_lst (pa_cons (pv 7) (pa_cons (pv 7) pa_nil))) pa_nil)) (nomark _)) (pss_one (ps_ret pe_bl)) pss_nil)
        (pss_cons (ps_set (i := 9) nd rfl (Or.inl rfl) (pe_call F_law_first_meeting (hr.mono (by decide)) rfl g_law_first_meeting k_law_first_meeting b_law_first_meeting .nil pass0 (pa_cons (pv 1) (pa_cons (pv 2) (pa_cons (pv 3) (pa_cons (pv 4) (pa_cons (pv 5) pa_nil)))))))
        (pss_cons (ps_set (i := 10) nd rfl (Or.inl rfl) (pe_lst (pa_cons (pe_call Fmeet (hr.mono (by decide)) rfl gmeet kmeet bmeet .nil passL (pa_cons (pv 1) (pa_cons (pv 2) (pa_cons (pv 3) (pa_cons (pv 4) (pa_cons (pv 5) pa_nil)))))) (pa_cons (pe_callKw Fmeet (hr.mono (by decide)) rfl gmeet kmeet wmeet passL (pk_cons (pv 1) (pk_cons (pv 2) (pk_cons (pv 3) (pk_cons (pv 4) (pk_cons (pv 5) pk_nil)))))) pa_nil))))
        (pss_one (ps_ret (pe_cmpR op_eq (pe_callB (Ga.call_repr hG hr) (by rfl) T.b_repr (by decide +kernel) (pa_cons (pv 10) pa_nil)) (pe_callB (Ga.call_repr hG hr) (by rfl) T.b_repr (by decide +kernel) (pa_cons (pe_lst (pa_cons (pv 9) (pa_cons (pv 9) pa_nil))) pa_nil)) (nomark _))))))))))), ?_⟩
    refine sq fun U hU => ?_
    walk_at "rd"
    refine ⟨u, 9, rfl, hw, by decide, by decide, fun t H1 b1 w1 t0 t1 => ⟨u, 9, rfl, w1, by decide, by decide, fun r H2 b2 w2 r0 r1 => ?_⟩⟩
    walk_at "rd"
    refine ⟨u, 6, rfl, w2, by decide, by decide, fun c H3 b3 w3 c0 c1 => ?_⟩
    walk_at "rd"
    refine hU _ _ ?_
    clear hU
    refine sq fun U hU => ?_
    walk_at "rd"
    refine ⟨u, 5, rfl, w3, by decide, by decide, fun e H4 b4 w4 e0 e1 => ?_⟩
    walk_at "rd"
    refine ⟨u, 13, rfl, w4, by decide, by decide, fun g H5 b5 w5 g0 g1 => ?_⟩
    refine ⟨u, 40, rfl, w5, by decide, by decide, fun n H6 b6 w6 n0 n1 => ?_⟩
    walk_at "rd"
    refine hU _ _ ?_
    clear hU
    have bb := ((b1.trans b2).trans (b3.trans b4)).trans (b5.trans b6)
    refine sq fun U hU => ?_
    walk_at "rd"
    refine hU _ _ ?_
    clear hU
    refine sq fun U hU => ?_
    walk_at "rd"
    refine ⟨by omega, by omega, ?_⟩
    have z0 : stopF t (1 + r) 0 = 0 := by
      unfold stopF
      by_cases z : (0 : Int) < t
      · rw [if_pos z]
      · rw [if_neg z, show (0 : Int) - t = 0 by omega, Int.zero_emod]; omega
    refine for_r (smP H6 t (1 + r) c (c + e) g n u) ⟨rfl, none, by rw [show stopF t (1 + r) ((0 : Nat) : Int) = 0 from z0]⟩ ?_ ?_
    · rintro i σ H' hi ⟨rfl, x, rfl⟩
      walk_at "rd"
      have st := stop_step (T := t) (R := 1 + r) (i := (i : Int)) t0 (by omega) (by omega)
      by_cases z : stopF t (1 + r) i + 1 < t + (1 + r)
      · rw [if_pos z] at st ⊢
        exact ⟨rfl, _, by rw [show ((i + 1 : Nat) : Int) = (i : Int) + 1 by omega, st]⟩
      · rw [if_neg z] at st ⊢
        exact ⟨rfl, _, by rw [show ((i + 1 : Nat) : Int) = (i : Int) + 1 by omega, st]⟩
    rintro σ H' ⟨rfl, x, rfl⟩
    refine hU _ _ ?_
    clear hU
    rw [show ((n.toNat : Nat) : Int) = n by omega]
    generalize es : stopF t (1 + r) n = sp
    have fs : Fit (.int sp) 0 151 := Fit.int (k := 150) (by decide) (by decide) (by
      have q1 := Int.emod_nonneg (n - t) (show 1 + r ≠ 0 by omega)
      have q2 := Int.emod_lt_of_pos (n - t) (show 0 < 1 + r by omega)
      rw [← es]; unfold stopF
      split <;> omega)
    have v1 : badS (.int t) (.int (1 + r)) (.int n) = none := by
      unfold badS bad2
      rw [if_pos (btw_int' (by omega) (by omega)), if_pos (btw_int' (by omega) (by omega)), if_pos (btw_int' (by omega) (by omega))]; rfl
    have v2 : badM (.int t) (.int (1 + r)) (.int c) (.int (c + e)) (.int g) = none := by
      unfold badM bad2 bad3
      rw [if_pos (btw_int' (by omega) (by omega)), if_pos (btw_int' (by omega) (by omega)), if_pos (btw_int' (by omega) (by omega))]
      show Option.or none (if btw (.int (c + e)) c (10 ^ 30) = true then _ else _) = _
      rw [if_pos (btw_int' (by omega) (by omega)), if_pos (btw_int' (by omega) (by omega))]; rfl
    have no : ∀ {α : Prop} {y : V}, (none : Option V) = some y → α := fun z => nomatch z
    refine sq fun U hU => ?_
    walk_at "rd"
    refine ⟨_, _, _, rfl, .int _, .int _, .int _, fun _ => ?_, fun x hx => no (v1.symm.trans hx)⟩
    simp only [iv]
    rw [es]
    refine ⟨_, _, _, rfl, .int _, .int _, .int _, fun _ => ?_, fun x hx => no (v1.symm.trans hx)⟩
    simp only [iv]
    rw [es]
    refine ⟨by decide, fun p hp => repr_two (SqL.of upd_same) fs fs (by decide) (.int _) (.int _) ⟨by decide, fun q hq => repr_two (SqL.of upd_same) fs fs (by decide) (.int _) (.int _) ?_⟩⟩
    walk_at "rd"
    have s2 : Same H' (upd (upd H' p (.lst [V.int sp, V.int sp])) q (.lst [V.int sp, V.int sp])) := (same_new hp).trans (same_new hq)
    generalize (upd (upd H' p (.lst [V.int sp, V.int sp])) q (.lst [V.int sp, V.int sp])) = H7 at s2 ⊢
    refine hU _ _ ?_
    clear hU
    refine sq fun U hU => ?_
    walk_at "rd"
    refine ⟨t, 1 + r, c, c + e, g, rfl, by omega, by omega, by omega, by omega, by omega, fun o ho => ?_⟩
    refine hU _ _ ?_
    clear hU
    have fo := fit_opt t0 (by omega) c0 (by omega) g0 (by omega) (by omega) ho
    refine sq fun U hU => ?_
    walk_at "rd"
    refine ⟨_, _, _, _, _, rfl, .int _, .int _, .int _, .int _, .int _, fun _ o1 H8 s8 h1 => ?_, fun x hx => no (v2.symm.trans hx)⟩
    refine ⟨_, _, _, _, _, rfl, .int _, .int _, .int _, .int _, .int _, fun _ o2 H9 s9 h2 => ?_, fun x hx => no (v2.symm.trans hx)⟩
    have e1 : o1 = o := IsFirst.uniq h1 ho
    have e2 : o2 = o := IsFirst.uniq h2 ho
    subst e1 e2
    refine ⟨by decide, fun p2 hp2 => hU _ _ ?_⟩
    clear hU
    walk_at "rd"
    refine repr_two (SqL.of upd_same) fo fo (by decide) (dp_opt _) (dp_opt _) ?_
    refine ⟨by decide, fun q2 hq2 => repr_two (SqL.of upd_same) fo fo (by decide) (dp_opt _) (dp_opt _) ?_⟩
    walk_at "rd"
    have s3 : Same H' (upd (upd H9 p2 (HO.lst [optV o2, optV o2])) q2 (HO.lst [optV o2, optV o2])) := s2.trans (s8.trans (s9.trans ((same_new hp2).trans (same_new hq2))))
    exact k _ (bb.trans (But.same s3)) (w6.but s3)
end
end K65

set_option Elab.async false
set_option linter.all false
set_option maxRecDepth 100000
set_option maxHeartbeats 4000000
namespace K65
open PySem PySem.Spec PyProof.Rows L2 Rd Dt
local macro_rules | `(tactic| walk_at "rd") => `(tactic| try simp only [tVar_, tC_, tOp_, tUn_, rI_, rI0_, rU_, eq_ii, ne_ii, eq_ss, ne_ss, eq_bb, ne_bb, tAndV_, tOrV_, tNotV_, tIf_, tTest_, tB_, tAnd_, tOr_, tNot_, tChain_, tNil_, tCons_, tTup_, tLst_, tCB_, tCall_, tSeq_, tNext_, tRet_, tRetN_, tDrop_, tBreak_, tNever_, tIfS_, tAsg_, gName_, gTup_, gCons_, gNil_, gSub_, tPar_, tPar3_, tSl_, tNoPart_, tPart_, tBM_, tFor_range1, tFor_range2, tFor_list, tFor_tup,
  L2.start, List.map_cons, List.map_nil, List.length_cons, List.length_nil, List.replicate, List.append_nil, List.nil_append, List.cons_append, List.getElem?_cons_zero, List.getElem?_cons_succ, List.set_cons_zero, List.set_cons_succ, Option.some.injEq, V.int.injEq, V.bl.injEq, V.str.injEq, V.ref.injEq, exists_eq_left, exists_eq_left', exists_eq_right, exists_eq, exists_and_left, and_true, true_and, decide_eq_true_eq, Nat.reduceAdd, Nat.reduceSub, Nat.add_zero, Nat.zero_add, List.cons.injEq, Bool.not_eq_true', decide_eq_false_iff_not, eq_self, reduceCtorEq, Bool.false_eq_true, if_true, if_false, ite_true, ite_false, and_self, tLc_range1, tLc_range2, tLc_list, tLc_tup, tYes_, wipe0, wipe1, tCallS_, rIxL_, rIxT_, rSlL_, rCat_, rSetL_, rGcd_, tCallK_, gUnl_, tRaise_, decide_true, decide_false, not_true_eq_false, not_false_eq_true, false_and, or_false, false_or, and_false, and_assoc, exists_const, forall_const, forall_eq'])

section
variable {P : Program} {w : World} {K : PySem.W.Frag} {mg : Str → Option Value} {base : Heap}
theorem sc_gr : FnScope ["_law_well_here", "_law_long", "_law_round_here", "_law_calm", "_law_quick", "_law_gap", "_law_paces", "_law_due", "_law_apart", "_law_is_due"] ["_law_well_here"] (defScope (top 34)) := ⟨rfl, rfl, rfl, by decide +kernel, rfl, by decide +kernel, by decide +kernel⟩
theorem ok_gr {C : Addr} (T : Tx mg) {f : Addr} {fd : FuncData} (F : FD K "_law_is_great_right" (top 34) f fd) {f1 f2 f3 f4 f5 f6 : Addr} {fd1 fd2 fd3 fd4 fd5 fd6 : FuncData} (C1 : Cal P w K mg base (L2.CX P w) 6 "stop_at" ["tail", "ring", "steps"] (spStopAt C) f1 fd1) (C2 : Cal P w K mg base (L2.CX P w) 6 "meet" ["tail", "ring", "slow", "fast", "lead"] (spMeet C) f2 fd2)
    (C3 : Cal P w K mg base (L2.CX P w) 6 "meets_always" ["slow", "fast", "lead"] (spAlways C) f3 fd3) (C4 : Cal P w K mg base CX0 2 "_law_great_number" ["_law_well_here"] spGreat f4 fd4) (C5 : Cal P w K mg base CX0 2 "_law_far_meeting" ["_law_tail_here", "_law_round_here", "_law_calm", "_law_quick", "_law_gap"] spFar f5 fd5) (C6 : Cal P w K mg base CX0 1 "_law_stop" ["_law_tail_here", "_law_round_here", "_law_paces"] spStop f6 fd6) : Ga.FnG P w K mg base CX0 7 f fd ["_law_well_here"] spG := by
  obtain ⟨gstop_at, kstop_at, bstop_at, Fstop_at⟩ := C1
  obtain ⟨gmeet, kmeet, bmeet, Fmeet⟩ := C2
  obtain ⟨gmeets_always, kmeets_always, bmeets_always, Fmeets_always⟩ := C3
  obtain ⟨g_law_great_number, k_law_great_number, b_law_great_number, F_law_great_number⟩ := C4
  obtain ⟨g_law_far_meeting, k_law_far_meeting, b_law_far_meeting, F_law_far_meeting⟩ := C5
  obtain ⟨g_law_stop, k_law_stop, b_law_stop, F_law_stop⟩ := C6
  refine Ga.FnG.mk' F sc_gr (fun vs H Q E h => ?_) (fun cdv A outer s' H vs Q E hG hr h => ?_)
  · obtain ⟨_, rfl, _⟩ := h
    rfl
  · obtain ⟨u, rfl, hw, k⟩ := h
    have nd := sc_gr.nd
    refine ⟨_, (pss_cons (ps_par3 rfl nd (i := 1) (j := 2) (l := 3) rfl rfl rfl (by decide) (by decide) (by decide) rfl rfl rfl (pa_cons (pe_call F_law_great_number (hr.mono (by decide)) rfl g_law_great_number k_law_great_number b_law_great_number .nil pass0 (pa_cons (pv 0) pa_nil)) (pa_cons (pe_callB (call_max2 rfl) (by rfl) T.b_max (by decide +kernel) (pa_cons pe_int (pa_cons (pe_call F_law_great_number (hr.mono (by decide)) rfl g_law_great_number k_law_great_number b_law_great_number .nil pass0 (pa_cons (pv 0) pa_nil)) pa_nil))) (pa_cons (pe_call F_law_great_number (hr.mono (by decide)) rfl g_law_great_number k_law_great_number b_law_great_number .nil pass0 (pa_cons (pv 0) pa_nil)) pa_nil))) rfl)
        (pss_cons (ps_par3 rfl nd (i := 4) (j := 5) (l := 6) rfl rfl rfl (by decide) (by decide) (by decide) rfl rfl rfl (pa_cons (pe_callB (call_max2 rfl) (by rfl) T.b_max (by decide +kernel) (pa_cons (pv 3) (pa_cons (pe_call F_law_great_number (hr.mono (by decide)) rfl g_law_great_number k_law_great_number b_law_great_number .nil pass0 (pa_cons (pv 0) pa_nil)) pa_nil))) (pa_cons (pe_call F_law_great_number (hr.mono (by decide)) rfl g_law_great_number k_law_great_number b_law_great_number .nil pass0 (pa_cons (pv 0) pa_nil)) (pa_cons (pe_call F_law_great_number (hr.mono (by decide)) rfl g_law_great_number k_law_great_number b_law_great_number .nil pass0 (pa_cons (pv 0) pa_nil)) pa_nil))) rfl)
        (pss_cons (ps_if (pt_cmpR op_ne (pe_call Fstop_at (hr.mono (by decide)) rfl gstop_at kstop_at bstop_at .nil passL (pa_cons (pv 1) (pa_cons (pv 2) (pa_cons (pv 6) pa_nil)))) (pe_call F_law_stop (hr.mono (by decide)) rfl g_law_stop k_law_stop b_law_stop .nil pass0 (pa_cons (pv 1) (pa_cons (pv 2) (pa_cons (pv 6) pa_nil)))) (nomark _)) (pss_one (ps_ret pe_bl)) pss_nil)
        (pss_cons (ps_set (i := 7) nd rfl (Or.inl rfl) (pe_call F_law_far_meeting (hr.mono (by decide)) rfl g_law_far_meeting k_law_far_meeting b_law_far_meeting .nil pass0 (pa_cons (pv 1) (pa_cons (pv 2) (pa_cons (pv 3) (pa_cons (pv 4) (pa_cons (pv 5) pa_nil)))))))
        (pss_cons (ps_if (pt_cmpR op_ne (pe_callB (Ga.call_repr hG hr) (by rfl) T.b_repr (by decide +kernel) (pa_cons (pe_call Fmeet (hr.mono (by decide)) rfl gmeet kmeet bmeet .nil passL (pa_cons (pv 1) (pa_cons (pv 2) (pa_cons (pv 3) (pa_cons (pv 4) (pa_cons (pv 5) pa_nil)))))) pa_nil)) (pe_callB (Ga.call_repr hG hr) (by rfl) T.b_repr (by decide +kernel) (pa_cons (pv 7) pa_nil)) (nomark _)) (pss_one (ps_ret pe_bl)) pss_nil)
        (pss_cons (ps_set (i := 8) nd rfl (Or.inl rfl) (pe_op op_sub (pv 4) (pv 3)))
        (pss_cons (ps_set (i := 9) nd rfl (Or.inl rfl) (pe_or (pe_and (pe_cmpR op_eq (pv 8) pe_int (nomark _)) (pe_one (pe_cmpR op_eq (pv 5) pe_int (nomark _)))) (pe_one (pe_and (pe_cmpR op_gt (pv 3) pe_int (nomark _)) (pe_and (pe_cmpR op_gt (pv 8) pe_int (nomark _)) (pe_one (pe_cmpR op_eq (pe_op op_mod (pe_callTy call_int1 (by rfl) T.b_int (by decide +kernel) (pa_cons (pv 5) pa_nil)) (pe_callB (call_max2 rfl) (by rfl) T.b_max (by decide +kernel) (pa_cons (pv 8) (pa_cons pe_int pa_nil)))) pe_int (nomark _))))))))
        (pss_one (ps_ret (pe_cmpR op_eq (pe_call Fmeets_always (hr.mono (by decide)) rfl gmeets_always kmeets_always bmeets_always .nil passL (pa_cons (pv 3) (pa_cons (pv 4) (pa_cons (pv 5) pa_nil)))) (pv 9) (nomark _))))))))))), ?_⟩
    refine sq fun U hU => ?_
    walk_at "rd"
    refine ⟨u, rfl, hw, fun t H1 b1 w1 t0 t1 => ⟨u, rfl, w1, fun r' H2 b2 w2 r0 r1 => ?_⟩⟩
    walk_at "rd"
    refine ⟨u, rfl, w2, fun c H3 b3 w3 c0 c1 => ?_⟩
    walk_at "rd"
    rw [max_if]
    refine hU _ _ ?_
    clear hU
    refine sq fun U hU => ?_
    walk_at "rd"
    refine ⟨u, rfl, w3, fun e' H4 b4 w4 e0 e1 => ?_⟩
    walk_at "rd"
    refine ⟨u, rfl, w4, fun g H5 b5 w5 g0 g1 => ⟨u, rfl, w5, fun n H6 b6 w6 n0 n1 => ?_⟩⟩
    walk_at "rd"
    rw [max_if]
    refine hU _ _ ?_
    clear hU
    have bb := ((b1.trans b2).trans (b3.trans b4)).trans (b5.trans b6)
    have rr : 1 ≤ max 1 r' ∧ max 1 r' ≤ 10 ^ 30 := by omega
    have ee : c ≤ max c e' ∧ max c e' ≤ 10 ^ 30 := by omega
    generalize max 1 r' = r at rr ⊢
    generalize max c e' = e at ee ⊢
    have v1 : badS (.int t) (.int r) (.int n) = none := by
      unfold badS bad2
      rw [if_pos (btw_int' (by omega) (by omega)), if_pos (btw_int' (by omega) (by omega)), if_pos (btw_int' (by omega) (by omega))]; rfl
    have v3 : bad3 (.int c) (.int e) (.int g) (10 ^ 30) = none := by
      unfold bad3
      rw [if_pos (btw_int' (by omega) (by omega))]
      show (if btw (.int e) c (10 ^ 30) = true then _ else _) = _
      rw [if_pos (btw_int' (by omega) (by omega)), if_pos (btw_int' (by omega) (by omega))]
    have v2 : badM (.int t) (.int r) (.int c) (.int e) (.int g) = none := by
      unfold badM bad2
      rw [v3, if_pos (btw_int' (by omega) (by omega)), if_pos (btw_int' (by omega) (by omega))]; rfl
    have no : ∀ {α : Prop} {y : V}, (none : Option V) = some y → α := fun z => nomatch z
    refine sq fun U hU => ?_
    walk_at "rd"
    refine ⟨_, _, _, rfl, .int _, .int _, .int _, fun _ => ?_, fun x hx => no (v1.symm.trans hx)⟩
    simp only [iv]
    refine ⟨t, r, n, rfl, by omega, ?_⟩
    walk_at "rd"
    refine hU _ _ ?_
    clear hU
    refine sq fun U hU => ?_
    walk_at "rd"
    refine ⟨t, r, c, e, g, rfl, by omega, by omega, by omega, by omega, by omega, fun o H7 s7 ho => ?_⟩
    refine hU _ _ ?_
    clear hU
    have fo := fit_opt t0 (by omega) c0 (by omega) g0 (by omega) (by omega) ho
    refine sq fun U hU => ?_
    walk_at "rd"
    refine ⟨_, _, _, _, _, rfl, .int _, .int _, .int _, .int _, .int _, fun _ o1 H8 s8 h1 => ?_, fun x hx => no (v2.symm.trans hx)⟩
    have e1' : o1 = o := IsFirst.uniq h1 ho
    subst e1'
    refine rRepr_fit fo (by decide) (by decide) (dp_opt _) (rRepr_fit fo (by decide) (by decide) (dp_opt _) ?_)
    walk_at "rd"
    refine hU _ _ ?_
    clear hU
    refine sq fun U hU => ?_
    walk_at "rd"
    refine hU _ _ ?_
    clear hU
    have s3 := s7.trans s8
    have fin : ∀ b : Bool, b = alwaysF c (e - c) g → tRet (tOp rEq (tCall (spAlways C) [] E0 (tCons (tVar 3) (tCons (tVar 4) (tCons (tVar 5) tNil)))) (tVar 9)) { nx := fun x H' => Q V.non H', rt := Q } [some (V.ref u), some (V.int t), some (V.int r), some (V.int c), some (V.int e), some (V.int g), some (V.int n), some (optV o1), some (V.int (e - c)), some (V.bl b)] H8 := fun b hb => by
      walk_at "rd"
      refine ⟨_, _, _, rfl, .int _, .int _, .int _, fun _ => ?_, fun x hx => no (v3.symm.trans hx)⟩
      simp only [iv]
      rw [hb]
      walk_at "rd"
      exact k _ (bb.trans (But.same s3)) (w6.but s3)
    refine sq fun U hU => ?_
    walk_at "rd"
    have mx : (if (1 : Int) > e - c then 1 else e - c) = max (e - c) 1 := max_if
    by_cases a1 : e - c = 0 ∧ g = 0
    · rw [if_pos a1.1, if_pos a1.2]
      exact hU _ _ (fin true (by rw [alwaysF, decide_eq_true a1.1, decide_eq_true a1.2]; rfl))
    have ea : (decide (g = 0) && decide (e - c = 0)) = false := by
      rw [Bool.eq_false_iff]; intro z
      rw [Bool.and_eq_true, decide_eq_true_eq, decide_eq_true_eq] at z
      exact a1 ⟨z.2, z.1⟩
    have rest : (if 0 < c then (if 0 < e - c then (0 < (if (1 : Int) > e - c then 1 else e - c) ∧ U [some (V.ref u), some (V.int t), some (V.int r), some (V.int c), some (V.int e), some (V.int g), some (V.int n), some (optV o1), some (V.int (e - c)), some (V.bl (decide (g % (if (1 : Int) > e - c then 1 else e - c) = 0)))] H8) else U [some (V.ref u), some (V.int t), some (V.int r), some (V.int c), some (V.int e), some (V.int g), some (V.int n), some (optV o1), some (V.int (e - c)), some (V.bl false)] H8) else U [some (V.ref u), some (V.int t), some (V.int r), some (V.int c), some (V.int e), some (V.int g), some (V.int n), some (optV o1), some (V.int (e - c)), some (V.bl false)] H8) := by
      rw [mx]
      by_cases a2 : 0 < c
      · rw [if_pos a2]
        by_cases a3 : 0 < e - c
        · rw [if_pos a3]
          have em : max (e - c) 1 = e - c := by omega
          rw [em]
          exact ⟨a3, hU _ _ (fin _ (by rw [alwaysF, ea, decide_eq_true a2, decide_eq_true a3]; rfl))⟩
        · rw [if_neg a3]
          exact hU _ _ (fin _ (by rw [alwaysF, ea, decide_eq_false a3, Bool.false_and, Bool.and_false]; rfl))
      · rw [if_neg a2]
        exact hU _ _ (fin _ (by rw [alwaysF, ea, decide_eq_false a2]; rfl))
    exact ite2n a1 rest
end
end K65

set_option Elab.async false
set_option linter.all false
set_option maxRecDepth 100000
set_option maxHeartbeats 4000000
namespace K65
open PySem PySem.Spec PyProof.Rows L2 Rd Dt
local macro_rules | `(tactic| walk_at "rd") => `(tactic| try simp only [tVar_, tC_, tOp_, tUn_, rI_, rI0_, rU_, eq_ii, ne_ii, eq_ss, ne_ss, eq_bb, ne_bb, tAndV_, tOrV_, tNotV_, tIf_, tTest_, tB_, tAnd_, tOr_, tNot_, tChain_, tNil_, tCons_, tTup_, tLst_, tCB_, tCall_, tSeq_, tNext_, tRet_, tRetN_, tDrop_, tBreak_, tNever_, tIfS_, tAsg_, gName_, gTup_, gCons_, gNil_, gSub_, tPar_, tPar3_, tSl_, tNoPart_, tPart_, tBM_, tFor_range1, tFor_range2, tFor_list, tFor_tup,
  L2.start, List.map_cons, List.map_nil, List.length_cons, List.length_nil, List.replicate, List.append_nil, List.nil_append, List.cons_append, List.getElem?_cons_zero, List.getElem?_cons_succ, List.set_cons_zero, List.set_cons_succ, Option.some.injEq, V.int.injEq, V.bl.injEq, V.str.injEq, V.ref.injEq, exists_eq_left, exists_eq_left', exists_eq_right, exists_eq, exists_and_left, and_true, true_and, decide_eq_true_eq, Nat.reduceAdd, Nat.reduceSub, Nat.add_zero, Nat.zero_add, List.cons.injEq, Bool.not_eq_true', decide_eq_false_iff_not, eq_self, reduceCtorEq, Bool.false_eq_true, if_true, if_false, ite_true, ite_false, and_self, tLc_range1, tLc_range2, tLc_list, tLc_tup, tYes_, wipe0, wipe1, tCallS_, rIxL_, rIxT_, rSlL_, rCat_, rSetL_, rRep_, rGcd_, tCallK_, gUnl_, tRaise_, decide_true, decide_false, not_true_eq_false, not_false_eq_true, false_and, or_false, false_or, and_false, and_assoc, exists_const, forall_const, forall_eq'])

section
variable {P : Program} {w : World} {K : PySem.W.Frag} {mg : Str → Option Value} {base : Heap}
def dueR : Option (Int × Int) → V → Hp → Prop
  | none, v, _ => v = .non
  | some (a, b), v, H => ∃ q, v = .ref q ∧ H q = some (.tup [.int a, .int b])
def dDue : Option (Int × Int) → PyData
  | none => .none
  | some (a, b) => .tuple [.int a, .int b]
theorem dueR.up {H H' : Hp} (s : Same H H') : ∀ {o : Option (Int × Int)} {v : V}, dueR o v H → dueR o v H'
  | none, _, h => h
  | some (a, b), _, ⟨q, e, h⟩ => ⟨q, e, s _ _ h⟩
theorem dueR.dp {H : Hp} : ∀ {o : Option (Int × Int)} {v : V}, dueR o v H → Dp K H v (dDue o)
  | none, _, h => by
    have e : _ = V.non := h
    rw [e]; exact .non
  | some (a, b), _, ⟨q, e, h⟩ => by
    rw [e]; exact .tup (SqT.of h) (.cons (.int _) (.cons (.int _) .nil))
theorem dueR.nonI {H : Hp} : ∀ {o : Option (Int × Int)} {v : V}, dueR o v H → decide (v = .non) = o.isNone
  | none, _, h => by
    have e : _ = V.non := h
    rw [e]; rfl
  | some (a, b), _, ⟨q, e, h⟩ => by rw [e]; rfl
theorem fit_due : ∀ {o : Option (Int × Int)}, (∀ p, o = some p → p.1.natAbs < 1024 ∧ p.2.natAbs < 1024) → Fit (dDue o) 1 100
  | none, _ => Fit.non.mono (by decide) (by decide)
  | some (a, b), h => by
    obtain ⟨h1, h2⟩ := h _ rfl
    have := Fit.tuple (ds := [PyData.int a, PyData.int b]) (k := 0) (n := 11) (fun x hx => by
      rcases List.mem_cons.mp hx with z | z
      · rw [z]; exact Fit.int (k := 10) (by decide) (by decide) h1
      · rw [List.mem_singleton.mp z]; exact Fit.int (k := 10) (by decide) (by decide) h2)
    exact this.mono (by decide) (by show 2 * (11 + 2) + 3 ≤ 100; decide)
theorem fit_pair {d e : PyData} {k n : Nat} (h1 : Fit d k n) (h2 : Fit e k n) (hn : n ≤ 1000) : Fit (.list [d, e]) (k + 1) 3000 := by
  have := Fit.list (ds := [d, e]) (k := k) (n := n) (fun x hx => by
    rcases List.mem_cons.mp hx with z | z
    · rw [z]; exact h1
    · rw [List.mem_singleton.mp z]; exact h2)
  refine this.mono (by omega) ?_
  show 2 * (n + 2) + 3 ≤ 3000
  omega
theorem repr_pair {H : Hp} {Q : VK} {p : Addr} {v u : V} {d e : PyData} {k n : Nat} (hp : SqL K H p [v, u]) (h1 : Fit d k n) (h2 : Fit e k n) (hn : n ≤ 1000) (hk : k ≤ 20) (q1 : Dp K H v d) (q2 : Dp K H u e) (q : Q (.str (PyData.shown (.list [d, e]))) H) : Ga.rRepr K [.ref p] H Q :=
  rRepr_fit (fit_pair h1 h2 hn) (by omega) (by decide) (.lst hp (.cons q1 (.cons q2 .nil))) q
theorem sc_mr : FnScope ["_law_well_here", "_law_calm", "_law_gap", "_law_quick", "_law_due", "_law_total", "_law_long", "_law_told", "_law_seen"] ["_law_well_here"] (defScope (top 33)) := ⟨rfl, rfl, rfl, by decide +kernel, rfl, by decide +kernel, by decide +kernel⟩
def moP (H0 : Hp) (u : Addr) (c g d : Int) (i : Nat) : L2.St → Hp → Prop := fun σ H' => Same H0 H' ∧ ∃ (v : V) (x y : Option V), σ = [some (.ref u), some (V.int c), some (V.int g), some (V.int (c + d)), some v, x, y, none, none] ∧ dueR ((pairsF i).find? (badP c d g)) v H'
def miP (H0 : Hp) (u : Addr) (c g d : Int) (i j : Nat) : L2.St → Hp → Prop := fun σ H' => Same H0 H' ∧ ∃ (v : V) (y : Option V), σ = [some (.ref u), some (V.int c), some (V.int g), some (V.int (c + d)), some v, some (V.int (1 + (i : Int))), y, none, none] ∧ dueR ((pairsF i ++ rowF i j).find? (badP c d g)) v H'
theorem ok_mr {C : Addr} (T : Tx mg) {f : Addr} {fd : FuncData} (F : FD K "_law_is_missed_right" (top 33) f fd) {f1 f2 f3 f4 : Addr} {fd1 fd2 fd3 fd4 : FuncData} (C1 : Cal P w K mg base (L2.CX P w) 6 "missed_track" ["slow", "fast", "lead"] (spMissed C) f1 fd1) (wmissed_track : KW K fd1 ["slow", "fast", "lead"]) (C2 : Cal P w K mg base (L2.CX P w) 6 "meets_always" ["slow", "fast", "lead"] (spAlways C) f2 fd2) (wmeets_always : KW K fd2 ["slow", "fast", "lead"])
    (C3 : Cal P w K mg base CX0 2 "_law_first_meeting" ["_law_tail_here", "_law_round_here", "_law_calm", "_law_quick", "_law_gap"] spFM f3 fd3) (C4 : Cal P w K mg base CX0 1 "_law_take" ["_law_well_here", "_law_limit"] spTake f4 fd4) : Ga.FnG P w K mg base CX0 7 f fd ["_law_well_here"] spG := by
  obtain ⟨gmissed_track, kmissed_track, bmissed_track, Fmissed_track⟩ := C1
  obtain ⟨gmeets_always, kmeets_always, bmeets_always, Fmeets_always⟩ := C2
  obtain ⟨g_law_first_meeting, k_law_first_meeting, b_law_first_meeting, F_law_first_meeting⟩ := C3
  obtain ⟨g_law_take, k_law_take, b_law_take, F_law_take⟩ := C4
  refine Ga.FnG.mk' F sc_mr (fun vs H Q E h => ?_) (fun cdv A outer s' H vs Q E hG hr h => ?_)
  · obtain ⟨_, rfl, _⟩ := h
    rfl
  · obtain ⟨u, rfl, hw, k⟩ := h
    have nd := sc_mr.nd
    refine ⟨_, (pss_cons (ps_par rfl nd (i := 1) (j := 2) rfl rfl (by decide) rfl rfl (pa_cons (pe_call F_law_take (hr.mono (by decide)) rfl g_law_take k_law_take b_law_take .nil pass0 (pa_cons (pv 0) (pa_cons pe_int pa_nil))) (pa_cons (pe_call F_law_take (hr.mono (by decide)) rfl g_law_take k_law_take b_law_take .nil pass0 (pa_cons (pv 0) (pa_cons pe_int pa_nil))) pa_nil)) rfl)
        (pss_cons (ps_par rfl nd (i := 3) (j := 4) rfl rfl (by decide) rfl rfl (pa_cons (pe_op op_add (pv 1) (pe_call F_law_take (hr.mono (by decide)) rfl g_law_take k_law_take b_law_take .nil pass0 (pa_cons (pv 0) (pa_cons pe_int pa_nil)))) (pa_cons pe_non pa_nil)) rfl)
        (pss_cons (ps_for (passes_of rfl) rfl (pi_range2 rfl T.b_range (pa_cons pe_int (pa_cons pe_int pa_nil))) (pg_name (i := 5) nd rfl (Or.inl rfl)) (pss_one (ps_for (passes_of rfl) rfl (pi_range1 rfl T.b_range (pa_cons (pv 5) pa_nil)) (pg_name (i := 6) nd rfl (Or.inl rfl)) (pss_one (ps_if (PW.pt (pw_and (pt_cmpR op_isN (pv 4) pe_non (nomark _)) (pw_and1 (pt_cmpR op_isN (pe_call F_law_first_meeting (hr.mono (by decide)) rfl g_law_first_meeting k_law_first_meeting b_law_first_meeting .nil pass0 (pa_cons (pv 6) (pa_cons (pe_op op_sub (pv 5) (pv 6)) (pa_cons (pv 1) (pa_cons (pv 3) (pa_cons (pv 2) pa_nil)))))) pe_non (nomark _))))) (pss_one (ps_set (i := 4) nd rfl (Or.inl rfl) (pe_tup (pa_cons (pv 6) (pa_cons (pe_op op_sub (pv 5) (pv 6)) pa_nil))))) pss_nil)))))
        (pss_cons (ps_set (i := 7) nd rfl (Or.inl rfl) (pe_lst (pa_cons (pe_call Fmissed_track (hr.mono (by decide)) rfl gmissed_track kmissed_track bmissed_track .nil passL (pa_cons (pv 1) (pa_cons (pv 3) (pa_cons (pv 2) pa_nil)))) (pa_cons (pe_callKw Fmissed_track (hr.mono (by decide)) rfl gmissed_track kmissed_track wmissed_track passL (pk_cons (pv 1) (pk_cons (pv 3) (pk_cons (pv 2) pk_nil)))) pa_nil))))
        (pss_cons (ps_set (i := 8) nd rfl (Or.inl rfl) (pe_lst (pa_cons (pe_call Fmeets_always (hr.mono (by decide)) rfl gmeets_always kmeets_always bmeets_always .nil passL (pa_cons (pv 1) (pa_cons (pv 3) (pa_cons (pv 2) pa_nil)))) (pa_cons (pe_callKw Fmeets_always (hr.mono (by decide)) rfl gmeets_always kmeets_always wmeets_always passL (pk_cons (pv 1) (pk_cons (pv 3) (pk_cons (pv 2) pk_nil)))) pa_nil))))
        (pss_one (ps_ret (pe_and (pe_cmpR op_eq (pe_callB (Ga.call_repr hG hr) (by rfl) T.b_repr (by decide +kernel) (pa_cons (pv 7) pa_nil)) (pe_callB (Ga.call_repr hG hr) (by rfl) T.b_repr (by decide +kernel) (pa_cons (pe_lst (pa_cons (pv 4) (pa_cons (pv 4) pa_nil))) pa_nil)) (nomark _)) (pe_one (pe_cmpR op_eq (pe_callB (Ga.call_repr hG hr) (by rfl) T.b_repr (by decide +kernel) (pa_cons (pv 8) pa_nil)) (pe_callB (Ga.call_repr hG hr) (by rfl) T.b_repr (by decide +kernel) (pa_cons (pe_op op_rep (pe_lst (pa_cons (pe_cmpR op_isN (pv 4) pe_non (nomark _)) pa_nil)) pe_int) pa_nil)) (nomark _))))))))))), ?_⟩
    refine sq fun U hU => ?_
    walk_at "rd"
    refine ⟨u, 4, rfl, hw, by decide, by decide, fun c H1 b1 w1 c0 c1 => ⟨u, 9, rfl, w1, by decide, by decide, fun g H2 b2 w2 g0 g1 => ?_⟩⟩
    refine hU _ _ ?_
    clear hU
    refine sq fun U hU => ?_
    walk_at "rd"
    refine ⟨u, 5, rfl, w2, by decide, by decide, fun d H3 b3 w3 d0 d1 => ?_⟩
    walk_at "rd"
    refine hU _ _ ?_
    clear hU
    have bb := b1.trans (b2.trans b3)
    refine sq fun U hU => ?_
    walk_at "rd"
    refine ⟨by decide, by decide, by decide, by decide, ?_⟩
    refine for_r (moP H3 u c g d) ⟨Same.refl _, .non, none, none, rfl, rfl⟩ ?_ ?_
    · rintro i σ H' hi ⟨hs, v, x, y, rfl, hv⟩
      have hi8 : i < 8 := hi
      walk_at "rd"
      refine ⟨by omega, by omega, ?_⟩
      refine for_r (miP H3 u c g d i) ⟨hs, v, y, rfl, by show dueR ((pairsF i ++ []).find? _) v H'; rw [List.append_nil]; exact hv⟩ ?_ ?_
      · rintro j σ H2' hj ⟨hs2, v2, y2, rfl, hv2⟩
        have hj2 : j < i + 1 := by omega
        walk_at "rd"
        have cont : ∀ v' H4, Same H2' H4 → dueR ((pairsF i ++ rowF i (j + 1)).find? (badP c d g)) v' H4 → miP H3 u c g d i (j + 1) [some (V.ref u), some (V.int c), some (V.int g), some (V.int (c + d)), some v', some (V.int (1 + (i : Int))), some (V.int (0 + (j : Int))), none, none] H4 := fun v' H4 s4 hd => ⟨hs2.trans s4, v', _, rfl, hd⟩
        rw [row_step, ← List.append_assoc] at cont
        rw [find_step] at cont
        have ev : ∀ o, IsFirst (0 + (j : Int)) (1 + (i : Int) - (0 + (j : Int))) c (c + d - c) g o → badP c d g ((j : Int), (1 : Int) + i - j) = o.isNone := fun o ho => by
          have := ever_of (by omega) (by omega) c0 (by omega) g0 ho
          unfold badP
          rw [show 0 + (j : Int) = j by omega, show c + d - c = d by omega] at this
          show (!ever (j : Int) (1 + (i : Int) - j) c d g) = _
          rw [← this]
          cases o <;> rfl
        cases hf : (pairsF i ++ rowF i j).find? (badP c d g) with
        | some pr =>
          rw [hf] at cont hv2
          have nv : ¬ v2 = V.non := fun z => by
            obtain ⟨a, b⟩ := pr
            obtain ⟨q, e, _⟩ := hv2
            rw [e] at z; cases z
          rw [if_neg nv]
          exact cont v2 _ (Same.refl _) hv2
        | none =>
          rw [hf] at cont hv2
          have nv : v2 = V.non := hv2
          rw [if_pos nv]
          refine ⟨_, _, _, _, _, rfl, by omega, by omega, by omega, by omega, by omega, fun o ho => ?_⟩
          have e1 := ev o ho
          cases o with
          | none =>
            walk_at "rd"
            rw [if_pos (show optV none = V.non from rfl)]
            refine ⟨by decide, fun p hp => cont _ _ (same_new hp) ?_⟩
            rw [e1]
            exact ⟨p, rfl, by rw [upd_same, show 0 + (j : Int) = j by omega]⟩
          | some t =>
            walk_at "rd"
            rw [if_neg (show ¬ optV (some t) = V.non from fun z => by cases z)]
            refine cont _ _ (Same.refl _) ?_
            rw [e1]
            exact nv
      · rintro σ H2' ⟨hs2, v2, y2, rfl, hv2⟩
        have e : (1 + (i : Int)).toNat = i + 1 := by omega
        rw [e] at hv2
        exact ⟨hs2, v2, _, _, rfl, hv2⟩
    · rintro σ H4 ⟨hs4, v, x, y, rfl, hv⟩
      refine hU _ _ ?_
      clear hU
      obtain ⟨c', rfl⟩ := Int.eq_ofNat_of_zero_le c0
      obtain ⟨d', rfl⟩ := Int.eq_ofNat_of_zero_le d0
      obtain ⟨g', rfl⟩ := Int.eq_ofNat_of_zero_le g0
      obtain ⟨bA, bB⟩ := brute_all c' (List.mem_range.mpr (by omega)) d' (List.mem_range.mpr (by omega)) g' (List.mem_range.mpr (by omega))
      have hv' : dueR (bruteF (c' : Int) d' g') v H4 := hv
      have fd : Fit (dDue (bruteF (c' : Int) d' g')) 1 100 := fit_due fun p hp => pairs_small p (List.mem_of_find?_eq_some hp)
      generalize ebr : bruteF (c' : Int) d' g' = m at bA bB hv' fd
      have sub : (c' : Int) + d' - c' = d' := by omega
      have w1000 : ∀ B : Int, 1000 ≤ B → bad3 (.int c') (.int ((c' : Int) + d')) (.int g') B = none := fun B hB => by
        unfold bad3
        rw [if_pos (btw_int' (by omega) (by omega))]
        show (if btw (.int ((c' : Int) + d')) c' B = true then _ else _) = _
        rw [if_pos (btw_int' (by omega) (by omega)), if_pos (btw_int' (by omega) (by omega))]
      have no : ∀ {α : Prop} {y : V}, (none : Option V) = some y → α := fun z => nomatch z
      -- a told track
      have tell : ∀ (H5 : Hp) (QQ : VK), (∀ v' H6, Same H5 H6 → dueR m v' H6 → QQ v' H6) → spMissed C [V.int c', V.int ((c' : Int) + d'), V.int g'] H5 QQ E0 := fun H5 QQ hq => by
        refine ⟨_, _, _, rfl, .int _, .int _, .int _, fun _ => ⟨by show (c' : Int) < 5; omega, by show (c' : Int) + d' - c' < 10; omega, by show (g' : Int) < 9; omega, fun e H6 s6 => ?_, fun a b e H6 p s6 hp1 hp => ?_⟩, fun x hx => no ((w1000 1000 (by decide)).symm.trans hx)⟩
        · simp only [iv] at e
          rw [sub, bA] at e
          subst e
          exact hq _ _ s6 rfl
        · simp only [iv] at e
          rw [sub, bA] at e
          subst e
          exact hq _ _ s6 ⟨p, rfl, hp⟩
      refine sq fun U hU => ?_
      walk_at "rd"
      refine tell H4 _ fun va H5 s5 hva => ?_
      refine tell H5 _ fun vb H6 s6 hvb => ⟨by decide, fun p hp => hU _ _ ?_⟩
      clear hU
      refine sq fun U hU => ?_
      walk_at "rd"
      have al : ∀ (H' : Hp) (QQ : VK), QQ (.bl m.isNone) H' → spAlways C [V.int c', V.int ((c' : Int) + d'), V.int g'] H' QQ E0 := fun H' QQ hq => by
        refine ⟨_, _, _, rfl, .int _, .int _, .int _, fun _ => ?_, fun x hx => no ((w1000 (10 ^ 30) (by decide)).symm.trans hx)⟩
        simp only [iv]
        rw [sub, bB]
        exact hq
      refine al _ _ (al _ _ ⟨by decide, fun q hq => hU _ _ ?_⟩)
      clear hU
      have h7 : Same H6 (upd H6 p (.lst [va, vb])) := same_new hp
      have h8 : Same (upd H6 p (.lst [va, vb])) (upd (upd H6 p (.lst [va, vb])) q (.lst [V.bl m.isNone, V.bl m.isNone])) := same_new hq
      have e7 : (upd (upd H6 p (.lst [va, vb])) q (.lst [V.bl m.isNone, V.bl m.isNone])) p = some (.lst [va, vb]) := h8 _ _ upd_same
      have e8 : (upd (upd H6 p (.lst [va, vb])) q (.lst [V.bl m.isNone, V.bl m.isNone])) q = some (.lst [V.bl m.isNone, V.bl m.isNone]) := upd_same
      generalize (upd (upd H6 p (.lst [va, vb])) q (.lst [V.bl m.isNone, V.bl m.isNone])) = H8 at h8 e7 e8 ⊢
      have s8 : Same H4 H8 := s5.trans (s6.trans (h7.trans h8))
      walk_at "rd"
      have d1 := (hva.up (s6.trans (h7.trans h8))).dp (K := K)
      have d2 := (hvb.up (h7.trans h8)).dp (K := K)
      have hv8 := hv'.up s8
      refine repr_pair (SqL.of e7) fd fd (by decide) (by decide) d1 d2 ?_
      refine ⟨by decide, fun p2 hp2 => repr_pair (SqL.of upd_same) fd fd (by decide) (by decide) (Dp.up (same_new hp2) _ _ hv8.dp) (Dp.up (same_new hp2) _ _ hv8.dp) ?_⟩
      walk_at "rd"
      have e9 : (upd H8 p2 (.lst [v, v])) q = some (.lst [V.bl m.isNone, V.bl m.isNone]) := same_new hp2 _ _ e8
      refine repr_pair (SqL.of e9) (Fit.bl _) (Fit.bl _) (by decide) (by decide) (.bl _) (.bl _) ?_
      rw [hv'.nonI]
      have s : Same H3 H8 := hs4.trans s8
      refine ⟨by decide, fun p3 hp3 => ⟨_, upd_same, by decide, by decide, (by decide : 1 * 2 ≤ sizeLine), fun p4 hp4 => repr_pair (d := .bool m.isNone) (e := .bool m.isNone) (SqL.of upd_same) (Fit.bl _) (Fit.bl _) (by decide) (by decide) (.bl _) (.bl _) ?_⟩⟩
      walk_at "rd"
      have s' : Same H3 (upd (upd (upd H8 p2 (.lst [v, v])) p3 (.lst [.bl m.isNone])) p4 (.lst (List.replicate (Int.toNat 2) [V.bl m.isNone]).flatten)) := s.trans ((same_new hp2).trans ((same_new hp3).trans (same_new hp4)))
      exact k _ (bb.trans (But.same s')) (w3.but s')
end
end K65

set_option Elab.async false
set_option linter.all false
set_option maxRecDepth 100000
set_option maxHeartbeats 4000000
namespace K65
open PySem PySem.Spec PyProof.Rows L2 Rd Dt
local macro_rules | `(tactic| walk_at "rd") => `(tactic| try simp only [tVar_, tC_, tOp_, tUn_, rI_, rI0_, rU_, eq_ii, ne_ii, eq_ss, ne_ss, eq_bb, ne_bb, tAndV_, tOrV_, tNotV_, tIf_, tTest_, tB_, tAnd_, tOr_, tNot_, tChain_, tNil_, tCons_, tTup_, tLst_, tCB_, tCall_, tSeq_, tNext_, tRet_, tRetN_, tDrop_, tBreak_, tNever_, tIfS_, tAsg_, gName_, gTup_, gCons_, gNil_, gSub_, tPar_, tPar3_, tSl_, tNoPart_, tPart_, tBM_, tFor_range1, tFor_range2, tFor_list, tFor_tup,
  L2.start, List.map_cons, List.map_nil, List.length_cons, List.length_nil, List.replicate, List.append_nil, List.nil_append, List.cons_append, List.getElem?_cons_zero, List.getElem?_cons_succ, List.set_cons_zero, List.set_cons_succ, Option.some.injEq, V.int.injEq, V.bl.injEq, V.str.injEq, V.ref.injEq, exists_eq_left, exists_eq_left', exists_eq_right, exists_eq, exists_and_left, and_true, true_and, decide_eq_true_eq, Nat.reduceAdd, Nat.reduceSub, Nat.add_zero, Nat.zero_add, List.cons.injEq, Bool.not_eq_true', decide_eq_false_iff_not, eq_self, reduceCtorEq, Bool.false_eq_true, if_true, if_false, ite_true, ite_false, and_self, tLc_range1, tLc_range2, tLc_list, tLc_tup, tYes_, wipe0, wipe1, tCallS_, rIxL_, rIxT_, rSlL_, rCat_, rSetL_, rRep_, rGcd_, tCallK_, gUnl_, tRaise_, decide_true, decide_false, not_true_eq_false, not_false_eq_true, false_and, or_false, false_or, and_false, and_assoc, exists_const, forall_const, forall_eq'])

section
variable {P : Program} {w : World} {K : PySem.W.Frag} {mg : Str → Option Value} {base : Heap}
/-- what the refused menu holds -/
def menuV (e : Addr) : List V := [.int (-1), .int (10 ^ 30 + 1), .bl true, .non, .str "3", .ref e, .int (10 ^ 40)]
theorem menu_not {e : Addr} {x : V} (h : x ∈ menuV e) {lo hi : Int} (h0 : 0 ≤ lo) (h1 : hi ≤ 10 ^ 30) : btw x lo hi = false := by
  have key : ∀ i : Int, (i < 0 ∨ 10 ^ 30 < i) → btw (.int i) lo hi = false := fun i hi' => by
    rw [btw_int, Bool.and_eq_false_iff]
    rcases hi' with z | z
    · exact .inl (decide_eq_false (by omega))
    · exact .inr (decide_eq_false (by omega))
  simp only [menuV, List.mem_cons, List.not_mem_nil, or_false] at h
  rcases h with rfl | rfl | rfl | rfl | rfl | rfl | rfl
  · exact key _ (.inl (by decide))
  · exact key _ (.inr (by decide))
  · rfl
  · rfl
  · rfl
  · rfl
  · exact key _ (.inr (by decide))
theorem menu_smp {e : Addr} {x : V} (h : x ∈ menuV e) {H : Hp} (he : H e = some (.tup [])) : Smp H x := by
  simp only [menuV, List.mem_cons, List.not_mem_nil, or_false] at h
  rcases h with rfl | rfl | rfl | rfl | rfl | rfl | rfl
  · exact .int _
  · exact .int _
  · exact .bl _
  · exact .non
  · exact .str _
  · exact .tup he
  · exact .int _
theorem menu_data {e : Addr} {x : V} (h : x ∈ menuV e) : ∃ d, Fit d 1 200 ∧ ∀ H : Hp, H e = some (.tup []) → Dp K H x d := by
  simp only [menuV, List.mem_cons, List.not_mem_nil, or_false] at h
  rcases h with rfl | rfl | rfl | rfl | rfl | rfl | rfl
  · exact ⟨.int (-1), (Fit.int (k := 10) (by decide) (by decide) (by decide)).mono (by decide) (by decide), fun _ _ => .int _⟩
  · exact ⟨.int (10 ^ 30 + 1), (Fit.int (k := 150) (by decide) (by decide) (by decide)).mono (by decide) (by decide), fun _ _ => .int _⟩
  · exact ⟨.bool true, (Fit.bl _).mono (by decide) (by decide), fun _ _ => .bl _⟩
  · exact ⟨.none, Fit.non.mono (by decide) (by decide), fun _ _ => .non⟩
  · exact ⟨.str "3", (Fit.str (x := "3") (n := 1) (by decide +kernel) (by decide +kernel)).mono (by decide) (by decide), fun _ _ => .str _⟩
  · exact ⟨.tuple [], (Fit.tuple (ds := []) (k := 0) (n := 0) (fun d hd => nomatch hd)).mono (by decide) (by decide), fun H he => .tup (SqT.of he) .nil⟩
  · exact ⟨.int (10 ^ 40), (Fit.int (k := 150) (by decide) (by decide) (by decide)).mono (by decide) (by decide), fun _ _ => .int _⟩
theorem but_new {u p : Addr} {H H' : Hp} {o : HO} (a : But u H H') (n : H p = none) : But u H (upd H' p o) := fun b x hb e => by
  rw [upd_ne (ne_of_none e n)]
  exact a b x hb e
theorem but_none {u p : Addr} {H H' : Hp} (a : But u H H') (w : WellAt H' u) (n : H' p = none) : H p = none := by
  cases e : H p with
  | none => rfl
  | some o =>
    have : p ≠ u := fun z => by
      obtain ⟨_, _, _, hw⟩ := w
      rw [z, hw] at n; cases n
    rw [a p o this e] at n; cases n
/-- the repr of a told error -/
theorem told {br : Int} {a : Addr} {v0 v1 v2 v3 v4 x : V} {d : PyData} {H : Hp} {E : XK} {QQ : VK} (fd : Fit d 1 200) (hd : ∀ H', Same H H' → Dp K H' x d) (ha : H a = some (.lst [v0, v1, v2, v3, v4])) (z : Smp H v0 ∧ Smp H v1 ∧ Smp H v2 ∧ Smp H v3 ∧ Smp H v4)
    (hb : badE br v0 v1 v2 v3 v4 = some x) (q : ∀ H', Same H H' → QQ (.str (PyData.shown (.list [d, .bool true]))) H') : spErr [.int br, .ref a] H (fun y H1 => Ga.rRepr K [y] H1 QQ) E := by
  refine ⟨br, a, v0, v1, v2, v3, v4, rfl, ha, z.1, z.2.1, z.2.2.1, z.2.2.2.1, z.2.2.2.2, fun e => ?_, fun y hy p H' s hp hl => ?_⟩
  · rw [hb] at e; cases e
  · rw [hb] at hy
    cases hy
    exact repr_pair (SqL.of hl) fd ((Fit.bl true).mono (by decide) (by decide)) (by decide) (by decide) (hd _ s) (.bl _) (q _ s)
/-- .. and of the list that it should be -/
theorem due {x : V} {d : PyData} {H : Hp} {p : Addr} {QQ : VK} (fd : Fit d 1 200) (hd : Dp K H x d) (hp : H p = some (.lst [x, .bl true])) (q : QQ (.str (PyData.shown (.list [d, .bool true]))) H) : Ga.rRepr K [.ref p] H QQ :=
  repr_pair (SqL.of hp) fd ((Fit.bl true).mono (by decide) (by decide)) (by decide) (by decide) hd (.bl _) q
theorem calm {br : Int} {a : Addr} {v0 v1 v2 v3 v4 : V} {H : Hp} {E : XK} {QQ : VK} (ha : H a = some (.lst [v0, v1, v2, v3, v4])) (z : Smp H v0 ∧ Smp H v1 ∧ Smp H v2 ∧ Smp H v3 ∧ Smp H v4)
    (hb : badE br v0 v1 v2 v3 v4 = none) (sm : br ≠ 0 ∧ br ≠ 1 ∧ br ≠ 2 → iv v2 < 5 ∧ iv v3 - iv v2 < 10 ∧ iv v4 < 9) (q : ∀ H', Same H H' → QQ .non H') : spErr [.int br, .ref a] H QQ E :=
  ⟨br, a, v0, v1, v2, v3, v4, rfl, ha, z.1, z.2.1, z.2.2.1, z.2.2.2.1, z.2.2.2.2, fun _ => ⟨sm, q⟩, fun y hy => (by rw [hb] at hy; cases hy)⟩
theorem fit_small {i : Int} (h : i.natAbs < 2 ^ 150) : Fit (.int i) 1 200 := (Fit.int (k := 150) (by decide) (by decide) h).mono (by decide) (by decide)
theorem ints5 {H : Hp} {a b c d e : Int} : Smp H (.int a) ∧ Smp H (.int b) ∧ Smp H (.int c) ∧ Smp H (.int d) ∧ Smp H (.int e) := ⟨.int _, .int _, .int _, .int _, .int _⟩
def bgP (H : Hp) (ns : List Int) (D : Addr) (i : Nat) (H' : Hp) : Prop := Same H H' ∧ H' D = some (.lst (((ns.take i).filter fun n => decide (1000 < n)).map V.int))
theorem sc_ref : FnScope ["_law_well_here", "_law_menu", "_law_some", "_law_branch", "_law_spot", "_law_bent", "_law_odd", "_law_big", "_law_due", "_law_each"] ["_law_well_here"] (defScope (top 31)) := ⟨rfl, rfl, rfl, by decide +kernel, rfl, by decide +kernel, by decide +kernel⟩
/-- the bent numbers are refused -/
theorem bent_ok {br : Int} {j : Nat} {e : Addr} {x : V} {t r s f : Int} (hx : x ∈ menuV e) (ht : 0 ≤ t ∧ t < 5) (hr : 1 ≤ r ∧ r < 6) (hs : 0 ≤ s ∧ s < 5) (hf : 5 ≤ f ∧ f < 10)
    (hj : (br = 0 ∧ j < 3) ∨ (br = 1 ∧ j < 5) ∨ ((br = 2 ∨ br = 3) ∧ 2 ≤ j ∧ j < 5)) :
    ∃ v0 v1 v2 v3 v4, ([.int t, .int r, .int s, .int f, .int 3] : List V).set j x = [v0, v1, v2, v3, v4] ∧ (∀ H : Hp, H e = some (.tup []) → Smp H v0 ∧ Smp H v1 ∧ Smp H v2 ∧ Smp H v3 ∧ Smp H v4) ∧ badE br v0 v1 v2 v3 v4 = some x ∧ (j < 4 → 0 < br → ∀ y, badE br v0 v1 v2 v3 y = some x) := by
  have sx : ∀ H : Hp, H e = some (.tup []) → Smp H x := fun H he => menu_smp hx he
  have B : ∀ {lo hi : Int}, 0 ≤ lo → hi ≤ 10 ^ 30 → btw x lo hi = false := fun h0 h1 => menu_not hx h0 h1
  have T1 : ∀ {i lo hi : Int}, lo ≤ i → i ≤ hi → btw (.int i) lo hi = true := fun h1 h2 => btw_int' h1 h2
  have b3 : ∀ {hi : Int}, 1000 ≤ hi → hi ≤ 10 ^ 30 → btw (.int s) 0 hi = true ∧ btw (.int f) s hi = true := fun h1 h2 => ⟨T1 (by omega) (by omega), T1 (by omega) (by omega)⟩
  have c3 : ∀ {hi : Int}, 1000 ≤ hi → hi ≤ 10 ^ 30 → (∀ v w, bad3 x v w hi = some x) ∧ (∀ w, bad3 (.int s) x w hi = some x) ∧ bad3 (.int s) (.int f) x hi = some x := fun h1 h2 => by
    obtain ⟨q1, q2⟩ := b3 h1 h2
    refine ⟨fun v w => ?_, fun w => ?_, ?_⟩
    · unfold bad3; rw [if_neg (by rw [B (by decide) h2]; decide)]
    · unfold bad3; rw [if_pos q1]; show (if btw x s _ = true then _ else _) = _; rw [if_neg (by rw [B hs.1 h2]; decide)]
    · unfold bad3; rw [if_pos q1]; show (if btw (.int f) s _ = true then _ else _) = _; rw [if_pos q2, if_neg (by rw [B (by decide) h2]; decide)]
  obtain ⟨p1, p2, p3⟩ := c3 (hi := 10 ^ 30) (by decide) (by decide)
  obtain ⟨m1, m2, m3⟩ := c3 (hi := 1000) (by decide) (by decide)
  have k1 : ∀ v, bad2 x v = some x := fun v => by unfold bad2; rw [if_neg (by rw [B (by decide) (by decide)]; decide)]
  have k2 : bad2 (.int t) x = some x := by unfold bad2; rw [if_pos (T1 (by omega) (by omega)), if_neg (by rw [B (by decide) (by decide)]; decide)]
  have k3 : bad2 (.int t) (.int r) = none := by unfold bad2; rw [if_pos (T1 (by omega) (by omega)), if_pos (T1 (by omega) (by omega))]
  have i4 : ∀ {P : Prop}, (∀ _ : 0 < (0 : Int), P) := fun z => by omega
  rcases hj with ⟨rfl, hj⟩ | ⟨rfl, hj⟩ | ⟨hb, h2, hj⟩
  · have e0 : ∀ v0 v1 v2 v3 v4, badE 0 v0 v1 v2 v3 v4 = badS v0 v1 v2 := fun _ _ _ _ _ => by unfold badE; rw [if_pos rfl]
    obtain rfl | rfl | rfl : j = 0 ∨ j = 1 ∨ j = 2 := by omega
    · exact ⟨_, _, _, _, _, rfl, fun H he => ⟨sx H he, .int _, .int _, .int _, .int _⟩, by rw [e0, badS, k1]; rfl, fun _ z => by omega⟩
    · exact ⟨_, _, _, _, _, rfl, fun H he => ⟨.int _, sx H he, .int _, .int _, .int _⟩, by rw [e0, badS, k2]; rfl, fun _ z => by omega⟩
    · exact ⟨_, _, _, _, _, rfl, fun H he => ⟨.int _, .int _, sx H he, .int _, .int _⟩, by rw [e0, badS, k3, if_neg (by rw [B (by decide) (by decide)]; decide)]; rfl, fun _ z => by omega⟩
  · have e1 : ∀ v0 v1 v2 v3 v4, badE 1 v0 v1 v2 v3 v4 = badM v0 v1 v2 v3 v4 := fun _ _ _ _ _ => by unfold badE; rw [if_neg (by decide), if_pos rfl]
    obtain rfl | rfl | rfl | rfl | rfl : j = 0 ∨ j = 1 ∨ j = 2 ∨ j = 3 ∨ j = 4 := by omega
    · exact ⟨_, _, _, _, _, rfl, fun H he => ⟨sx H he, .int _, .int _, .int _, .int _⟩, by rw [e1, badM, k1]; rfl, fun _ _ y => by rw [e1, badM, k1]; rfl⟩
    · exact ⟨_, _, _, _, _, rfl, fun H he => ⟨.int _, sx H he, .int _, .int _, .int _⟩, by rw [e1, badM, k2]; rfl, fun _ _ y => by rw [e1, badM, k2]; rfl⟩
    · exact ⟨_, _, _, _, _, rfl, fun H he => ⟨.int _, .int _, sx H he, .int _, .int _⟩, by rw [e1, badM, k3, p1]; rfl, fun _ _ y => by rw [e1, badM, k3, p1]; rfl⟩
    · exact ⟨_, _, _, _, _, rfl, fun H he => ⟨.int _, .int _, .int _, sx H he, .int _⟩, by rw [e1, badM, k3, p2]; rfl, fun _ _ y => by rw [e1, badM, k3, p2]; rfl⟩
    · exact ⟨_, _, _, _, _, rfl, fun H he => ⟨.int _, .int _, .int _, .int _, sx H he⟩, by rw [e1, badM, k3, p3]; rfl, fun z => by omega⟩
  · have e2 : (∀ v0 v1 w, badE br v0 v1 x (.int f) w = some x) ∧ (∀ v0 v1 w, badE br v0 v1 (.int s) x w = some x) ∧ (∀ v0 v1, badE br v0 v1 (.int s) (.int f) x = some x) := by
      rcases hb with rfl | rfl
      · have e1 : ∀ v0 v1 v2 v3 v4, badE 2 v0 v1 v2 v3 v4 = bad3 v2 v3 v4 (10 ^ 30) := fun _ _ _ _ _ => by unfold badE; rw [if_neg (by decide), if_neg (by decide), if_pos rfl]
        exact ⟨fun _ _ w => by rw [e1, p1], fun _ _ w => by rw [e1, p2], fun _ _ => by rw [e1, p3]⟩
      · have e1 : ∀ v0 v1 v2 v3 v4, badE 3 v0 v1 v2 v3 v4 = bad3 v2 v3 v4 1000 := fun _ _ _ _ _ => by unfold badE; rw [if_neg (by decide), if_neg (by decide), if_neg (by decide)]
        exact ⟨fun _ _ w => by rw [e1, m1], fun _ _ w => by rw [e1, m2], fun _ _ => by rw [e1, m3]⟩
    obtain ⟨n1, n2, n3⟩ := e2
    obtain rfl | rfl | rfl : j = 2 ∨ j = 3 ∨ j = 4 := by omega
    · exact ⟨_, _, _, _, _, rfl, fun H he => ⟨.int _, .int _, sx H he, .int _, .int _⟩, n1 _ _ _, fun _ _ y => n1 _ _ _⟩
    · exact ⟨_, _, _, _, _, rfl, fun H he => ⟨.int _, .int _, .int _, sx H he, .int _⟩, n2 _ _ _, fun _ _ y => n2 _ _ _⟩
    · exact ⟨_, _, _, _, _, rfl, fun H he => ⟨.int _, .int _, .int _, .int _, sx H he⟩, n3 _ _, fun z => by omega⟩
/-- good numbers are taken -/
theorem some_ok {br : Int} {t r s f : Int} (h0 : 0 ≤ br) (h4 : br < 4) (ht : 0 ≤ t ∧ t < 5) (hr : 1 ≤ r ∧ r < 6) (hs : 0 ≤ s ∧ s < 5) (hf : 5 ≤ f ∧ f < 10) : badE br (.int t) (.int r) (.int s) (.int f) (.int 3) = none := by
  have T1 : ∀ {i lo hi : Int}, lo ≤ i → i ≤ hi → btw (.int i) lo hi = true := fun h1 h2 => btw_int' h1 h2
  have b3 : ∀ {hi : Int}, 1000 ≤ hi → bad3 (.int s) (.int f) (.int 3) hi = none := fun h => by
    unfold bad3; rw [if_pos (T1 (by omega) (by omega))]; show (if btw (.int f) s _ = true then _ else _) = _; rw [if_pos (T1 (by omega) (by omega)), if_pos (T1 (by omega) (by omega))]
  have k3 : bad2 (.int t) (.int r) = none := by unfold bad2; rw [if_pos (T1 (by omega) (by omega)), if_pos (T1 (by omega) (by omega))]
  unfold badE
  split
  · rw [badS, k3, if_pos (T1 (by omega) (by omega))]; rfl
  split
  · rw [badM, k3, b3 (by decide)]; rfl
  split
  · exact b3 (by decide)
  · exact b3 (by decide)
theorem ok_ref {C : Addr} (T : Tx mg) {f : Addr} {fd : FuncData} (F : FD K "_law_are_refused" (top 31) f fd) {f1 f2 f4 : Addr} {fd1 fd2 fd4 : FuncData} (C1 : Cal P w K mg base CX0 7 "_law_error" ["_law_branch", "_law_some"] spErr f1 fd1)
    (C2 : Cal P w K mg base CX0 2 "_law_pick" ["_law_well_here", "_law_some"] spPick f2 fd2) (C4 : Cal P w K mg base CX0 1 "_law_take" ["_law_well_here", "_law_limit"] spTake f4 fd4) : Ga.FnG P w K mg base CX0 8 f fd ["_law_well_here"] spG := by
  obtain ⟨g_law_error, k_law_error, b_law_error, F_law_error⟩ := C1
  obtain ⟨g_law_pick, k_law_pick, b_law_pick, F_law_pick⟩ := C2
  obtain ⟨g_law_take, k_law_take, b_law_take, F_law_take⟩ := C4
  refine Ga.FnG.mk' F sc_ref (fun vs H Q E h => ?_) (fun cdv A outer s' H vs Q E hG hr h => ?_)
  · obtain ⟨_, rfl, _⟩ := h
    rfl
  · obtain ⟨u, rfl, hw, k⟩ := h
    have nd := sc_ref.nd
    refine ⟨_, (pss_cons (ps_set (i := 1) nd rfl (Or.inl rfl) (pe_tup (pa_cons (pe_un un_neg pe_int) (pa_cons (pe_op op_add (pe_op op_pow pe_int pe_int) pe_int) (pa_cons pe_bl (pa_cons pe_non (pa_cons pe_str (pa_cons (pe_tup pa_nil) (pa_cons (pe_op op_pow pe_int pe_int) pa_nil)))))))))
        (pss_cons (ps_par rfl nd (i := 2) (j := 3) rfl rfl (by decide) rfl rfl (pa_cons (pe_lst (pa_cons (pe_call F_law_take (hr.mono (by decide)) rfl g_law_take k_law_take b_law_take .nil pass0 (pa_cons (pv 0) (pa_cons pe_int pa_nil))) (pa_cons (pe_op op_add pe_int (pe_call F_law_take (hr.mono (by decide)) rfl g_law_take k_law_take b_law_take .nil pass0 (pa_cons (pv 0) (pa_cons pe_int pa_nil)))) (pa_cons (pe_call F_law_take (hr.mono (by decide)) rfl g_law_take k_law_take b_law_take .nil pass0 (pa_cons (pv 0) (pa_cons pe_int pa_nil))) (pa_cons (pe_op op_add pe_int (pe_call F_law_take (hr.mono (by decide)) rfl g_law_take k_law_take b_law_take .nil pass0 (pa_cons (pv 0) (pa_cons pe_int pa_nil)))) (pa_cons pe_int pa_nil)))))) (pa_cons (pe_call F_law_take (hr.mono (by decide)) rfl g_law_take k_law_take b_law_take .nil pass0 (pa_cons (pv 0) (pa_cons pe_int pa_nil))) pa_nil)) rfl)
        (pss_cons (ps_set (i := 4) nd rfl (Or.inl rfl) (pe_call F_law_pick (hr.mono (by decide)) rfl g_law_pick k_law_pick b_law_pick .nil pass0 (pa_cons (pv 0) (pa_cons (pe_ix (r := rIxT K) ix_tup (pe_tup (pa_cons (pe_tup (pa_cons pe_int (pa_cons pe_int (pa_cons pe_int pa_nil)))) (pa_cons (pe_tup (pa_cons pe_int (pa_cons pe_int (pa_cons pe_int (pa_cons pe_int (pa_cons pe_int pa_nil)))))) (pa_cons (pe_tup (pa_cons pe_int (pa_cons pe_int (pa_cons pe_int pa_nil)))) (pa_cons (pe_tup (pa_cons pe_int (pa_cons pe_int (pa_cons pe_int pa_nil)))) pa_nil))))) (pv 3) (fun _ _ => rfl)) pa_nil))))
        (pss_cons (ps_par rfl nd (i := 5) (j := 6) rfl rfl (by decide) rfl rfl (pa_cons (pe_callTy call_list_of (by rfl) T.b_list (by decide +kernel) (pa_cons (pv 2) pa_nil)) (pa_cons (pe_call F_law_pick (hr.mono (by decide)) rfl g_law_pick k_law_pick b_law_pick .nil pass0 (pa_cons (pv 0) (pa_cons (pv 1) pa_nil))) pa_nil)) rfl)
        (pss_cons (ps_asg (pv 6) (pg_sub (pv 5) (pv 4) set_list))
        (pss_cons (ps_if (PW.pt (pw_and (pt_cmpR op_gt (pv 3) pe_int (nomark _)) (pw_and (pt_cmpR op_lt (pv 4) pe_int (nomark _)) (pw_and1 (pt_cmpR op_eq (pe_call F_law_take (hr.mono (by decide)) rfl g_law_take k_law_take b_law_take .nil pass0 (pa_cons (pv 0) (pa_cons pe_int pa_nil))) pe_int (nomark _)))))) (pss_one (ps_asg (pe_call F_law_pick (hr.mono (by decide)) rfl g_law_pick k_law_pick b_law_pick .nil pass0 (pa_cons (pv 0) (pa_cons (pv 1) pa_nil))) (pg_sub (pv 5) pe_int set_list))) pss_nil)
        (pss_cons (ps_if (PW.pt (pw_or (pt_cmpR op_ne (pe_callB (Ga.call_repr hG hr) (by rfl) T.b_repr (by decide +kernel) (pa_cons (pe_call F_law_error (hr.mono (by decide)) rfl g_law_error k_law_error b_law_error .nil pass0 (pa_cons (pv 3) (pa_cons (pv 5) pa_nil))) pa_nil)) (pe_callB (Ga.call_repr hG hr) (by rfl) T.b_repr (by decide +kernel) (pa_cons (pe_lst (pa_cons (pv 6) (pa_cons pe_bl pa_nil))) pa_nil)) (nomark _)) (pw_or1 (pt_cmpR op_notN (pe_call F_law_error (hr.mono (by decide)) rfl g_law_error k_law_error b_law_error .nil pass0 (pa_cons (pv 3) (pa_cons (pv 2) pa_nil))) pe_non (nomark _))))) (pss_one (ps_ret pe_bl)) pss_nil)
        (pss_cons (ps_if (pt_cmpR op_ne (pe_callB (Ga.call_repr hG hr) (by rfl) T.b_repr (by decide +kernel) (pa_cons (pe_call F_law_error (hr.mono (by decide)) rfl g_law_error k_law_error b_law_error .nil pass0 (pa_cons (pe_call F_law_take (hr.mono (by decide)) rfl g_law_take k_law_take b_law_take .nil pass0 (pa_cons (pv 0) (pa_cons pe_int pa_nil))) (pa_cons (pe_lst (pa_cons pe_int (pa_cons pe_int (pa_cons pe_int (pa_cons pe_int (pa_cons pe_int pa_nil)))))) pa_nil))) pa_nil)) (pe_callB (Ga.call_repr hG hr) (by rfl) T.b_repr (by decide +kernel) (pa_cons (pe_lst (pa_cons pe_int (pa_cons pe_bl pa_nil))) pa_nil)) (nomark _)) (pss_one (ps_ret pe_bl)) pss_nil)
        (pss_cons (ps_if (pt_cmpR op_ne (pe_callB (Ga.call_repr hG hr) (by rfl) T.b_repr (by decide +kernel) (pa_cons (pe_call F_law_error (hr.mono (by decide)) rfl g_law_error k_law_error b_law_error .nil pass0 (pa_cons (pe_op op_add pe_int (pe_call F_law_take (hr.mono (by decide)) rfl g_law_take k_law_take b_law_take .nil pass0 (pa_cons (pv 0) (pa_cons pe_int pa_nil)))) (pa_cons (pe_lst (pa_cons pe_int (pa_cons pe_int (pa_cons pe_int (pa_cons pe_int (pa_cons (pe_un un_neg pe_int) pa_nil)))))) pa_nil))) pa_nil)) (pe_callB (Ga.call_repr hG hr) (by rfl) T.b_repr (by decide +kernel) (pa_cons (pe_lst (pa_cons pe_int (pa_cons pe_bl pa_nil))) pa_nil)) (nomark _)) (pss_one (ps_ret pe_bl)) pss_nil)
        (pss_cons (ps_set (i := 7) nd rfl (Or.inl rfl) (pe_call F_law_pick (hr.mono (by decide)) rfl g_law_pick k_law_pick b_law_pick .nil pass0 (pa_cons (pv 0) (pa_cons (pe_tup (pa_cons (pe_lst (pa_cons pe_int (pa_cons pe_int (pa_cons pe_int (pa_cons pe_int (pa_cons pe_int pa_nil)))))) (pa_cons (pe_lst (pa_cons pe_int (pa_cons pe_int (pa_cons pe_int (pa_cons pe_int (pa_cons pe_int pa_nil)))))) (pa_cons (pe_lst (pa_cons pe_int (pa_cons pe_int (pa_cons pe_int (pa_cons pe_int (pa_cons pe_int pa_nil)))))) pa_nil)))) pa_nil))))
        (pss_cons (ps_set (i := 8) nd rfl (Or.inl rfl) (pe_ix (r := rIxL K) ix_list (pe_lc (own := [("_law_each", 9)]) rfl nd (pi_list (pv 7)) (blkOk_by (N := ["_law_well_here", "_law_menu", "_law_some", "_law_branch", "_law_spot", "_law_bent", "_law_odd", "_law_big", "_law_due", "_law_each"]) (sc := defScope (top 31)) (by decide +kernel)) (fun _ _ _ _ _ => (pg_name (i := 9) nd rfl (Or.inl rfl))) (fun _ _ _ _ _ => (pts_one (pt_cmpR op_gt (pv 9) pe_int (nomark _)))) (fun _ _ _ _ _ => (pv 9))) pe_int (fun _ _ => rfl)))
        (pss_one (ps_ret (pe_and (pe_cmpR op_eq (pe_callB (Ga.call_repr hG hr) (by rfl) T.b_repr (by decide +kernel) (pa_cons (pe_call F_law_error (hr.mono (by decide)) rfl g_law_error k_law_error b_law_error .nil pass0 (pa_cons pe_int (pa_cons (pv 7) pa_nil))) pa_nil)) (pe_callB (Ga.call_repr hG hr) (by rfl) T.b_repr (by decide +kernel) (pa_cons (pe_lst (pa_cons (pv 8) (pa_cons pe_bl pa_nil))) pa_nil)) (nomark _)) (pe_one (pe_cmpR op_isN (pe_call F_law_error (hr.mono (by decide)) rfl g_law_error k_law_error b_law_error .nil pass0 (pa_cons pe_int (pa_cons (pv 7) pa_nil))) pe_non (nomark _))))))))))))))))), ?_⟩
    refine sq fun U hU => ?_
    walk_at "rd"
    refine ⟨⟨by decide, by decide⟩, by decide, fun e he => ⟨⟨by decide, by decide⟩, by decide, fun pm hpm => hU _ _ ?_⟩⟩
    clear hU
    have ue : e ≠ u := fun z => by
      obtain ⟨_, _, _, q⟩ := hw
      rw [z, q] at he; cases he
    have s0 : Same H (upd (upd H e (.tup [])) pm (.tup (menuV e))) := (same_new he).trans (same_new hpm)
    have ee : (upd (upd H e (.tup [])) pm (.tup (menuV e))) e = some (.tup []) := same_new hpm _ _ upd_same
    have em : (upd (upd H e (.tup [])) pm (.tup (menuV e))) pm = some (.tup (menuV e)) := upd_same
    have bb : But u H (upd (upd H e (.tup [])) pm (.tup (menuV e))) := But.same s0
    have w0 := hw.but s0
    have um : pm ≠ u := fun z => by
      obtain ⟨_, _, _, q⟩ := hw
      rw [z, same_new he _ _ q] at hpm; cases hpm
    have e10 : V.int (10 ^ Int.toNat 30 + 1) = V.int (10 ^ 30 + 1) := rfl
    have e40 : V.int (10 ^ Int.toNat 40) = V.int (10 ^ 40) := rfl
    rw [e10, e40, show [V.int (-1), V.int (10 ^ 30 + 1), V.bl true, V.non, V.str (Str.ofString "3"), V.ref e, V.int (10 ^ 40)] = menuV e from rfl]
    generalize (upd (upd H e (.tup [])) pm (.tup (menuV e))) = H0 at ee em bb w0 s0 ⊢
    refine sq fun U hU => ?_
    walk_at "rd"
    refine ⟨u, 5, rfl, w0, by decide, by decide, fun t H1 b1 w1 t0 t1 => ⟨u, 5, rfl, w1, by decide, by decide, fun r H2 b2 w2 r0 r1 => ?_⟩⟩
    walk_at "rd"
    refine ⟨u, 5, rfl, w2, by decide, by decide, fun s H3 b3 w3 sa sb => ⟨u, 5, rfl, w3, by decide, by decide, fun f H4 b4 w4 f0 f1 => ?_⟩⟩
    walk_at "rd"
    have b4' : But u H0 H4 := (b1.trans b2).trans (b3.trans b4)
    refine ⟨by decide, fun q hq => ⟨u, 4, rfl, w4.but (same_new hq), by decide, by decide, fun br H5 b5 w5 br0 br1 => ?_⟩⟩
    refine hU _ _ ?_
    clear hU
    have uq : q ≠ u := fun z => by
      obtain ⟨_, _, _, y⟩ := w4
      rw [z, y] at hq; cases hq
    have es : H5 q = some (.lst [.int t, .int (1 + r), .int s, .int (5 + f), .int 3]) := b5 _ _ uq upd_same
    have bb5 : But u H H5 := bb.trans (b4'.trans ((But.same (same_new hq)).trans b5))
    have c05 : But u H0 H5 := b4'.trans ((But.same (same_new hq)).trans b5)
    have ee5 := c05 _ _ ue ee
    have em5 := c05 _ _ um em
    clear b1 b2 b3 b4 b4' hq b5 c05
    refine sq fun U hU => ?_
    walk_at "rd"
    refine ⟨by decide, fun a0 h0 => ⟨by decide, fun a1 h1 => ⟨by decide, fun a2 h2 => ⟨by decide, fun a3 h3 => ⟨by decide, fun a4 h4 => ?_⟩⟩⟩⟩⟩
    have s9 := (same_new (o := .tup [V.int 0, V.int 1, V.int 2]) h0).trans ((same_new (o := .tup [V.int 0, V.int 1, V.int 2, V.int 3, V.int 4]) h1).trans ((same_new (o := .tup [V.int 2, V.int 3, V.int 4]) h2).trans ((same_new (o := .tup [V.int 2, V.int 3, V.int 4]) h3).trans (same_new (o := .tup [V.ref a0, V.ref a1, V.ref a2, V.ref a3]) h4))))
    have d0 := (same_new (o := .tup [V.int 0, V.int 1, V.int 2, V.int 3, V.int 4]) h1).trans ((same_new (o := .tup [V.int 2, V.int 3, V.int 4]) h2).trans ((same_new (o := .tup [V.int 2, V.int 3, V.int 4]) h3).trans (same_new (o := .tup [V.ref a0, V.ref a1, V.ref a2, V.ref a3]) h4))) _ _ upd_same
    have d1 := (same_new (o := .tup [V.int 2, V.int 3, V.int 4]) h2).trans ((same_new (o := .tup [V.int 2, V.int 3, V.int 4]) h3).trans (same_new (o := .tup [V.ref a0, V.ref a1, V.ref a2, V.ref a3]) h4)) _ _ upd_same
    have d2 := (same_new (o := .tup [V.int 2, V.int 3, V.int 4]) h3).trans (same_new (o := .tup [V.ref a0, V.ref a1, V.ref a2, V.ref a3]) h4) _ _ upd_same
    have d3 := same_new (o := .tup [V.ref a0, V.ref a1, V.ref a2, V.ref a3]) h4 _ _ upd_same
    have d4 : (upd _ a4 (HO.tup [V.ref a0, V.ref a1, V.ref a2, V.ref a3])) a4 = _ := upd_same (H := (upd (upd (upd (upd H5 a0 (HO.tup [V.int 0, V.int 1, V.int 2])) a1 (HO.tup [V.int 0, V.int 1, V.int 2, V.int 3, V.int 4])) a2 (HO.tup [V.int 2, V.int 3, V.int 4])) a3 (HO.tup [V.int 2, V.int 3, V.int 4])))
    generalize (upd (upd (upd (upd (upd H5 a0 (HO.tup [V.int 0, V.int 1, V.int 2])) a1 (HO.tup [V.int 0, V.int 1, V.int 2, V.int 3, V.int 4])) a2 (HO.tup [V.int 2, V.int 3, V.int 4])) a3 (HO.tup [V.int 2, V.int 3, V.int 4])) a4 (HO.tup [V.ref a0, V.ref a1, V.ref a2, V.ref a3])) = H9 at s9 d0 d1 d2 d3 d4 ⊢
    have w9 := w5.but s9
    have nu : ∀ {a : Addr} {xs : List V}, H9 a = some (.tup xs) → u ≠ a := fun h z => by
      obtain ⟨_, _, _, y⟩ := w9
      rw [← z, y] at h; cases h
    have pk : ∃ (a : Addr) (xs : List V), ([V.ref a0, V.ref a1, V.ref a2, V.ref a3] : List V)[br.toNat]? = some (.ref a) ∧ H9 a = some (.tup xs) ∧ (1 ≤ xs.length ∧ xs.length ≤ 1000) ∧ ∀ x ∈ xs, ∃ j : Nat, x = .int j ∧ ((br = 0 ∧ j < 3) ∨ (br = 1 ∧ j < 5) ∨ ((br = 2 ∨ br = 3) ∧ 2 ≤ j ∧ j < 5)) := by
      have q3 : ∀ x ∈ [V.int 0, V.int 1, V.int 2], ∃ j : Nat, x = .int j ∧ j < 3 := fun x hx => by
        simp only [List.mem_cons, List.not_mem_nil, or_false] at hx
        rcases hx with rfl | rfl | rfl
        · exact ⟨0, rfl, by decide⟩
        · exact ⟨1, rfl, by decide⟩
        · exact ⟨2, rfl, by decide⟩
      have q5 : ∀ x ∈ [V.int 0, V.int 1, V.int 2, V.int 3, V.int 4], ∃ j : Nat, x = .int j ∧ j < 5 := fun x hx => by
        simp only [List.mem_cons, List.not_mem_nil, or_false] at hx
        rcases hx with rfl | rfl | rfl | rfl | rfl
        · exact ⟨0, rfl, by decide⟩
        · exact ⟨1, rfl, by decide⟩
        · exact ⟨2, rfl, by decide⟩
        · exact ⟨3, rfl, by decide⟩
        · exact ⟨4, rfl, by decide⟩
      have q2 : ∀ x ∈ [V.int 2, V.int 3, V.int 4], ∃ j : Nat, x = .int j ∧ 2 ≤ j ∧ j < 5 := fun x hx => by
        simp only [List.mem_cons, List.not_mem_nil, or_false] at hx
        rcases hx with rfl | rfl | rfl
        · exact ⟨2, rfl, by decide⟩
        · exact ⟨3, rfl, by decide⟩
        · exact ⟨4, rfl, by decide⟩
      obtain rfl | rfl | rfl | rfl : br = 0 ∨ br = 1 ∨ br = 2 ∨ br = 3 := by omega
      · exact ⟨a0, _, rfl, d0, by decide, fun x hx => (q3 x hx).imp fun j h => ⟨h.1, .inl ⟨rfl, h.2⟩⟩⟩
      · exact ⟨a1, _, rfl, d1, by decide, fun x hx => (q5 x hx).imp fun j h => ⟨h.1, .inr (.inl ⟨rfl, h.2⟩)⟩⟩
      · exact ⟨a2, _, rfl, d2, by decide, fun x hx => (q2 x hx).imp fun j h => ⟨h.1, .inr (.inr ⟨.inl rfl, h.2⟩)⟩⟩
      · exact ⟨a3, _, rfl, d3, by decide, fun x hx => (q2 x hx).imp fun j h => ⟨h.1, .inr (.inr ⟨.inr rfl, h.2⟩)⟩⟩
    obtain ⟨ai, xs, ei, hi, li, mi⟩ := pk
    refine ⟨_, SqT.of d4, _, atI_nn br0 ei, u, ai, xs, rfl, w9, nu hi, hi, li.1, li.2, fun x H10 b10 w10 hx => ?_⟩
    obtain ⟨j, rfl, hj⟩ := mi x hx
    refine hU _ _ ?_
    clear hU
    have c10 : But u H5 H10 := (But.same s9).trans b10
    have es10 := c10 _ _ uq es
    have ee10 := c10 _ _ ue ee5
    have em10 := c10 _ _ um em5
    have bb10 : But u H H10 := bb5.trans c10
    clear s9 d0 d1 d2 d3 d4 mi hi ei nu hx c10 b10 w9 es ee5 em5 ee em w5 w0 bb h0 h1 h2 h3 h4
    refine sq fun U hU => ?_
    walk_at "rd"
    have lM : (menuV e).length = 7 := rfl
    refine ⟨_, .inl (SqL.of es10), fun l hl => ?_⟩
    have wl := w10.but (same_new (o := .lst [.int t, .int (1 + r), .int s, .int (5 + f), .int 3]) hl)
    refine ⟨u, pm, _, rfl, wl, um.symm, same_new hl _ _ em10, (by decide : 1 ≤ 7), (by decide : 7 ≤ 1000), fun x H11 b11 w11 hx => hU _ _ ?_⟩
    clear hU
    have ul : l ≠ u := fun z => by
      obtain ⟨_, _, _, y⟩ := w10
      rw [z, y] at hl; cases hl
    have el : H11 l = some (.lst [.int t, .int (1 + r), .int s, .int (5 + f), .int 3]) := b11 _ _ ul upd_same
    have c11 : But u H10 H11 := (But.same (same_new hl)).trans b11
    have hl0 := but_none bb10 w10 hl
    have es11 := c11 _ _ uq es10
    have ee11 := c11 _ _ ue ee10
    have em11 := c11 _ _ um em10
    have bb11 := bb10.trans c11
    have le : e ≠ l := ne_of_none ee10 hl
    have lm : pm ≠ l := ne_of_none em10 hl
    have lq : q ≠ l := ne_of_none es10 hl
    obtain ⟨v0, v1, v2, v3, v4, eb, zs, hbad, hbad4⟩ := bent_ok (t := t) (r := 1 + r) (s := s) (f := 5 + f) hx ⟨t0, t1⟩ ⟨by omega, by omega⟩ ⟨sa, sb⟩ ⟨by omega, by omega⟩ hj
    refine sq fun U hU => ?_
    walk_at "rd"
    have j5 : j < 5 := by omega
    refine ⟨_, el, j, by unfold ixN; rw [if_pos (by omega)]; show (if (j : Int) < (5 : Nat) then some (j : Int).toNat else none) = some j; rw [if_pos (by omega)]; rfl, hU _ _ ?_⟩
    clear hU
    rw [eb]
    have el12 : (upd H11 l (.lst [v0, v1, v2, v3, v4])) l = some (.lst [v0, v1, v2, v3, v4]) := upd_same
    have es12 : (upd H11 l (.lst [v0, v1, v2, v3, v4])) q = _ := (upd_ne lq).trans es11
    have ee12 : (upd H11 l (.lst [v0, v1, v2, v3, v4])) e = _ := (upd_ne le).trans ee11
    have em12 : (upd H11 l (.lst [v0, v1, v2, v3, v4])) pm = _ := (upd_ne lm).trans em11
    have bb12 : But u H (upd H11 l (.lst [v0, v1, v2, v3, v4])) := but_new bb11 hl0
    have w12 : WellAt (upd H11 l (.lst [v0, v1, v2, v3, v4])) u := by
      obtain ⟨a, b, c, y⟩ := w11
      exact ⟨a, b, c, (upd_ne (Ne.symm ul)).trans y⟩
    generalize (upd H11 l (.lst [v0, v1, v2, v3, v4])) = H12 at el12 es12 ee12 em12 bb12 w12 ⊢
    refine sq fun U hU => ?_
    walk_at "rd"
    suffices cont : ∀ (H13 : Hp) (v5 : V), But u H H13 → WellAt H13 u → H13 q = some (.lst [.int t, .int (1 + r), .int s, .int (5 + f), .int 3]) → H13 e = some (.tup []) → H13 pm = some (.tup (menuV e)) → H13 l = some (.lst [v0, v1, v2, v3, v5]) → Smp H13 v5 → badE br v0 v1 v2 v3 v5 = some x →
        U [some (V.ref u), some (V.ref pm), some (V.ref q), some (V.int br), some (V.int ↑j), some (V.ref l), some x, none, none, none] H13 by
      have stay := cont H12 v4 bb12 w12 es12 ee12 em12 el12 (zs H12 ee12).2.2.2.2 hbad
      by_cases k0 : 0 < br
      · rw [if_pos k0]
        by_cases k4 : (j : Int) < 4
        · rw [if_pos k4]
          refine ⟨u, 2, rfl, w12, by decide, by decide, fun dd H13 b13 w13 dd0 dd1 => ?_⟩
          walk_at "rd"
          have es13 := b13 _ _ uq es12
          have ee13 := b13 _ _ ue ee12
          have em13 := b13 _ _ um em12
          have el13 := b13 _ _ ul el12
          by_cases kd : dd = 0
          · rw [if_pos kd]
            refine ⟨u, pm, _, rfl, w13, um.symm, em13, (by decide : 1 ≤ 7), (by decide : 7 ≤ 1000), fun y H14 b14 w14 hy => ⟨_, b14 _ _ ul el13, 4, rfl, ?_⟩⟩
            refine cont _ y (but_new (bb12.trans (b13.trans b14)) hl0) ?_ ((upd_ne lq).trans (b14 _ _ uq es13)) ((upd_ne le).trans (b14 _ _ ue ee13)) ((upd_ne lm).trans (b14 _ _ um em13)) upd_same (menu_smp hy ((upd_ne le).trans (b14 _ _ ue ee13))) (hbad4 (by omega) k0 y)
            obtain ⟨a, b, c, y⟩ := w14
            exact ⟨a, b, c, (upd_ne (Ne.symm ul)).trans y⟩
          · rw [if_neg kd]
            exact cont H13 v4 (bb12.trans b13) w13 es13 ee13 em13 el13 (zs H13 ee13).2.2.2.2 hbad
        · rw [if_neg k4]; exact stay
      · rw [if_neg k0]; exact stay
    intro H13 v5 bb13 w13 es13 ee13 em13 el13 z5 hb5
    refine hU _ _ ?_
    clear hU
    refine sq fun U hU => ?_
    walk_at "rd"
    obtain ⟨d, fd, hd⟩ := menu_data hx
    obtain ⟨zz0, zz1, zz2, zz3, _⟩ := zs H13 ee13
    refine told fd (fun H' s => hd H' (s _ _ ee13)) el13 ⟨zz0, zz1, zz2, zz3, z5⟩ hb5 fun H14 s14 => ⟨by decide, fun p hp => ?_⟩
    refine due fd (hd _ (s14.trans (same_new hp) _ _ ee13)) upd_same ?_
    walk_at "rd"
    refine calm (s14.trans (same_new hp) _ _ es13) ints5 (some_ok br0 br1 ⟨t0, t1⟩ ⟨by omega, by omega⟩ ⟨sa, sb⟩ ⟨by omega, by omega⟩) (fun z => ?_) fun H15 s15 => ?_
    · simp only [iv]; omega
    walk_at "rd"
    refine hU _ _ ?_
    clear hU
    have s13 : Same H13 H15 := s14.trans ((same_new hp).trans s15)
    have bb15 : But u H H15 := bb13.trans (But.same s13)
    have w15 := w13.but s13
    clear bb12 w12 bb11 w11 bb10 w10 bb5 s14 s15 s13 hp
    refine sq fun U hU => ?_
    walk_at "rd"
    refine ⟨u, 2, rfl, w15, by decide, by decide, fun c H16 b16 w16 c0 c1 => ⟨by decide, fun p1 hp1 => ?_⟩⟩
    have f0 : Fit (.int 0) 1 200 := fit_small (by decide)
    have eb0 : badE c (.int 2) (.int 0) (.int 3) (.int 3) (.int 0) = some (.int 0) := by
      obtain rfl | rfl : c = 0 ∨ c = 1 := by omega
      · decide +kernel
      · decide +kernel
    refine told (d := .int 0) f0 (fun _ _ => .int _) upd_same ints5 eb0 fun H17 s17 => ⟨by decide, fun p2 hp2 => due (d := .int 0) f0 (.int _) upd_same ?_⟩
    walk_at "rd"
    refine hU _ _ ?_
    clear hU
    have s18 := (same_new (o := .lst [V.int 2, V.int 0, V.int 3, V.int 3, V.int 0]) hp1).trans (s17.trans (same_new (o := .lst [V.int 0, V.bl true]) hp2))
    have bb18 := (bb15.trans b16).trans (But.same s18)
    have w18 := w16.but s18
    generalize (upd H17 p2 (HO.lst [V.int 0, V.bl true])) = H18 at s18 bb18 w18 ⊢
    clear s17 hp1 hp2 b16 w16 s18 bb15 w15 H17
    refine sq fun U hU => ?_
    walk_at "rd"
    refine ⟨u, 3, rfl, w18, by decide, by decide, fun c' H19 b19 w19 c0 c1 => ⟨_, rfl, by decide, fun p1 hp1 => ?_⟩⟩
    have eb5 : badE (1 + c') (.int 2) (.int 1) (.int 6) (.int 5) (.int (-1)) = some (.int 5) := by
      obtain rfl | rfl | rfl : c' = 0 ∨ c' = 1 ∨ c' = 2 := by omega
      · decide +kernel
      · decide +kernel
      · decide +kernel
    have f5 : Fit (.int 5) 1 200 := fit_small (by decide)
    refine told (d := .int 5) f5 (fun _ _ => .int _) upd_same ints5 eb5 fun H20 s20 => ⟨by decide, fun p2 hp2 => due (d := .int 5) f5 (.int _) upd_same ?_⟩
    walk_at "rd"
    refine hU _ _ ?_
    clear hU
    have s21 := (same_new (o := .lst [V.int 2, V.int 1, V.int 6, V.int 5, V.int (-1)]) hp1).trans (s20.trans (same_new (o := .lst [V.int 5, V.bl true]) hp2))
    have bb21 := (bb18.trans b19).trans (But.same s21)
    have w21 := w19.but s21
    generalize (upd H20 p2 (HO.lst [V.int 5, V.bl true])) = H21 at s21 bb21 w21 ⊢
    clear s20 hp1 hp2 b19 w19 s21 bb18 w18 H20
    refine sq fun U hU => ?_
    walk_at "rd"
    refine ⟨by decide, fun a0 h0 => ⟨by decide, fun a1 h1 => ⟨by decide, fun a2 h2 => ⟨by decide, fun a3 h3 => ?_⟩⟩⟩⟩
    have s9 := (same_new (o := .lst [V.int 0, V.int 1, V.int 1001, V.int 1002, V.int 0]) h0).trans ((same_new (o := .lst [V.int 0, V.int 1, V.int 3, V.int 1001, V.int 2000]) h1).trans ((same_new (o := .lst [V.int 0, V.int 1, V.int 3, V.int 4, V.int 1001]) h2).trans (same_new (o := .tup [V.ref a0, V.ref a1, V.ref a2]) h3)))
    have d0 := (same_new (o := .lst [V.int 0, V.int 1, V.int 3, V.int 1001, V.int 2000]) h1).trans ((same_new (o := .lst [V.int 0, V.int 1, V.int 3, V.int 4, V.int 1001]) h2).trans (same_new (o := .tup [V.ref a0, V.ref a1, V.ref a2]) h3)) _ _ upd_same
    have d1 := (same_new (o := .lst [V.int 0, V.int 1, V.int 3, V.int 4, V.int 1001]) h2).trans (same_new (o := .tup [V.ref a0, V.ref a1, V.ref a2]) h3) _ _ upd_same
    have d2 := same_new (o := .tup [V.ref a0, V.ref a1, V.ref a2]) h3 _ _ upd_same
    have d3 := upd_same (H := (upd (upd (upd H21 a0 (HO.lst [V.int 0, V.int 1, V.int 1001, V.int 1002, V.int 0])) a1 (HO.lst [V.int 0, V.int 1, V.int 3, V.int 1001, V.int 2000])) a2 (HO.lst [V.int 0, V.int 1, V.int 3, V.int 4, V.int 1001]))) (a := a3) (o := (HO.tup [V.ref a0, V.ref a1, V.ref a2]))
    generalize (upd (upd (upd (upd H21 a0 (HO.lst [V.int 0, V.int 1, V.int 1001, V.int 1002, V.int 0])) a1 (HO.lst [V.int 0, V.int 1, V.int 3, V.int 1001, V.int 2000])) a2 (HO.lst [V.int 0, V.int 1, V.int 3, V.int 4, V.int 1001])) a3 (HO.tup [V.ref a0, V.ref a1, V.ref a2])) = H9 at s9 d0 d1 d2 d3 ⊢
    have w9 := w21.but s9
    have nu : ∀ {a : Addr} {o : HO}, H9 a = some o → (∀ x y z, o ≠ .lst [.int x, .int y, .int z]) → a ≠ u := fun h n z => by
      obtain ⟨_, _, _, y⟩ := w9
      rw [z, y] at h
      cases h
      exact n _ _ _ rfl
    refine ⟨u, a3, _, rfl, w9, (nu d3 fun _ _ _ z => nomatch z).symm, d3, (by decide : 1 ≤ 3), (by decide : 3 ≤ 1000), fun y H22 b22 w22 hy => hU _ _ ?_⟩
    clear hU
    have pk : ∃ (b : Addr) (i0 i1 i2 i3 i4 D : Int), y = .ref b ∧ H22 b = some (.lst [.int i0, .int i1, .int i2, .int i3, .int i4]) ∧ (∃ R, ([i0, i1, i2, i3, i4].filter fun n => decide (1000 < n)) = D :: R) ∧ badE 3 (.int i0) (.int i1) (.int i2) (.int i3) (.int i4) = some (.int D) ∧ badE 2 (.int i0) (.int i1) (.int i2) (.int i3) (.int i4) = none ∧ D.natAbs < 2 ^ 150 := by
      simp only [List.mem_cons, List.not_mem_nil, or_false] at hy
      rcases hy with rfl | rfl | rfl
      · exact ⟨a0, 0, 1, 1001, 1002, 0, 1001, rfl, b22 _ _ (nu d0 fun _ _ _ z => nomatch z) d0, ⟨[1002], by decide⟩, by decide +kernel, by decide +kernel, by decide⟩
      · exact ⟨a1, 0, 1, 3, 1001, 2000, 1001, rfl, b22 _ _ (nu d1 fun _ _ _ z => nomatch z) d1, ⟨[2000], by decide⟩, by decide +kernel, by decide +kernel, by decide⟩
      · exact ⟨a2, 0, 1, 3, 4, 1001, 1001, rfl, b22 _ _ (nu d2 fun _ _ _ z => nomatch z) d2, ⟨[], by decide⟩, by decide +kernel, by decide +kernel, by decide⟩
    obtain ⟨b, i0, i1, i2, i3, i4, D, rfl, hb, ⟨R, hR⟩, hb3, hb2, hD⟩ := pk
    have bb22 := (bb21.trans (But.same s9)).trans b22
    clear d0 d1 d2 d3 s9 bb21 w21 w9 nu hy h0 h1 h2 h3
    refine sq fun U hU => ?_
    walk_at "rd"
    refine ⟨⟨_, SqL.of hb⟩, lc_l (xs := [i0, i1, i2, i3, i4].map V.int) (bgP H22 [i0, i1, i2, i3, i4]) fun G hG0 => ⟨⟨same_new hG0, upd_same⟩, fun i H' _ hP => SqL.of (hP.1 _ _ hb), ?_, ?_⟩⟩
    · rintro i x1 H' hi ⟨hs', hL⟩
      rw [List.getElem?_map] at hi
      obtain ⟨n, hn, rfl⟩ := Option.map_eq_some_iff.mp hi
      have tk : ([i0, i1, i2, i3, i4].take (i + 1)) = [i0, i1, i2, i3, i4].take i ++ [n] := by rw [List.take_succ, hn]; rfl
      unfold Lturn
      walk_at "rd"
      have stp : ∀ c, decide ((1000 : Int) < n) = c → (([i0, i1, i2, i3, i4].take (i + 1)).filter fun n => decide (1000 < n)) = (([i0, i1, i2, i3, i4].take i).filter fun n => decide (1000 < n)) ++ (if c = true then [n] else []) := fun c hc => by
        rw [tk, List.filter_append, List.filter_cons, hc]; rfl
      by_cases z : (1000 : Int) < n
      · rw [if_pos z]
        refine ⟨_, hL, ?_, fun b' o e' => ?_, ?_⟩
        · rw [List.length_map]
          refine Nat.lt_of_le_of_lt (Nat.le_trans (List.length_filter_le _ _) (List.length_take_le' _ _)) (show 5 < sizeLine by rw [sizeLine_eq]; decide)
        · rw [upd_ne (ne_of_none e' hG0)]; exact hs' b' o e'
        · rw [upd_same, stp true (decide_eq_true z), List.map_append]; rfl
      · rw [if_neg z]
        refine ⟨hs', ?_⟩
        rw [hL, stp false (decide_eq_false z)]; simp
    rintro H23 ⟨s23, hL⟩
    rw [show (([i0, i1, i2, i3, i4].map V.int).length) = 5 from rfl, show ([i0, i1, i2, i3, i4].take 5) = [i0, i1, i2, i3, i4] from rfl, hR] at hL
    refine ⟨G, rfl, _, SqL.of hL, _, atI_nn (v := .int D) (by decide) rfl, hU _ _ ?_⟩
    clear hU
    walk_at "rd"
    have fD : Fit (.int D) 1 200 := fit_small hD
    have hb23 := s23 _ _ hb
    refine told (d := .int D) fD (fun _ _ => .int _) hb23 ints5 hb3 fun H24 s24 => ⟨by decide, fun p1 hp1 => due (d := .int D) fD (.int _) upd_same ?_⟩
    walk_at "rd"
    have s25 := s24.trans (same_new (o := .lst [V.int D, V.bl true]) hp1)
    refine calm (s25 _ _ hb23) ints5 hb2 (fun z => absurd rfl z.2.2) fun H26 s26 => ?_
    have s27 := s23.trans (s25.trans s26)
    rw [decide_eq_true (show V.non = V.non from rfl)]
    exact k _ (bb22.trans (But.same s27)) (w22.but s27)
end
end K65

set_option Elab.async false
set_option linter.all false
set_option maxRecDepth 100000
set_option maxHeartbeats 4000000
namespace K65
open PySem PySem.Spec PyProof.Rows L2 Rd Dt
local macro_rules | `(tactic| walk_at "rd") => `(tactic| try simp only [tVar_, tC_, tOp_, tUn_, rI_, rI0_, rU_, eq_ii, ne_ii, eq_ss, ne_ss, eq_bb, ne_bb, tAndV_, tOrV_, tNotV_, tIf_, tTest_, tB_, tAnd_, tOr_, tNot_, tChain_, tNil_, tCons_, tTup_, tLst_, tCB_, tCall_, tSeq_, tNext_, tRet_, tRetN_, tDrop_, tBreak_, tNever_, tIfS_, tAsg_, gName_, gTup_, gCons_, gNil_, gSub_, tPar_, tPar3_, tSl_, tNoPart_, tPart_, tBM_, tFor_range1, tFor_range2, tFor_list, tFor_tup,
  L2.start, List.map_cons, List.map_nil, List.length_cons, List.length_nil, List.replicate, List.append_nil, List.nil_append, List.cons_append, List.getElem?_cons_zero, List.getElem?_cons_succ, List.set_cons_zero, List.set_cons_succ, Option.some.injEq, V.int.injEq, V.bl.injEq, V.str.injEq, V.ref.injEq, exists_eq_left, exists_eq_left', exists_eq_right, exists_eq, exists_and_left, and_true, true_and, decide_eq_true_eq, Nat.reduceAdd, Nat.reduceSub, Nat.add_zero, Nat.zero_add, List.cons.injEq, Bool.not_eq_true', decide_eq_false_iff_not, eq_self, reduceCtorEq, Bool.false_eq_true, if_true, if_false, ite_true, ite_false, and_self, tLc_range1, tLc_range2, tLc_list, tLc_tup, tYes_, wipe0, wipe1, tCallS_, rIxL_, rIxT_, rSlL_, rCat_, rSetL_, rRep_, rGcd_, tCallK_, gUnl_, tRaise_, decide_true, decide_false, not_true_eq_false, not_false_eq_true, false_and, or_false, false_or, and_false, and_assoc, exists_const, forall_const, forall_eq'])

section
variable {P : Program} {w : World} {K : PySem.W.Frag} {mg : Str → Option Value} {base : Heap}
theorem sc_right : FnScope ["_law_well_here"] ["_law_well_here"] (defScope (top 35)) := ⟨rfl, rfl, rfl, by decide +kernel, rfl, by decide +kernel, by decide +kernel⟩
theorem ok_right (T : Tx mg) {f : Addr} {fd : FuncData} (F : FD K "_law_right" (top 35) f fd) {f1 f2 f3 f4 : Addr} {fd1 fd2 fd3 fd4 : FuncData} (C1 : CalG P w K mg base CX0 7 "_law_is_small_right" ["_law_well_here"] spG f1 fd1)
    (C2 : CalG P w K mg base CX0 7 "_law_is_missed_right" ["_law_well_here"] spG f2 fd2) (C3 : CalG P w K mg base CX0 7 "_law_is_great_right" ["_law_well_here"] spG f3 fd3) (C4 : CalG P w K mg base CX0 8 "_law_are_refused" ["_law_well_here"] spG f4 fd4) : Ga.FnG P w K mg base CX0 9 f fd ["_law_well_here"] spG := by
  obtain ⟨g_law_is_small_right, k_law_is_small_right, b_law_is_small_right, F_law_is_small_right⟩ := C1
  obtain ⟨g_law_is_missed_right, k_law_is_missed_right, b_law_is_missed_right, F_law_is_missed_right⟩ := C2
  obtain ⟨g_law_is_great_right, k_law_is_great_right, b_law_is_great_right, F_law_is_great_right⟩ := C3
  obtain ⟨g_law_are_refused, k_law_are_refused, b_law_are_refused, F_law_are_refused⟩ := C4
  refine Ga.FnG.mk' F sc_right (fun vs H Q E h => ?_) (fun cdv A outer s' H vs Q E hG hr h => ?_)
  · obtain ⟨_, rfl, _⟩ := h
    rfl
  · obtain ⟨u, rfl, hw, k⟩ := h
    have nd := sc_right.nd
    refine ⟨_, (pss_cons (ps_if (PW.pt (pw_or (pt_not (pt_val (Ga.pe_callG F_law_is_small_right hG (hr.mono (by decide)) rfl g_law_is_small_right k_law_is_small_right b_law_is_small_right .nil pass0 (pa_cons (pv 0) pa_nil)))) (pw_or (pt_not (pt_val (Ga.pe_callG F_law_is_missed_right hG (hr.mono (by decide)) rfl g_law_is_missed_right k_law_is_missed_right b_law_is_missed_right .nil pass0 (pa_cons (pv 0) pa_nil)))) (pw_or1 (pt_not (pt_val (Ga.pe_callG F_law_is_great_right hG (hr.mono (by decide)) rfl g_law_is_great_right k_law_is_great_right b_law_is_great_right .nil pass0 (pa_cons (pv 0) pa_nil)))))))) (pss_one (ps_ret pe_bl)) pss_nil)
        (pss_one (ps_ret (Ga.pe_callG F_law_are_refused hG (hr.mono (by decide)) rfl g_law_are_refused k_law_are_refused b_law_are_refused .nil pass0 (pa_cons (pv 0) pa_nil))))), ?_⟩
    refine sq fun U hU => ?_
    walk_at "rd"
    refine ⟨u, rfl, hw, fun H1 b1 w1 => ?_⟩
    walk_at "rd"
    refine ⟨u, rfl, w1, fun H2 b2 w2 => ?_⟩
    walk_at "rd"
    refine ⟨u, rfl, w2, fun H3 b3 w3 => ?_⟩
    walk_at "rd"
    refine hU _ _ ?_
    walk_at "rd"
    exact ⟨u, rfl, w3, fun H4 b4 w4 => k _ (b1.trans (b2.trans (b3.trans b4))) w4⟩
theorem sc_law : FnScope ["_law_script", "_law_turn"] ["_law_script"] (defScope (top 36)) := ⟨rfl, rfl, rfl, by decide +kernel, rfl, by decide +kernel, by decide +kernel⟩
def spLaw (K : PySem.W.Frag) : Sp := fun vs H Q _ => ∃ (a : Addr) (ns : List Int), vs = [.ref a] ∧ SqL K H a (ns.map V.int) ∧ ns.length ≤ 63 ∧ ∀ H', Q (.bl true) H'
def lwP (H : Hp) (D : Addr) (i : Nat) (H' : Hp) : Prop := Same H H' ∧ H' D = some (.lst ((List.replicate i true).map V.bl))
theorem ok_law (T : Tx mg) {f : Addr} {fd : FuncData} (F : FD K "law" (top 36) f fd) {f1 f2 : Addr} {fd1 fd2 : FuncData} (C1 : CalG P w K mg base CX0 9 "_law_right" ["_law_well_here"] spG f1 fd1)
    (C2 : Cal P w K mg base CX0 1 "_law_well" ["_law_script", "_law_turn"] (spWell K) f2 fd2) : Ga.FnG P w K mg base CX0 10 f fd ["_law_script"] (spLaw K) := by
  obtain ⟨g_law_right, k_law_right, b_law_right, F_law_right⟩ := C1
  obtain ⟨g_law_well, k_law_well, b_law_well, F_law_well⟩ := C2
  refine Ga.FnG.mk' F sc_law (fun vs H Q E h => ?_) (fun cdv A outer s' H vs Q E hG hr h => ?_)
  · obtain ⟨_, _, rfl, _⟩ := h
    rfl
  · obtain ⟨a, ns, rfl, ha, hn, k⟩ := h
    have nd := sc_law.nd
    refine ⟨_, (pss_one (ps_ret (pe_callB (cr_all rfl) (by rfl) T.b_all (by decide +kernel) (pa_cons (pe_lc (own := [("_law_turn", 1)]) rfl nd (pi_range1 rfl T.b_range (pa_cons (pe_callB (call_max2 rfl) (by rfl) T.b_max (by decide +kernel) (pa_cons pe_int (pa_cons (pe_callB (call_min2 rfl) (by rfl) T.b_min (by decide +kernel) (pa_cons (pe_callB call_len_seq (by rfl) T.b_len PySem.boot_len (pa_cons (pv 0) pa_nil)) (pa_cons pe_int pa_nil))) pa_nil))) pa_nil)) (blkOk_by (N := ["_law_script", "_law_turn"]) (sc := defScope (top 36)) (by decide +kernel)) (fun _ _ _ _ _ => (pg_name (i := 1) nd rfl (Or.inl rfl))) (fun _ _ _ _ _ => pts_nil) (fun _ _ _ _ _ => (Ga.pe_callG F_law_right hG (hr.mono (by decide)) rfl g_law_right k_law_right b_law_right .nil pass0 (pa_cons (pe_call F_law_well (hr.mono (by decide)) rfl g_law_well k_law_well b_law_well .nil pass0 (pa_cons (pv 0) (pa_cons (pv 1) pa_nil))) pa_nil)))) pa_nil)))), ?_⟩
    walk_at "rd"
    refine ⟨_, .inl ha, ?_⟩
    have en : ∃ n : Int, n = (if (if 3 < ((ns.map V.int).length : Int) then 3 else ((ns.map V.int).length : Int)) > 2 then (if 3 < ((ns.map V.int).length : Int) then 3 else ((ns.map V.int).length : Int)) else 2) ∧ 2 ≤ n ∧ n ≤ 3 := ⟨_, rfl, by split <;> omega, by split <;> split <;> omega⟩
    obtain ⟨n, e, n2, n3⟩ := en
    rw [← e]
    refine ⟨by omega, by omega, lc_r (lwP H) fun D hD => ⟨⟨same_new hD, upd_same⟩, ?_, ?_⟩⟩
    · rintro i H' hi ⟨hs, hL⟩
      unfold Lturn
      walk_at "rd"
      refine ⟨a, ns, _, rfl, hs.seq ha, hn, by omega, by omega, fun u H1 s1 u0 w1 => ⟨u, rfl, w1, fun H2 b2 w2 => ?_⟩⟩
      have s2 : Same H' H2 := fun b o e => b2 b o (ne_of_none e u0) (s1 b o e)
      refine ⟨_, s2 _ _ hL, ?_, fun b o e => ?_, ?_⟩
      · rw [List.length_map, List.length_replicate]
        refine Nat.lt_of_le_of_lt (show i ≤ 3 by omega) (by rw [sizeLine_eq]; decide)
      · rw [upd_ne (ne_of_none e hD)]
        exact s2 b o (hs b o e)
      · rw [upd_same, List.replicate_succ', List.map_append]; rfl
    · rintro H' ⟨hs, hL⟩
      refine ⟨D, _, rfl, SqL.of hL, ?_⟩
      rw [show (List.replicate n.toNat true).all id = true from by simp]
      exact k _
end
end K65

set_option Elab.async false
set_option linter.all false
set_option maxRecDepth 100000
set_option maxHeartbeats 0
namespace K65H
open PySem PySem.Spec PyProof.Rows L2 Rd Dt K65
def d0 : He.DefD := ⟨("InvalidNumber", some "__init__"), "__init__", "InvalidNumber.__init__", defArgs (inClass (top 3) 0), defBody (inClass (top 3) 0), defScope (inClass (top 3) 0), [], []⟩
def d1 : He.DefD := ⟨("is_whole", none), "is_whole", "is_whole", defArgs (top 6), defBody (top 6), defScope (top 6), [], []⟩
def d2 : He.DefD := ⟨("is_between", none), "is_between", "is_between", defArgs (top 7), defBody (top 7), defScope (top 7), [], []⟩
def d3 : He.DefD := ⟨("check_number", none), "check_number", "check_number", defArgs (top 10), defBody (top 10), defScope (top 10), [], []⟩
def d4 : He.DefD := ⟨("check_track", none), "check_track", "check_track", defArgs (top 11), defBody (top 11), defScope (top 11), [], []⟩
def d5 : He.DefD := ⟨("check_paces", none), "check_paces", "check_paces", defArgs (top 12), defBody (top 12), defScope (top 12), [], []⟩
def d6 : He.DefD := ⟨("stop_after", none), "stop_after", "stop_after", defArgs (top 13), defBody (top 13), defScope (top 13), [], []⟩
def d7 : He.DefD := ⟨("inverse", none), "inverse", "inverse", defArgs (top 14), defBody (top 14), defScope (top 14), [], []⟩
def d8 : He.DefD := ⟨("first_turn", none), "first_turn", "first_turn", defArgs (top 15), defBody (top 15), defScope (top 15), [], []⟩
def d9 : He.DefD := ⟨("stop_at", none), "stop_at", "stop_at", defArgs (top 16), defBody (top 16), defScope (top 16), [], []⟩
def d10 : He.DefD := ⟨("meet", none), "meet", "meet", defArgs (top 17), defBody (top 17), defScope (top 17), [], []⟩
def d11 : He.DefD := ⟨("meet_everywhere", none), "meet_everywhere", "meet_everywhere", defArgs (top 18), defBody (top 18), defScope (top 18), [], []⟩
def d12 : He.DefD := ⟨("meets_always", none), "meets_always", "meets_always", defArgs (top 19), defBody (top 19), defScope (top 19), [], []⟩
def d13 : He.DefD := ⟨("missed_track", none), "missed_track", "missed_track", defArgs (top 20), defBody (top 20), defScope (top 20), [], []⟩
def d14 : He.DefD := ⟨("_law_well", none), "_law_well", "_law_well", defArgs (top 22), defBody (top 22), defScope (top 22), [], []⟩
def d15 : He.DefD := ⟨("_law_take", none), "_law_take", "_law_take", defArgs (top 23), defBody (top 23), defScope (top 23), [], []⟩
def d16 : He.DefD := ⟨("_law_pick", none), "_law_pick", "_law_pick", defArgs (top 24), defBody (top 24), defScope (top 24), [], []⟩
def d17 : He.DefD := ⟨("_law_stop", none), "_law_stop", "_law_stop", defArgs (top 25), defBody (top 25), defScope (top 25), [], []⟩
def d18 : He.DefD := ⟨("_law_first_meeting", none), "_law_first_meeting", "_law_first_meeting", defArgs (top 26), defBody (top 26), defScope (top 26), [], []⟩
def d19 : He.DefD := ⟨("_law_great_number", none), "_law_great_number", "_law_great_number", defArgs (top 27), defBody (top 27), defScope (top 27), [], []⟩
def d20 : He.DefD := ⟨("_law_shared", none), "_law_shared", "_law_shared", defArgs (top 28), defBody (top 28), defScope (top 28), [], []⟩
def d21 : He.DefD := ⟨("_law_far_meeting", none), "_law_far_meeting", "_law_far_meeting", defArgs (top 29), defBody (top 29), defScope (top 29), [], []⟩
def d22 : He.DefD := ⟨("_law_error", none), "_law_error", "_law_error", defArgs (top 30), defBody (top 30), defScope (top 30), [], []⟩
def d23 : He.DefD := ⟨("_law_are_refused", none), "_law_are_refused", "_law_are_refused", defArgs (top 31), defBody (top 31), defScope (top 31), [], []⟩
def d24 : He.DefD := ⟨("_law_is_small_right", none), "_law_is_small_right", "_law_is_small_right", defArgs (top 32), defBody (top 32), defScope (top 32), [], []⟩
def d25 : He.DefD := ⟨("_law_is_missed_right", none), "_law_is_missed_right", "_law_is_missed_right", defArgs (top 33), defBody (top 33), defScope (top 33), [], []⟩
def d26 : He.DefD := ⟨("_law_is_great_right", none), "_law_is_great_right", "_law_is_great_right", defArgs (top 34), defBody (top 34), defScope (top 34), [], []⟩
def d27 : He.DefD := ⟨("_law_right", none), "_law_right", "_law_right", defArgs (top 35), defBody (top 35), defScope (top 35), [], []⟩
def d28 : He.DefD := ⟨("law", none), "law", "law", defArgs (top 36), defBody (top 36), defScope (top 36), [], []⟩
def fn : List He.DefD := [d0, d1, d2, d3, d4, d5, d6, d7, d8, d9, d10, d11, d12, d13, d14, d15, d16, d17, d18, d19, d20, d21, d22, d23, d24, d25, d26, d27, d28]
def fa : List He.Fa := [.glo "InvalidNumber", .glo "is_whole", .glo "is_between", .glo "check_number", .glo "check_track", .glo "check_paces", .glo "stop_after", .glo "inverse", .glo "first_turn", .glo "stop_at", .glo "meet", .glo "meet_everywhere", .glo "meets_always", .glo "missed_track", .glo "_law_well", .glo "_law_take", .glo "_law_pick", .glo "_law_stop", .glo "_law_first_meeting", .glo "_law_great_number", .glo "_law_shared", .glo "_law_far_meeting", .glo "_law_error", .glo "_law_are_refused", .glo "_law_is_small_right", .glo "_law_is_missed_right", .glo "_law_is_great_right", .glo "_law_right", .glo "law", .glo "ArrowError", .free "len", .free "int", .free "bool", .free "isinstance", .free "abs", .free "divmod", .free "range", .free "max", .free "min", .free "repr", .free "all", .free "list", .int "FAR" (10 ^ 30), .int "MOST_MISSED" (1000)]
def ex (K : PySem.W.Frag) : Bool := decide (PySem.W.nsIn K mainGlobals "gcd" = some (some (.builtin "math.gcd"))) && (Exx.erB K "InvalidNumber" "given" && decide (PySem.W.kitOne K (.ref (He.ga K "InvalidNumber")) (.ref (He.ga K "ArrowError")) = some true))
abbrev R : PySem.W.OpenRow := PySem.W.OpenLaw.row PySem.Challenge.rw_arrowcells_k65_walkers_step_by_step
abbrev hk : PySem.W.Hook := Ga.hookM 6 fa fn ex
def ob (s : PySem.W.SharedT) : Ga.AlM := Ga.obsM 6 fa fn ex (HandSHeadRun.getT s)
theorem ob_eq (s : PySem.W.SharedT) : ob s = hk.obs s.abs := Ga.obsM_eq (HandSHeadRun.getT_eq s)
theorem run (w : World) : HandSHeadRun.RunEqI R (PySem.W.view R.prog [0, 36]) hk ob 5000 ["ArrowError", "InvalidNumber", "FAR", "is_whole", "is_between", "MOST_MISSED", "check_number", "check_track", "check_paces", "stop_after", "inverse", "first_turn", "stop_at", "meet", "meet_everywhere", "meets_always", "missed_track", "_law_well", "_law_take", "_law_pick", "_law_stop", "_law_first_meeting", "_law_great_number", "_law_shared", "_law_far_meeting", "_law_error", "_law_are_refused", "_law_is_small_right", "_law_is_missed_right", "_law_is_great_right", "_law_right"] w := by
  unfold HandSHeadRun.RunEqI
  kernel_rfl
theorem facts {P : Program} {w : World} {K : PySem.W.Frag} {h : Heap} {mg : Str → Option Value} {f : Addr} (X : K.In h) (G : h.Ns mainGlobals mg) (hfa : mg ("law" : Str) = some (.ref f)) (c : He.SaysD fa fn K) (xx : ex K = true) :
    ∃ fd : FuncData, (∀ (s : Shared) (v : Value), BindsTo s fd ⟨[v], []⟩ [("_law_script", v)]) ∧ ∀ base : Heap, K.In base → base.Ns mainGlobals mg → Ga.FnG P w K mg base CX0 10 f fd ["_law_script"] (spLaw K) := by
  obtain ⟨fd_InvalidNumber___init__, F_InvalidNumber___init__⟩ := c.def_ 0 (d := d0) rfl
  obtain ⟨fd_is_whole, F_is_whole⟩ := c.def_ 1 (d := d1) rfl
  obtain ⟨fd_is_between, F_is_between⟩ := c.def_ 2 (d := d2) rfl
  obtain ⟨fd_check_number, F_check_number⟩ := c.def_ 3 (d := d3) rfl
  obtain ⟨fd_check_track, F_check_track⟩ := c.def_ 4 (d := d4) rfl
  obtain ⟨fd_check_paces, F_check_paces⟩ := c.def_ 5 (d := d5) rfl
  obtain ⟨fd_stop_after, F_stop_after⟩ := c.def_ 6 (d := d6) rfl
  obtain ⟨fd_inverse, F_inverse⟩ := c.def_ 7 (d := d7) rfl
  obtain ⟨fd_first_turn, F_first_turn⟩ := c.def_ 8 (d := d8) rfl
  obtain ⟨fd_stop_at, F_stop_at⟩ := c.def_ 9 (d := d9) rfl
  obtain ⟨fd_meet, F_meet⟩ := c.def_ 10 (d := d10) rfl
  obtain ⟨fd_meet_everywhere, F_meet_everywhere⟩ := c.def_ 11 (d := d11) rfl
  obtain ⟨fd_meets_always, F_meets_always⟩ := c.def_ 12 (d := d12) rfl
  obtain ⟨fd_missed_track, F_missed_track⟩ := c.def_ 13 (d := d13) rfl
  obtain ⟨fd__law_well, F__law_well⟩ := c.def_ 14 (d := d14) rfl
  obtain ⟨fd__law_take, F__law_take⟩ := c.def_ 15 (d := d15) rfl
  obtain ⟨fd__law_pick, F__law_pick⟩ := c.def_ 16 (d := d16) rfl
  obtain ⟨fd__law_stop, F__law_stop⟩ := c.def_ 17 (d := d17) rfl
  obtain ⟨fd__law_first_meeting, F__law_first_meeting⟩ := c.def_ 18 (d := d18) rfl
  obtain ⟨fd__law_great_number, F__law_great_number⟩ := c.def_ 19 (d := d19) rfl
  obtain ⟨fd__law_shared, F__law_shared⟩ := c.def_ 20 (d := d20) rfl
  obtain ⟨fd__law_far_meeting, F__law_far_meeting⟩ := c.def_ 21 (d := d21) rfl
  obtain ⟨fd__law_error, F__law_error⟩ := c.def_ 22 (d := d22) rfl
  obtain ⟨fd__law_are_refused, F__law_are_refused⟩ := c.def_ 23 (d := d23) rfl
  obtain ⟨fd__law_is_small_right, F__law_is_small_right⟩ := c.def_ 24 (d := d24) rfl
  obtain ⟨fd__law_is_missed_right, F__law_is_missed_right⟩ := c.def_ 25 (d := d25) rfl
  obtain ⟨fd__law_is_great_right, F__law_is_great_right⟩ := c.def_ 26 (d := d26) rfl
  obtain ⟨fd__law_right, F__law_right⟩ := c.def_ 27 (d := d27) rfl
  obtain ⟨fd_law, F_law⟩ := c.def_ 28 (d := d28) rfl
  have g_InvalidNumber := He.glo_ok X G (c.fact 0 (f := .glo "InvalidNumber") rfl)
  have g_is_whole := He.glo_ok X G (c.fact 1 (f := .glo "is_whole") rfl)
  have g_is_between := He.glo_ok X G (c.fact 2 (f := .glo "is_between") rfl)
  have g_check_number := He.glo_ok X G (c.fact 3 (f := .glo "check_number") rfl)
  have g_check_track := He.glo_ok X G (c.fact 4 (f := .glo "check_track") rfl)
  have g_check_paces := He.glo_ok X G (c.fact 5 (f := .glo "check_paces") rfl)
  have g_stop_after := He.glo_ok X G (c.fact 6 (f := .glo "stop_after") rfl)
  have g_inverse := He.glo_ok X G (c.fact 7 (f := .glo "inverse") rfl)
  have g_first_turn := He.glo_ok X G (c.fact 8 (f := .glo "first_turn") rfl)
  have g_stop_at := He.glo_ok X G (c.fact 9 (f := .glo "stop_at") rfl)
  have g_meet := He.glo_ok X G (c.fact 10 (f := .glo "meet") rfl)
  have g_meet_everywhere := He.glo_ok X G (c.fact 11 (f := .glo "meet_everywhere") rfl)
  have g_meets_always := He.glo_ok X G (c.fact 12 (f := .glo "meets_always") rfl)
  have g_missed_track := He.glo_ok X G (c.fact 13 (f := .glo "missed_track") rfl)
  have g__law_well := He.glo_ok X G (c.fact 14 (f := .glo "_law_well") rfl)
  have g__law_take := He.glo_ok X G (c.fact 15 (f := .glo "_law_take") rfl)
  have g__law_pick := He.glo_ok X G (c.fact 16 (f := .glo "_law_pick") rfl)
  have g__law_stop := He.glo_ok X G (c.fact 17 (f := .glo "_law_stop") rfl)
  have g__law_first_meeting := He.glo_ok X G (c.fact 18 (f := .glo "_law_first_meeting") rfl)
  have g__law_great_number := He.glo_ok X G (c.fact 19 (f := .glo "_law_great_number") rfl)
  have g__law_shared := He.glo_ok X G (c.fact 20 (f := .glo "_law_shared") rfl)
  have g__law_far_meeting := He.glo_ok X G (c.fact 21 (f := .glo "_law_far_meeting") rfl)
  have g__law_error := He.glo_ok X G (c.fact 22 (f := .glo "_law_error") rfl)
  have g__law_are_refused := He.glo_ok X G (c.fact 23 (f := .glo "_law_are_refused") rfl)
  have g__law_is_small_right := He.glo_ok X G (c.fact 24 (f := .glo "_law_is_small_right") rfl)
  have g__law_is_missed_right := He.glo_ok X G (c.fact 25 (f := .glo "_law_is_missed_right") rfl)
  have g__law_is_great_right := He.glo_ok X G (c.fact 26 (f := .glo "_law_is_great_right") rfl)
  have g__law_right := He.glo_ok X G (c.fact 27 (f := .glo "_law_right") rfl)
  have g_law := He.glo_ok X G (c.fact 28 (f := .glo "law") rfl)
  have g_ArrowError := He.glo_ok X G (c.fact 29 (f := .glo "ArrowError") rfl)
  have b_len := He.free_ok X G (c.fact 30 (f := .free "len") rfl)
  have b_int := He.free_ok X G (c.fact 31 (f := .free "int") rfl)
  have b_bool := He.free_ok X G (c.fact 32 (f := .free "bool") rfl)
  have b_isinstance := He.free_ok X G (c.fact 33 (f := .free "isinstance") rfl)
  have b_abs := He.free_ok X G (c.fact 34 (f := .free "abs") rfl)
  have b_divmod := He.free_ok X G (c.fact 35 (f := .free "divmod") rfl)
  have b_range := He.free_ok X G (c.fact 36 (f := .free "range") rfl)
  have b_max := He.free_ok X G (c.fact 37 (f := .free "max") rfl)
  have b_min := He.free_ok X G (c.fact 38 (f := .free "min") rfl)
  have b_repr := He.free_ok X G (c.fact 39 (f := .free "repr") rfl)
  have b_all := He.free_ok X G (c.fact 40 (f := .free "all") rfl)
  have b_list := He.free_ok X G (c.fact 41 (f := .free "list") rfl)
  have i_FAR := He.int_ok X G (c.fact 42 (f := .int "FAR" (10 ^ 30)) rfl)
  have i_MOST_MISSED := He.int_ok X G (c.fact 43 (f := .int "MOST_MISSED" (1000)) rfl)
  have k_InvalidNumber___init__ : Binds K fd_InvalidNumber___init__ ["self", "given"] [] := F_InvalidNumber___init__.bindsN fun _ _ _ _ _ _ us hl => match us, hl with | [_, _], _ => rfl
  have k_is_whole : Binds K fd_is_whole ["value"] [] := F_is_whole.bindsN fun _ _ _ _ _ _ us hl => match us, hl with | [_], _ => rfl
  have k_is_between : Binds K fd_is_between ["value", "low", "high"] [] := F_is_between.bindsN fun _ _ _ _ _ _ us hl => match us, hl with | [_, _, _], _ => rfl
  have k_check_number : Binds K fd_check_number ["value", "low", "high"] [] := F_check_number.bindsN fun _ _ _ _ _ _ us hl => match us, hl with | [_, _, _], _ => rfl
  have k_check_track : Binds K fd_check_track ["tail", "ring"] [] := F_check_track.bindsN fun _ _ _ _ _ _ us hl => match us, hl with | [_, _], _ => rfl
  have k_check_paces : Binds K fd_check_paces ["slow", "fast", "lead", "most"] [] := F_check_paces.bindsN fun _ _ _ _ _ _ us hl => match us, hl with | [_, _, _, _], _ => rfl
  have k_stop_after : Binds K fd_stop_after ["tail", "ring", "steps"] [] := F_stop_after.bindsN fun _ _ _ _ _ _ us hl => match us, hl with | [_, _, _], _ => rfl
  have k_inverse : Binds K fd_inverse ["number", "modulus"] [] := F_inverse.bindsN fun _ _ _ _ _ _ us hl => match us, hl with | [_, _], _ => rfl
  have k_first_turn : Binds K fd_first_turn ["tail", "ring", "slow", "gain", "lead"] [] := F_first_turn.bindsN fun _ _ _ _ _ _ us hl => match us, hl with | [_, _, _, _, _], _ => rfl
  have k_stop_at : Binds K fd_stop_at ["tail", "ring", "steps"] [] := F_stop_at.bindsN fun _ _ _ _ _ _ us hl => match us, hl with | [_, _, _], _ => rfl
  have w_stop_at : KW K fd_stop_at ["tail", "ring", "steps"] := kbn0 F_stop_at _ (fun l => l) (fun r => r) fun _ _ _ _ _ _ us hl => match us, hl with | [_, _, _], _ => rfl
  have k_meet : Binds K fd_meet ["tail", "ring", "slow", "fast", "lead"] [] := F_meet.bindsN fun _ _ _ _ _ _ us hl => match us, hl with | [_, _, _, _, _], _ => rfl
  have w_meet : KW K fd_meet ["tail", "ring", "slow", "fast", "lead"] := kbn0 F_meet _ (fun l => l) (fun r => r) fun _ _ _ _ _ _ us hl => match us, hl with | [_, _, _, _, _], _ => rfl
  have k_meet_everywhere : Binds K fd_meet_everywhere ["slow", "gain", "lead"] [] := F_meet_everywhere.bindsN fun _ _ _ _ _ _ us hl => match us, hl with | [_, _, _], _ => rfl
  have k_meets_always : Binds K fd_meets_always ["slow", "fast", "lead"] [] := F_meets_always.bindsN fun _ _ _ _ _ _ us hl => match us, hl with | [_, _, _], _ => rfl
  have w_meets_always : KW K fd_meets_always ["slow", "fast", "lead"] := kbn0 F_meets_always _ (fun l => l) (fun r => r) fun _ _ _ _ _ _ us hl => match us, hl with | [_, _, _], _ => rfl
  have k_missed_track : Binds K fd_missed_track ["slow", "fast", "lead"] [] := F_missed_track.bindsN fun _ _ _ _ _ _ us hl => match us, hl with | [_, _, _], _ => rfl
  have w_missed_track : KW K fd_missed_track ["slow", "fast", "lead"] := kbn0 F_missed_track _ (fun l => l) (fun r => r) fun _ _ _ _ _ _ us hl => match us, hl with | [_, _, _], _ => rfl
  have k__law_well : Binds K fd__law_well ["_law_script", "_law_turn"] [] := F__law_well.bindsN fun _ _ _ _ _ _ us hl => match us, hl with | [_, _], _ => rfl
  have k__law_take : Binds K fd__law_take ["_law_well_here", "_law_limit"] [] := F__law_take.bindsN fun _ _ _ _ _ _ us hl => match us, hl with | [_, _], _ => rfl
  have k__law_pick : Binds K fd__law_pick ["_law_well_here", "_law_some"] [] := F__law_pick.bindsN fun _ _ _ _ _ _ us hl => match us, hl with | [_, _], _ => rfl
  have k__law_stop : Binds K fd__law_stop ["_law_tail_here", "_law_round_here", "_law_paces"] [] := F__law_stop.bindsN fun _ _ _ _ _ _ us hl => match us, hl with | [_, _, _], _ => rfl
  have k__law_first_meeting : Binds K fd__law_first_meeting ["_law_tail_here", "_law_round_here", "_law_calm", "_law_quick", "_law_gap"] [] := F__law_first_meeting.bindsN fun _ _ _ _ _ _ us hl => match us, hl with | [_, _, _, _, _], _ => rfl
  have k__law_great_number : Binds K fd__law_great_number ["_law_well_here"] [] := F__law_great_number.bindsN fun _ _ _ _ _ _ us hl => match us, hl with | [_], _ => rfl
  have k__law_shared : Binds K fd__law_shared ["_law_first", "_law_second"] [] := F__law_shared.bindsN fun _ _ _ _ _ _ us hl => match us, hl with | [_, _], _ => rfl
  have k__law_far_meeting : Binds K fd__law_far_meeting ["_law_tail_here", "_law_round_here", "_law_calm", "_law_quick", "_law_gap"] [] := F__law_far_meeting.bindsN fun _ _ _ _ _ _ us hl => match us, hl with | [_, _, _, _, _], _ => rfl
  have k__law_error : Binds K fd__law_error ["_law_branch", "_law_some"] [] := F__law_error.bindsN fun _ _ _ _ _ _ us hl => match us, hl with | [_, _], _ => rfl
  have k__law_are_refused : Binds K fd__law_are_refused ["_law_well_here"] [] := F__law_are_refused.bindsN fun _ _ _ _ _ _ us hl => match us, hl with | [_], _ => rfl
  have k__law_is_small_right : Binds K fd__law_is_small_right ["_law_well_here"] [] := F__law_is_small_right.bindsN fun _ _ _ _ _ _ us hl => match us, hl with | [_], _ => rfl
  have k__law_is_missed_right : Binds K fd__law_is_missed_right ["_law_well_here"] [] := F__law_is_missed_right.bindsN fun _ _ _ _ _ _ us hl => match us, hl with | [_], _ => rfl
  have k__law_is_great_right : Binds K fd__law_is_great_right ["_law_well_here"] [] := F__law_is_great_right.bindsN fun _ _ _ _ _ _ us hl => match us, hl with | [_], _ => rfl
  have k__law_right : Binds K fd__law_right ["_law_well_here"] [] := F__law_right.bindsN fun _ _ _ _ _ _ us hl => match us, hl with | [_], _ => rfl
  have k_law : Binds K fd_law ["_law_script"] [] := F_law.bindsN fun _ _ _ _ _ _ us hl => match us, hl with | [_], _ => rfl
  have e_law := hfa.symm.trans g_law
  cases e_law
  have bA := FunD.bindsA (ps := ["_law_script"]) F_law fun _ _ _ _ _ _ us hl => match us, hl with | [_], _ => rfl
  simp only [ex, Bool.and_eq_true, decide_eq_true_eq] at xx
  obtain ⟨x1, x2, x3⟩ := xx
  have T : Tx mg := ⟨b_len, b_int, b_bool, b_isinstance, b_abs, b_divmod, b_range, b_max, b_min, b_repr, b_all, b_list, PySem.W.mg_of X G x1, i_FAR, i_MOST_MISSED⟩
  obtain ⟨e1, e2, e3, e4, e5, e6, e7⟩ := Exx.erB_ok x2
  have Rr : ErN K mg (He.ga K "InvalidNumber") (He.ma K (He.ga K "InvalidNumber") "__init__") fd_InvalidNumber___init__ := ⟨g_InvalidNumber, e1, e2, e3, e4, by decide, by decide, ⟨_, _, _, _, _, _, _, F_InvalidNumber___init__, ⟨rfl, rfl, rfl, by decide +kernel, rfl, by decide +kernel, by decide +kernel⟩⟩, k_InvalidNumber___init__⟩
  have C_is_whole := fun (base : Heap) => (⟨g_is_whole, F_is_whole.kp, k_is_whole, ok_whole T F_is_whole⟩ : Cal P w K mg base CX0 1 "is_whole" _ spWhole _ _)
  have C_is_between := fun (base : Heap) => (⟨g_is_between, F_is_between.kp, k_is_between, ok_between F_is_between (C_is_whole base)⟩ : Cal P w K mg base CX0 2 "is_between" _ spBetween _ _)
  have C_check_number := fun (base : Heap) => (⟨g_check_number, F_check_number.kp, k_check_number, ok_check Rr F_check_number (C_is_between base)⟩ : Cal P w K mg base (L2.CX P w) 4 "check_number" _ (spCheck (He.ga K "InvalidNumber")) _ _)
  have C_check_track := fun (base : Heap) => (⟨g_check_track, F_check_track.kp, k_check_track, ok_track T F_check_track (C_check_number base)⟩ : Cal P w K mg base (L2.CX P w) 5 "check_track" _ (spTrack (He.ga K "InvalidNumber")) _ _)
  have C_check_paces := fun (base : Heap) => (⟨g_check_paces, F_check_paces.kp, k_check_paces, ok_paces F_check_paces (C_check_number base)⟩ : Cal P w K mg base (L2.CX P w) 5 "check_paces" _ (spPaces (He.ga K "InvalidNumber")) _ _)
  have C_stop_after := fun (base : Heap) => (⟨g_stop_after, F_stop_after.kp, k_stop_after, ok_stop_after F_stop_after⟩ : Cal P w K mg base CX0 1 "stop_after" _ spStop _ _)
  have C_inverse := fun (base : Heap) => (⟨g_inverse, F_inverse.kp, k_inverse, ok_inverse F_inverse⟩ : Cal P w K mg base CX0 1 "inverse" _ spInv _ _)
  have C_first_turn := fun (base : Heap) => (⟨g_first_turn, F_first_turn.kp, k_first_turn, ok_first T F_first_turn (C_inverse base)⟩ : Cal P w K mg base CX0 2 "first_turn" _ spFirst _ _)
  have C_stop_at := fun (base : Heap) => (⟨g_stop_at, F_stop_at.kp, k_stop_at, ok_stop_at T F_stop_at (C_check_number base) (C_check_track base) (C_stop_after base)⟩ : Cal P w K mg base (L2.CX P w) 6 "stop_at" _ (spStopAt (He.ga K "InvalidNumber")) _ _)
  have C_meet := fun (base : Heap) => (⟨g_meet, F_meet.kp, k_meet, ok_meet T F_meet (C_check_paces base) (C_check_track base) (C_first_turn base)⟩ : Cal P w K mg base (L2.CX P w) 6 "meet" _ (spMeet (He.ga K "InvalidNumber")) _ _)
  have C_meet_everywhere := fun (base : Heap) => (⟨g_meet_everywhere, F_meet_everywhere.kp, k_meet_everywhere, ok_every F_meet_everywhere⟩ : Cal P w K mg base CX0 1 "meet_everywhere" _ spEvery _ _)
  have C_meets_always := fun (base : Heap) => (⟨g_meets_always, F_meets_always.kp, k_meets_always, ok_always T F_meets_always (C_check_paces base) (C_meet_everywhere base)⟩ : Cal P w K mg base (L2.CX P w) 6 "meets_always" _ (spAlways (He.ga K "InvalidNumber")) _ _)
  have C_missed_track := fun (base : Heap) => (⟨g_missed_track, F_missed_track.kp, k_missed_track, ok_missed T F_missed_track (C_check_paces base) (C_meet_everywhere base)⟩ : Cal P w K mg base (L2.CX P w) 6 "missed_track" _ (spMissed (He.ga K "InvalidNumber")) _ _)
  have C__law_take := fun (base : Heap) => (⟨g__law_take, F__law_take.kp, k__law_take, ok_take T F__law_take⟩ : Cal P w K mg base CX0 1 "_law_take" _ spTake _ _)
  have C__law_pick := fun (base : Heap) => (⟨g__law_pick, F__law_pick.kp, k__law_pick, ok_pick T F__law_pick (C__law_take base)⟩ : Cal P w K mg base CX0 2 "_law_pick" _ spPick _ _)
  have C__law_stop := fun (base : Heap) => (⟨g__law_stop, F__law_stop.kp, k__law_stop, ok_stop T F__law_stop⟩ : Cal P w K mg base CX0 1 "_law_stop" _ spStop _ _)
  have C__law_well := fun (base : Heap) => (⟨g__law_well, F__law_well.kp, k__law_well, ok_well T F__law_well⟩ : Cal P w K mg base CX0 1 "_law_well" _ (spWell K) _ _)
  have C__law_first_meeting := fun (base : Heap) => (⟨g__law_first_meeting, F__law_first_meeting.kp, k__law_first_meeting, ok_fm T F__law_first_meeting (C__law_stop base)⟩ : Cal P w K mg base CX0 2 "_law_first_meeting" _ spFM _ _)
  have C__law_great_number := fun (base : Heap) => (⟨g__law_great_number, F__law_great_number.kp, k__law_great_number, ok_great T F__law_great_number (C__law_take base)⟩ : Cal P w K mg base CX0 2 "_law_great_number" _ spGreat _ _)
  have C__law_shared := fun (base : Heap) => (⟨g__law_shared, F__law_shared.kp, k__law_shared, ok_shared F__law_shared⟩ : Cal P w K mg base CX0 1 "_law_shared" _ spShared _ _)
  have C__law_far_meeting := fun (base : Heap) => (⟨g__law_far_meeting, F__law_far_meeting.kp, k__law_far_meeting, ok_far T F__law_far_meeting (C__law_shared base)⟩ : Cal P w K mg base CX0 2 "_law_far_meeting" _ spFar _ _)
  have C__law_error := fun (base : Heap) => (⟨g__law_error, F__law_error.kp, k__law_error, ok_err T Rr e5 e6 e7 g_ArrowError x3 F__law_error (C_stop_at base) (C_meet base) (C_meets_always base) (C_missed_track base)⟩ : Cal P w K mg base CX0 7 "_law_error" _ spErr _ _)
  have C__law_is_small_right := fun (base : Heap) => (⟨g__law_is_small_right, F__law_is_small_right.kp, k__law_is_small_right, ok_small (C := He.ga K "InvalidNumber") T F__law_is_small_right (C_stop_at base) w_stop_at (C_meet base) w_meet (C__law_first_meeting base) (C__law_take base)⟩ : CalG P w K mg base CX0 7 "_law_is_small_right" _ spG _ _)
  have C__law_is_great_right := fun (base : Heap) => (⟨g__law_is_great_right, F__law_is_great_right.kp, k__law_is_great_right, ok_gr (C := He.ga K "InvalidNumber") T F__law_is_great_right (C_stop_at base) (C_meet base) (C_meets_always base) (C__law_great_number base) (C__law_far_meeting base) (C__law_stop base)⟩ : CalG P w K mg base CX0 7 "_law_is_great_right" _ spG _ _)
  have C__law_is_missed_right := fun (base : Heap) => (⟨g__law_is_missed_right, F__law_is_missed_right.kp, k__law_is_missed_right, ok_mr (C := He.ga K "InvalidNumber") T F__law_is_missed_right (C_missed_track base) w_missed_track (C_meets_always base) w_meets_always (C__law_first_meeting base) (C__law_take base)⟩ : CalG P w K mg base CX0 7 "_law_is_missed_right" _ spG _ _)
  have C__law_are_refused := fun (base : Heap) => (⟨g__law_are_refused, F__law_are_refused.kp, k__law_are_refused, ok_ref (C := He.ga K "InvalidNumber") T F__law_are_refused (C__law_error base) (C__law_pick base) (C__law_take base)⟩ : CalG P w K mg base CX0 8 "_law_are_refused" _ spG _ _)
  have C__law_right := fun (base : Heap) => (⟨g__law_right, F__law_right.kp, k__law_right, ok_right T F__law_right (C__law_is_small_right base) (C__law_is_missed_right base) (C__law_is_great_right base) (C__law_are_refused base)⟩ : CalG P w K mg base CX0 9 "_law_right" _ spG _ _)
  exact ⟨fd_law, fun s v => bA s [v] rfl, fun base _ _ => ok_law T F_law (C__law_right base) (C__law_well base)⟩
end K65H
open PySem PySem.W PySem.Calls PyProof.Rows
theorem PySem.Challenge.cw_arrowcells_k65_walkers_step_by_step_holds : PySem.Challenge.rw_arrowcells_k65_walkers_step_by_step.Holds := by
  w_on; o_law
  refine HandSHeadRun.head_imp (r := OpenLaw.row PySem.Challenge.rw_arrowcells_k65_walkers_step_by_step) (q := view (OpenLaw.row PySem.Challenge.rw_arrowcells_k65_walkers_step_by_step).prog [0, 36]) (H := K65H.hk) (ob := K65H.ob) (M := 5000) (loose := ["ArrowError", "InvalidNumber", "FAR", "is_whole", "is_between", "MOST_MISSED", "check_number", "check_track", "check_paces", "stop_after", "inverse", "first_turn", "stop_at", "meet", "meet_everywhere", "meets_always", "missed_track", "_law_well", "_law_take", "_law_pick", "_law_stop", "_law_first_meeting", "_law_great_number", "_law_shared", "_law_far_meeting", "_law_error", "_law_are_refused", "_law_is_small_right", "_law_is_missed_right", "_law_is_great_right", "_law_right"]) (d := HandSHeadRun.topDef (OpenLaw.row PySem.Challenge.rw_arrowcells_k65_walkers_step_by_step).prog 36) (kwd := []) K65H.ob_eq
    K65H.run (by kernel_rfl) (by kernel_rfl) (by kernel_rfl) (by rfl) (by first | assumption | decide +kernel) (by decide +kernel) ⟨rfl, rfl, rfl, rfl, rfl, by decide +kernel⟩ ?hw ?hc
  case hw => w_witness2
  case hc =>
    refine Ga.walk_G (l := PySem.Challenge.rw_arrowcells_k65_walkers_step_by_step) (n := 63) (k := 10) (x := "_law_script") (CX := fun _ => L2.CX0) rfl (by decide) (by kernel_rfl) ⟨rfl, by decide, by decide⟩ ?F (fun _ _ _ _ _ z => z)
    intro w mg fa h Y G hmg0
    obtain ⟨K, KX, c, cx⟩ := Y
    have hmg : mg ("law" : PySem.Str) = some (.ref fa) := by
      have e : (HandSHeadRun.topDef (OpenLaw.row PySem.Challenge.rw_arrowcells_k65_walkers_step_by_step).prog 36).name = ("law" : PySem.Str) := by kernel_rfl
      rw [← e]
      exact hmg0
    obtain ⟨fd, hb, hF⟩ := K65H.facts (P := (PySem.Challenge.rw_arrowcells_k65_walkers_step_by_step).prog) (w := w) KX G hmg c cx
    exact ⟨K, fd, K65.spLaw K, KX, hb, fun H a ns hl _ hS => ⟨a, ns, rfl, hS, hl, fun _ => rfl⟩, hF⟩

