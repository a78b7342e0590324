import PyProof.Rows.All
import Wide.All
import OpenK.AllK
import Wide.FinOn
import HandS.ForMost
import HandS.Defaults
import HandS.WordsExc
import HandS.HeadHook1
import HandS.HeadHook2
import HandS.Style
import HandS.Wide
import HandS.WideBits
import HandS.Gcd
import HandS.IsInst
import HandS.Exc
import HandS.ExcOwn
import HandS.ExcInit
import HandS.ExcField
import HandS.TryOnly
import HandS.FStr
import HandS.RaiseMore
import PyProof.ReprRoads
import HandS.NoneIn
import PyProof.ReprLen
import PyProof.StrLawsRepr
import HandS.ExcIs
import KE.KExcIs
import HandS.TupAny
import PyProof.EqAt
import PyProof.P3In
import PyProof.NeKinds
import PyProof.ListStr
import HandS.ReplaceLit
import PyProof.StrBlock2
import HandS.Walk
import HandS.Text
import PySem.Challenge.RW_arrowcells_k38_what_stands_in_a_program
import HandS.Deep
import HandS.More
import KE.KStateDown
import Lean
import HandS.Head0
import HandS.Head1
import HandS.Head2
import HandS.Head3
import HandS.HeadEnd
set_option Elab.async false
set_option linter.all false
set_option maxRecDepth 100000
set_option maxHeartbeats 2000000
namespace Ga
open PySem PySem.Spec PyProof.Rows L2
/-- a def's promise where no repr is under way -/
structure FnG (P : Program) (w : World) (K : PySem.W.Frag) (mg : Str → Option Value) (base : Heap) (CX : CXT) (k : Nat) (f : Addr) (fd : FuncData) (ps : List Str) (sp : Sp) : Prop where
  cnt : ∀ vs H Q E, sp vs H Q E → vs.length = ps.length
  go : ∀ (A : Around) (ev : List Env) (s : Shared) (H : Hp) (ar : Args) (us : List Value) (vs : List V) (Q : VK) (E : XK),
    A.guards = some [] → Room k A → Env0 P w K mg base A ev s H → BindsTo s fd ar (ps.zip us) → Vals vs us →
    sp vs H Q E → codeAny (model P w) A (.call (.ref f) ar) (CR CX ev P w H s Q E) s
section
variable {P : Program} {w : World} {K : PySem.W.Frag} {mg : Str → Option Value} {base : Heap} {CX : CXT} {k : Nat} {f : Addr} {fd : FuncData} {ps : List Str} {sp : Sp}
theorem FnG.of (F : FnOk P w K mg base CX k f fd ps sp) : FnG P w K mg base CX k f fd ps sp :=
  ⟨F.len, fun A ev s H ar us vs Q E _ => F.run A ev s H ar us vs Q E⟩
theorem FnG.mk' {params : Arguments} {body : List Stmt} {sc : Scope} {x qual : Str} {dvs : List V} {kws : List (Str × V)} {N : List Str}
    (F : FunD K x qual params body sc dvs kws f fd) (S : FnScope N ps sc) (cnt : ∀ vs H Q E, sp vs H Q E → vs.length = ps.length)
    (hb : ∀ (cdv : Value) (A : Around) (ev : List Env) (s : Shared) (H : Hp) (vs : List V) (Q : VK) (E : XK), A.guards = some [] →
      Room k (A.deeper (envOfC qual sc s.heap.objs.size f cdv)) → sp vs H Q E →
      ∃ t, PSs (cxOf CX P w K mg base N qual sc f cdv A ev s H E) body t ∧ t { nx := fun _ H' => Q .non H', rt := Q } (start N vs) H) :
    FnG P w K mg base CX (k + 1) f fd ps sp := by
  obtain ⟨oc, od, dV, kV, doc, pm, an, cdv, ct, sl, e, lk, hcd, _, _⟩ := F.ex
  subst e
  refine ⟨cnt, ?_⟩
  intro A ev s H ar us vs Q E hg hr e0 hbi rv hsp
  have hk : K.In s.heap := e0.mod.kin.keeps (fun b o q => (e0.bs b o q).1)
  have hl : s.heap.NoLimit := e0.mod.nolimit.keeps (fun b o q => (e0.bs b o q).1)
  refine codeAny_call_function hr.depth (hk _ _ lk) rfl S.co S.gen rfl
    (PySem.W.codeRec_of hk hcd) (hbi _ _ _ _ ?_)
  refine wpAny_newFunctionEnv_cells S.kind ?_ ?_
  · rintro ⟨n, v⟩ hy
    have hp := S.par n (List.of_mem_zip hy).1
    cases hp with
    | inl q => exact .inl q
    | inr q => exact .inr ⟨q, PySem.W.cellsFrom_some _ _ _ (.inl q)⟩
  intro env he s1 x
  subst he
  refine ⟨hl.keeps x.toInCall.keep, codeAny_func ?_⟩
  obtain ⟨t, ht, hq⟩ := hb cdv A ev s H vs Q E hg (hr.deeper _) hsp
  have I := inv_start (CX := CX) (E := E) S hr.hd e0 (cnt _ _ _ _ hsp) rv x
  refine wpAny_mono (ht.run [] s1 _ H _ I hq) ?_ (fun _ _ z => z)
  intro fl s' hs
  cases fl with
  | brk => obtain ⟨_, _, _, q⟩ := hs; exact q.elim
  | cont => obtain ⟨_, _, _, q⟩ := hs; exact q.elim
  | next =>
    obtain ⟨_, H', J, q⟩ := hs
    exact ⟨.non, H', J.os, J.bare, J.base, J.hok, rfl, q⟩
  | ret u =>
    obtain ⟨v, _, H', J, r, q⟩ := hs
    exact ⟨v, H', J.os, J.bare, J.base, J.hok, r, q⟩
end
section
variable {X : Cx} {CX : CXT} {k : Nat} {f : Addr} {fd : FuncData} {ps : List Str} {sp : Sp} {E : XK} {x : Str} {p pos : Pos} {e : Expr} {es : List Expr} {t : TA} {ds : List Value} {dvs : List V}
theorem run_fnG {pins : List (Addr × Obj)} {σ : L2.St} {H : Hp} {s : Shared} {Q : VK} {us : List Value} {vs : List V} (F : FnG X.prog X.w X.K X.mg X.base CX k f fd ps sp) (hG : X.A.guards = some []) (hr : Room k X.A)
    (hb : Binds X.K fd ps ds) (hd : Vals dvs ds) (hx : Passes CX X E) (I : Inv X pins σ H s) (r : Vals vs us) (h : sp (vs ++ dvs) H Q E) : wpAny (model X.prog X.w) X.A (call (.ref f) us) (EP X pins σ Q) X.xe s := by
  have r2 := Vals.append r hd
  refine wpAny_call (codeAny_mono (F.go X.A X.stack s H ⟨us, []⟩ (us ++ ds) (vs ++ dvs) Q E hG hr I.env0
    (hb s us I.kIn (r2.length.symm.trans (F.cnt _ _ _ _ h))) r2 h) ?_)
  intro res s' hq
  cases res with
  | error er => exact hx pins σ H s er s' I hq
  | ok fl =>
    cases fl <;> first
      | exact I.after hq
      | exact hq.elim
theorem pe_callG (F : FnG X.prog X.w X.K X.mg X.base CX k f fd ps sp) (hG : X.A.guards = some []) (hr : Room k X.A) (hg : Gl X x) (hm : X.mg x = some (.ref f))
    (hk : PySem.W.keepIn X.K (.ref f) = true) (hb : Binds X.K fd ps ds) (hd : Vals dvs ds) (hx : Passes CX X E) (ha : PA X (e :: es) t)
    (hdb : (x == ("__debug__" : Str)) = false := by decide)
    (he : starEach (e :: es) X.env = (false, eval e X.env) :: starEach es X.env := by rfl)
    (hpl : (backTo pos (starEach es X.env)).any (·.1) = false := by rfl) : PE X (.Call (.Name x p) (e :: es) [] pos) (tCall sp dvs E t) := by
  constructor
  intro pins s σ H Q I h
  refine wpAny_Call_Name_kw (ld_glob I hg hm ?_ hdb)
  refine PySem.W.callWith_K (h₀ := X.base) I.ok.mod.kin hk ?_ he hpl
  refine thn (ha.run pos pins s σ H _ I h) ?_
  rintro us s1 ⟨vs, H1, I1, r, q⟩
  exact ⟨I1.kIn, run_fnG F hG hr hb hd hx I1 r q⟩
end
/-! ### repr of data -/
def dpt : PyData → Nat := PyData.depth
def rRepr (K : PySem.W.Frag) : List V → Hp → VK → Prop := fun xs H Q => ∃ (x : V) (d : PyData), xs = [x] ∧ Dp K H x d ∧ d.showable = true ∧ d.hasDict = false ∧ d.depth ≤ 50 ∧ d.shown.length ≤ sizeLine ∧ (∀ i, d = .int i → i.natAbs.log2 < 1920) ∧ Q (.str d.shown) H
theorem call_repr {X : Cx} {k : Nat} (hG : X.A.guards = some []) (hr : Room k X.A) : CallR X (.builtin "repr") (rRepr X.K) := by
  intro pins s σ H xs us Q I rv h
  obtain ⟨x, d, rfl, hd, hs, hn, hdp, hz, hi, q⟩ := h
  cases rv with
  | cons rx rn =>
    cases rn
    have fin : ∀ (tk : Nat) (u : Tok), EP X pins σ Q (.str d.shown u) { s with toks := tk } := fun tk u => ⟨.str d.shown, H, I.tok _, ⟨u, rfl⟩, q⟩
    obtain ⟨as, rd⟩ := Dp.reads I d x _ hd rx
    have hu := hr.units
    cases hd with
    | non => cases rx; exact PySem.P.repr_of_none (fin _ _)
    | bl b => cases rx; cases b <;> exact PySem.P.repr_of_bool (fin _ _)
    | int i => obtain ⟨t, rfl⟩ := rx; exact PySem.P.repr_of_int (hi i rfl) (fin _ _)
    | str y => obtain ⟨t, rfl⟩ := rx; exact PySem.P.repr_of_str (fin _ _) hz
    | lst ha hb =>
      cases rx
      refine repr_of_reads' rd hs (fun z => ?_) hG (by omega) (fun _ _ z => z) (fun h' u tk hk => ?_) hz
      · rw [hn] at z; cases z
      · exact ⟨.str _, H, I.kept (t' := tk) hk, ⟨u, rfl⟩, q⟩
    | tup ha hb =>
      cases rx
      refine repr_of_reads' rd hs (fun z => ?_) hG (by omega) (fun _ _ z => z) (fun h' u tk hk => ?_) hz
      · rw [hn] at z; cases z
      · exact ⟨.str _, H, I.kept (t' := tk) hk, ⟨u, rfl⟩, q⟩
/-! ### the law's end -/
theorem end_G {P : Program} {w : World} {K : PySem.W.Frag} {mg mb : Str → Option Value} {CX : CXT} {k : Nat} {fa a : Addr} {fd : FuncData} {x : Str} {sp : Sp} {s1 : Shared} {vs : List Value} {ns : List Int}
    (KX : K.In s1.heap) (hns : s1.heap.Ns mainGlobals mg) (hbn : s1.heap.Ns builtinsNs mb) (hbb : ∀ x : Str, x ≠ "__name__" → mb x = bootBuiltins x) (hlim : s1.heap.NoLimit) (hg : s1.gens = #[])
    (ha : s1.heap.get? a = some { cls := .type "list", data := .seq vs.toArray }) (hi : IntsAre vs ns) (hl : ns.length ≤ sizeLine) (hr : Room k callerA)
    (F : ∀ base : Heap, K.In base → base.Ns mainGlobals mg → FnG P w K mg base CX k fa fd [x] sp) (hbind : ∀ (s : Shared) (u : Value), BindsTo s fd ⟨[u], []⟩ [(x, u)])
    (hsp : ∀ H : Hp, Only H → SqL K H a (ns.map V.int) → sp [.ref a] H (fun v _ => v = .bl true) fun _ _ _ => False)
    (hCX : ∀ H e s', CX [] H s1 (fun _ _ _ => False) e s' → False) :
    codeAny (model P w) callerA (.call (.ref fa) ⟨[.ref a], []⟩)
      (fun r s' => r = .ok (.ret (.bool true)) ∧ OldK s1.heap s'.heap ∧ s'.os = s1.os ∧ AllBare s'.gens) s1 := by
  let ob : Obj := { cls := .type "list", data := .seq vs.toArray }
  have rv : Vals (ns.map V.int) vs := vals_ints hi
  have main : ∀ H : Hp, (∀ b, H b = none ∨ (b = a ∧ K.lookup a = none ∧ H b = some (.frz ob (.lst (ns.map V.int))))) → SqL K H a (ns.map V.int) →
      codeAny (model P w) callerA (.call (.ref fa) ⟨[.ref a], []⟩)
        (fun r s' => r = .ok (.ret (.bool true)) ∧ OldK s1.heap s'.heap ∧ s'.os = s1.os ∧ AllBare s'.gens) s1 := by
    intro H hH hS
    have hok : HOk P w H s1.heap := by
      intro b u e
      rcases hH b with z | ⟨rfl, _, z⟩
      · rw [e] at z; cases z
      · rw [e] at z; cases z
        exact ⟨ha, by rw [List.length_map]; exact hl, vs, _, rv, ha⟩
    have nsH : ∀ {b : Addr} {m : Str → Option Value}, s1.heap.Ns b m → (hidT s1.heap H).Ns b m := by
      rintro b m ⟨o, es, ep, e, d, r⟩
      refine ⟨o, es, ep, hidT_get e ?_, d, r⟩
      rcases hH b with z | ⟨rfl, _, z⟩
      · exact z
      · rw [ha] at e; cases e; cases (show Data.seq vs.toArray _ = Data.dict es ep from d)
    have kB : K.In (hidT s1.heap H) := by
      intro b o e
      refine hidT_get (KX b o e) ?_
      rcases hH b with z | ⟨rfl, n, z⟩
      · exact z
      · rw [n] at e; cases e
    obtain ⟨mc, l1, l2⟩ := hlim
    have e0 : Env0 P w K mg (hidT s1.heap H) callerA [] s1 H :=
      ⟨rfl, ⟨kB, nsH hns, ⟨mb, nsH hbn, hbb⟩, ⟨mc, nsH l1, l2⟩⟩, fun b o e => of_hidT e, by rw [hidT_size]; exact Nat.le_refl _, trivial, fun b hb => (nomatch hb), hok, .of_eq hg⟩
    have hO : Only H := by
      intro b
      rcases hH b with z | ⟨_, _, z⟩
      · exact .inl z
      · exact .inr ⟨_, _, z⟩
    refine codeAny_mono ((F _ kB (nsH hns)).go callerA [] s1 H ⟨[.ref a], []⟩ [.ref a] [.ref a] _ _ rfl hr e0 (hbind s1 (.ref a)) (.cons rfl .nil) (hsp H hO hS)) ?_
    intro r s' h
    match r, h with
    | .error e, h => exact (hCX H e s' h).elim
    | .ok (.ret u), h =>
      obtain ⟨v, H', os, bare, un, hok', r', q⟩ := h
      subst q
      cases r'
      refine ⟨rfl, OldK.of_keep ?_, os, bare⟩
      intro b o e
      rcases hH b with z | ⟨rfl, _, z⟩
      · exact un.keep b o e z (fun hm => nomatch hm) (fun hm => nomatch hm)
      · have z2 := un.frzs _ _ _ z
        have y := (hok' _ _ z2).1
        rw [ha] at e; cases e
        exact y
    | .ok .next, h => exact h.elim
    | .ok .brk, h => exact h.elim
    | .ok .cont, h => exact h.elim
  cases hk : K.lookup a with
  | some o =>
    have e := KX a o hk
    rw [ha] at e
    cases e
    exact main (fun _ => none) (fun _ => .inl rfl) (.inr ⟨_, vs.toArray, _, hk, rfl, rfl, rfl, by rw [List.size_toArray, hi.length]; exact hl, rv⟩)
  | none =>
    refine main (fun b => if b = a then some (.frz ob (.lst (ns.map V.int))) else none) (fun b => ?_) (.inl (.inr ⟨ob, if_pos rfl⟩))
    by_cases hb : b = a
    · exact .inr ⟨hb, hk, if_pos hb⟩
    · exact .inl (if_neg hb)
theorem walk_G {l : PySem.W.OpenLaw} {n k : Nat} {q : Program} {loose : List Str} {XP : (Str → Option Value) → Heap → Prop} {YP : World → Heap → Prop} {d : DefRec} {CX : World → CXT} {x : Str}
    (hn : l.most = some n) (hn2 : n ≤ sizeLine) (hdf : d.params.defaults = []) (hr : Room k callerA)
    (F : ∀ (w : World) (mg : Str → Option Value) (fa : Addr) (h : Heap), YP w h → h.Ns mainGlobals mg → mg d.name = some (.ref fa) →
      ∃ (K : PySem.W.Frag) (fd : FuncData) (sp : Sp), K.In h ∧ (∀ (s : Shared) (u : Value), BindsTo s fd ⟨[u], []⟩ [(x, u)]) ∧
        (∀ (H : Hp) (a : Addr) (ns : List Int), ns.length ≤ n → Only H → SqL K H a (ns.map V.int) → sp [.ref a] H (fun v _ => v = .bl true) fun _ _ _ => False) ∧
        ∀ base : Heap, K.In base → base.Ns mainGlobals mg → FnG l.prog w K mg base (CX w) k fa fd [x] sp)
    (hCX : ∀ (w : World) (H : Hp) (s : Shared) (e : Value) (s' : Shared), CX w [] H s (fun _ _ _ => False) e s' → False) :
    PySem.W.WalkO q loose XP YP l.row.toRowW d [] (fun f vs => PySem.call f vs) := by
  refine Att.attach_call hn hdf ?_
  intro w s0 s1 mg mb fa o pm cd doc a vs ns G Y ho hd hcd hmg hobj hints hlen hg
  obtain ⟨K, fd, sp, KX, hb, hsp, hF⟩ := F w mg fa _ Y G.T.g hmg
  exact end_G KX G.T.g G.T.b G.T.builtins G.T.nolimit hg hobj hints (Nat.le_trans hlen hn2) hr hF hb
    (fun H hO hS => hsp H a ns hlen hO hS) (fun H e s' => hCX w H s1 e s')
/-! ### a head's facts with one more Bool -/
open He in
abbrev AlM : Type := AlD × Bool
open He in
def obsM (n : Nat) (fa : List Fa) (fn : List DefD) (ex : PySem.W.Frag → Bool) (g : Addr → Option Obj) : AlM := (obsD fa fn (frG g (asD g n)), ex (frG g (asD g n)))
open He in
def hookM (n : Nat) (fa : List Fa) (fn : List DefD) (ex : PySem.W.Frag → Bool) : PySem.W.Hook where
  α := AlM
  obs := fun s => obsM n fa fn ex s.heap.get?
  val := fun _ => (valD fn, true)
  says := fun _ h => ∃ K : PySem.W.Frag, K.In h ∧ SaysD fa fn K ∧ ex K = true
  of := fun _ _ e => ⟨_, frG_in, congrArg Prod.fst e, congrArg Prod.snd e⟩
  keeps := fun _ _ _ ⟨K, hK, c⟩ k => ⟨K, PySem.W.Frag.In.keeps hK k, c⟩
open He in
theorem obsM_eq {n : Nat} {fa : List Fa} {fn : List DefD} {ex : PySem.W.Frag → Bool} {g : Addr → Option Obj} {s : Shared} (h : ∀ a, g a = s.heap.get? a) : obsM n fa fn ex g = (hookM n fa fn ex).obs s := by
  obtain rfl : g = s.heap.get? := funext h
  rfl
end Ga

set_option Elab.async false
set_option linter.all false
set_option maxRecDepth 100000
set_option maxHeartbeats 2000000
/-! readings, written out where they are applied -/
namespace Rd
open PySem PySem.Spec PyProof.Rows L2
section
variable {σ : L2.St} {H : Hp} {Q : VK} {D : Ends} {ta tb tc te to ti : TE} {r r' : R2} {t u : TS} {tt tu : TT} {QB : Bool → Hp → Prop} {QL : List V → Hp → Prop} {TA1 TA2 : TA} {K : PySem.W.Frag} {QS : L2.St → Hp → Prop}
theorem tVar_ {i : Nat} : tVar i σ H Q = ∃ v, σ[i]? = some (some v) ∧ Q v H := rfl
theorem tC_ {v : V} : tC v σ H Q = Q v H := rfl
theorem tOp_ : tOp r ta tb σ H Q = ta σ H fun x H1 => tb σ H1 fun y H2 => r x y H2 Q := rfl
theorem tUn_ {f : V → Hp → VK → Prop} : tUn f ta σ H Q = ta σ H fun x H1 => f x H1 Q := rfl
theorem rI_ {C : Int → Int → Prop} {g : Int → Int → V} {x y : V} : rI C g x y H Q = ∃ i j, x = .int i ∧ y = .int j ∧ C i j ∧ Q (g i j) H := rfl
theorem rI0_ {g : Int → Int → V} {x y : V} : rI0 g x y H Q = ∃ i j, x = .int i ∧ y = .int j ∧ Q (g i j) H := rfl
theorem rU_ {g : Int → V} {x : V} : rU g x H Q = ∃ i, x = .int i ∧ Q (g i) H := rfl
theorem rEq_ {x y : V} : rEq x y H Q = (scal x y = true ∧ Q (.bl (decide (x = y))) H) := rfl
theorem rNe_ {x y : V} : rNe x y H Q = (scal x y = true ∧ Q (.bl (!decide (x = y))) H) := rfl
theorem tAndV_ : tAndV ta tb σ H Q = ta σ H fun x H1 => ∃ c, x = .bl c ∧ if c = true then tb σ H1 Q else Q (.bl false) H1 := rfl
theorem tOrV_ : tOrV ta tb σ H Q = ta σ H fun x H1 => ∃ c, x = .bl c ∧ if c = true then Q (.bl true) H1 else tb σ H1 Q := rfl
theorem tNotV_ : tNotV ta σ H Q = ta σ H fun x H1 => ∃ c, x = .bl c ∧ Q (.bl (!c)) H1 := rfl
theorem tIf_ : tIf tt ta tb σ H Q = tt σ H fun c H1 => if c = true then ta σ H1 Q else tb σ H1 Q := rfl
theorem tTest_ : tTest ta σ H QB = ta σ H fun x H' => ∃ k, x = .bl k ∧ QB k H' := rfl
theorem tB_ : tB ta σ H QB = ta σ H fun x H1 => ∃ c, x = .bl c ∧ QB c H1 := rfl
theorem tAnd_ : tAnd tt tu σ H QB = tt σ H fun c H1 => if c = true then tu σ H1 QB else QB false H1 := rfl
theorem tOr_ : tOr tt tu σ H QB = tt σ H fun c H1 => if c = true then QB true H1 else tu σ H1 QB := rfl
theorem tNot_ : tNot tt σ H QB = tt σ H fun c H1 => QB (!c) H1 := rfl
theorem tChain_ : tChain r r' ta tb tc σ H Q = ta σ H fun x H1 => tb σ H1 fun y H2 => r x y H2 fun z H3 => ∃ k, z = .bl k ∧ (if k = true then tc σ H3 fun w' H4 => r' y w' H4 Q else Q (.bl false) H3) := rfl
theorem tNil_ : tNil σ H QL = QL [] H := rfl
theorem tCons_ : tCons ta TA1 σ H QL = ta σ H fun x H1 => TA1 σ H1 fun xs H2 => QL (x :: xs) H2 := rfl
theorem tTup_ : tTup TA1 σ H Q = TA1 σ H fun xs H1 => xs.length ≤ sizeLine ∧ ∀ p, H1 p = none → Q (.ref p) (upd H1 p (.tup xs)) := rfl
theorem tLst_ : tLst TA1 σ H Q = TA1 σ H fun xs H1 => xs.length ≤ sizeLine ∧ ∀ p, H1 p = none → Q (.ref p) (upd H1 p (.lst xs)) := rfl
theorem tCB_ {f : List V → Hp → VK → Prop} : tCB f TA1 σ H Q = TA1 σ H fun vs H1 => f vs H1 Q := rfl
theorem tCall_ {sp : Sp} {dvs : List V} {E : XK} : tCall sp dvs E TA1 σ H Q = TA1 σ H fun vs H1 => sp (vs ++ dvs) H1 Q E := rfl
theorem tSeq_ : tSeq t u D σ H = t { D with nx := u D } σ H := rfl
theorem tNext_ : tNext D σ H = D.nx σ H := rfl
theorem tRet_ : tRet ta D σ H = ta σ H D.rt := rfl
theorem tRetN_ : tRetN D σ H = D.rt .non H := rfl
theorem tDrop_ : tDrop ta D σ H = ta σ H fun _ H1 => D.nx σ H1 := rfl
theorem tNever_ : tNever D σ H = False := rfl
theorem tBreak_ : tBreak D σ H = D.bk σ H := rfl
theorem tIfS_ : tIfS tt t u D σ H = tt σ H fun b H1 => if b = true then t D σ H1 else u D σ H1 := rfl
theorem tAsg_ {g : TG} : tAsg ta g D σ H = ta σ H fun x H1 => g x σ H1 D.nx := rfl
theorem gName_ {i : Nat} {v : V} : gName i v σ H QS = QS (σ.set i (some v)) H := rfl
theorem gTup_ {n : Nat} {g : TGs} {v : V} : gTup K n g v σ H QS = ∃ a xs, v = .ref a ∧ SqT K H a xs ∧ xs.length = n ∧ g xs σ H QS := rfl
theorem gCons_ {g : TG} {gs : TGs} {vs : List V} : gCons g gs vs σ H QS = ∃ v r, vs = v :: r ∧ g v σ H fun σ' H' => gs r σ' H' QS := rfl
theorem gNil_ {vs : List V} : gNil vs σ H QS = (vs = [] ∧ QS σ H) := rfl
theorem gSub_ {s : TSet} {v : V} : gSub to ti s v σ H QS = to σ H fun o H1 => ti σ H1 fun i H2 => s o i v H2 fun H3 => QS σ H3 := rfl
theorem tPar_ {i j : Nat} : tPar i j TA1 D σ H = TA1 σ H fun vs H1 => ∃ v w, vs = [v, w] ∧ D.nx ((σ.set i (some v)).set j (some w)) H1 := rfl
theorem tPar3_ {i j l : Nat} : tPar3 i j l TA1 D σ H = TA1 σ H fun vs H1 => ∃ u v w, vs = [u, v, w] ∧ D.nx (((σ.set i (some u)).set j (some v)).set l (some w)) H1 := rfl
theorem tSl_ {f : V → Option Int → Option Int → Hp → VK → Prop} {tl th : TO} : tSl f te tl th σ H Q = te σ H fun x H1 => tl σ H1 fun l H2 => th σ H2 fun u H3 => f x l u H3 Q := rfl
theorem tNoPart_ {Q : Option Int → Hp → Prop} : tNoPart σ H Q = Q none H := rfl
theorem tPart_ {Q : Option Int → Hp → Prop} : tPart ta σ H Q = ta σ H fun x H1 => ∃ i, x = .int i ∧ Q (some i) H1 := rfl
theorem tBM_ {T : String} {f : V → List V → Hp → VK → Prop} : tBM K T f to TA1 σ H Q = to σ H fun x H1 => tyV K T x H1 ∧ TA1 σ H1 fun xs H2 => f x xs H2 Q := rfl
theorem tDNewK_ : tDNewK σ H Q = ∀ p, H p = none → Q (.ref p) (upd H p (.dK [])) := rfl
theorem tFor_range1 {g : TG} {tb : TS} : tFor (iRng1 TA1) g tb D σ H = TA1 σ H fun vs H1 => ∃ j : Int, vs = [.int j] ∧ -(2 ^ 62) ≤ j ∧ j < 2 ^ 62 ∧ tFor (fun _ H R => R (Itr 0 j.toNat) H) g tb D σ H1 := rfl
theorem tFor_range2 {g : TG} {tb : TS} : tFor (iRng2 TA1) g tb D σ H = TA1 σ H fun vs H1 => ∃ i j : Int, vs = [.int i, .int j] ∧ (-(2 ^ 62) ≤ i ∧ i < 2 ^ 62 ∧ -(2 ^ 62) ≤ j ∧ j < 2 ^ 62) ∧ tFor (fun _ H R => R (Itr i (j - i).toNat) H) g tb D σ H1 := rfl
theorem tFor_list {g : TG} {tb : TS} : tFor (iList K ta) g tb D σ H = ta σ H fun x H1 => ∃ a, x = .ref a ∧ (∃ xs, SqL K H1 a xs) ∧ tFor (fun _ H R => R (Itl K a) H) g tb D σ H1 := rfl
theorem tFor_tup {g : TG} {tb : TS} : tFor (iTup K ta) g tb D σ H = ta σ H fun x H1 => ∃ a, x = .ref a ∧ (∃ xs, SqT K H1 a xs) ∧ tFor (fun _ H R => R (Itt K a) H) g tb D σ H1 := rfl
end
/-- a for over a range, by an invariant -/
theorem for_r {lo : Int} {n : Nat} {g : TG} {tb : TS} {D : Ends} {σ : L2.St} {H : Hp} (Pv : Nat → L2.St → Hp → Prop) (h0 : Pv 0 σ H)
    (hs : ∀ i σ H, i < n → Pv i σ H → g (.int (lo + i)) σ H fun σ2 H2 => tb { D with nx := Pv (i + 1), ct := Pv (i + 1), bk := D.nx } σ2 H2) (hd : ∀ σ H, Pv n σ H → D.nx σ H) :
    tFor (fun _ H R => R (Itr lo n) H) g tb D σ H := for_range Pv h0 hs hd
theorem for_l {K : PySem.W.Frag} {a : Addr} {xs : List V} {g : TG} {tb : TS} {D : Ends} {σ : L2.St} {H : Hp} (Pv : Nat → L2.St → Hp → Prop) (h0 : Pv 0 σ H) (hl : ∀ i σ H, i ≤ xs.length → Pv i σ H → SqL K H a xs)
    (hs : ∀ i x σ H, xs[i]? = some x → Pv i σ H → g x σ H fun σ2 H2 => tb { D with nx := Pv (i + 1), ct := Pv (i + 1), bk := D.nx } σ2 H2) (hd : ∀ σ H, Pv xs.length σ H → D.nx σ H) :
    tFor (fun _ H R => R (Itl K a) H) g tb D σ H := for_list Pv h0 hl hs hd
/-- all but u stands as it stood -/
def But (u : Addr) (H H' : Hp) : Prop := ∀ b o, b ≠ u → H b = some o → H' b = some o
theorem But.refl {u : Addr} {H : Hp} : But u H H := fun _ _ _ e => e
theorem But.trans {u : Addr} {H H1 H2 : Hp} (a : But u H H1) (b : But u H1 H2) : But u H H2 := fun c o n e => b c o n (a c o n e)
theorem But.same {u : Addr} {H H1 : Hp} (a : Same H H1) : But u H H1 := fun c o _ e => a c o e
theorem same_new {H : Hp} {p : Addr} {o : HO} (n : H p = none) : Same H (upd H p o) := fun b u e => by rw [upd_ne (ne_of_none e n)]; exact e
theorem But.put {u : Addr} {H : Hp} {o : HO} : But u H (upd H u o) := fun b _ n e => by rw [upd_ne n]; exact e
theorem some_or {H : Hp} {a b : Addr} {o : HO} (h : H a = some o) (n : H b = none) : a ≠ b := ne_of_none h n
/-- the callee as its callers know it -/
structure Cal (P : Program) (w : World) (K : PySem.W.Frag) (mg : Str → Option Value) (base : Heap) (CX : CXT) (k : Nat) (x : Str) (ps : List Str) (sp : Sp) (f : Addr) (fd : FuncData) : Prop where
  g : mg x = some (.ref f)
  kp : PySem.W.keepIn K (.ref f) = true
  b : Binds K fd ps []
  F : FnOk P w K mg base CX k f fd ps sp
structure CalG (P : Program) (w : World) (K : PySem.W.Frag) (mg : Str → Option Value) (base : Heap) (CX : CXT) (k : Nat) (x : Str) (ps : List Str) (sp : Sp) (f : Addr) (fd : FuncData) : Prop where
  g : mg x = some (.ref f)
  kp : PySem.W.keepIn K (.ref f) = true
  b : Binds K fd ps []
  F : Ga.FnG P w K mg base CX k f fd ps sp
/-! ### an own error with one field -/
structure Er (K : PySem.W.Frag) (mg : Str → Option Value) (x n : Str) (C fI : Addr) (fdI : FuncData) : Prop where
  gC : mg x = some (.ref C)
  oex : OexC K C
  noN : PySem.W.findIn K (.ref C) n = some none
  iC : PySem.W.findIn K (.ref C) "__init__" = some (some (.ref fI))
  tI : PySem.W.typeIn K (.ref fI) = some (.type "function")
  dn : (n == ("__debug__" : Str)) = false
  dc : (n == ("__classdict__" : Str)) = false
  F : ∃ (qual : Str) (params : Arguments) (scope : Scope) (q1 q2 q3 q4 : Pos), FunD K "__init__" qual params [.Assign [.Attribute (.Name "self" q1) n q2] (.Name n q3) q4] scope [] [] fI fdI ∧ FnScope ["self", n] ["self", n] scope
  b : Binds K fdI ["self", n] []
section
variable {P : Program} {w : World} {K : PySem.W.Frag} {mg : Str → Option Value} {base : Heap} {x n : Str} {C fI : Addr} {fdI : FuncData}
def spInitE (K : PySem.W.Frag) (n : Str) (C : Addr) : Sp := fun vs H Q _ => ∃ (a : Addr) (v : V), vs = [.ref a, v] ∧ H a = some (exo a C none) ∧ ∀ dx, H dx = none → dx ≠ a → Q .non (upd (upd H dx (exd dx [(n, v)])) a (exo a C (some dx)))
theorem ok_initE (R : Er K mg x n C fI fdI) : FnOk P w K mg base CX0 1 fI fdI ["self", n] (spInitE K n C) := by
  obtain ⟨qual, params, scope, q1, q2, q3, q4, F, S⟩ := R.F
  refine F.ok S (fun vs H Q E h => ?_) (fun cdv A outer s H vs Q E hr h => ?_)
  · obtain ⟨a, v, rfl, _⟩ := h
    rfl
  · obtain ⟨a, v, rfl, ha, k⟩ := h
    have vis : ∀ y ∈ (["self", n] : List Str), scope.names.lookup y = some .local ∨ scope.names.lookup y = some .cell ∨ scope.names.lookup y = some .free := fun y hy => (S.par y hy).elim .inl fun z => .inr (.inl z)
    refine ⟨_, pss_one (ps_ost (pe_var (i := 0) rfl (vis _ (by simp))) (pe_var (i := 1) rfl (vis _ (by simp)) R.dn R.dc)), ?_⟩
    exact ⟨_, rfl, _, rfl, a, C, rfl, R.oex, R.noN, .inl ⟨ha, fun dx h1 h2 => k dx h1 h2⟩⟩
end
/-- raise X(e) -/
def tRaise (C : Addr) (n : Str) (W : WX) (te : TE) : TS := fun _ σ H => te σ H fun x H1 => ∀ d, H1 d = none → W (.ref C) (some d) σ (upd H1 d (.xd [(n, x)]))
theorem tRaise_ {C : Addr} {n : Str} {W : WX} {te : TE} {D : Ends} {σ : L2.St} {H : Hp} : tRaise C n W te D σ H = te σ H fun x H1 => ∀ d, H1 d = none → W (.ref C) (some d) σ (upd H1 d (.xd [(n, x)])) := rfl
theorem tCallS_ {sp : Sp} {E : L2.St → XK} {t : TA} {σ : L2.St} {H : Hp} {Q : VK} : tCallS sp E t σ H Q = t σ H fun vs H1 => sp vs H1 Q (E σ) := rfl
theorem mono_var {i : Nat} : ∀ σ H Q Q', (∀ x H1, Q x H1 → Q' x H1) → tVar i σ H Q → tVar i σ H Q' := fun _ _ _ _ f ⟨v, e, q⟩ => ⟨v, e, f _ _ q⟩
theorem ps_raiseE {X : Cx} {x n : Str} {C fI : Addr} {fdI : FuncData} {W : WX} {a : Expr} {te : TE} {p pos pos2 : Pos} {k : Nat} (hc : X.calm = true) (R : Er X.K X.mg x n C fI fdI) (hr : Room (k + 2) X.A) (tk : Takes X W) (ha : PE X a te)
    (mono : ∀ σ H Q Q', (∀ x H1, Q x H1 → Q' x H1) → te σ H Q → te σ H Q')
    (hg : Gl X x := by rfl) (hd : (x == ("__debug__" : Str)) = false := by decide) (he : starEach (a :: []) X.env = (false, eval a X.env) :: starEach [] X.env := by rfl) (hpl : (backTo pos (starEach [] X.env)).any (·.1) = false := by rfl) :
    PS X (.Raise (some (.Call (.Name x p) [a] [] pos)) none pos2) (tRaise C n W te) := by
  have G : FnOk X.prog X.w X.K X.mg X.base CX0 1 fI fdI ["self", n] (spInitE X.K n C) := ok_initE R
  have h := ps_raise (pos := pos2) hc tk (pmk_oex (p := p) (pos := pos) R.oex R.iC R.tI G (hr.mono (by omega)) R.b .nil (fun _ _ _ _ _ _ _ z => z.elim) hg R.gC (pa_cons ha pa_nil he) hd he hpl)
  refine ⟨fun pins s σ H D I q => h.run pins s σ H D I ?_⟩
  refine mono σ H _ _ (fun x H1 q1 => ?_) q
  refine ⟨by show 1 ≤ 1000; decide, fun b hb => ⟨b, x, rfl, upd_same, fun dx h1 h2 => ⟨rfl, dx, [(n, x)], upd_same, ?_, ?_, ?_⟩⟩⟩
  · rw [upd_ne h2, upd_same]
  · rw [upd_ne h2] at h1; exact h1
  · have h3 : H1 dx = none := by rw [upd_ne h2] at h1; exact h1
    have e : upd (del (upd (upd (upd H1 b (exo b C none)) dx (exd dx [(n, x)])) b (exo b C (some dx))) b) dx (.xd [(n, x)]) = upd H1 dx (.xd [(n, x)]) := by
      funext c
      by_cases c1 : c = dx
      · rw [c1, upd_same, upd_same]
      · rw [upd_ne c1, upd_ne c1]
        by_cases c2 : c = b
        · rw [c2, del_same, hb]
        · rw [del_ne c2, upd_ne c2, upd_ne c1, upd_ne c2]
    rw [e]
    exact q1 dx h3
/-- plain values that the checks here meet: ints, bools, None, texts, the empty tuple -/
inductive Smp (H : Hp) : V → Prop
  | non : Smp H .non
  | bl (b : Bool) : Smp H (.bl b)
  | int (i : Int) : Smp H (.int i)
  | str (x : Str) : Smp H (.str x)
  | tup {a : Addr} (h : H a = some (.tup [])) : Smp H (.ref a)
theorem Smp.up {H H' : Hp} {v : V} (h : Smp H v) (s : ∀ a, H a = some (.tup []) → H' a = some (.tup [])) : Smp H' v := by
  cases h with
  | non => exact .non
  | bl b => exact .bl b
  | int i => exact .int i
  | str x => exact .str x
  | tup h => exact .tup (s _ h)
def wholeB : V → Bool
  | .int _ => true
  | _ => false
def iv : V → Int
  | .int i => i
  | _ => 0
def btw (x : V) (lo hi : Int) : Bool := wholeB x && (decide (lo ≤ iv x) && decide (iv x ≤ hi))
theorem btw_int {i lo hi : Int} : btw (.int i) lo hi = (decide (lo ≤ i) && decide (i ≤ hi)) := by unfold btw; rfl
theorem btw_int' {i lo hi : Int} (h1 : lo ≤ i) (h2 : i ≤ hi) : btw (.int i) lo hi = true := by rw [btw_int, decide_eq_true h1, decide_eq_true h2]; rfl
theorem btw_of {x : V} {lo hi : Int} (h : btw x lo hi = true) : ∃ i, x = .int i ∧ lo ≤ i ∧ i ≤ hi := by
  cases x with
  | int i =>
    rw [btw_int, Bool.and_eq_true] at h
    exact ⟨i, rfl, of_decide_eq_true h.1, of_decide_eq_true h.2⟩
  | _ => cases h
/-! ### f(k = v, ..) -/
def tCallK (sp : Sp) (gV : List V → List V) (m : Nat) (E : XK) (tk : TA) : TE := fun σ H Q => tk σ H fun zs H1 => zs.length = m ∧ sp (gV zs) H1 Q E
theorem tCallK_ {sp : Sp} {gV : List V → List V} {m : Nat} {E : XK} {tk : TA} {σ : L2.St} {H : Hp} {Q : VK} : tCallK sp gV m E tk σ H Q = tk σ H fun zs H1 => zs.length = m ∧ sp (gV zs) H1 Q E := rfl
section
variable {X : Cx} {CX : CXT} {k : Nat} {f : Addr} {fd : FuncData} {ps ks : List Str} {sp : Sp} {E : XK} {x : Str} {p pos : Pos} {kws : List Keyword} {tk : TA} {g : List Value → List Value} {gV : List V → List V}
theorem pe_callKw (F : FnOk X.prog X.w X.K X.mg X.base CX k f fd ps sp) (hr : Room k X.A) (hg : Gl X x) (hm : X.mg x = some (.ref f)) (hk : PySem.W.keepIn X.K (.ref f) = true)
    (hb : KBn X.K fd ps 0 ks (fun _ ws => g ws) (fun _ zs => gV zs)) (hx : Passes CX X E) (hkw : PK X kws tk)
    (hall : (backToKw pos (keywordEach kws X.env)).all (·.1.isSome) = true := by rfl) (hks : (backToKw pos (keywordEach kws X.env)).filterMap (·.1) = ks := by rfl)
    (hdb : (x == ("__debug__" : Str)) = false := by decide)
    (hpl : ((backTo pos (starEach [] X.env)).any (·.1) || (backToKw pos (keywordEach kws X.env)).any (·.1.isNone)) = false := by rfl) :
    PE X (.Call (.Name x p) [] kws pos) (tCallK sp gV ks.length E tk) := by
  constructor
  intro pins s σ H Q I h
  refine wpAny_Call_Name_kw (ld_glob I hg hm ?_ hdb)
  refine PySem.W.callWith_KW0 (h₀ := X.base) I.ok.mod.kin hk hall ?_ hpl
  refine thn (hkw.run pos pins s σ H _ I h) ?_
  rintro ws s2 ⟨zs, H2, I2, rz, l2, q2⟩
  refine ⟨I2.kIn, ?_⟩
  rw [hks]
  exact run_fnN (us := []) (vs := []) F hr hb hx I2 .nil rz rfl l2 q2
end
theorem kbn0 {K : PySem.W.Frag} {x qual : Str} {params : Arguments} {body : List Stmt} {scope : Scope} {f : Addr} {fd : FuncData} {ps : List Str} (F : FunD K x qual params body scope [] [] f fd) (ks : List Str) (g : {α : Type} → List α → List α)
    (hrel : ∀ {vs : List V} {us : List Value}, Vals vs us → Vals (g vs) (g us))
    (h : ∀ (kV doc pm : Value) (an : Option Addr) (cdv ct : Value) (ws : List Value), ws.length = ks.length → bindArgs (PySem.W.fnOf x qual params body scope .none kV doc pm an cdv ct) ⟨[], ks.zip ws⟩ = pure (ps.zip (g ws))) :
    KBn K fd ps 0 ks (fun _ ws => g ws) (fun _ zs => g zs) := by
  obtain ⟨oc, od, dV, kV, doc, pm, an, cdv, ct, sl, e, lk, hcd, hD, hK⟩ := F.ex
  rcases hD with ⟨_, e2⟩ | ⟨z, _⟩
  · subst e2 e
    refine ⟨fun s us ws X l1 l2 => ?_, fun _ r => hrel r⟩
    obtain rfl : us = [] := List.eq_nil_of_length_eq_zero l1
    exact .of_eq (h kV doc pm an cdv ct ws l2)
  · exact absurd rfl z
theorem gUnl_ {K : PySem.W.Frag} {n : Nat} {g : TGs} {v : V} {σ : L2.St} {H : Hp} {QS : L2.St → Hp → Prop} : gUnl K n g v σ H QS = ∃ a xs, v = .ref a ∧ SqL K H a xs ∧ xs.length = n ∧ g xs σ H QS := rfl
theorem sIx_none {n d : Nat} : HT.sIx n d none = d := rfl
/-- one statement at a time -/
theorem sq {t u : TS} {D : Ends} {σ : L2.St} {H : Hp} (h : ∀ U : L2.St → Hp → Prop, (∀ σ' H', u D σ' H' → U σ' H') → t { D with nx := U } σ H) : tSeq t u D σ H := h (u D) fun _ _ x => x
theorem ite2n {a b A B : Prop} [Decidable a] [Decidable b] (h : ¬ (a ∧ b)) (hB : B) : if a then (if b then A else B) else B := by
  by_cases ha : a
  · rw [if_pos ha, if_neg (fun hb => h ⟨ha, hb⟩)]; exact hB
  · rw [if_neg ha]; exact hB
section
variable {H : Hp} {Q : VK} {i j : Int} {a b : Str} {c e : Bool}
theorem eq_ii : rEq (.int i) (.int j) H Q = Q (.bl (decide (i = j))) H := by
  have h : decide (V.int i = V.int j) = decide (i = j) := by simp
  show (_ ∧ Q (.bl (decide (V.int i = V.int j))) H) = _
  rw [h]; simp [scal]
theorem ne_ii : rNe (.int i) (.int j) H Q = Q (.bl (!decide (i = j))) H := by
  have h : decide (V.int i = V.int j) = decide (i = j) := by simp
  show (_ ∧ Q (.bl (!decide (V.int i = V.int j))) H) = _
  rw [h]; simp [scal]
theorem eq_ss : rEq (.str a) (.str b) H Q = Q (.bl (decide (a = b))) H := by
  have h : decide (V.str a = V.str b) = decide (a = b) := by simp
  show (_ ∧ Q (.bl (decide (V.str a = V.str b))) H) = _
  rw [h]; simp [scal]
theorem ne_ss : rNe (.str a) (.str b) H Q = Q (.bl (!decide (a = b))) H := by
  have h : decide (V.str a = V.str b) = decide (a = b) := by simp
  show (_ ∧ Q (.bl (!decide (V.str a = V.str b))) H) = _
  rw [h]; simp [scal]
theorem eq_bb : rEq (.bl c) (.bl e) H Q = Q (.bl (decide (c = e))) H := by
  have h : decide (V.bl c = V.bl e) = decide (c = e) := by simp
  show (_ ∧ Q (.bl (decide (V.bl c = V.bl e))) H) = _
  rw [h]; simp [scal]
theorem ne_bb : rNe (.bl c) (.bl e) H Q = Q (.bl (!decide (c = e))) H := by
  have h : decide (V.bl c = V.bl e) = decide (c = e) := by simp
  show (_ ∧ Q (.bl (!decide (V.bl c = V.bl e))) H) = _
  rw [h]; simp [scal]
end
theorem rGcd_ {vs : List V} {H : Hp} {Q : VK} : rGcd vs H Q = ∃ a b : Int, vs = [.int a, .int b] ∧ Q (.int ((Nat.gcd a.natAbs b.natAbs : Nat) : Int)) H := rfl
theorem max_if {a b : Int} : (if b > a then b else a) = max a b := by
  by_cases h : b > a
  · rw [if_pos h]; omega
  · rw [if_neg h]; omega
section
variable {K : PySem.W.Frag} {H : Hp} {Q : VK} {x y : V}
theorem rIxL_ : rIxL K x y H Q = ∃ p xs i v, x = .ref p ∧ y = .int i ∧ SqL K H p xs ∧ atI xs i = some v ∧ Q v H := rfl
theorem rIxT_ : rIxT K x y H Q = ∃ p xs i v, x = .ref p ∧ y = .int i ∧ SqT K H p xs ∧ atI xs i = some v ∧ Q v H := rfl
theorem rSlL_ {lo hi : Option Int} : rSlL K x lo hi H Q = ∃ a xs, x = .ref a ∧ SqL K H a xs ∧ ∀ p, H p = none → Q (.ref p) (upd H p (.lst (cutV xs lo hi))) := rfl
theorem rCat_ : rCat x y H Q = ∃ l b xs zs, x = .ref l ∧ y = .ref b ∧ H l = some (.lst xs) ∧ H b = some (.lst zs) ∧ xs.length + zs.length ≤ sizeLine ∧ ∀ p, H p = none → Q (.ref p) (upd H p (.lst (xs ++ zs))) := rfl
theorem rSetL_ {o i v : V} {Q : Hp → Prop} : rSetL o i v H Q = ∃ p xs k j, o = .ref p ∧ i = .int k ∧ H p = some (.lst xs) ∧ ixN xs.length k = some j ∧ Q (upd H p (.lst (xs.set j v))) := rfl
theorem atI_nn {α : Type} {xs : List α} {i : Int} {v : α} (h0 : 0 ≤ i) (h : xs[i.toNat]? = some v) : atI xs i = some v := by
  have hl : i.toNat < xs.length := (List.getElem?_eq_some_iff.mp h).1
  unfold atI ixN
  rw [if_pos h0, if_pos (by omega)]
  exact h
end
theorem rRep_ {x y : V} {H : Hp} {Q : VK} : rRep x y H Q = ∃ l k xs, x = .ref l ∧ y = .int k ∧ H l = some (.lst xs) ∧ -(2 ^ 63) ≤ k ∧ k < 2 ^ 63 ∧ xs.length * k.toNat ≤ sizeLine ∧ ∀ p, H p = none → Q (.ref p) (upd H p (.lst (List.replicate k.toNat xs).flatten)) := rfl
end Rd

set_option Elab.async false
set_option linter.all false
set_option maxRecDepth 100000
set_option maxHeartbeats 2000000
/-! data: what is compared and shown -/
namespace Dt
open PySem PySem.Spec PyProof.Rows L2 Rd
/-- data of a bounded text -/
structure Fit (d : PyData) (k n : Nat) : Prop where
  s : d.showable = true
  h : d.hasDict = false
  dp : d.depth ≤ k
  sz : d.shown.length ≤ n
  c : d.canLay0 = true
theorem Fit.mono {d : PyData} {k n k' n' : Nat} (f : Fit d k n) (h1 : k ≤ k') (h2 : n ≤ n') : Fit d k' n' := ⟨f.s, f.h, Nat.le_trans f.dp h1, Nat.le_trans f.sz h2, f.c⟩
theorem Fit.non : Fit .none 0 5 := ⟨rfl, rfl, Nat.le_refl _, by show (PyData.shown .none).length ≤ 5; unfold PyData.shown; decide +kernel, rfl⟩
theorem Fit.bl (b : Bool) : Fit (.bool b) 0 5 := ⟨rfl, rfl, Nat.le_refl _, by unfold PyData.shown; cases b <;> decide +kernel, rfl⟩
theorem Fit.int {i : Int} {k : Nat} (h0 : 0 < k) (h9 : k ≤ 1919) (h : i.natAbs < 2 ^ k) : Fit (.int i) 0 (k + 1) := by
  have lg : i.natAbs.log2 < k := by
    by_cases z : i.natAbs = 0
    · rw [z]; show Nat.log2 0 < k; rw [Nat.log2_zero]; exact h0
    · exact (Nat.log2_lt z).mpr h
  refine ⟨?_, rfl, Nat.le_refl _, ?_, rfl⟩
  · show decide (i.natAbs.log2 < 1920) = true
    exact decide_eq_true (by omega)
  · have e : (PyData.shown (.int i)) = Str.ofString (toString i) := by unfold PyData.shown; rfl
    rw [e, PySem.ofString_length]
    exact int_text_length_le h0 lg
theorem sum_le {α : Type} (f : α → Nat) (n : Nat) : ∀ l : List α, (∀ x ∈ l, f x ≤ n) → (l.map f).sum ≤ l.length * n
  | [], _ => by simp
  | x :: l, h => by
    have h1 := h x List.mem_cons_self
    have h2 := sum_le f n l fun y hy => h y (List.mem_cons_of_mem _ hy)
    rw [List.map_cons, List.sum_cons, List.length_cons, Nat.add_mul, Nat.one_mul]
    omega
theorem fitAll {k n : Nat} : ∀ {ds : List PyData}, (∀ d ∈ ds, Fit d k n) → PyData.showableAll ds = true ∧ PyData.hasDictAll ds = false ∧ PyData.depthAll ds ≤ k ∧ (∀ t ∈ PyData.shownAll ds, t.length ≤ n) ∧ (PyData.shownAll ds).length = ds.length ∧ PyData.canLayAll0 ds = true
  | [], _ => ⟨rfl, rfl, Nat.zero_le _, fun t ht => (by rw [PyData.shownAll] at ht; cases ht), (by rw [PyData.shownAll]; rfl), rfl⟩
  | d :: ds, h => by
    have f := h d List.mem_cons_self
    obtain ⟨a, b, c, e, g, l⟩ := fitAll fun x hx => h x (List.mem_cons_of_mem _ hx)
    refine ⟨by rw [PyData.showableAll, f.s, a]; rfl, by rw [PyData.hasDictAll, f.h, b]; rfl, by rw [PyData.depthAll]; have := f.dp; omega, ?_, by rw [PyData.shownAll, List.length_cons, List.length_cons, g], by rw [PyData.canLayAll0, f.c, l]; rfl⟩
    intro t ht
    rw [PyData.shownAll] at ht
    rcases List.mem_cons.mp ht with z | z
    · rw [z]; exact f.sz
    · exact e t z
theorem Fit.list {ds : List PyData} {k n : Nat} (h : ∀ d ∈ ds, Fit d k n) : Fit (.list ds) (k + 1) (ds.length * (n + 2) + 3) := by
  obtain ⟨a, b, c, e, g, l⟩ := fitAll h
  refine ⟨by rw [PyData.showable, a], by rw [PyData.hasDict, b], by rw [PyData.depth]; omega, ?_, by rw [PyData.canLay0, l]⟩
  rw [PyData.shown]
  have h1 := listText_len_le (PyData.shownAll ds)
  have h2 := sum_le (·.length) n (PyData.shownAll ds) e
  rw [g] at h1 h2
  rw [Nat.mul_add]
  omega
theorem Fit.tuple {ds : List PyData} {k n : Nat} (h : ∀ d ∈ ds, Fit d k n) : Fit (.tuple ds) (k + 1) (ds.length * (n + 2) + 3) := by
  obtain ⟨a, b, c, e, g, l⟩ := fitAll h
  refine ⟨by rw [PyData.showable, a], by rw [PyData.hasDict, b], by rw [PyData.depth]; omega, ?_, by rw [PyData.canLay0, l]⟩
  rw [PyData.shown]
  have h1 := tupleText_len_le (PyData.shownAll ds)
  have h2 := sum_le (·.length) n (PyData.shownAll ds) e
  rw [g] at h1 h2
  rw [Nat.mul_add]
  omega
theorem Fit.str {x : Str} {n : Nat} (h : x.length ≤ n) (hc : ∀ c ∈ x.cps.toList, c < 0x110000) : Fit (.str x) 0 (10 * n + 2) := by
  have e : PyData.shown (.str x) = reprText x := by unfold PyData.shown; rfl
  refine ⟨rfl, rfl, Nat.le_refl _, ?_, ?_⟩
  · rw [e]
    have := StrLaws.reprText_len x fun c hc' => Nat.lt_trans (hc c hc') (by decide)
    omega
  · show x.cps.all (· < 0x110000) = true
    rw [← Array.all_toList, List.all_eq_true]
    intro c hc'
    exact decide_eq_true (hc c hc')
theorem Fit.shaped {d : PyData} {k n : Nat} (f : Fit d k n) (h : k ≤ 64) : SeqAt.shaped d = true := by
  have := f.dp
  show (d.canLay0 && decide (d.depth ≤ 64)) = true
  rw [f.c, decide_eq_true (show d.depth ≤ 64 by omega)]; rfl
/-- repr of such data -/
theorem rRepr_fit {K : PySem.W.Frag} {H : Hp} {Q : VK} {x : V} {d : PyData} {k n : Nat} (f : Fit d k n) (hk : k ≤ 50) (hn : n ≤ 1000000) (dd : Dp K H x d) (q : Q (.str d.shown) H) : Ga.rRepr K [x] H Q := by
  have := f.dp
  have := f.sz
  refine ⟨x, d, rfl, dd, f.s, f.h, by omega, Nat.le_trans (Nat.le_trans f.sz hn) (by rw [sizeLine_eq]; decide), ?_, q⟩
  intro i e
  have z := f.s
  rw [e] at z
  exact of_decide_eq_true z
theorem Dp.ints {K : PySem.W.Frag} {H : Hp} : ∀ (ns : List Int), DpAll K H (ns.map V.int) (ns.map PyData.int)
  | [] => .nil
  | n :: ns => .cons (.int n) (Dp.ints ns)
mutual
theorem Dp.up {K : PySem.W.Frag} {H H' : Hp} (hs : Same H H') : ∀ (d : PyData) (v : V), Dp K H v d → Dp K H' v d
  | .none, _, h => by cases h; exact .non
  | .bool b, _, h => by cases h; exact .bl b
  | .int b, _, h => by cases h; exact .int b
  | .str b, _, h => by cases h; exact .str b
  | .dict b, _, h => by cases h
  | .list ds, _, h => by
    cases h with
    | lst a b => exact .lst (hs.seq a) (DpAll.up hs ds _ b)
  | .tuple ds, _, h => by
    cases h with
    | tup a b =>
      refine .tup ?_ (DpAll.up hs ds _ b)
      rcases a with (a | ⟨o, a⟩) | a
      · exact .inl (.inl (hs _ _ a))
      · exact .inl (.inr ⟨o, hs _ _ a⟩)
      · exact .inr a
theorem DpAll.up {K : PySem.W.Frag} {H H' : Hp} (hs : Same H H') : ∀ (ds : List PyData) (vs : List V), DpAll K H vs ds → DpAll K H' vs ds
  | [], _, h => by cases h; exact .nil
  | d :: ds, _, h => by
    cases h with
    | cons a b => exact .cons (Dp.up hs d _ a) (DpAll.up hs ds _ b)
end
theorem eqv_ints : ∀ xs ys : List Int, PyData.eqvAll (xs.map .int) (ys.map .int) = decide (xs = ys)
  | [], [] => rfl
  | [], _ :: _ => by simp [PyData.eqvAll]
  | _ :: _, [] => by simp [PyData.eqvAll]
  | x :: xs, y :: ys => by
    rw [List.map_cons, List.map_cons, PyData.eqvAll, eqv_ints xs ys, PyData.eqv]
    by_cases h : x = y
    · subst h; simp
    · simp [h]
theorem eqv_listI (xs ys : List Int) : PyData.eqv (.list (xs.map .int)) (.list (ys.map .int)) = decide (xs = ys) := by rw [PyData.eqv, eqv_ints]
theorem fit_ints {ns : List Int} {k : Nat} (h0 : 0 < k) (h9 : k ≤ 1919) (h : ∀ n ∈ ns, n.natAbs < 2 ^ k) : Fit (.list (ns.map .int)) 1 (ns.length * (k + 3) + 3) := by
  have := Fit.list (ds := ns.map PyData.int) (k := 0) (n := k + 1) (fun d hd => by
    obtain ⟨n, hn, rfl⟩ := List.mem_map.mp hd
    exact Fit.int h0 h9 (h n hn))
  rwa [List.length_map] at this
theorem rNeD_ {K : PySem.W.Frag} {H : Hp} {Q : VK} {x y : V} {d e : PyData} {k n k' n' : Nat} (fd : Fit d k n) (fe : Fit e k' n') (hk : k ≤ 64) (hk' : k' ≤ 64) (hd : Dp K H x d) (he : Dp K H y e) (q : Q (.bl (!PyData.eqv d e)) H) : rNeD K x y H Q :=
  ⟨d, e, hd, he, fd.shaped hk, fe.shaped hk', q⟩
theorem rEqD_ {K : PySem.W.Frag} {H : Hp} {Q : VK} {x y : V} {d e : PyData} {k n k' n' : Nat} (fd : Fit d k n) (fe : Fit e k' n') (hk : k ≤ 64) (hk' : k' ≤ 64) (hd : Dp K H x d) (he : Dp K H y e) (q : Q (.bl (PyData.eqv d e)) H) : rEqD K x y H Q :=
  ⟨d, e, hd, he, fd.shaped hk, fe.shaped hk', q⟩
section
variable {K : PySem.W.Frag} {H : Hp} {σ : L2.St} {Q : VK} {g : TG} {tt : TT} {te : TE} {vs : List Nat} {TA1 : TA} {ta : TE}
theorem wipe0 : wipe σ [] = σ := rfl
theorem wipe1 {v : Nat} {vs : List Nat} : wipe σ (v :: vs) = (wipe σ vs).set v none := rfl
theorem tLc_range1 : tLc (iRng1 TA1) g tt te vs σ H Q = TA1 σ H fun ws H1 => ∃ j : Int, ws = [.int j] ∧ -(2 ^ 62) ≤ j ∧ j < 2 ^ 62 ∧ tLc (fun _ H R => R (Itr 0 j.toNat) H) g tt te vs σ H1 Q := rfl
theorem tLc_range2 : tLc (iRng2 TA1) g tt te vs σ H Q = TA1 σ H fun ws H1 => ∃ i j : Int, ws = [.int i, .int j] ∧ (-(2 ^ 62) ≤ i ∧ i < 2 ^ 62 ∧ -(2 ^ 62) ≤ j ∧ j < 2 ^ 62) ∧ tLc (fun _ H R => R (Itr i (j - i).toNat) H) g tt te vs σ H1 Q := rfl
theorem tLc_list : tLc (iList K ta) g tt te vs σ H Q = ta σ H fun x H1 => ∃ a, x = .ref a ∧ (∃ xs, SqL K H1 a xs) ∧ tLc (fun _ H R => R (Itl K a) H) g tt te vs σ H1 Q := rfl
theorem tLc_tup : tLc (iTup K ta) g tt te vs σ H Q = ta σ H fun x H1 => ∃ a, x = .ref a ∧ (∃ xs, SqT K H1 a xs) ∧ tLc (fun _ H R => R (Itt K a) H) g tt te vs σ H1 Q := rfl
theorem tYes_ {QB : Bool → Hp → Prop} : tYes σ H QB = QB true H := rfl
/-- what a turn of a comprehension asks -/
def Lturn (g : TG) (tt : TT) (te : TE) (vs : List Nat) (σ : L2.St) (D : Addr) (x : V) (H : Hp) (Nx : Hp → Prop) : Prop := g x (wipe σ vs) H fun σ2 H2 => wipe σ2 vs = wipe σ vs ∧ tt σ2 H2 fun b H3 =>
  if b = true then te σ2 H3 fun y H4 => ∃ acc, H4 D = some (.lst acc) ∧ acc.length < sizeLine ∧ Nx (upd H4 D (.lst (acc ++ [y]))) else Nx H3
theorem lc_r {lo : Int} {n : Nat} (Pv : Addr → Nat → Hp → Prop) (h : ∀ D, H D = none → Pv D 0 (upd H D (.lst [])) ∧ (∀ i H', i < n → Pv D i H' → Lturn g tt te vs σ D (.int (lo + i)) H' (Pv D (i + 1))) ∧ (∀ H', Pv D n H' → Q (.ref D) H')) :
    tLc (fun _ H R => R (Itr lo n) H) g tt te vs σ H Q := fun D hD => lc_range (Pv D) (h D hD).1 (h D hD).2.1 (h D hD).2.2
theorem lc_l {a : Addr} {xs : List V} (Pv : Addr → Nat → Hp → Prop) (h : ∀ D, H D = none → Pv D 0 (upd H D (.lst [])) ∧ (∀ i H', i ≤ xs.length → Pv D i H' → SqL K H' a xs) ∧ (∀ i x H', xs[i]? = some x → Pv D i H' → Lturn g tt te vs σ D x H' (Pv D (i + 1))) ∧ (∀ H', Pv D xs.length H' → Q (.ref D) H')) :
    tLc (fun _ H R => R (Itl K a) H) g tt te vs σ H Q := fun D hD => lc_list (xs := xs) (Pv D) (h D hD).1 (h D hD).2.1 (h D hD).2.2.1 (h D hD).2.2.2
theorem lc_t {a : Addr} {xs : List V} (Pv : Addr → Nat → Hp → Prop) (h : ∀ D, H D = none → Pv D 0 (upd H D (.lst [])) ∧ (∀ i H', i ≤ xs.length → Pv D i H' → SqT K H' a xs) ∧ (∀ i x H', xs[i]? = some x → Pv D i H' → Lturn g tt te vs σ D x H' (Pv D (i + 1))) ∧ (∀ H', Pv D xs.length H' → Q (.ref D) H')) :
    tLc (fun _ H R => R (Itt K a) H) g tt te vs σ H Q := fun D hD => lc_tup (xs := xs) (Pv D) (h D hD).1 (h D hD).2.1 (h D hD).2.2.1 (h D hD).2.2.2
end
end Dt

set_option Elab.async false
set_option linter.all false
set_option maxRecDepth 100000
set_option maxHeartbeats 2000000
/-! isinstance of a caught error that has fields -/
namespace Exx
open PySem PySem.Spec PyProof.Rows L2 Rd
def rIsX (K : PySem.W.Frag) (C a : Addr) (cls : Value) (d : Option Addr) : List V → Hp → VK → Prop := fun xs H Q => ∃ (c : V) (cv : Value) (b : Bool) (dd : Addr) (fs : List (Str × V)), xs = [.ref a, c] ∧ cls = .ref C ∧ (∀ u, RelV c u → u = cv) ∧ d = some dd ∧ H dd = some (.xd fs) ∧ PySem.W.kitOne K (.ref C) cv = some b ∧ Q (.bl b) H
theorem call_isX {X : Cx} {a C : Addr} {oe : Obj} {cls : Value} {d : Option Addr} {pn : List (Addr × Obj)} (E : ExcC X.K C) (hz : Zc cls d oe) (hf : ∃ vs, oe.data = .fields vs) : CallR (X.suite a ((a, oe) :: pn)) (.builtin "isinstance") (rIsX X.K C a cls d) := by
  intro pins s σ H xs us Q I r h
  obtain ⟨c, cv, b, dd, fs, rfl, ec, hcv, ed, hd, e, q⟩ := h
  subst ec ed
  cases r with
  | cons rx rr =>
    cases rr with
    | cons rt rr =>
      cases rr
      cases rx
      have ec := hcv _ rt
      subst ec
      obtain ⟨hget, _⟩ := I.pin (a, oe) (List.mem_append_left _ List.mem_cons_self)
      obtain ⟨vs, hv⟩ := hf
      have hx : ObjOk X.prog X.w H s.heap dd (.xd fs) := I.hok dd _ hd
      obtain ⟨mA, hns, hr⟩ := hx
      obtain ⟨od, ho, hl⟩ := lookIn_ns hns
      have J : PySem.W.InstAt s.heap a oe C (some od) := ⟨hget, hz.1, by unfold PySem.W.notCls; rw [hv] <;> rfl, by rw [hz.2]; exact ho⟩
      have hcl : (PySem.W.clsIn X.K C).isSome = true := by
        obtain ⟨cd, hc, _⟩ := PySem.W.any_some E.hd
        rw [hc]; rfl
      exact PySem.W.kia_one (PySem.W.kitx_exc (od := some od) hcl E.hg E.hk E.hs E.ha E.hn E.ht E.hm) I.kIn J e (fun z => nomatch z) fun tk => ⟨.bl b, H, I.kept (t' := tk) fun _ _ z => z, rfl, q⟩
def exB (K : PySem.W.Frag) (C : Addr) : Bool := decide (PySem.W.findIn K (.ref C) "__getattribute__" = some (some (.builtin "BaseException.__getattribute__"))) && (decide (PySem.W.findIn K (.ref C) "__getattr__" = some none) && (decide (PySem.W.subIn K (.ref C) (.type "BaseException") = some true) &&
  (PySem.W.hasDictIn K C && (decide (PySem.W.findIn K (.ref C) "__class__" = some (some (.builtin "object.__class__"))) && (decide (PySem.W.specialIn K (.builtin "object.__class__") "__get__" = some (some (.builtin "getset_descriptor.__get__"))) && (decide (PySem.W.takesIn K (.builtin "object.__class__") = some true) && decide (PySem.W.mroIn K C (.type "object") = some true)))))))
theorem exB_ok {K : PySem.W.Frag} {C : Addr} (h : exB K C = true) : ExcC K C := by
  unfold exB at h
  simp only [Bool.and_eq_true, decide_eq_true_eq] at h
  obtain ⟨h1, h2, h3, h4, h5, h6, h7, h8⟩ := h
  exact ⟨h1, h2, h3, h4, h5, h6, h7, h8⟩
/-- what a table of the written part says of an own error -/
def oexB (K : PySem.W.Frag) (C : Addr) : Bool := (match K.lookup C with
  | some ⟨.type "type", _, .cls cd, sl⟩ => (match cd.mro, sl.toList with
    | .ref C' :: bm, [_, _, _, _, some (.builtin n), _] => decide (C' = C) && (decide (n = "ValueError.__new__") && (cd.hasDict && (!cd.hasDel && PySem.HandSPX.refsVE bm)))
    | _, _ => false)
  | _ => false) && (decide (PySem.W.findIn K (.ref C) "__setattr__" = some (some (.builtin "object.__setattr__"))) && (decide (PySem.W.subIn K (.ref C) (.type "BaseException") = some true) && (decide (PySem.W.typeIn K (.ref C) = some (.type "type")) && PySem.W.keepIn K (.ref C))))
theorem oexB_ok {K : PySem.W.Frag} {C : Addr} (h : oexB K C = true) : OexC K C := by
  unfold oexB at h
  obtain ⟨h1, h⟩ := Bool.and_eq_true_iff.mp h
  obtain ⟨h2, h⟩ := Bool.and_eq_true_iff.mp h
  obtain ⟨h3, h⟩ := Bool.and_eq_true_iff.mp h
  obtain ⟨h4, h5⟩ := Bool.and_eq_true_iff.mp h
  refine ⟨?_, of_decide_eq_true h2, of_decide_eq_true h3, of_decide_eq_true h4, h5⟩
  split at h1
  · rename_i dd cd sl ho
    split at h1
    · rename_i C' bm k0 k1 k2 k3 n k5 hm hs
      obtain ⟨nm, bs, mro, ns, qn, hd, sn, sb, ab, col, del⟩ := cd
      obtain ⟨sl⟩ := sl
      dsimp only at h1 hm hs
      subst hm hs
      obtain ⟨e1, h1⟩ := Bool.and_eq_true_iff.mp h1
      obtain ⟨e2, h1⟩ := Bool.and_eq_true_iff.mp h1
      obtain ⟨e3, h1⟩ := Bool.and_eq_true_iff.mp h1
      obtain ⟨e4, e5⟩ := Bool.and_eq_true_iff.mp h1
      have e1' := of_decide_eq_true e1
      have e2' := of_decide_eq_true e2
      subst e1' e2'
      cases hd with
      | false => cases e3
      | true =>
        cases del with
        | true => cases e4
        | false => exact ⟨nm, qn, ns, bs, bm, sn, sb, ab, col, dd, k0, k1, k2, k3, k5, ho, e5⟩
    · cases h1
  · cases h1
/-- all that is asked of an own error's class, by its name and its field's -/
def erB (K : PySem.W.Frag) (x n : Str) : Bool := oexB K (He.ga K x) && (decide (PySem.W.findIn K (.ref (He.ga K x)) n = some none) && (decide (PySem.W.findIn K (.ref (He.ga K x)) "__init__" = some (some (.ref (He.ma K (He.ga K x) "__init__")))) &&
  (decide (PySem.W.typeIn K (.ref (He.ma K (He.ga K x) "__init__")) = some (.type "function")) && (xfB K (He.ga K x) && (exB K (He.ga K x) && decide (PySem.W.exmOne K (.ref (He.ga K x)) (.ref (He.ga K x)) = some true))))))
structure ErT (K : PySem.W.Frag) (x n : Str) : Prop where
  oex : OexC K (He.ga K x)
  noN : PySem.W.findIn K (.ref (He.ga K x)) n = some none
  iC : PySem.W.findIn K (.ref (He.ga K x)) "__init__" = some (some (.ref (He.ma K (He.ga K x) "__init__")))
  tI : PySem.W.typeIn K (.ref (He.ma K (He.ga K x) "__init__")) = some (.type "function")
  xf : XfC K (He.ga K x)
  ex : ExcC K (He.ga K x)
  te : PySem.W.exmOne K (.ref (He.ga K x)) (.ref (He.ga K x)) = some true
theorem erB_ok {K : PySem.W.Frag} {x n : Str} (h : erB K x n = true) : ErT K x n := by
  unfold erB at h
  simp only [Bool.and_eq_true, decide_eq_true_eq] at h
  obtain ⟨h1, h2, h3, h4, h5, h6, h7⟩ := h
  exact ⟨oexB_ok h1, h2, h3, h4, xfB_ok h5, exB_ok h6, h7⟩
end Exx

set_option Elab.async false
set_option linter.all false
set_option maxRecDepth 100000
set_option maxHeartbeats 2000000
/-! data in which an empty dict may lie -/
namespace Dq
open PySem PySem.Spec PyProof.Rows L2 Rd Dt
/-- what the head says of the modules' table -/
def SysD (K : PySem.W.Frag) : Prop := ∃ o : Obj, K.lookup sysModules = some o ∧ o.cls = .type "dict"
def smS (s : Str) : Bool := decide (s.length ≤ 10000) && PyData.strOk s
mutual
inductive Dq (K : PySem.W.Frag) (H : Hp) : V → PyData → Prop
  | non : Dq K H .non .none
  | bl (b : Bool) : Dq K H (.bl b) (.bool b)
  | int (i : Int) (h : i.natAbs < 1024) : Dq K H (.int i) (.int i)
  | str (x : Str) (h : smS x = true) : Dq K H (.str x) (.str x)
  | lst {a : Addr} {xs : List V} {ds : List PyData} : H a = some (.lst xs) → xs.length ≤ 1 → DqAll K H xs ds → Dq K H (.ref a) (.list ds)
  | tup {a : Addr} {xs : List V} {ds : List PyData} : H a = some (.tup xs) → DqAll K H xs ds → Dq K H (.ref a) (.tuple ds)
  | dic {a : Addr} : H a = some (.dK []) → Dq K H (.ref a) (.dict [])
inductive DqAll (K : PySem.W.Frag) (H : Hp) : List V → List PyData → Prop
  | nil : DqAll K H [] []
  | cons {v : V} {vs : List V} {d : PyData} {ds : List PyData} : Dq K H v d → DqAll K H vs ds → DqAll K H (v :: vs) (d :: ds)
end
variable {K : PySem.W.Frag} {H H' : Hp}
mutual
theorem Dq.ups {K : PySem.W.Frag} {H H' : Hp} (hs : ∀ a o, H a = some o → (∀ xs : List V, (o = .lst xs ∧ xs.length ≤ 1) ∨ o = .tup xs ∨ o = .dK [] → H' a = some o)) : ∀ (d : PyData) (v : V), Dq K H v d → Dq K H' v d
  | .none, _, h => by cases h; exact .non
  | .bool b, _, h => by cases h; exact .bl b
  | .int b, _, h => by cases h with | int _ h => exact .int b h
  | .str b, _, h => by cases h with | str _ h => exact .str b h
  | .dict b, _, h => by
    cases h with
    | dic a => exact .dic (hs _ _ a [] (.inr (.inr rfl)))
  | .list ds, _, h => by
    cases h with
    | lst a l b => exact .lst (hs _ _ a _ (.inl ⟨rfl, l⟩)) l (DqAll.ups hs ds _ b)
  | .tuple ds, _, h => by
    cases h with
    | tup a b => exact .tup (hs _ _ a _ (.inr (.inl rfl))) (DqAll.ups hs ds _ b)
theorem DqAll.ups {K : PySem.W.Frag} {H H' : Hp} (hs : ∀ a o, H a = some o → (∀ xs : List V, (o = .lst xs ∧ xs.length ≤ 1) ∨ o = .tup xs ∨ o = .dK [] → H' a = some o)) : ∀ (ds : List PyData) (vs : List V), DqAll K H vs ds → DqAll K H' vs ds
  | [], _, h => by cases h; exact .nil
  | d :: ds, _, h => by
    cases h with
    | cons a b => exact .cons (Dq.ups hs d _ a) (DqAll.ups hs ds _ b)
end
theorem Dq.up (hs : Same H H') {d : PyData} {v : V} (h : Dq K H v d) : Dq K H' v d := Dq.ups (fun a o e _ _ => hs a o e) d v h
theorem DqAll.up (hs : Same H H') {d : List PyData} {v : List V} (h : DqAll K H v d) : DqAll K H' v d := DqAll.ups (fun a o e _ _ => hs a o e) d v h
/-- data outlives what is done to other things -/
theorem Dq.keep {d : PyData} {v : V} (hs : ∀ a o, H a = some o → (∀ xs : List V, (o = .lst xs ∧ xs.length ≤ 1) ∨ o = .tup xs ∨ o = .dK [] → H' a = some o)) (h : Dq K H v d) : Dq K H' v d := Dq.ups hs d v h
theorem DqAll.keep {d : List PyData} {v : List V} (hs : ∀ a o, H a = some o → (∀ xs : List V, (o = .lst xs ∧ xs.length ≤ 1) ∨ o = .tup xs ∨ o = .dK [] → H' a = some o)) (h : DqAll K H v d) : DqAll K H' v d := DqAll.ups hs d v h
theorem DqAll.len : ∀ {vs : List V} {ds : List PyData}, DqAll K H vs ds → vs.length = ds.length
  | _, _, .nil => rfl
  | _, _, .cons _ h => congrArg (· + 1) h.len
theorem DqAll.at {vs : List V} {ds : List PyData} (h : DqAll K H vs ds) : ∀ {i : Nat} {d : PyData}, ds[i]? = some d → ∃ v, vs[i]? = some v ∧ Dq K H v d := by
  induction ds generalizing vs with
  | nil => intro i d e; cases i <;> cases e
  | cons x xs ih =>
    intro i d e
    cases h with
    | cons a b =>
      cases i with
      | zero => cases e; exact ⟨_, rfl, a⟩
      | succ i => exact ih b e
theorem DqAll.atV {vs : List V} {ds : List PyData} (h : DqAll K H vs ds) : ∀ {i : Nat} {v : V}, vs[i]? = some v → ∃ d, ds[i]? = some d ∧ Dq K H v d := by
  induction ds generalizing vs with
  | nil => intro i d e; cases h; cases i <;> cases e
  | cons x xs ih =>
    intro i d e
    cases h with
    | cons a b =>
      cases i with
      | zero => cases e; exact ⟨_, rfl, a⟩
      | succ i => exact ih b e
theorem DqAll.append {vs ws : List V} {ds es : List PyData} (h : DqAll K H vs ds) (g : DqAll K H ws es) : DqAll K H (vs ++ ws) (ds ++ es) := by
  induction ds generalizing vs with
  | nil => cases h; exact g
  | cons x xs ih =>
    cases h with
    | cons a b => exact .cons a (ih b)
theorem DqAll.take {vs : List V} {ds : List PyData} (h : DqAll K H vs ds) : ∀ n, DqAll K H (vs.take n) (ds.take n) := by
  induction ds generalizing vs with
  | nil => intro n; cases h; simp; exact .nil
  | cons x xs ih =>
    intro n
    cases h with
    | cons a b =>
      cases n with
      | zero => exact .nil
      | succ n => exact .cons a (ih b n)
theorem DqAll.drop {vs : List V} {ds : List PyData} (h : DqAll K H vs ds) : ∀ n, DqAll K H (vs.drop n) (ds.drop n) := by
  induction ds generalizing vs with
  | nil => intro n; cases h; simp; exact .nil
  | cons x xs ih =>
    intro n
    cases h with
    | cons a b =>
      cases n with
      | zero => exact .cons a b
      | succ n => exact ih b n
mutual
theorem Dq.dp {K : PySem.W.Frag} {H : Hp} : ∀ (d : PyData) (v : V), d.hasDict = false → Dq K H v d → Dp K H v d
  | .none, _, _, h => by cases h; exact .non
  | .bool b, _, _, h => by cases h; exact .bl b
  | .int b, _, _, h => by cases h; exact .int b
  | .str b, _, _, h => by cases h; exact .str b
  | .dict b, _, n, h => by rw [PyData.hasDict] at n; cases n
  | .list ds, _, n, h => by
    rw [PyData.hasDict] at n
    cases h with
    | lst a _ b => exact .lst (SqL.of a) (DqAll.dp ds _ n b)
  | .tuple ds, _, n, h => by
    rw [PyData.hasDict] at n
    cases h with
    | tup a b => exact .tup (SqT.of a) (DqAll.dp ds _ n b)
theorem DqAll.dp {K : PySem.W.Frag} {H : Hp} : ∀ (ds : List PyData) (vs : List V), PyData.hasDictAll ds = false → DqAll K H vs ds → DpAll K H vs ds
  | [], _, _, h => by cases h; exact .nil
  | d :: ds, _, n, h => by
    rw [PyData.hasDictAll, Bool.or_eq_false_iff] at n
    cases h with
    | cons a b => exact .cons (Dq.dp d _ n.1 a) (DqAll.dp ds _ n.2 b)
end
section
variable {X : Cx} {pins : List (Addr × Obj)} {σ : L2.St} {s : Shared}
mutual
theorem Dq.reads (S : SysD X.K) (I : Inv X pins σ H s) : ∀ (d : PyData) (v : V) (u : Value), Dq X.K H v d → RelV v u → ∃ as, Reads s.heap u d as ∧ sysModules ∉ as
  | .none, _, _, h, r => by
    cases h; cases r
    exact ⟨_, Reads.none, List.not_mem_nil⟩
  | .bool b, _, _, h, r => by
    cases h; cases r
    exact ⟨_, Reads.bool b, List.not_mem_nil⟩
  | .int b, _, _, h, r => by
    cases h
    obtain ⟨t, rfl⟩ := r
    exact ⟨_, Reads.int b t, List.not_mem_nil⟩
  | .str b, _, _, h, r => by
    cases h
    obtain ⟨t, rfl⟩ := r
    exact ⟨_, Reads.str b t, List.not_mem_nil⟩
  | .list ds, _, _, h, r => by
    cases h with
    | lst hs _ ha =>
      cases r
      obtain ⟨its, rv, ⟨o, n, ho, hc, _, hd⟩, _⟩ := I.list (SqL.of hs)
      obtain ⟨as, hr, hn⟩ := DqAll.reads S I ds _ its ha rv
      refine ⟨_, Reads.list ho hc hd hr, fun z => ?_⟩
      rcases List.mem_cons.mp z with z | z
      · obtain ⟨o', k1, k2⟩ := S
        have e := I.kIn _ _ k1
        rw [z, ho] at e
        cases e
        exact absurd (Value.type.inj (hc.symm.trans k2)) (by decide)
      · exact hn z
  | .tuple ds, _, _, h, r => by
    cases h with
    | tup hs ha =>
      cases r
      obtain ⟨its, rv, ⟨o, ho, hc, n, hd⟩, _⟩ := I.tuple (SqT.of hs)
      obtain ⟨as, hr, hn⟩ := DqAll.reads S I ds _ its ha rv
      exact ⟨_, Reads.tuple ho hc hd hr, hn⟩
  | .dict ds, _, _, h, r => by
    cases h with
    | dic ha =>
      cases r
      obtain ⟨_, hne, vs, hkv, o, es, ep, h1, h2, h3, h4, h5, h6⟩ := dk_of I.hok ha
      cases hkv
      have e0 : es.toList = [] := by
        cases q : es.toList with
        | nil => rfl
        | cons x xs => rw [q] at h5; cases h5
      refine ⟨_, Reads.dict (es := es) (kvs := []) (as := []) (bs := []) h1 h2.1 h3 (by rw [e0]; exact ReadsAll.nil) (by rw [e0]; exact ReadsAll.nil), fun z => ?_⟩
      have z' : sysModules = _ := List.mem_singleton.mp (by simpa using z)
      rw [z'] at hne
      simp at hne
theorem DqAll.reads (S : SysD X.K) (I : Inv X pins σ H s) : ∀ (ds : List PyData) (vs : List V) (us : List Value), DqAll X.K H vs ds → Vals vs us → ∃ as, ReadsAll s.heap us ds as ∧ sysModules ∉ as
  | [], _, _, h, r => by
    cases h; cases r
    exact ⟨_, ReadsAll.nil, List.not_mem_nil⟩
  | d :: ds, _, _, h, r => by
    cases h with
    | cons h1 h2 =>
      cases r with
      | cons r1 r2 =>
        obtain ⟨as, q1, n1⟩ := Dq.reads S I d _ _ h1 r1
        obtain ⟨bs, q2, n2⟩ := DqAll.reads S I ds _ _ h2 r2
        refine ⟨_, ReadsAll.cons q1 q2, fun z => ?_⟩
        rcases List.mem_append.mp z with z | z
        · exact n1 z
        · exact n2 z
end
end
/-! ### sizes -/
mutual
def wt : PyData → Nat
  | .none | .bool _ | .int _ => 12
  | .str s => 10 * s.length + 12
  | .list ds | .tuple ds => 3 + wtAll ds
  | .dict _ => 12
def wtAll : List PyData → Nat
  | [] => 0
  | d :: ds => 2 + wt d + wtAll ds
end
theorem wtAll_append : ∀ ds es : List PyData, wtAll (ds ++ es) = wtAll ds + wtAll es
  | [], es => by rw [List.nil_append, wtAll, Nat.zero_add]
  | d :: ds, es => by rw [List.cons_append, wtAll, wtAll, wtAll_append ds es]; omega
theorem depthAll_append : ∀ ds es : List PyData, PyData.depthAll (ds ++ es) = max (PyData.depthAll ds) (PyData.depthAll es)
  | [], es => by rw [List.nil_append, PyData.depthAll, Nat.zero_max]
  | d :: ds, es => by rw [List.cons_append, PyData.depthAll, PyData.depthAll, depthAll_append ds es, Nat.max_assoc]
mutual
theorem Dq.size {K : PySem.W.Frag} {H : Hp} : ∀ (d : PyData) (v : V), Dq K H v d → d.showable = true ∧ d.shown.length ≤ wt d
  | .none, _, _ => ⟨rfl, Nat.le_trans Fit.non.sz (by rw [wt]; decide)⟩
  | .bool b, _, _ => ⟨rfl, Nat.le_trans (Fit.bl b).sz (by rw [wt]; decide)⟩
  | .int i, _, h => by
    cases h with
    | int _ h =>
      have := Fit.int (i := i) (k := 10) (by decide) (by decide) h
      exact ⟨this.s, Nat.le_trans this.sz (by rw [wt]; decide)⟩
  | .str s, _, h => by
    cases h with
    | str _ h =>
      obtain ⟨h1, h2⟩ := Bool.and_eq_true_iff.mp h
      have h3 : ∀ c ∈ s.cps.toList, c < 0x110000 := fun c hc => by
        have := List.all_eq_true.mp (show s.cps.toList.all (· < 0x110000) = true by rw [Array.all_toList]; exact h2) c hc
        exact of_decide_eq_true this
      have := Fit.str (x := s) (n := s.length) (Nat.le_refl _) h3
      refine ⟨rfl, Nat.le_trans this.sz ?_⟩
      rw [wt]; omega
  | .dict b, _, h => by
    cases h with
    | dic a => exact ⟨rfl, by rw [wt]; unfold PyData.shown; decide +kernel⟩
  | .list ds, _, h => by
    cases h with
    | lst a _ b =>
      obtain ⟨h1, h2, h3⟩ := DqAll.size ds _ b
      refine ⟨by rw [PyData.showable, h1], ?_⟩
      rw [PyData.shown, wt]
      have := listText_len_le (PyData.shownAll ds)
      omega
  | .tuple ds, _, h => by
    cases h with
    | tup a b =>
      obtain ⟨h1, h2, h3⟩ := DqAll.size ds _ b
      refine ⟨by rw [PyData.showable, h1], ?_⟩
      rw [PyData.shown, wt]
      have := tupleText_len_le (PyData.shownAll ds)
      omega
theorem DqAll.size {K : PySem.W.Frag} {H : Hp} : ∀ (ds : List PyData) (vs : List V), DqAll K H vs ds → PyData.showableAll ds = true ∧ ((PyData.shownAll ds).map (·.length)).sum + 2 * (PyData.shownAll ds).length ≤ wtAll ds ∧ True
  | [], _, _ => ⟨rfl, by rw [PyData.shownAll, wtAll]; decide, trivial⟩
  | d :: ds, _, h => by
    cases h with
    | cons a b =>
      obtain ⟨x1, x2⟩ := Dq.size d _ a
      obtain ⟨h1, h2, _⟩ := DqAll.size ds _ b
      refine ⟨by rw [PyData.showableAll, x1, h1]; rfl, ?_, trivial⟩
      rw [PyData.shownAll, wtAll, List.map_cons, List.sum_cons, List.length_cons]
      omega
end
/-! ### repr -/
def rReprQ (K : PySem.W.Frag) : List V → Hp → VK → Prop := fun xs H Q => ∃ (x : V) (d : PyData), xs = [x] ∧ Dq K H x d ∧ d.depth ≤ 50 ∧ wt d ≤ 1000000 ∧ Q (.str d.shown) H
theorem call_reprQ {X : Cx} {K : PySem.W.Frag} (hK : X.K = K) (S : SysD K) (hG : X.A.guards = some []) (hu : X.A.units + 64 < cLine) : CallR X (.builtin "repr") (rReprQ K) := by
  subst hK
  intro pins s σ H xs us Q I rv h
  obtain ⟨x, d, rfl, hd, hdp, hw, q⟩ := h
  obtain ⟨hs, hz'⟩ := hd.size
  have hz : d.shown.length ≤ sizeLine := Nat.le_trans (Nat.le_trans hz' hw) (by rw [sizeLine_eq]; decide)
  cases rv with
  | cons rx rn =>
    cases rn
    have fin : ∀ (tk : Nat) (u : Tok), EP X pins σ Q (.str d.shown u) { s with toks := tk } := fun tk u => ⟨.str d.shown, H, I.tok _, ⟨u, rfl⟩, q⟩
    obtain ⟨as, rd, hn⟩ := Dq.reads S I d x _ hd rx
    cases hd with
    | non => cases rx; exact PySem.P.repr_of_none (fin _ _)
    | bl b => cases rx; cases b <;> exact PySem.P.repr_of_bool (fin _ _)
    | int i _ =>
      obtain ⟨t, rfl⟩ := rx
      rw [PyData.showable] at hs
      exact PySem.P.repr_of_int (of_decide_eq_true hs) (fin _ _)
    | str y _ => obtain ⟨t, rfl⟩ := rx; exact PySem.P.repr_of_str (fin _ _) hz
    | lst ha _ hb =>
      cases rx
      exact repr_of_reads' rd hs (fun _ => hn) hG (by omega) (fun _ _ z => z) (fun h' u tk hk => ⟨.str _, H, I.kept (t' := tk) hk, ⟨u, rfl⟩, q⟩) hz
    | tup ha hb =>
      cases rx
      exact repr_of_reads' rd hs (fun _ => hn) hG (by omega) (fun _ _ z => z) (fun h' u tk hk => ⟨.str _, H, I.kept (t' := tk) hk, ⟨u, rfl⟩, q⟩) hz
    | dic ha =>
      cases rx
      exact repr_of_reads' rd hs (fun _ => hn) hG (by omega) (fun _ _ z => z) (fun h' u tk hk => ⟨.str _, H, I.kept (t' := tk) hk, ⟨u, rfl⟩, q⟩) hz
/-! ### a tuple beside the empty one -/
def rEqE (K : PySem.W.Frag) : R2 := fun x y H Q => ∃ (a b : Addr) (xs : List V), x = .ref a ∧ y = .ref b ∧ SqT K H a xs ∧ SqT K H b [] ∧ Q (.bl (decide (xs = []))) H
theorem op_eqE {X : Cx} (hu : X.A.units + 64 < cLine) : OpR X (compareOp .Eq) (rEqE X.K) := by
  intro pins s σ H x y v u Q I rx ry h
  obtain ⟨a, b, xs, rfl, rfl, ha, hb, q⟩ := h
  cases rx
  cases ry
  obtain ⟨its, rv, tu, _⟩ := I.tuple ha
  obtain ⟨its2, rv2, tu2, _⟩ := I.tuple hb
  cases rv2
  refine SeqAt.eq_tupleAt (e := fun _ => true) tu tu2 (by omega) (fun j _ h2 => (Nat.not_lt_zero _ h2).elim) ?_
  refine ⟨.bl (decide (xs = [])), H, I, ?_, q⟩
  show Value.bool _ = Value.bool _
  congr 1
  have hl := rv.length
  cases xs with
  | nil =>
    cases rv
    rfl
  | cons a r =>
    cases its with
    | nil => cases rv
    | cons b t => simp
def rNeE (K : PySem.W.Frag) : R2 := fun x y H Q => ∃ (a b : Addr) (xs : List V), x = .ref a ∧ y = .ref b ∧ SqT K H a xs ∧ SqT K H b [] ∧ Q (.bl (!decide (xs = []))) H
theorem op_neE {X : Cx} (hu : X.A.units + 64 < cLine) : OpR X (compareOp .NotEq) (rNeE X.K) := by
  intro pins s σ H x y v u Q I rx ry h
  obtain ⟨a, b, xs, rfl, rfl, ha, hb, q⟩ := h
  cases rx
  cases ry
  obtain ⟨its, rv, tu, _⟩ := I.tuple ha
  obtain ⟨its2, rv2, tu2, _⟩ := I.tuple hb
  cases rv2
  refine SeqAt.RcNeAt.tuples (e := fun _ => true) tu tu2 (by omega) (fun j _ h2 => (Nat.not_lt_zero _ h2).elim) X.prog X.w _ _ ?_
  refine ⟨.bl (!decide (xs = [])), H, I, ?_, q⟩
  show Value.bool _ = Value.bool _
  congr 1
  have hl := rv.length
  cases xs with
  | nil =>
    cases rv
    rfl
  | cons a r =>
    cases its with
    | nil => cases rv
    | cons b t => simp
/-! ### x in a tuple of data -/
def rInT (K : PySem.W.Frag) : R2 := fun x y H Q => ∃ d ds, Dp K H x d ∧ Dp K H y (.tuple ds) ∧ SeqAt.shaped d = true ∧ SeqAt.shaped (.tuple ds) = true ∧ Q (.bl (ds.any fun z => PyData.eqv z d)) H
def rNotInT (K : PySem.W.Frag) : R2 := fun x y H Q => ∃ d ds, Dp K H x d ∧ Dp K H y (.tuple ds) ∧ SeqAt.shaped d = true ∧ SeqAt.shaped (.tuple ds) = true ∧ Q (.bl (!ds.any fun z => PyData.eqv z d)) H
theorem op_inT {X : Cx} (hu : X.A.units + 65 < cLine) : OpR X (compareOp .In) (rInT X.K) := by
  intro pins s σ H x y v u Q I rx ry h
  obtain ⟨d, ds, hd, he, sd, se, q⟩ := h
  obtain ⟨as, r1⟩ := Dp.reads I d x v hd rx
  obtain ⟨bs, r2⟩ := Dp.reads I (.tuple ds) y u he ry
  exact SeqAt.in_tuple_reads r2 r1 (SeqAt.canLay_of_shaped se) (SeqAt.canLay_of_shaped sd) (room_in_shaped sd hu) ⟨.bl _, H, I, rfl, q⟩
theorem op_notInT {X : Cx} (hu : X.A.units + 65 < cLine) : OpR X (compareOp .NotIn) (rNotInT X.K) := by
  intro pins s σ H x y v u Q I rx ry h
  obtain ⟨d, ds, hd, he, sd, se, q⟩ := h
  obtain ⟨as, r1⟩ := Dp.reads I d x v hd rx
  obtain ⟨bs, r2⟩ := Dp.reads I (.tuple ds) y u he ry
  exact SeqAt.notIn_tuple_reads r2 r1 (SeqAt.canLay_of_shaped se) (SeqAt.canLay_of_shaped sd) (room_in_shaped sd hu) ⟨.bl _, H, I, rfl, q⟩
end Dq

set_option Elab.async false
set_option linter.all false
set_option maxRecDepth 100000
set_option maxHeartbeats 2000000
/-! one of a row: of a list, a tuple, a text -/
namespace Pk
open PySem PySem.Spec PyProof.Rows L2 Rd
def rIxO (r r' : R2) : R2 := fun x y H Q => r x y H Q ∨ r' x y H Q
theorem IxR_or {X : Cx} {r r' : R2} (h : IxR X r) (h' : IxR X r') : IxR X (rIxO r r') := by
  intro value slice pins s σ H x y v u Q I rx ry q hs
  rcases q with q | q
  · exact h value slice pins s σ H x y v u Q I rx ry q hs
  · exact h' value slice pins s σ H x y v u Q I rx ry q hs
/-- the signs of a text, the items of a row -/
inductive Row (H : Hp) : V → List V → Prop
  | lst {a : Addr} {xs : List V} : H a = some (.lst xs) → Row H (.ref a) xs
  | tup {a : Addr} {xs : List V} : H a = some (.tup xs) → Row H (.ref a) xs
  | str (z : Str) (h : z.length ≤ sizeLine) : Row H (.str z) (z.cps.toList.map fun c => V.str ⟨#[c]⟩)
theorem Row.but {H H' : Hp} {u : Addr} {x : V} {xs : List V} (h : Row H x xs) (hb : But u H H') (hu : x ≠ .ref u) : Row H' x xs := by
  cases h with
  | lst e => exact .lst (hb _ _ (fun z => hu (by rw [z])) e)
  | tup e => exact .tup (hb _ _ (fun z => hu (by rw [z])) e)
  | str z h => exact .str z h
def rIxR : R2 := fun x y H Q => ∃ xs i v, Row H x xs ∧ y = .int i ∧ 0 ≤ i ∧ i < 2 ^ 60 ∧ xs[i.toNat]? = some v ∧ Q v H
theorem ix_row {X : Cx} : IxR X rIxR := by
  intro value slice pins s σ H x y v u Q I rx ry h hs
  obtain ⟨xs, i, z, hR, rfl, h0, h6, hz, q⟩ := h
  cases hR with
  | lst e => exact ix_list value slice pins s σ H _ _ v u Q I rx ry ⟨_, _, _, _, rfl, rfl, SqL.of e, atI_nn h0 hz, q⟩ hs
  | tup e => exact ix_tup value slice pins s σ H _ _ v u Q I rx ry ⟨_, _, _, _, rfl, rfl, SqT.of e, atI_nn h0 hz, q⟩ hs
  | str t ht =>
    rw [List.getElem?_map] at hz
    obtain ⟨c, hc, rfl⟩ := Option.map_eq_some_iff.mp hz
    have hl : i.toNat < t.cps.toList.length := (List.getElem?_eq_some_iff.mp hc).1
    exact ix_str value slice pins s σ H _ _ v u Q I rx ry ⟨_, _, _, rfl, rfl, ht, atI_nn h0 hc, q⟩ hs
def rLenR : List V → Hp → VK → Prop := fun vs H Q => ∃ x xs, vs = [x] ∧ Row H x xs ∧ Q (.int (xs.length : Nat)) H
theorem call_lenR {X : Cx} : CallR X (.builtin "len") rLenR := by
  intro pins s σ H vs us Q I r h
  obtain ⟨x, xs, rfl, hR, q⟩ := h
  cases hR with
  | lst e => exact call_len_seq pins s σ H _ us Q I r ⟨_, _, rfl, .inl (SqL.of e), q⟩
  | tup e => exact call_len_seq pins s σ H _ us Q I r ⟨_, _, rfl, .inr (SqT.of e), q⟩
  | str t ht => exact call_len_str pins s σ H _ us Q I r ⟨t, rfl, ht, by rw [List.length_map, Array.length_toList] at q; exact q⟩
theorem vals_at : ∀ (ys : List V) (us : List Value), ys.length = us.length → (∀ (j : Nat) (v : V) (u : Value), ys[j]? = some v → us[j]? = some u → RelV v u) → Vals ys us
  | [], [], _, _ => .nil
  | [], _ :: _, h, _ => nomatch h
  | _ :: _, [], h, _ => nomatch h
  | y :: ys, u :: us, h, g => .cons (g 0 _ _ rfl rfl) (vals_at ys us (Nat.succ.inj h) fun j v u a b => g (j + 1) v u a b)
def rSigns : List V → Hp → VK → Prop := fun xs H Q => ∃ z : Str, xs = [.str z] ∧ z.length ≤ sizeLine ∧ ∀ l, H l = none → Q (.ref l) (upd H l (.lst (z.cps.toList.map fun c => V.str ⟨#[c]⟩)))
/-- list(a text) -/
theorem call_list_signs {X : Cx} (hh : X.A.handled = none) : CallR X (.type "list") rSigns := by
  intro pins s σ H xs us Q I r h
  obtain ⟨z, rfl, hz, q⟩ := h
  obtain ⟨u, rfl, rx⟩ := vals1 r
  obtain ⟨t, rfl⟩ := rx
  refine PySem.call_list_str hh z t (hn := hz) fun h' tk acc' c' hk hS' hacc => ?_
  have hv : Vals (z.cps.toList.map fun c => V.str ⟨#[c]⟩) acc'.toList := by
    refine vals_at _ _ ?_ fun j v u hj hu => ?_
    · rw [List.length_map, Array.length_toList, Array.length_toList]; exact hacc.1.symm
    · obtain ⟨c, k, hc, rfl⟩ := hacc.2 j u (by simpa using hu)
      rw [List.getElem?_map, Array.getElem?_toList, hc] at hj
      cases hj
      exact ⟨k, rfl⟩
  exact ⟨.ref s.heap.objs.size, _, I.laid (t' := tk) hk (Nat.le_refl _) (show ObjOk X.prog X.w _ h' _ (.lst (z.cps.toList.map fun c => V.str ⟨#[c]⟩)) from ⟨by rw [List.length_map, Array.length_toList]; exact hz, acc'.toList, c', hv, by simpa using hS'⟩), rfl, q _ (I.hok.fresh (Nat.le_refl _))⟩
/-- a tuple as a comprehension's target -/
theorem pg_tupK {X : Cx} {K : PySem.W.Frag} {es : List Expr} {k : Nat} {pos : Pos} {t : TGs} {n : Nat} (hK : X.K = K) (hc : X.calm = true) (h : PGs X es t)
    (hn : (assignEach es X.env).length = n) (hst : (assignEach es X.env).findIdx? (·.1) = none) : PG X (.Tuple es k pos) (gTup K n t) := by
  subst hK
  exact pg_tup hc h hn hst
end Pk

set_option Elab.async false
set_option linter.all false
set_option maxRecDepth 100000
set_option maxHeartbeats 2000000
/-! a head's hook that looks at the modules' table too -/
namespace Sm
open PySem PySem.Spec PyProof.Rows L2
open He in
def obsS (n : Nat) (fa : List Fa) (fn : List DefD) (ex : PySem.W.Frag → Bool) (g : Addr → Option Obj) : Ga.AlM := (obsD fa fn (frG g (sysModules :: asD g n)), ex (frG g (sysModules :: asD g n)))
open He in
def hookS (n : Nat) (fa : List Fa) (fn : List DefD) (ex : PySem.W.Frag → Bool) : PySem.W.Hook where
  α := Ga.AlM
  obs := fun s => obsS n fa fn ex s.heap.get?
  val := fun _ => (valD fn, true)
  says := fun _ h => ∃ K : PySem.W.Frag, K.In h ∧ SaysD fa fn K ∧ ex K = true
  of := fun _ _ e => ⟨_, frG_in, congrArg Prod.fst e, congrArg Prod.snd e⟩
  keeps := fun _ _ _ ⟨K, hK, c⟩ k => ⟨K, PySem.W.Frag.In.keeps hK k, c⟩
open He in
theorem obsS_eq {n : Nat} {fa : List Fa} {fn : List DefD} {ex : PySem.W.Frag → Bool} {g : Addr → Option Obj} {s : Shared} (h : ∀ a, g a = s.heap.get? a) : obsS n fa fn ex g = (hookS n fa fn ex).obs s := by
  obtain rfl : g = s.heap.get? := funext h
  rfl
def sysB (K : PySem.W.Frag) : Bool := match K.lookup sysModules with
  | some o => decide (o.cls = .type "dict")
  | none => false
theorem sysB_ok {K : PySem.W.Frag} (h : sysB K = true) : Dq.SysD K := by
  unfold sysB at h
  split at h
  · rename_i o e
    exact ⟨o, e, of_decide_eq_true h⟩
  · cases h
end Sm

set_option Elab.async false
set_option linter.all false
set_option maxRecDepth 100000
set_option maxHeartbeats 2000000
/-! behind x = e.m("c") a token is out: what str.replace with written texts wants -/
namespace Rp
open PySem PySem.Spec PyProof.Rows L2 Rd CwR
section
variable {X : Cx} {o : Expr} {to : TE} {name : Str} {apos cpos cp pos pos' : Pos} {T id : String} {r : V → List V → Hp → VK → Prop} {i j : Nat} {x c : Str} {rest : List Stmt} {u : TS}
theorem pss_bmC (hN : X.N.Nodup) (hi : X.N[i]? = some x) (hx : Loc X.env.scope x) (pa : PlainAttrs T) (slot : Slot T name id) (hty : typeOf (.builtin id) = pure (.type "method_descriptor")) (hm : MtR X id r) (ho : PE X o to) (h2 : PSsT X rest u)
    (hs : swapsWith (.Call (.Attribute o name apos) [.Constant (.str c) j cp] [] cpos) (some (.Name x pos')) pos.line X.env = pure false := by rfl)
    (hf : X.fn x = true ∨ X.env.scope.names.lookup x = some .local := by first | exact .inl rfl | exact .inr rfl | assumption)
    (hbase : attributeBase o name X.env (eval o X.env) = eval o X.env := by rfl)
    (hfew : ((backTo cpos (starEach [.Constant (.str c) j cp] X.env)).all (fun x => !x.1) && (backToKw cpos (keywordEach [] X.env)).all (fun x => x.1.isSome)
      && decide (([.Constant (.str c) j cp] : List Expr).length + ([] : List Keyword).length + (if ([] : List Keyword).isEmpty then 0 else 1) < 30)) = true := by rfl)
    (hline : (apos.endLine == cpos.line) = true := by rfl) (hst : starEach [.Constant (.str c) j cp] X.env = [(false, eval (.Constant (.str c) j cp) X.env)] := by rfl) :
    PSs X (.Assign [.Name x pos'] (.Call (.Attribute o name apos) [.Constant (.str c) j cp] [] cpos) pos :: rest) (tSeq (tAsg (tBM X.K T r to (tCons (tC (.str c)) tNil)) (gName i)) u) := by
  refine ⟨fun pins s σ H D I h => ?_⟩
  refine wpAny_execs_cons (wpAny_Assign_Name (wpAny_Call_method_late hbase hfew hline rfl (thn (ho.run pins s σ H _ I h) fun v s1 ⟨y, H1, I1, r1, ty, q1⟩ => ?_)) hs)
  obtain ⟨h1, h3⟩ := tyV_is I1 r1 ty
  refine ⟨T, id, pa, slot, hty, h1, h3, ?_⟩
  rw [hst]
  refine Calls.callWith_builtin rfl (Calls.evalArgs_plain ?_)
  refine Calls.spliced_cons (Calls.Constant_str (k := j) (pos := cp) (Calls.spliced_nil ?_))
  refine wpAny_mono (PySem.wpAny_toks (hm pins { s1 with toks := s1.toks + 1 } σ H1 y [.str c] v [.str c s1.toks] _ (I1.tok _) r1 (.cons ⟨_, rfl⟩ .nil) q1)) (fun w s2 q => ?_) (fun _ _ z => z.2)
  obtain ⟨hk, z, H2, I2, r2, q2⟩ := q
  refine wpAny_mono (PySem.wpAny_toks (store_ok (v := z) (u := w) (Q := fun _ s3 => Inv X pins (σ.set i (some z)) H2 s3) I2 hN hi hx r2 (fun _ I3 => I3) hf)) (fun _ s3 q => ?_) fun _ _ z => z.2
  have hk2 : s2.toks ≤ s3.toks := q.1
  have hk' : s1.toks + 1 ≤ s2.toks := hk
  exact h2 pins s3 _ H2 D (by omega) q.2 q2
theorem pst_asg {tg e : Expr} {te : TE} {g : TG} (he : PET X e te) (hg : PG X tg g) (hs : swapsWithSole [tg] e pos.line X.env = pure false := by rfl) (hw : swappedStores [tg] e X.env = pure none := by rfl)
    (h1 : (assignEach [tg] X.env).map (·.2) = [assign tg X.env] := by rfl) : PST X (.Assign [tg] e pos) (tAsg te g) := by
  intro pins s σ H D h0 I h
  refine wpAny_Assign_stores (thn (he pins s σ H _ h0 I h) fun v s1 ⟨x, H1, I1, r1, q1⟩ => ?_) hs hw
  rw [h1]
  exact thn (hg.run pins s1 σ H1 x v _ I1 r1 q1) fun _ s2 q => q
theorem tReplC_ {y z : Str} {σ : L2.St} {H : Hp} {Q : VK} : tReplC to y z σ H Q = to σ H fun v H1 => ∃ x, v = .str x ∧ x.length + (x.length + 1) * z.length ≤ 16777216 ∧ Q (.str (Txt.replace x y z)) H1 := rfl
end
end Rp

set_option Elab.async false
set_option linter.all false
set_option maxRecDepth 100000
set_option maxHeartbeats 2000000
/-! a text so many times -/
namespace Mu
open PySem PySem.Spec PyProof.Rows L2 Rd
def rMulS : R2 := fun x y H Q => ∃ (s : Str) (n : Int), x = .str s ∧ y = .int n ∧ 0 ≤ n ∧ n ≤ 1000 ∧ s.length ≤ 10000 ∧ Q (.str (Txt.mul s n)) H
theorem rMulS_ {x y : V} {H : Hp} {Q : VK} : rMulS x y H Q = ∃ (s : Str) (n : Int), x = .str s ∧ y = .int n ∧ 0 ≤ n ∧ n ≤ 1000 ∧ s.length ≤ 10000 ∧ Q (.str (Txt.mul s n)) H := rfl
theorem op_mulS {X : Cx} : OpR X (binaryOp .Mult) rMulS := by
  intro pins s σ H x y v u Q I rx ry h
  obtain ⟨z, n, rfl, rfl, h0, h1, hz, q⟩ := h
  obtain ⟨t, rfl⟩ := rx
  obtain ⟨t2, rfl⟩ := ry
  have hb : z.length * n.toNat ≤ 10000000 := by
    have := Nat.mul_le_mul hz (show n.toNat ≤ 1000 by omega)
    omega
  refine SB.mul ⟨?_, fun hn _ => ?_, fun hn _ => ?_⟩ fun t' k => ⟨.str (Txt.mul z n), H, I.tok k, ⟨t', rfl⟩, q⟩
  · rw [decide_eq_false (by omega), decide_eq_false (by omega)]; rfl
  · intro hh
    have h2 : (1 : Int) ≤ n := by omega
    have h3 : (10000 : Int) ≤ (2 ^ 63 - 1) / n := by
      rw [Int.le_ediv_iff_mul_le (by omega)]
      omega
    omega
  · show decide (z.length * n.toNat > sizeLine) = false
    exact decide_eq_false (by rw [sizeLine_eq] ; omega)
theorem foldl_to (a : Array Nat) : ∀ (m : Nat) (acc : Array Nat), ((List.replicate m a).foldl (· ++ ·) acc).toList = acc.toList ++ (List.replicate m a.toList).flatten
  | 0, acc => by simp
  | m + 1, acc => by
    rw [List.replicate_succ, List.foldl_cons, foldl_to a m, List.replicate_succ, List.flatten_cons, Array.toList_append, List.append_assoc]
theorem mul_len {s : Str} {n : Int} {m k : Nat} (h : s.length ≤ m) (hn : n.toNat ≤ k) : (Txt.mul s n).length ≤ k * m := by
  unfold Txt.mul
  split
  · show 0 ≤ _
    exact Nat.zero_le _
  · split
    · rename_i h1 _
      have : 1 ≤ k := by omega
      exact Nat.le_trans h (Nat.le_mul_of_pos_left m this)
    · have e := foldl_to s.cps n.toNat #[]
      have l : (((List.replicate n.toNat s.cps).foldl (· ++ ·) #[]).toList).length = n.toNat * s.length := by
        rw [e, List.length_append, List.length_flatten, List.map_replicate, List.sum_replicate_nat]
        show 0 + n.toNat * s.cps.toList.length = _
        rw [Nat.zero_add]; rfl
      show ((List.replicate n.toNat s.cps).foldl (· ++ ·) #[]).size ≤ _
      rw [← Array.length_toList, l]
      exact Nat.mul_le_mul hn h
theorem mul_mem {s : Str} {n : Int} {c : Nat} (h : c ∈ (Txt.mul s n).cps.toList) : c ∈ s.cps.toList := by
  unfold Txt.mul at h
  split at h
  · cases (show c ∈ ([] : List Nat) from h)
  · split at h
    · exact h
    · have e := foldl_to s.cps n.toNat #[]
      have h' : c ∈ ((List.replicate n.toNat s.cps).foldl (· ++ ·) #[]).toList := h
      rw [e] at h'
      rcases List.mem_append.mp h' with z | z
      · cases z
      · obtain ⟨l, h1, h2⟩ := List.mem_flatten.mp z
        rw [(List.mem_replicate.mp h1).2] at h2
        exact h2
end Mu

set_option Elab.async false
set_option linter.all false
set_option maxRecDepth 100000
set_option maxHeartbeats 2000000
/-! repr of a list of data; f(k = v, ..) within a try -/
namespace Rl
open PySem PySem.Spec PyProof.Rows L2 Rd Dt Dq
def rReprL (K : PySem.W.Frag) : List V → Hp → VK → Prop := fun vs H Q => ∃ (a : Addr) (xs : List V) (ds : List PyData), vs = [.ref a] ∧ H a = some (.lst xs) ∧ DqAll K H xs ds ∧ PyData.depthAll ds ≤ 49 ∧ wtAll ds ≤ 1000000 ∧ Q (.str (PyData.list ds).shown) H
theorem rReprL_ {K : PySem.W.Frag} {vs : List V} {H : Hp} {Q : VK} : rReprL K vs H Q = ∃ (a : Addr) (xs : List V) (ds : List PyData), vs = [.ref a] ∧ H a = some (.lst xs) ∧ DqAll K H xs ds ∧ PyData.depthAll ds ≤ 49 ∧ wtAll ds ≤ 1000000 ∧ Q (.str (PyData.list ds).shown) H := rfl
theorem call_reprL {X : Cx} {K : PySem.W.Frag} (hK : X.K = K) (S : SysD K) (hG : X.A.guards = some []) (hu : X.A.units + 64 < cLine) : CallR X (.builtin "repr") (rReprL K) := by
  subst hK
  intro pins s σ H xs us Q I rv h
  obtain ⟨a, ys, ds, rfl, ha, hD, hdp, hw, q⟩ := h
  obtain ⟨h1, h2, h3⟩ := DqAll.size ds _ hD
  have hs : (PyData.list ds).showable = true := by rw [PyData.showable, h1]
  have hz' : (PyData.list ds).shown.length ≤ 3 + wtAll ds := by
    rw [PyData.shown]
    have := listText_len_le (PyData.shownAll ds)
    omega
  have hz : (PyData.list ds).shown.length ≤ sizeLine := Nat.le_trans hz' (Nat.le_trans (show 3 + wtAll ds ≤ 1000003 by omega) (by rw [sizeLine_eq]; decide))
  have hd : (PyData.list ds).depth ≤ 50 := by rw [PyData.depth]; omega
  cases rv with
  | cons rx rn =>
    cases rn
    cases rx
    obtain ⟨its, rv, ⟨o, n, ho, hc, _, hd'⟩, _⟩ := I.list (SqL.of ha)
    obtain ⟨as, hr, hn⟩ := DqAll.reads S I ds _ its hD rv
    have nm : sysModules ∉ a :: as := fun z => by
      rcases List.mem_cons.mp z with z | z
      · obtain ⟨o', k1, k2⟩ := S
        have e := I.kIn _ _ k1
        rw [z, ho] at e
        cases e
        exact absurd (Value.type.inj (hc.symm.trans k2)) (by decide)
      · exact hn z
    exact repr_of_reads' (Reads.list ho hc hd' hr) hs (fun _ => nm) hG (by omega) (fun _ _ z => z) (fun h' u tk hk => ⟨.str _, H, I.kept (t' := tk) hk, ⟨u, rfl⟩, q⟩) hz
def tCallKS (sp : Sp) (gV : List V → List V) (m : Nat) (E : L2.St → XK) (tk : TA) : TE := fun σ H Q => tk σ H fun zs H1 => zs.length = m ∧ sp (gV zs) H1 Q (E σ)
theorem tCallKS_ {sp : Sp} {gV : List V → List V} {m : Nat} {E : L2.St → XK} {tk : TA} {σ : L2.St} {H : Hp} {Q : VK} : tCallKS sp gV m E tk σ H Q = tk σ H fun zs H1 => zs.length = m ∧ sp (gV zs) H1 Q (E σ) := rfl
section
variable {X : Cx} {CX : CXT} {k : Nat} {f : Addr} {fd : FuncData} {ps ks : List Str} {sp : Sp} {E : L2.St → XK} {x : Str} {p pos : Pos} {kws : List Keyword} {tk : TA} {g : List Value → List Value} {gV : List V → List V}
theorem pe_callKwS (F : FnOk X.prog X.w X.K X.mg X.base CX k f fd ps sp) (hr : Room k X.A) (hg : Gl X x) (hm : X.mg x = some (.ref f)) (hk : PySem.W.keepIn X.K (.ref f) = true)
    (hb : KBn X.K fd ps 0 ks (fun _ ws => g ws) (fun _ zs => gV zs)) (hx : ∀ σ, PassesAt CX X σ (E σ)) (hkw : PK X kws tk)
    (hall : (backToKw pos (keywordEach kws X.env)).all (·.1.isSome) = true := by rfl) (hks : (backToKw pos (keywordEach kws X.env)).filterMap (·.1) = ks := by rfl)
    (hdb : (x == ("__debug__" : Str)) = false := by decide)
    (hpl : ((backTo pos (starEach [] X.env)).any (·.1) || (backToKw pos (keywordEach kws X.env)).any (·.1.isNone)) = false := by rfl) :
    PE X (.Call (.Name x p) [] kws pos) (tCallKS sp gV ks.length E tk) := by
  constructor
  intro pins s σ H Q I h
  refine wpAny_Call_Name_kw (ld_glob I hg hm ?_ hdb)
  refine PySem.W.callWith_KW0 (h₀ := X.base) I.ok.mod.kin hk hall ?_ hpl
  refine thn (hkw.run pos pins s σ H _ I h) ?_
  rintro ws s2 ⟨zs, H2, I2, rz, l2, q2⟩
  refine ⟨I2.kIn, ?_⟩
  rw [hks]
  have r2 := hb.rel (.nil : Vals [] []) rz
  refine wpAny_call (codeAny_mono (F.run X.A X.stack s2 H2 ⟨[], ks.zip ws⟩ (g ws) (gV zs) Q (E σ) hr I2.env0 (hb.to s2 [] ws I2.kIn rfl (rz.length.symm.trans l2)) r2 q2) fun r s' hq => ?_)
  cases r with
  | error e => exact hx σ pins H2 s2 e s' I2 hq
  | ok fl =>
    cases fl with
    | ret u => exact I2.after hq
    | next => exact False.elim hq
    | brk => exact False.elim hq
    | cont => exact False.elim hq
end
end Rl

set_option Elab.async false
set_option linter.all false
set_option maxRecDepth 100000
set_option maxHeartbeats 2000000
/-! comprehensions over a text; dicts whose keys are texts -/
namespace Ls
open PySem PySem.Spec PyProof.Rows L2 Rd Dt
section
variable {K : PySem.W.Frag} {H : Hp} {σ : L2.St} {Q : VK} {g : TG} {tt : TT} {te ta : TE} {vs : List Nat}
theorem tLc_str : tLc (iStr ta) g tt te vs σ H Q = ta σ H fun v H1 => ∃ x, v = .str x ∧ tLc (fun _ H R => R (Its x) H) g tt te vs σ H1 Q := rfl
theorem lc_s {z : Str} (Pv : Addr → Nat → Hp → Prop) (h : ∀ D, H D = none → Pv D 0 (upd H D (.lst [])) ∧ (∀ i c H', z.cps.toList[i]? = some c → Pv D i H' → Lturn g tt te vs σ D (.str ⟨#[c]⟩) H' (Pv D (i + 1))) ∧ (∀ H', Pv D z.cps.toList.length H' → Q (.ref D) H')) :
    tLc (fun _ H R => R (Its z) H) g tt te vs σ H Q := fun D hD => lc_it walk_str (Pv D) (h D hD).1 (fun _ _ _ _ => trivial) (fun i x H H' hi hp hy => by
      obtain ⟨e, c, hc, hx⟩ := hy
      subst e hx
      exact (h D hD).2.1 i c _ (by rw [Array.getElem?_toList]; exact hc) hp) (by
      have := (h D hD).2.2
      rwa [Array.length_toList] at this)
theorem sDPut_ {td ty tv : TE} {D : Ends} : sDPut td ty tv D σ H = tv σ H fun v H1 => td σ H1 fun x H2 => ty σ H2 fun y H3 => ∃ a H4, x = .ref a ∧ DPut H3 a y v H4 ∧ D.nx σ H4 := rfl
end
/-- x in a list, within a comprehension -/
theorem op_in_seqK {X : Cx} {K : PySem.W.Frag} (hK : X.K = K) : OpR X (compareOp .In) (rIn K false) := by
  subst hK
  exact op_in_seq
/-- a dict whose keys are these texts -/
def DS (H : Hp) (p : Addr) (ks : List Str) : Prop := ∃ kvs : List (Key × V), H p = some (.dK kvs) ∧ kvs.map (·.1) = ks.map Sum.inr
theorem putK_keys {kvs : List (Key × V)} {ks : List Str} (h : kvs.map (·.1) = ks.map Sum.inr) (c : Str) (v : V) : (putK kvs (Sum.inr c) v).map (·.1) = (if c ∈ ks then ks else ks ++ [c]).map Sum.inr := by
  have ha : (kvs.any fun kv => decide (kv.1 = Sum.inr c)) = decide (c ∈ ks) := by
    have e1 : (kvs.any fun kv => decide (kv.1 = Sum.inr c)) = ((kvs.map (·.1)).any fun k => decide (k = Sum.inr c)) := by
      rw [List.any_map]; rfl
    rw [e1, h, List.any_map]
    rw [Bool.eq_iff_iff, List.any_eq_true, decide_eq_true_eq]
    constructor
    · rintro ⟨x, hx, e⟩
      have : (Sum.inr x : Key) = Sum.inr c := of_decide_eq_true e
      injection this with this
      rw [← this]; exact hx
    · exact fun hx => ⟨c, hx, decide_eq_true rfl⟩
  unfold putK
  rw [ha]
  by_cases hc : c ∈ ks
  · rw [if_pos (decide_eq_true hc), if_pos hc, ← h, List.map_map]
    refine List.map_congr_left fun kv _ => ?_
    show (if kv.1 = Sum.inr c then (kv.1, v) else kv).1 = kv.1
    split <;> rfl
  · rw [if_neg (by rw [decide_eq_false hc]; decide), if_neg hc, List.map_append, h, List.map_append]
    rfl
theorem DS.put {H : Hp} {p : Addr} {ks : List Str} (h : DS H p ks) (hl : ks.length < sizeLine) (c : Str) (v : V) : ∃ H', DPut H p (.str c) v H' ∧ DS H' p (if c ∈ ks then ks else ks ++ [c]) ∧ ∃ o, H' = upd H p o := by
  obtain ⟨kvs, e, hk⟩ := h
  refine ⟨_, DPut.k (k := Sum.inr c) (v := v) e ?_, ⟨_, upd_same, putK_keys hk c v⟩, _, rfl⟩
  have := congrArg List.length hk
  rw [List.length_map, List.length_map] at this
  omega
end Ls

set_option Elab.async false
set_option linter.all false
set_option maxRecDepth 100000
set_option maxHeartbeats 2000000
/-! trees of programs as data -/
namespace K38
open PySem PySem.Spec PyProof.Rows L2 Rd Dt Dq
def abc : Str := "abcdefghijklmnopqrstuvwxyz"
def isLetterS (s : Str) : Bool := match s.cps.toList with
  | [c] => decide (c ∈ abc.cps.toList)
  | _ => false
def isLetter : PyData → Bool
  | .str s => isLetterS s
  | _ => false
def isGoal : PyData → Bool
  | .str s => isLetterS s || decide (s = "END")
  | _ => false
def deedRest (k : Str) : List PyData → Bool
  | [b] => if k = "next" then isLetter b else (decide (k = "copy") || decide (k = "tie")) && isGoal b
  | _ => false
def isDeed : PyData → Bool
  | .tuple (.str k :: a :: r) => isLetter a && (if k = "new" ∨ k = "drop" then r.isEmpty else deedRest k r)
  | _ => false
def isComp : PyData → Bool
  | .tuple [.str s, a, b] => (decide (s = "=") || decide (s = "!=")) && (isLetter a && isGoal b)
  | _ => false
def isTest : PyData → Bool
  | .tuple [.str k, .tuple cs] => (decide (k = "and") || decide (k = "or")) && (decide (1 ≤ cs.length ∧ cs.length ≤ 3) && (!(decide (cs.length = 1) && decide (k = "or")) && cs.all isComp))
  | _ => false
def treeOf (f : PyData → Bool) : PyData → Bool
  | .tuple ds => ds.all f
  | _ => false
def isSt : Nat → PyData → Bool
  | 0, d => isDeed d
  | n + 1, d => isDeed d || match d with
    | .tuple [.str k, t, a, b] => decide (k = "if") && (isTest t && (treeOf (isSt n) a && treeOf (isSt n) b))
    | .tuple [.str k, t, a] => decide (k = "while") && (isTest t && treeOf (isSt n) a)
    | _ => false
def cntOf (f : PyData → Nat) : PyData → Nat
  | .tuple ds => (ds.map f).sum
  | _ => 0
def cntSt : Nat → PyData → Nat
  | 0, _ => 1
  | n + 1, d => match d with
    | .tuple [.str k, _, a, b] => if k = "if" then 1 + (cntOf (cntSt n) a + cntOf (cntSt n) b) else 1
    | .tuple [.str k, _, a] => if k = "while" then 1 + cntOf (cntSt n) a else 1
    | _ => 1
def strOf : PyData → Str
  | .str s => s
  | _ => Str.empty
def deedText : PyData → Str
  | .tuple [.str k, a] => if k = "new" then strOf a ++ " = new" else "drop " ++ strOf a
  | .tuple [.str k, a, b] => if k = "next" then strOf a ++ " = next " ++ strOf b else (if k = "tie" then ("next " : Str) else "") ++ strOf a ++ " = " ++ strOf b
  | _ => Str.empty
def compText : PyData → Str
  | .tuple [s, a, b] => strOf a ++ " " ++ strOf s ++ " " ++ strOf b
  | _ => Str.empty
def testText : PyData → Str
  | .tuple [k, .tuple cs] => Txt.join (" " ++ strOf k ++ " ") (cs.map compText)
  | _ => Str.empty
def treeTextOf (f : PyData → Str) : PyData → Str
  | .tuple ds => if ds = [] then "none" else Txt.join "; " (ds.map f)
  | _ => Str.empty
def noRows : PyData → Bool
  | .tuple ds => ds.isEmpty
  | _ => false
def stText : Nat → PyData → Str
  | 0, d => deedText d
  | n + 1, d => match d with
    | .tuple [.str k, t, a, b] => if k = "if" then ("if " ++ testText t ++ " { " ++ treeTextOf (stText n) a ++ " }") ++ (if noRows b = true then ("" : Str) else " else { " ++ treeTextOf (stText n) b ++ " }") else deedText d
    | .tuple [.str k, t, a] => if k = "while" then "while " ++ testText t ++ " { " ++ treeTextOf (stText n) a ++ " }" else deedText d
    | _ => deedText d
/-! ### bounds of the texts -/
structure Tok (s : Str) (n : Nat) : Prop where
  len : s.length ≤ n
  ok : PyData.strOk s = true
theorem Tok.mono {s : Str} {n m : Nat} (t : Tok s n) (h : n ≤ m) : Tok s m := ⟨Nat.le_trans t.len h, t.ok⟩
theorem strOk_append {a b : Str} (h : PyData.strOk a = true) (g : PyData.strOk b = true) : PyData.strOk (a ++ b) = true := by
  unfold PyData.strOk at *
  rw [Str.cps_append, Array.all_append, h, g]; rfl
theorem Tok.app {a b : Str} {n m : Nat} (h : Tok a n) (g : Tok b m) : Tok (a ++ b) (n + m) := ⟨by rw [Str.length_append]; exact Nat.add_le_add h.len g.len, strOk_append h.ok g.ok⟩
theorem join_ok {sep : Str} (hs : PyData.strOk sep = true) : ∀ ys : List Str, (∀ y ∈ ys, PyData.strOk y = true) → PyData.strOk (Str.join sep ys) = true
  | [], _ => by
    show PyData.strOk Str.empty = true
    decide +kernel
  | [x], h => h x List.mem_cons_self
  | x :: y :: r, h => by
    show PyData.strOk (x ++ sep ++ Str.join sep (y :: r)) = true
    exact strOk_append (strOk_append (h x List.mem_cons_self) hs) (join_ok hs (y :: r) fun z hz => h z (List.mem_cons_of_mem _ hz))
theorem sum_map_le {α : Type} (f g : α → Nat) : ∀ l : List α, (∀ x ∈ l, f x ≤ g x) → (l.map f).sum ≤ (l.map g).sum
  | [], _ => Nat.le_refl _
  | x :: l, h => by
    simp only [List.map_cons, List.sum_cons]
    exact Nat.add_le_add (h x List.mem_cons_self) (sum_map_le f g l fun y hy => h y (List.mem_cons_of_mem _ hy))
theorem join_tok {sep : Str} {n : Nat} {ys : List Str} (hs : PyData.strOk sep = true) (h : ∀ y ∈ ys, PyData.strOk y = true) (hl : (ys.map (·.length)).sum + ys.length * sep.length ≤ n) : Tok (Txt.join sep ys) n := by
  have e : Txt.join sep ys = Str.join sep ys := StrLaws.glued_eq_join sep ys
  rw [e]
  exact ⟨Nat.le_trans (StrLaws.join_length_le sep ys) hl, join_ok hs ys h⟩
theorem letter_tok {d : PyData} (h : isLetter d = true) : ∃ s, d = .str s ∧ Tok s 1 := by
  cases d with
  | str s =>
    refine ⟨s, rfl, ?_⟩
    have h' : isLetterS s = true := h
    unfold isLetterS at h'
    split at h'
    · rename_i c e
      refine ⟨?_, ?_⟩
      · show s.cps.size ≤ 1
        rw [← Array.length_toList, e]
        exact Nat.le_refl _
      · unfold PyData.strOk
        rw [← Array.all_toList, e]
        have m : c ∈ abc.cps.toList := of_decide_eq_true h'
        have all : ∀ c ∈ abc.cps.toList, c < 0x110000 := by decide +kernel
        simp only [List.all_cons, List.all_nil, Bool.and_true, decide_eq_true_eq]
        exact all c m
    · cases h'
  | _ => cases h
theorem goal_tok {d : PyData} (h : isGoal d = true) : ∃ s, d = .str s ∧ Tok s 3 := by
  cases d with
  | str s =>
    refine ⟨s, rfl, ?_⟩
    rcases Bool.or_eq_true_iff.mp (show (isLetterS s || decide (s = "END")) = true from h) with z | z
    · obtain ⟨s', e, t⟩ := letter_tok (d := .str s) z
      cases e
      exact t.mono (by decide)
    · rw [of_decide_eq_true z]
      exact ⟨by decide +kernel, by decide +kernel⟩
  | _ => cases h
theorem deed_cases {d : PyData} (h : isDeed d = true) : (∃ (k a : Str), d = .tuple [.str k, .str a] ∧ isLetterS a = true ∧ (k = "new" ∨ k = "drop")) ∨
    (∃ (k a b : Str), d = .tuple [.str k, .str a, .str b] ∧ isLetterS a = true ∧ ((k = "next" ∧ isLetterS b = true) ∨ ((k = "copy" ∨ k = "tie") ∧ isGoal (.str b) = true))) := by
  unfold isDeed at h
  split at h
  · rename_i k a r
    obtain ⟨h1, h2⟩ := Bool.and_eq_true_iff.mp h
    obtain ⟨s, rfl, _⟩ := letter_tok h1
    split at h2
    · rename_i hk
      cases r with
      | nil => exact .inl ⟨k, s, rfl, h1, hk⟩
      | cons x y => cases h2
    · unfold deedRest at h2
      split at h2
      · rename_i b
        split at h2
        · rename_i hn
          obtain ⟨s', rfl, _⟩ := letter_tok h2
          exact .inr ⟨k, s, s', rfl, h1, .inl ⟨hn, h2⟩⟩
        · obtain ⟨h3, h4⟩ := Bool.and_eq_true_iff.mp h2
          obtain ⟨s', rfl, _⟩ := goal_tok h4
          refine .inr ⟨k, s, s', rfl, h1, .inr ⟨?_, h4⟩⟩
          rcases Bool.or_eq_true_iff.mp h3 with z | z
          · exact .inl (of_decide_eq_true z)
          · exact .inr (of_decide_eq_true z)
      · cases h2
  · cases h
theorem st_cases {n : Nat} {d : PyData} (h : isSt (n + 1) d = true) : isDeed d = true ∨ (∃ t a b, d = .tuple [.str "if", t, a, b] ∧ isTest t = true ∧ treeOf (isSt n) a = true ∧ treeOf (isSt n) b = true) ∨
    (∃ t a, d = .tuple [.str "while", t, a] ∧ isTest t = true ∧ treeOf (isSt n) a = true) := by
  unfold isSt at h
  rcases Bool.or_eq_true_iff.mp h with z | z
  · exact .inl z
  · split at z
    · rename_i k t a b
      simp only [Bool.and_eq_true, decide_eq_true_eq] at z
      obtain ⟨rfl, z2, z3, z4⟩ := z
      exact .inr (.inl ⟨t, a, b, rfl, z2, z3, z4⟩)
    · rename_i k t a
      simp only [Bool.and_eq_true, decide_eq_true_eq] at z
      obtain ⟨rfl, z2, z3⟩ := z
      exact .inr (.inr ⟨t, a, rfl, z2, z3⟩)
    · cases z
theorem ne_if {k : Str} (h : k = "next" ∨ k = "copy" ∨ k = "tie" ∨ k = "new" ∨ k = "drop") : k ≠ "if" ∧ k ≠ "while" := by
  rcases h with rfl | rfl | rfl | rfl | rfl <;> exact ⟨by decide, by decide⟩
theorem deed_plain {d : PyData} (h : isDeed d = true) : ∀ n, cntSt n d = 1 ∧ stText n d = deedText d := by
  intro n
  cases n with
  | zero => exact ⟨rfl, rfl⟩
  | succ n =>
    rcases deed_cases h with ⟨k, a, rfl, _, _⟩ | ⟨k, a, b, rfl, _, hk⟩
    · exact ⟨rfl, rfl⟩
    · have := ne_if (k := k) (by rcases hk with ⟨z, _⟩ | ⟨z | z, _⟩ <;> simp [z])
      exact ⟨by unfold cntSt; exact if_neg this.2, by unfold stText; exact if_neg this.2⟩
theorem deed_tok {d : PyData} (h : isDeed d = true) : Tok (deedText d) 16 := by
  rcases deed_cases h with ⟨k, a, rfl, ha, _⟩ | ⟨k, a, b, rfl, ha, hb⟩
  · obtain ⟨a', e, ta⟩ := letter_tok (d := .str a) ha
    cases e
    show Tok (if k = "new" then a ++ " = new" else "drop " ++ a) 16
    have l1 : Tok " = new" 6 := ⟨by decide, by decide +kernel⟩
    have l2 : Tok "drop " 5 := ⟨by decide, by decide +kernel⟩
    split
    · exact (ta.app l1).mono (by decide)
    · exact (l2.app ta).mono (by decide)
  · obtain ⟨a', e, ta⟩ := letter_tok (d := .str a) ha
    cases e
    have tb : Tok b 3 := by
      rcases hb with ⟨_, z⟩ | ⟨_, z⟩
      · obtain ⟨b', e, tb⟩ := letter_tok (d := .str b) z
        cases e; exact tb.mono (by decide)
      · obtain ⟨b', e, tb⟩ := goal_tok z
        cases e; exact tb
    show Tok (if k = "next" then a ++ " = next " ++ b else (if k = "tie" then ("next " : Str) else "") ++ a ++ " = " ++ b) 16
    have l1 : Tok " = next " 8 := ⟨by decide, by decide +kernel⟩
    have l2 : Tok " = " 3 := ⟨by decide, by decide +kernel⟩
    have l3 : Tok (if k = "tie" then ("next " : Str) else "") 5 := by
      split
      · exact ⟨by decide, by decide +kernel⟩
      · exact ⟨by decide, by decide +kernel⟩
    split
    · exact ((ta.app l1).app tb).mono (by decide)
    · exact (((l3.app ta).app l2).app tb).mono (by decide)
theorem comp_cases {d : PyData} (h : isComp d = true) : ∃ (s a b : Str), d = .tuple [.str s, .str a, .str b] ∧ (s = "=" ∨ s = "!=") ∧ isLetterS a = true ∧ isGoal (.str b) = true := by
  unfold isComp at h
  split at h
  · rename_i s a b
    obtain ⟨h1, h2⟩ := Bool.and_eq_true_iff.mp h
    obtain ⟨h3, h4⟩ := Bool.and_eq_true_iff.mp h2
    obtain ⟨a', rfl, _⟩ := letter_tok h3
    obtain ⟨b', rfl, _⟩ := goal_tok h4
    refine ⟨s, a', b', rfl, ?_, h3, h4⟩
    rcases Bool.or_eq_true_iff.mp h1 with z | z
    · exact .inl (of_decide_eq_true z)
    · exact .inr (of_decide_eq_true z)
  · cases h
theorem comp_tok {d : PyData} (h : isComp d = true) : Tok (compText d) 8 := by
  obtain ⟨s, a, b, rfl, hs, ha, hb⟩ := comp_cases h
  obtain ⟨a', e, ta⟩ := letter_tok (d := .str a) ha
  cases e
  obtain ⟨b', e, tb⟩ := goal_tok hb
  cases e
  have ts : Tok s 2 := by
    rcases hs with rfl | rfl
    · exact ⟨by decide, by decide +kernel⟩
    · exact ⟨by decide, by decide +kernel⟩
  unfold compText
  exact ((((ta.app (m := 1) ⟨by decide, by decide +kernel⟩).app ts).app (m := 1) ⟨by decide, by decide +kernel⟩).app tb).mono (by decide)
theorem test_cases {d : PyData} (h : isTest d = true) : ∃ (k : Str) (cs : List PyData), d = .tuple [.str k, .tuple cs] ∧ (k = "and" ∨ k = "or") ∧ (1 ≤ cs.length ∧ cs.length ≤ 3) ∧ ∀ c ∈ cs, isComp c = true := by
  unfold isTest at h
  split at h
  · rename_i k cs
    simp only [Bool.and_eq_true, Bool.or_eq_true, decide_eq_true_eq, List.all_eq_true] at h
    exact ⟨k, cs, rfl, h.1, h.2.1, h.2.2.2⟩
  · cases h
theorem sum_const {α : Type} (f : α → Nat) (c : Nat) : ∀ l : List α, (∀ x ∈ l, f x ≤ c) → (l.map f).sum ≤ l.length * c
  | [], _ => Nat.zero_le _
  | x :: l, h => by
    simp only [List.map_cons, List.sum_cons, List.length_cons]
    have := sum_const f c l fun y hy => h y (List.mem_cons_of_mem _ hy)
    have := h x List.mem_cons_self
    rw [Nat.add_mul]; omega
theorem test_tok {d : PyData} (h : isTest d = true) : Tok (testText d) 40 := by
  obtain ⟨k, cs, rfl, hk, hl, hc⟩ := test_cases h
  have tk : Tok (" " ++ k ++ " ") 5 := by
    rcases hk with rfl | rfl
    · exact ⟨by decide, by decide +kernel⟩
    · exact ⟨by decide, by decide +kernel⟩
  unfold testText
  refine join_tok tk.ok (fun y hy => ?_) ?_
  · obtain ⟨c, h1, rfl⟩ := List.mem_map.mp hy
    exact (comp_tok (hc c h1)).ok
  · rw [List.map_map, List.length_map]
    have h1 := sum_const ((fun x : Str => x.length) ∘ compText) 8 cs fun c h1 => (comp_tok (hc c h1)).len
    have h2 : cs.length * (" " ++ strOf (.str k) ++ " ").length ≤ 3 * 5 := Nat.mul_le_mul hl.2 tk.len
    have h3 : cs.length * 8 ≤ 24 := by omega
    omega
theorem cntSt_pos (n : Nat) (d : PyData) : 1 ≤ cntSt n d := by
  cases n with
  | zero => exact Nat.le_refl _
  | succ n =>
    unfold cntSt
    split
    · split <;> omega
    · split <;> omega
    · omega
theorem tree_tok {n B : Nat} (ih : ∀ d, isSt n d = true → Tok (stText n d) (B * cntSt n d)) {d : PyData} (h : treeOf (isSt n) d = true) : Tok (treeTextOf (stText n) d) ((B + 2) * cntOf (cntSt n) d + 4) := by
  cases d with
  | tuple ds =>
    have h' : ∀ x ∈ ds, isSt n x = true := List.all_eq_true.mp h
    unfold treeTextOf
    dsimp only
    split
    · exact (Tok.mono (n := 4) ⟨by decide, by decide +kernel⟩ (Nat.le_add_left _ _))
    · refine join_tok (by decide +kernel) (fun y hy => ?_) ?_
      · obtain ⟨c, h1, rfl⟩ := List.mem_map.mp hy
        exact (ih c (h' c h1)).ok
      · rw [List.map_map, List.length_map]
        have h1 := sum_map_le ((fun x : Str => x.length) ∘ stText n) (fun d => B * cntSt n d) ds fun c hc => (ih c (h' c hc)).len
        have h2 : ∀ l : List PyData, (l.map fun d => B * cntSt n d).sum = B * (l.map (cntSt n)).sum := fun l => by
          induction l with
          | nil => rfl
          | cons x l ih => simp only [List.map_cons, List.sum_cons, ih, Nat.mul_add]
        have h3 : ∀ l : List PyData, l.length ≤ (l.map (cntSt n)).sum := fun l => by
          induction l with
          | nil => exact Nat.le_refl _
          | cons x l ih =>
            simp only [List.map_cons, List.sum_cons, List.length_cons]
            have := cntSt_pos n x
            omega
        rw [h2] at h1
        have h4 := h3 ds
        have e : (Str.ofString "; ").length = 2 := by decide
        rw [e]
        show _ ≤ (B + 2) * (ds.map (cntSt n)).sum + 4
        rw [Nat.add_mul]
        omega
  | _ => cases h
theorem st_tok : ∀ (n : Nat) (d : PyData), isSt n d = true → Tok (stText n d) ((64 + 2 * n) * cntSt n d)
  | 0, d, h => by
    show Tok (deedText d) ((64 + 2 * 0) * 1)
    exact (deed_tok h).mono (by decide)
  | n + 1, d, h => by
    rcases st_cases h with z | ⟨t, a, b, rfl, ht, ha, hb⟩ | ⟨t, a, rfl, ht, ha⟩
    · rw [(deed_plain z (n + 1)).1, (deed_plain z (n + 1)).2]
      exact (deed_tok z).mono (by omega)
    · have ta := tree_tok (st_tok n) ha
      have tb := tree_tok (st_tok n) hb
      have tt := test_tok ht
      have e1 : cntSt (n + 1) (.tuple [.str "if", t, a, b]) = 1 + (cntOf (cntSt n) a + cntOf (cntSt n) b) := by unfold cntSt; exact if_pos rfl
      have e2 : stText (n + 1) (.tuple [.str "if", t, a, b]) = ("if " ++ testText t ++ " { " ++ treeTextOf (stText n) a ++ " }") ++ (if noRows b = true then ("" : Str) else " else { " ++ treeTextOf (stText n) b ++ " }") := by conv => { lhs; unfold stText }; exact if_pos rfl
      rw [e1, e2]
      have t2 : Tok (if noRows b = true then ("" : Str) else " else { " ++ treeTextOf (stText n) b ++ " }") (8 + ((64 + 2 * n + 2) * cntOf (cntSt n) b + 4) + 2) := by
        split
        · exact Tok.mono (n := 0) ⟨by decide, by decide +kernel⟩ (Nat.zero_le _)
        · exact (Tok.app (n := 8) ⟨by decide, by decide +kernel⟩ tb).app (m := 2) ⟨by decide, by decide +kernel⟩
      refine (((((Tok.app (n := 3) ⟨by decide, by decide +kernel⟩ tt).app (m := 3) ⟨by decide, by decide +kernel⟩).app ta).app (m := 2) ⟨by decide, by decide +kernel⟩).app t2).mono ?_
      have x1 : (64 + 2 * (n + 1)) * (1 + (cntOf (cntSt n) a + cntOf (cntSt n) b)) = (64 + 2 * n + 2) + ((64 + 2 * n + 2) * cntOf (cntSt n) a + (64 + 2 * n + 2) * cntOf (cntSt n) b) := by
        rw [show 64 + 2 * (n + 1) = 64 + 2 * n + 2 by omega, Nat.mul_add, Nat.mul_one, Nat.mul_add]
      rw [x1]
      generalize (64 + 2 * n + 2) * cntOf (cntSt n) a = A
      generalize (64 + 2 * n + 2) * cntOf (cntSt n) b = B
      omega
    · have ta := tree_tok (st_tok n) ha
      have tt := test_tok ht
      have e1 : cntSt (n + 1) (.tuple [.str "while", t, a]) = 1 + cntOf (cntSt n) a := by unfold cntSt; exact if_pos rfl
      have e2 : stText (n + 1) (.tuple [.str "while", t, a]) = "while " ++ testText t ++ " { " ++ treeTextOf (stText n) a ++ " }" := by conv => { lhs; unfold stText }; exact if_pos rfl
      rw [e1, e2]
      refine ((((Tok.app (n := 6) ⟨by decide, by decide +kernel⟩ tt).app (m := 3) ⟨by decide, by decide +kernel⟩).app ta).app (m := 2) ⟨by decide, by decide +kernel⟩).mono ?_
      have x1 : (64 + 2 * (n + 1)) * (1 + cntOf (cntSt n) a) = (64 + 2 * n + 2) + (64 + 2 * n + 2) * cntOf (cntSt n) a := by
        rw [show 64 + 2 * (n + 1) = 64 + 2 * n + 2 by omega, Nat.mul_add, Nat.mul_one]
      rw [x1]
      omega
end K38

set_option Elab.async false
set_option linter.all false
set_option maxRecDepth 100000
set_option maxHeartbeats 2000000
/-! the words of programs, and their texts as words -/
namespace K38
open PySem PySem.Spec PyProof.Rows L2 Rd Dt Dq TL
def plain (w : Str) : Bool := !(tl w).isEmpty && ((tl w).all fun c => decide (c ≠ 32) && decide (c ≠ 59))
def raw (w : Str) : Bool := !(tl w).isEmpty && (!(decide (w = ";")) && ((tl w).all fun c => decide (c ≠ 32)))
def sp1 (w : Str) : List Str := if Txt.endswith w ";" = true then [cutS w none (some (-1)), ";"] else [w]
theorem tl_semi : tl ";" = [59] := by decide +kernel
theorem ends_snoc {x : Str} {l : List Nat} {c : Nat} (h : tl x = l ++ [c]) : Txt.endswith x ";" = decide (c = 59) := by
  have hl : x.length = l.length + 1 := by rw [len_tl, h]; simp
  show (decide (0 + (";" : Str).length ≤ x.length) && Builtin.Str.subAt x ";" (x.length - (";" : Str).length)) = _
  rw [StrLaws.subAt_eq, show x.cps.toList = l ++ [c] from h, show (";" : Str).cps.toList = [59] from tl_semi, show (";" : Str).length = 1 from by decide, hl]
  rw [decide_eq_true (show 0 + 1 ≤ l.length + 1 by omega), Bool.true_and, Nat.add_sub_cancel, List.drop_left]
  show (([c] : List Nat) == [59]) = _
  by_cases z : c = 59
  · subst z; rfl
  · rw [decide_eq_false z, beq_eq_false_iff_ne]
    intro e
    exact z (List.cons.inj e).1
theorem ends_app (a : Str) : Txt.endswith (a ++ ";") ";" = true := by
  rw [ends_snoc (l := tl a) (c := 59) (by rw [tl_append, tl_semi])]; rfl
theorem plain_snoc {w : Str} (h : plain w = true) : ∃ l c, tl w = l ++ [c] ∧ c ≠ 59 := by
  obtain ⟨h1, h2⟩ := Bool.and_eq_true_iff.mp h
  have hne : tl w ≠ [] := fun z => by rw [z] at h1; cases h1
  refine ⟨(tl w).dropLast, (tl w).getLast hne, (List.dropLast_concat_getLast hne).symm, ?_⟩
  have := List.all_eq_true.mp h2 _ (List.getLast_mem hne)
  exact of_decide_eq_true (Bool.and_eq_true_iff.mp this).2
theorem ends_plain {w : Str} (h : plain w = true) : Txt.endswith w ";" = false := by
  obtain ⟨l, c, e, n⟩ := plain_snoc h
  rw [ends_snoc e, decide_eq_false n]
theorem cut_app (a : Str) : cutS (a ++ ";") none (some (-1)) = a := by
  refine ext_tl ?_
  have hl : (a ++ (";" : Str)).length = (tl a).length + 1 := by rw [len_tl, tl_append, tl_semi]; simp
  have e1 : HT.sIx (a ++ (";" : Str)).length 0 none = 0 := rfl
  have e2 : HT.sIx (a ++ (";" : Str)).length (a ++ (";" : Str)).length (some (-1)) = (tl a).length := by
    show (if (-1 : Int) < 0 then ((-1 : Int) + ((a ++ (";" : Str)).length : Int)).toNat else min (-1 : Int).toNat (a ++ (";" : Str)).length) = _
    rw [if_pos (by decide), hl]
    omega
  unfold cutS
  rw [e1, e2]
  show (List.take ((tl a).length - 0) (List.drop 0 (tl (a ++ ";")))) = tl a
  rw [tl_append, List.drop_zero, Nat.sub_zero, List.take_left]
theorem sp1_plain {w : Str} (h : plain w = true) : sp1 w = [w] := by
  unfold sp1
  rw [ends_plain h]
  rfl
theorem sp1_app (a : Str) : sp1 (a ++ ";") = [a, ";"] := by
  unfold sp1
  rw [ends_app, if_pos rfl, cut_app]
theorem raw_plain {w : Str} (h : plain w = true) : raw w = true := by
  obtain ⟨h1, h2⟩ := Bool.and_eq_true_iff.mp h
  unfold raw
  rw [h1, Bool.true_and, Bool.and_eq_true]
  refine ⟨?_, ?_⟩
  · rw [Bool.not_eq_true', decide_eq_false_iff_not]
    intro z
    rw [z, tl_semi] at h2
    cases h2
  · rw [List.all_eq_true]
    intro c hc
    exact (Bool.and_eq_true_iff.mp (List.all_eq_true.mp h2 c hc)).1
theorem raw_semi {w : Str} (h : plain w = true) : raw (w ++ ";") = true := by
  obtain ⟨h1, h2⟩ := Bool.and_eq_true_iff.mp h
  have hne : tl w ≠ [] := fun z => by rw [z] at h1; cases h1
  unfold raw
  rw [tl_append, tl_semi]
  rw [Bool.and_eq_true, Bool.and_eq_true]
  refine ⟨by simp, ?_, ?_⟩
  · rw [Bool.not_eq_true', decide_eq_false_iff_not]
    intro z
    have z2 := congrArg tl z
    rw [tl_append, tl_semi] at z2
    exact hne (List.append_left_eq_self.mp z2)
  · rw [List.all_append, Bool.and_eq_true]
    refine ⟨?_, by decide⟩
    rw [List.all_eq_true]
    intro c hc
    exact (Bool.and_eq_true_iff.mp (List.all_eq_true.mp h2 c hc)).1
theorem join_app : ∀ {ws vs : List Str}, ws ≠ [] → vs ≠ [] → Str.join " " (ws ++ vs) = Str.join " " ws ++ " " ++ Str.join " " vs
  | [], _, h, _ => absurd rfl h
  | [x], [], _, h => absurd rfl h
  | [x], y :: r, _, _ => rfl
  | x :: y :: r, vs, _, h => by
    show x ++ " " ++ Str.join " " (y :: r ++ vs) = x ++ " " ++ Str.join " " (y :: r) ++ " " ++ Str.join " " vs
    rw [join_app (by simp) h]
    simp only [Str.append_assoc]
theorem join_semi (ini : List Str) (l : Str) : Str.join " " (ini ++ [l]) ++ ";" = Str.join " " (ini ++ [l ++ ";"]) := by
  cases ini with
  | nil => rfl
  | cons x r =>
    rw [join_app (by simp) (by simp), join_app (by simp) (by simp)]
    show Str.join " " (x :: r) ++ " " ++ l ++ ";" = Str.join " " (x :: r) ++ " " ++ (l ++ ";")
    simp only [Str.append_assoc]
/-- a text whose words are these -/
def Tk (s : Str) (ts : List Str) : Prop := ∃ (ini : List Str) (l : Str), s = Str.join " " (ini ++ [l]) ∧ (∀ w ∈ ini, raw w = true) ∧ plain l = true ∧ ini.flatMap sp1 ++ [l] = ts
theorem Tk.w1 {w : Str} (h : plain w = true) : Tk w [w] := ⟨[], w, rfl, (fun _ z => nomatch z), h, rfl⟩
theorem Tk.app {a b : Str} {ts us : List Str} (h : Tk a ts) (g : Tk b us) : Tk (a ++ " " ++ b) (ts ++ us) := by
  obtain ⟨i1, l1, rfl, r1, p1, rfl⟩ := h
  obtain ⟨i2, l2, rfl, r2, p2, rfl⟩ := g
  refine ⟨i1 ++ [l1] ++ i2, l2, ?_, fun w hw => ?_, p2, ?_⟩
  · rw [List.append_assoc (i1 ++ [l1]), join_app (ws := i1 ++ [l1]) (vs := i2 ++ [l2]) (by simp) (by simp)]
  · rcases List.mem_append.mp hw with hw | hw
    · rcases List.mem_append.mp hw with hw | hw
      · exact r1 w hw
      · rw [List.mem_singleton.mp hw]; exact raw_plain p1
    · exact r2 w hw
  · rw [List.flatMap_append, List.flatMap_append, List.flatMap_cons, List.flatMap_nil, sp1_plain p1]
    simp only [List.append_assoc, List.append_nil]
theorem Tk.seq {a b : Str} {ts us : List Str} (h : Tk a ts) (g : Tk b us) : Tk (a ++ "; " ++ b) (ts ++ (";" : Str) :: us) := by
  obtain ⟨i1, l1, rfl, r1, p1, rfl⟩ := h
  obtain ⟨i2, l2, rfl, r2, p2, rfl⟩ := g
  have e : ("; " : Str) = ";" ++ " " := by decide +kernel
  refine ⟨i1 ++ [l1 ++ ";"] ++ i2, l2, ?_, fun w hw => ?_, p2, ?_⟩
  · rw [e, ← Str.append_assoc, join_semi, List.append_assoc (i1 ++ [l1 ++ ";"]), join_app (ws := i1 ++ [l1 ++ ";"]) (vs := i2 ++ [l2]) (by simp) (by simp)]
  · rcases List.mem_append.mp hw with hw | hw
    · rcases List.mem_append.mp hw with hw | hw
      · exact r1 w hw
      · rw [List.mem_singleton.mp hw]; exact raw_semi p1
    · exact r2 w hw
  · rw [List.flatMap_append, List.flatMap_append, List.flatMap_cons, List.flatMap_nil, sp1_app]
    simp only [List.append_assoc, List.append_nil, List.cons_append, List.nil_append]
/-! ### the words of trees -/
def joinW (k : Str) : List (List Str) → List Str
  | [] => []
  | [x] => x
  | x :: y :: r => x ++ k :: joinW k (y :: r)
def deedW : PyData → List Str
  | .tuple [.str k, .str a] => if k = "new" then [a, "=", "new"] else ["drop", a]
  | .tuple [.str k, .str a, .str b] => if k = "next" then [a, "=", "next", b] else if k = "tie" then ["next", a, "=", b] else [a, "=", b]
  | _ => []
def compW : PyData → List Str
  | .tuple [.str s, .str a, .str b] => [a, s, b]
  | _ => []
def testW : PyData → List Str
  | .tuple [.str k, .tuple cs] => joinW k (cs.map compW)
  | _ => []
def treeW (f : PyData → List Str) : PyData → List Str
  | .tuple ds => if ds = [] then ["none"] else joinW ";" (ds.map f)
  | _ => []
def elseW (lg : Bool) (f : PyData → List Str) (b : PyData) : List Str := if (!lg && noRows b) = true then [] else ("else" : Str) :: ("{" : Str) :: (treeW f b ++ [("}" : Str)])
def stW (lg : Bool) : Nat → PyData → List Str
  | 0, d => deedW d
  | n + 1, d => match d with
    | .tuple [.str k, t, a, b] => if k = "if" then ("if" : Str) :: (testW t ++ ("{" : Str) :: (treeW (stW lg n) a ++ ("}" : Str) :: elseW lg (stW lg n) b)) else deedW d
    | .tuple [.str k, t, a] => if k = "while" then ("while" : Str) :: (testW t ++ ("{" : Str) :: (treeW (stW lg n) a ++ [("}" : Str)])) else deedW d
    | _ => deedW d
def ltText : Nat → PyData → Str
  | 0, d => deedText d
  | n + 1, d => match d with
    | .tuple [.str k, t, a, b] => if k = "if" then ("if " ++ testText t) ++ (" { " ++ treeTextOf (ltText n) a ++ " } else { " ++ treeTextOf (ltText n) b ++ " }") else deedText d
    | .tuple [.str k, t, a] => if k = "while" then "while " ++ testText t ++ " { " ++ treeTextOf (ltText n) a ++ " }" else deedText d
    | _ => deedText d
theorem plain_letter {s : Str} (h : isLetterS s = true) : plain s = true := by
  unfold isLetterS at h
  split at h
  · rename_i c e
    have m : c ∈ abc.cps.toList := of_decide_eq_true h
    have all : ∀ c ∈ abc.cps.toList, c ≠ 32 ∧ c ≠ 59 := by decide +kernel
    unfold plain
    rw [show tl s = [c] from e]
    simp [all c m]
  · cases h
theorem plain_goal {s : Str} (h : isGoal (.str s) = true) : plain s = true := by
  rcases Bool.or_eq_true_iff.mp (show (isLetterS s || decide (s = "END")) = true from h) with z | z
  · exact plain_letter z
  · rw [of_decide_eq_true z]; decide +kernel
theorem p_eq : plain "=" = true := by decide +kernel
theorem p_new : plain "new" = true := by decide +kernel
theorem p_next : plain "next" = true := by decide +kernel
theorem p_drop : plain "drop" = true := by decide +kernel
theorem app_empty (a : Str) : "" ++ a = a := ext_tl (by rw [tl_append]; rfl)
theorem app_empty' (a : Str) : a ++ "" = a := ext_tl (by rw [tl_append]; exact List.append_nil _)
theorem deed_Tk {d : PyData} (h : isDeed d = true) : Tk (deedText d) (deedW d) := by
  rcases deed_cases h with ⟨k, a, rfl, ha, hk⟩ | ⟨k, a, b, rfl, ha, hk⟩
  · have wa := Tk.w1 (plain_letter ha)
    show Tk (if k = "new" then a ++ " = new" else "drop " ++ a) (if k = "new" then [a, "=", "new"] else ["drop", a])
    split
    · have e : a ++ (" = new" : Str) = a ++ " " ++ "=" ++ " " ++ "new" := by
        rw [show (" = new" : Str) = " " ++ "=" ++ " " ++ "new" by decide +kernel]
        simp only [Str.append_assoc]
      rw [e]
      exact (wa.app (Tk.w1 p_eq)).app (Tk.w1 p_new)
    · rw [show ("drop " : Str) = "drop" ++ " " by decide +kernel]
      exact (Tk.w1 p_drop).app wa
  · have wa := Tk.w1 (plain_letter ha)
    have wb : Tk b [b] := by
      rcases hk with ⟨_, z⟩ | ⟨_, z⟩
      · exact Tk.w1 (plain_letter z)
      · exact Tk.w1 (plain_goal z)
    show Tk (if k = "next" then a ++ " = next " ++ b else (if k = "tie" then ("next " : Str) else "") ++ a ++ " = " ++ b) (if k = "next" then [a, "=", "next", b] else if k = "tie" then ["next", a, "=", b] else [a, "=", b])
    have e3 : a ++ (" = " : Str) ++ b = a ++ " " ++ "=" ++ " " ++ b := by
      rw [show (" = " : Str) = " " ++ "=" ++ " " by decide +kernel]
      simp only [Str.append_assoc]
    by_cases k1 : k = "next"
    · rw [if_pos k1, if_pos k1]
      have e : a ++ (" = next " : Str) ++ b = a ++ " " ++ "=" ++ " " ++ "next" ++ " " ++ b := by
        rw [show (" = next " : Str) = " " ++ "=" ++ " " ++ "next" ++ " " by decide +kernel]
        simp only [Str.append_assoc]
      rw [e]
      exact ((wa.app (Tk.w1 p_eq)).app (Tk.w1 p_next)).app wb
    · rw [if_neg k1, if_neg k1]
      by_cases k2 : k = "tie"
      · rw [if_pos k2, if_pos k2]
        have e : ("next " : Str) ++ a ++ (" = " : Str) ++ b = "next" ++ " " ++ a ++ " " ++ "=" ++ " " ++ b := by
          rw [show (" = " : Str) = " " ++ "=" ++ " " by decide +kernel, show ("next " : Str) = "next" ++ " " by decide +kernel]
          simp only [Str.append_assoc]
        rw [e]
        exact (((Tk.w1 p_next).app wa).app (Tk.w1 p_eq)).app wb
      · rw [if_neg k2, if_neg k2, app_empty, e3]
        exact (wa.app (Tk.w1 p_eq)).app wb
theorem comp_Tk {d : PyData} (h : isComp d = true) : Tk (compText d) (compW d) := by
  obtain ⟨s, a, b, rfl, hs, ha, hb⟩ := comp_cases h
  have ps : plain s = true := by rcases hs with rfl | rfl <;> decide +kernel
  exact ((Tk.w1 (plain_letter ha)).app (Tk.w1 ps)).app (Tk.w1 (plain_goal hb))
theorem joinK_Tk {k : Str} (pk : plain k = true) : ∀ (c : PyData) (cs : List PyData), (∀ x ∈ c :: cs, isComp x = true) → Tk (Str.join (" " ++ k ++ " ") ((c :: cs).map compText)) (joinW k ((c :: cs).map compW))
  | c, [], h => comp_Tk (h c List.mem_cons_self)
  | c, c2 :: r, h => by
    have ih := joinK_Tk pk c2 r fun x hx => h x (List.mem_cons_of_mem _ hx)
    show Tk (compText c ++ (" " ++ k ++ " ") ++ Str.join (" " ++ k ++ " ") ((c2 :: r).map compText)) (compW c ++ k :: joinW k ((c2 :: r).map compW))
    have := ((comp_Tk (h c List.mem_cons_self)).app (Tk.w1 pk)).app ih
    simp only [Str.append_assoc, List.append_assoc, List.cons_append, List.nil_append] at this ⊢
    exact this
theorem test_Tk {d : PyData} (h : isTest d = true) : Tk (testText d) (testW d) := by
  obtain ⟨k, cs, rfl, hk, hl, hc⟩ := test_cases h
  have pk : plain k = true := by rcases hk with rfl | rfl <;> decide +kernel
  cases cs with
  | nil => exact absurd hl.1 (by simp)
  | cons c cs =>
    show Tk (Txt.join (" " ++ k ++ " ") ((c :: cs).map compText)) (joinW k ((c :: cs).map compW))
    rw [show Txt.join (" " ++ k ++ " ") ((c :: cs).map compText) = Str.join (" " ++ k ++ " ") ((c :: cs).map compText) from StrLaws.glued_eq_join _ _]
    exact joinK_Tk pk c cs hc
theorem joinS_Tk {f : PyData → Str} {g : PyData → List Str} : ∀ (c : PyData) (cs : List PyData), (∀ x ∈ c :: cs, Tk (f x) (g x)) → Tk (Str.join "; " ((c :: cs).map f)) (joinW ";" ((c :: cs).map g))
  | c, [], h => h c List.mem_cons_self
  | c, c2 :: r, h => (h c List.mem_cons_self).seq (joinS_Tk c2 r fun x hx => h x (List.mem_cons_of_mem _ hx))
theorem tree_Tk {f : PyData → Str} {g : PyData → List Str} {p : PyData → Bool} (ih : ∀ d, p d = true → Tk (f d) (g d)) {d : PyData} (h : treeOf p d = true) : Tk (treeTextOf f d) (treeW g d) := by
  cases d with
  | tuple ds =>
    have h' : ∀ x ∈ ds, p x = true := List.all_eq_true.mp h
    unfold treeTextOf treeW
    dsimp only
    cases ds with
    | nil => rw [if_pos rfl, if_pos rfl]; exact Tk.w1 (by decide +kernel)
    | cons c cs =>
      rw [if_neg (by simp), if_neg (by simp)]
      rw [show Txt.join "; " ((c :: cs).map f) = Str.join "; " ((c :: cs).map f) from StrLaws.glued_eq_join _ _]
      exact joinS_Tk c cs fun x hx => ih x (h' x hx)
  | _ => cases h
theorem deed_st {d : PyData} (h : isDeed d = true) (lg : Bool) : ∀ n, stW lg n d = deedW d ∧ ltText n d = deedText d := by
  intro n
  cases n with
  | zero => exact ⟨rfl, rfl⟩
  | succ n =>
    rcases deed_cases h with ⟨k, a, rfl, _, _⟩ | ⟨k, a, b, rfl, _, hk⟩
    · exact ⟨rfl, rfl⟩
    · have := ne_if (k := k) (by rcases hk with ⟨z, _⟩ | ⟨z | z, _⟩ <;> simp [z])
      exact ⟨by unfold stW; exact if_neg this.2, by unfold ltText; exact if_neg this.2⟩
theorem stW_if {lg : Bool} {n : Nat} {t a b : PyData} : stW lg (n + 1) (.tuple [.str "if", t, a, b]) = ("if" : Str) :: (testW t ++ ("{" : Str) :: (treeW (stW lg n) a ++ ("}" : Str) :: elseW lg (stW lg n) b)) := by
  conv => { lhs; unfold stW }
  exact if_pos rfl
theorem stW_while {lg : Bool} {n : Nat} {t a : PyData} : stW lg (n + 1) (.tuple [.str "while", t, a]) = ("while" : Str) :: (testW t ++ ("{" : Str) :: (treeW (stW lg n) a ++ [("}" : Str)])) := by
  conv => { lhs; unfold stW }
  exact if_pos rfl
theorem lt_if {n : Nat} {t a b : PyData} : ltText (n + 1) (.tuple [.str "if", t, a, b]) = ("if " ++ testText t) ++ (" { " ++ treeTextOf (ltText n) a ++ " } else { " ++ treeTextOf (ltText n) b ++ " }") := by
  conv => { lhs; unfold ltText }
  exact if_pos rfl
theorem lt_while {n : Nat} {t a : PyData} : ltText (n + 1) (.tuple [.str "while", t, a]) = "while " ++ testText t ++ " { " ++ treeTextOf (ltText n) a ++ " }" := by
  conv => { lhs; unfold ltText }
  exact if_pos rfl
theorem st_if {n : Nat} {t a b : PyData} : stText (n + 1) (.tuple [.str "if", t, a, b]) = ("if " ++ testText t ++ " { " ++ treeTextOf (stText n) a ++ " }") ++ (if noRows b = true then ("" : Str) else " else { " ++ treeTextOf (stText n) b ++ " }") := by
  conv => { lhs; unfold stText }
  exact if_pos rfl
theorem st_while {n : Nat} {t a : PyData} : stText (n + 1) (.tuple [.str "while", t, a]) = "while " ++ testText t ++ " { " ++ treeTextOf (stText n) a ++ " }" := by
  conv => { lhs; unfold stText }
  exact if_pos rfl
theorem p_if : plain "if" = true := by decide +kernel
theorem p_while : plain "while" = true := by decide +kernel
theorem p_op : plain "{" = true := by decide +kernel
theorem p_cl : plain "}" = true := by decide +kernel
theorem p_else : plain "else" = true := by decide +kernel
theorem e_if : ("if " : Str) = "if" ++ " " := by decide +kernel
theorem e_while : ("while " : Str) = "while" ++ " " := by decide +kernel
theorem e_op : (" { " : Str) = " " ++ "{" ++ " " := by decide +kernel
theorem e_cl : (" }" : Str) = " " ++ "}" := by decide +kernel
theorem e_else : (" else { " : Str) = " " ++ "else" ++ " " ++ "{" ++ " " := by decide +kernel
theorem e_else2 : (" } else { " : Str) = " " ++ "}" ++ " " ++ "else" ++ " " ++ "{" ++ " " := by decide +kernel
theorem st_Tk : ∀ (n : Nat) (d : PyData), isSt n d = true → Tk (stText n d) (stW false n d)
  | 0, d, h => deed_Tk h
  | n + 1, d, h => by
    rcases st_cases h with z | ⟨t, a, b, rfl, ht, ha, hb⟩ | ⟨t, a, rfl, ht, ha⟩
    · rw [(deed_plain z (n + 1)).2, (deed_st z false (n + 1)).1]
      exact deed_Tk z
    · have base := ((((Tk.w1 p_if).app (test_Tk ht)).app (Tk.w1 p_op)).app (tree_Tk (st_Tk n) ha)).app (Tk.w1 p_cl)
      rw [st_if, stW_if]
      unfold elseW
      by_cases nb : noRows b = true
      · rw [if_pos nb, if_pos (by rw [nb]; rfl), app_empty', e_if, e_op, e_cl]
        simp only [Str.append_assoc, List.append_assoc, List.cons_append, List.nil_append] at base ⊢
        exact base
      · rw [if_neg nb, if_neg (by simp [nb])]
        have full := (((base.app (Tk.w1 p_else)).app (Tk.w1 p_op)).app (tree_Tk (st_Tk n) hb)).app (Tk.w1 p_cl)
        rw [e_if, e_op, e_cl, e_else]
        simp only [Str.append_assoc, List.append_assoc, List.cons_append, List.nil_append] at full ⊢
        exact full
    · have base := ((((Tk.w1 p_while).app (test_Tk ht)).app (Tk.w1 p_op)).app (tree_Tk (st_Tk n) ha)).app (Tk.w1 p_cl)
      rw [st_while, stW_while, e_while, e_op, e_cl]
      simp only [Str.append_assoc, List.append_assoc, List.cons_append, List.nil_append] at base ⊢
      exact base
theorem lt_Tk : ∀ (n : Nat) (d : PyData), isSt n d = true → Tk (ltText n d) (stW true n d)
  | 0, d, h => deed_Tk h
  | n + 1, d, h => by
    rcases st_cases h with z | ⟨t, a, b, rfl, ht, ha, hb⟩ | ⟨t, a, rfl, ht, ha⟩
    · rw [(deed_st z true (n + 1)).2, (deed_st z true (n + 1)).1]
      exact deed_Tk z
    · have base := ((((Tk.w1 p_if).app (test_Tk ht)).app (Tk.w1 p_op)).app (tree_Tk (lt_Tk n) ha)).app (Tk.w1 p_cl)
      rw [lt_if, stW_if]
      unfold elseW
      rw [if_neg (by simp)]
      have full := (((base.app (Tk.w1 p_else)).app (Tk.w1 p_op)).app (tree_Tk (lt_Tk n) hb)).app (Tk.w1 p_cl)
      rw [e_if, e_op, e_cl, e_else2]
      simp only [Str.append_assoc, List.append_assoc, List.cons_append, List.nil_append] at full ⊢
      exact full
    · have base := ((((Tk.w1 p_while).app (test_Tk ht)).app (Tk.w1 p_op)).app (tree_Tk (lt_Tk n) ha)).app (Tk.w1 p_cl)
      rw [lt_while, stW_while, e_while, e_op, e_cl]
      simp only [Str.append_assoc, List.append_assoc, List.cons_append, List.nil_append] at base ⊢
      exact base
/-- what split makes of such a text -/
theorem Tk.split {s : Str} {ts : List Str} (h : Tk s ts) : (∀ w ∈ Txt.split s " ", raw w = true) ∧ (Txt.split s " ").flatMap sp1 = ts ∧ (∀ w ∈ Txt.split s " ", w.length ≤ s.length) ∧ (Txt.split s " ").length ≤ s.length + 1 := by
  obtain ⟨ini, l, rfl, hr, hp, rfl⟩ := h
  have e32 : tl " " = 32 :: [] := by decide +kernel
  have all : ∀ w ∈ ini ++ [l], raw w = true := fun w hw => by
    rcases List.mem_append.mp hw with hw | hw
    · exact hr w hw
    · rw [List.mem_singleton.mp hw]; exact raw_plain hp
  have e : Txt.split (Str.join " " (ini ++ [l])) " " = ini ++ [l] := by
    rw [← join_eq]
    exact split_join e32 (by decide +kernel) (by simp) fun p hp => by
      intro z
      have := (Bool.and_eq_true_iff.mp (Bool.and_eq_true_iff.mp (all p hp)).2).2
      have := List.all_eq_true.mp this 32 z
      simp at this
  rw [e]
  refine ⟨all, ?_, ?_, ?_⟩
  · rw [List.flatMap_append, List.flatMap_cons, List.flatMap_nil, sp1_plain hp, List.append_nil]
  · have : ∀ (ws : List Str) (w : Str), w ∈ ws → w.length ≤ (Str.join " " ws).length := fun ws => by
      induction ws with
      | nil => intro w hw; cases hw
      | cons x r ih =>
        intro w hw
        cases r with
        | nil => rw [List.mem_singleton.mp hw]; exact Nat.le_refl _
        | cons y r =>
          show w.length ≤ (x ++ " " ++ Str.join " " (y :: r)).length
          rw [Str.length_append, Str.length_append]
          rcases List.mem_cons.mp hw with hw | hw
          · rw [hw]; omega
          · have := ih w hw; omega
    exact this _
  · have : ∀ ws : List Str, ws.length ≤ (Str.join " " ws).length + 1 := fun ws => by
      induction ws with
      | nil => exact Nat.zero_le _
      | cons x r ih =>
        cases r with
        | nil => simp
        | cons y r =>
          show (x :: y :: r).length ≤ (x ++ " " ++ Str.join " " (y :: r)).length + 1
          rw [Str.length_append, Str.length_append, List.length_cons]
          have : (" " : Str).length = 1 := by decide
          omega
    exact this _
/-! ### the longer texts' bounds -/
theorem tree_tokF {f : PyData → Str} {n B : Nat} (ih : ∀ d, isSt n d = true → Tok (f d) (B * cntSt n d)) {d : PyData} (h : treeOf (isSt n) d = true) : Tok (treeTextOf f d) ((B + 2) * cntOf (cntSt n) d + 4) := by
  cases d with
  | tuple ds =>
    have h' : ∀ x ∈ ds, isSt n x = true := List.all_eq_true.mp h
    unfold treeTextOf
    dsimp only
    split
    · exact (Tok.mono (n := 4) ⟨by decide, by decide +kernel⟩ (Nat.le_add_left _ _))
    · refine join_tok (by decide +kernel) (fun y hy => ?_) ?_
      · obtain ⟨c, h1, rfl⟩ := List.mem_map.mp hy
        exact (ih c (h' c h1)).ok
      · rw [List.map_map, List.length_map]
        have h1 := sum_map_le ((fun x : Str => x.length) ∘ f) (fun d => B * cntSt n d) ds fun c hc => (ih c (h' c hc)).len
        have h2 : ∀ l : List PyData, (l.map fun d => B * cntSt n d).sum = B * (l.map (cntSt n)).sum := fun l => by
          induction l with
          | nil => rfl
          | cons x l ih => simp only [List.map_cons, List.sum_cons, ih, Nat.mul_add]
        have h3 : ∀ l : List PyData, l.length ≤ (l.map (cntSt n)).sum := fun l => by
          induction l with
          | nil => exact Nat.le_refl _
          | cons x l ih =>
            simp only [List.map_cons, List.sum_cons, List.length_cons]
            have := cntSt_pos n x
            omega
        rw [h2] at h1
        have h4 := h3 ds
        have e : (Str.ofString "; ").length = 2 := by decide
        rw [e]
        show _ ≤ (B + 2) * (ds.map (cntSt n)).sum + 4
        rw [Nat.add_mul]
        omega
  | _ => cases h
theorem lt_tok : ∀ (n : Nat) (d : PyData), isSt n d = true → Tok (ltText n d) ((64 + 2 * n) * cntSt n d)
  | 0, d, h => by
    show Tok (deedText d) ((64 + 2 * 0) * 1)
    exact (deed_tok h).mono (by decide)
  | n + 1, d, h => by
    rcases st_cases h with z | ⟨t, a, b, rfl, ht, ha, hb⟩ | ⟨t, a, rfl, ht, ha⟩
    · rw [(deed_plain z (n + 1)).1, (deed_st z true (n + 1)).2]
      exact (deed_tok z).mono (by omega)
    · have ta := tree_tokF (lt_tok n) ha
      have tb := tree_tokF (lt_tok n) hb
      have tt := test_tok ht
      have e1 : cntSt (n + 1) (.tuple [.str "if", t, a, b]) = 1 + (cntOf (cntSt n) a + cntOf (cntSt n) b) := by unfold cntSt; exact if_pos rfl
      rw [e1, lt_if]
      refine ((Tok.app (n := 3) ⟨by decide, by decide +kernel⟩ tt).app ((((Tok.app (n := 3) ⟨by decide, by decide +kernel⟩ ta).app (m := 10) ⟨by decide, by decide +kernel⟩).app tb).app (m := 2) ⟨by decide, by decide +kernel⟩)).mono ?_
      have x1 : (64 + 2 * (n + 1)) * (1 + (cntOf (cntSt n) a + cntOf (cntSt n) b)) = (64 + 2 * n + 2) + ((64 + 2 * n + 2) * cntOf (cntSt n) a + (64 + 2 * n + 2) * cntOf (cntSt n) b) := by
        rw [show 64 + 2 * (n + 1) = 64 + 2 * n + 2 by omega, Nat.mul_add, Nat.mul_one, Nat.mul_add]
      rw [x1]
      generalize (64 + 2 * n + 2) * cntOf (cntSt n) a = A
      generalize (64 + 2 * n + 2) * cntOf (cntSt n) b = B
      omega
    · have ta := tree_tokF (lt_tok n) ha
      have tt := test_tok ht
      have e1 : cntSt (n + 1) (.tuple [.str "while", t, a]) = 1 + cntOf (cntSt n) a := by unfold cntSt; exact if_pos rfl
      rw [e1, lt_while]
      refine ((((Tok.app (n := 6) ⟨by decide, by decide +kernel⟩ tt).app (m := 3) ⟨by decide, by decide +kernel⟩).app ta).app (m := 2) ⟨by decide, by decide +kernel⟩).mono ?_
      have x1 : (64 + 2 * (n + 1)) * (1 + cntOf (cntSt n) a) = (64 + 2 * n + 2) + (64 + 2 * n + 2) * cntOf (cntSt n) a := by
        rw [show 64 + 2 * (n + 1) = 64 + 2 * n + 2 by omega, Nat.mul_add, Nat.mul_one]
      rw [x1]
      omega
end K38

set_option Elab.async false
set_option linter.all false
set_option maxRecDepth 100000
set_option maxHeartbeats 2000000
/-! the readers of tests, as plain functions, and that they agree -/
namespace K38
open PySem PySem.Spec PyProof.Rows L2 Rd Dt Dq TL
def compOf (a m b : Str) : Option PyData := if isLetterS a = true ∧ (m = "=" ∨ m = "!=") ∧ isGoal (.str b) = true then some (.tuple [.str m, .str a, .str b]) else none
def comp3 (ts : List Str) : Option PyData := compOf (ts.headD "") (ts.tail.headD "") (ts.tail.tail.headD "")
def jw (k : Str) : Prop := k = "and" ∨ k = "or"
instance (k : Str) : Decidable (jw k) := inferInstanceAs (Decidable (_ ∨ _))
def optAll : List (Option PyData) → Option (List PyData)
  | [] => some []
  | none :: _ => none
  | some d :: r => (optAll r).map (d :: ·)
def pLoop : Nat → Str → List Str → Option (Str × List (Option PyData) × List Str)
  | 0, j, ts => some (j, [], ts)
  | n + 1, j, ts => if jw (ts.headD "") then (if j = "" ∨ j = ts.headD "" then (pLoop n (ts.headD "") ts.tail.tail.tail.tail).map fun x => (x.1, comp3 ts.tail :: x.2.1, x.2.2) else none) else some (j, [], ts)
def pFin (j : Str) (os : List (Option PyData)) (rest : List Str) : Option (PyData × List Str) := match optAll os with
  | some cs => if cs.length ≤ 3 then some (.tuple [.str (if j = "" then "and" else j), .tuple cs], rest) else none
  | none => none
def pGo (j : Str) (fs : List (Option PyData)) (ts : List Str) : Option (PyData × List Str) := match pLoop (ts.length + 1) j ts with
  | some (j', os, rest) => pFin j' (fs ++ os) rest
  | none => none
def pTest (ts : List Str) : Option (PyData × List Str) := pGo "" [comp3 ts] ts.tail.tail.tail
def lLoop : Nat → Str → List PyData → List Str → Option (PyData × List Str)
  | 0, _, _, _ => none
  | n + 1, j, fs, ts => match comp3 ts with
    | none => none
    | some c => if ¬ jw (ts.tail.tail.tail.headD "") ∨ ¬ (j = "" ∨ j = ts.tail.tail.tail.headD "") ∨ n = 0 then some (.tuple [.str (if j = "" then "and" else j), .tuple (fs ++ [c])], ts.tail.tail.tail)
      else lLoop n (ts.tail.tail.tail.headD "") (fs ++ [c]) ts.tail.tail.tail.tail
def lTest (ts : List Str) : Option (PyData × List Str) := lLoop 3 "" [] ts
theorem letter_len {a : Str} (h : isLetterS a = true) : a.length = 1 := by
  unfold isLetterS at h
  split at h
  · rename_i c e
    rw [len_tl, show tl a = [c] from e]; rfl
  · cases h
theorem goal_ne {b : Str} (h : isGoal (.str b) = true) : b ≠ "" := fun z => by
  rw [z] at h
  exact absurd h (by decide +kernel)
theorem compOf_some {a m b : Str} {c : PyData} (h : compOf a m b = some c) : c = .tuple [.str m, .str a, .str b] ∧ isComp c = true ∧ compW c = [a, m, b] ∧ a ≠ "" ∧ m ≠ "" ∧ b ≠ "" := by
  unfold compOf at h
  split at h
  · rename_i hc
    obtain ⟨h1, h2, h3⟩ := hc
    cases h
    refine ⟨rfl, ?_, rfl, fun z => ?_, fun z => ?_, goal_ne h3⟩
    · show ((decide (m = "=") || decide (m = "!=")) && (isLetterS a && isGoal (.str b))) = true
      rw [h1, h3]
      rcases h2 with rfl | rfl <;> decide
    · rw [z] at h1; exact absurd (letter_len h1) (by decide)
    · rcases h2 with rfl | rfl <;> exact absurd z (by decide)
  · cases h
theorem compOf_of {c : PyData} (h : isComp c = true) : ∃ a m b, compW c = [a, m, b] ∧ compOf a m b = some c := by
  obtain ⟨m, a, b, rfl, hm, ha, hb⟩ := comp_cases h
  exact ⟨a, m, b, rfl, by unfold compOf; rw [if_pos ⟨ha, hm, hb⟩]⟩
theorem comp3_some {ts : List Str} {c : PyData} (h : comp3 ts = some c) : isComp c = true ∧ ts = compW c ++ ts.tail.tail.tail := by
  obtain ⟨h1, h2, h3, n1, n2, n3⟩ := compOf_some h
  match ts, h3, n1, n2, n3 with
  | [], _, n1, _, _ => exact absurd rfl n1
  | [a], _, _, n2, _ => exact absurd rfl n2
  | [a, m], _, _, _, n3 => exact absurd rfl n3
  | a :: m :: b :: r, h3, _, _, _ =>
    refine ⟨h2, ?_⟩
    rw [h3]
    rfl
theorem comp3_of {c : PyData} (h : isComp c = true) (r : List Str) : comp3 (compW c ++ r) = some c ∧ (compW c ++ r).tail.tail.tail = r := by
  obtain ⟨a, m, b, e1, e2⟩ := compOf_of h
  rw [e1]
  exact ⟨e2, rfl⟩
theorem optAll_some : ∀ {os : List (Option PyData)} {cs : List PyData}, optAll os = some cs → os = cs.map some
  | [], cs, h => by cases h; rfl
  | none :: _, cs, h => by cases h
  | some d :: r, cs, h => by
    rw [optAll] at h
    obtain ⟨ds, h1, rfl⟩ := Option.map_eq_some_iff.mp h
    rw [optAll_some h1]; rfl
theorem optAll_map : ∀ cs : List PyData, optAll (cs.map some) = some cs
  | [] => rfl
  | c :: cs => by rw [List.map_cons, optAll, optAll_map cs]; rfl
theorem pLoop_some : ∀ (n : Nat) (j : Str) (ts : List Str) (j' : Str) (cs : List PyData) (rest : List Str), pLoop n j ts = some (j', cs.map some, rest) →
    ts = cs.flatMap (fun c => j' :: compW c) ++ rest ∧ (∀ c ∈ cs, isComp c = true) ∧ (cs = [] → j' = j) ∧ (cs ≠ [] → jw j' ∧ (j = "" ∨ j = j'))
  | 0, j, ts, j', cs, rest, h => by
    rw [pLoop] at h
    injection h with h
    injection h with h1 h2
    injection h2 with h2 h3
    have e : cs = [] := List.map_eq_nil_iff.mp h2.symm
    subst e h1 h3
    exact ⟨rfl, (fun _ z => nomatch z), fun _ => rfl, fun z => absurd rfl z⟩
  | n + 1, j, ts, j', cs, rest, h => by
    rw [pLoop] at h
    by_cases hk : jw (ts.headD "")
    · rw [if_pos hk] at h
      by_cases hj : j = "" ∨ j = ts.headD ""
      · rw [if_pos hj] at h
        obtain ⟨⟨j2, os, r2⟩, h1, h2⟩ := Option.map_eq_some_iff.mp h
        injection h2 with h2 h3
        injection h3 with h3 h4
        subst h2 h4
        cases cs with
        | nil => cases h3
        | cons c cs =>
          injection h3 with h5 h6
          dsimp only at h6
          subst h6
          obtain ⟨i1, i2, i3, i4⟩ := pLoop_some n _ _ _ _ _ h1
          obtain ⟨c1, c2⟩ := comp3_some h5
          have ej : j2 = ts.headD "" := by
            by_cases z : cs = []
            · exact i3 z
            · obtain ⟨_, q | q⟩ := i4 z
              · rw [q] at hk
                exact absurd hk (by decide)
              · exact q.symm
          have ets : ts = ts.headD "" :: ts.tail := by
            cases ts with
            | nil => exact absurd hk (by decide)
            | cons x r => rfl
          refine ⟨?_, ?_, fun z => absurd z (by simp), fun _ => ⟨by rw [ej]; exact hk, by rw [ej]; exact hj⟩⟩
          · rw [ets, ej, List.flatMap_cons]
            conv => lhs; rw [c2, i1]
            rw [ej]
            simp only [List.append_assoc, List.cons_append]
          · intro x hx
            rcases List.mem_cons.mp hx with rfl | hx
            · exact c1
            · exact i2 x hx
      · rw [if_neg hj] at h; cases h
    · rw [if_neg hk] at h
      injection h with h
      injection h with h1 h2
      injection h2 with h2 h3
      have e : cs = [] := List.map_eq_nil_iff.mp h2.symm
      subst e h1 h3
      exact ⟨rfl, (fun _ z => nomatch z), fun _ => rfl, fun z => absurd rfl z⟩
theorem pLoop_of {k : Str} (hk : jw k) : ∀ (n : Nat) (cs : List PyData) (j : Str), cs.length < n → (∀ c ∈ cs, isComp c = true) → (j = "" ∨ j = k) → pLoop n j (cs.flatMap fun c => k :: compW c) = some (if cs = [] then j else k, cs.map some, [])
  | 0, cs, j, h, _, _ => absurd h (Nat.not_lt_zero _)
  | n + 1, [], j, _, _, _ => by
    rw [show (([] : List PyData).flatMap fun c => k :: compW c) = [] from rfl, pLoop, if_neg (show ¬ jw (([] : List Str).headD "") by decide)]
    rfl
  | n + 1, c :: cs, j, h, hc, hj => by
    have e : ((c :: cs).flatMap fun c => k :: compW c) = k :: (compW c ++ cs.flatMap fun c => k :: compW c) := by rw [List.flatMap_cons]; rfl
    obtain ⟨c1, c2⟩ := comp3_of (hc c List.mem_cons_self) (cs.flatMap fun c => k :: compW c)
    rw [e, pLoop, List.headD_cons, List.tail_cons, if_pos hk, if_pos hj, c1, c2, pLoop_of hk n cs k (by simpa using h) (fun x hx => hc x (List.mem_cons_of_mem _ hx)) (.inr rfl)]
    simp
theorem is_test_mk {k : Str} {cs : List PyData} (hk : jw k) (h1 : 1 ≤ cs.length) (h3 : cs.length ≤ 3) (ho : cs.length = 1 → k = "and") (hc : ∀ c ∈ cs, isComp c = true) : isTest (.tuple [.str k, .tuple cs]) = true := by
  show ((decide (k = "and") || decide (k = "or")) && (decide (1 ≤ cs.length ∧ cs.length ≤ 3) && (!(decide (cs.length = 1) && decide (k = "or")) && cs.all isComp))) = true
  rw [List.all_eq_true.mpr hc, decide_eq_true (show 1 ≤ cs.length ∧ cs.length ≤ 3 from ⟨h1, h3⟩)]
  rcases hk with rfl | rfl
  · simp only [decide_eq_false (show ¬ ("and" : Str) = "or" by decide)]
    simp
  · rw [decide_eq_false (show ¬ cs.length = 1 from fun z => absurd (ho z) (by decide))]
    simp
theorem joinW_cons (k : Str) (x : List Str) : ∀ l : List (List Str), joinW k (x :: l) = x ++ l.flatMap fun y => k :: y
  | [] => by simp [joinW]
  | y :: r => by
    rw [joinW, joinW_cons k y r, List.flatMap_cons]
    rfl
theorem testW_cons {k : Str} {c : PyData} {cs : List PyData} : testW (.tuple [.str k, .tuple (c :: cs)]) = compW c ++ cs.flatMap fun c => k :: compW c := by
  show joinW k ((c :: cs).map compW) = _
  rw [List.map_cons, joinW_cons, List.flatMap_map]
theorem pTest_iff {ts : List Str} {d : PyData} : pTest ts = some (d, []) ↔ isTest d = true ∧ ts = testW d := by
  constructor
  · intro h
    unfold pTest pGo at h
    split at h
    · rename_i j os rest e
      unfold pFin at h
      split at h
      · rename_i cs ec
        split at h
        · rename_i h3
          injection h with h
          injection h with hd hr
          subst hd hr
          cases c0 : comp3 ts with
          | none => rw [c0] at ec; cases ec
          | some c =>
            rw [c0] at ec
            obtain ⟨cs', e1, rfl⟩ := Option.map_eq_some_iff.mp (show (optAll os).map (c :: ·) = some cs from ec)
            rw [optAll_some e1] at e
            obtain ⟨i1, i2, i3, i4⟩ := pLoop_some _ _ _ _ _ _ e
            obtain ⟨c1, c2⟩ := comp3_some c0
            rw [List.append_nil] at i1
            by_cases z : cs' = []
            · have ej := i3 z
              subst z ej
              refine ⟨is_test_mk (.inl rfl) (by simp) (by simp) (fun _ => rfl) (fun x hx => by rw [List.mem_singleton.mp hx]; exact c1), ?_⟩
              rw [c2, i1, if_pos rfl, testW_cons]
              rfl
            · obtain ⟨q1, q2⟩ := i4 z
              have jn : j ≠ "" := fun e => by rw [e] at q1; exact absurd q1 (by decide)
              rw [if_neg jn]
              refine ⟨is_test_mk q1 (by simp) h3 (fun e => absurd (List.eq_nil_of_length_eq_zero (by simpa using e)) z) (fun x hx => ?_), ?_⟩
              · rcases List.mem_cons.mp hx with rfl | hx
                · exact c1
                · exact i2 x hx
              · rw [testW_cons, ← i1]
                exact c2
        · cases h
      · cases h
    · cases h
  · rintro ⟨ht, rfl⟩
    have ht' := ht
    obtain ⟨k, cs, rfl, hk, hl, hc⟩ := test_cases ht
    cases cs with
    | nil => exact absurd hl.1 (by simp)
    | cons c cs =>
      obtain ⟨c1, c2⟩ := comp3_of (hc c List.mem_cons_self) (cs.flatMap fun c => k :: compW c)
      have hlen : cs.length < (cs.flatMap fun c => k :: compW c).length + 1 := by
        have : ∀ cs : List PyData, cs.length ≤ (cs.flatMap fun c => k :: compW c).length := fun cs => by
          induction cs with
          | nil => exact Nat.zero_le _
          | cons x r ih => rw [List.flatMap_cons, List.length_append, List.length_cons, List.length_cons]; omega
        have := this cs
        omega
      have ep := pLoop_of hk ((cs.flatMap fun c => k :: compW c).length + 1) cs "" hlen (fun x hx => hc x (List.mem_cons_of_mem _ hx)) (.inl rfl)
      rw [testW_cons]
      unfold pTest pGo
      rw [c1, c2, ep]
      show pFin (if cs = [] then "" else k) (some c :: cs.map some) [] = _
      unfold pFin
      rw [show optAll (some c :: cs.map some) = some (c :: cs) from optAll_map (c :: cs)]
      show (if (c :: cs).length ≤ 3 then _ else _) = _
      rw [if_pos hl.2]
      by_cases z : cs = []
      · subst z
        have : k = "and" := by
          rcases hk with e | e
          · exact e
          · rw [e] at ht'
            simp [isTest] at ht'
        rw [this]
        rfl
      · have kn : k ≠ "" := by rcases hk with rfl | rfl <;> decide
        rw [if_neg z, if_neg kn]
/-- what the law's reader takes -/
theorem lLoop_some : ∀ (n : Nat) (j : Str) (fs : List PyData) (ts : List Str) (d : PyData) (rest : List Str), (j = "" ∨ jw j) → lLoop n j fs ts = some (d, rest) →
    ∃ (k : Str) (c : PyData) (cs : List PyData), d = .tuple [.str (if k = "" then "and" else k), .tuple (fs ++ c :: cs)] ∧ cs.length < n ∧ (∀ x ∈ c :: cs, isComp x = true) ∧ ts = compW c ++ cs.flatMap (fun c => k :: compW c) ++ rest ∧ (cs = [] → k = j) ∧ (cs ≠ [] → jw k ∧ (j = "" ∨ j = k))
  | 0, _, _, _, _, _, _, h => by cases h
  | n + 1, j, fs, ts, d, rest, hj, h => by
    rw [lLoop] at h
    split at h
    · cases h
    · rename_i c ec
      obtain ⟨c1, c2⟩ := comp3_some ec
      split at h
      · injection h with h
        injection h with h1 h2
        subst h1 h2
        refine ⟨j, c, [], rfl, Nat.succ_pos _, fun x hx => by rw [List.mem_singleton.mp hx]; exact c1, ?_, fun _ => rfl, fun z => absurd rfl z⟩
        rw [List.flatMap_nil, List.append_nil]
        exact c2
      · rename_i hn
        have h1 : jw (ts.tail.tail.tail.headD "") := Decidable.byContradiction fun z => hn (.inl z)
        have h2 : j = "" ∨ j = ts.tail.tail.tail.headD "" := Decidable.byContradiction fun z => hn (.inr (.inl z))
        obtain ⟨k, c', cs, e1, e2, e3, e4, e5, e6⟩ := lLoop_some n _ _ _ _ _ (.inr h1) h
        have ek : k = ts.tail.tail.tail.headD "" := by
          by_cases z : cs = []
          · exact e5 z
          · obtain ⟨_, q | q⟩ := e6 z
            · rw [q] at h1; exact absurd h1 (by decide)
            · exact q.symm
        have ets : ts.tail.tail.tail = ts.tail.tail.tail.headD "" :: ts.tail.tail.tail.tail := by
          cases z : ts.tail.tail.tail with
          | nil => rw [z] at h1; exact absurd h1 (by decide)
          | cons x r => rfl
        refine ⟨k, c, c' :: cs, ?_, by simpa using e2, fun x hx => ?_, ?_, fun z => absurd z (by simp), fun _ => ⟨by rw [ek]; exact h1, by rw [ek]; exact h2⟩⟩
        · rw [e1]
          simp only [List.append_assoc, List.cons_append, List.nil_append]
        · rcases List.mem_cons.mp hx with rfl | hx
          · exact c1
          · exact e3 x hx
        · rw [List.flatMap_cons]
          conv => lhs; rw [c2, ets, e4]
          rw [← ek]
          simp only [List.append_assoc, List.cons_append]
theorem lLoop_of {k : Str} (hk : jw k) : ∀ (n : Nat) (c : PyData) (cs fs : List PyData) (j : Str), cs.length < n → (∀ x ∈ c :: cs, isComp x = true) → (j = "" ∨ j = k) →
    lLoop n j fs (compW c ++ cs.flatMap fun c => k :: compW c) = some (.tuple [.str (if cs = [] then (if j = "" then "and" else j) else k), .tuple (fs ++ c :: cs)], [])
  | 0, _, cs, _, _, h, _, _ => absurd h (Nat.not_lt_zero _)
  | n + 1, c, [], fs, j, h, hc, hj => by
    obtain ⟨c1, c2⟩ := comp3_of (hc c List.mem_cons_self) (([] : List PyData).flatMap fun c => k :: compW c)
    rw [lLoop, c1, c2]
    show (if ¬ jw ("" : Str) ∨ _ then _ else _) = _
    refine (if_pos (.inl (by decide))).trans ?_
    rfl
  | n + 1, c, c' :: cs, fs, j, h, hc, hj => by
    obtain ⟨c1, c2⟩ := comp3_of (hc c List.mem_cons_self) ((c' :: cs).flatMap fun c => k :: compW c)
    have hn : n ≠ 0 := fun z => by rw [z] at h; simp at h
    have kn : k ≠ "" := by rcases hk with rfl | rfl <;> decide
    rw [lLoop, c1, c2, List.flatMap_cons, List.cons_append]
    show (if ¬ jw k ∨ ¬ (j = "" ∨ j = k) ∨ n = 0 then _ else lLoop n k (fs ++ [c]) (compW c' ++ cs.flatMap fun c => k :: compW c)) = _
    rw [if_neg (fun z => by rcases z with z | z | z; exact z hk; exact z hj; exact hn z), lLoop_of hk n c' cs (fs ++ [c]) k (by simpa using h) (fun x hx => hc x (List.mem_cons_of_mem _ hx)) (.inr rfl)]
    rw [if_neg kn]
    simp only [List.append_assoc, List.cons_append, List.nil_append, reduceCtorEq, if_false, ite_self]
theorem lTest_iff {ts : List Str} {d : PyData} : lTest ts = some (d, []) ↔ isTest d = true ∧ ts = testW d := by
  constructor
  · intro h
    obtain ⟨k, c, cs, rfl, h1, h2, h3, h4, h5⟩ := lLoop_some _ _ _ _ _ _ (.inl rfl) h
    rw [List.append_nil] at h3
    by_cases z : cs = []
    · have := h4 z
      subst this z
      exact ⟨is_test_mk (.inl rfl) (by simp) (by simp) (fun _ => rfl) h2, by rw [h3, if_pos rfl, List.nil_append, testW_cons]; rfl⟩
    · obtain ⟨q1, _⟩ := h5 z
      have kn : k ≠ "" := by rcases q1 with rfl | rfl <;> decide
      rw [if_neg kn]
      refine ⟨is_test_mk q1 (by simp) (by simp only [List.nil_append, List.length_cons]; omega) (fun e => absurd (List.eq_nil_of_length_eq_zero (by simpa using e)) z) h2, ?_⟩
      rw [h3]
      exact testW_cons.symm
  · rintro ⟨ht, rfl⟩
    have ht' := ht
    obtain ⟨k, cs, rfl, hk, hl, hc⟩ := test_cases ht
    cases cs with
    | nil => exact absurd hl.1 (by simp)
    | cons c cs =>
      rw [testW_cons]
      unfold lTest
      rw [lLoop_of hk 3 c cs [] "" (by have := hl.2; simp only [List.length_cons] at this; omega) hc (.inl rfl)]
      by_cases z : cs = []
      · subst z
        have : k = "and" := by
          rcases hk with e | e
          · exact e
          · rw [e] at ht'
            simp [isTest] at ht'
        rw [this]
        rfl
      · rw [if_neg z]
        rfl
/-! ### texts -/
def pSplit (s : Str) : Option (List Str) := if ∀ w ∈ Txt.split s " ", w ≠ "" ∧ w ≠ ";" then some ((Txt.split s " ").flatMap sp1) else none
def pOf (s : Str) : Option PyData := match pSplit s with
  | none => none
  | some ts => match pTest ts with
    | some (d, []) => some d
    | _ => none
def lOf (s : Str) : Option PyData := match lTest (Txt.split s " ") with
  | some (d, []) => some d
  | _ => none
theorem comp_plain {c : PyData} (h : isComp c = true) : ∀ w ∈ compW c, plain w = true := by
  obtain ⟨m, a, b, rfl, hm, ha, hb⟩ := comp_cases h
  intro w hw
  have hw' : w ∈ [a, m, b] := hw
  simp only [List.mem_cons, List.not_mem_nil, or_false] at hw'
  rcases hw' with rfl | rfl | rfl
  · exact plain_letter ha
  · rcases hm with rfl | rfl <;> decide +kernel
  · exact plain_goal hb
theorem test_plain {d : PyData} (h : isTest d = true) : ∀ w ∈ testW d, plain w = true := by
  obtain ⟨k, cs, rfl, hk, hl, hc⟩ := test_cases h
  cases cs with
  | nil => exact absurd hl.1 (by simp)
  | cons c cs =>
    rw [testW_cons]
    intro w hw
    rcases List.mem_append.mp hw with hw | hw
    · exact comp_plain (hc c List.mem_cons_self) w hw
    · obtain ⟨c', h1, h2⟩ := List.mem_flatMap.mp hw
      rcases List.mem_cons.mp h2 with rfl | h2
      · rcases hk with rfl | rfl <;> decide +kernel
      · exact comp_plain (hc c' (List.mem_cons_of_mem _ h1)) w h2
theorem sp1_flat {ws ts : List Str} (hp : ∀ w ∈ ts, plain w = true) (h : ws.flatMap sp1 = ts) : ws = ts := by
  induction ws generalizing ts with
  | nil => exact h
  | cons w ws ih =>
    rw [List.flatMap_cons] at h
    have hs : sp1 w = [w] ∨ (";" : Str) ∈ sp1 w := by
      unfold sp1
      split
      · right; simp
      · left; rfl
    rcases hs with e | e
    · rw [e] at h
      cases ts with
      | nil => cases h
      | cons t ts =>
        injection h with h1 h2
        rw [h1, ih (fun w hw => hp w (List.mem_cons_of_mem _ hw)) h2]
    · have : plain (";" : Str) = true := hp _ (by rw [← h]; exact List.mem_append_left _ e)
      exact absurd this (by decide +kernel)
theorem flat_plain {ws : List Str} (hp : ∀ w ∈ ws, plain w = true) : ws.flatMap sp1 = ws := by
  induction ws with
  | nil => rfl
  | cons w ws ih => rw [List.flatMap_cons, sp1_plain (hp w List.mem_cons_self), ih fun x hx => hp x (List.mem_cons_of_mem _ hx)]; rfl
theorem pOf_iff {s : Str} {d : PyData} : pOf s = some d ↔ isTest d = true ∧ Txt.split s " " = testW d := by
  have key : pOf s = some d ↔ ∃ ts, pSplit s = some ts ∧ pTest ts = some (d, []) := by
    unfold pOf
    constructor
    · intro h
      split at h
      · cases h
      · rename_i ts e
        split at h
        · rename_i d' e'
          cases h
          exact ⟨ts, e, e'⟩
        · cases h
    · rintro ⟨ts, e, e'⟩
      rw [e]
      dsimp only
      rw [e']
  rw [key]
  constructor
  · rintro ⟨ts, e, e'⟩
    obtain ⟨ht, rfl⟩ := pTest_iff.mp e'
    unfold pSplit at e
    split at e
    · injection e with e
      exact ⟨ht, sp1_flat (test_plain ht) e⟩
    · cases e
  · rintro ⟨ht, e⟩
    refine ⟨testW d, ?_, pTest_iff.mpr ⟨ht, rfl⟩⟩
    unfold pSplit
    rw [e, if_pos, flat_plain (test_plain ht)]
    intro w hw
    have p := test_plain ht w hw
    exact ⟨fun z => by rw [z] at p; exact absurd p (by decide +kernel), fun z => by rw [z] at p; exact absurd p (by decide +kernel)⟩
theorem lOf_iff {s : Str} {d : PyData} : lOf s = some d ↔ isTest d = true ∧ Txt.split s " " = testW d := by
  rw [← lTest_iff]
  unfold lOf
  constructor
  · intro h
    split at h
    · rename_i d' e
      cases h
      exact e
    · cases h
  · intro h
    rw [h]
/-- both readers agree -/
theorem pOf_lOf (s : Str) : pOf s = lOf s := by
  refine Option.ext fun d => ?_
  rw [pOf_iff, lOf_iff]
theorem pOf_text {d : PyData} (h : isTest d = true) : pOf (testText d) = some d := by
  rw [pOf_iff]
  refine ⟨h, sp1_flat (test_plain h) (test_Tk h).split.2.1⟩
end K38

set_option Elab.async false
set_option linter.all false
set_option maxRecDepth 100000
set_option maxHeartbeats 2000000
/-! the reader of programs as a plain function -/
namespace K38
open PySem PySem.Spec PyProof.Rows L2 Rd Dt Dq TL
abbrev Res := Option (PyData × List Str)
/-- what a deed's words read as -/
def refDeed (ts : List Str) : Res :=
  if ts.headD "" = "drop" then (if isLetterS (ts.tail.headD "") = true then some (.tuple [.str "drop", .str (ts.tail.headD "")], ts.tail.tail) else none)
  else if ts.headD "" = "next" then (if isLetterS (ts.tail.headD "") = true ∧ ts.tail.tail.headD "" = "=" ∧ isGoal (.str (ts.tail.tail.tail.headD "")) = true then some (.tuple [.str "tie", .str (ts.tail.headD ""), .str (ts.tail.tail.tail.headD "")], ts.tail.tail.tail.tail) else none)
  else if isLetterS (ts.headD "") = true ∧ ts.tail.headD "" = "=" then
    (if ts.tail.tail.headD "" = "new" then some (.tuple [.str "new", .str (ts.headD "")], ts.tail.tail.tail)
    else if ts.tail.tail.headD "" = "next" then (if isLetterS (ts.tail.tail.tail.headD "") = true then some (.tuple [.str "next", .str (ts.headD ""), .str (ts.tail.tail.tail.headD "")], ts.tail.tail.tail.tail) else none)
    else if isGoal (.str (ts.tail.tail.headD "")) = true then some (.tuple [.str "copy", .str (ts.headD ""), .str (ts.tail.tail.headD "")], ts.tail.tail.tail) else none)
  else none
def rowsWith (st : List Str → Res) : Nat → List PyData → List Str → Res
  | 0, _, _ => none
  | f + 1, acc, ts => match st ts with
    | none => none
    | some (d, r) => if r.headD "" = ";" then rowsWith st f (acc ++ [d]) r.tail else some (.tuple (acc ++ [d]), r)
def refRows (st : List Str → Res) (ts : List Str) : Res := if ts.headD "" = "none" then some (.tuple [], ts.tail) else rowsWith st (ts.length + 1) [] ts
def refBlock (rows : List Str → Res) (ts : List Str) : Res := if ts.headD "" = "{" then (match rows ts.tail with
  | none => none
  | some (d, r) => if r.headD "" = "}" then some (d, r.tail) else none) else none
def refIf (blk : List Str → Res) (ts : List Str) : Res := match pTest ts with
  | none => none
  | some (q, r) => match blk r with
    | none => none
    | some (a, r2) => if r2.headD "" = "else" then (match blk r2.tail with
      | none => none
      | some (b, r3) => some (.tuple [.str "if", q, a, b], r3)) else some (.tuple [.str "if", q, a, .tuple []], r2)
def refWhile (blk : List Str → Res) (ts : List Str) : Res := match pTest ts with
  | none => none
  | some (q, r) => match blk r with
    | none => none
    | some (a, r2) => some (.tuple [.str "while", q, a], r2)
def refSt : Nat → List Str → Res
  | 0, ts => if ts.headD "" = "if" ∨ ts.headD "" = "while" then none else refDeed ts
  | n + 1, ts => if ts.headD "" = "if" then refIf (refBlock (refRows (refSt n))) ts.tail else if ts.headD "" = "while" then refWhile (refBlock (refRows (refSt n))) ts.tail else refDeed ts
/-- a block's reader by the depth left -/
def refBlk : Nat → List Str → Res
  | 0 => fun _ => none
  | n + 1 => refBlock (refRows (refSt n))
theorem refSt_eq (n : Nat) (ts : List Str) : refSt n ts = if ts.headD "" = "if" then refIf (refBlk n) ts.tail else if ts.headD "" = "while" then refWhile (refBlk n) ts.tail else refDeed ts := by
  cases n with
  | succ n => rfl
  | zero =>
    have e1 : refIf (refBlk 0) ts.tail = none := by
      unfold refIf
      cases pTest ts.tail with
      | none => rfl
      | some x => rfl
    have e2 : refWhile (refBlk 0) ts.tail = none := by
      unfold refWhile
      cases pTest ts.tail with
      | none => rfl
      | some x => rfl
    rw [e1, e2, refSt]
    by_cases h1 : ts.headD "" = "if"
    · rw [if_pos (.inl h1), if_pos h1]
    · by_cases h2 : ts.headD "" = "while"
      · rw [if_pos (.inr h2), if_neg h1, if_pos h2]
      · rw [if_neg (fun z => by rcases z with z | z; exact h1 z; exact h2 z), if_neg h1, if_neg h2]
/-! ### what is read is a tree, and words go -/
def Good (p : PyData → Bool) (st : List Str → Res) : Prop := ∀ ts d r, st ts = some (d, r) → p d = true ∧ r.length < ts.length
theorem ne_len {ts : List Str} (h : ts.headD "" ≠ "") : 1 ≤ ts.length := by
  cases ts with
  | nil => exact absurd rfl h
  | cons _ _ => simp
theorem l_goal {b : Str} (h : isLetterS b = true) : isGoal (.str b) = true := by
  show (isLetterS b || decide (b = "END")) = true
  rw [h]; rfl
theorem d_copy {a b : Str} (ha : isLetterS a = true) (hb : isGoal (.str b) = true) : isDeed (.tuple [.str "copy", .str a, .str b]) = true := by
  show (isLetterS a && (if (("copy" : Str) = "new" ∨ ("copy" : Str) = "drop") then false else (if ("copy" : Str) = "next" then isLetter (.str b) else (decide (("copy" : Str) = "copy") || decide (("copy" : Str) = "tie")) && isGoal (.str b)))) = true
  rw [ha, hb, if_neg (by decide), if_neg (by decide)]; decide
theorem d_tie {a b : Str} (ha : isLetterS a = true) (hb : isGoal (.str b) = true) : isDeed (.tuple [.str "tie", .str a, .str b]) = true := by
  show (isLetterS a && (if (("tie" : Str) = "new" ∨ ("tie" : Str) = "drop") then false else (if ("tie" : Str) = "next" then isLetter (.str b) else (decide (("tie" : Str) = "copy") || decide (("tie" : Str) = "tie")) && isGoal (.str b)))) = true
  rw [ha, hb, if_neg (by decide), if_neg (by decide)]; decide
theorem d_next {a b : Str} (ha : isLetterS a = true) (hb : isLetterS b = true) : isDeed (.tuple [.str "next", .str a, .str b]) = true := by
  show (isLetterS a && (if (("next" : Str) = "new" ∨ ("next" : Str) = "drop") then false else (if ("next" : Str) = "next" then isLetterS b else (decide (("next" : Str) = "copy") || decide (("next" : Str) = "tie")) && isGoal (.str b)))) = true
  rw [ha, hb, if_neg (by decide), if_pos rfl]; rfl
theorem d_new {a : Str} (ha : isLetterS a = true) : isDeed (.tuple [.str "new", .str a]) = true := by
  show (isLetterS a && (if (("new" : Str) = "new" ∨ ("new" : Str) = "drop") then true else false)) = true
  rw [ha, if_pos (.inl rfl)]; rfl
theorem d_drop {a : Str} (ha : isLetterS a = true) : isDeed (.tuple [.str "drop", .str a]) = true := by
  show (isLetterS a && (if (("drop" : Str) = "new" ∨ ("drop" : Str) = "drop") then true else false)) = true
  rw [ha, if_pos (.inr rfl)]; rfl
theorem letter_ne0 {a : Str} (h : isLetterS a = true) : a ≠ "" := fun z => by
  rw [z] at h
  exact absurd (letter_len h) (by decide)
theorem deed_good : Good isDeed refDeed := fun ts d r h => by
  unfold refDeed at h
  have tl1 : ts.tail.headD "" ≠ "" → 2 ≤ ts.length := fun z => by
    have := ne_len z
    rw [List.length_tail] at this
    omega
  have tl2 : ts.tail.tail.headD "" ≠ "" → 3 ≤ ts.length := fun z => by
    have := ne_len z
    simp only [List.length_tail] at this
    omega
  have tl3 : ts.tail.tail.tail.headD "" ≠ "" → 4 ≤ ts.length := fun z => by
    have := ne_len z
    simp only [List.length_tail] at this
    omega
  split at h
  · split at h
    · rename_i h1
      injection h with h
      injection h with h2 h3
      subst h2 h3
      have := tl1 (letter_ne0 h1)
      exact ⟨d_drop h1, by simp only [List.length_tail]; omega⟩
    · cases h
  · split at h
    · split at h
      · rename_i h1
        injection h with h
        injection h with h2 h3
        subst h2 h3
        have := tl1 (letter_ne0 h1.1)
        exact ⟨d_tie h1.1 h1.2.2, by simp only [List.length_tail]; omega⟩
      · cases h
    · split at h
      · rename_i h1
        have l1 := ne_len (letter_ne0 h1.1)
        split at h
        · injection h with h
          injection h with h2 h3
          subst h2 h3
          exact ⟨d_new h1.1, by simp only [List.length_tail]; omega⟩
        · split at h
          · split at h
            · rename_i h4
              injection h with h
              injection h with h2 h3
              subst h2 h3
              exact ⟨d_next h1.1 h4, by simp only [List.length_tail]; omega⟩
            · cases h
          · split at h
            · rename_i h4
              injection h with h
              injection h with h2 h3
              subst h2 h3
              exact ⟨d_copy h1.1 h4, by simp only [List.length_tail]; omega⟩
            · cases h
      · cases h
theorem rowsWith_good {p : PyData → Bool} {st : List Str → Res} (g : Good p st) : ∀ (f : Nat) (acc : List PyData) (ts : List Str) (d : PyData) (r : List Str), (∀ x ∈ acc, p x = true) → rowsWith st f acc ts = some (d, r) → treeOf p d = true ∧ r.length < ts.length
  | 0, _, _, _, _, _, h => by cases h
  | f + 1, acc, ts, d, r, ha, h => by
    rw [rowsWith] at h
    split at h
    · cases h
    · rename_i d1 r1 e
      obtain ⟨g1, g2⟩ := g _ _ _ e
      have ha' : ∀ x ∈ acc ++ [d1], p x = true := fun x hx => by
        rcases List.mem_append.mp hx with hx | hx
        · exact ha x hx
        · rw [List.mem_singleton.mp hx]; exact g1
      split at h
      · obtain ⟨i1, i2⟩ := rowsWith_good g f _ _ _ _ ha' h
        refine ⟨i1, ?_⟩
        rw [List.length_tail] at i2
        omega
      · injection h with h
        injection h with h1 h2
        subst h1 h2
        exact ⟨List.all_eq_true.mpr ha', g2⟩
theorem refRows_good {p : PyData → Bool} {st : List Str → Res} (g : Good p st) : Good (treeOf p) (refRows st) := fun ts d r h => by
  unfold refRows at h
  split at h
  · rename_i hn
    injection h with h
    injection h with h1 h2
    subst h1 h2
    have := ne_len (ts := ts) (by rw [hn]; decide)
    exact ⟨rfl, by rw [List.length_tail]; omega⟩
  · exact rowsWith_good g _ [] _ _ _ (fun _ z => nomatch z) h
theorem refBlock_good {p : PyData → Bool} {rows : List Str → Res} (g : Good p rows) : Good p (refBlock rows) := fun ts d r h => by
  unfold refBlock at h
  split at h
  · rename_i hn
    have l0 := ne_len (ts := ts) (by rw [hn]; decide)
    split at h
    · cases h
    · rename_i d1 r1 e
      obtain ⟨g1, g2⟩ := g _ _ _ e
      rw [List.length_tail] at g2
      split at h
      · injection h with h
        injection h with h1 h2
        subst h1 h2
        exact ⟨g1, by rw [List.length_tail]; omega⟩
      · cases h
  · cases h
theorem pLoop_len : ∀ (n : Nat) (j : Str) (ts : List Str) (j' : Str) (os : List (Option PyData)) (rest : List Str), pLoop n j ts = some (j', os, rest) → rest.length ≤ ts.length ∧ (j = "" ∨ jw j → j' = "" ∨ jw j')
  | 0, j, ts, j', os, rest, h => by
    rw [pLoop] at h
    injection h with h
    injection h with h1 h2
    injection h2 with h2 h3
    subst h1 h3
    exact ⟨Nat.le_refl _, id⟩
  | n + 1, j, ts, j', os, rest, h => by
    rw [pLoop] at h
    split at h
    · rename_i hk
      split at h
      · obtain ⟨⟨j2, os2, r2⟩, h1, h2⟩ := Option.map_eq_some_iff.mp h
        injection h2 with h2 h3
        injection h3 with h3 h4
        have h4' : r2 = rest := h4
        have h2' : j2 = j' := h2
        subst h4' h2'
        obtain ⟨i1, i2⟩ := pLoop_len n _ _ _ _ _ h1
        simp only [List.length_tail] at i1
        exact ⟨by omega, fun _ => i2 (.inr hk)⟩
      · cases h
    · injection h with h
      injection h with h1 h2
      injection h2 with h2 h3
      subst h1 h3
      exact ⟨Nat.le_refl _, id⟩
theorem pTest_good : Good isTest pTest := fun ts d r h => by
  unfold pTest pGo at h
  split at h
  · rename_i j os rest e
    have hl := pLoop_len _ _ _ _ _ _ e
    unfold pFin at h
    split at h
    · rename_i cs ec
      split at h
      · rename_i h3
        injection h with h
        injection h with hd hr
        subst hd hr
        cases c0 : comp3 ts with
        | none => rw [c0] at ec; cases ec
        | some c =>
          rw [c0] at ec
          obtain ⟨cs', e1, rfl⟩ := Option.map_eq_some_iff.mp (show (optAll os).map (c :: ·) = some cs from ec)
          rw [optAll_some e1] at e
          obtain ⟨i1, i2, i3, i4⟩ := pLoop_some _ _ _ _ _ _ e
          obtain ⟨c1, c2⟩ := comp3_some c0
          have ll : rest.length < ts.length := by
            have h0 := hl.1
            obtain ⟨a, m, b, ew, _⟩ := compOf_of c1
            rw [ew] at c2
            have := congrArg List.length c2
            simp only [List.length_append, List.length_cons, List.length_nil, List.length_tail] at this h0
            omega
          refine ⟨?_, ll⟩
          by_cases z : cs' = []
          · have ej := i3 z
            subst z ej
            exact is_test_mk (.inl rfl) (by simp) (by simp) (fun _ => rfl) (fun x hx => by rw [List.mem_singleton.mp hx]; exact c1)
          · obtain ⟨q1, q2⟩ := i4 z
            have jn : j ≠ "" := fun e => by rw [e] at q1; exact absurd q1 (by decide)
            rw [if_neg jn]
            refine is_test_mk q1 (by simp) h3 (fun e => absurd (List.eq_nil_of_length_eq_zero (by simpa using e)) z) (fun x hx => ?_)
            rcases List.mem_cons.mp hx with rfl | hx
            · exact c1
            · exact i2 x hx
      · cases h
    · cases h
  · cases h
theorem deed_isSt {d : PyData} (h : isDeed d = true) : ∀ n, isSt n d = true
  | 0 => h
  | n + 1 => by
    unfold isSt
    rw [h]
    rfl
theorem i_ok {n : Nat} {t a b : PyData} (ht : isTest t = true) (ha : treeOf (isSt n) a = true) (hb : treeOf (isSt n) b = true) : isSt (n + 1) (.tuple [.str "if", t, a, b]) = true := by
  unfold isSt
  simp [ht, ha, hb]
theorem w_ok {n : Nat} {t a : PyData} (ht : isTest t = true) (ha : treeOf (isSt n) a = true) : isSt (n + 1) (.tuple [.str "while", t, a]) = true := by
  unfold isSt
  simp [ht, ha]
theorem refSt_good : ∀ n, Good (isSt n) (refSt n)
  | 0 => fun ts d r h => by
    rw [refSt] at h
    split at h
    · cases h
    · exact deed_good _ _ _ h
  | n + 1 => fun ts d r h => by
    have gb := refBlock_good (refRows_good (refSt_good n))
    rw [refSt] at h
    split at h
    · rename_i hn
      have l0 := ne_len (ts := ts) (by rw [hn]; decide)
      unfold refIf at h
      split at h
      · cases h
      · rename_i q r1 e1
        obtain ⟨t1, t2⟩ := pTest_good _ _ _ e1
        rw [List.length_tail] at t2
        split at h
        · cases h
        · rename_i a r2 e2
          obtain ⟨a1, a2⟩ := gb _ _ _ e2
          split at h
          · split at h
            · cases h
            · rename_i b r3 e3
              obtain ⟨b1, b2⟩ := gb _ _ _ e3
              rw [List.length_tail] at b2
              injection h with h
              injection h with h1 h2
              subst h1 h2
              exact ⟨i_ok t1 a1 b1, by omega⟩
          · injection h with h
            injection h with h1 h2
            subst h1 h2
            exact ⟨i_ok t1 a1 rfl, by omega⟩
    · split at h
      · rename_i hn
        have l0 := ne_len (ts := ts) (by rw [hn]; decide)
        unfold refWhile at h
        split at h
        · cases h
        · rename_i q r1 e1
          obtain ⟨t1, t2⟩ := pTest_good _ _ _ e1
          rw [List.length_tail] at t2
          split at h
          · cases h
          · rename_i a r2 e2
            obtain ⟨a1, a2⟩ := gb _ _ _ e2
            injection h with h
            injection h with h1 h2
            subst h1 h2
            exact ⟨w_ok t1 a1, by omega⟩
      · obtain ⟨g1, g2⟩ := deed_good _ _ _ h
        exact ⟨deed_isSt g1 _, g2⟩
/-- fuel does not matter -/
theorem rowsWith_fuel {p : PyData → Bool} {st : List Str → Res} (g : Good p st) : ∀ (n m : Nat) (acc : List PyData) (ts : List Str), ts.length < n → ts.length < m → rowsWith st n acc ts = rowsWith st m acc ts
  | 0, _, _, _, h, _ => absurd h (Nat.not_lt_zero _)
  | _ + 1, 0, _, _, _, h => absurd h (Nat.not_lt_zero _)
  | n + 1, m + 1, acc, ts, h1, h2 => by
    rw [rowsWith, rowsWith]
    cases e : st ts with
    | none => rfl
    | some x =>
      obtain ⟨d, r⟩ := x
      obtain ⟨_, g2⟩ := g _ _ _ e
      show (if r.headD "" = ";" then rowsWith st n (acc ++ [d]) r.tail else some (.tuple (acc ++ [d]), r)) = (if r.headD "" = ";" then rowsWith st m (acc ++ [d]) r.tail else some (.tuple (acc ++ [d]), r))
      rw [rowsWith_fuel g n m (acc ++ [d]) r.tail (by rw [List.length_tail]; omega) (by rw [List.length_tail]; omega)]
/-! ### what is left is the text's end -/
def Suf (st : List Str → Res) : Prop := ∀ ts d r, st ts = some (d, r) → r <:+ ts
theorem suf1 (ts : List Str) : ts.tail <:+ ts := List.tail_suffix ts
theorem suf_deed : Suf refDeed := fun ts d r h => by
  have s2 := (suf1 ts.tail).trans (suf1 ts)
  have s3 := (suf1 ts.tail.tail).trans s2
  have s4 := (suf1 ts.tail.tail.tail).trans s3
  unfold refDeed at h
  split at h
  · split at h
    · injection h with h
      injection h with h2 h3
      subst h3
      exact s2
    · cases h
  · split at h
    · split at h
      · injection h with h
        injection h with h2 h3
        subst h3
        exact s4
      · cases h
    · split at h
      · split at h
        · injection h with h
          injection h with h2 h3
          subst h3
          exact s3
        · split at h
          · split at h
            · injection h with h
              injection h with h2 h3
              subst h3
              exact s4
            · cases h
          · split at h
            · injection h with h
              injection h with h2 h3
              subst h3
              exact s3
            · cases h
      · cases h
theorem suf_with {st : List Str → Res} (g : Suf st) : ∀ (f : Nat) (acc : List PyData) (ts : List Str) (d : PyData) (r : List Str), rowsWith st f acc ts = some (d, r) → r <:+ ts
  | 0, _, _, _, _, h => by cases h
  | f + 1, acc, ts, d, r, h => by
    rw [rowsWith] at h
    split at h
    · cases h
    · rename_i d1 r1 e
      have g1 := g _ _ _ e
      split at h
      · exact ((suf_with g f _ _ _ _ h).trans (suf1 r1)).trans g1
      · injection h with h
        injection h with h1 h2
        subst h2
        exact g1
theorem suf_rows {st : List Str → Res} (g : Suf st) : Suf (refRows st) := fun ts d r h => by
  unfold refRows at h
  split at h
  · injection h with h
    injection h with h1 h2
    subst h2
    exact suf1 ts
  · exact suf_with g _ _ _ _ _ h
theorem suf_block {rows : List Str → Res} (g : Suf rows) : Suf (refBlock rows) := fun ts d r h => by
  unfold refBlock at h
  split at h
  · split at h
    · cases h
    · rename_i d1 r1 e
      split at h
      · injection h with h
        injection h with h1 h2
        subst h2
        exact ((suf1 r1).trans (g _ _ _ e)).trans (suf1 ts)
      · cases h
  · cases h
theorem suf_loop : ∀ (n : Nat) (j : Str) (ts : List Str) (j' : Str) (os : List (Option PyData)) (rest : List Str), pLoop n j ts = some (j', os, rest) → rest <:+ ts
  | 0, j, ts, j', os, rest, h => by
    rw [pLoop] at h
    injection h with h
    injection h with h1 h2
    injection h2 with h2 h3
    subst h3
    exact List.suffix_refl _
  | n + 1, j, ts, j', os, rest, h => by
    rw [pLoop] at h
    split at h
    · split at h
      · obtain ⟨⟨j2, os2, r2⟩, h1, h2⟩ := Option.map_eq_some_iff.mp h
        injection h2 with h2 h3
        injection h3 with h3 h4
        have h4' : r2 = rest := h4
        subst h4'
        exact (suf_loop n _ _ _ _ _ h1).trans ((suf1 _).trans ((suf1 _).trans ((suf1 _).trans (suf1 ts))))
      · cases h
    · injection h with h
      injection h with h1 h2
      injection h2 with h2 h3
      subst h3
      exact List.suffix_refl _
theorem suf_test : Suf pTest := fun ts d r h => by
  unfold pTest pGo at h
  split at h
  · rename_i j os rest e
    have hl := suf_loop _ _ _ _ _ _ e
    unfold pFin at h
    split at h
    · split at h
      · injection h with h
        injection h with hd hr
        subst hr
        exact hl.trans ((suf1 _).trans ((suf1 _).trans (suf1 ts)))
      · cases h
    · cases h
  · cases h
theorem suf_st : ∀ n, Suf (refSt n)
  | 0 => fun ts d r h => by
    rw [refSt] at h
    split at h
    · cases h
    · exact suf_deed _ _ _ h
  | n + 1 => fun ts d r h => by
    have gb := suf_block (suf_rows (suf_st n))
    rw [refSt] at h
    split at h
    · unfold refIf at h
      split at h
      · cases h
      · rename_i q r1 e1
        have t1 := (suf_test _ _ _ e1).trans (suf1 ts)
        split at h
        · cases h
        · rename_i a r2 e2
          have a1 := (gb _ _ _ e2).trans t1
          split at h
          · split at h
            · cases h
            · rename_i b r3 e3
              injection h with h
              injection h with h1 h2
              subst h2
              exact ((gb _ _ _ e3).trans (suf1 _)).trans a1
          · injection h with h
            injection h with h1 h2
            subst h2
            exact a1
    · split at h
      · unfold refWhile at h
        split at h
        · cases h
        · rename_i q r1 e1
          have t1 := (suf_test _ _ _ e1).trans (suf1 ts)
          split at h
          · cases h
          · rename_i a r2 e2
            injection h with h
            injection h with h1 h2
            subst h2
            exact (gb _ _ _ e2).trans t1
      · exact suf_deed _ _ _ h
/-! ### both test readers, words behind -/
theorem pLoop_ofR {k : Str} (hk : jw k) {rest : List Str} (hr : ¬ jw (rest.headD "")) : ∀ (n : Nat) (cs : List PyData) (j : Str), cs.length < n → (∀ c ∈ cs, isComp c = true) → (j = "" ∨ j = k) → pLoop n j ((cs.flatMap fun c => k :: compW c) ++ rest) = some (if cs = [] then j else k, cs.map some, rest)
  | 0, cs, j, h, _, _ => absurd h (Nat.not_lt_zero _)
  | n + 1, [], j, _, _, _ => by
    rw [show (([] : List PyData).flatMap fun c => k :: compW c) ++ rest = rest from rfl, pLoop, if_neg hr]
    rfl
  | n + 1, c :: cs, j, h, hc, hj => by
    have e : ((c :: cs).flatMap fun c => k :: compW c) ++ rest = k :: (compW c ++ ((cs.flatMap fun c => k :: compW c) ++ rest)) := by
      rw [List.flatMap_cons, List.append_assoc]; rfl
    obtain ⟨c1, c2⟩ := comp3_of (hc c List.mem_cons_self) ((cs.flatMap fun c => k :: compW c) ++ rest)
    rw [e, pLoop, List.headD_cons, List.tail_cons, if_pos hk, if_pos hj, c1, c2, pLoop_ofR hk hr n cs k (by simpa using h) (fun x hx => hc x (List.mem_cons_of_mem _ hx)) (.inr rfl)]
    simp
theorem lLoop_ofR {k : Str} (hk : jw k) {rest : List Str} (hr : ¬ jw (rest.headD "")) : ∀ (n : Nat) (c : PyData) (cs fs : List PyData) (j : Str), cs.length < n → (∀ x ∈ c :: cs, isComp x = true) → (j = "" ∨ j = k) →
    lLoop n j fs (compW c ++ ((cs.flatMap fun c => k :: compW c) ++ rest)) = some (.tuple [.str (if cs = [] then (if j = "" then "and" else j) else k), .tuple (fs ++ c :: cs)], rest)
  | 0, _, cs, _, _, h, _, _ => absurd h (Nat.not_lt_zero _)
  | n + 1, c, [], fs, j, h, hc, hj => by
    obtain ⟨c1, c2⟩ := comp3_of (hc c List.mem_cons_self) rest
    show lLoop (n + 1) j fs (compW c ++ rest) = _
    rw [lLoop, c1, c2]
    refine (if_pos (.inl hr)).trans ?_
    rfl
  | n + 1, c, c' :: cs, fs, j, h, hc, hj => by
    obtain ⟨c1, c2⟩ := comp3_of (hc c List.mem_cons_self) (((c' :: cs).flatMap fun c => k :: compW c) ++ rest)
    have hn : n ≠ 0 := fun z => by rw [z] at h; simp at h
    have kn : k ≠ "" := by rcases hk with rfl | rfl <;> decide
    have e : ((c' :: cs).flatMap fun c => k :: compW c) ++ rest = k :: (compW c' ++ ((cs.flatMap fun c => k :: compW c) ++ rest)) := by
      rw [List.flatMap_cons, List.append_assoc]; rfl
    rw [lLoop, c1, c2, e]
    show (if ¬ jw k ∨ ¬ (j = "" ∨ j = k) ∨ n = 0 then _ else lLoop n k (fs ++ [c]) (compW c' ++ ((cs.flatMap fun c => k :: compW c) ++ rest))) = _
    rw [if_neg (fun z => by rcases z with z | z | z; exact z hk; exact z hj; exact hn z), lLoop_ofR hk hr n c' cs (fs ++ [c]) k (by simpa using h) (fun x hx => hc x (List.mem_cons_of_mem _ hx)) (.inr rfl)]
    rw [if_neg kn]
    simp only [List.append_assoc, List.cons_append, List.nil_append, reduceCtorEq, if_false, ite_self]
theorem flat_lenC {k : Str} (cs : List PyData) (rest : List Str) : cs.length ≤ ((cs.flatMap fun c => k :: compW c) ++ rest).length := by
  induction cs with
  | nil => exact Nat.zero_le _
  | cons x r ih =>
    rw [List.length_append] at ih
    rw [List.flatMap_cons, List.length_append, List.length_append, List.length_cons, List.length_cons]
    omega
theorem pLoop_end : ∀ (n : Nat) (j : Str) (ts : List Str) (j' : Str) (os : List (Option PyData)) (rest : List Str), ts.length < n → pLoop n j ts = some (j', os, rest) → ¬ jw (rest.headD "")
  | 0, _, _, _, _, _, h, _ => absurd h (Nat.not_lt_zero _)
  | n + 1, j, ts, j', os, rest, hl, h => by
    rw [pLoop] at h
    split at h
    · rename_i hk
      have l0 : 1 ≤ ts.length := by
        cases ts with
        | nil => exact absurd hk (by decide)
        | cons _ _ => simp
      split at h
      · obtain ⟨⟨j2, os2, r2⟩, h1, h2⟩ := Option.map_eq_some_iff.mp h
        injection h2 with h2 h3
        injection h3 with h3 h4
        have h4' : r2 = rest := h4
        subst h4'
        exact pLoop_end n _ _ _ _ _ (by simp only [List.length_tail]; omega) h1
      · cases h
    · rename_i hk
      injection h with h
      injection h with h1 h2
      injection h2 with h2 h3
      subst h3
      exact hk
/-- what the words of a test are -/
def Tst (ts : List Str) (d : PyData) (r : List Str) : Prop := ∃ (k : Str) (c : PyData) (cs : List PyData), jw k ∧ (cs = [] → k = "and") ∧ d = .tuple [.str k, .tuple (c :: cs)] ∧ cs.length < 3 ∧ (∀ x ∈ c :: cs, isComp x = true) ∧ ts = compW c ++ ((cs.flatMap fun c => k :: compW c) ++ r)
theorem p_tst {ts : List Str} {d : PyData} {r : List Str} (h : pTest ts = some (d, r)) : Tst ts d r ∧ ¬ jw (r.headD "") := by
  unfold pTest pGo at h
  split at h
  · rename_i j os rest e
    have he := pLoop_end _ _ _ _ _ _ (Nat.lt_succ_self _) e
    unfold pFin at h
    split at h
    · rename_i cs ec
      split at h
      · rename_i h3
        injection h with h
        injection h with hd hr
        subst hd hr
        cases c0 : comp3 ts with
        | none => rw [c0] at ec; cases ec
        | some c =>
          rw [c0] at ec
          obtain ⟨cs', e1, rfl⟩ := Option.map_eq_some_iff.mp (show (optAll os).map (c :: ·) = some cs from ec)
          rw [optAll_some e1] at e
          obtain ⟨i1, i2, i3, i4⟩ := pLoop_some _ _ _ _ _ _ e
          obtain ⟨c1, c2⟩ := comp3_some c0
          have h3' : cs'.length < 3 := by
            rw [List.length_cons] at h3
            omega
          have hc : ∀ x ∈ c :: cs', isComp x = true := fun x hx => by
            rcases List.mem_cons.mp hx with rfl | hx
            · exact c1
            · exact i2 x hx
          refine ⟨?_, he⟩
          by_cases z : cs' = []
          · have ej := i3 z
            subst z ej
            refine ⟨"and", c, [], .inl rfl, fun _ => rfl, by rw [if_pos rfl], by decide, hc, ?_⟩
            rw [i1] at c2
            exact c2
          · obtain ⟨q1, q2⟩ := i4 z
            have jn : j ≠ "" := fun e => by rw [e] at q1; exact absurd q1 (by decide)
            refine ⟨j, c, cs', q1, fun y => absurd y z, by rw [if_neg jn], h3', hc, ?_⟩
            rw [i1] at c2
            exact c2
      · cases h
    · cases h
  · cases h
theorem l_tst {ts : List Str} {d : PyData} {r : List Str} (h : lTest ts = some (d, r)) : Tst ts d r := by
  obtain ⟨k, c, cs, rfl, h1, h2, h3, h4, h5⟩ := lLoop_some _ _ _ _ _ _ (.inl rfl) h
  rw [List.append_assoc] at h3
  by_cases z : cs = []
  · have := h4 z
    subst this z
    exact ⟨"and", c, [], .inl rfl, fun _ => rfl, by rw [if_pos rfl]; rfl, by decide, h2, h3⟩
  · obtain ⟨q1, _⟩ := h5 z
    have kn : k ≠ "" := by rcases q1 with rfl | rfl <;> decide
    exact ⟨k, c, cs, q1, fun y => absurd y z, by rw [if_neg kn]; rfl, by simpa using h1, h2, h3⟩
theorem tst_p {ts : List Str} {d : PyData} {r : List Str} (h : Tst ts d r) (hr : ¬ jw (r.headD "")) : pTest ts = some (d, r) := by
  obtain ⟨k, c, cs, hk, hka, rfl, hl, hc, rfl⟩ := h
  obtain ⟨c1, c2⟩ := comp3_of (hc c List.mem_cons_self) ((cs.flatMap fun c => k :: compW c) ++ r)
  unfold pTest pGo
  rw [c1, c2, pLoop_ofR hk hr _ cs "" (Nat.lt_succ_of_le (flat_lenC cs r)) (fun x hx => hc x (List.mem_cons_of_mem _ hx)) (.inl rfl)]
  show pFin (if cs = [] then "" else k) (some c :: cs.map some) r = _
  unfold pFin
  rw [show optAll (some c :: cs.map some) = some (c :: cs) from optAll_map (c :: cs)]
  show (if (c :: cs).length ≤ 3 then _ else _) = _
  rw [if_pos (show (c :: cs).length ≤ 3 by rw [List.length_cons]; omega)]
  by_cases z : cs = []
  · rw [if_pos z, if_pos rfl, hka z]
  · have kn : k ≠ "" := by rcases hk with rfl | rfl <;> decide
    rw [if_neg z, if_neg kn]
theorem tst_l {ts : List Str} {d : PyData} {r : List Str} (h : Tst ts d r) (hr : ¬ jw (r.headD "")) : lTest ts = some (d, r) := by
  obtain ⟨k, c, cs, hk, hka, rfl, hl, hc, rfl⟩ := h
  unfold lTest
  rw [lLoop_ofR hk hr 3 c cs [] "" hl hc (.inl rfl)]
  by_cases z : cs = []
  · rw [if_pos z, if_pos rfl, hka z]
    rfl
  · rw [if_neg z]
    rfl
theorem p_to_l {ts : List Str} {d : PyData} {r : List Str} (h : pTest ts = some (d, r)) : lTest ts = some (d, r) := tst_l (p_tst h).1 (p_tst h).2
theorem l_to_p {ts : List Str} {d : PyData} {r : List Str} (h : lTest ts = some (d, r)) (hr : ¬ jw (r.headD "")) : pTest ts = some (d, r) := tst_p (l_tst h) hr
end K38

set_option Elab.async false
set_option linter.all false
set_option maxRecDepth 100000
set_option maxHeartbeats 4000000
namespace K38
open PySem PySem.Spec PyProof.Rows L2 Rd Dt Dq Pk
local macro_rules | `(tactic| walk_at "rd") => `(tactic| try simp only [tVar_, tC_, tOp_, tUn_, rI_, rI0_, rU_, eq_ii, ne_ii, eq_ss, ne_ss, eq_bb, ne_bb, tAndV_, tOrV_, tNotV_, tIf_, tTest_, tB_, tAnd_, tOr_, tNot_, tChain_, tNil_, tCons_, tTup_, tLst_, tCB_, tCall_, tSeq_, tNext_, tRet_, tRetN_, tDrop_, tBreak_, tNever_, tIfS_, tAsg_, gName_, gTup_, gCons_, gNil_, gSub_, tPar_, tPar3_, tSl_, tNoPart_, tPart_, tBM_, tFor_range1, tFor_range2, tFor_list, tFor_tup,
  L2.start, List.map_cons, List.map_nil, List.length_cons, List.length_nil, List.replicate, List.append_nil, List.nil_append, List.cons_append, List.getElem?_cons_zero, List.getElem?_cons_succ, List.set_cons_zero, List.set_cons_succ, Option.some.injEq, V.int.injEq, V.bl.injEq, V.str.injEq, V.ref.injEq, exists_eq_left, exists_eq_left', exists_eq_right, exists_eq, exists_and_left, and_true, true_and, decide_eq_true_eq, Nat.reduceAdd, Nat.reduceSub, Nat.add_zero, Nat.zero_add, List.cons.injEq, Bool.not_eq_true', decide_eq_false_iff_not, eq_self, reduceCtorEq, Bool.false_eq_true, if_true, if_false, ite_true, ite_false, and_self, tLc_range1, tLc_range2, tLc_list, tLc_tup, tYes_, wipe0, wipe1, tCallS_, rIxL_, rIxT_, rSlL_, rCat_, rSetL_, rRep_, rGcd_, tCallK_, gUnl_, tRaise_, decide_true, decide_false, not_true_eq_false, not_false_eq_true, false_and, or_false, false_or, and_false, and_assoc, exists_const, forall_const, forall_eq'])

def top (i : Nat) : Stmt := PySem.Challenge.pw_arrowcells_k38_what_stands_in_a_program.main.body.getD i (.Pass ⟨0, 0, 0, 0⟩)
structure Tx (mg : Str → Option Value) : Prop where
  b_len : mg "len" = none
  b_int : mg "int" = none
  b_isinstance : mg "isinstance" = none
  b_abs : mg "abs" = none
  b_divmod : mg "divmod" = none
  b_range : mg "range" = none
  b_max : mg "max" = none
  b_min : mg "min" = none
  b_repr : mg "repr" = none
  b_all : mg "all" = none
  b_list : mg "list" = none
  b_tuple : mg "tuple" = none
  b_str : mg "str" = none
  b_sum : mg "sum" = none
  letters : ∃ t, mg "LETTERS" = some (.str abc t)
  mb : ∃ t, mg "MOST_BRACES" = some (.int 4 t)
  ms : ∃ t, mg "MOST_STATEMENTS" = some (.int 30 t)
  mc : ∃ t, mg "MOST_COMPARISONS" = some (.int 3 t)
abbrev FD (K : PySem.W.Frag) (x : Str) (st : Stmt) (f : Addr) (fd : FuncData) : Prop := FunD K x x (defArgs st) (defBody st) (defScope st) [] [] f fd
abbrev ErN (K : PySem.W.Frag) (mg : Str → Option Value) := Er K mg "InvalidProgram" "given"
abbrev KW (K : PySem.W.Frag) (fd : FuncData) (ps : List Str) : Prop := KBn K fd ps 0 ps (fun _ ws => ws) (fun _ zs => zs)
section
variable {P : Program} {w : World} {K : PySem.W.Frag} {mg : Str → Option Value} {base : Heap}
def WellAt (H : Hp) (u : Addr) : Prop := ∃ a b c : Int, H u = some (.lst [.int a, .int b, .int c])
theorem WellAt.but {H H' : Hp} {u : Addr} (h : WellAt H u) (s : Same H H') : WellAt H' u := by
  obtain ⟨a, b, c, e⟩ := h
  exact ⟨a, b, c, s _ _ e⟩
def spTake : Sp := fun vs H Q _ => ∃ (u : Addr) (n : Int), vs = [.ref u, .int n] ∧ WellAt H u ∧ 1 ≤ n ∧ n < 1073741824 ∧ ∀ (d : Int) (H' : Hp), But u H H' → WellAt H' u → 0 ≤ d → d < n → Q (.int d) H'
theorem sc_take : FnScope ["_law_well_here", "_law_limit", "_law_figure", "_law_seed"] ["_law_well_here", "_law_limit"] (defScope (top 36)) := ⟨rfl, rfl, rfl, by decide +kernel, rfl, by decide +kernel, by decide +kernel⟩
theorem ok_take {f : Addr} {fd : FuncData} (T : Tx mg) (F : FD K "_law_take" (top 36) f fd) : FnOk P w K mg base CX0 1 f fd ["_law_well_here", "_law_limit"] spTake := by
  refine F.ok sc_take (fun vs H Q E h => ?_) (fun cdv A outer s H vs Q E hr h => ?_)
  · obtain ⟨_, _, rfl, _⟩ := h
    rfl
  · obtain ⟨u, n, rfl, ⟨a, b, c, hu⟩, n1, n2, k⟩ := h
    have nd := sc_take.nd
    refine ⟨_, (pss_cons (ps_if (pt_cmpR op_gt (pe_ix (r := rIxL K) ix_list (pv 0) pe_int (fun _ _ => rfl)) pe_int (nomark _)) (pss_cons (ps_asg (pe_callB call_divmodW (by rfl) T.b_divmod (by decide +kernel) (pa_cons (pe_ix (r := rIxL K) ix_list (pv 0) pe_int (fun _ _ => rfl)) (pa_cons (pv 1) pa_nil))) (pg_tup rfl (pgs_cons (pg_sub (pv 0) pe_int set_list) (pgs_cons (pg_name (i := 2) nd rfl (Or.inl rfl) (hf := Or.inr rfl)) pgs_nil))))
        (pss_one (ps_ret (pv 2)))) pss_nil)
        (pss_cons (ps_asg (pe_op op_add (pe_ix (r := rIxL K) ix_list (pv 0) pe_int (fun _ _ => rfl)) pe_int) (pg_sub (pv 0) pe_int set_list))
        (pss_cons (ps_set (i := 3) nd rfl (Or.inl rfl) (pe_op op_mod (pe_callTy call_int1 (by rfl) T.b_int (by decide +kernel) (pa_cons (pe_op op_add (pe_op op_mul (pe_ix (r := rIxL K) ix_list (pv 0) pe_int (fun _ _ => rfl)) pe_int) (pe_op op_mul (pe_ix (r := rIxL K) ix_list (pv 0) pe_int (fun _ _ => rfl)) pe_int)) pa_nil)) pe_int))
        (pss_cons (ps_asg (pe_op op_mod (pe_callTy call_int1 (by rfl) T.b_int (by decide +kernel) (pa_cons (pe_op op_add (pe_op op_mul (pv 3) (pe_op op_add (pe_op op_mod (pe_callTy call_int1 (by rfl) T.b_int (by decide +kernel) (pa_cons (pe_op op_fdiv (pv 3) pe_int) pa_nil)) pe_int) pe_int)) pe_int) pa_nil)) pe_int) (pg_sub (pv 0) pe_int set_list))
        (pss_one (ps_ret (pe_op op_mod (pe_callTy call_int1 (by rfl) T.b_int (by decide +kernel) (pa_cons (pe_op op_fdiv (pe_ix (r := rIxL K) ix_list (pv 0) pe_int (fun _ _ => rfl)) pe_int) pa_nil)) (pv 1)))))))), ?_⟩
    refine sq fun U hU => ?_
    walk_at "rd"
    refine ⟨_, SqL.of hu, _, atI_nn (by decide) rfl, a, rfl, ?_⟩
    by_cases c0 : 0 < a
    · rw [if_pos c0]
      refine ⟨_, SqL.of hu, _, atI_nn (by decide) rfl, a, rfl, ⟨by omega, PyProof.noPylong_small (by omega)⟩, fun p hp => ?_⟩
      have hup : u ≠ p := ne_of_none hu hp
      refine ⟨_, SqT.of upd_same, rfl, _, _, rfl, _, (by rw [upd_ne hup]; exact hu), 0, rfl, _, _, rfl, rfl, ?_⟩
      refine k _ _ (fun b' o hb e => ?_) ⟨_, _, _, upd_same⟩ (Int.emod_nonneg a (by omega)) (Int.emod_lt_of_pos a (by omega))
      rw [upd_ne hb, upd_ne (ne_of_none e hp)]; exact e
    rw [if_neg c0]
    refine hU _ _ ?_
    clear hU
    refine sq fun U hU => ?_
    walk_at "rd"
    refine ⟨_, SqL.of hu, _, atI_nn (by decide) rfl, c, rfl, _, hu, 2, rfl, hU _ _ ?_⟩
    clear hU
    have h1 : (upd H u (.lst ([V.int a, V.int b, V.int c].set 2 (V.int (c + 1))))) u = some (.lst [.int a, .int b, .int (c + 1)]) := upd_same
    generalize eH : upd H u (.lst ([V.int a, V.int b, V.int c].set 2 (V.int (c + 1)))) = H1 at h1 ⊢
    have s1 : But u H H1 := by rw [← eH]; exact But.put
    refine sq fun U hU => ?_
    walk_at "rd"
    refine ⟨_, SqL.of h1, _, atI_nn (by decide) rfl, b, rfl, .inr ⟨by decide, by decide⟩, _, SqL.of h1, _, atI_nn (by decide) rfl, c + 1, rfl, .inr ⟨by decide, by decide⟩, by decide, hU _ _ ?_⟩
    clear hU
    generalize (b * 48271 + (c + 1) * 30103) % 2147483629 = sd
    refine sq fun U hU => ?_
    walk_at "rd"
    have q1 := Int.emod_nonneg (sd / 7) (show (5003 : Int) ≠ 0 by decide)
    have q2 := Int.emod_lt_of_pos (sd / 7) (show (0 : Int) < 5003 by decide)
    refine ⟨⟨by decide, by decide⟩, by decide, .inr ⟨by omega, by omega⟩, by decide, _, h1, 1, rfl, hU _ _ ?_⟩
    clear hU
    generalize (sd * (sd / 7 % 5003 + 20011) + 11) % 2147483587 = b2
    have h2 : (upd H1 u (.lst ([V.int a, V.int b, V.int (c + 1)].set 1 (V.int b2)))) u = some (.lst [.int a, .int b2, .int (c + 1)]) := upd_same
    walk_at "rd"
    refine ⟨_, SqL.of h2, _, atI_nn (by decide) rfl, b2, rfl, ⟨by decide, by decide⟩, by omega, ?_⟩
    exact k _ _ (s1.trans But.put) ⟨_, _, _, h2⟩ (Int.emod_nonneg _ (by omega)) (Int.emod_lt_of_pos _ (by omega))
theorem sc_well : FnScope ["_law_script", "_law_turn", "_law_own", "_law_stirred", "_law_cell"] ["_law_script", "_law_turn"] (defScope (top 35)) := ⟨rfl, rfl, rfl, by decide +kernel, rfl, by decide +kernel, by decide +kernel⟩
def spWell (K : PySem.W.Frag) : Sp := fun vs H Q _ => ∃ (a : Addr) (ns : List Int) (t : Int), vs = [.ref a, .int t] ∧ SqL K H a (ns.map V.int) ∧ ns.length ≤ 63 ∧ 0 ≤ t ∧ t ≤ 5 ∧ ∀ (u : Addr) (H' : Hp), Same H H' → H u = none → WellAt H' u → Q (.ref u) H'
def wlP (a : Addr) (t o : Int) (K : PySem.W.Frag) (ns : List Int) (H : Hp) (i : Nat) : L2.St → Hp → Prop := fun σ H' => Same H H' ∧ ∃ (b : Int) (x : Option V), σ = [some (.ref a), some (V.int t), some (V.int o), some (V.int b), x]
theorem ok_well {f : Addr} {fd : FuncData} (T : Tx mg) (F : FD K "_law_well" (top 35) f fd) : FnOk P w K mg base CX0 1 f fd ["_law_script", "_law_turn"] (spWell K) := by
  refine F.ok sc_well (fun vs H Q E h => ?_) (fun cdv A outer s H vs Q E hr h => ?_)
  · obtain ⟨_, _, _, rfl, _⟩ := h
    rfl
  · obtain ⟨a, ns, t, rfl, hS, hn, t0, t1, k⟩ := h
    have nd := sc_well.nd
    refine ⟨_, (pss_cons (ps_set (i := 2) nd rfl (Or.inl rfl) (pe_ifExp (pt_cmpR op_lt (pv 1) (pe_callB call_len_seq (by rfl) T.b_len PySem.boot_len (pa_cons (pv 0) pa_nil)) (nomark _)) (pe_callTy call_int1 (by rfl) T.b_int (by decide +kernel) (pa_cons (pe_ix (r := rIxL K) ix_list (pv 0) (pv 1) (fun _ _ => rfl)) pa_nil)) (pe_op op_add (pe_op op_mul pe_int (pv 1)) pe_int)))
        (pss_cons (ps_set (i := 3) nd rfl (Or.inl rfl) (pe_op op_add pe_int (pe_op op_mul pe_int (pv 1))))
        (pss_cons (ps_for (passes_of rfl) rfl (pi_list (pe_slice (r := rSlL K) sl_list (pv 0) po_none (po_some pe_int))) (pg_name (i := 4) nd rfl (Or.inl rfl)) (pss_one (ps_set (i := 3) nd rfl (Or.inl rfl) (pe_op op_mod (pe_callTy call_int1 (by rfl) T.b_int (by decide +kernel) (pa_cons (pe_op op_add (pe_op op_add (pe_op op_mul (pv 3) pe_int) (pe_op op_mod (pe_callTy call_int1 (by rfl) T.b_int (by decide +kernel) (pa_cons (pv 4) pa_nil)) pe_int)) pe_int) pa_nil)) pe_int))))
        (pss_cons (ps_set (i := 3) nd rfl (Or.inl rfl) (pe_op op_mod (pe_callTy call_int1 (by rfl) T.b_int (by decide +kernel) (pa_cons (pe_op op_add (pe_op op_mul (pv 3) pe_int) (pe_op op_mul (pe_op op_mod (pe_callTy call_int1 (by rfl) T.b_int (by decide +kernel) (pa_cons (pv 2) pa_nil)) pe_int) pe_int)) pa_nil)) pe_int))
        (pss_one (ps_ret (pe_lst (pa_cons (pe_ifExp (PW.pt (pw_or (pt_cmpR op_lt (pv 2) pe_int (nomark _)) (pw_or1 (pt_cmpR op_ge (pv 2) (pe_op op_pow pe_int pe_int) (nomark _))))) (pe_callB call_abs (by rfl) T.b_abs (by decide +kernel) (pa_cons (pv 2) pa_nil)) pe_int) (pa_cons (pv 3) (pa_cons pe_int pa_nil)))))))))), ?_⟩
    refine sq fun U hU => ?_
    walk_at "rd"
    have go : ∀ o : Int, U [some (V.ref a), some (V.int t), some (V.int o), none, none] H := fun o => by
      refine hU _ _ ?_
      clear hU
      refine sq fun U hU => ?_
      walk_at "rd"
      refine ⟨.inr ⟨by omega, by omega⟩, hU _ _ ?_⟩
      clear hU
      refine sq fun U hU => ?_
      walk_at "rd"
      refine ⟨_, hS, fun p hp => ⟨⟨_, SqL.of upd_same⟩, ?_⟩⟩
      refine for_l (K := K) (a := p) (xs := cutV (ns.map V.int) none (some 9)) (fun i => fun σ H' => H' p = some (.lst (cutV (ns.map V.int) none (some 9))) ∧ wlP a t o K ns H i σ H') ⟨upd_same, same_new hp, _, _, rfl⟩ (fun i σ H' _ h => SqL.of h.1) ?_ ?_
      · rintro i x σ H' hi ⟨hp', hs, b, y, rfl⟩
        obtain ⟨z, rfl⟩ : ∃ z, x = V.int z := by
          have hm := List.mem_of_getElem? hi
          obtain ⟨z, _, rfl⟩ := List.mem_map.mp (List.mem_of_mem_drop (List.mem_of_mem_take hm))
          exact ⟨z, rfl⟩
        walk_at "rd"
        exact ⟨.inr ⟨by decide, by decide⟩, by decide, by decide, hp', hs, _, _, rfl⟩
      · rintro σ H' ⟨hp', hs, b, y, rfl⟩
        refine hU _ _ ?_
        clear hU
        refine sq fun U hU => ?_
        walk_at "rd"
        refine ⟨.inr ⟨by decide, by decide⟩, by decide, .inr ⟨by decide, by decide⟩, by decide, hU _ _ ?_⟩
        clear hU
        walk_at "rd"
        have fin : ∀ g b', (∀ p, H' p = none → Q (.ref p) (upd H' p (.lst [V.int g, V.int b', V.int 0]))) := fun g b' q hq => k q _ (hs.trans (same_new hq)) (hs.free hq) ⟨_, _, _, upd_same⟩
        by_cases c : o < 0
        · rw [if_pos c]
          exact ⟨by decide, fun q hq => fin _ _ q hq⟩
        · rw [if_neg c]
          refine ⟨⟨by decide, by decide, by decide⟩, ?_⟩
          by_cases c2 : (10 : Int) ^ (18 : Int).toNat ≤ o
          · rw [if_pos c2]
            exact ⟨by decide, fun q hq => fin _ _ q hq⟩
          · rw [if_neg c2]
            exact ⟨by decide, fun q hq => fin _ _ q hq⟩
    refine ⟨_, .inl hS, ?_⟩
    rw [List.length_map]
    by_cases c : t < (ns.length : Int)
    · rw [if_pos c]
      have hx : (ns.map V.int)[t.toNat]? = some (V.int (ns[t.toNat]'(by omega))) := by rw [List.getElem?_map, List.getElem?_eq_getElem (by omega)]; rfl
      exact ⟨_, hS, _, atI_nn t0 hx, .inl ⟨_, rfl, go _⟩⟩
    · rw [if_neg c]
      exact ⟨.inl ⟨by decide, by decide⟩, go _⟩
theorem some_but {H H' : Hp} {u : Addr} {a : Addr} {o : HO} (h : H a = some o) (hb : But u H H') (n : a ≠ u) : H' a = some o := hb _ _ n h
def spPick : Sp := fun vs H Q _ => ∃ (u : Addr) (x : V) (xs : List V), vs = [.ref u, x] ∧ WellAt H u ∧ x ≠ .ref u ∧ Row H x xs ∧ 1 ≤ xs.length ∧ xs.length ≤ 1000 ∧ ∀ (y : V) (H' : Hp), But u H H' → WellAt H' u → y ∈ xs → Q y H'
theorem sc_pick : FnScope ["_law_well_here", "_law_some"] ["_law_well_here", "_law_some"] (defScope (top 37)) := ⟨rfl, rfl, rfl, by decide +kernel, rfl, by decide +kernel, by decide +kernel⟩
theorem ok_pick {f : Addr} {fd : FuncData} (T : Tx mg) (F : FD K "_law_pick" (top 37) f fd) {f1 : Addr} {fd1 : FuncData} (C1 : Cal P w K mg base CX0 1 "_law_take" ["_law_well_here", "_law_limit"] spTake f1 fd1) : FnOk P w K mg base CX0 2 f fd ["_law_well_here", "_law_some"] spPick := by
  obtain ⟨g_law_take, k_law_take, b_law_take, F_law_take⟩ := C1
  refine F.ok sc_pick (fun vs H Q E h => ?_) (fun cdv A outer s H vs Q E hr h => ?_)
  · obtain ⟨_, _, _, rfl, _⟩ := h
    rfl
  · obtain ⟨u, x, xs, rfl, hw, hne, hR, l1, l2, k⟩ := h
    refine ⟨_, (pss_one (ps_ret (pe_ix ix_row (pv 1) (pe_call F_law_take (hr.mono (by omega)) rfl g_law_take k_law_take b_law_take .nil pass0 (pa_cons (pv 0) (pa_cons (pe_callB call_lenR (by rfl) T.b_len PySem.boot_len (pa_cons (pv 1) pa_nil)) pa_nil))) (fun _ _ => rfl)))), ?_⟩
    walk_at "rd"
    simp only [spTake]
    walk_at "rd"
    refine ⟨_, _, rfl, hR, _, rfl, hw, by omega, by omega, fun d H' hb hw' d0 d1 => ?_⟩
    obtain ⟨y, hy⟩ : ∃ y, xs[d.toNat]? = some y := ⟨_, List.getElem?_eq_getElem (by omega)⟩
    exact ⟨xs, d, y, hR.but hb hne, rfl, d0, by omega, hy, k y H' hb hw' (List.mem_of_getElem? hy)⟩
end
end K38

set_option Elab.async false
set_option linter.all false
set_option maxRecDepth 100000
set_option maxHeartbeats 4000000
namespace K38
open PySem PySem.Spec PyProof.Rows L2 Rd Dt Dq Pk
local macro_rules | `(tactic| walk_at "rd") => `(tactic| try simp only [tVar_, tC_, tOp_, tUn_, rI_, rI0_, rU_, eq_ii, ne_ii, eq_ss, ne_ss, eq_bb, ne_bb, tAndV_, tOrV_, tNotV_, tIf_, tTest_, tB_, tAnd_, tOr_, tNot_, tChain_, tNil_, tCons_, tTup_, tLst_, tCB_, tCall_, tSeq_, tNext_, tRet_, tRetN_, tDrop_, tBreak_, tNever_, tIfS_, tAsg_, gName_, gTup_, gCons_, gNil_, gSub_, tPar_, tPar3_, tSl_, tNoPart_, tPart_, tBM_, tFor_range1, tFor_range2, tFor_list, tFor_tup,
  L2.start, List.map_cons, List.map_nil, List.length_cons, List.length_nil, List.replicate, List.append_nil, List.nil_append, List.cons_append, List.getElem?_cons_zero, List.getElem?_cons_succ, List.set_cons_zero, List.set_cons_succ, Option.some.injEq, V.int.injEq, V.bl.injEq, V.str.injEq, V.ref.injEq, exists_eq_left, exists_eq_left', exists_eq_right, exists_eq, exists_and_left, and_true, true_and, decide_eq_true_eq, Nat.reduceAdd, Nat.reduceSub, Nat.add_zero, Nat.zero_add, List.cons.injEq, Bool.not_eq_true', decide_eq_false_iff_not, eq_self, reduceCtorEq, Bool.false_eq_true, if_true, if_false, ite_true, ite_false, and_self, tLc_range1, tLc_range2, tLc_list, tLc_tup, tYes_, wipe0, wipe1, tCallS_, rIxL_, rIxT_, rSlL_, rCat_, rSetL_, rRep_, rGcd_, tCallK_, gUnl_, tRaise_, decide_true, decide_false, not_true_eq_false, not_false_eq_true, false_and, or_false, false_or, and_false, and_assoc, exists_const, forall_const, forall_eq'])

section
variable {P : Program} {w : World} {K : PySem.W.Frag} {mg : Str → Option Value} {base : Heap}
def isTup : PyData → Bool
  | .tuple _ => true
  | _ => false
def isStr : PyData → Bool
  | .str _ => true
  | _ => false
theorem isi_tup {H : Hp} {x : V} {d : PyData} {Q : VK} (h : Dq K H x d) (q : Q (.bl (isTup d)) H) : rIsi K [x, .ty "tuple"] H Q := by
  cases h with
  | non => exact ⟨_, _, .type "NoneType", .type "tuple", false, rfl, .ty _, .base .non, rfl, q⟩
  | bl b => exact ⟨_, _, .type "bool", .type "tuple", false, rfl, .ty _, .base (.bl _), rfl, q⟩
  | int i _ => exact ⟨_, _, .type "int", .type "tuple", false, rfl, .ty _, .base (.int _), rfl, q⟩
  | str x _ => exact ⟨_, _, .type "str", .type "tuple", false, rfl, .ty _, .base (.str _), rfl, q⟩
  | tup e _ => exact ⟨_, _, .type "tuple", .type "tuple", true, rfl, .ty _, .base (.tup e), rfl, q⟩
  | lst e _ _ => exact ⟨_, _, .type "list", .type "tuple", false, rfl, .ty _, .base (.lst e), rfl, q⟩
  | dic e => exact ⟨_, _, .type "dict", .type "tuple", false, rfl, .ty _, .base (.dK e), rfl, q⟩
theorem isi_str {H : Hp} {x : V} {d : PyData} {Q : VK} (h : Dq K H x d) (q : Q (.bl (isStr d)) H) : rIsi K [x, .ty "str"] H Q := by
  cases h with
  | non => exact ⟨_, _, .type "NoneType", .type "str", false, rfl, .ty _, .base .non, rfl, q⟩
  | bl b => exact ⟨_, _, .type "bool", .type "str", false, rfl, .ty _, .base (.bl _), rfl, q⟩
  | int i _ => exact ⟨_, _, .type "int", .type "str", false, rfl, .ty _, .base (.int _), rfl, q⟩
  | str x _ => exact ⟨_, _, .type "str", .type "str", true, rfl, .ty _, .base (.str _), rfl, q⟩
  | tup e _ => exact ⟨_, _, .type "tuple", .type "str", false, rfl, .ty _, .base (.tup e), rfl, q⟩
  | lst e _ _ => exact ⟨_, _, .type "list", .type "str", false, rfl, .ty _, .base (.lst e), rfl, q⟩
  | dic e => exact ⟨_, _, .type "dict", .type "str", false, rfl, .ty _, .base (.dK e), rfl, q⟩
def spData (g : PyData → Bool) (K : PySem.W.Frag) : Sp := fun vs H Q _ => ∃ (x : V) (d : PyData), vs = [x] ∧ Dq K H x d ∧ ∀ H', Same H H' → Q (.bl (g d)) H'
theorem smS_line {s : Str} (h : smS s = true) : s.length ≤ sizeLine := Nat.le_trans (of_decide_eq_true (Bool.and_eq_true_iff.mp h).1) (by rw [sizeLine_eq]; decide)
theorem isLetter_one {s : Str} (h : s.length = 1) : ∃ c, s = ⟨#[c]⟩ ∧ isLetterS s = decide (c ∈ abc.cps.toList) := by
  obtain ⟨⟨l⟩⟩ := s
  have h' : l.length = 1 := h
  match l, h' with
  | [c], _ => exact ⟨c, rfl, rfl⟩
theorem isLetter_not {s : Str} (h : s.length ≠ 1) : isLetterS s = false := by
  obtain ⟨⟨l⟩⟩ := s
  have h' : l.length ≠ 1 := h
  match l, h' with
  | [], _ => rfl
  | [c], h => exact absurd rfl h
  | _ :: _ :: _, _ => rfl
theorem sc_letter : FnScope ["value"] ["value"] (defScope (top 5)) := ⟨rfl, rfl, rfl, by decide +kernel, rfl, by decide +kernel, by decide +kernel⟩
theorem ok_letter {f : Addr} {fd : FuncData} (T : Tx mg) (F : FD K "is_letter" (top 5) f fd) : FnOk P w K mg base CX0 1 f fd ["value"] (spData isLetter K) := by
  obtain ⟨t, hLET⟩ := T.letters
  refine F.ok sc_letter (fun vs H Q E h => ?_) (fun cdv A outer s H vs Q E hr h => ?_)
  · obtain ⟨_, _, rfl, _⟩ := h
    rfl
  · obtain ⟨x, d, rfl, hx, k⟩ := h
    replace k := k H (Same.refl H)
    refine ⟨_, (pss_one (ps_ret (pe_and (pe_callB call_isi (by rfl) T.b_isinstance (by decide +kernel) (pa_cons (pv 0) (pa_cons (pe_bltn (v := .ty "str") rfl T.b_str (by decide +kernel) rfl) pa_nil))) (pe_and (pe_cmpR op_eq (pe_callB call_len_str (by rfl) T.b_len PySem.boot_len (pa_cons (pv 0) pa_nil)) pe_int (nomark _)) (pe_one (pe_cmpR op_in_sign (pv 0) (pe_glob (v := .str abc) rfl hLET ⟨_, rfl⟩) rfl)))))), ?_⟩
    walk_at "rd"
    refine isi_str hx ?_
    walk_at "rd"
    cases hx with
    | str z hz =>
      simp only [isStr, if_true]
      refine ⟨z, rfl, smS_line hz, ?_⟩
      by_cases h1 : (z.length : Int) = 1
      · rw [if_pos h1]
        obtain ⟨c, rfl, e⟩ := isLetter_one (by omega : z.length = 1)
        refine ⟨c, rfl, ?_⟩
        show Q (.bl (decide (c ∈ abc.cps.toList))) H
        rw [← e]
        exact k
      · rw [if_neg h1]
        have e : isLetter (.str z) = false := isLetter_not (by omega)
        rw [e] at k
        exact k
    | _ => exact k
theorem sc_sign : FnScope ["_law_token"] ["_law_token"] (defScope (top 47)) := ⟨rfl, rfl, rfl, by decide +kernel, rfl, by decide +kernel, by decide +kernel⟩
theorem ok_sign {f : Addr} {fd : FuncData} (T : Tx mg) (F : FD K "_law_is_sign" (top 47) f fd) : FnOk P w K mg base CX0 1 f fd ["_law_token"] (spData isLetter K) := by
  obtain ⟨t, hLET⟩ := T.letters
  refine F.ok sc_sign (fun vs H Q E h => ?_) (fun cdv A outer s H vs Q E hr h => ?_)
  · obtain ⟨_, _, rfl, _⟩ := h
    rfl
  · obtain ⟨x, d, rfl, hx, k⟩ := h
    replace k := k H (Same.refl H)
    refine ⟨_, (pss_one (ps_ret (pe_and (pe_callB call_isi (by rfl) T.b_isinstance (by decide +kernel) (pa_cons (pv 0) (pa_cons (pe_bltn (v := .ty "str") rfl T.b_str (by decide +kernel) rfl) pa_nil))) (pe_and (pe_cmpR op_eq (pe_callB call_len_str (by rfl) T.b_len PySem.boot_len (pa_cons (pv 0) pa_nil)) pe_int (nomark _)) (pe_one (pe_cmpR op_in_sign (pv 0) pe_str rfl)))))), ?_⟩
    walk_at "rd"
    refine isi_str hx ?_
    walk_at "rd"
    cases hx with
    | str z hz =>
      simp only [isStr, if_true]
      refine ⟨z, rfl, smS_line hz, ?_⟩
      by_cases h1 : (z.length : Int) = 1
      · rw [if_pos h1]
        obtain ⟨c, rfl, e⟩ := isLetter_one (by omega : z.length = 1)
        refine ⟨c, rfl, ?_⟩
        show Q (.bl (decide (c ∈ abc.cps.toList))) H
        rw [← e]
        exact k
      · rw [if_neg h1]
        have e : isLetter (.str z) = false := isLetter_not (by omega)
        rw [e] at k
        exact k
    | _ => exact k
theorem sc_goal : FnScope ["value"] ["value"] (defScope (top 10)) := ⟨rfl, rfl, rfl, by decide +kernel, rfl, by decide +kernel, by decide +kernel⟩
theorem ok_goal {f : Addr} {fd : FuncData} (T : Tx mg) (F : FD K "is_goal" (top 10) f fd) {f1 : Addr} {fd1 : FuncData} (C1 : Cal P w K mg base CX0 1 "is_letter" ["value"] (spData isLetter K) f1 fd1) : FnOk P w K mg base CX0 2 f fd ["value"] (spData isGoal K) := by
  obtain ⟨gis_letter, kis_letter, bis_letter, Fis_letter⟩ := C1
  refine F.ok sc_goal (fun vs H Q E h => ?_) (fun cdv A outer s H vs Q E hr h => ?_)
  · obtain ⟨_, _, rfl, _⟩ := h
    rfl
  · obtain ⟨x, d, rfl, hx, k⟩ := h
    refine ⟨_, (pss_one (ps_ret (pe_or (pe_call Fis_letter (hr.mono (by omega)) rfl gis_letter kis_letter bis_letter .nil pass0 (pa_cons (pv 0) pa_nil)) (pe_one (pe_and (pe_callB call_isi (by rfl) T.b_isinstance (by decide +kernel) (pa_cons (pv 0) (pa_cons (pe_bltn (v := .ty "str") rfl T.b_str (by decide +kernel) rfl) pa_nil))) (pe_one (pe_cmpR op_eq (pv 0) pe_str (nomark _)))))))), ?_⟩
    walk_at "rd"
    refine ⟨x, d, rfl, hx, fun H' hs => ?_⟩
    replace k := k H' hs
    replace hx := hx.up hs
    walk_at "rd"
    cases hx with
    | str z hz =>
      have e : isGoal (.str z) = (isLetterS z || decide (z = "END")) := rfl
      rw [e] at k
      by_cases h1 : isLetterS z = true
      · rw [if_pos (show isLetter (.str z) = true from h1)]
        rw [h1] at k
        exact k
      · rw [if_neg (show ¬ isLetter (.str z) = true from h1)]
        rw [Bool.eq_false_iff.mpr h1] at k
        refine isi_str (.str z hz) ?_
        simp only [isStr]
        walk_at "rd"
        exact k
    | non =>
      rw [if_neg (by simp [isLetter])]
      refine isi_str .non ?_
      simp only [isStr]
      walk_at "rd"
      exact k
    | bl b =>
      rw [if_neg (by simp [isLetter])]
      refine isi_str (.bl b) ?_
      simp only [isStr]
      walk_at "rd"
      exact k
    | int i h =>
      rw [if_neg (by simp [isLetter])]
      refine isi_str (.int i h) ?_
      simp only [isStr]
      walk_at "rd"
      exact k
    | tup a h =>
      rw [if_neg (by simp [isLetter])]
      refine isi_str (.tup a h) ?_
      simp only [isStr]
      walk_at "rd"
      exact k
    | lst a l h =>
      rw [if_neg (by simp [isLetter])]
      refine isi_str (.lst a l h) ?_
      simp only [isStr]
      walk_at "rd"
      exact k
    | dic a =>
      rw [if_neg (by simp [isLetter])]
      refine isi_str (.dic a) ?_
      simp only [isStr]
      walk_at "rd"
      exact k
theorem sc_goal2 : FnScope ["_law_token"] ["_law_token"] (defScope (top 48)) := ⟨rfl, rfl, rfl, by decide +kernel, rfl, by decide +kernel, by decide +kernel⟩
theorem ok_goal2 {f : Addr} {fd : FuncData} (T : Tx mg) (F : FD K "_law_is_goal" (top 48) f fd) {f1 : Addr} {fd1 : FuncData} (C1 : Cal P w K mg base CX0 1 "_law_is_sign" ["_law_token"] (spData isLetter K) f1 fd1) : FnOk P w K mg base CX0 2 f fd ["_law_token"] (spData isGoal K) := by
  obtain ⟨g_law_is_sign, k_law_is_sign, b_law_is_sign, F_law_is_sign⟩ := C1
  refine F.ok sc_goal2 (fun vs H Q E h => ?_) (fun cdv A outer s H vs Q E hr h => ?_)
  · obtain ⟨_, _, rfl, _⟩ := h
    rfl
  · obtain ⟨x, d, rfl, hx, k⟩ := h
    refine ⟨_, (pss_one (ps_ret (pe_or (pe_call F_law_is_sign (hr.mono (by omega)) rfl g_law_is_sign k_law_is_sign b_law_is_sign .nil pass0 (pa_cons (pv 0) pa_nil)) (pe_one (pe_and (pe_callB call_isi (by rfl) T.b_isinstance (by decide +kernel) (pa_cons (pv 0) (pa_cons (pe_bltn (v := .ty "str") rfl T.b_str (by decide +kernel) rfl) pa_nil))) (pe_one (pe_cmpR op_eq (pv 0) pe_str (nomark _)))))))), ?_⟩
    walk_at "rd"
    refine ⟨x, d, rfl, hx, fun H' hs => ?_⟩
    replace k := k H' hs
    replace hx := hx.up hs
    walk_at "rd"
    cases hx with
    | str z hz =>
      have e : isGoal (.str z) = (isLetterS z || decide (z = "END")) := rfl
      rw [e] at k
      by_cases h1 : isLetterS z = true
      · rw [if_pos (show isLetter (.str z) = true from h1)]
        rw [h1] at k
        exact k
      · rw [if_neg (show ¬ isLetter (.str z) = true from h1)]
        rw [Bool.eq_false_iff.mpr h1] at k
        refine isi_str (.str z hz) ?_
        simp only [isStr]
        walk_at "rd"
        exact k
    | non =>
      rw [if_neg (by simp [isLetter])]
      refine isi_str .non ?_
      simp only [isStr]
      walk_at "rd"
      exact k
    | bl b =>
      rw [if_neg (by simp [isLetter])]
      refine isi_str (.bl b) ?_
      simp only [isStr]
      walk_at "rd"
      exact k
    | int i h =>
      rw [if_neg (by simp [isLetter])]
      refine isi_str (.int i h) ?_
      simp only [isStr]
      walk_at "rd"
      exact k
    | tup a h =>
      rw [if_neg (by simp [isLetter])]
      refine isi_str (.tup a h) ?_
      simp only [isStr]
      walk_at "rd"
      exact k
    | lst a l h =>
      rw [if_neg (by simp [isLetter])]
      refine isi_str (.lst a l h) ?_
      simp only [isStr]
      walk_at "rd"
      exact k
    | dic a =>
      rw [if_neg (by simp [isLetter])]
      refine isi_str (.dic a) ?_
      simp only [isStr]
      walk_at "rd"
      exact k
end
end K38

set_option Elab.async false
set_option linter.all false
set_option maxRecDepth 100000
set_option maxHeartbeats 4000000
namespace K38
open PySem PySem.Spec PyProof.Rows L2 Rd Dt Dq Pk
local macro_rules | `(tactic| walk_at "rd") => `(tactic| try simp only [tVar_, tC_, tOp_, tUn_, rI_, rI0_, rU_, eq_ii, ne_ii, eq_ss, ne_ss, eq_bb, ne_bb, tAndV_, tOrV_, tNotV_, tIf_, tTest_, tB_, tAnd_, tOr_, tNot_, tChain_, tNil_, tCons_, tTup_, tLst_, tCB_, tCall_, tSeq_, tNext_, tRet_, tRetN_, tDrop_, tBreak_, tNever_, tIfS_, tAsg_, gName_, gTup_, gCons_, gNil_, gSub_, tPar_, tPar3_, tSl_, tNoPart_, tPart_, tBM_, tFor_range1, tFor_range2, tFor_list, tFor_tup,
  L2.start, List.map_cons, List.map_nil, List.length_cons, List.length_nil, List.replicate, List.append_nil, List.nil_append, List.cons_append, List.getElem?_cons_zero, List.getElem?_cons_succ, List.set_cons_zero, List.set_cons_succ, Option.some.injEq, V.int.injEq, V.bl.injEq, V.str.injEq, V.ref.injEq, exists_eq_left, exists_eq_left', exists_eq_right, exists_eq, exists_and_left, and_true, true_and, decide_eq_true_eq, Nat.reduceAdd, Nat.reduceSub, Nat.add_zero, Nat.zero_add, List.cons.injEq, Bool.not_eq_true', decide_eq_false_iff_not, eq_self, reduceCtorEq, Bool.false_eq_true, if_true, if_false, ite_true, ite_false, and_self, tLc_range1, tLc_range2, tLc_list, tLc_tup, tYes_, wipe0, wipe1, tCallS_, rIxL_, rIxT_, rSlL_, rCat_, rSetL_, rRep_, rGcd_, tCallK_, gUnl_, tRaise_, decide_true, decide_false, not_true_eq_false, not_false_eq_true, false_and, or_false, false_or, and_false, and_assoc, exists_const, forall_const, forall_eq'])

section
variable {P : Program} {w : World} {K : PySem.W.Frag} {mg : Str → Option Value} {base : Heap}
theorem eqV_ss {a b : Str} : eqV (.str a) (.str b) = decide (a = b) := by
  show (a == b) = decide (a = b)
  by_cases h : a = b
  · subst h; simp
  · simp [h]
theorem eqV_ii {a b : Int} : eqV (.int a) (.int b) = decide (a = b) := by
  show (a == b) = decide (a = b)
  by_cases h : a = b
  · subst h; simp
  · simp [h]
theorem in2i {H : Hp} {p : Addr} {k a b : Int} {Q : VK} (hp : H p = some (.tup [.int a, .int b])) (q : Q (.bl (!(decide (k = a) || decide (k = b)))) H) : rIn K true (.int k) (.ref p) H Q := by
  refine ⟨p, _, rfl, .inr (SqT.of hp), rfl, rfl, ?_⟩
  have e : inV (.int k) [.int a, .int b] = (decide (k = a) || decide (k = b)) := by
    simp only [inV, List.any_cons, List.any_nil, Bool.or_false, eqV_ii, eq_comm]
  simp only [e]
  exact q
theorem in3i {H : Hp} {p : Addr} {k a b c : Int} {Q : VK} (hp : H p = some (.tup [.int a, .int b, .int c])) (q : Q (.bl (!(decide (k = a) || (decide (k = b) || decide (k = c))))) H) : rIn K true (.int k) (.ref p) H Q := by
  refine ⟨p, _, rfl, .inr (SqT.of hp), rfl, rfl, ?_⟩
  have e : inV (.int k) [.int a, .int b, .int c] = (decide (k = a) || (decide (k = b) || decide (k = c))) := by
    simp only [inV, List.any_cons, List.any_nil, Bool.or_false, eqV_ii, eq_comm]
  simp only [e]
  exact q
theorem notIn2 {H : Hp} {p : Addr} {k a b : Str} {Q : VK} (hp : H p = some (.tup [.str a, .str b])) (q : Q (.bl (!(decide (k = a) || decide (k = b)))) H) : rIn K true (.str k) (.ref p) H Q := by
  refine ⟨p, _, rfl, .inr (SqT.of hp), rfl, rfl, ?_⟩
  have e : inV (.str k) [.str a, .str b] = (decide (k = a) || decide (k = b)) := by
    simp only [inV, List.any_cons, List.any_nil, Bool.or_false, eqV_ss, eq_comm]
  simp only [e]
  exact q
theorem notIn3 {H : Hp} {p : Addr} {k a b c : Str} {Q : VK} (hp : H p = some (.tup [.str a, .str b, .str c])) (q : Q (.bl (!(decide (k = a) || (decide (k = b) || decide (k = c))))) H) : rIn K true (.str k) (.ref p) H Q := by
  refine ⟨p, _, rfl, .inr (SqT.of hp), rfl, rfl, ?_⟩
  have e : inV (.str k) [.str a, .str b, .str c] = (decide (k = a) || (decide (k = b) || decide (k = c))) := by
    simp only [inV, List.any_cons, List.any_nil, Bool.or_false, eqV_ss, eq_comm]
  simp only [e]
  exact q
theorem in2 {H : Hp} {p : Addr} {k a b : Str} {Q : VK} (hp : H p = some (.tup [.str a, .str b])) (q : Q (.bl (decide (k = a) || decide (k = b))) H) : rIn K false (.str k) (.ref p) H Q := by
  refine ⟨p, _, rfl, .inr (SqT.of hp), rfl, rfl, ?_⟩
  have e : inV (.str k) [.str a, .str b] = (decide (k = a) || decide (k = b)) := by
    simp only [inV, List.any_cons, List.any_nil, Bool.or_false, eqV_ss, eq_comm]
  simp only [e]
  exact q
end
end K38

set_option Elab.async false
set_option linter.all false
set_option maxRecDepth 100000
set_option maxHeartbeats 4000000
namespace K38
open PySem PySem.Spec PyProof.Rows L2 Rd Dt Dq Pk
local macro_rules | `(tactic| walk_at "rd") => `(tactic| try simp only [tVar_, tC_, tOp_, tUn_, rI_, rI0_, rU_, eq_ii, ne_ii, eq_ss, ne_ss, eq_bb, ne_bb, tAndV_, tOrV_, tNotV_, tIf_, tTest_, tB_, tAnd_, tOr_, tNot_, tChain_, tNil_, tCons_, tTup_, tLst_, tCB_, tCall_, tSeq_, tNext_, tRet_, tRetN_, tDrop_, tBreak_, tNever_, tIfS_, tAsg_, gName_, gTup_, gCons_, gNil_, gSub_, tPar_, tPar3_, tSl_, tNoPart_, tPart_, tBM_, tFor_range1, tFor_range2, tFor_list, tFor_tup,
  L2.start, List.map_cons, List.map_nil, List.length_cons, List.length_nil, List.replicate, List.append_nil, List.nil_append, List.cons_append, List.getElem?_cons_zero, List.getElem?_cons_succ, List.set_cons_zero, List.set_cons_succ, Option.some.injEq, V.int.injEq, V.bl.injEq, V.str.injEq, V.ref.injEq, exists_eq_left, exists_eq_left', exists_eq_right, exists_eq, exists_and_left, and_true, true_and, decide_eq_true_eq, Nat.reduceAdd, Nat.reduceSub, Nat.add_zero, Nat.zero_add, List.cons.injEq, Bool.not_eq_true', decide_eq_false_iff_not, eq_self, reduceCtorEq, Bool.false_eq_true, if_true, if_false, ite_true, ite_false, and_self, tLc_range1, tLc_range2, tLc_list, tLc_tup, tYes_, wipe0, wipe1, tCallS_, rIxL_, rIxT_, rSlL_, rCat_, rSetL_, rRep_, rGcd_, tCallK_, gUnl_, tRaise_, decide_true, decide_false, not_true_eq_false, not_false_eq_true, false_and, or_false, false_or, and_false, and_assoc, exists_const, forall_const, forall_eq'])

section
variable {P : Program} {w : World} {K : PySem.W.Frag} {mg : Str → Option Value} {base : Heap}
theorem for_t {K : PySem.W.Frag} {a : Addr} {xs : List V} {g : TG} {tb : TS} {D : Ends} {σ : L2.St} {H : Hp} (Pv : Nat → L2.St → Hp → Prop) (h0 : Pv 0 σ H) (hl : ∀ i σ H, i ≤ xs.length → Pv i σ H → SqT K H a xs)
    (hs : ∀ i x σ H, xs[i]? = some x → Pv i σ H → g x σ H fun σ2 H2 => tb { D with nx := Pv (i + 1), ct := Pv (i + 1), bk := D.nx } σ2 H2) (hd : ∀ σ H, Pv xs.length σ H → D.nx σ H) :
    tFor (fun _ H R => R (Itt K a) H) g tb D σ H := for_tup Pv h0 hl hs hd
theorem test_len {ds : List PyData} (h : ds.length ≠ 2) : isTest (.tuple ds) = false := by
  match ds, h with
  | [], _ => rfl
  | [d1], _ => cases d1 <;> rfl
  | [d1, d2], h => exact absurd rfl h
  | d1 :: d2 :: d3 :: r, _ => cases d1 <;> cases d2 <;> rfl
theorem isTest_eq {k : Str} {cs : List PyData} : isTest (.tuple [.str k, .tuple cs]) = ((decide (k = "and") || decide (k = "or")) && (decide (1 ≤ cs.length ∧ cs.length ≤ 3) && (!(decide (cs.length = 1) && decide (k = "or")) && cs.all isComp))) := rfl
theorem all_step {f : PyData → Bool} {cs : List PyData} {i : Nat} {c : PyData} (h : cs[i]? = some c) : (cs.take (i + 1)).all f = ((cs.take i).all f && f c) := by
  rw [List.take_succ, h, List.all_append]
  simp
def ttP (H0 : Hp) (a0 : Addr) (f : PyData → Bool) (cs : List PyData) (i : Nat) : L2.St → Hp → Prop := fun σ H => Same H0 H ∧ (∃ (m : Int) (y : Option V), σ = [some (.ref a0), some (V.int m), y]) ∧ (cs.take i).all f = true
end
end K38

set_option Elab.async false
set_option linter.all false
set_option maxRecDepth 100000
set_option maxHeartbeats 4000000
namespace K38
open PySem PySem.Spec PyProof.Rows L2 Rd Dt Dq Pk
local macro_rules | `(tactic| walk_at "rd") => `(tactic| try simp only [tVar_, tC_, tOp_, tUn_, rI_, rI0_, rU_, eq_ii, ne_ii, eq_ss, ne_ss, eq_bb, ne_bb, tAndV_, tOrV_, tNotV_, tIf_, tTest_, tB_, tAnd_, tOr_, tNot_, tChain_, tNil_, tCons_, tTup_, tLst_, tCB_, tCall_, tSeq_, tNext_, tRet_, tRetN_, tDrop_, tBreak_, tNever_, tIfS_, tAsg_, gName_, gTup_, gCons_, gNil_, gSub_, tPar_, tPar3_, tSl_, tNoPart_, tPart_, tBM_, tFor_range1, tFor_range2, tFor_list, tFor_tup,
  L2.start, List.map_cons, List.map_nil, List.length_cons, List.length_nil, List.replicate, List.append_nil, List.nil_append, List.cons_append, List.getElem?_cons_zero, List.getElem?_cons_succ, List.set_cons_zero, List.set_cons_succ, Option.some.injEq, V.int.injEq, V.bl.injEq, V.str.injEq, V.ref.injEq, exists_eq_left, exists_eq_left', exists_eq_right, exists_eq, exists_and_left, and_true, true_and, decide_eq_true_eq, Nat.reduceAdd, Nat.reduceSub, Nat.add_zero, Nat.zero_add, List.cons.injEq, Bool.not_eq_true', decide_eq_false_iff_not, eq_self, reduceCtorEq, Bool.false_eq_true, if_true, if_false, ite_true, ite_false, and_self, tLc_range1, tLc_range2, tLc_list, tLc_tup, tYes_, wipe0, wipe1, tCallS_, rIxL_, rIxT_, rSlL_, rCat_, rSetL_, rRep_, rGcd_, tCallK_, gUnl_, tRaise_, decide_true, decide_false, not_true_eq_false, not_false_eq_true, false_and, or_false, false_or, and_false, and_assoc, exists_const, forall_const, forall_eq'])

section
variable {P : Program} {w : World} {K : PySem.W.Frag} {mg : Str → Option Value} {base : Heap}
theorem _root_.L2.Room.units65 {k : Nat} {A : Around} (r : Room k A) : A.units + 65 < cLine := by have := r.un; omega
def spTree (g : PyData → Bool) (K : PySem.W.Frag) (i : Int) : Sp := fun vs H Q _ => ∃ (x : V) (d : PyData), vs = [x, .int i] ∧ Dq K H x d ∧ ∀ H', Same H H' → Q (.bl (g d)) H'
def spST (K : PySem.W.Frag) (n : Nat) : Sp := spTree (isSt n) K (4 - n)
def spTW (K : PySem.W.Frag) (n : Nat) : Sp := spTree (treeOf (isSt n)) K (4 - n)
def spPrev (K : PySem.W.Frag) : Nat → Sp
  | 0 => fun _ _ _ _ => False
  | n + 1 => spTW K n
theorem fn_false {CX : CXT} {k : Nat} {f : Addr} {fd : FuncData} {ps : List Str} : FnOk P w K mg base CX k f fd ps (fun _ _ _ _ => False) := ⟨fun _ _ _ _ h => h.elim, fun _ _ _ _ _ _ _ _ _ _ _ _ _ h => h.elim⟩
def twP (H0 : Hp) (a0 : Addr) (i : Int) (f : PyData → Bool) (ds : List PyData) (j : Nat) : L2.St → Hp → Prop := fun σ H => Same H0 H ∧ (∃ (y : Option V), σ = [some (.ref a0), some (.int i), y]) ∧ (ds.take j).all f = true
def stP (H0 : Hp) (a0 : Addr) (i : Int) (f : PyData → Bool) (ds : List PyData) (j : Nat) : L2.St → Hp → Prop := fun σ H => Same H0 H ∧ (∃ (y : Option V), σ = [some (.ref a0), some (.int i), y]) ∧ (ds.take j).all f = true
theorem st_form (n : Nat) {k : Str} {t : PyData} {r : List PyData} (h : isDeed (.tuple (.str k :: t :: r)) = false) (hk : (k = "if" ∧ r.length = 2) ∨ (k = "while" ∧ r.length = 1)) : isSt (n + 1) (.tuple (.str k :: t :: r)) = (isTest t && r.all (treeOf (isSt n))) := by
  rcases hk with ⟨rfl, h2⟩ | ⟨rfl, h2⟩
  · match r, h2 with
    | [a, b], _ =>
      unfold isSt
      rw [h]
      simp only [Bool.false_or, List.all_cons, List.all_nil, Bool.and_true, decide_true, Bool.true_and]
  · match r, h2 with
    | [a], _ =>
      unfold isSt
      rw [h]
      simp only [Bool.false_or, List.all_cons, List.all_nil, Bool.and_true, decide_true, Bool.true_and]
theorem st_bad {d : PyData} (h : isDeed d = false) : isSt 0 d = false ∧ ((∀ k t r, d = .tuple (.str k :: t :: r) → ¬ ((k = "if" ∧ r.length = 2) ∨ (k = "while" ∧ r.length = 1))) → ∀ n, isSt (n + 1) d = false) := by
  refine ⟨h, fun hk n => ?_⟩
  unfold isSt
  rw [h, Bool.false_or]
  split
  · rename_i k t a b
    rw [decide_eq_false (fun z => hk k t [a, b] rfl (.inl ⟨z, rfl⟩)), Bool.false_and]
  · rename_i k t a
    rw [decide_eq_false (fun z => hk k t [a] rfl (.inr ⟨z, rfl⟩)), Bool.false_and]
  · rfl
theorem any_ifw {kk : Str} {n : Int} : ([PyData.tuple [.str "if", .int 4], .tuple [.str "while", .int 3]].any fun z => PyData.eqv z (.tuple [.str kk, .int n])) = ((decide (kk = "if") && decide (n = 4)) || (decide (kk = "while") && decide (n = 3))) := by
  simp only [List.any_cons, List.any_nil, Bool.or_false, PyData.eqv, PyData.eqvAll, Bool.and_true]
  have e1 : ∀ a b : Str, (a == b) = decide (b = a) := fun a b => by
    by_cases h : a = b
    · subst h; simp
    · rw [decide_eq_false (fun z => h z.symm)]; simp [h]
  have e2 : ∀ a b : Int, (a == b) = decide (b = a) := fun a b => by
    by_cases h : a = b
    · subst h; simp
    · rw [decide_eq_false (fun z => h z.symm)]; simp [h]
  rw [e1, e1, e2, e2]
theorem six2 {a b : V} {vs : List V} : HT.sIx (a :: b :: vs).length 0 (some 2) = 2 := by
  have := HT.sIx_nat (a :: b :: vs).length 0 2
  rw [show ((2 : Nat) : Int) = 2 from rfl] at this
  rw [this]
  simp only [List.length_cons]
  omega
theorem cut2 {a b : V} {vs : List V} : cutV (a :: b :: vs) (some 2) none = vs := by
  unfold cutV
  rw [six2]
  show ((a :: b :: vs).drop 2).take ((a :: b :: vs).length - 2) = vs
  simp
theorem shaped_kn {kk : Str} {n : Int} (h : smS kk = true) : SeqAt.shaped (.tuple [.str kk, .int n]) = true := by
  have := (Bool.and_eq_true_iff.mp h).2
  show ((PyData.canLay0 (.tuple [.str kk, .int n])) && decide (PyData.depth (.tuple [.str kk, .int n]) ≤ 64)) = true
  rw [PyData.canLay0, PyData.canLayAll0, PyData.canLay0, this, PyData.canLayAll0, PyData.canLay0, PyData.canLayAll0]
  rfl
end
end K38

set_option Elab.async false
set_option linter.all false
set_option maxRecDepth 100000
set_option maxHeartbeats 4000000
namespace K38
open PySem PySem.Spec PyProof.Rows L2 Rd Dt Dq Pk
local macro_rules | `(tactic| walk_at "rd") => `(tactic| try simp only [tVar_, tC_, tOp_, tUn_, rI_, rI0_, rU_, eq_ii, ne_ii, eq_ss, ne_ss, eq_bb, ne_bb, tAndV_, tOrV_, tNotV_, tIf_, tTest_, tB_, tAnd_, tOr_, tNot_, tChain_, tNil_, tCons_, tTup_, tLst_, tCB_, tCall_, tSeq_, tNext_, tRet_, tRetN_, tDrop_, tBreak_, tNever_, tIfS_, tAsg_, gName_, gTup_, gCons_, gNil_, gSub_, tPar_, tPar3_, tSl_, tNoPart_, tPart_, tBM_, tFor_range1, tFor_range2, tFor_list, tFor_tup,
  L2.start, List.map_cons, List.map_nil, List.length_cons, List.length_nil, List.replicate, List.append_nil, List.nil_append, List.cons_append, List.getElem?_cons_zero, List.getElem?_cons_succ, List.set_cons_zero, List.set_cons_succ, Option.some.injEq, V.int.injEq, V.bl.injEq, V.str.injEq, V.ref.injEq, exists_eq_left, exists_eq_left', exists_eq_right, exists_eq, exists_and_left, and_true, true_and, decide_eq_true_eq, Nat.reduceAdd, Nat.reduceSub, Nat.add_zero, Nat.zero_add, List.cons.injEq, Bool.not_eq_true', decide_eq_false_iff_not, eq_self, reduceCtorEq, Bool.false_eq_true, if_true, if_false, ite_true, ite_false, and_self, tLc_range1, tLc_range2, tLc_list, tLc_tup, tYes_, wipe0, wipe1, tCallS_, rIxL_, rIxT_, rSlL_, rCat_, rSetL_, rRep_, rGcd_, tCallK_, gUnl_, tRaise_, decide_true, decide_false, not_true_eq_false, not_false_eq_true, false_and, or_false, false_or, and_false, and_assoc, exists_const, forall_const, forall_eq'])

section
variable {P : Program} {w : World} {K : PySem.W.Frag} {mg : Str → Option Value} {base : Heap}
def spCnt (K : PySem.W.Frag) (n : Nat) : Sp := fun vs H Q _ => ∃ (x : V) (d : PyData), vs = [x] ∧ Dq K H x d ∧ treeOf (isSt n) d = true ∧ ∀ H', Same H H' → Q (.int (cntOf (cntSt n) d : Nat)) H'
def spCntP (K : PySem.W.Frag) : Nat → Sp
  | 0 => fun _ _ _ _ => False
  | n + 1 => spCnt K n
def cnP (H0 : Hp) (a0 : Addr) (f : PyData → Nat) (ds : List PyData) (j : Nat) : L2.St → Hp → Prop := fun σ H => Same H0 H ∧ (∃ (y : Option V), σ = [some (.ref a0), some (.int (((ds.take j).map f).sum : Nat)), y, none])
def cmP (H0 : Hp) (f : PyData → Nat) (ds : List PyData) (D : Addr) (j : Nat) (H : Hp) : Prop := Same H0 H ∧ H D = some (.lst (((ds.take j).map fun d => (f d : Int)).map V.int))
theorem sum_step {f : PyData → Nat} {cs : List PyData} {i : Nat} {c : PyData} (h : cs[i]? = some c) : ((cs.take (i + 1)).map f).sum = ((cs.take i).map f).sum + f c := by
  rw [List.take_succ, h, List.map_append, List.sum_append]
  simp
theorem sum_cast (f : PyData → Nat) : ∀ ds : List PyData, (ds.map fun d => (f d : Int)).sum = (((ds.map f).sum : Nat) : Int)
  | [] => rfl
  | d :: ds => by simp only [List.map_cons, List.sum_cons, sum_cast f ds]; omega
theorem st_nest {m : Nat} {d : PyData} (h : isSt (m + 1) d = true) (hd : ¬ isDeed d = true) : ∃ (k : Str) (t : PyData) (r : List PyData), d = .tuple (.str k :: t :: r) ∧ ((k = "if" ∧ r.length = 2) ∨ (k = "while" ∧ r.length = 1)) ∧ isTest t = true ∧ (∀ c ∈ r, treeOf (isSt m) c = true) ∧ cntSt (m + 1) d = 1 + (r.map (cntOf (cntSt m))).sum := by
  rcases st_cases h with z | ⟨t, a, b, rfl, ht, ha, hb⟩ | ⟨t, a, rfl, ht, ha⟩
  · exact absurd z hd
  · refine ⟨_, t, [a, b], rfl, .inl ⟨rfl, rfl⟩, ht, fun c hc => ?_, ?_⟩
    · simp only [List.mem_cons, List.not_mem_nil, or_false] at hc
      rcases hc with rfl | rfl
      · exact ha
      · exact hb
    · show (if ("if" : Str) = "if" then 1 + (cntOf (cntSt m) a + cntOf (cntSt m) b) else 1) = _
      rw [if_pos rfl]; simp
  · refine ⟨_, t, [a], rfl, .inr ⟨rfl, rfl⟩, ht, fun c hc => ?_, ?_⟩
    · simp only [List.mem_cons, List.not_mem_nil, or_false] at hc
      rcases hc with rfl
      exact ha
    · show (if ("while" : Str) = "while" then 1 + cntOf (cntSt m) a else 1) = _
      rw [if_pos rfl]; simp
theorem sc_cnt : FnScope ["tree", "found", "row", "part"] ["tree"] (defScope (top 21)) := ⟨rfl, rfl, rfl, by decide +kernel, rfl, by decide +kernel, by decide +kernel⟩
theorem ok_cnt {f : Addr} {fd : FuncData} (T : Tx mg) (n : Nat) (F : FD K "count_statements" (top 21) f fd) (C1 : Cal P w K mg base CX0 n "count_statements" ["tree"] (spCntP K n) f fd) : FnOk P w K mg base CX0 (n + 1) f fd ["tree"] (spCnt K n) := by
  obtain ⟨gcount_statements, kcount_statements, bcount_statements, Fcount_statements⟩ := C1
  refine F.ok sc_cnt (fun vs H Q E h => ?_) (fun cdv A outer s H vs Q E hr h => ?_)
  · obtain ⟨_, _, rfl, _⟩ := h
    rfl
  · obtain ⟨x, d, rfl, hx, ht, k⟩ := h
    have nd := sc_cnt.nd
    refine ⟨_, (pss_cons (ps_set (i := 1) nd rfl (Or.inl rfl) pe_int)
        (pss_cons (ps_for (passes_of rfl) rfl (pi_tup (pv 0)) (pg_name (i := 2) nd rfl (Or.inl rfl)) (pss_cons (ps_set (i := 1) nd rfl (Or.inl rfl) (pe_op op_add (pv 1) pe_int))
        (pss_one (ps_if (pt_cmpR op_in_seq (pe_ix (r := rIxT K) ix_tup (pv 2) pe_int (fun _ _ => rfl)) (pe_tup (pa_cons pe_str (pa_cons pe_str pa_nil))) rfl) (pss_one (ps_set (i := 1) nd rfl (Or.inl rfl) (pe_op op_add (pv 1) (pe_callB (cr_sum rfl) (by rfl) T.b_sum (by decide +kernel) (pa_cons (pe_lc (own := [("part", 3)]) rfl nd (pi_tup (pe_slice (r := rSlT K) sl_tup (pv 2) (po_some pe_int) po_none)) (blkOk_by (N := ["tree", "found", "row", "part"]) (sc := defScope (top 21)) (by decide +kernel)) (fun _ _ _ _ _ => (pg_name (i := 3) nd rfl (Or.inl rfl))) (fun _ _ _ _ _ => pts_nil) (fun _ _ _ _ _ => (pe_call Fcount_statements (hr.mono (by omega)) rfl gcount_statements kcount_statements bcount_statements .nil pass0 (pa_cons (pv 3) pa_nil)))) pa_nil))))) pss_nil))))
        (pss_one (ps_ret (pv 1))))), ?_⟩
    refine sq fun U hU => ?_
    walk_at "rd"
    refine hU _ _ ?_
    clear hU
    cases hx with
    | tup e ha =>
      rename_i a0 xs ds
      have hl := ha.len
      refine sq fun U hU => ?_
      walk_at "rd"
      refine ⟨⟨_, SqT.of e⟩, ?_⟩
      refine for_t (xs := xs) (cnP H a0 (cntSt n) ds) ⟨Same.refl _, ⟨_, rfl⟩⟩ (fun i σ H' _ hP => SqT.of (hP.1 _ _ e)) ?_ ?_
      · rintro i y σ H' hy ⟨hs, ⟨z, rfl⟩⟩
        obtain ⟨c, hc1, hc2⟩ := ha.atV hy
        have hcs : isSt n c = true := List.all_eq_true.mp ht c (List.mem_of_getElem? hc1)
        replace hc2 := hc2.up hs
        have fin : ∀ (H2 : Hp) (v : Int), Same H' H2 → v = (((ds.take i).map (cntSt n)).sum : Nat) + (cntSt n c : Nat) → cnP H a0 (cntSt n) ds (i + 1) [some (.ref a0), some (.int v), some y, none] H2 := fun H2 v s2 hv => ⟨hs.trans s2, ⟨some y, by rw [hv, sum_step hc1, Int.natCast_add]⟩⟩
        refine sq fun V2 hV => ?_
        walk_at "rd"
        refine hV _ _ ?_
        clear hV
        walk_at "rd"
        have plain : isDeed c = true → ∃ (k : Str) (b : Addr) (zs : List V) (bs : List PyData), y = .ref b ∧ H' b = some (.tup (.str k :: zs)) ∧ (k ≠ "if" ∧ k ≠ "while") ∧ cntSt n c = 1 := fun hd => by
          have := (deed_plain hd n).1
          rcases deed_cases hd with ⟨k, a, rfl, _, hk⟩ | ⟨k, a, b, rfl, _, hk⟩
          · cases hc2 with
            | tup e2 h2 =>
              cases h2 with
              | cons h3 h4 =>
                cases h3
                exact ⟨k, _, _, [], rfl, e2, ne_if (by rcases hk with z | z <;> simp [z]), this⟩
          · cases hc2 with
            | tup e2 h2 =>
              cases h2 with
              | cons h3 h4 =>
                cases h3
                exact ⟨k, _, _, [], rfl, e2, ne_if (by rcases hk with ⟨z, _⟩ | ⟨z | z, _⟩ <;> simp [z]), this⟩
        by_cases dd : isDeed c = true
        · obtain ⟨k, b, zs, bs, rfl, e2, ⟨n1, n2⟩, hone⟩ := plain dd
          refine ⟨b, rfl, _, SqT.of e2, _, atI_nn (by decide) rfl, by decide, fun p hp => in2 upd_same ⟨_, rfl, ?_⟩⟩
          rw [if_neg (by rw [Bool.or_eq_true, decide_eq_true_eq, decide_eq_true_eq]; exact fun z => z.elim n1 n2)]
          exact fin _ _ (same_new hp) (by rw [hone]; rfl)
        cases n with
        | zero => exact absurd hcs dd
        | succ m =>
          obtain ⟨k, t, r, rfl, hk, _, hr', hcn⟩ := st_nest hcs dd
          cases hc2 with
          | tup e2 h2 =>
            rename_i b ys
            cases h2 with
            | cons h3 h2 =>
            cases h2 with
            | cons h4 h5 =>
              cases h3
              rename_i v2 vs _
              have hvl := h5.len
              refine ⟨b, rfl, _, SqT.of e2, _, atI_nn (by decide) rfl, by decide, fun p hp => in2 upd_same ⟨_, rfl, ?_⟩⟩
              rw [if_pos (by rw [Bool.or_eq_true, decide_eq_true_eq, decide_eq_true_eq]; rcases hk with z | z; exact .inl z.1; exact .inr z.1)]
              have s1 : Same H' (upd H' p (.tup [.str "if", .str "while"])) := same_new hp
              generalize (upd H' p (HO.tup [V.str (Str.ofString "if"), V.str (Str.ofString "while")])) = H1 at s1 ⊢
              refine ⟨b, _, rfl, SqT.of (s1 _ _ e2), by rw [six2]; exact fun z => absurd z.1 (by decide), fun q hq => ?_⟩
              rw [cut2]
              have s2 : Same H1 (upd H1 q (.tup vs)) := same_new hq
              have eq' : (upd H1 q (.tup vs)) q = some (.tup vs) := upd_same
              generalize (upd H1 q (HO.tup vs)) = H2 at s2 eq' ⊢
              replace h5 := (h5.up s1).up s2
              refine ⟨q, rfl, ⟨_, SqT.of eq'⟩, lc_t (xs := vs) (cmP H2 (cntOf (cntSt m)) r) fun D hD => ⟨⟨same_new hD, upd_same⟩, fun j H3 _ hP => SqT.of (hP.1 _ _ eq'), ?_, ?_⟩⟩
              · rintro j x1 H3 hj ⟨hs3, hL⟩
                obtain ⟨c', hc1', hc2'⟩ := h5.atV hj
                unfold Lturn
                walk_at "rd"
                refine ⟨x1, c', rfl, hc2'.up hs3, hr' c' (List.mem_of_getElem? hc1'), fun H4 s4 => ⟨_, s4 _ _ hL, ?_, fun b' o e' => ?_, ?_⟩⟩
                · rw [List.length_map, List.length_map]
                  have : (List.take j r).length ≤ r.length := List.length_take_le' _ _
                  have : r.length ≤ 2 := by rcases hk with z | z <;> omega
                  rw [sizeLine_eq]
                  omega
                · rw [upd_ne (ne_of_none e' hD)]; exact s4 _ _ (hs3 b' o e')
                · rw [upd_same, List.take_succ, hc1', List.map_append, List.map_append]; rfl
              · rintro H3 ⟨hs3, hL⟩
                refine ⟨D, _, rfl, SqL.of hL, ?_⟩
                walk_at "rd"
                rw [hvl, List.take_length]
                refine fin _ _ (s1.trans (s2.trans hs3)) ?_
                rw [sum_cast, hcn]
                omega
      · rintro σ H' ⟨hs, ⟨z, rfl⟩⟩
        refine hU _ _ ?_
        walk_at "rd"
        rw [hl, List.take_length]
        exact k _ hs
    | _ => cases ht
end
end K38

set_option Elab.async false
set_option linter.all false
set_option maxRecDepth 100000
set_option maxHeartbeats 4000000
namespace K38
open PySem PySem.Spec PyProof.Rows L2 Rd Dt Dq Pk
local macro_rules | `(tactic| walk_at "rd") => `(tactic| try simp only [tVar_, tC_, tM1,  tOp_, tUn_, rI_, rI0_, rU_, eq_ii, ne_ii, eq_ss, ne_ss, eq_bb, ne_bb, tAndV_, tOrV_, tNotV_, tIf_, tTest_, tB_, tAnd_, tOr_, tNot_, tChain_, tNil_, tCons_, tTup_, tLst_, tCB_, tCall_, tSeq_, tNext_, tRet_, tRetN_, tDrop_, tBreak_, tNever_, tIfS_, tAsg_, gName_, gTup_, gCons_, gNil_, gSub_, tPar_, tPar3_, tSl_, tNoPart_, tPart_, tBM_, tFor_range1, tFor_range2, tFor_list, tFor_tup,
  L2.start, List.map_cons, List.map_nil, List.length_cons, List.length_nil, List.replicate, List.append_nil, List.nil_append, List.cons_append, List.getElem?_cons_zero, List.getElem?_cons_succ, List.set_cons_zero, List.set_cons_succ, Option.some.injEq, V.int.injEq, V.bl.injEq, V.str.injEq, V.ref.injEq, exists_eq_left, exists_eq_left', exists_eq_right, exists_eq, exists_and_left, and_true, true_and, decide_eq_true_eq, Nat.reduceAdd, Nat.reduceSub, Nat.add_zero, Nat.zero_add, List.cons.injEq, Bool.not_eq_true', decide_eq_false_iff_not, eq_self, reduceCtorEq, Bool.false_eq_true, if_true, if_false, ite_true, ite_false, and_self, tLc_range1, tLc_range2, tLc_list, tLc_tup, tYes_, wipe0, wipe1, tCallS_, rIxL_, rIxT_, rSlL_, rCat_, rSetL_, rRep_, rGcd_, tCallK_, gUnl_, tRaise_, decide_true, decide_false, not_true_eq_false, not_false_eq_true, false_and, or_false, false_or, and_false, and_assoc, exists_const, forall_const, forall_eq'])

section
variable {P : Program} {w : World} {K : PySem.W.Frag} {mg : Str → Option Value} {base : Heap}
theorem ln {a b : Str} {n m : Nat} (ta : Tok a n) (tb : Tok b m) (h : n + m ≤ 1000000) : a.length + b.length ≤ sizeLine := by
  have := ta.len
  have := tb.len
  rw [sizeLine_eq]
  omega
def spText (p : PyData → Bool) (g : PyData → Str) (K : PySem.W.Frag) : Sp := fun vs H Q _ => ∃ (x : V) (d : PyData), vs = [x] ∧ Dq K H x d ∧ p d = true ∧ ∀ H', Same H H' → Q (.str (g d)) H'
theorem dq1 {H : Hp} {x : V} {s : Str} (h : Dq K H x (.str s)) : x = .str s := by cases h; rfl
theorem dqt {H : Hp} {x : V} {ds : List PyData} (h : Dq K H x (.tuple ds)) : ∃ (a : Addr) (xs : List V), x = .ref a ∧ H a = some (.tup xs) ∧ DqAll K H xs ds := by
  cases h with
  | tup e h => exact ⟨_, _, rfl, e, h⟩
theorem all2 {H : Hp} {xs : List V} {s t : Str} (h : DqAll K H xs [.str s, .str t]) : xs = [.str s, .str t] := by
  cases h with
  | cons a h =>
  cases h with
  | cons b h =>
  cases h
  rw [dq1 a, dq1 b]
theorem all3 {H : Hp} {xs : List V} {s t u : Str} (h : DqAll K H xs [.str s, .str t, .str u]) : xs = [.str s, .str t, .str u] := by
  cases h with
  | cons a h =>
  cases h with
  | cons b h =>
  cases h with
  | cons c h =>
  cases h
  rw [dq1 a, dq1 b, dq1 c]
theorem t1 {s : Str} (h : isLetterS s = true) : Tok s 1 := by
  obtain ⟨_, e, t⟩ := letter_tok (d := .str s) h
  cases e; exact t
theorem t3 {s : Str} (h : isGoal (.str s) = true) : Tok s 3 := by
  obtain ⟨_, e, t⟩ := goal_tok h
  cases e; exact t
def jtP (H0 : Hp) (g : PyData → Str) (ds : List PyData) (D : Addr) (j : Nat) (H : Hp) : Prop := Same H0 H ∧ H D = some (.lst (((ds.take j).map g).map V.str))
theorem sc_as : FnScope ["_law_act"] ["_law_act"] (defScope (top 42)) := ⟨rfl, rfl, rfl, by decide +kernel, rfl, by decide +kernel, by decide +kernel⟩
theorem ok_as {f : Addr} {fd : FuncData} (T : Tx mg) (F : FD K "_law_act_said" (top 42) f fd) : FnOk P w K mg base CX0 1 f fd ["_law_act"] (spText isDeed deedText K) := by
  refine F.ok sc_as (fun vs H Q E h => ?_) (fun cdv A outer s H vs Q E hr h => ?_)
  · obtain ⟨_, _, rfl, _⟩ := h
    rfl
  · obtain ⟨x, d, rfl, hx, hd, k⟩ := h
    replace k := k H (Same.refl H)
    refine ⟨_, (pss_cons (ps_if (pt_cmpR op_eq (pe_ix (r := rIxT K) ix_tup (pv 0) pe_int (fun _ _ => rfl)) pe_str (nomark _)) (pss_one (ps_ret (pe_op op_add_str (pe_op op_add_str (pe_ix (r := rIxT K) ix_tup (pv 0) pe_int (fun _ _ => rfl)) pe_str) (pe_ix (r := rIxT K) ix_tup (pv 0) pe_int (fun _ _ => rfl))))) pss_nil)
        (pss_cons (ps_if (pt_cmpR op_eq (pe_ix (r := rIxT K) ix_tup (pv 0) pe_int (fun _ _ => rfl)) pe_str (nomark _)) (pss_one (ps_ret (pe_op op_add_str (pe_op op_add_str (pe_ix (r := rIxT K) ix_tup (pv 0) pe_int (fun _ _ => rfl)) pe_str) (pe_ix (r := rIxT K) ix_tup (pv 0) pe_int (fun _ _ => rfl))))) pss_nil)
        (pss_cons (ps_if (pt_cmpR op_eq (pe_ix (r := rIxT K) ix_tup (pv 0) pe_int (fun _ _ => rfl)) pe_str (nomark _)) (pss_one (ps_ret (pe_op op_add_str (pe_op op_add_str (pe_op op_add_str pe_str (pe_ix (r := rIxT K) ix_tup (pv 0) pe_int (fun _ _ => rfl))) pe_str) (pe_ix (r := rIxT K) ix_tup (pv 0) pe_int (fun _ _ => rfl))))) pss_nil)
        (pss_one (ps_ret (pe_ifExp (pt_cmpR op_eq (pe_ix (r := rIxT K) ix_tup (pv 0) pe_int (fun _ _ => rfl)) pe_str (nomark _)) (pe_op op_add_str (pe_ix (r := rIxT K) ix_tup (pv 0) pe_int (fun _ _ => rfl)) pe_str) (pe_op op_add_str pe_str (pe_ix (r := rIxT K) ix_tup (pv 0) pe_int (fun _ _ => rfl))))))))), ?_⟩
    have l1 : Tok " = new" 6 := ⟨by decide, by decide +kernel⟩
    have l2 : Tok "drop " 5 := ⟨by decide, by decide +kernel⟩
    have l3 : Tok " = next " 8 := ⟨by decide, by decide +kernel⟩
    have l4 : Tok " = " 3 := ⟨by decide, by decide +kernel⟩
    have l5 : Tok "next " 5 := ⟨by decide, by decide +kernel⟩
    rcases deed_cases hd with ⟨kk, a, rfl, ha, hk⟩ | ⟨kk, a, b, rfl, ha, hk⟩
    · obtain ⟨p, xs, rfl, e, h⟩ := dqt hx
      obtain rfl := all2 h
      have ta := t1 ha
      have nn : kk ≠ "copy" ∧ kk ≠ "next" ∧ kk ≠ "tie" := by rcases hk with rfl | rfl <;> exact ⟨by decide, by decide, by decide⟩
      rw [show deedText (.tuple [.str kk, .str a]) = (if kk = "new" then a ++ " = new" else "drop " ++ a) from rfl] at k
      refine sq fun U hU => ?_
      walk_at "rd"
      refine ⟨_, SqT.of e, _, atI_nn (by decide) rfl, ?_⟩
      walk_at "rd"
      rw [if_neg nn.1]
      refine hU _ _ ?_
      clear hU
      refine sq fun U hU => ?_
      walk_at "rd"
      refine ⟨_, SqT.of e, _, atI_nn (by decide) rfl, ?_⟩
      walk_at "rd"
      rw [if_neg nn.2.1]
      refine hU _ _ ?_
      clear hU
      refine sq fun U hU => ?_
      walk_at "rd"
      refine ⟨_, SqT.of e, _, atI_nn (by decide) rfl, ?_⟩
      walk_at "rd"
      rw [if_neg nn.2.2]
      refine hU _ _ ?_
      clear hU
      walk_at "rd"
      refine ⟨_, SqT.of e, _, atI_nn (by decide) rfl, ?_⟩
      walk_at "rd"
      by_cases kn : kk = "new"
      · rw [if_pos kn]
        rw [if_pos kn] at k
        refine ⟨_, SqT.of e, _, atI_nn (by decide) rfl, _, rfl, ln ta l1 (by decide), k⟩
      · rw [if_neg kn]
        rw [if_neg kn] at k
        exact ⟨_, SqT.of e, _, atI_nn (by decide) rfl, _, rfl, ln l2 ta (by decide), k⟩
    · obtain ⟨p, xs, rfl, e, h⟩ := dqt hx
      obtain rfl := all3 h
      have ta := t1 ha
      have tb : Tok b 3 := by
        rcases hk with ⟨_, z⟩ | ⟨_, z⟩
        · exact (t1 z).mono (by decide)
        · exact t3 z
      rw [show deedText (.tuple [.str kk, .str a, .str b]) = (if kk = "next" then a ++ " = next " ++ b else (if kk = "tie" then ("next " : Str) else "") ++ a ++ " = " ++ b) from rfl] at k
      refine sq fun U hU => ?_
      walk_at "rd"
      refine ⟨_, SqT.of e, _, atI_nn (by decide) rfl, ?_⟩
      walk_at "rd"
      by_cases kc : kk = "copy"
      · rw [if_pos kc]
        rw [kc, if_neg (by decide : ¬ ("copy" : Str) = "next"), if_neg (by decide : ¬ ("copy" : Str) = "tie"), show (Str.ofString "") ++ a = a from Str.empty_append a] at k
        exact ⟨_, SqT.of e, _, atI_nn (by decide) rfl, _, rfl, ln ta l4 (by decide), _, SqT.of e, _, atI_nn (by decide) rfl, _, rfl, ln (ta.app l4) tb (by decide), k⟩
      rw [if_neg kc]
      refine hU _ _ ?_
      clear hU
      refine sq fun U hU => ?_
      walk_at "rd"
      refine ⟨_, SqT.of e, _, atI_nn (by decide) rfl, ?_⟩
      walk_at "rd"
      by_cases kn : kk = "next"
      · rw [if_pos kn]
        rw [if_pos kn] at k
        exact ⟨_, SqT.of e, _, atI_nn (by decide) rfl, _, rfl, ln ta l3 (by decide), _, SqT.of e, _, atI_nn (by decide) rfl, _, rfl, ln (ta.app l3) tb (by decide), k⟩
      rw [if_neg kn]
      rw [if_neg kn] at k
      refine hU _ _ ?_
      clear hU
      refine sq fun U hU => ?_
      walk_at "rd"
      refine ⟨_, SqT.of e, _, atI_nn (by decide) rfl, ?_⟩
      walk_at "rd"
      have kt : kk = "tie" := by rcases hk with ⟨z, _⟩ | ⟨z | z, _⟩; exact absurd z kn; exact absurd z kc; exact z
      rw [if_pos kt]
      rw [if_pos kt] at k
      exact ⟨_, SqT.of e, _, atI_nn (by decide) rfl, _, rfl, ln l5 ta (by decide), ln (l5.app ta) l4 (by decide), _, SqT.of e, _, atI_nn (by decide) rfl, _, rfl, ln ((l5.app ta).app l4) tb (by decide), k⟩
theorem sc_qs : FnScope ["_law_quiz_here", "_law_mark", "_law_one", "_law_two"] ["_law_quiz_here"] (defScope (top 43)) := ⟨rfl, rfl, rfl, by decide +kernel, rfl, by decide +kernel, by decide +kernel⟩
theorem ok_qs {f : Addr} {fd : FuncData} (T : Tx mg) (F : FD K "_law_quiz_said" (top 43) f fd) : FnOk P w K mg base CX0 1 f fd ["_law_quiz_here"] (spText isTest testText K) := by
  refine F.ok sc_qs (fun vs H Q E h => ?_) (fun cdv A outer s H vs Q E hr h => ?_)
  · obtain ⟨_, _, rfl, _⟩ := h
    rfl
  · obtain ⟨x, d, rfl, hx, hd, k⟩ := h
    have nd := sc_qs.nd
    refine ⟨_, (pss_one (ps_ret (pe_join (pe_op op_add_str (pe_op op_add_str pe_str (pe_ix (r := rIxT K) ix_tup (pv 0) pe_int (fun _ _ => rfl))) pe_str) (pe_lc (own := [("_law_mark", 1), ("_law_one", 2), ("_law_two", 3)]) rfl nd (pi_tup (pe_ix (r := rIxT K) ix_tup (pv 0) pe_int (fun _ _ => rfl))) (blkOk_by (N := ["_law_quiz_here", "_law_mark", "_law_one", "_law_two"]) (sc := defScope (top 43)) (by decide +kernel)) (fun _ _ _ _ _ => (pg_tupK (K := K) (n := 3) rfl rfl (pgs_cons (pg_name (i := 1) nd rfl (Or.inl rfl) (hf := Or.inr rfl)) (pgs_cons (pg_name (i := 2) nd rfl (Or.inl rfl) (hf := Or.inr rfl)) (pgs_cons (pg_name (i := 3) nd rfl (Or.inl rfl) (hf := Or.inr rfl)) pgs_nil))) rfl rfl)) (fun _ _ _ _ _ => pts_nil) (fun _ _ _ _ _ => (pe_op op_add_str (pe_op op_add_str (pe_op op_add_str (pe_op op_add_str (pv 2) pe_str) (pv 1)) pe_str) (pv 3))))))), ?_⟩
    obtain ⟨kk, cs, rfl, hk, hl, hc⟩ := test_cases hd
    obtain ⟨p, xs, rfl, e, h⟩ := dqt hx
    cases h with
    | cons h1 h =>
    cases h with
    | cons h2 h =>
    cases h
    obtain rfl := dq1 h1
    obtain ⟨p2, ys, rfl, e2, h⟩ := dqt h2
    have hlen := h.len
    have ts : Tok " " 1 := ⟨by decide, by decide +kernel⟩
    have tk : Tok kk 3 := by rcases hk with rfl | rfl <;> exact ⟨by decide, by decide +kernel⟩
    walk_at "rd"
    refine ⟨_, SqT.of e, _, atI_nn (by decide) rfl, _, rfl, ln ts tk (by decide), ln (ts.app tk) ts (by decide), ?_⟩
    refine ⟨⟨_, rfl⟩, _, SqT.of e, _, atI_nn (by decide) rfl, p2, rfl, ⟨_, SqT.of e2⟩, lc_t (xs := ys) (jtP H compText cs) fun D hD => ⟨⟨same_new hD, upd_same⟩, fun j H3 _ hP => SqT.of (hP.1 _ _ e2), ?_, ?_⟩⟩
    · rintro j x1 H3 hj ⟨hs3, hL⟩
      obtain ⟨c, hc1, hc2⟩ := h.atV hj
      obtain ⟨s, a, b, rfl, hs, ha, hb⟩ := comp_cases (hc c (List.mem_of_getElem? hc1))
      obtain ⟨p3, zs, rfl, e3, h3⟩ := dqt (hc2.up hs3)
      obtain rfl := all3 h3
      have ta := t1 ha
      have tb := t3 hb
      have tg : Tok s 2 := by rcases hs with rfl | rfl <;> exact ⟨by decide, by decide +kernel⟩
      unfold Lturn
      walk_at "rd"
      refine ⟨_, SqT.of e3, by rfl, ?_⟩
      walk_at "rd"
      refine ⟨ln ta ts (by decide), ln (ta.app ts) tg (by decide), ln ((ta.app ts).app tg) ts (by decide), ln (((ta.app ts).app tg).app ts) tb (by decide), _, hL, ?_, fun b' o e' => ?_, ?_⟩
      · rw [List.length_map, List.length_map]
        have : (List.take j cs).length ≤ cs.length := List.length_take_le' _ _
        rw [sizeLine_eq]
        omega
      · rw [upd_ne (ne_of_none e' hD)]; exact hs3 b' o e'
      · rw [upd_same, List.take_succ, hc1, List.map_append, List.map_append]; rfl
    · rintro H3 ⟨hs3, hL⟩
      rw [hlen, List.take_length] at hL
      have tj := test_tok hd
      have hsum := sum_const (fun c => (compText c).length) 8 cs fun c h1 => (comp_tok (hc c h1)).len
      have tkk := ((ts.app tk).app ts).len
      refine ⟨D, rfl, cs.map compText, .inl (SqL.of hL), ?_, ?_⟩
      · rw [List.map_map, List.length_map]
        have h2 : cs.length * (" " ++ kk ++ " ").length ≤ 3 * 5 := Nat.mul_le_mul hl.2 tkk
        have h3 : (cs.map ((fun x : Str => x.length) ∘ compText)).sum = (cs.map fun c => (compText c).length).sum := rfl
        rw [h3]
        omega
      · exact k _ hs3
end
end K38

set_option Elab.async false
set_option linter.all false
set_option maxRecDepth 100000
set_option maxHeartbeats 4000000
namespace K38
open PySem PySem.Spec PyProof.Rows L2 Rd Dt Dq Pk
local macro_rules | `(tactic| walk_at "rd") => `(tactic| try simp only [tVar_, tC_, tM1,  tOp_, tUn_, rI_, rI0_, rU_, eq_ii, ne_ii, eq_ss, ne_ss, eq_bb, ne_bb, tAndV_, tOrV_, tNotV_, tIf_, tTest_, tB_, tAnd_, tOr_, tNot_, tChain_, tNil_, tCons_, tTup_, tLst_, tCB_, tCall_, tSeq_, tNext_, tRet_, tRetN_, tDrop_, tBreak_, tNever_, tIfS_, tAsg_, gName_, gTup_, gCons_, gNil_, gSub_, tPar_, tPar3_, tSl_, tNoPart_, tPart_, tBM_, tFor_range1, tFor_range2, tFor_list, tFor_tup,
  L2.start, List.map_cons, List.map_nil, List.length_cons, List.length_nil, List.replicate, List.append_nil, List.nil_append, List.cons_append, List.getElem?_cons_zero, List.getElem?_cons_succ, List.set_cons_zero, List.set_cons_succ, Option.some.injEq, V.int.injEq, V.bl.injEq, V.str.injEq, V.ref.injEq, exists_eq_left, exists_eq_left', exists_eq_right, exists_eq, exists_and_left, and_true, true_and, decide_eq_true_eq, Nat.reduceAdd, Nat.reduceSub, Nat.add_zero, Nat.zero_add, List.cons.injEq, Bool.not_eq_true', decide_eq_false_iff_not, eq_self, reduceCtorEq, Bool.false_eq_true, if_true, if_false, ite_true, ite_false, and_self, tLc_range1, tLc_range2, tLc_list, tLc_tup, tYes_, wipe0, wipe1, tCallS_, rIxL_, rIxT_, rSlL_, rCat_, rSetL_, rRep_, rGcd_, tCallK_, gUnl_, tRaise_, decide_true, decide_false, not_true_eq_false, not_false_eq_true, false_and, or_false, false_or, and_false, and_assoc, exists_const, forall_const, forall_eq'])

section
variable {P : Program} {w : World} {K : PySem.W.Frag} {mg : Str → Option Value} {base : Heap}
def spTextC (p : PyData → Bool) (c : PyData → Nat) (g : PyData → Str) (K : PySem.W.Frag) : Sp := fun vs H Q _ => ∃ (x : V) (d : PyData), vs = [x] ∧ Dq K H x d ∧ p d = true ∧ c d ≤ 1000 ∧ ∀ H', Same H H' → Q (.str (g d)) H'
def spSTx (K : PySem.W.Frag) (n : Nat) : Sp := spTextC (isSt n) (cntSt n) (stText n) K
def spTTx (K : PySem.W.Frag) (n : Nat) : Sp := spTextC (treeOf (isSt n)) (cntOf (cntSt n)) (treeTextOf (stText n)) K
def spTTP (K : PySem.W.Frag) : Nat → Sp
  | 0 => fun _ _ _ _ => False
  | n + 1 => spTTx K n
theorem treeTok {n : Nat} (hn : n ≤ 4) {d : PyData} (h : treeOf (isSt n) d = true) (hc : cntOf (cntSt n) d ≤ 1000) : Tok (treeTextOf (stText n) d) 74004 := by
  refine (tree_tok (st_tok n) h).mono ?_
  have : (64 + 2 * n + 2) * cntOf (cntSt n) d ≤ 74 * 1000 := Nat.mul_le_mul (by omega) hc
  omega
theorem stTok {n : Nat} (hn : n ≤ 4) {d : PyData} (h : isSt n d = true) (hc : cntSt n d ≤ 1000) : Tok (stText n d) 72000 := by
  refine (st_tok n d h).mono ?_
  have : (64 + 2 * n) * cntSt n d ≤ 72 * 1000 := Nat.mul_le_mul (by omega) hc
  omega
theorem mem_sum_le {α : Type} (f : α → Nat) : ∀ (l : List α) (x : α), x ∈ l → f x ≤ (l.map f).sum
  | [], _, h => nomatch h
  | y :: l, x, h => by
    simp only [List.map_cons, List.sum_cons]
    rcases List.mem_cons.mp h with rfl | h
    · omega
    · have := mem_sum_le f l x h
      omega
theorem len_le_cnt (n : Nat) : ∀ l : List PyData, l.length ≤ (l.map (cntSt n)).sum
  | [] => Nat.le_refl _
  | x :: l => by
    simp only [List.map_cons, List.sum_cons, List.length_cons]
    have := cntSt_pos n x
    have := len_le_cnt n l
    omega
theorem join_room {n : Nat} (hn : n ≤ 4) {ds : List PyData} (hds : ∀ c ∈ ds, isSt n c = true) (hcn : (ds.map (cntSt n)).sum ≤ 1000) : ((ds.map (stText n)).map (fun x => x.length)).sum + (ds.map (stText n)).length * (Str.ofString "; ").length ≤ 16777216 := by
  rw [List.map_map, List.length_map]
  have h1 := sum_map_le ((fun x : Str => x.length) ∘ stText n) (fun c => 72 * cntSt n c) ds fun c hc => Nat.le_trans (st_tok n c (hds c hc)).len (Nat.mul_le_mul (by omega) (Nat.le_refl _))
  have h2 : ∀ l : List PyData, (l.map fun d => 72 * cntSt n d).sum = 72 * (l.map (cntSt n)).sum := fun l => by
    induction l with
    | nil => rfl
    | cons x l ih => simp only [List.map_cons, List.sum_cons, ih, Nat.mul_add]
  rw [h2] at h1
  have h3 := len_le_cnt n ds
  have e : (Str.ofString "; ").length = 2 := by decide
  rw [e]
  omega
theorem deedV {H : Hp} {x : V} {d : PyData} (hx : Dq K H x d) (hd : isDeed d = true) : ∃ (k : Str) (b : Addr) (zs : List V), x = .ref b ∧ H b = some (.tup (.str k :: zs)) ∧ (k ≠ "if" ∧ k ≠ "while") := by
  rcases deed_cases hd with ⟨k, a, rfl, _, hk⟩ | ⟨k, a, b, rfl, _, hk⟩
  · obtain ⟨p, xs, rfl, e, h⟩ := dqt hx
    obtain rfl := all2 h
    exact ⟨k, p, _, rfl, e, ne_if (by rcases hk with z | z <;> simp [z])⟩
  · obtain ⟨p, xs, rfl, e, h⟩ := dqt hx
    obtain rfl := all3 h
    exact ⟨k, p, _, rfl, e, ne_if (by rcases hk with ⟨z, _⟩ | ⟨z | z, _⟩ <;> simp [z])⟩
theorem ln' {a b : Str} {n m : Nat} (ta : Tok a n) (tb : Tok b m) (h : n + m ≤ 1000000) : a.length + b.length ≤ sizeLine := ln ta tb h
theorem if_text {n : Nat} {t a b : PyData} : stText (n + 1) (.tuple [.str "if", t, a, b]) = ("if " ++ testText t ++ " { " ++ treeTextOf (stText n) a ++ " }") ++ (if noRows b = true then ("" : Str) else " else { " ++ treeTextOf (stText n) b ++ " }") := by conv => { lhs; unfold stText }; exact if_pos rfl
theorem while_text {n : Nat} {t a : PyData} : stText (n + 1) (.tuple [.str "while", t, a]) = "while " ++ testText t ++ " { " ++ treeTextOf (stText n) a ++ " }" := by conv => { lhs; unfold stText }; exact if_pos rfl
theorem if_cnt {n : Nat} {t a b : PyData} : cntSt (n + 1) (.tuple [.str "if", t, a, b]) = 1 + (cntOf (cntSt n) a + cntOf (cntSt n) b) := by unfold cntSt; exact if_pos rfl
theorem while_cnt {n : Nat} {t a : PyData} : cntSt (n + 1) (.tuple [.str "while", t, a]) = 1 + cntOf (cntSt n) a := by unfold cntSt; exact if_pos rfl
end
end K38

set_option Elab.async false
set_option linter.all false
set_option maxRecDepth 100000
set_option maxHeartbeats 4000000
namespace K38
open PySem PySem.Spec PyProof.Rows L2 Rd Dt Dq Pk
local macro_rules | `(tactic| walk_at "rd") => `(tactic| try simp only [tVar_, tC_, tM1,  tOp_, tUn_, rI_, rI0_, rU_, eq_ii, ne_ii, eq_ss, ne_ss, eq_bb, ne_bb, tAndV_, tOrV_, tNotV_, tIf_, tTest_, tB_, tAnd_, tOr_, tNot_, tChain_, tNil_, tCons_, tTup_, tLst_, tCB_, tCall_, tSeq_, tNext_, tRet_, tRetN_, tDrop_, tBreak_, tNever_, tIfS_, tAsg_, gName_, gTup_, gCons_, gNil_, gSub_, tPar_, tPar3_, tSl_, tNoPart_, tPart_, tBM_, tFor_range1, tFor_range2, tFor_list, tFor_tup,
  L2.start, List.map_cons, List.map_nil, List.length_cons, List.length_nil, List.replicate, List.append_nil, List.nil_append, List.cons_append, List.getElem?_cons_zero, List.getElem?_cons_succ, List.set_cons_zero, List.set_cons_succ, Option.some.injEq, V.int.injEq, V.bl.injEq, V.str.injEq, V.ref.injEq, exists_eq_left, exists_eq_left', exists_eq_right, exists_eq, exists_and_left, and_true, true_and, decide_eq_true_eq, Nat.reduceAdd, Nat.reduceSub, Nat.add_zero, Nat.zero_add, List.cons.injEq, Bool.not_eq_true', decide_eq_false_iff_not, eq_self, reduceCtorEq, Bool.false_eq_true, if_true, if_false, ite_true, ite_false, and_self, tLc_range1, tLc_range2, tLc_list, tLc_tup, tYes_, wipe0, wipe1, tCallS_, rIxL_, rIxT_, rSlL_, rCat_, rSetL_, rRep_, rGcd_, tCallK_, gUnl_, tRaise_, decide_true, decide_false, not_true_eq_false, not_false_eq_true, false_and, or_false, false_or, and_false, and_assoc, exists_const, forall_const, forall_eq'])

section
variable {P : Program} {w : World} {K : PySem.W.Frag} {mg : Str → Option Value} {base : Heap}
def saP (H0 : Hp) (a0 p : Addr) (n : Nat) (ds : List PyData) (j : Nat) : L2.St → Hp → Prop := fun σ H => Same H0 H ∧ H p = some (.lst (((ds.take j).map (stText n)).map V.str)) ∧ ∃ (y z : Option V), σ = [some (.ref a0), some (.ref p), y, z]
theorem sc_said : FnScope ["_law_twigs_here", "_law_found", "_law_twig", "_law_tail_here"] ["_law_twigs_here"] (defScope (top 44)) := ⟨rfl, rfl, rfl, by decide +kernel, rfl, by decide +kernel, by decide +kernel⟩
theorem shaped_strs {l : List Str} (h : ∀ s ∈ l, PyData.strOk s = true) : SeqAt.shaped (.list (l.map .str)) = true := by
  have h1 : ∀ l : List Str, (∀ s ∈ l, PyData.strOk s = true) → PyData.canLayAll0 (l.map .str) = true ∧ PyData.depthAll (l.map PyData.str) = 0 := fun l => by
    induction l with
    | nil => intro _; exact ⟨rfl, rfl⟩
    | cons x l ih =>
      intro h
      obtain ⟨i1, i2⟩ := ih fun s hs => h s (List.mem_cons_of_mem _ hs)
      refine ⟨?_, ?_⟩
      · rw [List.map_cons, PyData.canLayAll0, PyData.canLay0, h x List.mem_cons_self, i1]; rfl
      · rw [List.map_cons, PyData.depthAll, PyData.depth, i2]; rfl
  obtain ⟨i1, i2⟩ := h1 l h
  show (PyData.canLay0 _ && decide (PyData.depth _ ≤ 64)) = true
  rw [PyData.canLay0, PyData.depth, i1, i2]; rfl
theorem dp_strs {H : Hp} : ∀ l : List Str, DpAll K H (l.map V.str) (l.map PyData.str)
  | [] => .nil
  | x :: l => .cons (.str x) (dp_strs l)
theorem eqv_nil (l : List PyData) : PyData.eqv (.list l) (.list []) = l.isEmpty := by
  cases l <;> rfl
/-- an if's branches held back -/
theorem iq {tt : TT} {t u : TS} {D : Ends} {σ : L2.St} {H : Hp} (h : ∀ T U : Hp → Prop, (∀ H', t D σ H' → T H') → (∀ H', u D σ H' → U H') → tt σ H (fun b H1 => if b = true then T H1 else U H1)) : tIfS tt t u D σ H := h (t D σ) (u D σ) (fun _ x => x) (fun _ x => x)
theorem ok_said {f : Addr} {fd : FuncData} (T : Tx mg) (n : Nat) (hn : n ≤ 4) (F : FD K "_law_said" (top 44) f fd) {f1 f2 : Addr} {fd1 fd2 : FuncData} (C1 : Cal P w K mg base CX0 1 "_law_act_said" ["_law_act"] (spText isDeed deedText K) f1 fd1) (C2 : Cal P w K mg base CX0 1 "_law_quiz_said" ["_law_quiz_here"] (spText isTest testText K) f2 fd2)
    (C3 : Cal P w K mg base CX0 (1 + n) "_law_said" ["_law_twigs_here"] (spTTP K n) f fd) : FnOk P w K mg base CX0 (1 + n + 1) f fd ["_law_twigs_here"] (spTTx K n) := by
  obtain ⟨g_law_act_said, k_law_act_said, b_law_act_said, F_law_act_said⟩ := C1
  obtain ⟨g_law_quiz_said, k_law_quiz_said, b_law_quiz_said, F_law_quiz_said⟩ := C2
  obtain ⟨g_law_said, k_law_said, b_law_said, F_law_said⟩ := C3
  refine F.ok sc_said (fun vs H Q E h => ?_) (fun cdv A outer s H vs Q E hr h => ?_)
  · obtain ⟨_, _, rfl, _⟩ := h
    rfl
  · obtain ⟨x, d, rfl, hx, ht, hcn, k⟩ := h
    have nd := sc_said.nd
    refine ⟨_, (pss_cons (ps_set (i := 1) nd rfl (Or.inl rfl) (pe_lst pa_nil))
        (pss_cons (ps_for (passes_of rfl) rfl (pi_tup (pv 0)) (pg_name (i := 2) nd rfl (Or.inl rfl)) (pss_one (ps_if (pt_cmpR op_eq (pe_ix (r := rIxT K) ix_tup (pv 2) pe_int (fun _ _ => rfl)) pe_str (nomark _)) (pss_cons (ps_set (i := 3) nd rfl (Or.inl rfl) (pe_ifExp (pt_cmpR (Dq.op_neE hr.units) (pe_ix (r := rIxT K) ix_tup (pv 2) pe_int (fun _ _ => rfl)) (pe_tup pa_nil) (nomark _)) (pe_op op_add_str (pe_op op_add_str pe_str (pe_call F_law_said (hr.mono (by omega)) rfl g_law_said k_law_said b_law_said .nil pass0 (pa_cons (pe_ix (r := rIxT K) ix_tup (pv 2) pe_int (fun _ _ => rfl)) pa_nil))) pe_str) pe_str))
        (pss_one (ps_expr (pe_bm PySem.F.plainAttrs_list PySem.F.slot_list_append PySem.F.type_list_append mt_append (pv 1) (pa_cons (pe_op op_add_str (pe_op op_add_str (pe_op op_add_str (pe_op op_add_str (pe_op op_add_str pe_str (pe_call F_law_quiz_said (hr.mono (by omega)) rfl g_law_quiz_said k_law_quiz_said b_law_quiz_said .nil pass0 (pa_cons (pe_ix (r := rIxT K) ix_tup (pv 2) pe_int (fun _ _ => rfl)) pa_nil))) pe_str) (pe_call F_law_said (hr.mono (by omega)) rfl g_law_said k_law_said b_law_said .nil pass0 (pa_cons (pe_ix (r := rIxT K) ix_tup (pv 2) pe_int (fun _ _ => rfl)) pa_nil))) pe_str) (pv 3)) pa_nil))))) (pss_one (ps_if (pt_cmpR op_eq (pe_ix (r := rIxT K) ix_tup (pv 2) pe_int (fun _ _ => rfl)) pe_str (nomark _)) (pss_one (ps_expr (pe_bm PySem.F.plainAttrs_list PySem.F.slot_list_append PySem.F.type_list_append mt_append (pv 1) (pa_cons (pe_op op_add_str (pe_op op_add_str (pe_op op_add_str (pe_op op_add_str pe_str (pe_call F_law_quiz_said (hr.mono (by omega)) rfl g_law_quiz_said k_law_quiz_said b_law_quiz_said .nil pass0 (pa_cons (pe_ix (r := rIxT K) ix_tup (pv 2) pe_int (fun _ _ => rfl)) pa_nil))) pe_str) (pe_call F_law_said (hr.mono (by omega)) rfl g_law_said k_law_said b_law_said .nil pass0 (pa_cons (pe_ix (r := rIxT K) ix_tup (pv 2) pe_int (fun _ _ => rfl)) pa_nil))) pe_str) pa_nil)))) (pss_one (ps_expr (pe_bm PySem.F.plainAttrs_list PySem.F.slot_list_append PySem.F.type_list_append mt_append (pv 1) (pa_cons (pe_call F_law_act_said (hr.mono (by omega)) rfl g_law_act_said k_law_act_said b_law_act_said .nil pass0 (pa_cons (pv 2) pa_nil)) pa_nil)))))))))
        (pss_one (ps_ret (pe_ifExp (pt_cmpR (op_neD hr.units) (pv 1) (pe_lst pa_nil) (nomark _)) (pe_join pe_str (pv 1)) pe_str))))), ?_⟩
    cases hx with
    | tup e ha =>
      rename_i a0 xs ds
      have hl := ha.len
      have hds : ∀ c ∈ ds, isSt n c = true := List.all_eq_true.mp ht
      refine sq fun U hU => ?_
      walk_at "rd"
      refine ⟨by decide, fun p hp => hU _ _ ?_⟩
      clear hU
      refine sq fun U hU => ?_
      walk_at "rd"
      have s0 : Same H (upd H p (.lst [])) := same_new hp
      refine ⟨⟨_, SqT.of (s0 _ _ e)⟩, for_t (xs := xs) (saP H a0 p n ds) ⟨s0, upd_same, _, _, rfl⟩ (fun i σ H' _ hP => SqT.of (hP.1 _ _ e)) ?_ ?_⟩
      · rintro j y σ H' hy ⟨hs, hL, z1, z2, rfl⟩
        obtain ⟨c, hc1, hc2⟩ := ha.atV hy
        have hm := List.mem_of_getElem? hc1
        have hcs := hds c hm
        have hcc : cntSt n c ≤ 1000 := Nat.le_trans (mem_sum_le (cntSt n) ds c hm) hcn
        replace hc2 := hc2.up hs
        have fin : ∀ (H2 : Hp) (y2 : Option V) (t : Str), Same H' H2 → t = stText n c → ((((ds.take j).map (stText n)).map V.str).length < sizeLine ∧ saP H a0 p n ds (j + 1) [some (.ref a0), some (.ref p), some y, y2] (upd H2 p (.lst ((((ds.take j).map (stText n)).map V.str) ++ [.str t])))) := fun H2 y2 t s2 ht => by
          subst ht
          refine ⟨?_, fun b o e' => ?_, ?_, _, _, rfl⟩
          · rw [List.length_map, List.length_map]
            have h1 : (List.take j ds).length ≤ ds.length := List.length_take_le' _ _
            have h2 := len_le_cnt n ds
            have h3 : (ds.map (cntSt n)).sum ≤ 1000 := hcn
            rw [sizeLine_eq]
            omega
          · rw [upd_ne (ne_of_none e' hp)]; exact s2 _ _ (hs b o e')
          · rw [upd_same, List.take_succ, hc1, List.map_append, List.map_append]; rfl
        by_cases dd : isDeed c = true
        · obtain ⟨kk, b, zs, rfl, eb, n1, n2⟩ := deedV hc2 dd
          walk_at "rd"
          refine ⟨_, SqT.of eb, _, atI_nn (by decide) rfl, ?_⟩
          walk_at "rd"
          rw [if_neg n1]
          refine ⟨_, SqT.of eb, _, atI_nn (by decide) rfl, ?_⟩
          walk_at "rd"
          rw [if_neg n2]
          refine ⟨.inl ⟨rfl, _, SqL.of hL⟩, .ref b, c, rfl, hc2, dd, fun H2 s2 => ?_⟩
          obtain ⟨f1, f2⟩ := fin H2 z2 _ s2 (deed_plain dd n).2.symm
          exact ⟨p, _, _, rfl, rfl, s2 _ _ hL, f1, f2⟩
        cases n with
        | zero => exact absurd hcs dd
        | succ n =>
        have lop : Tok " { " 3 := ⟨by decide, by decide +kernel⟩
        have lcl : Tok " }" 2 := ⟨by decide, by decide +kernel⟩
        have lel : Tok " else { " 8 := ⟨by decide, by decide +kernel⟩
        rcases st_cases hcs with z | ⟨t, a, b, rfl, htt, hta, htb⟩ | ⟨t, a, rfl, htt, hta⟩
        · exact absurd z dd
        · rw [if_cnt] at hcc
          rw [if_text] at fin
          obtain ⟨p0, zs, rfl, eb, h⟩ := dqt hc2
          cases h with
          | cons h1 h =>
          cases h with
          | cons h2 h =>
          cases h with
          | cons h3 h =>
          cases h with
          | cons h4 h =>
          cases h
          obtain rfl := dq1 h1
          rename_i v1 v2 v3
          have li : Tok "if " 3 := ⟨by decide, by decide +kernel⟩
          have ta := treeTok (by omega) hta (show cntOf (cntSt n) a ≤ 1000 by omega)
          have tb := treeTok (by omega) htb (show cntOf (cntSt n) b ≤ 1000 by omega)
          have tt := test_tok htt
          have l2 := li.app tt
          have l3 := l2.app lop
          have l4 := l3.app ta
          have l5 := l4.app lcl
          obtain ⟨db, rfl⟩ : ∃ db, b = .tuple db := by
            cases b with
            | tuple db => exact ⟨db, rfl⟩
            | _ => cases htb
          obtain ⟨pb, ys, rfl, eb2, hb⟩ := dqt h4
          have hbl := hb.len
          simp only [gName_, List.set_cons_succ, List.set_cons_zero]
          refine iq fun T1 U1 hT1 _ => ?_
          walk_at "rd"
          refine ⟨_, SqT.of eb, _, atI_nn (by decide) rfl, ?_⟩
          walk_at "rd"
          refine hT1 _ ?_
          clear hT1
          refine sq fun U2 hU2 => ?_
          -- behind the tail
          suffices go : ∀ (H3 : Hp) (tl : Str) (m : Nat), Same H' H3 → Tok tl m → m ≤ 80000 → tl = (if noRows (.tuple db) = true then ("" : Str) else " else { " ++ treeTextOf (stText n) (.tuple db) ++ " }") → U2 [some (.ref a0), some (.ref p), some (.ref p0), some (.str tl)] H3 by
            walk_at "rd"
            refine ⟨_, SqT.of eb, _, atI_nn (by decide) rfl, by decide, fun q hq => ?_⟩
            have s4 : Same H' (upd H' q (.tup [])) := same_new hq
            have e4 : (upd H' q (HO.tup [])) q = some (.tup []) := upd_same
            generalize (upd H' q (HO.tup [])) = H4 at s4 e4 ⊢
            refine ⟨pb, q, ys, rfl, rfl, SqT.of (s4 _ _ eb2), SqT.of e4, _, rfl, ?_⟩
            by_cases ny : ys = []
            · rw [decide_eq_true ny, if_neg (by decide)]
              have nb : noRows (.tuple db) = true := by
                have : db = [] := by subst ny; exact List.eq_nil_of_length_eq_zero hbl.symm
                rw [this]; rfl
              exact go _ _ 0 s4 ⟨by decide, by decide +kernel⟩ (by decide) (by rw [nb, if_pos rfl])
            · rw [decide_eq_false ny, if_pos (by decide)]
              have nb : noRows (.tuple db) = false := by
                cases db with
                | nil => exact absurd (List.eq_nil_of_length_eq_zero hbl) ny
                | cons _ _ => rfl
              refine ⟨_, SqT.of (s4 _ _ eb), _, atI_nn (by decide) rfl, _, _, rfl, h4.up s4, htb, by omega, fun H5 s5 => ⟨_, rfl, ln lel tb (by decide), ln (lel.app tb) lcl (by decide), ?_⟩⟩
              exact go _ _ (8 + 74004 + 2) (s4.trans s5) ((lel.app tb).app lcl) (by decide) (by rw [nb, if_neg (by decide)])
          intro H3 tl m s3 ttl hm htl
          refine hU2 _ _ ?_
          clear hU2
          walk_at "rd"
          refine ⟨.inl ⟨rfl, _, SqL.of (s3 _ _ hL)⟩, _, SqT.of (s3 _ _ eb), _, atI_nn (by decide) rfl, _, t, rfl, h2.up s3, htt, fun H4 s4 => ⟨_, rfl, ln li tt (by decide), ln l2 lop (by decide), _, SqT.of (s4 _ _ (s3 _ _ eb)), _, atI_nn (by decide) rfl, _, a, rfl, (h3.up s3).up s4, hta, by omega, fun H5 s5 => ⟨_, rfl, ln l3 ta (by decide), ln l4 lcl (by decide), ln l5 ttl (by omega), ?_⟩⟩⟩
          have s9 := s3.trans (s4.trans s5)
          rw [← htl] at fin
          obtain ⟨f1, f2⟩ := fin H5 (some (.str tl)) _ s9 rfl
          exact ⟨p, _, _, rfl, rfl, s9 _ _ hL, f1, f2⟩
        · rw [while_cnt] at hcc
          rw [while_text] at fin
          obtain ⟨p0, zs, rfl, eb, h⟩ := dqt hc2
          cases h with
          | cons h1 h =>
          cases h with
          | cons h2 h =>
          cases h with
          | cons h3 h =>
          cases h
          obtain rfl := dq1 h1
          rename_i v1 v2
          have li : Tok "while " 6 := ⟨by decide, by decide +kernel⟩
          have ta := treeTok (by omega) hta (show cntOf (cntSt n) a ≤ 1000 by omega)
          have tt := test_tok htt
          have l2 := li.app tt
          have l3 := l2.app lop
          have l4 := l3.app ta
          simp only [gName_, List.set_cons_succ, List.set_cons_zero]
          refine iq fun T1 U1 _ hU1 => ?_
          walk_at "rd"
          refine ⟨_, SqT.of eb, _, atI_nn (by decide) rfl, ?_⟩
          walk_at "rd"
          rw [if_neg (by decide)]
          refine hU1 _ ?_
          clear hU1
          walk_at "rd"
          refine ⟨_, SqT.of eb, _, atI_nn (by decide) rfl, ?_⟩
          walk_at "rd"
          refine ⟨.inl ⟨rfl, _, SqL.of hL⟩, _, SqT.of eb, _, atI_nn (by decide) rfl, _, t, rfl, h2, htt, fun H4 s4 => ⟨_, rfl, ln li tt (by decide), ln l2 lop (by decide), _, SqT.of (s4 _ _ eb), _, atI_nn (by decide) rfl, _, a, rfl, h3.up s4, hta, by omega, fun H5 s5 => ⟨_, rfl, ln l3 ta (by decide), ln l4 lcl (by decide), ?_⟩⟩⟩
          have s9 := s4.trans s5
          obtain ⟨f1, f2⟩ := fin H5 z2 _ s9 rfl
          exact ⟨p, _, _, rfl, rfl, s9 _ _ hL, f1, f2⟩
      · rintro σ H' ⟨hs, hL, z1, z2, rfl⟩
        rw [hl, List.take_length] at hL
        refine hU _ _ ?_
        walk_at "rd"
        have sL : ∀ s ∈ ds.map (stText n), PyData.strOk s = true := fun s hs => by
          obtain ⟨c, hc, rfl⟩ := List.mem_map.mp hs
          exact (st_tok n c (hds c hc)).ok
        refine ⟨by decide, fun q hq => ?_⟩
        have s1 : Same H' (upd H' q (.lst [])) := same_new hq
        have e1 : (upd H' q (HO.lst [])) q = some (.lst []) := upd_same
        generalize (upd H' q (HO.lst [])) = H1 at s1 e1 ⊢
        have hL1 := s1 _ _ hL
        refine ⟨.list ((ds.map (stText n)).map .str), .list [], .lst (SqL.of hL1) (dp_strs _), .lst (SqL.of e1) .nil, shaped_strs sL, by decide +kernel, _, rfl, ?_⟩
        rw [eqv_nil]
        have kf := k _ (hs.trans s1)
        by_cases nds : ds = []
        · subst nds
          exact kf
        · have ne : (!((ds.map (stText n)).map PyData.str).isEmpty) = true := by
            cases ds with
            | nil => exact absurd rfl nds
            | cons _ _ => rfl
          rw [ne, if_pos rfl]
          refine ⟨⟨_, rfl⟩, ds.map (stText n), .inl (SqL.of hL1), join_room hn hds hcn, ?_⟩
          rw [show treeTextOf (stText n) (.tuple ds) = Txt.join "; " (ds.map (stText n)) by show (if ds = [] then _ else _) = _; rw [if_neg nds]] at kf
          exact kf
    | _ => cases ht
end
end K38

set_option Elab.async false
set_option linter.all false
set_option maxRecDepth 100000
set_option maxHeartbeats 4000000
namespace K38
open PySem PySem.Spec PyProof.Rows L2 Rd Dt Dq Pk TL
section
variable {σ : L2.St} {H : Hp} {Q : VK} {D : Ends} {ta tv : TE} {K : PySem.W.Frag} {f : Str}
def FA (K : PySem.W.Frag) (H : Hp) (a : Addr) (f : Str) (v : V) : Prop := ∃ C dx fs, H a = some (.ins C dx fs) ∧ Cls K C ∧ NoAttr K C f ∧ fs.lookup f = some v
def SA (K : PySem.W.Frag) (H : Hp) (a : Addr) (f : Str) (C dx : Addr) (fs : List (Str × V)) : Prop := H a = some (.ins C dx fs) ∧ Cls K C ∧ NoAttr K C f ∧ fs.length < 1000
theorem tFld_ : tFld K ta f σ H Q = ta σ H fun x H1 => ∃ a v, x = .ref a ∧ FA K H1 a f v ∧ Q v H1 := by
  unfold tFld
  congr 1
  funext x H1
  refine propext ⟨?_, ?_⟩
  · rintro ⟨a, C, dx, fs, v, e, h1, h2, h3, h4, q⟩
    exact ⟨a, v, e, ⟨C, dx, fs, h1, h2, h3, h4⟩, q⟩
  · rintro ⟨a, v, e, ⟨C, dx, fs, h1, h2, h3, h4⟩, q⟩
    exact ⟨a, C, dx, fs, v, e, h1, h2, h3, h4, q⟩
theorem sFld_ : sFld K ta tv f D σ H = tv σ H fun y H1 => ta σ H1 fun x H2 => ∃ a C dx fs, x = .ref a ∧ SA K H2 a f C dx fs ∧ D.nx σ (upd H2 a (.ins C dx (putF f y fs))) := by
  unfold sFld
  congr 1
  funext y H1
  congr 1
  funext x H2
  refine propext ⟨?_, ?_⟩
  · rintro ⟨a, C, dx, fs, e, h1, h2, h3, h4, q⟩
    exact ⟨a, C, dx, fs, e, ⟨h1, h2, h3, h4⟩, q⟩
  · rintro ⟨a, C, dx, fs, e, ⟨h1, h2, h3, h4⟩, q⟩
    exact ⟨a, C, dx, fs, e, h1, h2, h3, h4, q⟩
end
local macro_rules | `(tactic| walk_at "rd") => `(tactic| try simp only [↓tFld_, ↓sFld_, ↓tVar_, ↓tC_, ↓tM1, ↓tDNewK_, ↓tOp_, ↓tUn_, ↓rI_, ↓rI0_, ↓rU_, ↓eq_ii, ↓ne_ii, ↓eq_ss, ↓ne_ss, ↓eq_bb, ↓ne_bb, ↓tAndV_, ↓tOrV_, ↓tNotV_, ↓tIf_, ↓tTest_, ↓tB_, ↓tAnd_, ↓tOr_, ↓tNot_, ↓tChain_, ↓tNil_, ↓tCons_, ↓tTup_, ↓tLst_, ↓tCB_, ↓tCall_, ↓tSeq_, ↓tNext_, ↓tRet_, ↓tRetN_, ↓tDrop_, ↓tBreak_, ↓tNever_, ↓tIfS_, ↓tAsg_, ↓gName_, ↓gTup_, ↓gCons_, ↓gNil_, ↓gSub_, ↓tPar_, ↓tPar3_, ↓tSl_, ↓tNoPart_, ↓tPart_, ↓tBM_, ↓tFor_range1, ↓tFor_range2, ↓tFor_list, ↓tFor_tup, L2.start, List.headD_cons, List.headD_nil, List.tail_cons, List.map_cons, List.map_nil, List.length_cons, List.length_nil, List.replicate, List.append_nil, List.nil_append, List.cons_append, List.getElem?_cons_zero, List.getElem?_cons_succ, List.set_cons_zero, List.set_cons_succ, Option.some.injEq, V.int.injEq, V.bl.injEq, V.str.injEq, V.ref.injEq, exists_eq_left, exists_eq_left', exists_eq_right, exists_eq, exists_and_left, and_true, true_and, decide_eq_true_eq, Nat.reduceAdd, Nat.reduceSub, Nat.add_zero, Nat.zero_add, List.cons.injEq, Bool.not_eq_true', decide_eq_false_iff_not, eq_self, reduceCtorEq, Bool.false_eq_true, if_true, if_false, ite_true, ite_false, and_self, ↓tLc_range1, ↓tLc_range2, ↓tLc_list, ↓tLc_tup, ↓tYes_, wipe0, wipe1, ↓tCallS_, ↓rIxL_, ↓rIxT_, ↓rSlL_, ↓rCat_, ↓rSetL_, ↓rRep_, ↓rGcd_, ↓tCallK_, ↓gUnl_, ↓tRaise_, decide_true, decide_false, not_true_eq_false, not_false_eq_true, false_and, or_false, false_or, and_false, and_assoc, exists_const, forall_const, forall_eq'])
section
variable {P : Program} {w : World} {K : PySem.W.Frag} {mg : Str → Option Value} {base : Heap}
/-! ### Words -/
theorem wa_ : ¬ (("words" : Str) = "at") := by decide +kernel
def wf (l : Addr) (i : Int) : List (Str × V) := putF "at" (.int i) (putF "words" (.ref l) [])
theorem wf_eq (l : Addr) (i : Int) : wf l i = ([("words", V.ref l), ("at", V.int i)] : List (Str × V)) := by
  show (if ("words" : Str) = "at" then [(("words" : Str), V.int i)] else (("words" : Str), V.ref l) :: putF "at" (V.int i) []) = _
  rw [if_neg wa_]
  all_goals rfl
theorem wf_words (l : Addr) (i : Int) : (wf l i).lookup ("words" : Str) = some (.ref l) := by
  unfold wf
  rw [lookup_putF, if_neg wa_, lookup_putF, if_pos rfl]
theorem wf_at (l : Addr) (i : Int) : (wf l i).lookup ("at" : Str) = some (.int i) := by
  unfold wf
  rw [lookup_putF, if_pos rfl]
theorem wf_no (l : Addr) (i : Int) {m : Str} (h1 : ¬ m = "at") (h2 : ¬ m = "words") : (wf l i).lookup m = none := by
  unfold wf
  rw [lookup_putF, if_neg h1, lookup_putF, if_neg h2]
  all_goals rfl
theorem wf_put (l : Addr) (i j : Int) : putF "at" (.int j) (wf l i) = wf l j := by
  rw [wf_eq, wf_eq]
  show (if ("words" : Str) = "at" then _ else (("words" : Str), V.ref l) :: (if ("at" : Str) = "at" then [(("at" : Str), V.int j)] else _)) = _
  rw [if_neg wa_, if_pos rfl]
/-- an instance of Words whose words left are these -/
def WdR (C : Addr) (H : Hp) (r l : Addr) (rest : List Str) : Prop := ∃ (ts : List Str) (i : Nat) (dx : Addr), H r = some (.ins C dx (wf l i)) ∧ H l = some (.lst (ts.map V.str)) ∧ ts.drop i = rest
theorem WdR.ne {C : Addr} {H : Hp} {r l p : Addr} {rest : List Str} (h : WdR C H r l rest) (n : H p = none) : p ≠ r := fun z => by
  obtain ⟨ts, i, dx, e, _⟩ := h
  rw [z, e] at n
  cases n
theorem WdR.up {C : Addr} {H H' : Hp} {r l : Addr} {rest : List Str} (h : WdR C H r l rest) (s : Same H H') : WdR C H' r l rest := by
  obtain ⟨ts, i, dx, e, e2, e3⟩ := h
  exact ⟨ts, i, dx, s _ _ e, s _ _ e2, e3⟩
theorem WdR.nel {C : Addr} {H : Hp} {r l p : Addr} {rest : List Str} (h : WdR C H r l rest) (n : H p = none) : p ≠ l := fun z => by
  obtain ⟨ts, i, dx, _, e, _⟩ := h
  rw [z, e] at n
  cases n
theorem WdR.put {C : Addr} {H : Hp} {r l p : Addr} {o : HO} {rest : List Str} (h : WdR C H r l rest) (h1 : p ≠ r) (h2 : p ≠ l) : WdR C (upd H p o) r l rest := by
  obtain ⟨ts, i, dx, e, e2, e3⟩ := h
  exact ⟨ts, i, dx, (upd_ne (Ne.symm h1)).trans e, (upd_ne (Ne.symm h2)).trans e2, e3⟩
def spInitW (C : Addr) : Sp := fun vs H Q _ => ∃ (p l dx : Addr), vs = [.ref p, .ref l] ∧ H p = some (.ins C dx []) ∧ ∀ H', But p H H' → H' p = some (.ins C dx (wf l 0)) → Q .non H'
def spPeek (C : Addr) : Sp := fun vs H Q _ => ∃ (r l : Addr) (rest : List Str), vs = [.ref r] ∧ WdR C H r l rest ∧ Q (.str (rest.headD "")) H
def spTakeW (C : Addr) : Sp := fun vs H Q _ => ∃ (r l : Addr) (rest : List Str), vs = [.ref r] ∧ WdR C H r l rest ∧ ∀ H', But r H H' → WdR C H' r l rest.tail → Q (.str (rest.headD "")) H'
def spOver (C : Addr) : Sp := fun vs H Q _ => ∃ (r l : Addr) (rest : List Str), vs = [.ref r] ∧ WdR C H r l rest ∧ Q (.bl rest.isEmpty) H
structure WdT (P : Program) (w : World) (K : PySem.W.Frag) (mg : Str → Option Value) (base : Heap) (C fI fP fT fO : Addr) (fdI fdP fdT fdO : FuncData) : Prop where
  cl : Cls K C
  nW : NoAttr K C "words"
  nA : NoAttr K C "at"
  mgC : mg "Words" = some (.ref C)
  mak : Mk K C fI
  m_peek : Meth K C "peek" fP
  m_take : Meth K C "take" fT
  m_is_over : Meth K C "is_over" fO
  b_init : Binds K fdI ["self", "words"] []
  b_peek : Binds K fdP ["self"] []
  b_take : Binds K fdT ["self"] []
  b_is_over : Binds K fdO ["self"] []
  F_init : FnOk P w K mg base CX0 1 fI fdI ["self", "words"] (spInitW C)
  F_peek : FnOk P w K mg base CX0 1 fP fdP ["self"] (spPeek C)
  F_take : FnOk P w K mg base CX0 2 fT fdT ["self"] (spTakeW C)
  F_is_over : FnOk P w K mg base CX0 1 fO fdO ["self"] (spOver C)
/-- what the methods lean on -/
structure WdB (K : PySem.W.Frag) (C : Addr) : Prop where
  cl : Cls K C
  nW : NoAttr K C "words"
  nA : NoAttr K C "at"
abbrev FM (K : PySem.W.Frag) (x q : Str) (st : Stmt) (f : Addr) (fd : FuncData) : Prop := FunD K x q (defArgs st) (defBody st) (defScope st) [] [] f fd
theorem sc_init : FnScope ["self", "words"] ["self", "words"] (defScope (inClass (top 11) 0)) := ⟨rfl, rfl, rfl, by decide +kernel, rfl, by decide +kernel, by decide +kernel⟩
theorem ok_init {f C : Addr} {fd : FuncData} {q : Str} (W : WdB K C) (F : FM K "__init__" q (inClass (top 11) 0) f fd) : FnOk P w K mg base CX0 1 f fd ["self", "words"] (spInitW C) := by
  refine F.ok sc_init (fun vs H Q E h => ?_) (fun cdv A outer s H vs Q E hr h => ?_)
  · obtain ⟨_, _, _, rfl, _⟩ := h
    rfl
  · obtain ⟨p, l, dx, rfl, hp, k⟩ := h
    refine ⟨_, (pss_cons (ps_fld (pv 0) (pv 1) rfl)
        (pss_one (ps_fld (pv 0) pe_int rfl))), ?_⟩
    refine sq fun U hU => ?_
    walk_at "rd"
    refine ⟨_, _, _, ⟨hp, W.cl, W.nW, (by decide : 0 < 1000)⟩, hU _ _ ?_⟩
    walk_at "rd"
    refine ⟨_, _, _, ⟨upd_same, W.cl, W.nA, (by show 1 < 1000; decide)⟩, ?_⟩
    refine k _ (fun b o n e => ?_) upd_same
    rw [upd_ne n, upd_ne n]
    exact e
theorem sc_peek : FnScope ["self"] ["self"] (defScope (inClass (top 11) 1)) := ⟨rfl, rfl, rfl, by decide +kernel, rfl, by decide +kernel, by decide +kernel⟩
theorem head_at {ts rest : List Str} {i : Nat} (h : ts.drop i = rest) : rest.headD "" = (ts[i]?).getD "" := by
  rw [← h, List.headD_eq_head?_getD, List.head?_drop]
theorem ok_peek {f C : Addr} {fd : FuncData} {q : Str} (T : Tx mg) (W : WdB K C) (F : FM K "peek" q (inClass (top 11) 1) f fd) : FnOk P w K mg base CX0 1 f fd ["self"] (spPeek C) := by
  refine F.ok sc_peek (fun vs H Q E h => ?_) (fun cdv A outer s H vs Q E hr h => ?_)
  · obtain ⟨_, _, _, rfl, _⟩ := h
    rfl
  · obtain ⟨r, l, rest, rfl, ⟨ts, i, dx, e1, e2, e3⟩, k⟩ := h
    rw [head_at e3] at k
    refine ⟨_, (pss_one (ps_ret (pe_ifExp (pt_cmpR op_lt (pe_fld (pv 0) rfl) (pe_callB call_len_seq (by rfl) T.b_len PySem.boot_len (pa_cons (pe_fld (pv 0) rfl) pa_nil)) (nomark _)) (pe_ix (r := rIxL K) ix_list (pe_fld (pv 0) rfl) (pe_fld (pv 0) rfl) (fun _ _ => rfl)) pe_str))), ?_⟩
    walk_at "rd"
    have fa : FA K H r "at" (.int i) := ⟨_, _, _, e1, W.cl, W.nA, wf_at _ _⟩
    have fw : FA K H r "words" (.ref l) := ⟨_, _, _, e1, W.cl, W.nW, wf_words _ _⟩
    refine ⟨_, fa, _, fw, _, rfl, _, .inl (SqL.of e2), _, rfl, ?_⟩
    rw [List.length_map]
    by_cases c : i < ts.length
    · rw [if_pos (by omega)]
      have ei : ts[i]? = some (ts[i]'c) := List.getElem?_eq_getElem c
      rw [ei] at k
      exact ⟨_, fw, _, fa, _, rfl, _, _, rfl, SqL.of e2, _, atI_nn (by omega) (by rw [List.getElem?_map]; show Option.map V.str (ts[i]?) = _; rw [ei]; rfl), k⟩
    · rw [if_neg (by omega)]
      have ei : ts[i]? = none := List.getElem?_eq_none (by omega)
      rw [ei] at k
      exact k
theorem sc_over : FnScope ["self"] ["self"] (defScope (inClass (top 11) 3)) := ⟨rfl, rfl, rfl, by decide +kernel, rfl, by decide +kernel, by decide +kernel⟩
theorem ok_over {f C : Addr} {fd : FuncData} {q : Str} (T : Tx mg) (W : WdB K C) (F : FM K "is_over" q (inClass (top 11) 3) f fd) : FnOk P w K mg base CX0 1 f fd ["self"] (spOver C) := by
  refine F.ok sc_over (fun vs H Q E h => ?_) (fun cdv A outer s H vs Q E hr h => ?_)
  · obtain ⟨_, _, _, rfl, _⟩ := h
    rfl
  · obtain ⟨r, l, rest, rfl, ⟨ts, i, dx, e1, e2, e3⟩, k⟩ := h
    refine ⟨_, (pss_one (ps_ret (pe_cmpR op_ge (pe_fld (pv 0) rfl) (pe_callB call_len_seq (by rfl) T.b_len PySem.boot_len (pa_cons (pe_fld (pv 0) rfl) pa_nil)) (nomark _)))), ?_⟩
    walk_at "rd"
    have fa : FA K H r "at" (.int i) := ⟨_, _, _, e1, W.cl, W.nA, wf_at _ _⟩
    have fw : FA K H r "words" (.ref l) := ⟨_, _, _, e1, W.cl, W.nW, wf_words _ _⟩
    refine ⟨_, fa, _, fw, _, rfl, _, .inl (SqL.of e2), _, rfl, ?_⟩
    rw [List.length_map]
    have e : decide ((i : Int) ≥ (ts.length : Int)) = rest.isEmpty := by
      rw [← e3]
      by_cases c : ts.length ≤ i
      · rw [List.drop_eq_nil_of_le c, decide_eq_true (by omega)]; rfl
      · rw [decide_eq_false (by omega)]
        cases z : ts.drop i with
        | nil => exact absurd (List.drop_eq_nil_iff.mp z) c
        | cons _ _ => rfl
    rw [e]
    exact k
theorem sc_takeW : FnScope ["self", "word"] ["self"] (defScope (inClass (top 11) 2)) := ⟨rfl, rfl, rfl, by decide +kernel, rfl, by decide +kernel, by decide +kernel⟩
theorem tail_at {ts rest : List Str} {i : Nat} (h : ts.drop i = rest) : ts.drop (i + 1) = rest.tail := by rw [← h, List.tail_drop]
/-- peek, take as their callers see them -/
theorem peekR {C : Addr} {H : Hp} {r l : Addr} {rest : List Str} {σ : L2.St} {i : Nat} {Q : VK} {E : XK} (hσ : σ[i]? = some (some (.ref r))) (h : WdR C H r l rest) (q : Q (.str (rest.headD "")) H) : tMeth C "peek" (spPeek C) [] E (tVar i) tNil σ H Q := by
  obtain ⟨ts, j, dx, e1, e2, e3⟩ := id h
  exact ⟨_, hσ, r, dx, _, rfl, e1, wf_no _ _ (by decide +kernel) (by decide +kernel), r, l, rest, rfl, h, q⟩
theorem takeR {C : Addr} {H : Hp} {r l : Addr} {rest : List Str} {σ : L2.St} {i : Nat} {Q : VK} {E : XK} (hσ : σ[i]? = some (some (.ref r))) (h : WdR C H r l rest) (q : ∀ H', But r H H' → WdR C H' r l rest.tail → Q (.str (rest.headD "")) H') : tMeth C "take" (spTakeW C) [] E (tVar i) tNil σ H Q := by
  obtain ⟨ts, j, dx, e1, e2, e3⟩ := id h
  exact ⟨_, hσ, r, dx, _, rfl, e1, wf_no _ _ (by decide +kernel) (by decide +kernel), r, l, rest, rfl, h, q⟩
theorem overR {C : Addr} {H : Hp} {r l : Addr} {rest : List Str} {σ : L2.St} {i : Nat} {Q : VK} {E : XK} (hσ : σ[i]? = some (some (.ref r))) (h : WdR C H r l rest) (q : Q (.bl rest.isEmpty) H) : tMeth C "is_over" (spOver C) [] E (tVar i) tNil σ H Q := by
  obtain ⟨ts, j, dx, e1, e2, e3⟩ := id h
  exact ⟨_, hσ, r, dx, _, rfl, e1, wf_no _ _ (by decide +kernel) (by decide +kernel), r, l, rest, rfl, h, q⟩
structure WdP (P : Program) (w : World) (K : PySem.W.Frag) (mg : Str → Option Value) (base : Heap) (C fP : Addr) (fdP : FuncData) : Prop where
  cl : Cls K C
  m_peek : Meth K C "peek" fP
  b_peek : Binds K fdP ["self"] []
  F_peek : FnOk P w K mg base CX0 1 fP fdP ["self"] (spPeek C)
theorem ok_takeW {f C fP : Addr} {fd fdP : FuncData} {q : Str} (T : Tx mg) (B : WdB K C) (W : WdP P w K mg base C fP fdP) (F : FM K "take" q (inClass (top 11) 2) f fd) : FnOk P w K mg base CX0 2 f fd ["self"] (spTakeW C) := by
  refine F.ok sc_takeW (fun vs H Q E h => ?_) (fun cdv A outer s H vs Q E hr h => ?_)
  · obtain ⟨_, _, _, rfl, _⟩ := h
    rfl
  · obtain ⟨r, l, rest, rfl, hw, k⟩ := h
    have nd := sc_takeW.nd
    refine ⟨_, (pss_cons (ps_set (i := 1) nd rfl (Or.inl rfl) (pe_meth0 (pv 0) W.cl W.m_peek W.F_peek (hr.mono (by omega)) W.b_peek .nil pass0))
        (pss_cons (ps_fld (pv 0) (pe_op op_add (pe_fld (pv 0) rfl) pe_int) rfl)
        (pss_one (ps_ret (pv 1))))), ?_⟩
    refine sq fun U hU => ?_
    walk_at "rd"
    refine peekR rfl hw (hU _ _ ?_)
    clear hU
    obtain ⟨ts, i, dx, e1, e2, e3⟩ := hw
    refine sq fun U hU => ?_
    walk_at "rd"
    have fa : FA K H r "at" (.int i) := ⟨_, _, _, e1, B.cl, B.nA, wf_at _ _⟩
    refine ⟨_, fa, _, rfl, _, _, _, ⟨e1, B.cl, B.nA, (by rw [wf_eq]; show 2 < 1000; decide)⟩, hU _ _ ?_⟩
    clear hU
    walk_at "rd"
    have lr : l ≠ r := fun z => by rw [z, e1] at e2; cases e2
    refine k _ (fun b o n e => (upd_ne n).trans e) ⟨ts, i + 1, dx, ?_, (upd_ne lr).trans e2, tail_at e3⟩
    rw [wf_put]
    exact upd_same
/-! ### a text's words -/
def spSplit : Sp := fun vs H Q _ => ∃ (s : Str), vs = [.str s] ∧ s.length ≤ 10000 ∧ (∀ ts, pSplit s = some ts → ∀ p H', Same H H' → H' p = some (.lst (ts.map V.str)) → ts.length ≤ 30000 → Q (.ref p) H') ∧ (pSplit s = none → ∀ H', Same H H' → Q .non H')
def splP (H : Hp) (s : Str) (p q : Addr) (ws : List Str) (i : Nat) : L2.St → Hp → Prop := fun σ H' => Same H H' ∧ (∀ w ∈ ws.take i, w ≠ "" ∧ w ≠ ";") ∧ H' q = some (.lst (ws.map V.str)) ∧ H' p = some (.lst (((ws.take i).flatMap sp1).map V.str)) ∧ ∃ x : Option V, σ = [some (.str s), some (.ref p), x]
theorem sc_split : FnScope ["text", "found", "word"] ["text"] (defScope (top 12)) := ⟨rfl, rfl, rfl, by decide +kernel, rfl, by decide +kernel, by decide +kernel⟩
theorem sp1_len (w : Str) : (sp1 w).length ≤ 2 := by
  unfold sp1
  split <;> simp
theorem flat_len : ∀ ws : List Str, (ws.flatMap sp1).length ≤ 2 * ws.length
  | [] => by simp
  | w :: ws => by
    rw [List.flatMap_cons, List.length_append, List.length_cons]
    have := sp1_len w
    have := flat_len ws
    omega
/-- the parts of a text are short -/
theorem spl_bnd : ∀ (l acc : List Nat), (spl [32] 0 acc l).length ≤ l.length + 1 ∧ ∀ p ∈ spl [32] 0 acc l, p.length ≤ acc.length + l.length ∧ ∀ c ∈ p, c ∈ acc ∨ c ∈ l
  | [], acc => by
    rw [spl_nil]
    refine ⟨by simp, fun p hp => ?_⟩
    rw [List.mem_singleton.mp hp]
    exact ⟨by simp, fun c hc => .inl hc⟩
  | x :: r, acc => by
    cases h : pre [32] (x :: r) with
    | true =>
      rw [spl_hit h]
      obtain ⟨i1, i2⟩ := spl_bnd r []
      show (acc :: spl [32] 0 [] r).length ≤ _ ∧ _
      refine ⟨by rw [List.length_cons, List.length_cons]; omega, fun p hp => ?_⟩
      rcases List.mem_cons.mp hp with rfl | hp
      · exact ⟨by omega, fun c hc => .inl hc⟩
      · obtain ⟨j1, j2⟩ := i2 p hp
        refine ⟨by rw [List.length_nil] at j1; rw [List.length_cons]; omega, fun c hc => ?_⟩
        rcases j2 c hc with z | z
        · cases z
        · exact .inr (List.mem_cons_of_mem _ z)
    | false =>
      rw [spl_miss h]
      obtain ⟨i1, i2⟩ := spl_bnd r (acc ++ [x])
      refine ⟨by rw [List.length_cons]; omega, fun p hp => ?_⟩
      obtain ⟨j1, j2⟩ := i2 p hp
      refine ⟨by rw [List.length_append] at j1; simp only [List.length_cons, List.length_nil] at j1 ⊢; omega, fun c hc => ?_⟩
      rcases j2 c hc with z | z
      · rcases List.mem_append.mp z with z | z
        · exact .inl z
        · rw [List.mem_singleton.mp z]; exact .inr List.mem_cons_self
      · exact .inr (List.mem_cons_of_mem _ z)
theorem split_len (s : Str) : (Txt.split s " ").length ≤ s.length + 1 ∧ ∀ w ∈ Txt.split s " ", w.length ≤ s.length ∧ ∀ c ∈ tl w, c ∈ tl s := by
  have e32 : tl " " = [32] := by decide +kernel
  have e := split_spl s " " (by rw [e32]; simp) (kind_ok (by decide +kernel))
  rw [e32] at e
  obtain ⟨i1, i2⟩ := spl_bnd (tl s) []
  rw [← e] at i1 i2
  rw [List.length_map] at i1
  refine ⟨by rw [len_tl]; exact i1, fun w hw => ?_⟩
  obtain ⟨j1, j2⟩ := i2 (tl w) (List.mem_map_of_mem hw)
  refine ⟨by rw [len_tl, len_tl]; simpa using j1, fun c hc => ?_⟩
  rcases j2 c hc with z | z
  · cases z
  · exact z
theorem ok_split {f : Addr} {fd : FuncData} (T : Tx mg) (F : FD K "split_words" (top 12) f fd) : FnOk P w K mg base CX0 1 f fd ["text"] spSplit := by
  refine F.ok sc_split (fun vs H Q E h => ?_) (fun cdv A outer s H vs Q E hr h => ?_)
  · obtain ⟨_, rfl, _⟩ := h
    rfl
  · obtain ⟨s, rfl, hl, k1, k2⟩ := h
    obtain ⟨t4, t3⟩ := split_len s
    have nd := sc_split.nd
    have zl : (400000 : Nat) ≤ sizeLine := by rw [sizeLine_eq]; decide
    refine ⟨_, (pss_cons (ps_set (i := 1) nd rfl (Or.inl rfl) (pe_lst pa_nil))
        (pss_cons (ps_for (passes_of rfl) rfl (pi_list (pe_bm PySem.F.plainAttrs_str PySem.F.slot_str_split PySem.F.type_str_split mt_split (pv 0) (pa_cons pe_str pa_nil))) (pg_name (i := 2) nd rfl (Or.inl rfl)) (pss_cons (ps_if (PW.pt (pw_or (pt_cmpR op_eq (pv 2) pe_str (nomark _)) (pw_or1 (pt_cmpR op_eq (pv 2) pe_str (nomark _))))) (pss_one (ps_ret pe_non)) pss_nil)
        (pss_one (ps_if (pt_val (pe_bm PySem.F.plainAttrs_str PySem.F.slot_str_endswith PySem.F.type_str_endswith mt_endswith (pv 2) (pa_cons pe_str pa_nil))) (pss_one (ps_expr (pe_bm PySem.F.plainAttrs_list PySem.F.slot_list_extend PySem.F.type_list_extend mt_extend (pv 1) (pa_cons (pe_lst (pa_cons (pe_slice sl_str (pv 2) po_none (po_some (pe_un un_neg pe_int))) (pa_cons pe_str pa_nil))) pa_nil)))) (pss_one (ps_expr (pe_bm PySem.F.plainAttrs_list PySem.F.slot_list_append PySem.F.type_list_append mt_append (pv 1) (pa_cons (pv 2) pa_nil))))))))
        (pss_one (ps_ret (pv 1))))), ?_⟩
    refine sq fun U hU => ?_
    walk_at "rd"
    refine ⟨by decide, fun p hp => hU _ _ ?_⟩
    clear hU
    refine sq fun U hU => ?_
    walk_at "rd"
    refine ⟨rfl, by decide, by omega, fun q hq => ?_⟩
    have s0 : Same H (upd H p (.lst [])) := same_new hp
    have pq : p ≠ q := ne_of_none (upd_same (H := H) (a := p) (o := .lst [])) hq
    have s1 : Same H (upd (upd H p (.lst [])) q (.lst ((Txt.split s " ").map V.str))) := s0.trans (same_new hq)
    refine ⟨_, rfl, ⟨_, SqL.of upd_same⟩, ?_⟩
    refine for_l (K := K) (a := q) (xs := (Txt.split s " ").map V.str) (splP H s p q (Txt.split s " ")) ⟨s1, (fun w hw => by simp at hw), upd_same, (upd_ne pq).trans upd_same, _, rfl⟩ (fun i σ H' _ hP => SqL.of hP.2.2.1) ?_ ?_
    · rintro i x σ H' hi ⟨hs, hok, hq', hp', y, rfl⟩
      rw [List.getElem?_map] at hi
      obtain ⟨wd, hw, rfl⟩ := Option.map_eq_some_iff.mp hi
      have il : i < (Txt.split s " ").length := (List.getElem?_eq_some_iff.mp hw).1
      have et' : (Txt.split s " ").take (i + 1) = (Txt.split s " ").take i ++ [wd] := by
        rw [List.take_succ_eq_append_getElem il, (List.getElem?_eq_some_iff.mp hw).2]
      have et : ((Txt.split s " ").take (i + 1)).flatMap sp1 = ((Txt.split s " ").take i).flatMap sp1 ++ sp1 wd := by
        rw [et', List.flatMap_append, List.flatMap_cons, List.flatMap_nil, List.append_nil]
      have fl := flat_len ((Txt.split s " ").take i)
      rw [List.length_take] at fl
      simp only [gName_, List.set_cons_succ, List.set_cons_zero]
      refine sq fun V2 hV => ?_
      walk_at "rd"
      have bad : wd = "" ∨ wd = ";" → Q .non H' := fun z => by
        refine k2 ?_ H' hs
        unfold pSplit
        rw [if_neg]
        intro h
        have := h wd (List.mem_of_getElem? hw)
        rcases z with z | z
        · exact this.1 z
        · exact this.2 z
      by_cases n0 : wd = ""
      · rw [if_pos n0]; exact bad (.inl n0)
      rw [if_neg n0]
      by_cases n1 : wd = ";"
      · rw [if_pos n1]; exact bad (.inr n1)
      rw [if_neg n1]
      refine hV _ _ ?_
      clear hV
      walk_at "rd"
      have hok' : ∀ w ∈ (Txt.split s " ").take (i + 1), w ≠ "" ∧ w ≠ ";" := fun w hw => by
        rw [et'] at hw
        rcases List.mem_append.mp hw with hw | hw
        · exact hok w hw
        · rw [List.mem_singleton.mp hw]; exact ⟨n0, n1⟩
      refine ⟨rfl, ?_⟩
      have up : ∀ (H1 : Hp) (o : HO), Same H' H1 → Same H (upd H1 p o) := fun H1 o s2 b ob e => by
        rw [upd_ne (ne_of_none e hp)]
        exact s2 b ob (hs b ob e)
      have ll : (((Txt.split s " ").take i).flatMap sp1).length ≤ 300000 := by omega
      by_cases en : Txt.endswith wd ";" = true
      · rw [if_pos en]
        have e1 : sp1 wd = [cutS wd none (some (-1)), ";"] := by unfold sp1; rw [if_pos en]
        refine ⟨.inl ⟨rfl, _, SqL.of hp'⟩, wd, rfl, by have := (t3 wd (List.mem_of_getElem? hw)).1; omega, by decide, fun p1 hp1 => ?_⟩
        have s2 : Same H' (upd H' p1 (.lst [.str (cutS wd none (some (-1))), .str ";"])) := same_new hp1
        refine ⟨p, p1, _, _, rfl, rfl, s2 _ _ hp', upd_same, by rw [List.length_map]; simp only [List.length_cons, List.length_nil]; omega, up _ _ s2, hok', (upd_ne (Ne.symm pq)).trans (s2 _ _ hq'), ?_, _, rfl⟩
        rw [upd_same, et, e1, List.map_append]
        rfl
      · rw [if_neg en]
        have e1 : sp1 wd = [wd] := by unfold sp1; rw [if_neg en]
        refine ⟨.inl ⟨rfl, _, SqL.of hp'⟩, p, _, _, rfl, rfl, hp', by rw [List.length_map]; omega, up _ _ (Same.refl _), hok', (upd_ne (Ne.symm pq)).trans hq', ?_, _, rfl⟩
        rw [upd_same, et, e1, List.map_append]
        rfl
    · rintro σ H' ⟨hs, hok, hq', hp', y, rfl⟩
      refine hU _ _ ?_
      walk_at "rd"
      rw [List.length_map, List.take_length] at hp' hok
      have fl := flat_len (Txt.split s " ")
      exact k1 _ (if_pos hok) p H' hs hp' (by omega)
end
end K38

set_option Elab.async false
set_option linter.all false
set_option maxRecDepth 100000
set_option maxHeartbeats 4000000
namespace K38
open PySem PySem.Spec PyProof.Rows L2 Rd Dt Dq Pk TL
local macro_rules | `(tactic| walk_at "rd") => `(tactic| try simp only [↓tFld_, ↓sFld_, ↓tVar_, ↓tC_, ↓tM1, ↓tDNewK_, ↓tOp_, ↓tUn_, ↓rI_, ↓rI0_, ↓rU_, ↓eq_ii, ↓ne_ii, ↓eq_ss, ↓ne_ss, ↓eq_bb, ↓ne_bb, ↓tAndV_, ↓tOrV_, ↓tNotV_, ↓tIf_, ↓tTest_, ↓tB_, ↓tAnd_, ↓tOr_, ↓tNot_, ↓tChain_, ↓tNil_, ↓tCons_, ↓tTup_, ↓tLst_, ↓tCB_, ↓tCall_, ↓tSeq_, ↓tNext_, ↓tRet_, ↓tRetN_, ↓tDrop_, ↓tBreak_, ↓tNever_, ↓tIfS_, ↓tAsg_, ↓gName_, ↓gTup_, ↓gCons_, ↓gNil_, ↓gSub_, ↓tPar_, ↓tPar3_, ↓tSl_, ↓tNoPart_, ↓tPart_, ↓tBM_, ↓tFor_range1, ↓tFor_range2, ↓tFor_list, ↓tFor_tup, L2.start, List.headD_cons, List.headD_nil, List.tail_cons, List.map_cons, List.map_nil, List.length_cons, List.length_nil, List.replicate, List.append_nil, List.nil_append, List.cons_append, List.getElem?_cons_zero, List.getElem?_cons_succ, List.set_cons_zero, List.set_cons_succ, Option.some.injEq, V.int.injEq, V.bl.injEq, V.str.injEq, V.ref.injEq, exists_eq_left, exists_eq_left', exists_eq_right, exists_eq, exists_and_left, and_true, true_and, decide_eq_true_eq, Nat.reduceAdd, Nat.reduceSub, Nat.add_zero, Nat.zero_add, List.cons.injEq, Bool.not_eq_true', decide_eq_false_iff_not, eq_self, reduceCtorEq, Bool.false_eq_true, if_true, if_false, ite_true, ite_false, and_self, ↓tLc_range1, ↓tLc_range2, ↓tLc_list, ↓tLc_tup, ↓tYes_, wipe0, wipe1, ↓tCallS_, ↓rIxL_, ↓rIxT_, ↓rSlL_, ↓rCat_, ↓rSetL_, ↓rRep_, ↓rGcd_, ↓tCallK_, ↓gUnl_, ↓tRaise_, decide_true, decide_false, not_true_eq_false, not_false_eq_true, false_and, or_false, false_or, and_false, and_assoc, exists_const, forall_const, forall_eq'])

section
variable {P : Program} {w : World} {K : PySem.W.Frag} {mg : Str → Option Value} {base : Heap}
/-! ### the new part of the heap -/
def newp (H H' : Hp) : Hp := fun a => match H a with
  | none => H' a
  | some _ => none
theorem newp_at {H H' : Hp} {p : Addr} (h : H p = none) : newp H H' p = H' p := by unfold newp; rw [h]
theorem newp_some {H H' : Hp} {a : Addr} {o : HO} (h : newp H H' a = some o) : H a = none ∧ H' a = some o := by
  unfold newp at h
  cases e : H a with
  | none => rw [e] at h; exact ⟨rfl, h⟩
  | some _ => rw [e] at h; cases h
theorem newp_sub {H H' : Hp} : Same (newp H H') H' := fun a o e => (newp_some e).2
/-- what is new since H, but for p -/
def nw (H : Hp) (p : Addr) (H' : Hp) : Hp := fun a => if a = p then none else newp H H' a
theorem nw_some {H H' : Hp} {p a : Addr} {o : HO} (h : nw H p H' a = some o) : a ≠ p ∧ H a = none ∧ H' a = some o := by
  unfold nw at h
  by_cases z : a = p
  · rw [if_pos z] at h; cases h
  · rw [if_neg z] at h; exact ⟨z, newp_some h⟩
theorem nw_at {H H' : Hp} {p a : Addr} (h1 : a ≠ p) (h2 : H a = none) : nw H p H' a = H' a := by unfold nw; rw [if_neg h1, newp_at h2]
theorem bnone {u p : Addr} {H H' : Hp} (a : But u H H') (n : H' p = none) (h : p ≠ u) : H p = none := by
  cases e : H p with
  | none => rfl
  | some o => rw [a p o h e] at n; cases n
theorem newp_but {H H1 H2 : Hp} {u : Addr} (hu : ∀ p, H p = none → p ≠ u) (b : But u H1 H2) : Same (newp H H1) (newp H H2) := fun a o e => by
  obtain ⟨h1, h2⟩ := newp_some e
  rw [newp_at h1]
  exact b a o (hu a h1) h2
theorem newp_later {H H1 H2 : Hp} {u : Addr} (b : But u H H1) (hu : ∀ p, H1 p = none → p ≠ u) : Same (newp H1 H2) (newp H H2) := fun a o e => by
  obtain ⟨h1, h2⟩ := newp_some e
  rw [newp_at (bnone b h1 (hu a h1))]
  exact h2
theorem nw_but {H H3 H8 : Hp} {u p : Addr} (hu : ∀ p, H p = none → p ≠ u) (b : ∀ a o, a ≠ u → a ≠ p → H3 a = some o → H8 a = some o) : Same (nw H p H3) (nw H p H8) := fun a o e => by
  obtain ⟨h1, h2, h3⟩ := nw_some e
  rw [nw_at h1 h2]
  exact b a o (hu a h2) h1 h3
theorem but_new {u p : Addr} {H H' : Hp} {o : HO} (a : But u H H') (n : H p = none) : But u H (upd H' p o) := fun b x hb e => by
  rw [upd_ne (ne_of_none e n)]
  exact a b x hb e
theorem tup3 {H : Hp} {p : Addr} {a b c : Str} (h : H p = some (.tup [.str a, .str b, .str c])) (ha : smS a = true) (hb : smS b = true) (hc : smS c = true) : Dq K H (.ref p) (.tuple [.str a, .str b, .str c]) := .tup h (.cons (.str _ ha) (.cons (.str _ hb) (.cons (.str _ hc) .nil)))
theorem tup2 {H : Hp} {p : Addr} {a b : Str} (h : H p = some (.tup [.str a, .str b])) (ha : smS a = true) (hb : smS b = true) : Dq K H (.ref p) (.tuple [.str a, .str b]) := .tup h (.cons (.str _ ha) (.cons (.str _ hb) .nil))
theorem nw_sub {H H' : Hp} {p : Addr} : Same (nw H p H') H' := fun a o e => (nw_some e).2.2
/-- data, or None -/
def OV (K : PySem.W.Frag) (H : Hp) (x : V) (o : Option PyData) : Prop := match o with
  | some d => Dq K H x d
  | none => x = .non
theorem OV.up {H H' : Hp} {x : V} {o : Option PyData} (s : Same H H') (h : OV K H x o) : OV K H' x o := by
  cases o with
  | none => exact h
  | some d => exact Dq.up s h
inductive OVs (K : PySem.W.Frag) (H : Hp) : List V → List (Option PyData) → Prop
  | nil : OVs K H [] []
  | cons {x : V} {xs : List V} {o : Option PyData} {os : List (Option PyData)} : OV K H x o → OVs K H xs os → OVs K H (x :: xs) (o :: os)
theorem OVs.up {H H' : Hp} {xs : List V} {os : List (Option PyData)} (s : Same H H') (h : OVs K H xs os) : OVs K H' xs os := by
  induction h with
  | nil => exact .nil
  | cons a _ ih => exact .cons (a.up s) ih
theorem OVs.snoc {H : Hp} {xs : List V} {os : List (Option PyData)} {x : V} {o : Option PyData} (h : OVs K H xs os) (g : OV K H x o) : OVs K H (xs ++ [x]) (os ++ [o]) := by
  induction h with
  | nil => exact .cons g .nil
  | cons a _ ih => exact .cons a ih
theorem OVs.len {H : Hp} {xs : List V} {os : List (Option PyData)} (h : OVs K H xs os) : xs.length = os.length := by
  induction h with
  | nil => rfl
  | cons _ _ ih => rw [List.length_cons, List.length_cons, ih]
theorem OVs.all {H : Hp} {xs : List V} {cs : List PyData} (h : OVs K H xs (cs.map some)) : DqAll K H xs cs := by
  induction cs generalizing xs with
  | nil => cases h; exact .nil
  | cons c cs ih =>
    cases h with
    | cons a b => exact .cons a (ih b)
theorem sm_head {ts : List Str} (h : ∀ w ∈ ts, smS w = true) : smS (ts.headD "") = true := by
  cases ts with
  | nil => decide +kernel
  | cons a r => exact h a List.mem_cons_self
theorem sm_tail {ts : List Str} (h : ∀ w ∈ ts, smS w = true) : ∀ w ∈ ts.tail, smS w = true := fun w hw => h w (List.mem_of_mem_tail hw)
def spCompG (K : PySem.W.Frag) (C : Addr) : Sp := fun vs H Q _ => ∃ (r l : Addr) (rest : List Str), vs = [.ref r] ∧ (∀ w ∈ rest, smS w = true) ∧ WdR C H r l rest ∧ ∀ (x : V) (H' : Hp), But r H H' → WdR C H' r l rest.tail.tail.tail → OV K (newp H H') x (comp3 rest) → Q x H'
theorem sc_rc : FnScope ["words", "one", "sign", "other"] ["words"] (defScope (top 13)) := ⟨rfl, rfl, rfl, by decide +kernel, rfl, by decide +kernel, by decide +kernel⟩
theorem ok_rc {C fI fP fT fO : Addr} {fdI fdP fdT fdO : FuncData} (T : Tx mg) (W : WdT P w K mg base C fI fP fT fO fdI fdP fdT fdO) {f : Addr} {fd : FuncData} (F : FD K "read_comparison" (top 13) f fd) {f1 f2 : Addr} {fd1 fd2 : FuncData} (C1 : Cal P w K mg base CX0 1 "is_letter" ["value"] (spData isLetter K) f1 fd1) (C2 : Cal P w K mg base CX0 2 "is_goal" ["value"] (spData isGoal K) f2 fd2) : FnOk P w K mg base CX0 3 f fd ["words"] (spCompG K C) := by
  obtain ⟨gis_letter, kis_letter, bis_letter, Fis_letter⟩ := C1
  obtain ⟨gis_goal, kis_goal, bis_goal, Fis_goal⟩ := C2
  refine F.ok sc_rc (fun vs H Q E h => ?_) (fun cdv A outer s H vs Q E hr h => ?_)
  · obtain ⟨_, _, _, rfl, _⟩ := h
    rfl
  · obtain ⟨r, l, rest, rfl, hsm, hw, k⟩ := h
    have ma := sm_head hsm
    have mm := sm_head (sm_tail hsm)
    have mb := sm_head (sm_tail (sm_tail hsm))
    have ec : comp3 rest = compOf (rest.headD "") (rest.tail.headD "") (rest.tail.tail.headD "") := rfl
    rw [ec] at k
    have nd := sc_rc.nd
    refine ⟨_, (pss_cons (ps_par3 rfl nd (i := 1) (j := 2) (l := 3) rfl rfl rfl (by decide) (by decide) (by decide) rfl rfl rfl (pa_cons (pe_meth0 (pv 0) W.cl W.m_take W.F_take (hr.mono (by omega)) W.b_take .nil pass0) (pa_cons (pe_meth0 (pv 0) W.cl W.m_take W.F_take (hr.mono (by omega)) W.b_take .nil pass0) (pa_cons (pe_meth0 (pv 0) W.cl W.m_take W.F_take (hr.mono (by omega)) W.b_take .nil pass0) pa_nil))) rfl)
        (pss_cons (ps_if (PW.pt (pw_and (pt_val (pe_call Fis_letter (hr.mono (by omega)) rfl gis_letter kis_letter bis_letter .nil pass0 (pa_cons (pv 1) pa_nil))) (pw_and (pt_cmpR op_in_seq (pv 2) (pe_tup (pa_cons pe_str (pa_cons pe_str pa_nil))) rfl) (pw_and1 (pt_val (pe_call Fis_goal (hr.mono (by omega)) rfl gis_goal kis_goal bis_goal .nil pass0 (pa_cons (pv 3) pa_nil))))))) (pss_one (ps_ret (pe_tup (pa_cons (pv 2) (pa_cons (pv 1) (pa_cons (pv 3) pa_nil)))))) pss_nil)
        (pss_one (ps_ret pe_non)))), ?_⟩
    refine sq fun U hU => ?_
    walk_at "rd"
    refine takeR rfl hw fun H1 b1 w1 => ?_
    refine takeR rfl w1 fun H2 b2 w2 => ?_
    refine takeR rfl w2 fun H3 b3 w3 => hU _ _ ?_
    clear hU
    have bb := b1.trans (b2.trans b3)
    clear hw w1 w2 b1 b2 b3 ec hsm
    generalize rest.headD "" = a at *
    generalize rest.tail.headD "" = m at *
    generalize rest.tail.tail.headD "" = b at *
    generalize rest.tail.tail.tail = r3 at *
    refine sq fun U hU => ?_
    walk_at "rd"
    have bad : ∀ H', Same H3 H' → ¬ (isLetterS a = true ∧ (m = "=" ∨ m = "!=") ∧ isGoal (.str b) = true) → U [some (.ref r), some (.str a), some (.str m), some (.str b)] H' := fun H' s hn => by
      refine hU _ _ ?_
      walk_at "rd"
      refine k _ _ (bb.trans (But.same s)) (w3.up s) ?_
      unfold compOf
      rw [if_neg hn]
      rfl
    refine ⟨_, .str a, rfl, .str a ma, fun H4 s4 => ?_⟩
    walk_at "rd"
    by_cases ha : isLetterS a = true
    · rw [if_pos (show isLetter (.str a) = true from ha)]
      refine ⟨by decide, fun p hp => in2 upd_same ?_⟩
      have s5 : Same H4 (upd H4 p (.tup [.str "=", .str "!="])) := same_new hp
      walk_at "rd"
      by_cases hs : m = "=" ∨ m = "!="
      · rw [if_pos (by rcases hs with rfl | rfl <;> decide)]
        refine ⟨_, .str b, rfl, .str b mb, fun H6 s6 => ?_⟩
        walk_at "rd"
        by_cases hb : isGoal (.str b) = true
        · rw [if_pos hb]
          refine ⟨by decide, fun q hq => ?_⟩
          have s7 : Same H6 (upd H6 q (.tup [.str m, .str a, .str b])) := same_new hq
          have ss := s4.trans (s5.trans s6)
          have qn := bnone (bb.trans (But.same ss)) hq ((w3.up ss).ne hq)
          refine k _ _ (bb.trans (But.same (ss.trans s7))) (w3.up (ss.trans s7)) ?_
          unfold compOf
          rw [if_pos ⟨ha, hs, hb⟩]
          exact tup3 ((newp_at qn).trans upd_same) mm ma mb
        · rw [if_neg hb]
          exact bad _ (s4.trans (s5.trans s6)) (fun z => hb z.2.2)
      · rw [if_neg (by
          rw [Bool.or_eq_true, decide_eq_true_eq, decide_eq_true_eq]
          exact hs)]
        exact bad _ (s4.trans s5) (fun z => hs z.2.1)
    · rw [if_neg (show ¬ isLetter (.str a) = true from ha)]
      exact bad _ s4 (fun z => ha z.1)
/-! ### the test -/
theorem pLoop_fuel : ∀ (n m : Nat) (j : Str) (ts : List Str), ts.length < n → ts.length < m → pLoop n j ts = pLoop m j ts
  | 0, _, _, _, h, _ => absurd h (Nat.not_lt_zero _)
  | _ + 1, 0, _, _, _, h => absurd h (Nat.not_lt_zero _)
  | n + 1, m + 1, j, ts, h1, h2 => by
    rw [pLoop, pLoop]
    by_cases hk : jw (ts.headD "")
    · have hl : ts.tail.tail.tail.tail.length < ts.length := by
        have : 1 ≤ ts.length := by
          cases ts with
          | nil => exact absurd hk (by decide)
          | cons _ _ => simp
        simp only [List.length_tail]
        omega
      rw [pLoop_fuel n m _ _ (by omega) (by omega)]
    · rw [if_neg hk, if_neg hk]
theorem pGo_step {j : Str} {fs : List (Option PyData)} {ts : List Str} (hk : jw (ts.headD "")) : pGo j fs ts = if j = "" ∨ j = ts.headD "" then pGo (ts.headD "") (fs ++ [comp3 ts.tail]) ts.tail.tail.tail.tail else none := by
  have hl : ts.tail.tail.tail.tail.length < ts.length := by
    have : 1 ≤ ts.length := by
      cases ts with
      | nil => exact absurd hk (by decide)
      | cons _ _ => simp
    simp only [List.length_tail]
    omega
  unfold pGo
  rw [pLoop, if_pos hk]
  by_cases hj : j = "" ∨ j = ts.headD ""
  · rw [if_pos hj, if_pos hj, pLoop_fuel ts.length (ts.tail.tail.tail.tail.length + 1) _ _ hl (Nat.lt_succ_self _)]
    cases pLoop (ts.tail.tail.tail.tail.length + 1) (ts.headD "") ts.tail.tail.tail.tail with
    | none => rfl
    | some x =>
      obtain ⟨j', os, r⟩ := x
      show pFin j' (fs ++ (comp3 ts.tail :: os)) r = pFin j' (fs ++ [comp3 ts.tail] ++ os) r
      rw [List.append_assoc]
      rfl
  · rw [if_neg hj, if_neg hj]
theorem pGo_end {j : Str} {fs : List (Option PyData)} {ts : List Str} (hk : ¬ jw (ts.headD "")) : pGo j fs ts = pFin j fs ts := by
  unfold pGo
  rw [pLoop, if_neg hk]
  show pFin j (fs ++ []) ts = _
  rw [List.append_nil]
def spTestG (K : PySem.W.Frag) (C : Addr) : Sp := fun vs H Q _ => ∃ (r l : Addr) (rest : List Str), vs = [.ref r] ∧ (∀ w ∈ rest, smS w = true) ∧ rest.length ≤ 30000 ∧ WdR C H r l rest ∧
  ∀ (x : V) (H' : Hp) (rest' : List Str), But r H H' → WdR C H' r l rest' → OV K (newp H H') x ((pTest rest).map (·.1)) → (∀ d r', pTest rest = some (d, r') → rest' = r') → Q x H'
theorem fit_comp {d : PyData} (h : isComp d = true) : Fit d 1 315 := by
  obtain ⟨sg, a, b, rfl, hs, ha, hb⟩ := comp_cases h
  have sm : ∀ s : Str, s.length ≤ 10 → PyData.strOk s = true → Fit (.str s) 0 102 := fun s h1 h2 => by
    refine Fit.str (n := 10) h1 fun c hc => ?_
    have := List.all_eq_true.mp (show s.cps.toList.all (· < 0x110000) = true by rw [Array.all_toList]; exact h2) c hc
    exact of_decide_eq_true this
  obtain ⟨a', ea, ta⟩ := letter_tok (d := .str a) ha
  cases ea
  obtain ⟨b', eb, tb⟩ := goal_tok hb
  cases eb
  refine Fit.tuple (ds := [.str sg, .str a, .str b]) (k := 0) (n := 102) fun x hx => ?_
  simp only [List.mem_cons, List.not_mem_nil, or_false] at hx
  rcases hx with rfl | rfl | rfl
  · exact sm _ (by rcases hs with rfl | rfl <;> decide) (by rcases hs with rfl | rfl <;> decide +kernel)
  · exact sm _ (Nat.le_trans ta.len (by decide)) ta.ok
  · exact sm _ (Nat.le_trans tb.len (by decide)) tb.ok
def dOf : Option PyData → PyData
  | some d => d
  | none => .none
theorem comp3_comp {ts : List Str} : ∀ d, comp3 ts = some d → isComp d = true := fun d h => (comp3_some h).1
/-- what None in found asks -/
theorem found_dp {H : Hp} : ∀ {xs : List V} {os : List (Option PyData)}, (∀ o ∈ os, ∀ d, o = some d → isComp d = true) → OVs K H xs os → DpAll K H xs (os.map dOf) ∧ (∀ d ∈ os.map dOf, Fit d 1 315) ∧ (((os.map dOf).any fun z => PyData.eqv z .none) = true ↔ optAll os = none)
  | [], [], _, _ => ⟨.nil, (fun _ z => nomatch z), by simp [optAll]⟩
  | x :: xs, o :: os, hc, h => by
    cases h with
    | cons a b =>
      obtain ⟨i1, i2, i3⟩ := found_dp (fun o ho => hc o (List.mem_cons_of_mem _ ho)) b
      cases o with
      | none =>
        have ex : x = .non := a
        subst ex
        refine ⟨.cons .non i1, fun d hd => ?_, ?_⟩
        · rcases List.mem_cons.mp hd with rfl | hd
          · exact ⟨rfl, rfl, Nat.zero_le _, Nat.le_trans Fit.non.sz (by decide), rfl⟩
          · exact i2 d hd
        · rw [List.map_cons, List.any_cons]
          show ((PyData.eqv .none .none || _) = true) ↔ (none = none)
          simp [PyData.eqv]
      | some d =>
        have hd := hc (some d) List.mem_cons_self d rfl
        obtain ⟨sg, aa, bb, rfl, _⟩ := comp_cases hd
        refine ⟨.cons (Dq.dp (.tuple [.str sg, .str aa, .str bb]) _ (by simp [PyData.hasDict, PyData.hasDictAll]) a) i1, fun d' hd' => ?_, ?_⟩
        · rcases List.mem_cons.mp hd' with rfl | hd'
          · exact fit_comp hd
          · exact i2 d' hd'
        · rw [List.map_cons, List.any_cons, optAll, Option.map_eq_none_iff]
          show ((PyData.eqv (.tuple [.str sg, .str aa, .str bb]) .none || _) = true) ↔ _
          rw [show PyData.eqv (.tuple [.str sg, .str aa, .str bb]) .none = false by simp [PyData.eqv], Bool.false_or]
          exact i3
def teP (K : PySem.W.Frag) (C : Addr) (H0 : Hp) (r l p : Addr) (res : Option (PyData × List Str)) (m : Nat) : L2.St → Hp → Prop := fun σ H => ∃ (j : Str) (os : List (Option PyData)) (rest : List Str) (xs : List V) (y z : Option V), res = pGo j os rest ∧ m = rest.length ∧ But r H0 H ∧ WdR C H r l rest ∧ (∀ w ∈ rest, smS w = true) ∧ os.length + rest.length ≤ 30001 ∧
  H p = some (.lst xs) ∧ OVs K (nw H0 p H) xs os ∧ (∀ o ∈ os, ∀ d, o = some d → isComp d = true) ∧ (j = "" ∨ jw j) ∧ σ = [some (.ref r), y, some (.str j), some (.ref p), z]
theorem sc_rt : FnScope ["words", "first", "joint", "found", "word"] ["words"] (defScope (top 14)) := ⟨rfl, rfl, rfl, by decide +kernel, rfl, by decide +kernel, by decide +kernel⟩
theorem ok_rt {C fI fP fT fO : Addr} {fdI fdP fdT fdO : FuncData} (T : Tx mg) (W : WdT P w K mg base C fI fP fT fO fdI fdP fdT fdO) {f : Addr} {fd : FuncData} (F : FD K "read_test" (top 14) f fd) {f1 : Addr} {fd1 : FuncData} (C1 : Cal P w K mg base CX0 3 "read_comparison" ["words"] (spCompG K C) f1 fd1) : FnOk P w K mg base CX0 4 f fd ["words"] (spTestG K C) := by
  obtain ⟨gread_comparison, kread_comparison, bread_comparison, Fread_comparison⟩ := C1
  obtain ⟨tC, hMC⟩ := T.mc
  refine F.ok sc_rt (fun vs H Q E h => ?_) (fun cdv A outer s H vs Q E hr h => ?_)
  · obtain ⟨_, _, _, rfl, _⟩ := h
    rfl
  · obtain ⟨r, l, rest, rfl, hsm, hlen, hw, k⟩ := h
    have nd := sc_rt.nd
    have zl : (400000 : Nat) ≤ sizeLine := by rw [sizeLine_eq]; decide
    refine ⟨_, (pss_cons (ps_par rfl nd (i := 1) (j := 2) rfl rfl (by decide) rfl rfl (pa_cons (pe_call Fread_comparison (hr.mono (by omega)) rfl gread_comparison kread_comparison bread_comparison .nil pass0 (pa_cons (pv 0) pa_nil)) (pa_cons pe_str pa_nil)) rfl)
        (pss_cons (ps_set (i := 3) nd rfl (Or.inl rfl) (pe_lst (pa_cons (pv 1) pa_nil)))
        (pss_cons (ps_while (passes_of rfl) (pt_cmpR op_in_seq (pe_meth0 (pv 0) W.cl W.m_peek W.F_peek (hr.mono (by omega)) W.b_peek .nil pass0) (pe_tup (pa_cons pe_str (pa_cons pe_str pa_nil))) rfl) (pss_cons (ps_set (i := 4) nd rfl (Or.inl rfl) (pe_meth0 (pv 0) W.cl W.m_take W.F_take (hr.mono (by omega)) W.b_take .nil pass0))
        (pss_cons (ps_if (pt_cmpR op_notIn_seq (pv 2) (pe_tup (pa_cons pe_str (pa_cons (pv 4) pa_nil))) rfl) (pss_one (ps_ret pe_non)) pss_nil)
        (pss_cons (ps_set (i := 2) nd rfl (Or.inl rfl) (pv 4))
        (pss_one (ps_expr (pe_bm PySem.F.plainAttrs_list PySem.F.slot_list_append PySem.F.type_list_append mt_append (pv 3) (pa_cons (pe_call Fread_comparison (hr.mono (by omega)) rfl gread_comparison kread_comparison bread_comparison .nil pass0 (pa_cons (pv 0) pa_nil)) pa_nil))))))))
        (pss_cons (ps_if (PW.pt (pw_or (pt_cmpR (op_inD hr.units65) pe_non (pv 3) rfl) (pw_or1 (pt_cmpR op_gt (pe_callB call_len_seq (by rfl) T.b_len PySem.boot_len (pa_cons (pv 3) pa_nil)) (pe_glob (v := .int 3) rfl hMC ⟨_, rfl⟩) (nomark _))))) (pss_one (ps_ret pe_non)) pss_nil)
        (pss_one (ps_ret (pe_tup (pa_cons (pe_ifExp (pt_cmpR op_ne (pv 2) pe_str (nomark _)) (pv 2) pe_str) (pa_cons (pe_callTy call_tuple_of (by rfl) T.b_tuple (by decide +kernel) (pa_cons (pv 3) pa_nil)) pa_nil))))))))), ?_⟩
    refine sq fun U hU => ?_
    walk_at "rd"
    refine ⟨r, l, rest, rfl, hsm, hw, fun x H1 b1 w1 hx => ?_⟩
    walk_at "rd"
    refine hU _ _ ?_
    clear hU
    refine sq fun U hU => ?_
    walk_at "rd"
    refine ⟨by decide, fun p hp => hU _ _ ?_⟩
    clear hU
    have hr0 : ∀ a, H a = none → a ≠ r := fun a => hw.ne
    have hw0 : ∀ a, H a = none → a ≠ l := fun a => hw.nel
    have p0 := bnone b1 hp (w1.ne hp)
    have pr : p ≠ r := hr0 p p0
    refine sq fun U hU => ?_
    refine ⟨teP K C H r l p (pTest rest), ⟨_, "", [comp3 rest], rest.tail.tail.tail, [x], some x, none, rfl, rfl, but_new b1 p0, w1.up (same_new hp), sm_tail (sm_tail (sm_tail hsm)), (show ([comp3 rest] : List (Option PyData)).length + rest.tail.tail.tail.length ≤ 30001 by simp only [List.length_cons, List.length_nil, List.length_tail]; omega), upd_same, .cons (hx.up fun a o e => ?_) .nil, (fun o ho d e => by rw [List.mem_singleton.mp ho] at e; exact comp3_comp d e), .inl rfl, rfl⟩, ?_⟩
    · obtain ⟨h1, h2⟩ := newp_some e
      have n1 : a ≠ p := ne_of_none h2 hp
      rw [nw_at n1 h1, upd_ne n1]
      exact h2
    · rintro m σ H2 ⟨j, os, ts, xs, y, z, eres, rfl, b2, w2, sm2, ln2, e2, D2, hcs, hj, rfl⟩
      walk_at "rd"
      refine peekR rfl w2 ⟨by decide, fun q1 hq1 => in2 upd_same ?_⟩
      have s3 : Same H2 (upd H2 q1 (.tup [.str "and", .str "or"])) := same_new hq1
      generalize upd H2 q1 (HO.tup [.str "and", .str "or"]) = H3 at s3 ⊢
      have b3 := b2.trans (But.same s3)
      have w3 := w2.up s3
      have e3 := s3 _ _ e2
      have D3 := D2.up (nw_but (p := p) hr0 fun a o _ _ e => s3 a o e)
      have xl := D3.len
      clear b2 w2 e2 D2 s3 hq1
      by_cases hk : jw (ts.headD "")
      · have hb : (decide (ts.headD "" = "and") || decide (ts.headD "" = "or")) = true := by rw [Bool.or_eq_true, decide_eq_true_eq, decide_eq_true_eq]; exact hk
        refine ⟨true, congrArg V.bl hb, ?_⟩
        rw [if_pos rfl]
        have tl0 : ts.tail.tail.tail.tail.length < ts.length := by
          have : 1 ≤ ts.length := by
            cases ts with
            | nil => exact absurd hk (by decide)
            | cons _ _ => simp
          simp only [List.length_tail]
          omega
        rw [pGo_step hk] at eres
        refine ⟨teP K C H r l p (pTest rest) ts.tail.tail.tail.tail.length, fun σ' H' h => ⟨_, tl0, h⟩, ?_⟩
        refine takeR rfl w3 fun H4 b4 w4 => ?_
        have sk := sm_head sm2
        generalize ts.headD "" = kk at *
        refine ⟨by decide, fun q2 hq2 => notIn2 upd_same ?_⟩
        have s5 : Same H4 (upd H4 q2 (.tup [.str "", .str kk])) := same_new hq2
        by_cases hjk : j = "" ∨ j = kk
        · have hk2 : (!(decide (j = "") || decide (j = kk))) = false := by
            rw [Bool.not_eq_false', Bool.or_eq_true, decide_eq_true_eq, decide_eq_true_eq]
            exact hjk
          refine ⟨false, congrArg V.bl hk2, ?_⟩
          rw [if_neg (by decide)]
          rw [if_pos hjk] at eres
          have b35 : But r H3 (upd H4 q2 (.tup [.str "", .str kk])) := b4.trans (But.same s5)
          have w5 := w4.up s5
          have e5 := b35 _ _ pr e3
          generalize upd H4 q2 (HO.tup [V.str (Str.ofString ""), V.str kk]) = H5 at b35 w5 e5 ⊢
          refine ⟨.inl ⟨rfl, _, SqL.of e5⟩, r, l, _, rfl, sm_tail sm2, w5, fun x2 H6 b6 w6 hx2 => ?_⟩
          have b36 := b35.trans b6
          refine ⟨p, xs, x2, rfl, rfl, b6 _ _ pr e5, by omega, kk, os ++ [comp3 ts.tail], ts.tail.tail.tail.tail, xs ++ [x2], y, some (.str kk), eres, rfl, but_new (b3.trans b36) p0, w6.put pr (hw0 p p0), sm_tail (sm_tail (sm_tail (sm_tail sm2))), by rw [List.length_append]; simp only [List.length_cons, List.length_nil]; omega, upd_same, OVs.snoc (D3.up (nw_but hr0 fun a o h1 h2 e => ?_)) (hx2.up fun a o e => ?_), ?_, .inr hk, rfl⟩
          · rw [upd_ne h2]
            exact b36 a o h1 e
          · obtain ⟨h1, h2⟩ := newp_some e
            have n1 : a ≠ p := (ne_of_none e5 h1).symm
            rw [nw_at n1 (bnone (b3.trans b35) h1 (w5.ne h1)), upd_ne n1]
            exact h2
          · intro o ho d e
            rcases List.mem_append.mp ho with ho | ho
            · exact hcs o ho d e
            · rw [List.mem_singleton.mp ho] at e
              exact comp3_comp d e
        · have hk2 : (!(decide (j = "") || decide (j = kk))) = true := by
            rw [Bool.not_eq_true', Bool.or_eq_false_iff, decide_eq_false_iff_not, decide_eq_false_iff_not]
            exact ⟨fun z => hjk (.inl z), fun z => hjk (.inr z)⟩
          refine ⟨true, congrArg V.bl hk2, ?_⟩
          rw [if_pos rfl]
          rw [if_neg hjk] at eres
          refine k _ _ _ (b3.trans (b4.trans (But.same s5))) (w4.up s5) ?_ (fun d r' e => by rw [eres] at e; cases e)
          rw [eres]
          rfl
      · have hb : (decide (ts.headD "" = "and") || decide (ts.headD "" = "or")) = false := by
          rw [Bool.or_eq_false_iff, decide_eq_false_iff_not, decide_eq_false_iff_not]
          exact ⟨fun z => hk (.inl z), fun z => hk (.inr z)⟩
        refine ⟨false, congrArg V.bl hb, ?_⟩
        rw [if_neg (by decide)]
        refine hU _ _ ?_
        clear hU
        rw [pGo_end hk] at eres
        obtain ⟨f1, f2, f3⟩ := found_dp hcs (D3.up nw_sub)
        have bad : pFin j os ts = none → ∀ H', Same H3 H' → Q .non H' := fun z H' s => by
          rw [z] at eres
          refine k _ _ _ (b3.trans (But.same s)) (w3.up s) ?_ (fun d r' e => by rw [eres] at e; cases e)
          rw [eres]
          rfl
        refine sq fun U hU => ?_
        walk_at "rd"
        refine ⟨.none, os.map dOf, .non, .lst (SqL.of e3) f1, by decide +kernel, (Fit.list f2).shaped (by decide), ?_⟩
        cases oa : optAll os with
        | none =>
          rw [f3.mpr oa]
          walk_at "rd"
          refine bad ?_ _ (Same.refl _)
          unfold pFin
          rw [oa]
        | some cs =>
          have fn : ((os.map dOf).any fun z => PyData.eqv z .none) = false := by
            rw [Bool.eq_false_iff]
            intro z
            rw [f3.mp z] at oa
            cases oa
          rw [fn]
          have eos := optAll_some oa
          walk_at "rd"
          refine ⟨_, .inl (SqL.of e3), ?_⟩
          have ll : xs.length = cs.length := by rw [xl, eos, List.length_map]
          by_cases h3 : cs.length ≤ 3
          · rw [if_neg (by omega)]
            refine hU _ _ ?_
            clear hU
            have er : pTest rest = some (.tuple [.str (if j = "" then "and" else j), .tuple cs], ts) := by
              rw [eres]
              unfold pFin
              rw [oa]
              exact if_pos h3
            have Dc : DqAll K (nw H p H3) xs cs := OVs.all (by rw [← eos]; exact D3)
            have fin : ∀ l' q, H3 l' = none → upd H3 l' (.tup xs) q = none → Q (.ref q) (upd (upd H3 l' (.tup xs)) q (.tup [.str (if j = "" then "and" else j), .ref l'])) := fun l' q hl' hq => by
              have s4 : Same H3 (upd H3 l' (.tup xs)) := same_new hl'
              have s5 : Same (upd H3 l' (.tup xs)) (upd (upd H3 l' (.tup xs)) q (.tup [.str (if j = "" then "and" else j), .ref l'])) := same_new hq
              have l0 := bnone b3 hl' (w3.ne hl')
              have q0 := bnone (b3.trans (But.same s4)) hq ((w3.up s4).ne hq)
              have sj : smS (if j = "" then "and" else j) = true := by
                rcases hj with rfl | rfl | rfl <;> decide +kernel
              refine k _ _ ts (b3.trans (But.same (s4.trans s5))) (w3.up (s4.trans s5)) ?_ (fun d r' e => by rw [er] at e; cases e; rfl)
              rw [er]
              refine Dq.tup ((newp_at q0).trans upd_same) (.cons (.str _ sj) (.cons (.tup ((newp_at l0).trans (s5 _ _ upd_same)) (Dc.up fun a o e => ?_)) .nil))
              obtain ⟨h1, h2, h3⟩ := nw_some e
              rw [newp_at h2]
              exact s5 _ _ (s4 _ _ h3)
            walk_at "rd"
            by_cases dz : j = ""
            · subst dz
              rw [if_neg (by simp)]
              refine ⟨_, .inl ⟨SqL.of e3, fun l' hl' => ⟨by decide, fun q hq => fin l' q hl' hq⟩⟩⟩
            · rw [if_neg dz] at fin
              rw [if_pos dz]
              refine ⟨_, .inl ⟨SqL.of e3, fun l' hl' => ⟨by decide, fun q hq => fin l' q hl' hq⟩⟩⟩
          · rw [if_pos (by omega)]
            refine bad ?_ _ (Same.refl _)
            unfold pFin
            rw [oa]
            exact if_neg h3
end
end K38

set_option Elab.async false
set_option linter.all false
set_option maxRecDepth 100000
set_option maxHeartbeats 4000000
namespace K38
open PySem PySem.Spec PyProof.Rows L2 Rd Dt Dq Pk TL
local macro_rules | `(tactic| walk_at "rd") => `(tactic| try simp only [↓tFld_, ↓sFld_, ↓tVar_, ↓tC_, ↓tM1, ↓tDNewK_, ↓tOp_, ↓tUn_, ↓rI_, ↓rI0_, ↓rU_, ↓eq_ii, ↓ne_ii, ↓eq_ss, ↓ne_ss, ↓eq_bb, ↓ne_bb, ↓tAndV_, ↓tOrV_, ↓tNotV_, ↓tIf_, ↓tTest_, ↓tB_, ↓tAnd_, ↓tOr_, ↓tNot_, ↓tChain_, ↓tNil_, ↓tCons_, ↓tTup_, ↓tLst_, ↓tCB_, ↓tCall_, ↓tSeq_, ↓tNext_, ↓tRet_, ↓tRetN_, ↓tDrop_, ↓tBreak_, ↓tNever_, ↓tIfS_, ↓tAsg_, ↓gName_, ↓gTup_, ↓gCons_, ↓gNil_, ↓gSub_, ↓tPar_, ↓tPar3_, ↓tSl_, ↓tNoPart_, ↓tPart_, ↓tBM_, ↓tFor_range1, ↓tFor_range2, ↓tFor_list, ↓tFor_tup, L2.start, List.headD_cons, List.headD_nil, List.tail_cons, List.map_cons, List.map_nil, List.length_cons, List.length_nil, List.replicate, List.append_nil, List.nil_append, List.cons_append, List.getElem?_cons_zero, List.getElem?_cons_succ, List.set_cons_zero, List.set_cons_succ, Option.some.injEq, V.int.injEq, V.bl.injEq, V.str.injEq, V.ref.injEq, exists_eq_left, exists_eq_left', exists_eq_right, exists_eq, exists_and_left, and_true, true_and, decide_eq_true_eq, Nat.reduceAdd, Nat.reduceSub, Nat.add_zero, Nat.zero_add, List.cons.injEq, Bool.not_eq_true', decide_eq_false_iff_not, eq_self, reduceCtorEq, Bool.false_eq_true, if_true, if_false, ite_true, ite_false, and_self, ↓tLc_range1, ↓tLc_range2, ↓tLc_list, ↓tLc_tup, ↓tYes_, wipe0, wipe1, ↓tCallS_, ↓rIxL_, ↓rIxT_, ↓rSlL_, ↓rCat_, ↓rSetL_, ↓rRep_, ↓rGcd_, ↓tCallK_, ↓gUnl_, ↓tRaise_, decide_true, decide_false, not_true_eq_false, not_false_eq_true, false_and, or_false, false_or, and_false, and_assoc, exists_const, forall_const, forall_eq'])

section
variable {P : Program} {w : World} {K : PySem.W.Frag} {mg : Str → Option Value} {base : Heap}
theorem letter_ne {a b : Str} (h : isLetterS a = true) (hb : b.length ≠ 1) : a ≠ b := fun z => hb (by rw [← z]; exact letter_len h)
theorem sm_letter {a : Str} (h : isLetterS a = true) : smS a = true := by
  obtain ⟨s, e, t⟩ := letter_tok (d := .str a) h
  cases e
  unfold smS
  rw [decide_eq_true (show a.length ≤ 10000 from Nat.le_trans t.len (by decide)), t.ok]; rfl
/-- how deep a tree of n more braces stands -/
def dpt (n : Nat) : Int := 4 - (n : Int)
/-- what a reader of words promises: it reads as f does -/
def spRd (K : PySem.W.Frag) (C : Addr) (f : List Str → Res) (ex : List V) (pre : List Str → Prop) : Sp := fun vs H Q _ => ∃ (r l : Addr) (rest : List Str), vs = .ref r :: ex ∧ pre rest ∧ (∀ w ∈ rest, smS w = true) ∧ rest.length ≤ 30000 ∧ WdR C H r l rest ∧
  ∀ (x : V) (H' : Hp) (rest' : List Str), But r H H' → WdR C H' r l rest' → OV K (newp H H') x ((f rest).map (·.1)) → (∀ d r', f rest = some (d, r') → rest' = r') → Q x H'
theorem sc_nt : FnScope ["words", "one", "sign", "other"] ["words"] (defScope (top 15)) := ⟨rfl, rfl, rfl, by decide +kernel, rfl, by decide +kernel, by decide +kernel⟩
theorem ok_nt {C fI fP fT fO : Addr} {fdI fdP fdT fdO : FuncData} (T : Tx mg) (W : WdT P w K mg base C fI fP fT fO fdI fdP fdT fdO) {f : Addr} {fd : FuncData} (F : FD K "read_next_or_tie" (top 15) f fd) {f1 f2 : Addr} {fd1 fd2 : FuncData} (C1 : Cal P w K mg base CX0 1 "is_letter" ["value"] (spData isLetter K) f1 fd1) (C2 : Cal P w K mg base CX0 2 "is_goal" ["value"] (spData isGoal K) f2 fd2) : FnOk P w K mg base CX0 3 f fd ["words"] (spRd K C refDeed [] fun ts => ts.headD "" ≠ "drop") := by
  obtain ⟨gis_letter, kis_letter, bis_letter, Fis_letter⟩ := C1
  obtain ⟨gis_goal, kis_goal, bis_goal, Fis_goal⟩ := C2
  refine F.ok sc_nt (fun vs H Q E h => ?_) (fun cdv A outer s H vs Q E hr h => ?_)
  · obtain ⟨_, _, _, rfl, _⟩ := h
    rfl
  · obtain ⟨r, l, rest, rfl, hpre, hsm, hln, hw, k⟩ := h
    have nd := sc_nt.nd
    have ma := sm_head hsm
    have mb := sm_head (sm_tail hsm)
    have mc := sm_head (sm_tail (sm_tail hsm))
    have md := sm_head (sm_tail (sm_tail (sm_tail hsm)))
    unfold refDeed at k
    rw [if_neg hpre] at k
    refine ⟨_, (pss_cons (ps_if (pt_cmpR op_eq (pe_meth0 (pv 0) W.cl W.m_peek W.F_peek (hr.mono (by omega)) W.b_peek .nil pass0) pe_str (nomark _)) (pss_cons (ps_expr (pe_meth0 (pv 0) W.cl W.m_take W.F_take (hr.mono (by omega)) W.b_take .nil pass0))
        (pss_cons (ps_par3 rfl nd (i := 1) (j := 2) (l := 3) rfl rfl rfl (by decide) (by decide) (by decide) rfl rfl rfl (pa_cons (pe_meth0 (pv 0) W.cl W.m_take W.F_take (hr.mono (by omega)) W.b_take .nil pass0) (pa_cons (pe_meth0 (pv 0) W.cl W.m_take W.F_take (hr.mono (by omega)) W.b_take .nil pass0) (pa_cons (pe_meth0 (pv 0) W.cl W.m_take W.F_take (hr.mono (by omega)) W.b_take .nil pass0) pa_nil))) rfl)
        (pss_one (ps_ret (pe_ifExp (PW.pt (pw_and (pt_val (pe_call Fis_letter (hr.mono (by omega)) rfl gis_letter kis_letter bis_letter .nil pass0 (pa_cons (pv 1) pa_nil))) (pw_and (pt_cmpR op_eq (pv 2) pe_str (nomark _)) (pw_and1 (pt_val (pe_call Fis_goal (hr.mono (by omega)) rfl gis_goal kis_goal bis_goal .nil pass0 (pa_cons (pv 3) pa_nil))))))) (pe_tup (pa_cons pe_str (pa_cons (pv 1) (pa_cons (pv 3) pa_nil)))) pe_non))))) pss_nil)
        (pss_cons (ps_par3 rfl nd (i := 1) (j := 2) (l := 3) rfl rfl rfl (by decide) (by decide) (by decide) rfl rfl rfl (pa_cons (pe_meth0 (pv 0) W.cl W.m_take W.F_take (hr.mono (by omega)) W.b_take .nil pass0) (pa_cons (pe_meth0 (pv 0) W.cl W.m_take W.F_take (hr.mono (by omega)) W.b_take .nil pass0) (pa_cons (pe_meth0 (pv 0) W.cl W.m_take W.F_take (hr.mono (by omega)) W.b_take .nil pass0) pa_nil))) rfl)
        (pss_cons (ps_if (PW.pt (pw_or (pt_not (pt_val (pe_call Fis_letter (hr.mono (by omega)) rfl gis_letter kis_letter bis_letter .nil pass0 (pa_cons (pv 1) pa_nil)))) (pw_or1 (pt_cmpR op_ne (pv 2) pe_str (nomark _))))) (pss_one (ps_ret pe_non)) pss_nil)
        (pss_cons (ps_if (pt_cmpR op_eq (pv 3) pe_str (nomark _)) (pss_one (ps_ret (pe_tup (pa_cons pe_str (pa_cons (pv 1) pa_nil))))) pss_nil)
        (pss_cons (ps_if (pt_cmpR op_ne (pv 3) pe_str (nomark _)) (pss_one (ps_ret (pe_ifExp (pt_val (pe_call Fis_goal (hr.mono (by omega)) rfl gis_goal kis_goal bis_goal .nil pass0 (pa_cons (pv 3) pa_nil))) (pe_tup (pa_cons pe_str (pa_cons (pv 1) (pa_cons (pv 3) pa_nil)))) pe_non))) pss_nil)
        (pss_cons (ps_set (i := 3) nd rfl (Or.inl rfl) (pe_meth0 (pv 0) W.cl W.m_take W.F_take (hr.mono (by omega)) W.b_take .nil pass0))
        (pss_one (ps_ret (pe_ifExp (pt_val (pe_call Fis_letter (hr.mono (by omega)) rfl gis_letter kis_letter bis_letter .nil pass0 (pa_cons (pv 3) pa_nil))) (pe_tup (pa_cons pe_str (pa_cons (pv 1) (pa_cons (pv 3) pa_nil)))) pe_non))))))))), ?_⟩
    refine sq fun U hU => ?_
    refine iq fun T1 U1 hT1 hU1 => ?_
    walk_at "rd"
    refine peekR rfl hw ?_
    walk_at "rd"
    by_cases tie : rest.headD "" = "next"
    · rw [if_pos tie]
      rw [if_pos tie] at k
      refine hT1 _ ?_
      clear hT1 hU1 hU
      refine sq fun V hV => ?_
      walk_at "rd"
      refine takeR rfl hw fun H1 b1 w1 => hV _ _ ?_
      clear hV
      refine sq fun V hV => ?_
      walk_at "rd"
      refine takeR rfl w1 fun H2 b2 w2 => ?_
      refine takeR rfl w2 fun H3 b3 w3 => ?_
      refine takeR rfl w3 fun H4 b4 w4 => hV _ _ ?_
      clear hV
      have bb := b1.trans (b2.trans (b3.trans b4))
      clear hw w1 w2 w3 b1 b2 b3 b4 hsm hpre hln tie
      generalize rest.tail.headD "" = a at *
      generalize rest.tail.tail.headD "" = sg at *
      generalize rest.tail.tail.tail.headD "" = b at *
      generalize rest.tail.tail.tail.tail = r4 at *
      have bad : ∀ H', Same H4 H' → ¬ (isLetterS a = true ∧ sg = "=" ∧ isGoal (.str b) = true) → Q .non H' := fun H' s hn => by
        rw [if_neg hn] at k
        exact k _ _ r4 (bb.trans (But.same s)) (w4.up s) rfl (fun _ _ z => nomatch z)
      walk_at "rd"
      refine ⟨_, .str a, rfl, .str a mb, fun H5 s5 => ?_⟩
      walk_at "rd"
      by_cases ha : isLetterS a = true
      · rw [if_pos (show isLetter (.str a) = true from ha)]
        by_cases hs : sg = "="
        · rw [if_pos hs]
          refine ⟨_, .str b, rfl, .str b md, fun H6 s6 => ?_⟩
          walk_at "rd"
          by_cases hb : isGoal (.str b) = true
          · rw [if_pos hb]
            refine ⟨by decide, fun q hq => ?_⟩
            rw [if_pos ⟨ha, hs, hb⟩] at k
            have ss := s5.trans s6
            have qn := bnone (bb.trans (But.same ss)) hq ((w4.up ss).ne hq)
            exact k _ _ r4 (bb.trans (But.same (ss.trans (same_new hq)))) (w4.up (ss.trans (same_new hq))) (tup3 ((newp_at qn).trans upd_same) (by decide +kernel) mb md) (fun d r' z => by cases z; rfl)
          · rw [if_neg hb]
            exact bad _ (s5.trans s6) (fun z => hb z.2.2)
        · rw [if_neg hs]
          exact bad _ s5 (fun z => hs z.2.1)
      · rw [if_neg (show ¬ isLetter (.str a) = true from ha)]
        exact bad _ s5 (fun z => ha z.1)
    · rw [if_neg tie]
      rw [if_neg tie] at k
      refine hU1 _ ?_
      clear hT1 hU1
      walk_at "rd"
      refine hU _ _ ?_
      clear hU
      refine sq fun U hU => ?_
      walk_at "rd"
      refine takeR rfl hw fun H1 b1 w1 => ?_
      refine takeR rfl w1 fun H2 b2 w2 => ?_
      refine takeR rfl w2 fun H3 b3 w3 => hU _ _ ?_
      clear hU
      have bb := b1.trans (b2.trans b3)
      clear hw w1 w2 b1 b2 b3 hsm hpre hln tie
      have e4 : ∀ x : Str, rest.tail.tail.tail.headD "" = x → rest.tail.tail.tail.headD "" = x := fun _ h => h
      generalize rest.headD "" = a at *
      generalize rest.tail.headD "" = sg at *
      generalize rest.tail.tail.headD "" = b at *
      generalize rest.tail.tail.tail = r3 at *
      refine sq fun U hU => ?_
      walk_at "rd"
      refine ⟨_, .str a, rfl, .str a ma, fun H4 s4 => ?_⟩
      walk_at "rd"
      by_cases h1 : isLetterS a = true ∧ sg = "="
      · rw [if_neg (by rw [show isLetter (.str a) = true from h1.1]; decide), if_neg (by simp [h1.2])]
        rw [if_pos h1] at k
        refine hU _ _ ?_
        clear hU
        replace bb := bb.trans (But.same (u := r) s4)
        replace w3 := w3.up s4
        refine sq fun U hU => ?_
        walk_at "rd"
        by_cases n1 : b = "new"
        · rw [if_pos n1]
          rw [if_pos n1] at k
          refine ⟨by decide, fun q hq => ?_⟩
          have qn := bnone bb hq (w3.ne hq)
          exact k _ _ r3 (bb.trans (But.same (same_new hq))) (w3.up (same_new hq)) (tup2 ((newp_at qn).trans upd_same) (by decide +kernel) ma) (fun d r' z => by cases z; rfl)
        · rw [if_neg n1]
          rw [if_neg n1] at k
          refine hU _ _ ?_
          clear hU
          refine sq fun U hU => ?_
          walk_at "rd"
          by_cases n2 : b = "next"
          · rw [if_neg (by simp [n2])]
            rw [if_pos n2] at k
            refine hU _ _ ?_
            clear hU
            refine sq fun U hU => ?_
            walk_at "rd"
            refine takeR rfl w3 fun H5 b5 w5 => hU _ _ ?_
            clear hU
            replace bb := bb.trans b5
            generalize r3.headD "" = c at *
            generalize r3.tail = r4 at *
            walk_at "rd"
            refine ⟨_, .str c, rfl, .str c md, fun H6 s6 => ?_⟩
            walk_at "rd"
            by_cases hc : isLetterS c = true
            · rw [if_pos (show isLetter (.str c) = true from hc)]
              rw [if_pos hc] at k
              refine ⟨by decide, fun q hq => ?_⟩
              have qn := bnone (bb.trans (But.same s6)) hq ((w5.up s6).ne hq)
              exact k _ _ r4 (bb.trans (But.same (s6.trans (same_new hq)))) (w5.up (s6.trans (same_new hq))) (tup3 ((newp_at qn).trans upd_same) (by decide +kernel) ma md) (fun d r' z => by cases z; rfl)
            · rw [if_neg (show ¬ isLetter (.str c) = true from hc)]
              rw [if_neg hc] at k
              exact k _ _ r4 (bb.trans (But.same s6)) (w5.up s6) rfl (fun _ _ z => nomatch z)
          · rw [if_pos n2]
            rw [if_neg n2] at k
            refine ⟨_, .str b, rfl, .str b mc, fun H6 s6 => ?_⟩
            walk_at "rd"
            by_cases hb : isGoal (.str b) = true
            · rw [if_pos hb]
              rw [if_pos hb] at k
              refine ⟨by decide, fun q hq => ?_⟩
              have qn := bnone (bb.trans (But.same s6)) hq ((w3.up s6).ne hq)
              exact k _ _ r3 (bb.trans (But.same (s6.trans (same_new hq)))) (w3.up (s6.trans (same_new hq))) (tup3 ((newp_at qn).trans upd_same) (by decide +kernel) ma mc) (fun d r' z => by cases z; rfl)
            · rw [if_neg hb]
              rw [if_neg hb] at k
              exact k _ _ r3 (bb.trans (But.same s6)) (w3.up s6) rfl (fun _ _ z => nomatch z)
      · rw [if_neg h1] at k
        have fin : Q .non H4 := k _ _ r3 (bb.trans (But.same s4)) (w3.up s4) rfl (fun _ _ z => nomatch z)
        by_cases ha : isLetterS a = true
        · rw [if_neg (by rw [show isLetter (.str a) = true from ha]; decide), if_pos (fun z => h1 ⟨ha, z⟩)]
          exact fin
        · rw [if_pos (by rw [show isLetter (.str a) = false from Bool.eq_false_iff.mpr ha])]
          exact fin
end
end K38

set_option Elab.async false
set_option linter.all false
set_option maxRecDepth 100000
set_option maxHeartbeats 4000000
namespace K38
open PySem PySem.Spec PyProof.Rows L2 Rd Dt Dq Pk TL
local macro_rules | `(tactic| walk_at "rd") => `(tactic| try simp only [↓tFld_, ↓sFld_, ↓tVar_, ↓tC_, ↓tM1, ↓tDNewK_, ↓tOp_, ↓tUn_, ↓rI_, ↓rI0_, ↓rU_, ↓eq_ii, ↓ne_ii, ↓eq_ss, ↓ne_ss, ↓eq_bb, ↓ne_bb, ↓tAndV_, ↓tOrV_, ↓tNotV_, ↓tIf_, ↓tTest_, ↓tB_, ↓tAnd_, ↓tOr_, ↓tNot_, ↓tChain_, ↓tNil_, ↓tCons_, ↓tTup_, ↓tLst_, ↓tCB_, ↓tCall_, ↓tSeq_, ↓tNext_, ↓tRet_, ↓tRetN_, ↓tDrop_, ↓tBreak_, ↓tNever_, ↓tIfS_, ↓tAsg_, ↓gName_, ↓gTup_, ↓gCons_, ↓gNil_, ↓gSub_, ↓tPar_, ↓tPar3_, ↓tSl_, ↓tNoPart_, ↓tPart_, ↓tBM_, ↓tFor_range1, ↓tFor_range2, ↓tFor_list, ↓tFor_tup, L2.start, List.headD_cons, List.headD_nil, List.tail_cons, List.map_cons, List.map_nil, List.length_cons, List.length_nil, List.replicate, List.append_nil, List.nil_append, List.cons_append, List.getElem?_cons_zero, List.getElem?_cons_succ, List.set_cons_zero, List.set_cons_succ, Option.some.injEq, V.int.injEq, V.bl.injEq, V.str.injEq, V.ref.injEq, exists_eq_left, exists_eq_left', exists_eq_right, exists_eq, exists_and_left, and_true, true_and, decide_eq_true_eq, Nat.reduceAdd, Nat.reduceSub, Nat.add_zero, Nat.zero_add, List.cons.injEq, Bool.not_eq_true', decide_eq_false_iff_not, eq_self, reduceCtorEq, Bool.false_eq_true, if_true, if_false, ite_true, ite_false, and_self, ↓tLc_range1, ↓tLc_range2, ↓tLc_list, ↓tLc_tup, ↓tYes_, wipe0, wipe1, ↓tCallS_, ↓rIxL_, ↓rIxT_, ↓rSlL_, ↓rCat_, ↓rSetL_, ↓rRep_, ↓rGcd_, ↓tCallK_, ↓gUnl_, ↓tRaise_, decide_true, decide_false, not_true_eq_false, not_false_eq_true, false_and, or_false, false_or, and_false, and_assoc, exists_const, forall_const, forall_eq'])

section
variable {P : Program} {w : World} {K : PySem.W.Frag} {mg : Str → Option Value} {base : Heap}
def any (_ : List Str) : Prop := True
def spBlk (K : PySem.W.Frag) (C : Addr) (n : Nat) : Sp := spRd K C (refBlk n) [.int (dpt n)] any
def spRow (K : PySem.W.Frag) (C : Addr) (n : Nat) : Sp := spRd K C (refRows (refSt n)) [.int (dpt n)] any
def spStm (K : PySem.W.Frag) (C : Addr) (n : Nat) : Sp := spRd K C (refSt n) [.int (dpt n)] any
def spIf (K : PySem.W.Frag) (C : Addr) (n : Nat) : Sp := spRd K C (refIf (refBlk n)) [.int (dpt n)] any
def spWh (K : PySem.W.Frag) (C : Addr) (n : Nat) : Sp := spRd K C (refWhile (refBlk n)) [.int (dpt n)] any
def spRowP (K : PySem.W.Frag) (C : Addr) : Nat → Sp
  | 0 => fun _ _ _ _ => False
  | n + 1 => spRow K C n
theorem sub_sm {ts r : List Str} (h : r <:+ ts) (hs : ∀ w ∈ ts, smS w = true) : ∀ w ∈ r, smS w = true := fun w hw => hs w (h.subset hw)
theorem tree_ref {H : Hp} {x : V} {f : PyData → Bool} {d : PyData} (hd : treeOf f d = true) (h : Dq K H x d) : ∃ a, x = .ref a := by
  cases d with
  | tuple ds =>
    cases h
    exact ⟨_, rfl⟩
  | _ => cases hd
theorem blk_good : ∀ n, ∃ p, Good (treeOf p) (refBlk n) ∧ Suf (refBlk n)
  | 0 => ⟨fun _ => true, (fun _ _ _ h => by cases h), (fun _ _ _ h => by cases h)⟩
  | n + 1 => ⟨isSt n, refBlock_good (refRows_good (refSt_good n)), suf_block (suf_rows (suf_st n))⟩
theorem sc_rb : FnScope ["words", "depth", "found"] ["words", "depth"] (defScope (top 16)) := ⟨rfl, rfl, rfl, by decide +kernel, rfl, by decide +kernel, by decide +kernel⟩
theorem ok_rb {C fI fP fT fO : Addr} {fdI fdP fdT fdO : FuncData} (T : Tx mg) (W : WdT P w K mg base C fI fP fT fO fdI fdP fdT fdO) (n : Nat) (hn : n ≤ 4) {f : Addr} {fd : FuncData} (F : FD K "read_block" (top 16) f fd) {f1 : Addr} {fd1 : FuncData} (C1 : Cal P w K mg base CX0 (4 + 4 * n) "read_rows" ["words", "depth"] (spRowP K C n) f1 fd1) : FnOk P w K mg base CX0 (4 + 4 * n + 1) f fd ["words", "depth"] (spBlk K C n) := by
  obtain ⟨gread_rows, kread_rows, bread_rows, Fread_rows⟩ := C1
  obtain ⟨tB, hMB⟩ := T.mb
  refine F.ok sc_rb (fun vs H Q E h => ?_) (fun cdv A outer s H vs Q E hr h => ?_)
  · obtain ⟨_, _, _, rfl, _⟩ := h
    rfl
  · obtain ⟨r, l, rest, rfl, _, hsm, hln, hw, k⟩ := h
    have nd := sc_rb.nd
    refine ⟨_, (pss_cons (ps_if (PW.pt (pw_or (pt_cmpR op_ne (pe_meth0 (pv 0) W.cl W.m_take W.F_take (hr.mono (by omega)) W.b_take .nil pass0) pe_str (nomark _)) (pw_or1 (pt_cmpR op_ge (pv 1) (pe_glob (v := .int 4) rfl hMB ⟨_, rfl⟩) (nomark _))))) (pss_one (ps_ret pe_non)) pss_nil)
        (pss_cons (ps_set (i := 2) nd rfl (Or.inl rfl) (pe_call Fread_rows (hr.mono (by omega)) rfl gread_rows kread_rows bread_rows .nil pass0 (pa_cons (pv 0) (pa_cons (pe_op op_add (pv 1) pe_int) pa_nil))))
        (pss_one (ps_ret (pe_ifExp (pt_cmpR op_eq (pe_meth0 (pv 0) W.cl W.m_take W.F_take (hr.mono (by omega)) W.b_take .nil pass0) pe_str (nomark _)) (pv 2) pe_non))))), ?_⟩
    refine sq fun U hU => ?_
    walk_at "rd"
    refine takeR rfl hw fun H1 b1 w1 => ?_
    walk_at "rd"
    cases n with
    | zero =>
      have fin : Q .non H1 := k _ _ _ b1 w1 rfl (fun _ _ z => nomatch z)
      by_cases h1 : rest.headD "" = "{"
      · rw [if_neg (fun z => z h1), if_pos (by unfold dpt; decide)]
        exact fin
      · rw [if_pos h1]
        exact fin
    | succ n =>
      have kk : refBlk (n + 1) = refBlock (refRows (refSt n)) := rfl
      rw [kk] at k
      unfold refBlock at k
      by_cases h1 : rest.headD "" = "{"
      · rw [if_pos h1] at k
        rw [if_neg (fun z => z h1), if_neg (by unfold dpt; omega)]
        refine hU _ _ ?_
        clear hU
        refine sq fun U hU => ?_
        walk_at "rd"
        refine ⟨r, l, rest.tail, by unfold dpt; rw [show (4 - ((n + 1 : Nat) : Int)) + 1 = 4 - (n : Int) by omega], trivial, sm_tail hsm, by rw [List.length_tail]; omega, w1, fun x H2 rest' b2 w2 hx hres => hU _ _ ?_⟩
        clear hU
        walk_at "rd"
        refine takeR rfl w2 fun H3 b3 w3 => ?_
        walk_at "rd"
        have bb := b1.trans (b2.trans b3)
        have hx' := (hx.up (newp_later b1 fun p => w1.ne)).up (newp_but (fun p => hw.ne) b3)
        cases e : refRows (refSt n) rest.tail with
        | none =>
          rw [e] at hx' k
          have ex : x = .non := hx'
          subst ex
          have fin : Q .non H3 := k _ _ _ bb w3 rfl (fun _ _ z => nomatch z)
          by_cases h2 : rest'.headD "" = "}"
          · rw [if_pos h2]; exact fin
          · rw [if_neg h2]; exact fin
        | some dr =>
          obtain ⟨d, r'⟩ := dr
          rw [e] at hx' k
          obtain rfl := hres d r' e
          dsimp only at k
          by_cases h2 : rest'.headD "" = "}"
          · rw [if_pos h2]
            rw [if_pos h2] at k
            exact k _ _ _ bb w3 hx' (fun d r' z => by cases z; rfl)
          · rw [if_neg h2]
            rw [if_neg h2] at k
            exact k _ _ _ bb w3 rfl (fun _ _ z => nomatch z)
      · rw [if_neg h1] at k
        rw [if_pos h1]
        exact k _ _ _ b1 w1 rfl (fun _ _ z => nomatch z)
theorem dq_ref' {H : Hp} {x : V} {d : PyData} (hd : isTest d = true) (h : Dq K H x d) : ∃ a, x = .ref a := by
  obtain ⟨k, cs, rfl, _⟩ := test_cases hd
  cases h
  exact ⟨_, rfl⟩
theorem sc_rw : FnScope ["words", "depth", "test", "body"] ["words", "depth"] (defScope (top 18)) := ⟨rfl, rfl, rfl, by decide +kernel, rfl, by decide +kernel, by decide +kernel⟩
theorem ok_rw {C fI fP fT fO : Addr} {fdI fdP fdT fdO : FuncData} (T : Tx mg) (W : WdT P w K mg base C fI fP fT fO fdI fdP fdT fdO) (n : Nat) {f : Addr} {fd : FuncData} (F : FD K "read_while" (top 18) f fd) {f1 f2 : Addr} {fd1 fd2 : FuncData} (C1 : Cal P w K mg base CX0 4 "read_test" ["words"] (spTestG K C) f1 fd1) (C2 : Cal P w K mg base CX0 (5 + 4 * n) "read_block" ["words", "depth"] (spBlk K C n) f2 fd2) : FnOk P w K mg base CX0 (5 + 4 * n + 1) f fd ["words", "depth"] (spWh K C n) := by
  obtain ⟨gread_test, kread_test, bread_test, Fread_test⟩ := C1
  obtain ⟨gread_block, kread_block, bread_block, Fread_block⟩ := C2
  refine F.ok sc_rw (fun vs H Q E h => ?_) (fun cdv A outer s H vs Q E hr h => ?_)
  · obtain ⟨_, _, _, rfl, _⟩ := h
    rfl
  · obtain ⟨r, l, rest, rfl, _, hsm, hln, hw, k⟩ := h
    have nd := sc_rw.nd
    have hr0 : ∀ p, H p = none → p ≠ r := fun p => hw.ne
    unfold refWhile at k
    refine ⟨_, (pss_cons (ps_set (i := 2) nd rfl (Or.inl rfl) (pe_call Fread_test (hr.mono (by omega)) rfl gread_test kread_test bread_test .nil pass0 (pa_cons (pv 0) pa_nil)))
        (pss_cons (ps_set (i := 3) nd rfl (Or.inl rfl) (pe_ifExp (pt_cmpR op_isN (pv 2) pe_non (nomark _)) pe_non (pe_call Fread_block (hr.mono (by omega)) rfl gread_block kread_block bread_block .nil pass0 (pa_cons (pv 0) (pa_cons (pv 1) pa_nil)))))
        (pss_one (ps_ret (pe_ifExp (pt_cmpR op_isN (pv 3) pe_non (nomark _)) pe_non (pe_tup (pa_cons pe_str (pa_cons (pv 2) (pa_cons (pv 3) pa_nil))))))))), ?_⟩
    refine sq fun U hU => ?_
    walk_at "rd"
    refine ⟨r, l, rest, rfl, hsm, hln, hw, fun x1 H1 r1 b1 w1 hx1 hr1 => hU _ _ ?_⟩
    clear hU
    refine sq fun U hU => ?_
    walk_at "rd"
    cases e1 : pTest rest with
    | none =>
      rw [e1] at hx1 k
      have ex : x1 = .non := hx1
      subst ex
      rw [if_pos rfl]
      refine hU _ _ ?_
      walk_at "rd"
      exact k _ _ _ b1 w1 rfl (fun _ _ z => nomatch z)
    | some qr =>
      obtain ⟨q, r1'⟩ := qr
      rw [e1] at hx1 k
      dsimp only at k
      obtain rfl := hr1 q r1' e1
      obtain ⟨tg, tl'⟩ := pTest_good _ _ _ e1
      have ts1 := suf_test _ _ _ e1
      obtain ⟨a1, rfl⟩ := dq_ref' tg hx1
      rw [if_neg (by simp)]
      refine ⟨r, l, r1, rfl, trivial, sub_sm ts1 hsm, by omega, w1, fun x2 H2 r2 b2 w2 hx2 hr2 => hU _ _ ?_⟩
      clear hU
      have bb := b1.trans b2
      have hx2' := hx2.up (newp_later b1 fun p => w1.ne)
      have hx1' := Dq.up (newp_but hr0 b2) hx1
      walk_at "rd"
      cases e2 : refBlk n r1 with
      | none =>
        rw [e2] at hx2' k
        have ex : x2 = .non := hx2'
        subst ex
        rw [if_pos rfl]
        exact k _ _ _ bb w2 rfl (fun _ _ z => nomatch z)
      | some ar =>
        obtain ⟨a, r2'⟩ := ar
        rw [e2] at hx2' k
        obtain rfl := hr2 a r2' e2
        obtain ⟨p, bg, bs⟩ := blk_good n
        obtain ⟨a2, rfl⟩ := tree_ref (bg _ _ _ e2).1 hx2'
        rw [if_neg (by simp)]
        refine ⟨by decide, fun q' hq => ?_⟩
        have s5 : Same H2 (upd H2 q' (.tup [.str "while", .ref a1, .ref a2])) := same_new hq
        have bs5 := But.same (u := r) s5
        exact k _ _ _ (bb.trans bs5) (w2.up s5) (Dq.tup ((newp_at (bnone bb hq (w2.ne hq))).trans upd_same) (.cons (.str _ (by decide +kernel)) (.cons (hx1'.up (newp_but hr0 bs5)) (.cons (Dq.up (newp_but hr0 bs5) hx2') .nil)))) (fun d r' z => by cases z; rfl)
theorem sc_ri : FnScope ["words", "depth", "test", "other", "then"] ["words", "depth"] (defScope (top 17)) := ⟨rfl, rfl, rfl, by decide +kernel, rfl, by decide +kernel, by decide +kernel⟩
theorem ok_ri {C fI fP fT fO : Addr} {fdI fdP fdT fdO : FuncData} (T : Tx mg) (W : WdT P w K mg base C fI fP fT fO fdI fdP fdT fdO) (n : Nat) {f : Addr} {fd : FuncData} (F : FD K "read_if" (top 17) f fd) {f1 f2 : Addr} {fd1 fd2 : FuncData} (C1 : Cal P w K mg base CX0 4 "read_test" ["words"] (spTestG K C) f1 fd1) (C2 : Cal P w K mg base CX0 (5 + 4 * n) "read_block" ["words", "depth"] (spBlk K C n) f2 fd2) : FnOk P w K mg base CX0 (5 + 4 * n + 1) f fd ["words", "depth"] (spIf K C n) := by
  obtain ⟨gread_test, kread_test, bread_test, Fread_test⟩ := C1
  obtain ⟨gread_block, kread_block, bread_block, Fread_block⟩ := C2
  refine F.ok sc_ri (fun vs H Q E h => ?_) (fun cdv A outer s H vs Q E hr h => ?_)
  · obtain ⟨_, _, _, rfl, _⟩ := h
    rfl
  · obtain ⟨r, l, rest, rfl, _, hsm, hln, hw, k⟩ := h
    have nd := sc_ri.nd
    have hr0 : ∀ p, H p = none → p ≠ r := fun p => hw.ne
    unfold refIf at k
    refine ⟨_, (pss_cons (ps_par rfl nd (i := 2) (j := 3) rfl rfl (by decide) rfl rfl (pa_cons (pe_call Fread_test (hr.mono (by omega)) rfl gread_test kread_test bread_test .nil pass0 (pa_cons (pv 0) pa_nil)) (pa_cons (pe_tup pa_nil) pa_nil)) rfl)
        (pss_cons (ps_set (i := 4) nd rfl (Or.inl rfl) (pe_ifExp (pt_cmpR op_isN (pv 2) pe_non (nomark _)) pe_non (pe_call Fread_block (hr.mono (by omega)) rfl gread_block kread_block bread_block .nil pass0 (pa_cons (pv 0) (pa_cons (pv 1) pa_nil)))))
        (pss_cons (ps_if (PW.pt (pw_and (pt_cmpR op_notN (pv 4) pe_non (nomark _)) (pw_and1 (pt_cmpR op_eq (pe_meth0 (pv 0) W.cl W.m_peek W.F_peek (hr.mono (by omega)) W.b_peek .nil pass0) pe_str (nomark _))))) (pss_cons (ps_expr (pe_meth0 (pv 0) W.cl W.m_take W.F_take (hr.mono (by omega)) W.b_take .nil pass0))
        (pss_one (ps_set (i := 3) nd rfl (Or.inl rfl) (pe_call Fread_block (hr.mono (by omega)) rfl gread_block kread_block bread_block .nil pass0 (pa_cons (pv 0) (pa_cons (pv 1) pa_nil)))))) pss_nil)
        (pss_one (ps_ret (pe_ifExp (PW.pt (pw_or (pt_cmpR op_isN (pv 4) pe_non (nomark _)) (pw_or1 (pt_cmpR op_isN (pv 3) pe_non (nomark _))))) pe_non (pe_tup (pa_cons pe_str (pa_cons (pv 2) (pa_cons (pv 4) (pa_cons (pv 3) pa_nil))))))))))), ?_⟩
    refine sq fun U hU => ?_
    walk_at "rd"
    refine ⟨r, l, rest, rfl, hsm, hln, hw, fun x1 H1 r1 b1 w1 hx1 hr1 => ⟨by decide, fun p0 hp0 => hU _ _ ?_⟩⟩
    clear hU
    have s2 : Same H1 (upd H1 p0 (.tup [])) := same_new hp0
    have e0 : (upd H1 p0 (HO.tup [])) p0 = some (.tup []) := upd_same
    have n0 := bnone b1 hp0 (w1.ne hp0)
    replace b1 := b1.trans (But.same (u := r) s2)
    replace hx1 := hx1.up (newp_but hr0 (But.same (u := r) s2))
    replace w1 := w1.up s2
    generalize upd H1 p0 (HO.tup []) = H2 at b1 w1 hx1 e0 ⊢
    clear s2 hp0
    refine sq fun U hU => ?_
    walk_at "rd"
    cases e1 : pTest rest with
    | none =>
      rw [e1] at hx1 k
      have ex : x1 = .non := hx1
      subst ex
      rw [if_pos rfl]
      refine hU _ _ ?_
      clear hU
      refine sq fun U hU => ?_
      walk_at "rd"
      refine hU _ _ ?_
      walk_at "rd"
      exact k _ _ _ b1 w1 rfl (fun _ _ z => nomatch z)
    | some qr =>
      obtain ⟨q, r1'⟩ := qr
      rw [e1] at hx1 k
      dsimp only at k
      obtain rfl := hr1 q r1' e1
      obtain ⟨tg, tl'⟩ := pTest_good _ _ _ e1
      have ts1 := suf_test _ _ _ e1
      obtain ⟨a1, rfl⟩ := dq_ref' tg hx1
      rw [if_neg (by simp)]
      refine ⟨r, l, r1, rfl, trivial, sub_sm ts1 hsm, by omega, w1, fun x2 H3 r2 b3 w3 hx2 hr2 => hU _ _ ?_⟩
      clear hU
      have b13 := b1.trans b3
      have hx2' := hx2.up (newp_later b1 fun p => w1.ne)
      have hx1' := Dq.up (newp_but hr0 b3) hx1
      have e03 := b3 _ _ (hr0 p0 n0) e0
      obtain ⟨p, bg, bs⟩ := blk_good n
      refine sq fun U hU => ?_
      cases e2 : refBlk n r1 with
      | none =>
        rw [e2] at hx2' k
        have ex : x2 = .non := hx2'
        subst ex
        walk_at "rd"
        refine hU _ _ ?_
        walk_at "rd"
        exact k _ _ _ b13 w3 rfl (fun _ _ z => nomatch z)
      | some ar =>
        obtain ⟨a, r2'⟩ := ar
        rw [e2] at hx2' k
        dsimp only at k
        obtain rfl := hr2 a r2' e2
        have g2 := (bg _ _ _ e2)
        have sf2 := (bs _ _ _ e2).trans ts1
        obtain ⟨a2, rfl⟩ := tree_ref g2.1 hx2'
        have fin : ∀ (H4 : Hp) (q' a3 : Addr) (b : PyData) (r4 : List Str), But r H3 H4 → WdR C H4 r l r4 → Dq K (newp H H4) (.ref a3) b → H4 q' = none → (∀ (x : V) (H' : Hp) (rest' : List Str), But r H H' → WdR C H' r l rest' → Dq K (newp H H') x (.tuple [.str "if", q, a, b]) → rest' = r4 → Q x H') → Q (.ref q') (upd H4 q' (.tup [.str "if", .ref a1, .ref a2, .ref a3])) := fun H4 q' a3 b r4 b4 w4 hx3 hq kk => by
          have s5 : Same H4 (upd H4 q' (.tup [.str "if", .ref a1, .ref a2, .ref a3])) := same_new hq
          have bs5 := But.same (u := r) s5
          exact kk _ _ r4 ((b13.trans b4).trans bs5) (w4.up s5) (Dq.tup ((newp_at (bnone (b13.trans b4) hq (w4.ne hq))).trans upd_same) (.cons (.str _ (by decide +kernel)) (.cons ((hx1'.up (newp_but hr0 b4)).up (newp_but hr0 bs5)) (.cons (Dq.up (newp_but hr0 bs5) (Dq.up (newp_but hr0 b4) hx2')) (.cons (hx3.up (newp_but hr0 bs5)) .nil))))) rfl
        refine iq fun T1 U1 hT1 hU1 => ?_
        walk_at "rd"
        refine peekR rfl w3 ?_
        walk_at "rd"
        by_cases el : r2.headD "" = "else"
        · rw [if_pos el]
          rw [if_pos el] at k
          refine hT1 _ ?_
          clear hT1 hU1
          refine sq fun V hV => ?_
          walk_at "rd"
          refine takeR rfl w3 fun H4 b4 w4 => hV _ _ ?_
          clear hV
          walk_at "rd"
          refine ⟨r, l, r2.tail, rfl, trivial, sub_sm ((suf1 _).trans sf2) hsm, by have := g2.2; rw [List.length_tail]; omega, w4, fun x3 H5 r3 b5 w5 hx3 hr3 => hU _ _ ?_⟩
          clear hU
          have b15 := b13.trans (b4.trans b5)
          have hx3' := hx3.up (newp_later (b13.trans b4) fun p => w4.ne)
          walk_at "rd"
          cases e3 : refBlk n r2.tail with
          | none =>
            rw [e3] at hx3' k
            have ex : x3 = .non := hx3'
            subst ex
            rw [if_pos rfl]
            exact k _ _ _ b15 w5 rfl (fun _ _ z => nomatch z)
          | some br =>
            obtain ⟨b, r3'⟩ := br
            rw [e3] at hx3' k
            obtain rfl := hr3 b r3' e3
            obtain ⟨a3, rfl⟩ := tree_ref (bg _ _ _ e3).1 hx3'
            rw [if_neg (by simp)]
            refine ⟨by decide, fun q' hq => ?_⟩
            exact fin H5 q' a3 b r3 (b4.trans b5) w5 hx3' hq fun x H' rest' bb ww hh er => k x H' rest' bb ww hh (fun d r' z => by cases z; exact er)
        · rw [if_neg el]
          rw [if_neg el] at k
          refine hU1 _ ?_
          clear hT1 hU1
          walk_at "rd"
          refine hU _ _ ?_
          clear hU
          walk_at "rd"
          refine ⟨by decide, fun q' hq => ?_⟩
          exact fin H3 q' p0 (.tuple []) r2 But.refl w3 (.tup ((newp_at n0).trans e03) .nil) hq fun x H' rest' bb ww hh er => k x H' rest' bb ww hh (fun d r' z => by cases z; exact er)
end
end K38

set_option Elab.async false
set_option linter.all false
set_option maxRecDepth 100000
set_option maxHeartbeats 4000000
namespace K38
open PySem PySem.Spec PyProof.Rows L2 Rd Dt Dq Pk TL
local macro_rules | `(tactic| walk_at "rd") => `(tactic| try simp only [↓tFld_, ↓sFld_, ↓tVar_, ↓tC_, ↓tM1, ↓tDNewK_, ↓tOp_, ↓tUn_, ↓rI_, ↓rI0_, ↓rU_, ↓eq_ii, ↓ne_ii, ↓eq_ss, ↓ne_ss, ↓eq_bb, ↓ne_bb, ↓tAndV_, ↓tOrV_, ↓tNotV_, ↓tIf_, ↓tTest_, ↓tB_, ↓tAnd_, ↓tOr_, ↓tNot_, ↓tChain_, ↓tNil_, ↓tCons_, ↓tTup_, ↓tLst_, ↓tCB_, ↓tCall_, ↓tSeq_, ↓tNext_, ↓tRet_, ↓tRetN_, ↓tDrop_, ↓tBreak_, ↓tNever_, ↓tIfS_, ↓tAsg_, ↓gName_, ↓gTup_, ↓gCons_, ↓gNil_, ↓gSub_, ↓tPar_, ↓tPar3_, ↓tSl_, ↓tNoPart_, ↓tPart_, ↓tBM_, ↓tFor_range1, ↓tFor_range2, ↓tFor_list, ↓tFor_tup, L2.start, List.headD_cons, List.headD_nil, List.tail_cons, List.map_cons, List.map_nil, List.length_cons, List.length_nil, List.replicate, List.append_nil, List.nil_append, List.cons_append, List.getElem?_cons_zero, List.getElem?_cons_succ, List.set_cons_zero, List.set_cons_succ, Option.some.injEq, V.int.injEq, V.bl.injEq, V.str.injEq, V.ref.injEq, exists_eq_left, exists_eq_left', exists_eq_right, exists_eq, exists_and_left, and_true, true_and, decide_eq_true_eq, Nat.reduceAdd, Nat.reduceSub, Nat.add_zero, Nat.zero_add, List.cons.injEq, Bool.not_eq_true', decide_eq_false_iff_not, eq_self, reduceCtorEq, Bool.false_eq_true, if_true, if_false, ite_true, ite_false, and_self, ↓tLc_range1, ↓tLc_range2, ↓tLc_list, ↓tLc_tup, ↓tYes_, wipe0, wipe1, ↓tCallS_, ↓rIxL_, ↓rIxT_, ↓rSlL_, ↓rCat_, ↓rSetL_, ↓rRep_, ↓rGcd_, ↓tCallK_, ↓gUnl_, ↓tRaise_, decide_true, decide_false, not_true_eq_false, not_false_eq_true, false_and, or_false, false_or, and_false, and_assoc, exists_const, forall_const, forall_eq'])

section
variable {P : Program} {w : World} {K : PySem.W.Frag} {mg : Str → Option Value} {base : Heap}
theorem sc_rs : FnScope ["words", "depth", "word", "one"] ["words", "depth"] (defScope (top 19)) := ⟨rfl, rfl, rfl, by decide +kernel, rfl, by decide +kernel, by decide +kernel⟩
theorem ok_rs {C fI fP fT fO : Addr} {fdI fdP fdT fdO : FuncData} (T : Tx mg) (W : WdT P w K mg base C fI fP fT fO fdI fdP fdT fdO) (n : Nat) {f : Addr} {fd : FuncData} (F : FD K "read_statement" (top 19) f fd) {f1 f2 f3 f4 : Addr} {fd1 fd2 fd3 fd4 : FuncData} (C1 : Cal P w K mg base CX0 1 "is_letter" ["value"] (spData isLetter K) f1 fd1) (C2 : Cal P w K mg base CX0 3 "read_next_or_tie" ["words"] (spRd K C refDeed [] fun ts => ts.headD "" ≠ "drop") f2 fd2)
    (C3 : Cal P w K mg base CX0 (6 + 4 * n) "read_if" ["words", "depth"] (spIf K C n) f3 fd3) (C4 : Cal P w K mg base CX0 (6 + 4 * n) "read_while" ["words", "depth"] (spWh K C n) f4 fd4) : FnOk P w K mg base CX0 (6 + 4 * n + 1) f fd ["words", "depth"] (spStm K C n) := by
  obtain ⟨gis_letter, kis_letter, bis_letter, Fis_letter⟩ := C1
  obtain ⟨gread_next_or_tie, kread_next_or_tie, bread_next_or_tie, Fread_next_or_tie⟩ := C2
  obtain ⟨gread_if, kread_if, bread_if, Fread_if⟩ := C3
  obtain ⟨gread_while, kread_while, bread_while, Fread_while⟩ := C4
  refine F.ok sc_rs (fun vs H Q E h => ?_) (fun cdv A outer s H vs Q E hr h => ?_)
  · obtain ⟨_, _, _, rfl, _⟩ := h
    rfl
  · obtain ⟨r, l, rest, rfl, _, hsm, hln, hw, k⟩ := h
    have nd := sc_rs.nd
    have hr0 : ∀ p, H p = none → p ≠ r := fun p => hw.ne
    rw [refSt_eq] at k
    have mb := sm_head (sm_tail hsm)
    refine ⟨_, (pss_cons (ps_set (i := 2) nd rfl (Or.inl rfl) (pe_meth0 (pv 0) W.cl W.m_peek W.F_peek (hr.mono (by omega)) W.b_peek .nil pass0))
        (pss_cons (ps_if (pt_cmpR op_notIn_seq (pv 2) (pe_tup (pa_cons pe_str (pa_cons pe_str (pa_cons pe_str pa_nil)))) rfl) (pss_one (ps_ret (pe_call Fread_next_or_tie (hr.mono (by omega)) rfl gread_next_or_tie kread_next_or_tie bread_next_or_tie .nil pass0 (pa_cons (pv 0) pa_nil)))) pss_nil)
        (pss_cons (ps_expr (pe_meth0 (pv 0) W.cl W.m_take W.F_take (hr.mono (by omega)) W.b_take .nil pass0))
        (pss_cons (ps_if (pt_cmpR op_eq (pv 2) pe_str (nomark _)) (pss_one (ps_ret (pe_call Fread_if (hr.mono (by omega)) rfl gread_if kread_if bread_if .nil pass0 (pa_cons (pv 0) (pa_cons (pv 1) pa_nil))))) pss_nil)
        (pss_cons (ps_if (pt_cmpR op_eq (pv 2) pe_str (nomark _)) (pss_one (ps_ret (pe_call Fread_while (hr.mono (by omega)) rfl gread_while kread_while bread_while .nil pass0 (pa_cons (pv 0) (pa_cons (pv 1) pa_nil))))) pss_nil)
        (pss_cons (ps_set (i := 3) nd rfl (Or.inl rfl) (pe_meth0 (pv 0) W.cl W.m_take W.F_take (hr.mono (by omega)) W.b_take .nil pass0))
        (pss_one (ps_ret (pe_ifExp (pt_val (pe_call Fis_letter (hr.mono (by omega)) rfl gis_letter kis_letter bis_letter .nil pass0 (pa_cons (pv 3) pa_nil))) (pe_tup (pa_cons pe_str (pa_cons (pv 3) pa_nil))) pe_non))))))))), ?_⟩
    refine sq fun U hU => ?_
    walk_at "rd"
    refine peekR rfl hw ?_
    refine hU _ _ ?_
    clear hU
    refine sq fun U hU => ?_
    walk_at "rd"
    refine ⟨by decide, fun p hp => notIn3 upd_same ?_⟩
    have s1 : Same H (upd H p (.tup [.str "if", .str "while", .str "drop"])) := same_new hp
    generalize upd H p (HO.tup [.str "if", .str "while", .str "drop"]) = H1 at s1 ⊢
    have w1 := hw.up s1
    have b1 : But r H H1 := But.same s1
    clear hp
    walk_at "rd"
    by_cases h1 : rest.headD "" = "if"
    · rw [if_pos h1] at k
      rw [if_neg (by rw [h1]; decide)]
      refine hU _ _ ?_
      clear hU
      refine sq fun U hU => ?_
      walk_at "rd"
      refine takeR rfl w1 fun H2 b2 w2 => hU _ _ ?_
      clear hU
      refine sq fun U hU => ?_
      walk_at "rd"
      rw [if_pos h1]
      exact ⟨r, l, rest.tail, rfl, trivial, sm_tail hsm, by rw [List.length_tail]; omega, w2, fun x H3 rest' b3 w3 hx hr => k x H3 rest' (b1.trans (b2.trans b3)) w3 (hx.up (newp_later (b1.trans b2) fun p => w2.ne)) hr⟩
    · rw [if_neg h1] at k
      by_cases h2 : rest.headD "" = "while"
      · rw [if_pos h2] at k
        rw [if_neg (by rw [h2]; decide)]
        refine hU _ _ ?_
        clear hU
        refine sq fun U hU => ?_
        walk_at "rd"
        refine takeR rfl w1 fun H2 b2 w2 => hU _ _ ?_
        clear hU
        refine sq fun U hU => ?_
        walk_at "rd"
        rw [if_neg h1]
        refine hU _ _ ?_
        clear hU
        refine sq fun U hU => ?_
        walk_at "rd"
        rw [if_pos h2]
        exact ⟨r, l, rest.tail, rfl, trivial, sm_tail hsm, by rw [List.length_tail]; omega, w2, fun x H3 rest' b3 w3 hx hr => k x H3 rest' (b1.trans (b2.trans b3)) w3 (hx.up (newp_later (b1.trans b2) fun p => w2.ne)) hr⟩
      · rw [if_neg h2] at k
        by_cases h3 : rest.headD "" = "drop"
        · rw [if_neg (by rw [h3]; decide)]
          unfold refDeed at k
          rw [if_pos h3] at k
          refine hU _ _ ?_
          clear hU
          refine sq fun U hU => ?_
          walk_at "rd"
          refine takeR rfl w1 fun H2 b2 w2 => hU _ _ ?_
          clear hU
          refine sq fun U hU => ?_
          walk_at "rd"
          rw [if_neg h1]
          refine hU _ _ ?_
          clear hU
          refine sq fun U hU => ?_
          walk_at "rd"
          rw [if_neg h2]
          refine hU _ _ ?_
          clear hU
          refine sq fun U hU => ?_
          walk_at "rd"
          refine takeR rfl w2 fun H3 b3 w3 => hU _ _ ?_
          clear hU
          walk_at "rd"
          refine ⟨_, .str (rest.tail.headD ""), rfl, .str _ mb, fun H4 s4 => ?_⟩
          walk_at "rd"
          have bb := b1.trans (b2.trans (b3.trans (But.same s4)))
          have w4 := w3.up s4
          by_cases ha : isLetterS (rest.tail.headD "") = true
          · rw [if_pos (show isLetter (.str (rest.tail.headD "")) = true from ha)]
            rw [if_pos ha] at k
            refine ⟨by decide, fun q hq => ?_⟩
            exact k _ _ _ (bb.trans (But.same (same_new hq))) (w4.up (same_new hq)) (tup2 ((newp_at (bnone bb hq (w4.ne hq))).trans upd_same) (by decide +kernel) mb) (fun d r' z => by cases z; rfl)
          · rw [if_neg (show ¬ isLetter (.str (rest.tail.headD "")) = true from ha)]
            rw [if_neg ha] at k
            exact k _ _ _ bb w4 rfl (fun _ _ z => nomatch z)
        · rw [if_pos (by rw [decide_eq_false h1, decide_eq_false h2, decide_eq_false h3]; rfl)]
          exact ⟨r, l, rest, rfl, h3, hsm, hln, w1, fun x H2 rest' b2 w2 hx hr => k x H2 rest' (b1.trans b2) w2 (hx.up (newp_later b1 fun p => w1.ne)) hr⟩
/-! ### the rows -/
theorem atI_last {xs : List V} (h : xs ≠ []) : ∃ v, atI xs (-1) = some v ∧ v ∈ xs := by
  have hl : 0 < xs.length := List.length_pos_iff.mpr h
  refine ⟨xs[xs.length - 1]'(by omega), ?_, List.getElem_mem _⟩
  have e : ixN xs.length (-1) = some (xs.length - 1) := by
    unfold ixN
    rw [if_neg (by decide), if_pos (by omega)]
    congr 1
    omega
  unfold atI
  rw [e]
  exact List.getElem?_eq_getElem (by omega)
theorem st_ref {n : Nat} {H : Hp} {x : V} {ts : List Str} {d : PyData} {r : List Str} (h : refSt n ts = some (d, r)) (hx : Dq K H x d) : ∃ a, x = .ref a := by
  have g := (refSt_good n _ _ _ h).1
  have : ∃ ds, d = .tuple ds := by
    cases n with
    | zero =>
      rcases deed_cases g with ⟨k, a, e, _⟩ | ⟨k, a, b, e, _⟩
      · exact ⟨_, e⟩
      · exact ⟨_, e⟩
    | succ m =>
      rcases st_cases g with z | ⟨t, a, b, e, z⟩ | ⟨t, a, e, z⟩
      · rcases deed_cases z with ⟨k, a, e, _⟩ | ⟨k, a, b, e, _⟩
        · exact ⟨_, e⟩
        · exact ⟨_, e⟩
      · exact ⟨_, e⟩
      · exact ⟨_, e⟩
  obtain ⟨ds, rfl⟩ := this
  cases hx
  exact ⟨_, rfl⟩
def left (o : Res) : Nat := match o with
  | none => 0
  | some (_, r) => r.length + 1
theorem atI_end {xs : List V} {x : V} : atI (xs ++ [x]) (-1) = some x := by
  have e : ixN (xs ++ [x]).length (-1) = some xs.length := by
    unfold ixN
    rw [if_neg (by decide), if_pos (by simp only [List.length_append, List.length_cons, List.length_nil]; omega)]
    congr 1
    simp only [List.length_append, List.length_cons, List.length_nil]
    omega
  unfold atI
  rw [e]
  simp
def roG (K : PySem.W.Frag) (C : Addr) (H0 : Hp) (r l p : Addr) (n : Nat) (goal : Res) (m : Nat) : L2.St → Hp → Prop := fun σ H => ∃ (acc : List PyData) (ts rest : List Str) (xs : List V) (x : V), goal = rowsWith (refSt n) (ts.length + 1) acc ts ∧ m = left (refSt n ts) ∧ But r H0 H ∧ WdR C H r l rest ∧ (∀ w ∈ ts, smS w = true) ∧ acc.length + ts.length ≤ 30000 ∧
  H p = some (.lst (xs ++ [x])) ∧ DqAll K (nw H0 p H) xs acc ∧ OV K (nw H0 p H) x ((refSt n ts).map (·.1)) ∧ (∀ d r', refSt n ts = some (d, r') → rest = r') ∧ σ = [some (.ref r), some (.int (dpt n)), some (.ref p)]
theorem sc_rr : FnScope ["words", "depth", "found"] ["words", "depth"] (defScope (top 20)) := ⟨rfl, rfl, rfl, by decide +kernel, rfl, by decide +kernel, by decide +kernel⟩
theorem ok_rr {C fI fP fT fO : Addr} {fdI fdP fdT fdO : FuncData} (T : Tx mg) (W : WdT P w K mg base C fI fP fT fO fdI fdP fdT fdO) (n : Nat) {f : Addr} {fd : FuncData} (F : FD K "read_rows" (top 20) f fd) {f1 : Addr} {fd1 : FuncData} (C1 : Cal P w K mg base CX0 (7 + 4 * n) "read_statement" ["words", "depth"] (spStm K C n) f1 fd1) : FnOk P w K mg base CX0 (7 + 4 * n + 1) f fd ["words", "depth"] (spRow K C n) := by
  obtain ⟨gread_statement, kread_statement, bread_statement, Fread_statement⟩ := C1
  refine F.ok sc_rr (fun vs H Q E h => ?_) (fun cdv A outer s H vs Q E hr h => ?_)
  · obtain ⟨_, _, _, rfl, _⟩ := h
    rfl
  · obtain ⟨r, l, rest, rfl, _, hsm, hln, hw, k⟩ := h
    have nd := sc_rr.nd
    have hr0 : ∀ p, H p = none → p ≠ r := fun p => hw.ne
    have hw0 : ∀ p, H p = none → p ≠ l := fun p => hw.nel
    unfold refRows at k
    refine ⟨_, (pss_cons (ps_if (pt_cmpR op_eq (pe_meth0 (pv 0) W.cl W.m_peek W.F_peek (hr.mono (by omega)) W.b_peek .nil pass0) pe_str (nomark _)) (pss_cons (ps_expr (pe_meth0 (pv 0) W.cl W.m_take W.F_take (hr.mono (by omega)) W.b_take .nil pass0))
        (pss_one (ps_ret (pe_tup pa_nil)))) pss_nil)
        (pss_cons (ps_set (i := 2) nd rfl (Or.inl rfl) (pe_lst (pa_cons (pe_call Fread_statement (hr.mono (by omega)) rfl gread_statement kread_statement bread_statement .nil pass0 (pa_cons (pv 0) (pa_cons (pv 1) pa_nil))) pa_nil)))
        (pss_cons (ps_while (passes_of rfl) (PW.pt (pw_and (pt_cmpR op_notN (pe_ix (r := rIxL K) ix_list (pv 2) (pe_un un_neg pe_int) (fun _ _ => rfl)) pe_non (nomark _)) (pw_and1 (pt_cmpR op_eq (pe_meth0 (pv 0) W.cl W.m_peek W.F_peek (hr.mono (by omega)) W.b_peek .nil pass0) pe_str (nomark _))))) (pss_cons (ps_expr (pe_meth0 (pv 0) W.cl W.m_take W.F_take (hr.mono (by omega)) W.b_take .nil pass0))
        (pss_one (ps_expr (pe_bm PySem.F.plainAttrs_list PySem.F.slot_list_append PySem.F.type_list_append mt_append (pv 2) (pa_cons (pe_call Fread_statement (hr.mono (by omega)) rfl gread_statement kread_statement bread_statement .nil pass0 (pa_cons (pv 0) (pa_cons (pv 1) pa_nil))) pa_nil))))))
        (pss_one (ps_ret (pe_ifExp (pt_cmpR op_isN (pe_ix (r := rIxL K) ix_list (pv 2) (pe_un un_neg pe_int) (fun _ _ => rfl)) pe_non (nomark _)) pe_non (pe_callTy call_tuple_of (by rfl) T.b_tuple (by decide +kernel) (pa_cons (pv 2) pa_nil)))))))), ?_⟩
    refine sq fun U hU => ?_
    refine iq fun T1 U1 hT1 hU1 => ?_
    walk_at "rd"
    refine peekR rfl hw ?_
    walk_at "rd"
    by_cases hn : rest.headD "" = "none"
    · rw [if_pos hn]
      rw [if_pos hn] at k
      refine hT1 _ ?_
      clear hT1 hU1
      refine sq fun V hV => ?_
      walk_at "rd"
      refine takeR rfl hw fun H1 b1 w1 => hV _ _ ?_
      clear hV
      walk_at "rd"
      refine ⟨by decide, fun p hp => ?_⟩
      exact k _ _ _ (b1.trans (But.same (same_new hp))) (w1.up (same_new hp)) (.tup ((newp_at (bnone b1 hp (w1.ne hp))).trans upd_same) .nil) (fun d r' z => by cases z; rfl)
    · rw [if_neg hn]
      rw [if_neg hn] at k
      refine hU1 _ ?_
      clear hT1 hU1
      walk_at "rd"
      refine hU _ _ ?_
      clear hU
      refine sq fun U hU => ?_
      walk_at "rd"
      refine ⟨r, l, rest, rfl, trivial, hsm, hln, hw, fun x H1 rest1 b1 w1 hx hr1 => ⟨by decide, fun p hp => hU _ _ ?_⟩⟩
      clear hU
      have p0 := bnone b1 hp (w1.ne hp)
      refine sq fun U hU => ?_
      refine ⟨roG K C H r l p n (rowsWith (refSt n) (rest.length + 1) [] rest), ⟨_, [], rest, rest1, [], x, rfl, rfl, but_new b1 p0, w1.up (same_new hp), hsm, by simpa using hln, upd_same, .nil, hx.up (fun a o e => ?_), hr1, rfl⟩, ?_⟩
      · obtain ⟨h1, h2⟩ := newp_some e
        have n1 : a ≠ p := ne_of_none h2 hp
        rw [nw_at n1 h1, upd_ne n1]
        exact h2
      · rintro m σ H2 ⟨acc, ts, rest2, xs, y, hg, rfl, b2, w2, hs2, hl2, e2, D2, D2y, hr2, rfl⟩
        walk_at "rd"
        refine ⟨_, SqL.of e2, y, atI_end, ?_⟩
        cases es : refSt n ts with
        | none =>
          rw [es] at D2y
          have ey : y = .non := D2y
          subst ey
          rw [if_neg (by simp)]
          refine hU _ _ ?_
          clear hU
          walk_at "rd"
          refine ⟨_, SqL.of e2, .non, atI_end, ?_⟩
          rw [if_pos rfl]
          refine k _ _ _ b2 w2 ?_ ?_
          · rw [hg, rowsWith, es]
            rfl
          · rw [hg, rowsWith, es]
            exact fun _ _ z => nomatch z
        | some dr =>
          obtain ⟨d, r2⟩ := dr
          rw [es] at D2y
          obtain rfl := hr2 d r2 es
          have D2y' : Dq K (nw H p H2) y d := D2y
          obtain ⟨ay, rfl⟩ := st_ref es D2y'
          have gl := (refSt_good n _ _ _ es).2
          have gs := suf_st n _ _ _ es
          rw [if_pos (by simp)]
          refine peekR rfl w2 ?_
          walk_at "rd"
          have hg' : rowsWith (refSt n) (rest.length + 1) [] rest = if rest2.headD "" = ";" then rowsWith (refSt n) ts.length (acc ++ [d]) rest2.tail else some (.tuple (acc ++ [d]), rest2) := by
            rw [hg, rowsWith, es]
          have DD : DqAll K (nw H p H2) (xs ++ [.ref ay]) (acc ++ [d]) := DqAll.append D2 (.cons D2y' .nil)
          by_cases h1 : rest2.headD "" = ";"
          · rw [if_pos h1]
            rw [if_pos h1] at hg'
            refine ⟨fun σ' H' => ∃ m', m' < left (some (d, rest2)) ∧ roG K C H r l p n (rowsWith (refSt n) (rest.length + 1) [] rest) m' σ' H', fun σ' H' h => h, ?_⟩
            refine takeR rfl w2 fun H4 b4 w4 => ?_
            have pr : p ≠ r := hr0 p p0
            have e4 := b4 _ _ pr e2
            have s2' := sub_sm gs hs2
            have ll1 : rest2.tail.length ≤ rest2.length := by rw [List.length_tail]; omega
            have lh : 1 ≤ rest2.length := ne_len (by rw [h1]; decide)
            refine ⟨.inl ⟨rfl, _, SqL.of e4⟩, r, l, rest2.tail, rfl, trivial, sm_tail s2', by omega, w4, fun x2 H6 r6 b6 w6 hx2 hr6 => ?_⟩
            have b26 := b4.trans b6
            refine ⟨p, xs ++ [.ref ay], x2, rfl, rfl, b6 _ _ pr e4, (by
              have h1 := DD.len
              rw [h1, sizeLine_eq]
              simp only [List.length_append, List.length_cons, List.length_nil]
              omega), left (refSt n rest2.tail), ?_, acc ++ [d], rest2.tail, r6, xs ++ [.ref ay], x2, ?_, rfl, but_new (b2.trans b26) p0, ?_, sm_tail s2', by simp only [List.length_append, List.length_cons, List.length_nil, List.length_tail]; omega, upd_same, ?_, ?_, hr6, rfl⟩
            · unfold left
              split
              · simp
              · rename_i d9 r9 e9
                have := (refSt_good n _ _ _ e9).2
                omega
            · rw [hg']
              exact rowsWith_fuel (refSt_good n) _ _ _ _ (by rw [List.length_tail]; omega) (by omega)
            · exact w6.put pr (hw0 p p0)
            · refine DqAll.up ?_ DD
              exact fun a o e => nw_but hr0 (fun a o h1 h2 e => by
                rw [upd_ne h2]
                exact b26 a o h1 e) a o e
            · refine hx2.up fun a o e => ?_
              obtain ⟨h1, h2⟩ := newp_some e
              have n1 : a ≠ p := (ne_of_none e4 h1).symm
              rw [nw_at n1 (bnone (b2.trans b4) h1 (w4.ne h1)), upd_ne n1]
              exact h2
          · rw [if_neg h1]
            rw [if_neg h1] at hg'
            rw [hg'] at k
            refine hU _ _ ?_
            clear hU
            walk_at "rd"
            refine ⟨_, SqL.of e2, .ref ay, atI_end, ?_⟩
            rw [if_neg (by simp)]
            refine ⟨_, .inl ⟨SqL.of e2, fun q hq => ?_⟩⟩
            have s3 : Same H2 (upd H2 q (.tup (xs ++ [.ref ay]))) := same_new hq
            have q0 := bnone b2 hq (w2.ne hq)
            refine k _ _ _ (b2.trans (But.same s3)) (w2.up s3) (.tup ((newp_at q0).trans upd_same) (DqAll.up (fun a o e => ?_) DD)) (fun d r' z => by cases z; rfl)
            obtain ⟨h1, h2, h3⟩ := nw_some e
            rw [newp_at h2]
            exact s3 _ _ h3
end
end K38

set_option Elab.async false
set_option linter.all false
set_option maxRecDepth 100000
set_option maxHeartbeats 4000000
namespace K38
open PySem PySem.Spec PyProof.Rows L2 Rd Dt Dq Pk TL
local macro_rules | `(tactic| walk_at "rd") => `(tactic| try simp only [↓tFld_, ↓sFld_, ↓tVar_, ↓tC_, ↓tM1, ↓tDNewK_, ↓tOp_, ↓tUn_, ↓rI_, ↓rI0_, ↓rU_, ↓eq_ii, ↓ne_ii, ↓eq_ss, ↓ne_ss, ↓eq_bb, ↓ne_bb, ↓tAndV_, ↓tOrV_, ↓tNotV_, ↓tIf_, ↓tTest_, ↓tB_, ↓tAnd_, ↓tOr_, ↓tNot_, ↓tChain_, ↓tNil_, ↓tCons_, ↓tTup_, ↓tLst_, ↓tCB_, ↓tCall_, ↓tSeq_, ↓tNext_, ↓tRet_, ↓tRetN_, ↓tDrop_, ↓tBreak_, ↓tNever_, ↓tIfS_, ↓tAsg_, ↓gName_, ↓gTup_, ↓gCons_, ↓gNil_, ↓gSub_, ↓tPar_, ↓tPar3_, ↓tSl_, ↓tNoPart_, ↓tPart_, ↓tBM_, ↓tFor_range1, ↓tFor_range2, ↓tFor_list, ↓tFor_tup, L2.start, List.headD_cons, List.headD_nil, List.tail_cons, List.map_cons, List.map_nil, List.length_cons, List.length_nil, List.replicate, List.append_nil, List.nil_append, List.cons_append, List.getElem?_cons_zero, List.getElem?_cons_succ, List.set_cons_zero, List.set_cons_succ, Option.some.injEq, V.int.injEq, V.bl.injEq, V.str.injEq, V.ref.injEq, exists_eq_left, exists_eq_left', exists_eq_right, exists_eq, exists_and_left, and_true, true_and, decide_eq_true_eq, Nat.reduceAdd, Nat.reduceSub, Nat.add_zero, Nat.zero_add, List.cons.injEq, Bool.not_eq_true', decide_eq_false_iff_not, eq_self, reduceCtorEq, Bool.false_eq_true, if_true, if_false, ite_true, ite_false, and_self, ↓tLc_range1, ↓tLc_range2, ↓tLc_list, ↓tLc_tup, ↓tYes_, wipe0, wipe1, ↓tCallS_, ↓rIxL_, ↓rIxT_, ↓rSlL_, ↓rCat_, ↓rSetL_, ↓rRep_, ↓rGcd_, ↓tCallK_, ↓gUnl_, ↓tRaise_, decide_true, decide_false, not_true_eq_false, not_false_eq_true, false_and, or_false, false_or, and_false, and_assoc, exists_const, forall_const, forall_eq'])

section
variable {P : Program} {w : World} {K : PySem.W.Frag} {mg : Str → Option Value} {base : Heap}
abbrev ErI (K : PySem.W.Frag) (mg : Str → Option Value) := Er K mg "InvalidProgram" "given"
/-- the tree that words tell -/
def progW (ts : List Str) : Option PyData := match refRows (refSt 4) ts with
  | some (d, []) => if cntOf (cntSt 4) d ≤ 30 then some d else none
  | _ => none
def progOf (s : Str) : Option PyData := match pSplit s with
  | some ts => progW ts
  | none => none
def progOfD : PyData → Option PyData
  | .str s => progOf s
  | _ => none
theorem sm_sub {s w : Str} (hs : smS s = true) (hl : w.length ≤ s.length) (hc : ∀ c ∈ tl w, c ∈ tl s) : smS w = true := by
  obtain ⟨h1, h2⟩ := Bool.and_eq_true_iff.mp hs
  have h1' : s.length ≤ 10000 := of_decide_eq_true h1
  unfold smS
  rw [Bool.and_eq_true]
  refine ⟨decide_eq_true (by omega), ?_⟩
  unfold PyData.strOk at h2 ⊢
  rw [← Array.all_toList, List.all_eq_true] at h2 ⊢
  exact fun c hcw => h2 c (hc c hcw)
theorem pSplit_sm {s : Str} {ts : List Str} (hs : smS s = true) (h : pSplit s = some ts) : ∀ w ∈ ts, smS w = true := by
  unfold pSplit at h
  split at h
  · injection h with h
    subst h
    intro w hw
    obtain ⟨w0, h1, h2⟩ := List.mem_flatMap.mp hw
    obtain ⟨l1, l2⟩ := (split_len s).2 w0 h1
    have s0 := sm_sub hs l1 l2
    unfold sp1 at h2
    split at h2
    · simp only [List.mem_cons, List.not_mem_nil, or_false] at h2
      rcases h2 with rfl | rfl
      · refine sm_sub s0 (cutS_length _ _ _) fun c hc => ?_
        have : c ∈ (List.take _ (List.drop _ (tl w0))) := hc
        exact List.mem_of_mem_drop (List.mem_of_mem_take this)
      · decide +kernel
    · rw [List.mem_singleton.mp h2]; exact s0
  · cases h
theorem refRows_tree {n : Nat} {ts : List Str} {d : PyData} {r : List Str} (h : refRows (refSt n) ts = some (d, r)) : treeOf (isSt n) d = true := (refRows_good (refSt_good n) _ _ _ h).1
def spTreeOf (K : PySem.W.Frag) : Sp := fun vs H Q _ => ∃ (x : V) (d : PyData), vs = [x] ∧ Dq K H x d ∧ ∀ (y : V) (H' : Hp), Same H H' → OV K H' y (progOfD d) → Q y H'
theorem sc_to : FnScope ["value", "words", "row", "found"] ["value"] (defScope (top 22)) := ⟨rfl, rfl, rfl, by decide +kernel, rfl, by decide +kernel, by decide +kernel⟩
theorem ok_to {C fI fP fT fO : Addr} {fdI fdP fdT fdO : FuncData} (T : Tx mg) (W : WdT P w K mg base C fI fP fT fO fdI fdP fdT fdO) {f : Addr} {fd : FuncData} (F : FD K "tree_of" (top 22) f fd) {f1 f2 f3 : Addr} {fd1 fd2 fd3 : FuncData} (C1 : Cal P w K mg base CX0 1 "split_words" ["text"] spSplit f1 fd1) (C2 : Cal P w K mg base CX0 24 "read_rows" ["words", "depth"] (spRow K C 4) f2 fd2) (C3 : Cal P w K mg base CX0 5 "count_statements" ["tree"] (spCnt K 4) f3 fd3) : FnOk P w K mg base CX0 25 f fd ["value"] (spTreeOf K) := by
  obtain ⟨gsplit_words, ksplit_words, bsplit_words, Fsplit_words⟩ := C1
  obtain ⟨gread_rows, kread_rows, bread_rows, Fread_rows⟩ := C2
  obtain ⟨gcount_statements, kcount_statements, bcount_statements, Fcount_statements⟩ := C3
  obtain ⟨tS, hMS⟩ := T.ms
  refine F.ok sc_to (fun vs H Q E h => ?_) (fun cdv A outer s H vs Q E hr h => ?_)
  · obtain ⟨_, _, rfl, _⟩ := h
    rfl
  · obtain ⟨v, d, rfl, hx, k⟩ := h
    have nd := sc_to.nd
    refine ⟨_, (pss_cons (ps_set (i := 1) nd rfl (Or.inl rfl) (pe_ifExp (pt_val (pe_callB call_isi (by rfl) T.b_isinstance (by decide +kernel) (pa_cons (pv 0) (pa_cons (pe_bltn (v := .ty "str") rfl T.b_str (by decide +kernel) rfl) pa_nil)))) (pe_call Fsplit_words (hr.mono (by omega)) rfl gsplit_words ksplit_words bsplit_words .nil pass0 (pa_cons (pv 0) pa_nil)) pe_non))
        (pss_cons (ps_if (pt_cmpR op_isN (pv 1) pe_non (nomark _)) (pss_one (ps_ret pe_non)) pss_nil)
        (pss_cons (ps_set (i := 2) nd rfl (Or.inl rfl) (pe_make W.mak W.F_init (hr.mono (by omega)) rfl W.mgC W.b_init .nil pass0 (pa_cons (pv 1) pa_nil)))
        (pss_cons (ps_set (i := 3) nd rfl (Or.inl rfl) (pe_call Fread_rows (hr.mono (by omega)) rfl gread_rows kread_rows bread_rows .nil pass0 (pa_cons (pv 2) (pa_cons pe_int pa_nil))))
        (pss_cons (ps_if (PW.pt (pw_or (pt_cmpR op_isN (pv 3) pe_non (nomark _)) (pw_or (pt_not (pt_val (pe_meth0 (pv 2) W.cl W.m_is_over W.F_is_over (hr.mono (by omega)) W.b_is_over .nil pass0))) (pw_or1 (pt_cmpR op_gt (pe_call Fcount_statements (hr.mono (by omega)) rfl gcount_statements kcount_statements bcount_statements .nil pass0 (pa_cons (pv 3) pa_nil)) (pe_glob (v := .int 30) rfl hMS ⟨_, rfl⟩) (nomark _)))))) (pss_one (ps_ret pe_non)) pss_nil)
        (pss_one (ps_ret (pv 3)))))))), ?_⟩
    refine sq fun U hU => ?_
    walk_at "rd"
    refine isi_str hx ?_
    cases hx with
    | str s hs =>
      have hl : s.length ≤ 10000 := of_decide_eq_true (Bool.and_eq_true_iff.mp hs).1
      replace k : ∀ (y : V) (H' : Hp), Same H H' → OV K H' y (progOf s) → Q y H' := k
      simp only [isStr]
      walk_at "rd"
      refine ⟨s, rfl, hl, fun ts ets p H1 s1 e1 tl1 => hU _ _ ?_, fun en H1 s1 => hU _ _ ?_⟩
      · clear hU
        have sm := pSplit_sm hs ets
        refine sq fun U hU => ?_
        walk_at "rd"
        refine hU _ _ ?_
        clear hU
        refine sq fun U hU => ?_
        walk_at "rd"
        refine ⟨_, rfl, ?_⟩
        intro x dx nx ndx hne
        have s2 : Same H1 (upd (upd H1 dx (.own x)) x (.ins C dx [])) := fun b o e => by
          rw [upd_ne (ne_of_none e nx), upd_ne (ne_of_none e ndx)]
          exact e
        refine ⟨x, p, dx, rfl, upd_same, fun H3 b3 e3 => ⟨rfl, hU _ _ ?_⟩⟩
        clear hU
        have px : p ≠ x := ne_of_none e1 nx
        have w3 : WdR C H3 x p ts := ⟨_, 0, dx, e3, b3 _ _ px (s2 _ _ e1), rfl⟩
        refine sq fun U hU => ?_
        walk_at "rd"
        refine ⟨x, p, ts, rfl, trivial, sm, tl1, w3, fun y H4 rest' b4 w4 hy hrest => hU _ _ ?_⟩
        clear hU
        have s4 : Same H H4 := fun b o e => by
          have bx : b ≠ x := ne_of_none (s1 _ _ e) nx
          exact b4 _ _ bx (b3 _ _ bx (s2 _ _ (s1 _ _ e)))
        have eo : progOf s = progW ts := by
          unfold progOf
          rw [ets]
        rw [eo] at k
        clear eo
        unfold progW at k
        cases ep : refRows (refSt 4) ts with
        | none =>
          rw [ep] at hy k
          have ey : y = .non := hy
          subst ey
          have fin := k .non H4 s4 rfl
          refine sq fun U hU => ?_
          walk_at "rd"
          exact fin
        | some dr =>
          obtain ⟨d, r'⟩ := dr
          rw [ep] at hy k
          obtain rfl := hrest d r' ep
          have gt := refRows_tree ep
          have hy' : Dq K (newp H3 H4) y d := hy
          obtain ⟨a, rfl⟩ := tree_ref gt hy'
          refine sq fun U hU => ?_
          walk_at "rd"
          refine overR rfl w4 ?_
          cases rest' with
          | cons w0 ws =>
            walk_at "rd"
            exact k .non H4 s4 rfl
          | nil =>
            walk_at "rd"
            refine ⟨_, d, rfl, hy'.up newp_sub, gt, fun H5 s5 => ?_⟩
            walk_at "rd"
            dsimp only at k
            by_cases hc : cntOf (cntSt 4) d ≤ 30
            · rw [if_pos hc] at k
              rw [if_neg (by omega)]
              refine hU _ _ ?_
              clear hU
              walk_at "rd"
              exact k _ H5 (s4.trans s5) ((hy'.up newp_sub).up s5)
            · rw [if_neg hc] at k
              rw [if_pos (by omega)]
              exact k _ H5 (s4.trans s5) rfl
      · clear hU
        refine sq fun U hU => ?_
        walk_at "rd"
        refine k .non H1 s1 ?_
        unfold progOf
        rw [en]
        try rfl
    | _ =>
      simp only [isStr]
      walk_at "rd"
      refine hU _ _ ?_
      clear hU
      refine sq fun U hU => ?_
      walk_at "rd"
      exact k _ H (Same.refl H) rfl
theorem progW_some {ts : List Str} {t : PyData} (h : progW ts = some t) : refRows (refSt 4) ts = some (t, []) ∧ treeOf (isSt 4) t = true ∧ cntOf (cntSt 4) t ≤ 30 := by
  unfold progW at h
  split at h
  · rename_i d e
    split at h
    · rename_i hc
      cases h
      exact ⟨e, refRows_tree e, hc⟩
    · cases h
  · cases h
theorem progOfD_some {d t : PyData} (h : progOfD d = some t) : treeOf (isSt 4) t = true ∧ cntOf (cntSt 4) t ≤ 30 := by
  cases d with
  | str s =>
    have h' : progOf s = some t := h
    unfold progOf at h'
    split at h'
    · exact (progW_some h').2
    · cases h'
  | _ => cases h
theorem ov_isN {H : Hp} {x : V} {d : PyData} (h : OV K H x (progOfD d)) : decide (x = .non) = !(progOfD d).isSome := by
  cases e : progOfD d with
  | none =>
    rw [e] at h
    have ex : x = .non := h
    rw [ex]; rfl
  | some t =>
    rw [e] at h
    obtain ⟨a, rfl⟩ := tree_ref (progOfD_some e).1 h
    exact decide_eq_false (fun z => nomatch z)
def isProgD (d : PyData) : Bool := (progOfD d).isSome
def spTT (K : PySem.W.Frag) (C : Addr) : Sp := fun vs H Q E => ∃ (x : V) (d : PyData), vs = [x] ∧ Dq K H x d ∧ (∀ e, progOfD d = some e → ∀ (y : V) (H' : Hp), Same H H' → Dq K H' y e → Q y H') ∧ (progOfD d = none → ∀ dd H', Same H H' → H' dd = none → E (.ref C) (some dd) (upd H' dd (.xd [("given", x)])))
theorem sc_tt : FnScope ["program", "tree"] ["program"] (defScope (top 24)) := ⟨rfl, rfl, rfl, by decide +kernel, rfl, by decide +kernel, by decide +kernel⟩
theorem ok_tt {C fI : Addr} {fdI : FuncData} (R : ErI K mg C fI fdI) {f : Addr} {fd : FuncData} (F : FD K "program_tree" (top 24) f fd) {f1 : Addr} {fd1 : FuncData} (C1 : Cal P w K mg base CX0 25 "tree_of" ["value"] (spTreeOf K) f1 fd1) : FnOk P w K mg base (L2.CX P w) 26 f fd ["program"] (spTT K C) := by
  obtain ⟨gtree_of, ktree_of, btree_of, Ftree_of⟩ := C1
  refine F.ok sc_tt (fun vs H Q E h => ?_) (fun cdv A outer s H vs Q E hr h => ?_)
  · obtain ⟨_, _, rfl, _⟩ := h
    rfl
  · obtain ⟨v, d, rfl, hx, k1, k2⟩ := h
    have nd := sc_tt.nd
    refine ⟨_, (pss_cons (ps_set (i := 1) nd rfl (Or.inl rfl) (pe_call Ftree_of (hr.mono (by omega)) rfl gtree_of ktree_of btree_of .nil pass0 (pa_cons (pv 0) pa_nil)))
        (pss_cons (ps_if (pt_cmpR op_isN (pv 1) pe_non (nomark _)) (pss_one (ps_raiseE rfl R hr (takes_of rfl rfl rfl rfl) (pv 0) mono_var)) pss_nil)
        (pss_one (ps_ret (pv 1))))), ?_⟩
    refine sq fun U hU => ?_
    walk_at "rd"
    refine ⟨v, d, rfl, hx, fun y H1 s1 hy => hU _ _ ?_⟩
    clear hU
    have en := ov_isN hy
    refine sq fun U hU => ?_
    walk_at "rd"
    cases e : progOfD d with
    | none =>
      rw [e] at hy en
      have ey : y = .non := hy
      rw [if_pos ey]
      exact fun dd hd => k2 e dd H1 s1 hd
    | some t =>
      rw [e] at hy en
      rw [if_neg (of_decide_eq_false en)]
      refine hU _ _ ?_
      walk_at "rd"
      exact k1 t e y H1 s1 hy
/-! ### how great a tree is -/
theorem deed_wt {d : PyData} (h : isDeed d = true) : wt d ≤ 150 ∧ d.depth ≤ 1 := by
  rcases deed_cases h with ⟨k, a, rfl, ha, hk⟩ | ⟨k, a, b, rfl, ha, hk⟩
  · obtain ⟨a', ea, ta⟩ := letter_tok (d := .str a) ha
    cases ea
    have l1 := ta.len
    have hl : k.length ≤ 4 := by rcases hk with rfl | rfl <;> decide
    refine ⟨?_, by simp [PyData.depth, PyData.depthAll]⟩
    simp only [wt, wtAll]
    omega
  · obtain ⟨a', ea, ta⟩ := letter_tok (d := .str a) ha
    cases ea
    have l1 := ta.len
    have hb : isGoal (.str b) = true := by
      rcases hk with ⟨_, z⟩ | ⟨_, z⟩
      · exact l_goal z
      · exact z
    obtain ⟨b', eb, tb⟩ := goal_tok hb
    cases eb
    have l2 := tb.len
    have hl : k.length ≤ 4 := by rcases hk with ⟨rfl, _⟩ | ⟨rfl | rfl, _⟩ <;> decide
    refine ⟨?_, by simp [PyData.depth, PyData.depthAll]⟩
    simp only [wt, wtAll]
    omega
theorem comp_wt {d : PyData} (h : isComp d = true) : wt d ≤ 110 ∧ d.depth ≤ 1 := by
  obtain ⟨sg, a, b, rfl, hs, ha, hb⟩ := comp_cases h
  obtain ⟨a', ea, ta⟩ := letter_tok (d := .str a) ha
  cases ea
  obtain ⟨b', eb, tb⟩ := goal_tok hb
  cases eb
  have hl : sg.length ≤ 2 := by rcases hs with rfl | rfl <;> decide
  have l1 := ta.len
  have l2 := tb.len
  refine ⟨?_, by simp [PyData.depth, PyData.depthAll]⟩
  simp only [wt, wtAll]
  omega
theorem comps_wt : ∀ ds : List PyData, (∀ d ∈ ds, isComp d = true) → wtAll ds ≤ 112 * ds.length ∧ PyData.depthAll ds ≤ 1
  | [], _ => ⟨by simp [wtAll], by simp [PyData.depthAll]⟩
  | d :: ds, h => by
    have h1 := comp_wt (h d List.mem_cons_self)
    have h2 := comps_wt ds fun x hx => h x (List.mem_cons_of_mem _ hx)
    rw [wtAll, PyData.depthAll, List.length_cons]
    omega
theorem test_wt {d : PyData} (h : isTest d = true) : wt d ≤ 1000 ∧ d.depth ≤ 3 := by
  obtain ⟨k, cs, rfl, hk, hl, hc⟩ := test_cases h
  have h1 := comps_wt cs hc
  have h2 : k.length ≤ 3 := by rcases hk with rfl | rfl <;> decide
  have e : wt (.tuple [.str k, .tuple cs]) = 3 + (2 + (10 * k.length + 12) + (2 + (3 + wtAll cs) + 0)) := by simp only [wt, wtAll]
  have e2 : (PyData.tuple [.str k, .tuple cs]).depth = max 0 (max (PyData.depthAll cs + 1) 0) + 1 := by simp only [PyData.depth, PyData.depthAll]
  rw [e, e2]
  omega
theorem tree_wt {n m : Nat} (hst : ∀ d, isSt n d = true → wt d ≤ 2000 * cntSt n d ∧ 1 ≤ cntSt n d ∧ d.depth ≤ m) : ∀ ds : List PyData, (∀ d ∈ ds, isSt n d = true) → wtAll ds ≤ 2002 * (ds.map (cntSt n)).sum ∧ PyData.depthAll ds ≤ m
  | [], _ => ⟨by simp [wtAll], by simp [PyData.depthAll]⟩
  | d :: ds, h => by
    obtain ⟨h1, h2, h3⟩ := hst d (h d List.mem_cons_self)
    have h4 := tree_wt hst ds fun x hx => h x (List.mem_cons_of_mem _ hx)
    rw [wtAll, PyData.depthAll, List.map_cons, List.sum_cons]
    omega
end
end K38

set_option Elab.async false
set_option linter.all false
set_option maxRecDepth 100000
set_option maxHeartbeats 4000000
namespace K38
open PySem PySem.Spec PyProof.Rows L2 Rd Dt Dq Pk TL
local macro_rules | `(tactic| walk_at "rd") => `(tactic| try simp only [↓tFld_, ↓sFld_, ↓tVar_, ↓tC_, ↓tM1, ↓tDNewK_, ↓tOp_, ↓tUn_, ↓rI_, ↓rI0_, ↓rU_, ↓eq_ii, ↓ne_ii, ↓eq_ss, ↓ne_ss, ↓eq_bb, ↓ne_bb, ↓tAndV_, ↓tOrV_, ↓tNotV_, ↓tIf_, ↓tTest_, ↓tB_, ↓tAnd_, ↓tOr_, ↓tNot_, ↓tChain_, ↓tNil_, ↓tCons_, ↓tTup_, ↓tLst_, ↓tCB_, ↓tCall_, ↓tSeq_, ↓tNext_, ↓tRet_, ↓tRetN_, ↓tDrop_, ↓tBreak_, ↓tNever_, ↓tIfS_, ↓tAsg_, ↓gName_, ↓gTup_, ↓gCons_, ↓gNil_, ↓gSub_, ↓tPar_, ↓tPar3_, ↓tSl_, ↓tNoPart_, ↓tPart_, ↓tBM_, ↓tFor_range1, ↓tFor_range2, ↓tFor_list, ↓tFor_tup, L2.start, List.headD_cons, List.headD_nil, List.tail_cons, List.map_cons, List.map_nil, List.length_cons, List.length_nil, List.replicate, List.append_nil, List.nil_append, List.cons_append, List.getElem?_cons_zero, List.getElem?_cons_succ, List.set_cons_zero, List.set_cons_succ, Option.some.injEq, V.int.injEq, V.bl.injEq, V.str.injEq, V.ref.injEq, exists_eq_left, exists_eq_left', exists_eq_right, exists_eq, exists_and_left, and_true, true_and, decide_eq_true_eq, Nat.reduceAdd, Nat.reduceSub, Nat.add_zero, Nat.zero_add, List.cons.injEq, Bool.not_eq_true', decide_eq_false_iff_not, eq_self, reduceCtorEq, Bool.false_eq_true, if_true, if_false, ite_true, ite_false, and_self, ↓tLc_range1, ↓tLc_range2, ↓tLc_list, ↓tLc_tup, ↓tYes_, wipe0, wipe1, ↓tCallS_, ↓rIxL_, ↓rIxT_, ↓rSlL_, ↓rCat_, ↓rSetL_, ↓rRep_, ↓rGcd_, ↓tCallK_, ↓gUnl_, ↓tRaise_, decide_true, decide_false, not_true_eq_false, not_false_eq_true, false_and, or_false, false_or, and_false, and_assoc, exists_const, forall_const, forall_eq'])

section
variable {P : Program} {w : World} {K : PySem.W.Frag} {mg : Str → Option Value} {base : Heap}
/-! ### the law's reader -/
def RdR (H : Hp) (rd l : Addr) (ts : List Str) (i cn : Nat) : Prop := H rd = some (.lst [.ref l, .int i, .int cn]) ∧ H l = some (.lst (ts.map V.str))
theorem RdR.ne {H : Hp} {rd l : Addr} {ts : List Str} {i cn : Nat} (h : RdR H rd l ts i cn) {p : Addr} (n : H p = none) : p ≠ rd := fun z => by
  rw [z, h.1] at n; cases n
theorem RdR.nel {H : Hp} {rd l : Addr} {ts : List Str} {i cn : Nat} (h : RdR H rd l ts i cn) {p : Addr} (n : H p = none) : p ≠ l := fun z => by
  rw [z, h.2] at n; cases n
theorem RdR.up {H H' : Hp} {rd l : Addr} {ts : List Str} {i cn : Nat} (h : RdR H rd l ts i cn) (s : Same H H') : RdR H' rd l ts i cn := ⟨s _ _ h.1, s _ _ h.2⟩
theorem RdR.put {H : Hp} {rd l p : Addr} {ts : List Str} {i cn : Nat} {o : HO} (h : RdR H rd l ts i cn) (h1 : p ≠ rd) (h2 : p ≠ l) : RdR (upd H p o) rd l ts i cn := ⟨(upd_ne (Ne.symm h1)).trans h.1, (upd_ne (Ne.symm h2)).trans h.2⟩
def spAhead : Sp := fun vs H Q _ => ∃ (rd l : Addr) (ts : List Str) (i cn : Nat), vs = [.ref rd] ∧ RdR H rd l ts i cn ∧ Q (.str ((ts.drop i).headD "")) H
def spNext : Sp := fun vs H Q _ => ∃ (rd l : Addr) (ts : List Str) (i cn : Nat), vs = [.ref rd] ∧ RdR H rd l ts i cn ∧ ∀ H', But rd H H' → RdR H' rd l ts (i + 1) cn → Q (.str ((ts.drop i).headD "")) H'
theorem sc_ah : FnScope ["_law_reader"] ["_law_reader"] (defScope (top 45)) := ⟨rfl, rfl, rfl, by decide +kernel, rfl, by decide +kernel, by decide +kernel⟩
theorem ok_ah {f : Addr} {fd : FuncData} (T : Tx mg) (F : FD K "_law_ahead_word" (top 45) f fd) : FnOk P w K mg base CX0 1 f fd ["_law_reader"] spAhead := by
  refine F.ok sc_ah (fun vs H Q E h => ?_) (fun cdv A outer s H vs Q E hr h => ?_)
  · obtain ⟨_, _, _, _, _, rfl, _⟩ := h
    rfl
  · obtain ⟨rd, l, ts, i, cn, rfl, ⟨e1, e2⟩, k⟩ := h
    rw [head_at rfl] at k
    refine ⟨_, (pss_one (ps_ret (pe_ifExp (pt_cmpR op_lt (pe_ix (r := rIxL K) ix_list (pv 0) pe_int (fun _ _ => rfl)) (pe_callB call_len_seq (by rfl) T.b_len PySem.boot_len (pa_cons (pe_ix (r := rIxL K) ix_list (pv 0) pe_int (fun _ _ => rfl)) pa_nil)) (nomark _)) (pe_ix (r := rIxL K) ix_list (pe_ix (r := rIxL K) ix_list (pv 0) pe_int (fun _ _ => rfl)) (pe_ix (r := rIxL K) ix_list (pv 0) pe_int (fun _ _ => rfl)) (fun _ _ => rfl)) pe_str))), ?_⟩
    walk_at "rd"
    refine ⟨_, SqL.of e1, _, atI_nn (by decide) rfl, _, SqL.of e1, _, atI_nn (by decide) rfl, l, rfl, _, .inl (SqL.of e2), i, rfl, ?_⟩
    rw [List.length_map]
    by_cases c : i < ts.length
    · rw [if_pos (by omega)]
      have ei : ts[i]? = some (ts[i]'c) := List.getElem?_eq_getElem c
      rw [ei] at k
      exact ⟨_, SqL.of e1, _, atI_nn (by decide) rfl, _, SqL.of e1, _, atI_nn (by decide) rfl, l, rfl, _, i, rfl, SqL.of e2, _, atI_nn (by omega) (by rw [List.getElem?_map]; show Option.map V.str (ts[i]?) = _; rw [ei]; rfl), k⟩
    · rw [if_neg (by omega)]
      have ei : ts[i]? = none := List.getElem?_eq_none (by omega)
      rw [ei] at k
      exact k
theorem sc_nx : FnScope ["_law_reader", "_law_token"] ["_law_reader"] (defScope (top 46)) := ⟨rfl, rfl, rfl, by decide +kernel, rfl, by decide +kernel, by decide +kernel⟩
theorem ok_nx {f : Addr} {fd : FuncData} (T : Tx mg) (F : FD K "_law_next_word" (top 46) f fd) {f1 : Addr} {fd1 : FuncData} (C1 : Cal P w K mg base CX0 1 "_law_ahead_word" ["_law_reader"] spAhead f1 fd1) : FnOk P w K mg base CX0 2 f fd ["_law_reader"] spNext := by
  obtain ⟨g_law_ahead_word, k_law_ahead_word, b_law_ahead_word, F_law_ahead_word⟩ := C1
  refine F.ok sc_nx (fun vs H Q E h => ?_) (fun cdv A outer s H vs Q E hr h => ?_)
  · obtain ⟨_, _, _, _, _, rfl, _⟩ := h
    rfl
  · obtain ⟨rd, l, ts, i, cn, rfl, hR, k⟩ := h
    have nd := sc_nx.nd
    refine ⟨_, (pss_cons (ps_set (i := 1) nd rfl (Or.inl rfl) (pe_call F_law_ahead_word (hr.mono (by omega)) rfl g_law_ahead_word k_law_ahead_word b_law_ahead_word .nil pass0 (pa_cons (pv 0) pa_nil)))
        (pss_cons (ps_asg (pe_op op_add (pe_ix (r := rIxL K) ix_list (pv 0) pe_int (fun _ _ => rfl)) pe_int) (pg_sub (pv 0) pe_int set_list))
        (pss_one (ps_ret (pv 1))))), ?_⟩
    refine sq fun U hU => ?_
    walk_at "rd"
    refine ⟨rd, l, ts, i, cn, rfl, hR, hU _ _ ?_⟩
    clear hU
    obtain ⟨e1, e2⟩ := hR
    refine sq fun U hU => ?_
    walk_at "rd"
    refine ⟨_, SqL.of e1, _, atI_nn (by decide) rfl, i, rfl, _, e1, 1, rfl, hU _ _ ?_⟩
    clear hU
    walk_at "rd"
    have lr : l ≠ rd := fun z => by
      rw [z, e1] at e2
      injection e2 with e2
      injection e2 with e2
      cases ts with
      | nil => cases e2
      | cons a b => cases e2
    exact k _ But.put ⟨upd_same, (upd_ne lr).trans e2⟩
def spLQ (K : PySem.W.Frag) : Sp := fun vs H Q _ => ∃ (rd l : Addr) (ts : List Str) (i cn : Nat), vs = [.ref rd] ∧ (∀ w ∈ ts, smS w = true) ∧ RdR H rd l ts i cn ∧
  ∀ (x : V) (H' : Hp) (i' : Nat), But rd H H' → RdR H' rd l ts i' cn → OV K (newp H H') x ((lTest (ts.drop i)).map (·.1)) → (∀ d r', lTest (ts.drop i) = some (d, r') → ts.drop i' = r' ∧ i' ≤ ts.length) → Q x H'
def rqP (K : PySem.W.Frag) (H0 : Hp) (rd l p : Addr) (ts : List Str) (cn : Nat) (res : Option (PyData × List Str)) (n : Nat) : L2.St → Hp → Prop := fun σ H => ∃ (j : Str) (fs : List PyData) (at' : Nat) (xs : List V) (a b c d e : Option V), res = lLoop (3 - n) j fs (ts.drop at') ∧ But rd H0 H ∧ RdR H rd l ts at' cn ∧ fs.length = n ∧
  H p = some (.lst xs) ∧ DqAll K (nw H0 p H) xs fs ∧ (j = "" ∨ jw j) ∧ σ = [some (.ref rd), some (.str j), some (.ref p), a, b, c, d, e]
theorem sc_rq : FnScope ["_law_reader", "_law_joint", "_law_found", "_law_turn", "_law_one", "_law_mark", "_law_two", "_law_ahead_here"] ["_law_reader"] (defScope (top 49)) := ⟨rfl, rfl, rfl, by decide +kernel, rfl, by decide +kernel, by decide +kernel⟩
theorem ok_rq {f : Addr} {fd : FuncData} (T : Tx mg) (F : FD K "_law_read_quiz" (top 49) f fd) {f1 f2 f3 f4 : Addr} {fd1 fd2 fd3 fd4 : FuncData} (C1 : Cal P w K mg base CX0 1 "_law_ahead_word" ["_law_reader"] spAhead f1 fd1) (C2 : Cal P w K mg base CX0 2 "_law_next_word" ["_law_reader"] spNext f2 fd2)
    (C3 : Cal P w K mg base CX0 1 "_law_is_sign" ["_law_token"] (spData isLetter K) f3 fd3) (C4 : Cal P w K mg base CX0 2 "_law_is_goal" ["_law_token"] (spData isGoal K) f4 fd4) : FnOk P w K mg base CX0 3 f fd ["_law_reader"] (spLQ K) := by
  obtain ⟨g_law_ahead_word, k_law_ahead_word, b_law_ahead_word, F_law_ahead_word⟩ := C1
  obtain ⟨g_law_next_word, k_law_next_word, b_law_next_word, F_law_next_word⟩ := C2
  obtain ⟨g_law_is_sign, k_law_is_sign, b_law_is_sign, F_law_is_sign⟩ := C3
  obtain ⟨g_law_is_goal, k_law_is_goal, b_law_is_goal, F_law_is_goal⟩ := C4
  refine F.ok sc_rq (fun vs H Q E h => ?_) (fun cdv A outer s H vs Q E hr h => ?_)
  · obtain ⟨_, _, _, _, _, rfl, _⟩ := h
    rfl
  · obtain ⟨rd, l, ts, i0, cn, rfl, hsm, hR, k⟩ := h
    have nd := sc_rq.nd
    have zl : (400000 : Nat) ≤ sizeLine := by rw [sizeLine_eq]; decide
    have hr0 : ∀ p, H p = none → p ≠ rd := fun p => hR.ne
    have hl0 : ∀ p, H p = none → p ≠ l := fun p => hR.nel
    have smd : ∀ n, smS ((ts.drop n).headD "") = true := fun n => sm_head fun w hw => hsm w (List.mem_of_mem_drop hw)
    refine ⟨_, (pss_cons (ps_par rfl nd (i := 1) (j := 2) rfl rfl (by decide) rfl rfl (pa_cons pe_str (pa_cons (pe_lst pa_nil) pa_nil)) rfl)
        (pss_cons (ps_for (passes_of rfl) rfl (pi_range1 rfl T.b_range (pa_cons pe_int pa_nil)) (pg_name (i := 3) nd rfl (Or.inl rfl)) (pss_cons (ps_par3 rfl nd (i := 4) (j := 5) (l := 6) rfl rfl rfl (by decide) (by decide) (by decide) rfl rfl rfl (pa_cons (pe_call F_law_next_word (hr.mono (by omega)) rfl g_law_next_word k_law_next_word b_law_next_word .nil pass0 (pa_cons (pv 0) pa_nil)) (pa_cons (pe_call F_law_next_word (hr.mono (by omega)) rfl g_law_next_word k_law_next_word b_law_next_word .nil pass0 (pa_cons (pv 0) pa_nil)) (pa_cons (pe_call F_law_next_word (hr.mono (by omega)) rfl g_law_next_word k_law_next_word b_law_next_word .nil pass0 (pa_cons (pv 0) pa_nil)) pa_nil))) rfl)
        (pss_cons (ps_if (PW.pt (pw_or (pt_not (pt_val (pe_call F_law_is_sign (hr.mono (by omega)) rfl g_law_is_sign k_law_is_sign b_law_is_sign .nil pass0 (pa_cons (pv 4) pa_nil)))) (pw_or (pt_cmpR op_notIn_seq (pv 5) (pe_tup (pa_cons pe_str (pa_cons pe_str pa_nil))) rfl) (pw_or1 (pt_not (pt_val (pe_call F_law_is_goal (hr.mono (by omega)) rfl g_law_is_goal k_law_is_goal b_law_is_goal .nil pass0 (pa_cons (pv 6) pa_nil)))))))) (pss_one (ps_ret pe_non)) pss_nil)
        (pss_cons (ps_expr (pe_bm PySem.F.plainAttrs_list PySem.F.slot_list_append PySem.F.type_list_append mt_append (pv 2) (pa_cons (pe_tup (pa_cons (pv 5) (pa_cons (pv 4) (pa_cons (pv 6) pa_nil)))) pa_nil)))
        (pss_cons (ps_set (i := 7) nd rfl (Or.inl rfl) (pe_call F_law_ahead_word (hr.mono (by omega)) rfl g_law_ahead_word k_law_ahead_word b_law_ahead_word .nil pass0 (pa_cons (pv 0) pa_nil)))
        (pss_cons (ps_if (PW.pt (pw_or (pt_cmpR op_notIn_seq (pv 7) (pe_tup (pa_cons pe_str (pa_cons pe_str pa_nil))) rfl) (pw_or (pt_cmpR op_notIn_seq (pv 1) (pe_tup (pa_cons pe_str (pa_cons (pv 7) pa_nil))) rfl) (pw_or1 (pt_cmpR op_eq (pv 3) pe_int (nomark _)))))) (pss_one (ps_ret (pe_tup (pa_cons (pe_ifExp (pt_cmpR op_ne (pv 1) pe_str (nomark _)) (pv 1) pe_str) (pa_cons (pe_callTy call_tuple_of (by rfl) T.b_tuple (by decide +kernel) (pa_cons (pv 2) pa_nil)) pa_nil))))) pss_nil)
        (pss_one (ps_set (i := 1) nd rfl (Or.inl rfl) (pe_call F_law_next_word (hr.mono (by omega)) rfl g_law_next_word k_law_next_word b_law_next_word .nil pass0 (pa_cons (pv 0) pa_nil))))))))))
        (pss_one (ps_ret pe_non)))), ?_⟩
    refine sq fun U hU => ?_
    walk_at "rd"
    refine ⟨by decide, fun p hp => hU _ _ ?_⟩
    clear hU
    have pr := hr0 p hp
    refine sq fun U hU => ?_
    walk_at "rd"
    refine ⟨by decide, by decide, ?_⟩
    refine for_r (rqP K H rd l p ts cn (lTest (ts.drop i0))) ⟨"", [], i0, [], none, none, none, none, none, rfl, But.same (same_new hp), hR.up (same_new hp), rfl, upd_same, .nil, .inl rfl, rfl⟩ ?_ ?_
    · rintro n σ H2 hn ⟨j, fs, at', xs, a, b, c, d, e, eres, b2, r2, fl, e2, D2, hj, rfl⟩
      have en : 3 - n = (2 - n) + 1 := by omega
      rw [en] at eres
      have xl := D2.len
      simp only [gName_, List.set_cons_succ, List.set_cons_zero]
      refine sq fun V2 hV => ?_
      walk_at "rd"
      refine ⟨rd, l, ts, at', cn, rfl, r2, fun H3 b3 r3 => ?_⟩
      refine ⟨rd, l, ts, at' + 1, cn, rfl, r3, fun H4 b4 r4 => ?_⟩
      refine ⟨rd, l, ts, at' + 2, cn, rfl, r4, fun H5 b5 r5 => ?_⟩
      refine hV _ _ ?_
      clear hV
      have b25 := b3.trans (b4.trans b5)
      have bb := b2.trans b25
      have e5 := b25 _ _ pr e2
      have t1 : (ts.drop at').tail = ts.drop (at' + 1) := List.tail_drop
      have t2 : (ts.drop (at' + 1)).tail = ts.drop (at' + 2) := List.tail_drop
      have t3 : (ts.drop (at' + 2)).tail = ts.drop (at' + 3) := List.tail_drop
      have t4 : (ts.drop (at' + 3)).tail = ts.drop (at' + 4) := List.tail_drop
      have ec : comp3 (ts.drop at') = compOf ((ts.drop at').headD "") ((ts.drop (at' + 1)).headD "") ((ts.drop (at' + 2)).headD "") := by
        unfold comp3
        rw [t1, t2]
      have lb : (ts.drop (at' + 2)).headD "" ≠ "" → at' + 3 ≤ ts.length := fun z => by
        cases q : ts.drop (at' + 2) with
        | nil => rw [q] at z; exact absurd rfl z
        | cons _ _ =>
          have := congrArg List.length q
          rw [List.length_drop, List.length_cons] at this
          omega
      have ma := smd at'
      have mm := smd (at' + 1)
      have mb := smd (at' + 2)
      generalize (ts.drop at').headD "" = wa at *
      generalize (ts.drop (at' + 1)).headD "" = wm at *
      generalize (ts.drop (at' + 2)).headD "" = wb at *
      rw [lLoop, ec, t1, t2, t3, t4] at eres
      clear r2 r3 r4 b3 b4 b5
      refine sq fun V2 hV => ?_
      walk_at "rd"
      have bad : ∀ H', Same H5 H' → ¬ (isLetterS wa = true ∧ (wm = "=" ∨ wm = "!=") ∧ isGoal (.str wb) = true) → Q .non H' := fun H' s hn' => by
        have e0 : compOf wa wm wb = none := if_neg hn'
        rw [e0] at eres
        refine k _ _ _ (bb.trans (But.same s)) (r5.up s) ?_ (fun d r' z => by rw [eres] at z; cases z)
        rw [eres]
        rfl
      refine ⟨_, .str wa, rfl, .str wa ma, fun H6 s6 => ?_⟩
      walk_at "rd"
      by_cases ha : isLetterS wa = true
      · rw [if_neg (by rw [show isLetter (.str wa) = true from ha]; decide)]
        refine ⟨by decide, fun q hq => notIn2 upd_same ?_⟩
        have s7 : Same H6 (upd H6 q (.tup [.str "=", .str "!="])) := same_new hq
        by_cases hs : wm = "=" ∨ wm = "!="
        · refine ⟨false, congrArg V.bl (by rw [Bool.not_eq_false', Bool.or_eq_true, decide_eq_true_eq, decide_eq_true_eq]; exact hs), ?_⟩
          rw [if_neg (by decide)]
          refine ⟨_, .str wb, rfl, .str wb mb, fun H8 s8 => ?_⟩
          walk_at "rd"
          by_cases hb : isGoal (.str wb) = true
          · rw [if_neg (by rw [hb]; decide)]
            refine hV _ _ ?_
            clear hV
            have e0 : compOf wa wm wb = some (.tuple [.str wm, .str wa, .str wb]) := if_pos ⟨ha, hs, hb⟩
            rw [e0] at eres
            have l3 := lb (goal_ne hb)
            have ss := s6.trans (s7.trans s8)
            have b8 := bb.trans (But.same (u := rd) ss)
            have r8 := r5.up ss
            have e8 := ss _ _ e5
            have D8 := D2.up (nw_but (p := p) hr0 fun a o h1 h2 e => ss _ _ (b25 a o h1 e))
            clear bad s6 s7 s8 hq bb r5 e5 e2 D2 b2 b25
            refine sq fun V2 hV => ?_
            walk_at "rd"
            refine ⟨.inl ⟨rfl, _, SqL.of e8⟩, by decide, fun p1 hp1 => ?_⟩
            have s9 : Same H8 (upd H8 p1 (.tup [.str wm, .str wa, .str wb])) := same_new hp1
            have p10 := bnone b8 hp1 (r8.ne hp1)
            have n1 : p1 ≠ p := (ne_of_none e8 hp1).symm
            have D9 : DqAll K (nw H p (upd (upd H8 p1 (.tup [.str wm, .str wa, .str wb])) p (.lst (xs ++ [.ref p1])))) (xs ++ [.ref p1]) (fs ++ [.tuple [.str wm, .str wa, .str wb]]) := by
              refine (D8.up (nw_but hr0 fun a o h1 h2 e => ?_)).append (.cons (tup3 ?_ mm ma mb) .nil)
              · rw [upd_ne h2]
                exact s9 a o e
              · rw [nw_at n1 p10, upd_ne n1]
                exact upd_same
            refine ⟨p, xs, _, rfl, rfl, s9 _ _ e8, by omega, hV _ _ ?_⟩
            clear hV
            have b9 : But rd H (upd (upd H8 p1 (.tup [.str wm, .str wa, .str wb])) p (.lst (xs ++ [.ref p1]))) := but_new (b8.trans (But.same s9)) hp
            have r9 := (r8.up s9).put (o := .lst (xs ++ [.ref p1])) pr (hl0 p hp)
            have e9 : (upd (upd H8 p1 (.tup [.str wm, .str wa, .str wb])) p (.lst (xs ++ [.ref p1]))) p = some (.lst (xs ++ [.ref p1])) := upd_same
            generalize (upd (upd H8 p1 (HO.tup [V.str wm, V.str wa, V.str wb])) p (HO.lst (xs ++ [V.ref p1]))) = H9 at b9 r9 e9 D9 ⊢
            clear s9 hp1 b8 r8 e8 D8
            refine sq fun V2 hV => ?_
            walk_at "rd"
            refine ⟨rd, l, ts, at' + 3, cn, rfl, r9, hV _ _ ?_⟩
            clear hV
            have mk := smd (at' + 3)
            obtain ⟨wk, wkx⟩ : ∃ wk, (ts.drop (at' + 3)).headD "" = wk := ⟨_, rfl⟩
            rw [wkx] at mk eres ⊢
            refine sq fun V2 hV => ?_
            have sj : smS (if j = "" then "and" else j) = true := by
              rcases hj with rfl | rfl | rfl <;> decide +kernel
            -- the tree told
            have fin : ∀ H10, Same H9 H10 → (¬ jw wk ∨ ¬ (j = "" ∨ j = wk) ∨ 2 - n = 0) → ∀ l' q, H10 l' = none → upd H10 l' (.tup (xs ++ [.ref p1])) q = none → Q (.ref q) (upd (upd H10 l' (.tup (xs ++ [.ref p1]))) q (.tup [.str (if j = "" then "and" else j), .ref l'])) := fun H10 s10 hc l' q hl' hq => by
              have er : lTest (ts.drop i0) = some (.tuple [.str (if j = "" then "and" else j), .tuple (fs ++ [.tuple [.str wm, .str wa, .str wb]])], ts.drop (at' + 3)) := eres.trans (if_pos hc)
              have s4 : Same H10 (upd H10 l' (.tup (xs ++ [.ref p1]))) := same_new hl'
              have s5 : Same (upd H10 l' (.tup (xs ++ [.ref p1]))) (upd (upd H10 l' (.tup (xs ++ [.ref p1]))) q (.tup [.str (if j = "" then "and" else j), .ref l'])) := same_new hq
              have b10 := b9.trans (But.same (u := rd) s10)
              have r10 := r9.up s10
              have l0 := bnone b10 hl' (r10.ne hl')
              have q0 := bnone (b10.trans (But.same s4)) hq ((r10.up s4).ne hq)
              refine k _ _ (at' + 3) (b10.trans (But.same (s4.trans s5))) (r10.up (s4.trans s5)) ?_ (fun d r' e => by rw [er] at e; cases e; exact ⟨rfl, l3⟩)
              rw [er]
              refine Dq.tup ((newp_at q0).trans upd_same) (.cons (.str _ sj) (.cons (.tup ((newp_at l0).trans (s5 _ _ upd_same)) (D9.up fun a o e => ?_)) .nil))
              obtain ⟨h1, h2, h3⟩ := nw_some e
              rw [newp_at h2]
              exact s5 _ _ (s4 _ _ (s10 _ _ h3))
            have told : ∀ H10, Same H9 H10 → (¬ jw wk ∨ ¬ (j = "" ∨ j = wk) ∨ 2 - n = 0) → (if ¬ j = "" then ∃ ys, SqL K H10 p ys ∧ (∀ l', H10 l' = none → 2 ≤ sizeLine ∧ ∀ q, upd H10 l' (.tup ys) q = none → Q (.ref q) (upd (upd H10 l' (.tup ys)) q (.tup [.str j, .ref l']))) ∨ SqT K H10 p ys ∧ (2 ≤ sizeLine ∧ ∀ q, H10 q = none → Q (.ref q) (upd H10 q (.tup [.str j, .ref p])))
                else ∃ ys, SqL K H10 p ys ∧ (∀ l', H10 l' = none → 2 ≤ sizeLine ∧ ∀ q, upd H10 l' (.tup ys) q = none → Q (.ref q) (upd (upd H10 l' (.tup ys)) q (.tup [.str "and", .ref l']))) ∨ SqT K H10 p ys ∧ (2 ≤ sizeLine ∧ ∀ q, H10 q = none → Q (.ref q) (upd H10 q (.tup [.str "and", .ref p])))) := fun H10 s10 hc => by
              have fin' := fin H10 s10 hc
              by_cases dz : j = ""
              · rw [if_neg (by simp [dz])]
                rw [if_pos dz] at fin'
                exact ⟨_, .inl ⟨SqL.of (s10 _ _ e9), fun l' hl' => ⟨by decide, fun q hq => fin' l' q hl' hq⟩⟩⟩
              · rw [if_pos dz]
                rw [if_neg dz] at fin'
                exact ⟨_, .inl ⟨SqL.of (s10 _ _ e9), fun l' hl' => ⟨by decide, fun q hq => fin' l' q hl' hq⟩⟩⟩
            clear fin
            walk_at "rd"
            refine ⟨by decide, fun q1 hq1 => notIn2 upd_same ?_⟩
            have s10 : Same H9 (upd H9 q1 (.tup [.str "and", .str "or"])) := same_new hq1
            by_cases hk : jw wk
            · refine ⟨false, congrArg V.bl (by rw [Bool.not_eq_false', Bool.or_eq_true, decide_eq_true_eq, decide_eq_true_eq]; exact hk), ?_⟩
              rw [if_neg (by decide)]
              refine ⟨by decide, fun q2 hq2 => notIn2 upd_same ?_⟩
              have s11 := s10.trans (same_new (o := .tup [.str "", .str wk]) hq2)
              by_cases hjk : j = "" ∨ j = wk
              · refine ⟨false, congrArg V.bl (by rw [Bool.not_eq_false', Bool.or_eq_true, decide_eq_true_eq, decide_eq_true_eq]; exact hjk), ?_⟩
                rw [if_neg (by decide)]
                by_cases n2 : n = 2
                · rw [if_pos (by omega)]
                  exact told _ s11 (.inr (.inr (by omega)))
                · rw [if_neg (by omega)]
                  refine hV _ _ ?_
                  clear hV
                  walk_at "rd"
                  have r11 := r9.up s11
                  have e11 := s11 _ _ e9
                  have D11 := D9.up (nw_but (p := p) hr0 fun a o _ _ e => s11 a o e)
                  refine ⟨rd, l, ts, at' + 3, cn, rfl, r11, fun H12 b12 r12 => ?_⟩
                  rw [wkx]
                  have er : lTest (ts.drop i0) = lLoop (3 - (n + 1)) wk (fs ++ [.tuple [.str wm, .str wa, .str wb]]) (ts.drop (at' + 3 + 1)) := by
                    rw [show 3 - (n + 1) = 2 - n by omega]
                    refine eres.trans (if_neg fun z => ?_)
                    rcases z with z | z | z
                    · exact z hk
                    · exact z hjk
                    · omega
                  exact ⟨wk, _, at' + 3 + 1, _, _, _, _, _, _, er, b9.trans ((But.same s11).trans b12), r12, by rw [List.length_append, fl]; rfl, b12 _ _ pr e11, D11.up (nw_but hr0 fun a o h1 h2 e => b12 a o h1 e), .inr hk, rfl⟩
              · refine ⟨true, congrArg V.bl (by rw [Bool.not_eq_true', Bool.or_eq_false_iff, decide_eq_false_iff_not, decide_eq_false_iff_not]; exact ⟨fun z => hjk (.inl z), fun z => hjk (.inr z)⟩), ?_⟩
                rw [if_pos rfl]
                exact told _ s11 (.inr (.inl hjk))
            · refine ⟨true, congrArg V.bl (by rw [Bool.not_eq_true', Bool.or_eq_false_iff, decide_eq_false_iff_not, decide_eq_false_iff_not]; exact ⟨fun z => hk (.inl z), fun z => hk (.inr z)⟩), ?_⟩
              rw [if_pos rfl]
              exact told _ s10 (.inl hk)
          · rw [if_pos (by rw [Bool.eq_false_iff.mpr hb])]
            exact bad _ (s6.trans (s7.trans s8)) (fun z => hb z.2.2)
        · refine ⟨true, congrArg V.bl (by rw [Bool.not_eq_true', Bool.or_eq_false_iff, decide_eq_false_iff_not, decide_eq_false_iff_not]; exact ⟨fun z => hs (.inl z), fun z => hs (.inr z)⟩), ?_⟩
          rw [if_pos rfl]
          exact bad _ (s6.trans s7) (fun z => hs z.2.1)
      · rw [if_pos (by rw [show isLetter (.str wa) = false from Bool.eq_false_iff.mpr ha])]
        exact bad _ s6 (fun z => ha z.1)
    · rintro σ H2 ⟨j, fs, at', xs, a, b, c, d, e, eres, b2, r2, fl, e2, D2, hj, rfl⟩
      refine hU _ _ ?_
      walk_at "rd"
      have e0 : lTest (ts.drop i0) = none := eres
      refine k _ _ _ b2 r2 ?_ (fun d r' z => by rw [e0] at z; cases z)
      rw [e0]
      rfl

/-! ### programs -/
def lim (c m : Nat) (cnt : PyData → Nat) (R : Res) : Option PyData := match R with
  | some (d, _) => if c + cnt d ≤ m then some d else none
  | none => none
theorem lim_none {c m : Nat} {cnt : PyData → Nat} {R : Res} (h : ∀ d r, R = some (d, r) → ¬ c + cnt d ≤ m) : lim c m cnt R = none := by
  cases R with
  | none => rfl
  | some x => exact if_neg (h x.1 x.2 rfl)
theorem lim_some {c m : Nat} {cnt : PyData → Nat} {d : PyData} {r : List Str} (h : c + cnt d ≤ m) : lim c m cnt (some (d, r)) = some d := if_pos h
/-- what a reader of the law promises -/
def spLR (K : PySem.W.Frag) (ex : List V) (c0 : Nat → Nat) (cl : Nat) (cnt : PyData → Nat) (f : List Str → Res) : Sp := fun vs H Q _ => ∃ (rd l : Addr) (ts : List Str) (i cn : Nat), vs = .ref rd :: ex ∧ (∀ w ∈ ts, smS w = true) ∧ RdR H rd l ts i (c0 cn) ∧ c0 cn ≤ cl ∧
  ∀ (x : V) (H' : Hp) (i' c' : Nat), But rd H H' → RdR H' rd l ts i' c' → OV K (newp H H') x (lim cn 30 cnt (f (ts.drop i))) → (∀ d r', f (ts.drop i) = some (d, r') → cn + cnt d ≤ 30 → ts.drop i' = r' ∧ i' ≤ ts.length ∧ c' = cn + cnt d) → Q x H'
def spTwig (K : PySem.W.Frag) (n : Nat) : Sp := spLR K [.int (dpt n)] id 40 (cntSt n) (refSt n)
def spTwigs (K : PySem.W.Frag) (n : Nat) : Sp := spLR K [.int (dpt n)] id 30 (cntOf (cntSt n)) (refRows (refSt n))
/-- if and while, read alike -/
def refBr (tok : Str) (blk : List Str → Res) (ts : List Str) : Res := match pTest ts with
  | none => none
  | some (q, r) => match blk r with
    | none => none
    | some (a, r2) => if tok = "while" then some (.tuple [.str "while", q, a], r2) else if r2.headD "" = "else" then (match blk r2.tail with
      | none => none
      | some (b, r3) => some (.tuple [.str "if", q, a, b], r3)) else some (.tuple [.str "if", q, a, .tuple []], r2)
theorem refBr_if {blk : List Str → Res} {ts : List Str} : refIf blk ts = refBr "if" blk ts := by
  unfold refIf refBr
  cases pTest ts with
  | none => rfl
  | some x =>
    obtain ⟨q, r⟩ := x
    dsimp only
    cases blk r with
    | none => rfl
    | some y =>
      obtain ⟨a, r2⟩ := y
      dsimp only
      rw [if_neg (show ¬ ("if" : Str) = "while" by decide)]
      all_goals
        by_cases h : r2.headD "" = "else"
        · rw [if_pos h, if_pos h]
          cases blk r2.tail with
          | none => rfl
          | some z => rfl
        · rw [if_neg h, if_neg h]
theorem refBr_while {blk : List Str → Res} {ts : List Str} : refWhile blk ts = refBr "while" blk ts := by
  unfold refWhile refBr
  cases pTest ts with
  | none => rfl
  | some x =>
    obtain ⟨q, r⟩ := x
    dsimp only
    cases blk r with
    | none => rfl
    | some y =>
      obtain ⟨a, r2⟩ := y
      dsimp only
      rw [if_pos rfl]
theorem refBr_zero {tok : Str} {ts : List Str} : refBr tok (refBlk 0) ts = none := by
  unfold refBr
  cases pTest ts with
  | none => rfl
  | some x => rfl
def spBr (K : PySem.W.Frag) (n : Nat) : Sp := fun vs H Q E => ∃ tok : Str, (tok = "if" ∨ tok = "while") ∧ spLR K [.int (dpt n), .str tok] (· + 1) 30 (cntSt n) (refBr tok (refBlk n)) vs H Q E
def spBrP (K : PySem.W.Frag) : Nat → Sp
  | 0 => fun _ _ _ _ => False
  | n + 1 => spBr K (n + 1)
theorem hd_lt {ts : List Str} {j : Nat} (h : (ts.drop j).headD "" ≠ "") : j + 1 ≤ ts.length := by
  cases q : ts.drop j with
  | nil => rw [q] at h; exact absurd rfl h
  | cons _ _ =>
    have := congrArg List.length q
    rw [List.length_drop, List.length_cons] at this
    omega
theorem goal_ne' {b : Str} (h : isGoal (.str b) = true) : b ≠ "new" ∧ b ≠ "next" := by
  have e : (isLetterS b || decide (b = "END")) = true := h
  rcases Bool.or_eq_true_iff.mp e with z | z
  · exact ⟨letter_ne z (by decide), letter_ne z (by decide)⟩
  · rw [of_decide_eq_true z]
    exact ⟨by decide, by decide⟩
theorem sc_tw : FnScope ["_law_reader", "_law_deep", "_law_token", "_law_mark", "_law_two", "_law_one"] ["_law_reader", "_law_deep"] (defScope (top 51)) := ⟨rfl, rfl, rfl, by decide +kernel, rfl, by decide +kernel, by decide +kernel⟩
theorem ok_tw (T : Tx mg) (n : Nat) {f : Addr} {fd : FuncData} (F : FD K "_law_read_twig" (top 51) f fd) {f1 f2 f3 f4 : Addr} {fd1 fd2 fd3 fd4 : FuncData} (C1 : Cal P w K mg base CX0 2 "_law_next_word" ["_law_reader"] spNext f1 fd1)
    (C2 : Cal P w K mg base CX0 1 "_law_is_sign" ["_law_token"] (spData isLetter K) f2 fd2) (C3 : Cal P w K mg base CX0 2 "_law_is_goal" ["_law_token"] (spData isGoal K) f3 fd3) (C4 : Cal P w K mg base CX0 (3 + 3 * n) "_law_read_braced" ["_law_reader", "_law_deep", "_law_token"] (spBrP K n) f4 fd4) : FnOk P w K mg base CX0 (3 + 3 * n + 1) f fd ["_law_reader", "_law_deep"] (spTwig K n) := by
  obtain ⟨g_law_next_word, k_law_next_word, b_law_next_word, F_law_next_word⟩ := C1
  obtain ⟨g_law_is_sign, k_law_is_sign, b_law_is_sign, F_law_is_sign⟩ := C2
  obtain ⟨g_law_is_goal, k_law_is_goal, b_law_is_goal, F_law_is_goal⟩ := C3
  obtain ⟨g_law_read_braced, k_law_read_braced, b_law_read_braced, F_law_read_braced⟩ := C4
  refine F.ok sc_tw (fun vs H Q E h => ?_) (fun cdv A outer s H vs Q E hr h => ?_)
  · obtain ⟨_, _, _, _, _, rfl, _⟩ := h
    rfl
  · obtain ⟨rd, l, ts, i0, cn, rfl, hsm, hR, hcl, k⟩ := h
    have nd := sc_tw.nd
    have hr0 : ∀ p, H p = none → p ≠ rd := fun p => hR.ne
    have hl0 : ∀ p, H p = none → p ≠ l := fun p => hR.nel
    have smd : ∀ n, smS ((ts.drop n).headD "") = true := fun n => sm_head fun w hw => hsm w (List.mem_of_mem_drop hw)
    have t1 : (ts.drop i0).tail = ts.drop (i0 + 1) := List.tail_drop
    have t2 : (ts.drop (i0 + 1)).tail = ts.drop (i0 + 2) := List.tail_drop
    have t3 : (ts.drop (i0 + 2)).tail = ts.drop (i0 + 3) := List.tail_drop
    have t4 : (ts.drop (i0 + 3)).tail = ts.drop (i0 + 4) := List.tail_drop
    have ma := smd i0
    have mb := smd (i0 + 1)
    have mc := smd (i0 + 2)
    have md := smd (i0 + 3)
    have lr : l ≠ rd := fun z => by
      obtain ⟨e1, e2⟩ := hR
      rw [z, e1] at e2
      injection e2 with e2
      injection e2 with e2
      cases ts with
      | nil => cases e2
      | cons a b => cases e2
    refine ⟨_, (pss_cons (ps_asg (pe_op op_add (pe_ix (r := rIxL K) ix_list (pv 0) pe_int (fun _ _ => rfl)) pe_int) (pg_sub (pv 0) pe_int set_list))
        (pss_cons (ps_set (i := 2) nd rfl (Or.inl rfl) (pe_call F_law_next_word (hr.mono (by omega)) rfl g_law_next_word k_law_next_word b_law_next_word .nil pass0 (pa_cons (pv 0) pa_nil)))
        (pss_cons (ps_if (pt_cmpR op_gt (pe_ix (r := rIxL K) ix_list (pv 0) pe_int (fun _ _ => rfl)) pe_int (nomark _)) (pss_one (ps_ret pe_non)) pss_nil)
        (pss_cons (ps_if (pt_val (pe_call F_law_is_sign (hr.mono (by omega)) rfl g_law_is_sign k_law_is_sign b_law_is_sign .nil pass0 (pa_cons (pv 2) pa_nil))) (pss_cons (ps_par rfl nd (i := 3) (j := 4) rfl rfl (by decide) rfl rfl (pa_cons (pe_call F_law_next_word (hr.mono (by omega)) rfl g_law_next_word k_law_next_word b_law_next_word .nil pass0 (pa_cons (pv 0) pa_nil)) (pa_cons (pe_call F_law_next_word (hr.mono (by omega)) rfl g_law_next_word k_law_next_word b_law_next_word .nil pass0 (pa_cons (pv 0) pa_nil)) pa_nil)) rfl)
        (pss_cons (ps_if (pt_cmpR op_ne (pv 3) pe_str (nomark _)) (pss_one (ps_ret pe_non)) pss_nil)
        (pss_cons (ps_if (pt_cmpR op_eq (pv 4) pe_str (nomark _)) (pss_cons (ps_set (i := 4) nd rfl (Or.inl rfl) (pe_call F_law_next_word (hr.mono (by omega)) rfl g_law_next_word k_law_next_word b_law_next_word .nil pass0 (pa_cons (pv 0) pa_nil)))
        (pss_one (ps_ret (pe_ifExp (pt_val (pe_call F_law_is_sign (hr.mono (by omega)) rfl g_law_is_sign k_law_is_sign b_law_is_sign .nil pass0 (pa_cons (pv 4) pa_nil))) (pe_tup (pa_cons pe_str (pa_cons (pv 2) (pa_cons (pv 4) pa_nil)))) pe_non)))) pss_nil)
        (pss_cons (ps_if (pt_cmpR op_eq (pv 4) pe_str (nomark _)) (pss_one (ps_ret (pe_tup (pa_cons pe_str (pa_cons (pv 2) pa_nil))))) pss_nil)
        (pss_one (ps_ret (pe_ifExp (pt_val (pe_call F_law_is_goal (hr.mono (by omega)) rfl g_law_is_goal k_law_is_goal b_law_is_goal .nil pass0 (pa_cons (pv 4) pa_nil))) (pe_tup (pa_cons pe_str (pa_cons (pv 2) (pa_cons (pv 4) pa_nil)))) pe_non))))))) pss_nil)
        (pss_cons (ps_if (pt_cmpR op_eq (pv 2) pe_str (nomark _)) (pss_cons (ps_par3 rfl nd (i := 5) (j := 3) (l := 4) rfl rfl rfl (by decide) (by decide) (by decide) rfl rfl rfl (pa_cons (pe_call F_law_next_word (hr.mono (by omega)) rfl g_law_next_word k_law_next_word b_law_next_word .nil pass0 (pa_cons (pv 0) pa_nil)) (pa_cons (pe_call F_law_next_word (hr.mono (by omega)) rfl g_law_next_word k_law_next_word b_law_next_word .nil pass0 (pa_cons (pv 0) pa_nil)) (pa_cons (pe_call F_law_next_word (hr.mono (by omega)) rfl g_law_next_word k_law_next_word b_law_next_word .nil pass0 (pa_cons (pv 0) pa_nil)) pa_nil))) rfl)
        (pss_one (ps_ret (pe_ifExp (PW.pt (pw_and (pt_val (pe_call F_law_is_sign (hr.mono (by omega)) rfl g_law_is_sign k_law_is_sign b_law_is_sign .nil pass0 (pa_cons (pv 5) pa_nil))) (pw_and (pt_cmpR op_eq (pv 3) pe_str (nomark _)) (pw_and1 (pt_val (pe_call F_law_is_goal (hr.mono (by omega)) rfl g_law_is_goal k_law_is_goal b_law_is_goal .nil pass0 (pa_cons (pv 4) pa_nil))))))) (pe_tup (pa_cons pe_str (pa_cons (pv 5) (pa_cons (pv 4) pa_nil)))) pe_non)))) pss_nil)
        (pss_cons (ps_if (pt_cmpR op_eq (pv 2) pe_str (nomark _)) (pss_cons (ps_set (i := 5) nd rfl (Or.inl rfl) (pe_call F_law_next_word (hr.mono (by omega)) rfl g_law_next_word k_law_next_word b_law_next_word .nil pass0 (pa_cons (pv 0) pa_nil)))
        (pss_one (ps_ret (pe_ifExp (pt_val (pe_call F_law_is_sign (hr.mono (by omega)) rfl g_law_is_sign k_law_is_sign b_law_is_sign .nil pass0 (pa_cons (pv 5) pa_nil))) (pe_tup (pa_cons pe_str (pa_cons (pv 5) pa_nil))) pe_non)))) pss_nil)
        (pss_one (ps_ret (pe_ifExp (PW.pt (pw_and (pt_cmpR op_in_seq (pv 2) (pe_tup (pa_cons pe_str (pa_cons pe_str pa_nil))) rfl) (pw_and1 (pt_cmpR op_lt (pv 1) pe_int (nomark _))))) (pe_call F_law_read_braced (hr.mono (by omega)) rfl g_law_read_braced k_law_read_braced b_law_read_braced .nil pass0 (pa_cons (pv 0) (pa_cons (pv 1) (pa_cons (pv 2) pa_nil)))) pe_non))))))))), ?_⟩
    refine sq fun U hU => ?_
    walk_at "rd"
    refine ⟨_, SqL.of hR.1, _, atI_nn (by decide) rfl, cn, rfl, _, hR.1, 2, rfl, hU _ _ ?_⟩
    clear hU
    have b1 : But rd H (upd H rd (.lst [.ref l, .int i0, .int (cn + 1 : Nat)])) := But.put
    have r1 : RdR (upd H rd (.lst [.ref l, .int i0, .int (cn + 1 : Nat)])) rd l ts i0 (cn + 1) := ⟨upd_same, (upd_ne lr).trans hR.2⟩
    replace b1 : But rd H (upd H rd (.lst [.ref l, .int i0, .int ((cn : Int) + 1)])) := b1
    replace r1 : RdR (upd H rd (.lst [.ref l, .int i0, .int ((cn : Int) + 1)])) rd l ts i0 (cn + 1) := r1
    refine sq fun U hU => ?_
    walk_at "rd"
    generalize (upd H rd (.lst [.ref l, .int i0, .int ((cn : Int) + 1)])) = H1 at b1 r1 ⊢
    refine ⟨rd, l, ts, i0, cn + 1, rfl, r1, fun H2 b2 r2 => hU _ _ ?_⟩
    clear hU
    replace b2 := b1.trans b2
    clear b1 r1 hR
    refine sq fun U hU => ?_
    walk_at "rd"
    refine ⟨_, SqL.of r2.1, _, atI_nn (by decide) rfl, _, rfl, ?_⟩
    by_cases hc : cn + 1 ≤ 30
    · rw [if_neg (by omega)]
      refine hU _ _ ?_
      clear hU
      rw [refSt_eq, t1] at k
      unfold refDeed at k
      rw [t1, t2, t3, t4] at k
      have one : ∀ d r', isDeed d = true → lim cn 30 (cntSt n) (some (d, r')) = some d := fun d r' hd => lim_some (by rw [(deed_plain hd n).1]; omega)
      refine sq fun U hU => ?_
      refine iq fun T1 U1 hT1 hU1 => ?_
      walk_at "rd"
      refine ⟨_, .str _, rfl, .str _ ma, fun H3 s3 => ?_⟩
      replace b2 := b2.trans (But.same (u := rd) s3)
      replace r2 := r2.up s3
      clear s3
      walk_at "rd"
      by_cases ha : isLetterS ((ts.drop i0).headD "") = true
      · rw [if_pos (show isLetter (.str ((ts.drop i0).headD "")) = true from ha)]
        rw [if_neg (letter_ne ha (by decide)), if_neg (letter_ne ha (by decide)), if_neg (letter_ne ha (by decide)), if_neg (letter_ne ha (by decide))] at k
        refine hT1 _ ?_
        clear hT1 hU1 hU
        refine sq fun U hU => ?_
        walk_at "rd"
        refine ⟨rd, l, ts, i0 + 1, cn + 1, rfl, r2, fun H4 b4 r4 => ?_⟩
        refine ⟨rd, l, ts, i0 + 2, cn + 1, rfl, r4, fun H5 b5 r5 => ?_⟩
        refine hU _ _ ?_
        clear hU
        have bb := b2.trans (b4.trans b5)
        clear b2 r2 b4 r4 b5
        refine sq fun U hU => ?_
        walk_at "rd"
        by_cases hs : (ts.drop (i0 + 1)).headD "" = "="
        · rw [if_neg (fun z => z hs)]
          rw [if_pos ⟨ha, hs⟩] at k
          refine hU _ _ ?_
          clear hU
          refine sq fun U hU => ?_
          walk_at "rd"
          by_cases n1 : (ts.drop (i0 + 2)).headD "" = "next"
          · rw [if_pos n1]
            rw [if_neg (by rw [n1]; decide), if_pos n1] at k
            refine ⟨rd, l, ts, i0 + 3, cn + 1, rfl, r5, fun H6 b6 r6 => ?_⟩
            clear hU
            replace bb := bb.trans b6
            clear b6 r5
            walk_at "rd"
            refine ⟨_, .str _, rfl, .str _ md, fun H7 s7 => ?_⟩
            walk_at "rd"
            by_cases hd : isLetterS ((ts.drop (i0 + 3)).headD "") = true
            · rw [if_pos (show isLetter (.str ((ts.drop (i0 + 3)).headD "")) = true from hd)]
              rw [if_pos hd] at k
              refine ⟨by decide, fun q hq => ?_⟩
              have qn := bnone (bb.trans (But.same s7)) hq ((r6.up s7).ne hq)
              have gd := d_next ha hd
              refine k _ _ _ _ (bb.trans (But.same (s7.trans (same_new hq)))) (r6.up (s7.trans (same_new hq))) ?_ (fun d r' z _ => by cases z; exact ⟨rfl, hd_lt (letter_ne0 hd), by rw [(deed_plain gd n).1]⟩)
              rw [one _ _ gd]
              exact tup3 ((newp_at qn).trans upd_same) (by decide +kernel) ma md
            · rw [if_neg (show ¬ isLetter (.str ((ts.drop (i0 + 3)).headD "")) = true from hd)]
              rw [if_neg hd] at k
              exact k _ _ _ _ (bb.trans (But.same s7)) (r6.up s7) rfl (fun _ _ z => nomatch z)
          · rw [if_neg n1]
            rw [if_neg n1] at k
            refine hU _ _ ?_
            clear hU
            refine sq fun U hU => ?_
            walk_at "rd"
            by_cases n2 : (ts.drop (i0 + 2)).headD "" = "new"
            · rw [if_pos n2]
              rw [if_pos n2] at k
              refine ⟨by decide, fun q hq => ?_⟩
              have qn := bnone bb hq (r5.ne hq)
              have gd := d_new ha
              refine k _ _ _ _ (bb.trans (But.same (same_new hq))) (r5.up (same_new hq)) ?_ (fun d r' z _ => by cases z; exact ⟨rfl, hd_lt (by rw [n2]; decide), by rw [(deed_plain gd n).1]⟩)
              rw [one _ _ gd]
              exact tup2 ((newp_at qn).trans upd_same) (by decide +kernel) ma
            · rw [if_neg n2]
              rw [if_neg n2] at k
              refine hU _ _ ?_
              clear hU
              walk_at "rd"
              refine ⟨_, .str _, rfl, .str _ mc, fun H7 s7 => ?_⟩
              walk_at "rd"
              by_cases hg : isGoal (.str ((ts.drop (i0 + 2)).headD "")) = true
              · rw [if_pos hg]
                rw [if_pos hg] at k
                refine ⟨by decide, fun q hq => ?_⟩
                have qn := bnone (bb.trans (But.same s7)) hq ((r5.up s7).ne hq)
                have gd := d_copy ha hg
                refine k _ _ _ _ (bb.trans (But.same (s7.trans (same_new hq)))) (r5.up (s7.trans (same_new hq))) ?_ (fun d r' z _ => by cases z; exact ⟨rfl, hd_lt (goal_ne hg), by rw [(deed_plain gd n).1]⟩)
                rw [one _ _ gd]
                exact tup3 ((newp_at qn).trans upd_same) (by decide +kernel) ma mc
              · rw [if_neg hg]
                rw [if_neg hg] at k
                exact k _ _ _ _ (bb.trans (But.same s7)) (r5.up s7) rfl (fun _ _ z => nomatch z)
        · rw [if_pos hs]
          rw [if_neg (fun z => hs z.2)] at k
          exact k _ _ _ _ bb r5 rfl (fun _ _ z => nomatch z)
      · rw [if_neg (show ¬ isLetter (.str ((ts.drop i0).headD "")) = true from ha)]
        refine hU1 _ ?_
        clear hT1 hU1
        walk_at "rd"
        refine hU _ _ ?_
        clear hU
        refine sq fun U hU => ?_
        refine iq fun T1 U1 hT1 hU1 => ?_
        walk_at "rd"
        by_cases n1 : (ts.drop i0).headD "" = "next"
        · rw [if_pos n1]
          rw [if_neg (by rw [n1]; decide), if_neg (by rw [n1]; decide), if_neg (by rw [n1]; decide), if_pos n1] at k
          refine hT1 _ ?_
          clear hT1 hU1 hU
          refine sq fun U hU => ?_
          walk_at "rd"
          refine ⟨rd, l, ts, i0 + 1, cn + 1, rfl, r2, fun H4 b4 r4 => ?_⟩
          refine ⟨rd, l, ts, i0 + 2, cn + 1, rfl, r4, fun H5 b5 r5 => ?_⟩
          refine ⟨rd, l, ts, i0 + 3, cn + 1, rfl, r5, fun H6 b6 r6 => ?_⟩
          refine hU _ _ ?_
          clear hU
          have bb := b2.trans (b4.trans (b5.trans b6))
          clear b2 r2 b4 r4 b5 r5 b6
          walk_at "rd"
          refine ⟨_, .str _, rfl, .str _ mb, fun H7 s7 => ?_⟩
          walk_at "rd"
          have bad : ∀ H', Same H6 H' → ¬ (isLetterS ((ts.drop (i0 + 1)).headD "") = true ∧ (ts.drop (i0 + 2)).headD "" = "=" ∧ isGoal (.str ((ts.drop (i0 + 3)).headD "")) = true) → Q .non H' := fun H' s hn => by
            rw [if_neg hn] at k
            exact k _ _ _ _ (bb.trans (But.same s)) (r6.up s) rfl (fun _ _ z => nomatch z)
          by_cases ho : isLetterS ((ts.drop (i0 + 1)).headD "") = true
          · rw [if_pos (show isLetter (.str ((ts.drop (i0 + 1)).headD "")) = true from ho)]
            by_cases hs : (ts.drop (i0 + 2)).headD "" = "="
            · rw [if_pos hs]
              refine ⟨_, .str _, rfl, .str _ md, fun H8 s8 => ?_⟩
              walk_at "rd"
              by_cases hb : isGoal (.str ((ts.drop (i0 + 3)).headD "")) = true
              · rw [if_pos hb]
                rw [if_pos ⟨ho, hs, hb⟩] at k
                refine ⟨by decide, fun q hq => ?_⟩
                have ss := s7.trans s8
                have qn := bnone (bb.trans (But.same ss)) hq ((r6.up ss).ne hq)
                have gd := d_tie ho hb
                refine k _ _ _ _ (bb.trans (But.same (ss.trans (same_new hq)))) (r6.up (ss.trans (same_new hq))) ?_ (fun d r' z _ => by cases z; exact ⟨rfl, hd_lt (goal_ne hb), by rw [(deed_plain gd n).1]⟩)
                rw [one _ _ gd]
                exact tup3 ((newp_at qn).trans upd_same) (by decide +kernel) mb md
              · rw [if_neg hb]
                exact bad _ (s7.trans s8) (fun z => hb z.2.2)
            · rw [if_neg hs]
              exact bad _ s7 (fun z => hs z.2.1)
          · rw [if_neg (show ¬ isLetter (.str ((ts.drop (i0 + 1)).headD "")) = true from ho)]
            exact bad _ s7 (fun z => ho z.1)
        · rw [if_neg n1]
          refine hU1 _ ?_
          clear hT1 hU1
          walk_at "rd"
          refine hU _ _ ?_
          clear hU
          refine sq fun U hU => ?_
          refine iq fun T1 U1 hT1 hU1 => ?_
          walk_at "rd"
          by_cases n2 : (ts.drop i0).headD "" = "drop"
          · rw [if_pos n2]
            rw [if_neg (by rw [n2]; decide), if_neg (by rw [n2]; decide), if_pos n2] at k
            refine hT1 _ ?_
            clear hT1 hU1 hU
            refine sq fun U hU => ?_
            walk_at "rd"
            refine ⟨rd, l, ts, i0 + 1, cn + 1, rfl, r2, fun H4 b4 r4 => hU _ _ ?_⟩
            clear hU
            have bb := b2.trans b4
            walk_at "rd"
            refine ⟨_, .str _, rfl, .str _ mb, fun H7 s7 => ?_⟩
            walk_at "rd"
            by_cases hd : isLetterS ((ts.drop (i0 + 1)).headD "") = true
            · rw [if_pos (show isLetter (.str ((ts.drop (i0 + 1)).headD "")) = true from hd)]
              rw [if_pos hd] at k
              refine ⟨by decide, fun q hq => ?_⟩
              have qn := bnone (bb.trans (But.same s7)) hq ((r4.up s7).ne hq)
              have gd := d_drop hd
              refine k _ _ _ _ (bb.trans (But.same (s7.trans (same_new hq)))) (r4.up (s7.trans (same_new hq))) ?_ (fun d r' z _ => by cases z; exact ⟨rfl, hd_lt (letter_ne0 hd), by rw [(deed_plain gd n).1]⟩)
              rw [one _ _ gd]
              exact tup2 ((newp_at qn).trans upd_same) (by decide +kernel) mb
            · rw [if_neg (show ¬ isLetter (.str ((ts.drop (i0 + 1)).headD "")) = true from hd)]
              rw [if_neg hd] at k
              exact k _ _ _ _ (bb.trans (But.same s7)) (r4.up s7) rfl (fun _ _ z => nomatch z)
          · rw [if_neg n2]
            refine hU1 _ ?_
            clear hT1 hU1
            walk_at "rd"
            refine hU _ _ ?_
            clear hU
            walk_at "rd"
            refine ⟨by decide, fun p hp => in2 upd_same ?_⟩
            have s3 : Same H3 (upd H3 p (.tup [.str "if", .str "while"])) := same_new hp
            replace b2 := b2.trans (But.same (u := rd) s3)
            replace r2 := r2.up s3
            generalize (upd H3 p (HO.tup [.str "if", .str "while"])) = H4 at b2 r2 ⊢
            clear hp s3
            walk_at "rd"
            have brc : ∀ tok : Str, (tok = "if" ∨ tok = "while") → (ts.drop i0).headD "" = tok → (∀ (x : V) (H' : Hp) (i' c' : Nat), But rd H H' → RdR H' rd l ts i' c' → OV K (newp H H') x (lim cn 30 (cntSt n) (refBr tok (refBlk n) (ts.drop (i0 + 1)))) → (∀ d r', refBr tok (refBlk n) (ts.drop (i0 + 1)) = some (d, r') → cn + cntSt n d ≤ 30 → ts.drop i' = r' ∧ i' ≤ ts.length ∧ c' = cn + cntSt n d) → Q x H') → (if dpt n < 4 then spBrP K n [V.ref rd, V.int (dpt n), V.str ((List.drop i0 ts).headD "")] H4 Q E0 else Q .non H4) := fun tok htok e k => by
              cases n with
              | zero =>
                rw [if_neg (by unfold dpt; decide)]
                rw [refBr_zero] at k
                exact k _ _ _ _ b2 r2 rfl (fun _ _ z => nomatch z)
              | succ m =>
                rw [if_pos (by unfold dpt; omega), e]
                exact ⟨tok, htok, rd, l, ts, i0 + 1, cn, rfl, hsm, r2, hc, fun x H5 i' c' b5 r5 hx hres => k x H5 i' c' (b2.trans b5) r5 (hx.up (newp_later b2 fun p => r2.ne)) hres⟩
            by_cases h1 : (ts.drop i0).headD "" = "if"
            · rw [if_pos (by rw [h1]; decide)]
              rw [if_pos h1, refBr_if] at k
              exact brc _ (.inl rfl) h1 k
            · rw [if_neg h1] at k
              by_cases h2 : (ts.drop i0).headD "" = "while"
              · rw [if_pos (by rw [h2]; decide)]
                rw [if_pos h2, refBr_while] at k
                exact brc _ (.inr rfl) h2 k
              · rw [if_neg h2] at k
                rw [if_neg (by rw [decide_eq_false h1, decide_eq_false h2]; decide)]
                rw [if_neg n2, if_neg n1, if_neg (show ¬ (isLetterS ((ts.drop i0).headD "") = true ∧ (ts.drop (i0 + 1)).headD "" = "=") from fun z => ha z.1)] at k
                exact k _ _ _ _ b2 r2 rfl (fun _ _ z => nomatch z)
    · rw [if_pos (by omega)]
      have nn : ∀ d r, refSt n (ts.drop i0) = some (d, r) → ¬ cn + cntSt n d ≤ 30 := fun d r e => by
        have := cntSt_pos n d
        omega
      exact k _ _ _ _ b2 r2 (by rw [show lim cn 30 (cntSt n) (refSt n (ts.drop i0)) = none from lim_none nn]; exact rfl) (fun d r e z => absurd z (nn d r e))
end
end K38

set_option Elab.async false
set_option linter.all false
set_option maxRecDepth 100000
set_option maxHeartbeats 4000000
namespace K38
open PySem PySem.Spec PyProof.Rows L2 Rd Dt Dq Pk TL
local macro_rules | `(tactic| walk_at "rd") => `(tactic| try simp only [↓tFld_, ↓sFld_, ↓tVar_, ↓tC_, ↓tM1, ↓tDNewK_, ↓tOp_, ↓tUn_, ↓rI_, ↓rI0_, ↓rU_, ↓eq_ii, ↓ne_ii, ↓eq_ss, ↓ne_ss, ↓eq_bb, ↓ne_bb, ↓tAndV_, ↓tOrV_, ↓tNotV_, ↓tIf_, ↓tTest_, ↓tB_, ↓tAnd_, ↓tOr_, ↓tNot_, ↓tChain_, ↓tNil_, ↓tCons_, ↓tTup_, ↓tLst_, ↓tCB_, ↓tCall_, ↓tSeq_, ↓tNext_, ↓tRet_, ↓tRetN_, ↓tDrop_, ↓tBreak_, ↓tNever_, ↓tIfS_, ↓tAsg_, ↓gName_, ↓gTup_, ↓gCons_, ↓gNil_, ↓gSub_, ↓tPar_, ↓tPar3_, ↓tSl_, ↓tNoPart_, ↓tPart_, ↓tBM_, ↓tFor_range1, ↓tFor_range2, ↓tFor_list, ↓tFor_tup, L2.start, List.headD_cons, List.headD_nil, List.tail_cons, List.map_cons, List.map_nil, List.length_cons, List.length_nil, List.replicate, List.append_nil, List.nil_append, List.cons_append, List.getElem?_cons_zero, List.getElem?_cons_succ, List.set_cons_zero, List.set_cons_succ, Option.some.injEq, V.int.injEq, V.bl.injEq, V.str.injEq, V.ref.injEq, exists_eq_left, exists_eq_left', exists_eq_right, exists_eq, exists_and_left, and_true, true_and, decide_eq_true_eq, Nat.reduceAdd, Nat.reduceSub, Nat.add_zero, Nat.zero_add, List.cons.injEq, Bool.not_eq_true', decide_eq_false_iff_not, eq_self, reduceCtorEq, Bool.false_eq_true, if_true, if_false, ite_true, ite_false, and_self, ↓tLc_range1, ↓tLc_range2, ↓tLc_list, ↓tLc_tup, ↓tYes_, wipe0, wipe1, ↓tCallS_, ↓rIxL_, ↓rIxT_, ↓rSlL_, ↓rCat_, ↓rSetL_, ↓rRep_, ↓rGcd_, ↓tCallK_, ↓gUnl_, ↓tRaise_, decide_true, decide_false, not_true_eq_false, not_false_eq_true, false_and, or_false, false_or, and_false, and_assoc, exists_const, forall_const, forall_eq'])

section
variable {P : Program} {w : World} {K : PySem.W.Frag} {mg : Str → Option Value} {base : Heap}
theorem rows_cnt {st : List Str → Res} {cnt : PyData → Nat} : ∀ (f : Nat) (acc : List PyData) (ts : List Str) (d : PyData) (r : List Str), rowsWith st f acc ts = some (d, r) → (acc.map cnt).sum ≤ cntOf cnt d
  | 0, _, _, _, _, h => by cases h
  | f + 1, acc, ts, d, r, h => by
    rw [rowsWith] at h
    split at h
    · cases h
    · rename_i d1 r1 e
      split at h
      · have := rows_cnt (cnt := cnt) f _ _ _ _ h
        rw [List.map_append, List.sum_append] at this
        omega
      · injection h with h
        injection h with h1 h2
        subst h1
        show (acc.map cnt).sum ≤ ((acc ++ [d1]).map cnt).sum
        rw [List.map_append, List.sum_append]
        omega
def tgP (K : PySem.W.Frag) (n : Nat) (H0 : Hp) (rd l p : Addr) (ts : List Str) (cn : Nat) (goal : Res) (j : Nat) : L2.St → Hp → Prop := fun σ H => ∃ (acc : List PyData) (i' : Nat) (xs : List V) (a b : Option V), goal = rowsWith (refSt n) ((ts.drop i').length + 1) acc (ts.drop i') ∧ acc.length = j ∧ But rd H0 H ∧ RdR H rd l ts i' (cn + (acc.map (cntSt n)).sum) ∧ cn + (acc.map (cntSt n)).sum ≤ 30 ∧
  H p = some (.lst xs) ∧ DqAll K (nw H0 p H) xs acc ∧ acc.length ≤ (acc.map (cntSt n)).sum ∧ σ = [some (.ref rd), some (.int (dpt n)), some (.ref p), a, b]
theorem sc_ts : FnScope ["_law_reader", "_law_deep", "_law_found", "_law_turn", "_law_twig"] ["_law_reader", "_law_deep"] (defScope (top 50)) := ⟨rfl, rfl, rfl, by decide +kernel, rfl, by decide +kernel, by decide +kernel⟩
theorem set1 {H : Hp} {rd l : Addr} {ts : List Str} {i cn : Nat} (h : RdR H rd l ts i cn) : RdR (upd H rd (.lst [.ref l, .int ((i : Int) + 1), .int cn])) rd l ts (i + 1) cn := by
  have lr : l ≠ rd := fun z => by
    obtain ⟨e1, e2⟩ := h
    rw [z, e1] at e2
    injection e2 with e2
    injection e2 with e2
    cases ts with
    | nil => cases e2
    | cons a b => cases e2
  exact ⟨upd_same, (upd_ne lr).trans h.2⟩
theorem ok_ts (T : Tx mg) (n : Nat) {f : Addr} {fd : FuncData} (F : FD K "_law_read_twigs" (top 50) f fd) {f1 f2 : Addr} {fd1 fd2 : FuncData} (C1 : Cal P w K mg base CX0 1 "_law_ahead_word" ["_law_reader"] spAhead f1 fd1) (C2 : Cal P w K mg base CX0 (3 + 3 * n + 1) "_law_read_twig" ["_law_reader", "_law_deep"] (spTwig K n) f2 fd2) : FnOk P w K mg base CX0 (3 + 3 * n + 2) f fd ["_law_reader", "_law_deep"] (spTwigs K n) := by
  obtain ⟨g_law_ahead_word, k_law_ahead_word, b_law_ahead_word, F_law_ahead_word⟩ := C1
  obtain ⟨g_law_read_twig, k_law_read_twig, b_law_read_twig, F_law_read_twig⟩ := C2
  refine F.ok sc_ts (fun vs H Q E h => ?_) (fun cdv A outer s H vs Q E hr h => ?_)
  · obtain ⟨_, _, _, _, _, rfl, _⟩ := h
    rfl
  · obtain ⟨rd, l, ts, i0, cn, rfl, hsm, hR, hcl, k⟩ := h
    have nd := sc_ts.nd
    have hr0 : ∀ p, H p = none → p ≠ rd := fun p => hR.ne
    have hl0 : ∀ p, H p = none → p ≠ l := fun p => hR.nel
    replace hcl : cn ≤ 30 := hcl
    replace hR : RdR H rd l ts i0 cn := hR
    have bad : ∀ (H' : Hp) (i' c' : Nat), But rd H H' → RdR H' rd l ts i' c' → (∀ d r, refRows (refSt n) (ts.drop i0) = some (d, r) → ¬ cn + cntOf (cntSt n) d ≤ 30) → Q .non H' := fun H' i' c' b r h => k .non H' i' c' b r (by rw [show lim cn 30 (cntOf (cntSt n)) (refRows (refSt n) (ts.drop i0)) = none from lim_none h]; exact rfl) (fun d r e z => absurd z (h d r e))
    unfold refRows at k bad
    refine ⟨_, (pss_cons (ps_set (i := 2) nd rfl (Or.inl rfl) (pe_lst pa_nil))
        (pss_cons (ps_if (pt_cmpR op_eq (pe_call F_law_ahead_word (hr.mono (by omega)) rfl g_law_ahead_word k_law_ahead_word b_law_ahead_word .nil pass0 (pa_cons (pv 0) pa_nil)) pe_str (nomark _)) (pss_cons (ps_asg (pe_op op_add (pe_ix (r := rIxL K) ix_list (pv 0) pe_int (fun _ _ => rfl)) pe_int) (pg_sub (pv 0) pe_int set_list))
        (pss_one (ps_ret (pe_tup pa_nil)))) pss_nil)
        (pss_cons (ps_for (passes_of rfl) rfl (pi_range1 rfl T.b_range (pa_cons pe_int pa_nil)) (pg_name (i := 3) nd rfl (Or.inl rfl)) (pss_cons (ps_set (i := 4) nd rfl (Or.inl rfl) (pe_call F_law_read_twig (hr.mono (by omega)) rfl g_law_read_twig k_law_read_twig b_law_read_twig .nil pass0 (pa_cons (pv 0) (pa_cons (pv 1) pa_nil))))
        (pss_cons (ps_if (pt_cmpR op_isN (pv 4) pe_non (nomark _)) (pss_one (ps_ret pe_non)) pss_nil)
        (pss_cons (ps_expr (pe_bm PySem.F.plainAttrs_list PySem.F.slot_list_append PySem.F.type_list_append mt_append (pv 2) (pa_cons (pv 4) pa_nil)))
        (pss_cons (ps_if (pt_cmpR op_ne (pe_call F_law_ahead_word (hr.mono (by omega)) rfl g_law_ahead_word k_law_ahead_word b_law_ahead_word .nil pass0 (pa_cons (pv 0) pa_nil)) pe_str (nomark _)) (pss_one (ps_ret (pe_callTy call_tuple_of (by rfl) T.b_tuple (by decide +kernel) (pa_cons (pv 2) pa_nil)))) pss_nil)
        (pss_one (ps_asg (pe_op op_add (pe_ix (r := rIxL K) ix_list (pv 0) pe_int (fun _ _ => rfl)) pe_int) (pg_sub (pv 0) pe_int set_list))))))))
        (pss_one (ps_ret pe_non))))), ?_⟩
    refine sq fun U hU => ?_
    walk_at "rd"
    refine ⟨by decide, fun p hp => hU _ _ ?_⟩
    clear hU
    have pr := hr0 p hp
    have s0 : Same H (upd H p (.lst [])) := same_new hp
    have e0 : (upd H p (HO.lst [])) p = some (.lst []) := upd_same
    have b0 : But rd H (upd H p (HO.lst [])) := But.same s0
    have r0 := hR.up s0
    refine sq fun U hU => ?_
    refine iq fun T1 U1 hT1 hU1 => ?_
    walk_at "rd"
    refine ⟨rd, l, ts, i0, cn, rfl, r0, ?_⟩
    walk_at "rd"
    by_cases hn : (ts.drop i0).headD "" = "none"
    · rw [if_pos hn]
      rw [if_pos hn] at k
      refine hT1 _ ?_
      clear hT1 hU1 hU
      refine sq fun V2 hV => ?_
      walk_at "rd"
      refine ⟨_, SqL.of r0.1, _, atI_nn (by decide) rfl, i0, rfl, _, r0.1, 1, rfl, hV _ _ ?_⟩
      clear hV
      walk_at "rd"
      refine ⟨by decide, fun q hq => ?_⟩
      have r1 := set1 r0
      have b1 : But rd H (upd (upd H p (HO.lst [])) rd (.lst [.ref l, .int ((i0 : Int) + 1), .int cn])) := b0.trans But.put
      have q0 := bnone b1 hq (r1.ne hq)
      refine k _ _ _ _ (b1.trans (But.same (same_new hq))) (r1.up (same_new hq)) ?_ (fun d r' z _ => by cases z; exact ⟨List.tail_drop.symm, hd_lt (by rw [hn]; decide), rfl⟩)
      rw [lim_some (by show cn + 0 ≤ 30; omega)]
      exact .tup ((newp_at q0).trans upd_same) .nil
    · rw [if_neg hn]
      rw [if_neg hn] at k bad
      refine hU1 _ ?_
      clear hT1 hU1
      walk_at "rd"
      refine hU _ _ ?_
      clear hU
      refine sq fun U hU => ?_
      walk_at "rd"
      refine ⟨by decide, by decide, ?_⟩
      refine for_r (tgP K n H rd l p ts cn (rowsWith (refSt n) ((ts.drop i0).length + 1) [] (ts.drop i0))) ⟨[], i0, [], none, none, rfl, rfl, b0, r0, hcl, e0, .nil, Nat.le_refl _, rfl⟩ ?_ ?_
      · rintro j σ H2 hj ⟨acc, i', xs, a, b, eg, rfl, b2, r2, hc2, e2, D2, hl2, rfl⟩
        simp only [gName_, List.set_cons_succ, List.set_cons_zero]
        rw [eg] at k bad
        rw [rowsWith] at k bad
        have xl := D2.len
        refine sq fun V2 hV => ?_
        walk_at "rd"
        refine ⟨rd, l, ts, i', cn + (acc.map (cntSt n)).sum, rfl, hsm, r2, by show cn + (acc.map (cntSt n)).sum ≤ 40; omega, fun x H3 i3 c3 b3 r3 hx hres => hV _ _ ?_⟩
        clear hV
        have bb := b2.trans b3
        have e3 := b3 _ _ pr e2
        refine sq fun V2 hV => ?_
        walk_at "rd"
        cases es : refSt n (ts.drop i') with
        | none =>
          rw [es] at hx bad
          have ex : x = .non := hx
          subst ex
          rw [if_pos rfl]
          exact bad _ _ _ bb r3 (fun _ _ z => nomatch z)
        | some dr =>
          obtain ⟨d, r'⟩ := dr
          rw [es] at hx bad k
          dsimp only at bad k
          have hb1 : ∀ D r, (if r'.headD "" = ";" then rowsWith (refSt n) (ts.drop i').length (acc ++ [d]) r'.tail else some (PyData.tuple (acc ++ [d]), r')) = some (D, r) → (acc.map (cntSt n)).sum + cntSt n d ≤ cntOf (cntSt n) D := fun D r h => by
            have e9 : ((acc ++ [d]).map (cntSt n)).sum = (acc.map (cntSt n)).sum + cntSt n d := by
              rw [List.map_append, List.sum_append]; simp
            rw [← e9]
            split at h
            · exact rows_cnt _ _ _ _ _ h
            · cases h
              exact Nat.le_refl _
          by_cases hc : cn + (acc.map (cntSt n)).sum + cntSt n d ≤ 30
          · rw [lim_some hc] at hx
            have hx2 : Dq K (newp H2 H3) x d := hx
            obtain ⟨ay, rfl⟩ := st_ref es hx2
            obtain ⟨hr', hi3, hc3⟩ := hres d r' es hc
            subst hr' hc3
            rw [if_neg (by simp)]
            refine hV _ _ ?_
            clear hV
            have e9 : ((acc ++ [d]).map (cntSt n)).sum = (acc.map (cntSt n)).sum + cntSt n d := by
              rw [List.map_append, List.sum_append]; simp
            refine sq fun V2 hV => ?_
            walk_at "rd"
            refine ⟨.inl ⟨rfl, _, SqL.of e3⟩, p, xs, _, rfl, rfl, e3, by rw [sizeLine_eq]; omega, hV _ _ ?_⟩
            clear hV
            have r4 := r3.put (o := .lst (xs ++ [.ref ay])) pr (hl0 p hp)
            have b4 : But rd H (upd H3 p (.lst (xs ++ [.ref ay]))) := but_new bb hp
            have e4 : (upd H3 p (HO.lst (xs ++ [.ref ay]))) p = some (.lst (xs ++ [.ref ay])) := upd_same
            have D4 : DqAll K (nw H p (upd H3 p (HO.lst (xs ++ [.ref ay])))) (xs ++ [.ref ay]) (acc ++ [d]) := by
              refine (D2.up (nw_but hr0 fun a o h1 h2 e => ?_)).append (.cons (Dq.up (fun a o e => ?_) hx2) .nil)
              · rw [upd_ne h2]
                exact b3 a o h1 e
              · obtain ⟨h1, h2⟩ := newp_some e
                have n1 : a ≠ p := (ne_of_none e2 h1).symm
                rw [nw_at n1 (bnone b2 h1 (r2.ne h1)), upd_ne n1]
                exact h2
            generalize (upd H3 p (HO.lst (xs ++ [V.ref ay]))) = H4 at r4 b4 e4 D4 ⊢
            refine sq fun V2 hV => ?_
            walk_at "rd"
            refine ⟨rd, l, ts, i3, _, rfl, r4, ?_⟩
            walk_at "rd"
            by_cases h1 : (ts.drop i3).headD "" = ";"
            · rw [if_neg (fun z => z h1)]
              rw [if_pos h1] at k bad
              refine hV _ _ ?_
              clear hV
              walk_at "rd"
              refine ⟨_, SqL.of r4.1, _, atI_nn (by decide) rfl, i3, rfl, _, r4.1, 1, rfl, ?_⟩
              have ge := (refSt_good n _ _ _ es).2
              refine ⟨acc ++ [d], i3 + 1, _, _, _, ?_, by simp, b4.trans But.put, ?_, ?_, (upd_ne pr).trans e4, D4.up (nw_but hr0 fun a o h1 _ e => (upd_ne h1).trans e), ?_, rfl⟩
              · rw [eg, rowsWith, es]
                dsimp only
                rw [if_pos h1, List.tail_drop]
                exact rowsWith_fuel (refSt_good n) _ _ _ _ (by have := hd_lt (ts := ts) (j := i3) (by rw [h1]; decide); rw [List.length_drop, List.length_drop] at *; omega) (by omega)
              · rw [e9, ← Nat.add_assoc]
                exact set1 r4
              · rw [e9]; omega
              · have := cntSt_pos n d
                rw [e9, List.length_append]
                simp only [List.length_cons, List.length_nil]
                omega
            · rw [if_pos h1]
              rw [if_neg h1] at k
              refine ⟨_, .inl ⟨SqL.of e4, fun q hq => ?_⟩⟩
              have q0 := bnone b4 hq (r4.ne hq)
              have s5 : Same H4 (upd H4 q (.tup (xs ++ [.ref ay]))) := same_new hq
              refine k _ _ _ _ (b4.trans (But.same s5)) (r4.up s5) ?_ (fun D r z _ => by cases z; exact ⟨rfl, hi3, by show _ = cn + ((acc ++ [d]).map (cntSt n)).sum; rw [e9, Nat.add_assoc]⟩)
              rw [lim_some (by show cn + ((acc ++ [d]).map (cntSt n)).sum ≤ 30; rw [e9]; omega)]
              refine .tup ((newp_at q0).trans upd_same) (D4.up fun a o e => ?_)
              obtain ⟨h1, h2, h3⟩ := nw_some e
              rw [newp_at h2]
              exact s5 _ _ h3
          · rw [lim_none (fun D r z => by cases z; exact hc)] at hx
            have ex : x = .non := hx
            subst ex
            rw [if_pos rfl]
            exact bad _ _ _ bb r3 (fun D r z => by have := hb1 D r z; omega)
      · rintro σ H2 ⟨acc, i', xs, a, b, eg, hj, b2, r2, hc2, e2, D2, hl2, rfl⟩
        omega

def tagL (tok : Str) : Prop := tok = "if" ∨ tok = "while"
theorem sc_br : FnScope ["_law_reader", "_law_deep", "_law_token", "_law_quiz_here", "_law_inner", "_law_other_here"] ["_law_reader", "_law_deep", "_law_token"] (defScope (top 52)) := ⟨rfl, rfl, rfl, by decide +kernel, rfl, by decide +kernel, by decide +kernel⟩
theorem dq_ref2 {H : Hp} {x : V} {d : PyData} (hd : isTest d = true) (h : Dq K H x d) : ∃ a, x = .ref a := dq_ref' hd h
theorem ok_br (T : Tx mg) (m : Nat) {f : Addr} {fd : FuncData} (F : FD K "_law_read_braced" (top 52) f fd) {f1 f2 f3 f4 : Addr} {fd1 fd2 fd3 fd4 : FuncData} (C1 : Cal P w K mg base CX0 1 "_law_ahead_word" ["_law_reader"] spAhead f1 fd1) (C2 : Cal P w K mg base CX0 2 "_law_next_word" ["_law_reader"] spNext f2 fd2)
    (C3 : Cal P w K mg base CX0 3 "_law_read_quiz" ["_law_reader"] (spLQ K) f3 fd3) (C4 : Cal P w K mg base CX0 (3 + 3 * m + 2) "_law_read_twigs" ["_law_reader", "_law_deep"] (spTwigs K m) f4 fd4) : FnOk P w K mg base CX0 (3 + 3 * m + 3) f fd ["_law_reader", "_law_deep", "_law_token"] (spBr K (m + 1)) := by
  obtain ⟨g_law_ahead_word, k_law_ahead_word, b_law_ahead_word, F_law_ahead_word⟩ := C1
  obtain ⟨g_law_next_word, k_law_next_word, b_law_next_word, F_law_next_word⟩ := C2
  obtain ⟨g_law_read_quiz, k_law_read_quiz, b_law_read_quiz, F_law_read_quiz⟩ := C3
  obtain ⟨g_law_read_twigs, k_law_read_twigs, b_law_read_twigs, F_law_read_twigs⟩ := C4
  refine F.ok sc_br (fun vs H Q E h => ?_) (fun cdv A outer s H vs Q E hr h => ?_)
  · obtain ⟨_, _, _, _, _, _, _, rfl, _⟩ := h
    rfl
  · obtain ⟨tok, htok, rd, l, ts, i0, cn, rfl, hsm, hR, hcl, k⟩ := h
    have nd := sc_br.nd
    have hr0 : ∀ p, H p = none → p ≠ rd := fun p => hR.ne
    have hl0 : ∀ p, H p = none → p ≠ l := fun p => hR.nel
    replace hcl : cn + 1 ≤ 30 := hcl
    replace hR : RdR H rd l ts i0 (cn + 1) := hR
    have bad : ∀ (H' : Hp) (i' c' : Nat), But rd H H' → RdR H' rd l ts i' c' → (∀ d r, refBr tok (refBlk (m + 1)) (ts.drop i0) = some (d, r) → ¬ cn + cntSt (m + 1) d ≤ 30) → Q .non H' := fun H' i' c' b r h => k .non H' i' c' b r (by rw [show lim cn 30 (cntSt (m + 1)) (refBr tok (refBlk (m + 1)) (ts.drop i0)) = none from lim_none h]; exact rfl) (fun d r e z => absurd z (h d r e))
    have kk : refBlk (m + 1) = refBlock (refRows (refSt m)) := rfl
    rw [kk] at k bad
    have ew : ∀ q a : PyData, cntSt (m + 1) (.tuple [.str "while", q, a]) = 1 + cntOf (cntSt m) a := fun q a => by
      show (if ("while" : Str) = "while" then 1 + cntOf (cntSt m) a else 1) = _
      rw [if_pos rfl]
    have ei : ∀ q a b : PyData, cntSt (m + 1) (.tuple [.str "if", q, a, b]) = 1 + (cntOf (cntSt m) a + cntOf (cntSt m) b) := fun q a b => by
      show (if ("if" : Str) = "if" then 1 + (cntOf (cntSt m) a + cntOf (cntSt m) b) else 1) = _
      rw [if_pos rfl]
    unfold refBr at k bad
    refine ⟨_, (pss_cons (ps_set (i := 3) nd rfl (Or.inl rfl) (pe_call F_law_read_quiz (hr.mono (by omega)) rfl g_law_read_quiz k_law_read_quiz b_law_read_quiz .nil pass0 (pa_cons (pv 0) pa_nil)))
        (pss_cons (ps_if (PW.pt (pw_or (pt_cmpR op_isN (pv 3) pe_non (nomark _)) (pw_or1 (pt_cmpR op_ne (pe_call F_law_next_word (hr.mono (by omega)) rfl g_law_next_word k_law_next_word b_law_next_word .nil pass0 (pa_cons (pv 0) pa_nil)) pe_str (nomark _))))) (pss_one (ps_ret pe_non)) pss_nil)
        (pss_cons (ps_par rfl nd (i := 4) (j := 5) rfl rfl (by decide) rfl rfl (pa_cons (pe_call F_law_read_twigs (hr.mono (by omega)) rfl g_law_read_twigs k_law_read_twigs b_law_read_twigs .nil pass0 (pa_cons (pv 0) (pa_cons (pe_op op_add (pv 1) pe_int) pa_nil))) (pa_cons (pe_tup pa_nil) pa_nil)) rfl)
        (pss_cons (ps_if (PW.pt (pw_or (pt_cmpR op_isN (pv 4) pe_non (nomark _)) (pw_or1 (pt_cmpR op_ne (pe_call F_law_next_word (hr.mono (by omega)) rfl g_law_next_word k_law_next_word b_law_next_word .nil pass0 (pa_cons (pv 0) pa_nil)) pe_str (nomark _))))) (pss_one (ps_ret pe_non)) pss_nil)
        (pss_cons (ps_if (pt_cmpR op_eq (pv 2) pe_str (nomark _)) (pss_one (ps_ret (pe_tup (pa_cons pe_str (pa_cons (pv 3) (pa_cons (pv 4) pa_nil)))))) pss_nil)
        (pss_cons (ps_if (pt_cmpR op_eq (pe_call F_law_ahead_word (hr.mono (by omega)) rfl g_law_ahead_word k_law_ahead_word b_law_ahead_word .nil pass0 (pa_cons (pv 0) pa_nil)) pe_str (nomark _)) (pss_cons (ps_asg (pe_op op_add (pe_ix (r := rIxL K) ix_list (pv 0) pe_int (fun _ _ => rfl)) pe_int) (pg_sub (pv 0) pe_int set_list))
        (pss_cons (ps_if (pt_cmpR op_ne (pe_call F_law_next_word (hr.mono (by omega)) rfl g_law_next_word k_law_next_word b_law_next_word .nil pass0 (pa_cons (pv 0) pa_nil)) pe_str (nomark _)) (pss_one (ps_ret pe_non)) pss_nil)
        (pss_cons (ps_set (i := 5) nd rfl (Or.inl rfl) (pe_call F_law_read_twigs (hr.mono (by omega)) rfl g_law_read_twigs k_law_read_twigs b_law_read_twigs .nil pass0 (pa_cons (pv 0) (pa_cons (pe_op op_add (pv 1) pe_int) pa_nil))))
        (pss_one (ps_if (PW.pt (pw_or (pt_cmpR op_isN (pv 5) pe_non (nomark _)) (pw_or1 (pt_cmpR op_ne (pe_call F_law_next_word (hr.mono (by omega)) rfl g_law_next_word k_law_next_word b_law_next_word .nil pass0 (pa_cons (pv 0) pa_nil)) pe_str (nomark _))))) (pss_one (ps_ret pe_non)) pss_nil))))) pss_nil)
        (pss_one (ps_ret (pe_tup (pa_cons pe_str (pa_cons (pv 3) (pa_cons (pv 4) (pa_cons (pv 5) pa_nil))))))))))))), ?_⟩
    refine sq fun U hU => ?_
    walk_at "rd"
    refine ⟨rd, l, ts, i0, cn + 1, rfl, hsm, hR, fun x1 H1 i1 b1 r1 hx1 hr1 => hU _ _ ?_⟩
    clear hU
    refine sq fun U hU => ?_
    walk_at "rd"
    cases e1 : lTest (ts.drop i0) with
    | none =>
      rw [e1] at hx1
      have ex : x1 = .non := hx1
      subst ex
      rw [if_pos rfl]
      have ep : pTest (ts.drop i0) = none := by
        cases z : pTest (ts.drop i0) with
        | none => rfl
        | some y => rw [p_to_l (d := y.1) (r := y.2) z] at e1; cases e1
      rw [ep] at bad
      exact bad _ _ _ b1 r1 (fun _ _ z => nomatch z)
    | some qr =>
      obtain ⟨q, w1⟩ := qr
      rw [e1] at hx1
      obtain ⟨hd1, hl1⟩ := hr1 q w1 e1
      subst hd1
      have hx1' : Dq K (newp H H1) x1 q := hx1
      obtain ⟨a1, rfl⟩ : ∃ a, x1 = .ref a := by
        obtain ⟨k', c', cs', ed, _⟩ := lLoop_some _ _ _ _ _ _ (.inl rfl) e1
        rw [ed] at hx1'
        cases hx1'
        exact ⟨_, rfl⟩
      rw [if_neg (by simp)]
      refine ⟨rd, l, ts, i1, cn + 1, rfl, r1, fun H2 b12 r2 => ?_⟩
      have b2 := b1.trans b12
      replace hx1' := hx1'.up (newp_but hr0 b12)
      clear b12
      walk_at "rd"
      by_cases h1 : (ts.drop i1).headD "" = "{"
      · rw [if_neg (fun z => z h1)]
        have ep : pTest (ts.drop i0) = some (q, ts.drop i1) := l_to_p e1 (by rw [h1]; unfold jw; decide)
        rw [ep] at k bad
        dsimp only at k bad
        have er : refBlock (refRows (refSt m)) (ts.drop i1) = match refRows (refSt m) (ts.drop (i1 + 1)) with
            | none => none
            | some (d, r) => if r.headD "" = "}" then some (d, r.tail) else none := by
          unfold refBlock
          rw [if_pos h1, List.tail_drop]
          try rfl
        rw [er] at k bad
        clear er
        refine hU _ _ ?_
        clear hU
        refine sq fun U hU => ?_
        walk_at "rd"
        refine ⟨rd, l, ts, i1 + 1, cn + 1, by unfold dpt; rw [show (4 - ((m + 1 : Nat) : Int)) + 1 = 4 - (m : Int) by omega], hsm, r2, hcl, fun x2 H3 i2 c2 b3 r3 hx2 hr2 => ⟨by decide, fun p0 hp0 => hU _ _ ?_⟩⟩
        clear hU
        have n0 := bnone (b2.trans b3) hp0 (r3.ne hp0)
        have s4 : Same H3 (upd H3 p0 (.tup [])) := same_new hp0
        have e0 : (upd H3 p0 (HO.tup [])) p0 = some (.tup []) := upd_same
        have b34 := b3.trans (But.same (u := rd) s4)
        have r4 := r3.up s4
        replace hx2 := (hx2.up (newp_later b2 fun p => r2.ne)).up (newp_but hr0 (But.same (u := rd) s4))
        replace hx1' := hx1'.up (newp_but hr0 b34)
        generalize upd H3 p0 (HO.tup []) = H4 at e0 b34 r4 hx2 hx1' ⊢
        have b4 := b2.trans b34
        clear s4 hp0 b34 r3 b3 b2 r2 b1 r1 hx1
        refine sq fun U hU => ?_
        walk_at "rd"
        cases e2 : refRows (refSt m) (ts.drop (i1 + 1)) with
        | none =>
          rw [e2] at hx2 bad
          have ex : x2 = .non := hx2
          subst ex
          rw [if_pos rfl]
          exact bad _ _ _ b4 r4 (fun _ _ z => nomatch z)
        | some ar =>
          obtain ⟨a, w2⟩ := ar
          rw [e2] at hx2 bad k
          dsimp only at bad k
          by_cases hca : cn + 1 + cntOf (cntSt m) a ≤ 30
          · rw [lim_some hca] at hx2
            obtain ⟨hd2, hl2, hc2⟩ := hr2 a w2 e2 hca
            subst hd2 hc2
            have hx2' : Dq K (newp H H4) x2 a := hx2
            obtain ⟨a2, rfl⟩ := tree_ref (refRows_tree e2) hx2'
            rw [if_neg (by simp)]
            refine ⟨rd, l, ts, i2, _, rfl, r4, fun H5 b45 r5 => ?_⟩
            have b5 := b4.trans b45
            replace hx1' := hx1'.up (newp_but hr0 b45)
            replace hx2' := hx2'.up (newp_but hr0 b45)
            replace e0 := b45 _ _ (hr0 _ n0) e0
            clear b45 b4 r4 hx2
            walk_at "rd"
            by_cases h2 : (ts.drop i2).headD "" = "}"
            · rw [if_neg (fun z => z h2)]
              rw [if_pos h2, List.tail_drop] at k bad
              dsimp only at k bad
              have hl3 := hd_lt (ts := ts) (j := i2) (by rw [h2]; decide)
              refine hU _ _ ?_
              clear hU
              refine sq fun U hU => ?_
              walk_at "rd"
              by_cases hw : tok = "while"
              · rw [if_pos hw]
                rw [if_pos hw] at k
                refine ⟨by decide, fun p1 hp1 => ?_⟩
                have q0 := bnone b5 hp1 (r5.ne hp1)
                have s6 : Same H5 (upd H5 p1 (.tup [.str "while", .ref a1, .ref a2])) := same_new hp1
                refine k _ _ _ _ (b5.trans (But.same s6)) (r5.up s6) ?_ (fun D r z hz => by cases z; exact ⟨rfl, hl3, by rw [ew]; omega⟩)
                rw [lim_some (by rw [ew]; omega)]
                exact .tup ((newp_at q0).trans upd_same) (.cons (.str _ (by decide +kernel)) (.cons (hx1'.up (newp_but hr0 (But.same s6))) (.cons (Dq.up (newp_but hr0 (But.same s6)) hx2') .nil)))
              · rw [if_neg hw]
                rw [if_neg hw] at k bad
                refine hU _ _ ?_
                clear hU
                have fin : ∀ (H8 : Hp) (p1 a3 : Addr) (b : PyData) (i8 : Nat), But rd H5 H8 → RdR H8 rd l ts i8 (cn + 1 + cntOf (cntSt m) a + cntOf (cntSt m) b) → cn + 1 + cntOf (cntSt m) a + cntOf (cntSt m) b ≤ 30 → i8 ≤ ts.length → Dq K (newp H H8) (.ref a3) b → H8 p1 = none →
                    (∀ (x : V) (H' : Hp) (i' c' : Nat), But rd H H' → RdR H' rd l ts i' c' → OV K (newp H H') x (lim cn 30 (cntSt (m + 1)) (some (.tuple [.str "if", q, a, b], ts.drop i8))) → (∀ d r', some (PyData.tuple [.str "if", q, a, b], ts.drop i8) = some (d, r') → cn + cntSt (m + 1) d ≤ 30 → ts.drop i' = r' ∧ i' ≤ ts.length ∧ c' = cn + cntSt (m + 1) d) → Q x H') →
                    Q (.ref p1) (upd H8 p1 (.tup [.str "if", .ref a1, .ref a2, .ref a3])) := fun H8 p1 a3 b i8 b58 r8 hcb hl8 hx3 hp1 k => by
                  have b8 := b5.trans b58
                  have q0 := bnone b8 hp1 (r8.ne hp1)
                  have s6 : Same H8 (upd H8 p1 (.tup [.str "if", .ref a1, .ref a2, .ref a3])) := same_new hp1
                  have n6 : Same (newp H H8) (newp H (upd H8 p1 (.tup [.str "if", .ref a1, .ref a2, .ref a3]))) := newp_but hr0 (But.same s6)
                  refine k _ _ _ _ (b8.trans (But.same s6)) (r8.up s6) ?_ (fun D r z hz => by cases z; exact ⟨rfl, hl8, by rw [ei]; omega⟩)
                  rw [lim_some (by rw [ei]; omega)]
                  exact .tup ((newp_at q0).trans upd_same) (.cons (.str _ (by decide +kernel)) (.cons ((hx1'.up (newp_but hr0 b58)).up n6) (.cons (Dq.up n6 (Dq.up (newp_but hr0 b58) hx2')) (.cons (hx3.up n6) .nil))))
                refine sq fun U hU => ?_
                refine iq fun T1 U1 hT1 hU1 => ?_
                walk_at "rd"
                refine ⟨rd, l, ts, i2 + 1, _, rfl, r5, ?_⟩
                walk_at "rd"
                by_cases h3 : (ts.drop (i2 + 1)).headD "" = "else"
                · rw [if_pos h3]
                  rw [if_pos h3, List.tail_drop] at k bad
                  refine hT1 _ ?_
                  clear hT1 hU1
                  refine sq fun V2 hV => ?_
                  walk_at "rd"
                  refine ⟨_, SqL.of r5.1, _, atI_nn (by decide) rfl, ((i2 + 1 : Nat) : Int), rfl, _, r5.1, 1, rfl, hV _ _ ?_⟩
                  clear hV
                  have r6 := set1 r5
                  have b56 : But rd H5 (upd H5 rd (.lst [.ref l, .int (((i2 + 1 : Nat) : Int) + 1), .int ((cn + 1 + cntOf (cntSt m) a : Nat) : Int)])) := But.put
                  refine sq fun V2 hV => ?_
                  walk_at "rd"
                  generalize (upd H5 rd (.lst [.ref l, .int (((i2 + 1 : Nat) : Int) + 1), .int ((cn + 1 + cntOf (cntSt m) a : Nat) : Int)])) = H6 at r6 b56 ⊢
                  refine ⟨rd, l, ts, i2 + 1 + 1, _, rfl, r6, fun H7 b67 r7 => ?_⟩
                  replace b67 := b56.trans b67
                  clear b56 r6
                  walk_at "rd"
                  by_cases h4 : (ts.drop (i2 + 1 + 1)).headD "" = "{"
                  · rw [if_neg (fun z => z h4)]
                    have er : refBlock (refRows (refSt m)) (ts.drop (i2 + 1 + 1)) = match refRows (refSt m) (ts.drop (i2 + 1 + 1 + 1)) with
                        | none => none
                        | some (d, r) => if r.headD "" = "}" then some (d, r.tail) else none := by
                      unfold refBlock
                      rw [if_pos h4, List.tail_drop]
                      try rfl
                    rw [er] at k bad
                    clear er
                    refine hV _ _ ?_
                    clear hV
                    refine sq fun V2 hV => ?_
                    walk_at "rd"
                    refine ⟨rd, l, ts, i2 + 1 + 1 + 1, _, by unfold dpt; rw [show (4 - ((m + 1 : Nat) : Int)) + 1 = 4 - (m : Int) by omega], hsm, r7, hca, fun x3 H8 i8 c8 b78 r8 hx3 hr3 => hV _ _ ?_⟩
                    clear hV
                    have b58 := b67.trans b78
                    replace hx3 := hx3.up (newp_later (b5.trans b67) fun p => r7.ne)
                    walk_at "rd"
                    cases e3 : refRows (refSt m) (ts.drop (i2 + 1 + 1 + 1)) with
                    | none =>
                      rw [e3] at hx3 bad
                      have ex : x3 = .non := hx3
                      subst ex
                      rw [if_pos rfl]
                      exact bad _ _ _ (b5.trans b58) r8 (fun _ _ z => nomatch z)
                    | some br =>
                      obtain ⟨b, w3⟩ := br
                      rw [e3] at hx3 bad k
                      dsimp only at bad k
                      by_cases hcb : cn + 1 + cntOf (cntSt m) a + cntOf (cntSt m) b ≤ 30
                      · rw [lim_some hcb] at hx3
                        obtain ⟨hd8, hl8, hc8⟩ := hr3 b w3 e3 hcb
                        subst hd8 hc8
                        have hx3' : Dq K (newp H H8) x3 b := hx3
                        obtain ⟨a3, rfl⟩ := tree_ref (refRows_tree e3) hx3'
                        rw [if_neg (by simp)]
                        refine ⟨rd, l, ts, i8, _, rfl, r8, fun H9 b89 r9 => ?_⟩
                        walk_at "rd"
                        by_cases h5 : (ts.drop i8).headD "" = "}"
                        · rw [if_neg (fun z => z h5)]
                          rw [if_pos h5, List.tail_drop] at k
                          dsimp only at k
                          refine hU _ _ ?_
                          clear hU
                          walk_at "rd"
                          refine ⟨by decide, fun p1 hp1 => ?_⟩
                          exact fin H9 p1 a3 b (i8 + 1) (b58.trans b89) r9 hcb (hd_lt (by rw [h5]; decide)) (hx3'.up (newp_but hr0 b89)) hp1 k
                        · rw [if_pos h5]
                          rw [if_neg h5] at bad
                          exact bad _ _ _ (b5.trans (b58.trans b89)) r9 (fun _ _ z => nomatch z)
                      · rw [lim_none (fun D r z => by cases z; exact hcb)] at hx3
                        have ex : x3 = .non := hx3
                        subst ex
                        rw [if_pos rfl]
                        refine bad _ _ _ (b5.trans b58) r8 fun D r z => ?_
                        by_cases h5 : w3.headD "" = "}"
                        · rw [if_pos h5] at z
                          dsimp only at z
                          cases z
                          rw [ei]
                          omega
                        · rw [if_neg h5] at z
                          cases z
                  · rw [if_pos h4]
                    refine bad _ _ _ (b5.trans b67) r7 fun D r z => ?_
                    have eb : refBlock (refRows (refSt m)) (ts.drop (i2 + 1 + 1)) = none := if_neg h4
                    rw [eb] at z
                    cases z
                · rw [if_neg h3]
                  rw [if_neg h3] at k
                  refine hU1 _ ?_
                  clear hT1 hU1
                  walk_at "rd"
                  refine hU _ _ ?_
                  clear hU
                  walk_at "rd"
                  refine ⟨by decide, fun p1 hp1 => ?_⟩
                  exact fin H5 p1 p0 (.tuple []) (i2 + 1) But.refl r5 hca hl3 (.tup ((newp_at n0).trans e0) .nil) hp1 k
            · rw [if_pos h2]
              rw [if_neg h2] at bad
              exact bad _ _ _ b5 r5 (fun _ _ z => nomatch z)
          · rw [lim_none (fun D r z => by cases z; exact hca)] at hx2
            have ex : x2 = .non := hx2
            subst ex
            rw [if_pos rfl]
            refine bad _ _ _ b4 r4 fun D r z => ?_
            by_cases h2 : w2.headD "" = "}"
            · rw [if_pos h2] at z
              dsimp only at z
              split at z
              · cases z
                rw [ew]
                omega
              · split at z
                · split at z
                  · cases z
                  · cases z
                    rw [ei]
                    omega
                · cases z
                  rw [ei]
                  omega
            · rw [if_neg h2] at z
              cases z
      · rw [if_pos h1]
        refine bad _ _ _ b2 r2 fun d r z => ?_
        cases ep : pTest (ts.drop i0) with
        | none => rw [ep] at z; cases z
        | some y =>
          have e2 := p_to_l (d := y.1) (r := y.2) ep
          rw [e1] at e2
          rw [ep] at z
          injection e2 with e2
          obtain ⟨y1, y2⟩ := y
          injection e2 with e2 e3
          have e3' : ts.drop i1 = y2 := e3
          subst e3'
          have eb : refBlock (refRows (refSt m)) (ts.drop i1) = none := if_neg h1
          dsimp only at z
          rw [eb] at z
          cases z
end
end K38

set_option Elab.async false
set_option linter.all false
set_option maxRecDepth 100000
set_option maxHeartbeats 4000000
namespace K38
open PySem PySem.Spec PyProof.Rows L2 Rd Dt Dq Pk TL
local macro_rules | `(tactic| walk_at "rd") => `(tactic| try simp only [↓tFld_, ↓sFld_, ↓tVar_, ↓tC_, ↓tM1, ↓tDNewK_, ↓tOp_, ↓tUn_, ↓rI_, ↓rI0_, ↓rU_, ↓eq_ii, ↓ne_ii, ↓eq_ss, ↓ne_ss, ↓eq_bb, ↓ne_bb, ↓tAndV_, ↓tOrV_, ↓tNotV_, ↓tIf_, ↓tTest_, ↓tB_, ↓tAnd_, ↓tOr_, ↓tNot_, ↓tChain_, ↓tNil_, ↓tCons_, ↓tTup_, ↓tLst_, ↓tCB_, ↓tCall_, ↓tSeq_, ↓tNext_, ↓tRet_, ↓tRetN_, ↓tDrop_, ↓tBreak_, ↓tNever_, ↓tIfS_, ↓tAsg_, ↓gName_, ↓gTup_, ↓gCons_, ↓gNil_, ↓gSub_, ↓tPar_, ↓tPar3_, ↓tSl_, ↓tNoPart_, ↓tPart_, ↓tBM_, ↓tFor_range1, ↓tFor_range2, ↓tFor_list, ↓tFor_tup, L2.start, List.headD_cons, List.headD_nil, List.tail_cons, List.map_cons, List.map_nil, List.length_cons, List.length_nil, List.replicate, List.append_nil, List.nil_append, List.cons_append, List.getElem?_cons_zero, List.getElem?_cons_succ, List.set_cons_zero, List.set_cons_succ, Option.some.injEq, V.int.injEq, V.bl.injEq, V.str.injEq, V.ref.injEq, exists_eq_left, exists_eq_left', exists_eq_right, exists_eq, exists_and_left, and_true, true_and, decide_eq_true_eq, Nat.reduceAdd, Nat.reduceSub, Nat.add_zero, Nat.zero_add, List.cons.injEq, Bool.not_eq_true', decide_eq_false_iff_not, eq_self, reduceCtorEq, Bool.false_eq_true, if_true, if_false, ite_true, ite_false, and_self, ↓tLc_range1, ↓tLc_range2, ↓tLc_list, ↓tLc_tup, ↓tYes_, wipe0, wipe1, ↓tCallS_, ↓rIxL_, ↓rIxT_, ↓rSlL_, ↓rCat_, ↓rSetL_, ↓rRep_, ↓rGcd_, ↓tCallK_, ↓gUnl_, ↓tRaise_, decide_true, decide_false, not_true_eq_false, not_false_eq_true, false_and, or_false, false_or, and_false, and_assoc, exists_const, forall_const, forall_eq'])

/-! ### no word that is read is empty -/
def NE (ts r : List Str) : Prop := ∃ pre : List Str, ts = pre ++ r ∧ ("" : Str) ∉ pre
theorem NE.one {ts : List Str} (h : ts.headD "" ≠ "") : NE ts ts.tail := by
  cases ts with
  | nil => exact absurd rfl h
  | cons a b => exact ⟨[a], rfl, fun z => h (List.mem_singleton.mp z).symm⟩
theorem NE.refl (ts : List Str) : NE ts ts := ⟨[], rfl, fun z => nomatch z⟩
theorem NE.trans {a b c : List Str} (h : NE a b) (g : NE b c) : NE a c := by
  obtain ⟨p, rfl, hp⟩ := h
  obtain ⟨q, rfl, hq⟩ := g
  exact ⟨p ++ q, by rw [List.append_assoc], fun z => (List.mem_append.mp z).elim hp hq⟩
def Cln (st : List Str → Res) : Prop := ∀ ts d r, st ts = some (d, r) → NE ts r
theorem cln_deed : Cln refDeed := fun ts d r h => by
  unfold refDeed at h
  split at h
  · rename_i h1
    split at h
    · rename_i h2
      cases h
      exact (NE.one (by rw [h1]; decide)).trans (NE.one (letter_ne0 h2))
    · cases h
  · split at h
    · rename_i h1
      split at h
      · rename_i h2
        cases h
        exact (NE.one (by rw [h1]; decide)).trans ((NE.one (letter_ne0 h2.1)).trans ((NE.one (by rw [h2.2.1]; decide)).trans (NE.one (goal_ne h2.2.2))))
      · cases h
    · split at h
      · rename_i h1
        have s2 := (NE.one (letter_ne0 h1.1)).trans (NE.one (by rw [h1.2]; decide))
        split at h
        · rename_i h2
          cases h
          exact s2.trans (NE.one (by rw [h2]; decide))
        · split at h
          · rename_i h2
            split at h
            · rename_i h3
              cases h
              exact s2.trans ((NE.one (by rw [h2]; decide)).trans (NE.one (letter_ne0 h3)))
            · cases h
          · split at h
            · rename_i h3
              cases h
              exact s2.trans (NE.one (goal_ne h3))
            · cases h
      · cases h
theorem cln_comp {c : PyData} (h : isComp c = true) : ("" : Str) ∉ compW c := fun z => by
  obtain ⟨a, m, b, e, e2⟩ := compOf_of h
  obtain ⟨_, _, _, n1, n2, n3⟩ := compOf_some e2
  rw [e] at z
  simp only [List.mem_cons, List.not_mem_nil, or_false] at z
  rcases z with z | z | z
  · exact n1 z.symm
  · exact n2 z.symm
  · exact n3 z.symm
theorem cln_test : Cln pTest := fun ts d r h => by
  obtain ⟨k, c, cs, hk, _, _, _, hc, e⟩ := (p_tst h).1
  refine ⟨compW c ++ cs.flatMap fun c => k :: compW c, by rw [e, List.append_assoc], fun z => ?_⟩
  rcases List.mem_append.mp z with z | z
  · exact cln_comp (hc c List.mem_cons_self) z
  · obtain ⟨x, h1, h2⟩ := List.mem_flatMap.mp z
    rcases List.mem_cons.mp h2 with h2 | h2
    · rcases hk with rfl | rfl
      · exact absurd h2 (by decide)
      · exact absurd h2 (by decide)
    · exact cln_comp (hc x (List.mem_cons_of_mem _ h1)) h2
theorem cln_with {st : List Str → Res} (g : Cln st) : ∀ (f : Nat) (acc : List PyData) (ts : List Str) (d : PyData) (r : List Str), rowsWith st f acc ts = some (d, r) → NE ts r
  | 0, _, _, _, _, h => by cases h
  | f + 1, acc, ts, d, r, h => by
    rw [rowsWith] at h
    split at h
    · cases h
    · rename_i d1 r1 e
      have g1 := g _ _ _ e
      split at h
      · rename_i h1
        exact (g1.trans (NE.one (by rw [h1]; decide))).trans (cln_with g f _ _ _ _ h)
      · cases h
        exact g1
theorem cln_rows {st : List Str → Res} (g : Cln st) : Cln (refRows st) := fun ts d r h => by
  unfold refRows at h
  split at h
  · rename_i h1
    cases h
    exact NE.one (by rw [h1]; decide)
  · exact cln_with g _ _ _ _ _ h
theorem cln_block {rows : List Str → Res} (g : Cln rows) : Cln (refBlock rows) := fun ts d r h => by
  unfold refBlock at h
  split at h
  · rename_i h1
    split at h
    · cases h
    · rename_i d1 r1 e
      split at h
      · rename_i h2
        cases h
        exact (NE.one (by rw [h1]; decide)).trans ((g _ _ _ e).trans (NE.one (by rw [h2]; decide)))
      · cases h
  · cases h
theorem cln_br {tok : Str} {blk : List Str → Res} (g : Cln blk) : Cln (refBr tok blk) := fun ts d r h => by
  unfold refBr at h
  split at h
  · cases h
  · rename_i q r1 e1
    have t1 := cln_test _ _ _ e1
    split at h
    · cases h
    · rename_i a r2 e2
      have t2 := t1.trans (g _ _ _ e2)
      split at h
      · cases h
        exact t2
      · split at h
        · rename_i h2
          split at h
          · cases h
          · rename_i b r3 e3
            cases h
            exact t2.trans ((NE.one (by rw [h2]; decide)).trans (g _ _ _ e3))
        · cases h
          exact t2
theorem cln_none : Cln (fun _ => none) := fun _ _ _ h => by cases h
mutual
theorem cln_st : ∀ n, Cln (refSt n)
  | n => fun ts d r h => by
    have gb : Cln (refBlk n) := cln_blk n
    rw [refSt_eq] at h
    split at h
    · rename_i h1
      rw [refBr_if] at h
      exact (NE.one (by rw [h1]; decide)).trans (cln_br gb _ _ _ h)
    · split at h
      · rename_i h1
        rw [refBr_while] at h
        exact (NE.one (by rw [h1]; decide)).trans (cln_br gb _ _ _ h)
      · exact cln_deed _ _ _ h
termination_by n => (n, 1)
theorem cln_blk : ∀ n, Cln (refBlk n)
  | 0 => cln_none
  | n + 1 => cln_block (cln_rows (cln_st n))
termination_by n => (n, 0)
end
theorem sp1_bad {w : Str} (h : w = "" ∨ w = ";") : ("" : Str) ∈ sp1 w := by
  rcases h with rfl | rfl
  · have e : sp1 "" = [("" : Str)] := by decide +kernel
    rw [e]; exact List.mem_singleton.mpr rfl
  · have e : sp1 ";" = [("" : Str), (";" : Str)] := by decide +kernel
    rw [e]; exact List.mem_cons_self
def toks (s : Str) : List Str := (Txt.split s " ").flatMap sp1
theorem progOf_toks (s : Str) : progOf s = progW (toks s) := by
  unfold progOf pSplit
  by_cases h : ∀ w ∈ Txt.split s " ", w ≠ "" ∧ w ≠ ";"
  · rw [if_pos h]
    rfl
  · rw [if_neg h]
    have hm : ("" : Str) ∈ toks s := Classical.byContradiction fun hn => h fun w hw => by
      refine ⟨fun z => hn (List.mem_flatMap.mpr ⟨w, hw, sp1_bad (.inl z)⟩), fun z => hn (List.mem_flatMap.mpr ⟨w, hw, sp1_bad (.inr z)⟩)⟩
    cases e : progW (toks s) with
    | none => rfl
    | some t =>
      obtain ⟨pre, h1, h2⟩ := cln_rows (cln_st 4) _ _ _ (progW_some e).1
      rw [h1, List.append_nil] at hm
      exact absurd hm h2
section
variable {P : Program} {w : World} {K : PySem.W.Frag} {mg : Str → Option Value} {base : Heap}
def spToks : Sp := fun vs H Q _ => ∃ (s : Str), vs = [.str s] ∧ smS s = true ∧ ∀ p H', Same H H' → H' p = some (.lst ((toks s).map V.str)) → (toks s).length ≤ 30000 → Q (.ref p) H'
def tkP (H : Hp) (s : Str) (q : Addr) (ws : List Str) (i : Nat) : L2.St → Hp → Prop := fun σ H' => Same H H' ∧ H' q = some (.lst (ws.map V.str)) ∧ ∃ p, H' p = some (.lst (((ws.take i).flatMap sp1).map V.str)) ∧ ∃ x : Option V, σ = [some (.str s), some (.ref p), x]
theorem sc_tk : FnScope ["_law_said_here", "_law_found", "_law_token"] ["_law_said_here"] (defScope (top 53)) := ⟨rfl, rfl, rfl, by decide +kernel, rfl, by decide +kernel, by decide +kernel⟩
theorem ok_tk {f : Addr} {fd : FuncData} (T : Tx mg) (F : FD K "_law_tokens" (top 53) f fd) : FnOk P w K mg base CX0 1 f fd ["_law_said_here"] spToks := by
  refine F.ok sc_tk (fun vs H Q E h => ?_) (fun cdv A outer s H vs Q E hr h => ?_)
  · obtain ⟨_, rfl, _⟩ := h
    rfl
  · obtain ⟨s, rfl, hs, k⟩ := h
    have hl : s.length ≤ 10000 := of_decide_eq_true (Bool.and_eq_true_iff.mp hs).1
    obtain ⟨t4, t3⟩ := split_len s
    have nd := sc_tk.nd
    have zl : (400000 : Nat) ≤ sizeLine := by rw [sizeLine_eq]; decide
    refine ⟨_, (pss_cons (ps_set (i := 1) nd rfl (Or.inl rfl) (pe_lst pa_nil))
        (pss_cons (ps_for (passes_of rfl) rfl (pi_list (pe_bm PySem.F.plainAttrs_str PySem.F.slot_str_split PySem.F.type_str_split mt_split (pv 0) (pa_cons pe_str pa_nil))) (pg_name (i := 2) nd rfl (Or.inl rfl)) (pss_one (ps_set (i := 1) nd rfl (Or.inl rfl) (pe_op op_cat (pv 1) (pe_ifExp (PW.pt (pw_and (pt_cmpR op_ne (pv 2) pe_str (nomark _)) (pw_and1 (pt_cmpR op_eq (pe_ix ix_str (pv 2) (pe_un un_neg pe_int) (fun _ _ => rfl)) pe_str (nomark _))))) (pe_lst (pa_cons (pe_slice sl_str (pv 2) po_none (po_some (pe_un un_neg pe_int))) (pa_cons pe_str pa_nil))) (pe_lst (pa_cons (pv 2) pa_nil)))))))
        (pss_one (ps_ret (pv 1))))), ?_⟩
    refine sq fun U hU => ?_
    walk_at "rd"
    refine ⟨by decide, fun p hp => hU _ _ ?_⟩
    clear hU
    refine sq fun U hU => ?_
    walk_at "rd"
    refine ⟨rfl, by decide, by omega, fun q hq => ?_⟩
    have s0 : Same H (upd H p (.lst [])) := same_new hp
    have pq : p ≠ q := ne_of_none (upd_same (H := H) (a := p) (o := .lst [])) hq
    have s1 : Same H (upd (upd H p (.lst [])) q (.lst ((Txt.split s " ").map V.str))) := s0.trans (same_new hq)
    refine ⟨_, rfl, ⟨_, SqL.of upd_same⟩, ?_⟩
    refine for_l (K := K) (a := q) (xs := (Txt.split s " ").map V.str) (tkP H s q (Txt.split s " ")) ⟨s1, upd_same, p, (upd_ne pq).trans upd_same, _, rfl⟩ (fun i σ H' _ hP => SqL.of hP.2.1) ?_ ?_
    · rintro i x σ H' hi ⟨hs', hq', p1, hp', y, rfl⟩
      rw [List.getElem?_map] at hi
      obtain ⟨wd, hw, rfl⟩ := Option.map_eq_some_iff.mp hi
      have il : i < (Txt.split s " ").length := (List.getElem?_eq_some_iff.mp hw).1
      have et' : (Txt.split s " ").take (i + 1) = (Txt.split s " ").take i ++ [wd] := by
        rw [List.take_succ_eq_append_getElem il, (List.getElem?_eq_some_iff.mp hw).2]
      have et : ((Txt.split s " ").take (i + 1)).flatMap sp1 = ((Txt.split s " ").take i).flatMap sp1 ++ sp1 wd := by
        rw [et', List.flatMap_append, List.flatMap_cons, List.flatMap_nil, List.append_nil]
      have fl := flat_len ((Txt.split s " ").take i)
      rw [List.length_take] at fl
      simp only [gName_, List.set_cons_succ, List.set_cons_zero]
      walk_at "rd"
      have tl' := t3 wd (List.mem_of_getElem? hw)
      have lw' := tl'.1
      have fin : ∀ ys : List Str, sp1 wd = ys → ys.length ≤ 2 → ∀ p2, H' p2 = none → ∃ x, upd H' p2 (.lst (ys.map V.str)) p1 = some (.lst x) ∧ ∃ x1, upd H' p2 (.lst (ys.map V.str)) p2 = some (.lst x1) ∧ x.length + x1.length ≤ sizeLine ∧ ∀ p3, upd H' p2 (.lst (ys.map V.str)) p3 = none →
          tkP H s q (Txt.split s " ") (i + 1) [some (.str s), some (.ref p3), some (.str wd)] (upd (upd H' p2 (.lst (ys.map V.str))) p3 (.lst (x ++ x1))) := fun ys e l2 p2 h2 => by
        refine ⟨_, same_new h2 _ _ hp', _, upd_same, ?_, fun p3 h3 => ⟨hs'.trans ((same_new h2).trans (same_new h3)), same_new h3 _ _ (same_new h2 _ _ hq'), p3, ?_, _, rfl⟩⟩
        · rw [List.length_map, List.length_map]
          omega
        · rw [upd_same, et, List.map_append, e]
      by_cases we : wd = ""
      · rw [if_neg (by simp [we])]
        exact ⟨by decide, fin [wd] (by rw [we]; decide +kernel) (by simp)⟩
      · rw [if_pos we]
        have hne : wd.cps.toList ≠ [] := fun z => we (by
          cases wd with
          | mk cs =>
            cases cs with
            | mk l =>
              have z' : l = [] := z
              rw [z']; decide +kernel)
        have ec : ∃ l c, wd.cps.toList = l ++ [c] := ⟨_, _, (List.dropLast_concat_getLast hne).symm⟩
        obtain ⟨l, c, elc⟩ := ec
        have ends := ends_snoc (x := wd) (l := l) (c := c) elc
        refine ⟨wd, -1, c, rfl, rfl, by omega, ?_, ?_⟩
        · rw [elc]
          have lc : (l ++ [c]).length = l.length + 1 := by rw [List.length_append]; rfl
          unfold atI ixN
          rw [if_neg (by decide), if_pos (by rw [lc]; omega), lc]
          show (l ++ [c])[(-1 + ((l.length + 1 : Nat) : Int)).toNat]? = some c
          rw [show (-1 + ((l.length + 1 : Nat) : Int)).toNat = l.length by omega, List.getElem?_append_right (Nat.le_refl _), Nat.sub_self]
          rfl
        · have es : (";" : Str) = ⟨#[59]⟩ := by decide +kernel
          have hc : (⟨#[c]⟩ : Str) = ";" ↔ c = 59 := by rw [es]; simp
          walk_at "rd"
          by_cases c59 : c = 59
          · rw [if_pos (hc.mpr c59)]
            exact ⟨wd, rfl, by omega, by decide, fin [cutS wd none (some (-1)), ";"] (by unfold sp1; rw [if_pos (by rw [ends, decide_eq_true c59])]) (by simp)⟩
          · rw [if_neg (fun z => c59 (hc.mp z))]
            exact ⟨by decide, fin [wd] (by unfold sp1; rw [if_neg (by rw [ends, decide_eq_false c59]; decide)]) (by simp)⟩
    · rintro σ H' ⟨hs', hq', p1, hp', y, rfl⟩
      refine hU _ _ ?_
      walk_at "rd"
      rw [List.length_map, List.take_length] at hp'
      have fl := flat_len (Txt.split s " ")
      exact k p1 H' hs' hp' (by show ((Txt.split s " ").flatMap sp1).length ≤ _; omega)
def spRead (K : PySem.W.Frag) : Sp := fun vs H Q _ => ∃ (s : Str), vs = [.str s] ∧ smS s = true ∧ ∀ (x : V) (H' : Hp), Same H H' → OV K H' x (progOf s) → Q x H'
theorem sc_rd : FnScope ["_law_said_here", "_law_reader", "_law_found"] ["_law_said_here"] (defScope (top 54)) := ⟨rfl, rfl, rfl, by decide +kernel, rfl, by decide +kernel, by decide +kernel⟩
theorem dq_refT {H : Hp} {x : V} {ds : List PyData} (h : Dq K H x (.tuple ds)) : ∃ a, x = .ref a := by
  cases h with
  | tup _ _ => exact ⟨_, rfl⟩
theorem toks_sm {s : Str} (hs : smS s = true) : ∀ w ∈ toks s, smS w = true := fun w hw => by
  obtain ⟨x, hx, h⟩ := List.mem_flatMap.mp hw
  obtain ⟨t1, t2⟩ := split_len s
  have sx := sm_sub hs (t2 x hx).1 (t2 x hx).2
  unfold sp1 at h
  split at h
  · simp only [List.mem_cons, List.not_mem_nil, or_false] at h
    rcases h with rfl | rfl
    · exact sm_sub sx (cutS_length _ _ _) fun c hc => by
        have : c ∈ (List.take _ (List.drop _ (tl x))) := hc
        exact List.mem_of_mem_drop (List.mem_of_mem_take this)
    · decide +kernel
  · rw [List.mem_singleton.mp h]; exact sx
theorem ok_rd {f : Addr} {fd : FuncData} (T : Tx mg) (F : FD K "_law_read" (top 54) f fd) {f1 f2 : Addr} {fd1 fd2 : FuncData} {k : Nat} (C1 : Cal P w K mg base CX0 1 "_law_tokens" ["_law_said_here"] spToks f1 fd1) (C2 : Cal P w K mg base CX0 (k + 1) "_law_read_twigs" ["_law_reader", "_law_deep"] (spTwigs K 4) f2 fd2) : FnOk P w K mg base CX0 (k + 2) f fd ["_law_said_here"] (spRead K) := by
  obtain ⟨g_law_tokens, k_law_tokens, b_law_tokens, F_law_tokens⟩ := C1
  obtain ⟨g_law_read_twigs, k_law_read_twigs, b_law_read_twigs, F_law_read_twigs⟩ := C2
  refine F.ok sc_rd (fun vs H Q E h => ?_) (fun cdv A outer s H vs Q E hr h => ?_)
  · obtain ⟨_, rfl, _⟩ := h
    rfl
  · obtain ⟨z, rfl, hs, k⟩ := h
    have sm := toks_sm hs
    have el : progOf z = progW (toks z) := progOf_toks z
    have nd := sc_rd.nd
    refine ⟨_, (pss_cons (ps_set (i := 1) nd rfl (Or.inl rfl) (pe_lst (pa_cons (pe_call F_law_tokens (hr.mono (by omega)) rfl g_law_tokens k_law_tokens b_law_tokens .nil pass0 (pa_cons (pv 0) pa_nil)) (pa_cons pe_int (pa_cons pe_int pa_nil)))))
        (pss_cons (ps_set (i := 2) nd rfl (Or.inl rfl) (pe_call F_law_read_twigs (hr.mono (by omega)) rfl g_law_read_twigs k_law_read_twigs b_law_read_twigs .nil pass0 (pa_cons (pv 1) (pa_cons pe_int pa_nil))))
        (pss_one (ps_ret (pe_ifExp (PW.pt (pw_and (pt_cmpR op_notN (pv 2) pe_non (nomark _)) (pw_and1 (pt_cmpR op_eq (pe_ix (r := rIxL K) ix_list (pv 1) pe_int (fun _ _ => rfl)) (pe_callB call_len_seq (by rfl) T.b_len PySem.boot_len (pa_cons (pe_ix (r := rIxL K) ix_list (pv 1) pe_int (fun _ _ => rfl)) pa_nil)) (nomark _))))) (pv 2) pe_non))))), ?_⟩
    refine sq fun U hU => ?_
    walk_at "rd"
    refine ⟨z, rfl, hs, fun l H1 s1 el1 tl1 => ⟨by decide, fun rd hrd => hU _ _ ?_⟩⟩
    clear hU
    have s2 : Same H1 (upd H1 rd (.lst [.ref l, .int 0, .int 0])) := same_new hrd
    have r2 : RdR (upd H1 rd (.lst [.ref l, .int 0, .int 0])) rd l (toks z) 0 0 := ⟨upd_same, s2 _ _ el1⟩
    have n0 : H rd = none := by
      cases e : H rd with
      | none => rfl
      | some o => rw [s1 _ _ e] at hrd; cases hrd
    refine sq fun U hU => ?_
    walk_at "rd"
    refine ⟨rd, l, _, 0, 0, rfl, sm, r2, by decide, fun x H3 i' c' b3 r3 hx hres => hU _ _ ?_⟩
    clear hU
    have s3 : Same H H3 := fun b o e => b3 b o (ne_of_none e n0) (s2 _ _ (s1 _ _ e))
    rw [List.drop_zero] at hx hres
    walk_at "rd"
    unfold progW at el
    have no : lim 0 30 (cntOf (cntSt 4)) (refRows (refSt 4) (toks z)) = none → progOf z = none → Q .non H3 := fun _ h2 => k _ H3 s3 (by rw [h2]; rfl)
    cases e : refRows (refSt 4) (toks z) with
    | none =>
      rw [e] at hx el no
      have ex : x = .non := hx
      subst ex
      rw [if_neg (by simp)]
      exact no rfl el
    | some dr =>
      obtain ⟨d, r'⟩ := dr
      by_cases hc : cntOf (cntSt 4) d ≤ 30
      · rw [e, lim_some (by omega)] at hx
        rw [e] at el
        obtain ⟨hr', hi', _⟩ := hres d r' e (by omega)
        obtain ⟨a, rfl⟩ : ∃ a, x = .ref a := by
          have ht := refRows_tree e
          cases d with
          | tuple ds => exact dq_refT hx
          | _ => cases ht
        rw [if_pos (by simp)]
        refine ⟨_, SqL.of r3.1, _, atI_nn (by decide) rfl, _, SqL.of r3.1, _, atI_nn (by decide) rfl, ?_⟩
        walk_at "rd"
        refine ⟨_, .inl (SqL.of r3.2), ?_⟩
        walk_at "rd"
        rw [List.length_map]
        have hiff : (i' : Int) = ((toks z).length : Int) ↔ r' = [] := by
          rw [← hr', List.drop_eq_nil_iff]
          omega
        by_cases q : r' = []
        · rw [if_pos (hiff.mpr q)]
          subst q
          refine k _ H3 s3 ?_
          rw [el]
          show OV K H3 _ (if cntOf (cntSt 4) d ≤ 30 then some d else none)
          rw [if_pos hc]
          exact Dq.up newp_sub hx
        · rw [if_neg (fun z => q (hiff.mp z))]
          refine k _ H3 s3 ?_
          rw [el]
          cases r' with
          | nil => exact absurd rfl q
          | cons _ _ => rfl
      · have l0 : lim 0 30 (cntOf (cntSt 4)) (some (d, r')) = none := if_neg (by omega)
        rw [e, l0] at hx
        rw [e] at el
        have ex : x = .non := hx
        subst ex
        rw [if_neg (by simp)]
        refine k _ H3 s3 ?_
        rw [el]
        cases r' with
        | nil =>
          show OV K H3 _ (if cntOf (cntSt 4) d ≤ 30 then some d else none)
          rw [if_neg hc]; rfl
        | cons _ _ => rfl
end
end K38

set_option Elab.async false
set_option linter.all false
set_option maxRecDepth 100000
set_option maxHeartbeats 4000000
namespace K38
open PySem PySem.Spec PyProof.Rows L2 Rd Dt Dq Pk TL
local macro_rules | `(tactic| walk_at "rd") => `(tactic| try simp only [↓tFld_, ↓sFld_, ↓tVar_, ↓tC_, ↓tM1, ↓tDNewK_, ↓tOp_, ↓tUn_, ↓rI_, ↓rI0_, ↓rU_, ↓eq_ii, ↓ne_ii, ↓eq_ss, ↓ne_ss, ↓eq_bb, ↓ne_bb, ↓tAndV_, ↓tOrV_, ↓tNotV_, ↓tIf_, ↓tTest_, ↓tB_, ↓tAnd_, ↓tOr_, ↓tNot_, ↓tChain_, ↓tNil_, ↓tCons_, ↓tTup_, ↓tLst_, ↓tCB_, ↓tCall_, ↓tSeq_, ↓tNext_, ↓tRet_, ↓tRetN_, ↓tDrop_, ↓tBreak_, ↓tNever_, ↓tIfS_, ↓tAsg_, ↓gName_, ↓gTup_, ↓gCons_, ↓gNil_, ↓gSub_, ↓tPar_, ↓tPar3_, ↓tSl_, ↓tNoPart_, ↓tPart_, ↓tBM_, ↓tFor_range1, ↓tFor_range2, ↓tFor_list, ↓tFor_tup, L2.start, List.headD_cons, List.headD_nil, List.tail_cons, List.map_cons, List.map_nil, List.length_cons, List.length_nil, List.replicate, List.append_nil, List.nil_append, List.cons_append, List.getElem?_cons_zero, List.getElem?_cons_succ, List.set_cons_zero, List.set_cons_succ, Option.some.injEq, V.int.injEq, V.bl.injEq, V.str.injEq, V.ref.injEq, exists_eq_left, exists_eq_left', exists_eq_right, exists_eq, exists_and_left, and_true, true_and, decide_eq_true_eq, Nat.reduceAdd, Nat.reduceSub, Nat.add_zero, Nat.zero_add, List.cons.injEq, Bool.not_eq_true', decide_eq_false_iff_not, eq_self, reduceCtorEq, Bool.false_eq_true, if_true, if_false, ite_true, ite_false, and_self, ↓tLc_range1, ↓tLc_range2, ↓tLc_list, ↓tLc_tup, ↓tYes_, wipe0, wipe1, ↓tCallS_, ↓rIxL_, ↓rIxT_, ↓rSlL_, ↓rCat_, ↓rSetL_, ↓rRep_, ↓rGcd_, ↓tCallK_, ↓gUnl_, ↓tRaise_, decide_true, decide_false, not_true_eq_false, not_false_eq_true, false_and, or_false, false_or, and_false, and_assoc, exists_const, forall_const, forall_eq'])

section
variable {P : Program} {w : World} {K : PySem.W.Frag} {mg : Str → Option Value} {base : Heap}
theorem g_END : isGoal (.str "END") = true := by decide +kernel
def Sg (z : Str) : Prop := z = "x" ∨ z = "xy" ∨ z = "abc" ∨ z = "vwxyz"
theorem Sg.row {z : Str} (h : Sg z) (H : Hp) : Row H (.str z) (z.cps.toList.map fun c => V.str ⟨#[c]⟩) ∧ 1 ≤ (z.cps.toList.map fun c => V.str ⟨#[c]⟩).length ∧ (z.cps.toList.map fun c => V.str ⟨#[c]⟩).length ≤ 5 ∧ ∀ y ∈ (z.cps.toList.map fun c => V.str ⟨#[c]⟩), ∃ s : Str, y = .str s ∧ smS s = true ∧ s.length = 1 ∧ isLetterS s = true := by
  have key : ∀ z : Str, z.length ≤ 10 → (∀ c ∈ z.cps.toList, c ∈ abc.cps.toList) → 1 ≤ z.cps.toList.length → z.cps.toList.length ≤ 5 → Row H (.str z) (z.cps.toList.map fun c => V.str ⟨#[c]⟩) ∧ 1 ≤ (z.cps.toList.map fun c => V.str ⟨#[c]⟩).length ∧ (z.cps.toList.map fun c => V.str ⟨#[c]⟩).length ≤ 5 ∧ ∀ y ∈ (z.cps.toList.map fun c => V.str ⟨#[c]⟩), ∃ s : Str, y = .str s ∧ smS s = true ∧ s.length = 1 ∧ isLetterS s = true := fun z h1 h2 h3 h4 => by
    refine ⟨.str z (Nat.le_trans h1 (by rw [sizeLine_eq]; decide)), by rw [List.length_map]; exact h3, by rw [List.length_map]; exact h4, fun y hy => ?_⟩
    obtain ⟨c, hc, rfl⟩ := List.mem_map.mp hy
    have hl : isLetterS ⟨#[c]⟩ = true := by
      show decide (c ∈ abc.cps.toList) = true
      exact decide_eq_true (h2 c hc)
    exact ⟨⟨#[c]⟩, rfl, sm_letter hl, rfl, hl⟩
  rcases h with rfl | rfl | rfl | rfl
  · exact key _ (by decide) (by decide +kernel) (by decide) (by decide)
  · exact key _ (by decide) (by decide +kernel) (by decide) (by decide)
  · exact key _ (by decide) (by decide +kernel) (by decide) (by decide)
  · exact key _ (by decide) (by decide +kernel) (by decide) (by decide)
theorem WellAt.ne {H : Hp} {u p : Addr} (w : WellAt H u) (h : H p = none) : p ≠ u := fun z => by
  obtain ⟨a, b, c, e⟩ := w
  rw [z, e] at h
  cases h
theorem but_none {u p : Addr} {H H' : Hp} (a : But u H H') (w : WellAt H' u) (n : H' p = none) : H p = none := bnone a n (w.ne n)
def spAct (K : PySem.W.Frag) : Sp := fun vs H Q _ => ∃ (u : Addr) (z : Str), vs = [.ref u, .str z] ∧ WellAt H u ∧ Sg z ∧ ∀ (x : V) (d : PyData) (H' : Hp), But u H H' → WellAt H' u → Dq K (newp H H') x d → d.depth ≤ 1 → wt d ≤ 200 → isDeed d = true → Q x H'
theorem wt3 {a b c : Str} (h : a.length ≤ 4 ∧ b.length ≤ 4 ∧ c.length ≤ 4) : (PyData.tuple [.str a, .str b, .str c]).depth ≤ 1 ∧ wt (.tuple [.str a, .str b, .str c]) ≤ 200 := by
  refine ⟨by simp [PyData.depth, PyData.depthAll], ?_⟩
  simp only [wt, wtAll]
  omega
theorem wt2 {a b : Str} (h : a.length ≤ 4 ∧ b.length ≤ 4) : (PyData.tuple [.str a, .str b]).depth ≤ 1 ∧ wt (.tuple [.str a, .str b]) ≤ 200 := by
  refine ⟨by simp [PyData.depth, PyData.depthAll], ?_⟩
  simp only [wt, wtAll]
  omega
theorem sc_oa : FnScope ["_law_well_here", "_law_signs_here", "_law_branch", "_law_one", "_law_two"] ["_law_well_here", "_law_signs_here"] (defScope (top 39)) := ⟨rfl, rfl, rfl, by decide +kernel, rfl, by decide +kernel, by decide +kernel⟩
theorem ok_oa {f : Addr} {fd : FuncData} (T : Tx mg) (F : FD K "_law_one_act" (top 39) f fd) {f1 f2 : Addr} {fd1 fd2 : FuncData} (C1 : Cal P w K mg base CX0 1 "_law_take" ["_law_well_here", "_law_limit"] spTake f1 fd1) (C2 : Cal P w K mg base CX0 2 "_law_pick" ["_law_well_here", "_law_some"] spPick f2 fd2) : FnOk P w K mg base CX0 3 f fd ["_law_well_here", "_law_signs_here"] (spAct K) := by
  obtain ⟨g_law_take, k_law_take, b_law_take, F_law_take⟩ := C1
  obtain ⟨g_law_pick, k_law_pick, b_law_pick, F_law_pick⟩ := C2
  refine F.ok sc_oa (fun vs H Q E h => ?_) (fun cdv A outer s H vs Q E hr h => ?_)
  · obtain ⟨_, _, rfl, _⟩ := h
    rfl
  · obtain ⟨u, z, rfl, hw, hz, k⟩ := h
    have nd := sc_oa.nd
    refine ⟨_, (pss_cons (ps_par3 rfl nd (i := 2) (j := 3) (l := 4) rfl rfl rfl (by decide) (by decide) (by decide) rfl rfl rfl (pa_cons (pe_call F_law_take (hr.mono (by omega)) rfl g_law_take k_law_take b_law_take .nil pass0 (pa_cons (pv 0) (pa_cons pe_int pa_nil))) (pa_cons (pe_call F_law_pick (hr.mono (by omega)) rfl g_law_pick k_law_pick b_law_pick .nil pass0 (pa_cons (pv 0) (pa_cons (pv 1) pa_nil))) (pa_cons (pe_call F_law_pick (hr.mono (by omega)) rfl g_law_pick k_law_pick b_law_pick .nil pass0 (pa_cons (pv 0) (pa_cons (pv 1) pa_nil))) pa_nil))) rfl)
        (pss_cons (ps_if (pt_cmpR op_lt (pv 2) pe_int (nomark _)) (pss_one (ps_ret (pe_tup (pa_cons pe_str (pa_cons (pv 3) (pa_cons (pe_ifExp (pt_cmpR op_eq (pv 2) pe_int (nomark _)) (pv 4) pe_str) pa_nil)))))) pss_nil)
        (pss_cons (ps_if (pt_cmpR op_lt (pv 2) pe_int (nomark _)) (pss_one (ps_ret (pe_tup (pa_cons pe_str (pa_cons (pv 3) (pa_cons (pv 4) pa_nil)))))) pss_nil)
        (pss_cons (ps_if (pt_cmpR op_lt (pv 2) pe_int (nomark _)) (pss_one (ps_ret (pe_tup (pa_cons pe_str (pa_cons (pv 3) (pa_cons (pe_ifExp (pt_cmpR op_lt (pv 2) pe_int (nomark _)) (pv 4) pe_str) pa_nil)))))) pss_nil)
        (pss_one (ps_ret (pe_ifExp (pt_cmpR op_eq (pv 2) pe_int (nomark _)) (pe_tup (pa_cons pe_str (pa_cons (pv 3) pa_nil))) (pe_tup (pa_cons pe_str (pa_cons (pv 3) pa_nil)))))))))), ?_⟩
    refine sq fun U hU => ?_
    walk_at "rd"
    refine ⟨u, 10, rfl, hw, by decide, by decide, fun br H1 b1 w1 br0 br1 => ?_⟩
    obtain ⟨r1, r2, r3, r4⟩ := hz.row H1
    refine ⟨u, .str z, _, rfl, w1, (fun q => nomatch q), r1, r2, by omega, fun y1 H2 b2 w2 hy1 => ?_⟩
    obtain ⟨q1, q2, q3, q4⟩ := hz.row H2
    refine ⟨u, .str z, _, rfl, w2, (fun q => nomatch q), q1, q2, by omega, fun y2 H3 b3 w3 hy2 => hU _ _ ?_⟩
    clear hU
    obtain ⟨s1, rfl, m1, l1, i1⟩ := r4 y1 hy1
    obtain ⟨s2, rfl, m2, l2, i2⟩ := q4 y2 hy2
    have bb := b1.trans (b2.trans b3)
    have fin3 : ∀ (a c : Str) (p : Addr), H3 p = none → isDeed (.tuple [.str a, .str s1, .str c]) = true → smS a = true → smS c = true → a.length ≤ 4 → c.length ≤ 4 → Q (.ref p) (upd H3 p (.tup [.str a, .str s1, .str c])) := fun a c p hp hdd ha hc la lc => by
      have w := wt3 (a := a) (b := s1) (c := c) ⟨la, by omega, lc⟩
      exact k _ _ _ (bb.trans (But.same (same_new hp))) (w3.but (same_new hp)) (tup3 ((newp_at (but_none bb w3 hp)).trans upd_same) ha m1 hc) w.1 w.2 hdd
    have fin2 : ∀ (a : Str) (p : Addr), H3 p = none → isDeed (.tuple [.str a, .str s1]) = true → smS a = true → a.length ≤ 4 → Q (.ref p) (upd H3 p (.tup [.str a, .str s1])) := fun a p hp hdd ha la => by
      have w := wt2 (a := a) (b := s1) ⟨la, by omega⟩
      exact k _ _ _ (bb.trans (But.same (same_new hp))) (w3.but (same_new hp)) (tup2 ((newp_at (but_none bb w3 hp)).trans upd_same) ha m1) w.1 w.2 hdd
    refine sq fun U hU => ?_
    walk_at "rd"
    have sm : ∀ a : Str, (a = "copy" ∨ a = "next" ∨ a = "tie" ∨ a = "new" ∨ a = "drop" ∨ a = "END") → smS a = true ∧ a.length ≤ 4 := fun a h => by
      rcases h with rfl | rfl | rfl | rfl | rfl | rfl <;> exact ⟨by decide +kernel, by decide⟩
    have c1 := sm "copy" (by simp)
    have c2 := sm "next" (by simp)
    have c3 := sm "tie" (by simp)
    have c4 := sm "new" (by simp)
    have c5 := sm "drop" (by simp)
    have c6 := sm "END" (by simp)
    by_cases x2 : br < 2
    · rw [if_pos x2]
      by_cases x0 : br = 0
      · rw [if_pos x0]
        exact ⟨by decide, fun p hp => fin3 _ _ p hp (d_copy i1 (l_goal i2)) c1.1 m2 c1.2 (by omega)⟩
      · rw [if_neg x0]
        exact ⟨by decide, fun p hp => fin3 _ _ p hp (d_copy i1 g_END) c1.1 c6.1 c1.2 c6.2⟩
    rw [if_neg x2]
    refine hU _ _ ?_
    clear hU
    refine sq fun U hU => ?_
    walk_at "rd"
    by_cases x5 : br < 5
    · rw [if_pos x5]
      exact ⟨by decide, fun p hp => fin3 _ _ p hp (d_next i1 i2) c2.1 m2 c2.2 (by omega)⟩
    rw [if_neg x5]
    refine hU _ _ ?_
    clear hU
    refine sq fun U hU => ?_
    walk_at "rd"
    by_cases x8 : br < 8
    · rw [if_pos x8]
      by_cases x7 : br < 7
      · rw [if_pos x7]
        exact ⟨by decide, fun p hp => fin3 _ _ p hp (d_tie i1 (l_goal i2)) c3.1 m2 c3.2 (by omega)⟩
      · rw [if_neg x7]
        exact ⟨by decide, fun p hp => fin3 _ _ p hp (d_tie i1 g_END) c3.1 c6.1 c3.2 c6.2⟩
    rw [if_neg x8]
    refine hU _ _ ?_
    clear hU
    walk_at "rd"
    by_cases y8 : br = 8
    · rw [if_pos y8]
      exact ⟨by decide, fun p hp => fin2 _ p hp (d_new i1) c4.1 c4.2⟩
    · rw [if_neg y8]
      exact ⟨by decide, fun p hp => fin2 _ p hp (d_drop i1) c5.1 c5.2⟩
end
end K38

set_option Elab.async false
set_option linter.all false
set_option maxRecDepth 100000
set_option maxHeartbeats 4000000
namespace K38
open PySem PySem.Spec PyProof.Rows L2 Rd Dt Dq Pk TL
local macro_rules | `(tactic| walk_at "rd") => `(tactic| try simp only [↓tFld_, ↓sFld_, ↓tVar_, ↓tC_, ↓tM1, ↓tDNewK_, ↓tOp_, ↓tUn_, ↓rI_, ↓rI0_, ↓rU_, ↓eq_ii, ↓ne_ii, ↓eq_ss, ↓ne_ss, ↓eq_bb, ↓ne_bb, ↓tAndV_, ↓tOrV_, ↓tNotV_, ↓tIf_, ↓tTest_, ↓tB_, ↓tAnd_, ↓tOr_, ↓tNot_, ↓tChain_, ↓tNil_, ↓tCons_, ↓tTup_, ↓tLst_, ↓tCB_, ↓tCall_, ↓tSeq_, ↓tNext_, ↓tRet_, ↓tRetN_, ↓tDrop_, ↓tBreak_, ↓tNever_, ↓tIfS_, ↓tAsg_, ↓gName_, ↓gTup_, ↓gCons_, ↓gNil_, ↓gSub_, ↓tPar_, ↓tPar3_, ↓tSl_, ↓tNoPart_, ↓tPart_, ↓tBM_, ↓tFor_range1, ↓tFor_range2, ↓tFor_list, ↓tFor_tup, L2.start, List.headD_cons, List.headD_nil, List.tail_cons, List.map_cons, List.map_nil, List.length_cons, List.length_nil, List.replicate, List.append_nil, List.nil_append, List.cons_append, List.getElem?_cons_zero, List.getElem?_cons_succ, List.set_cons_zero, List.set_cons_succ, Option.some.injEq, V.int.injEq, V.bl.injEq, V.str.injEq, V.ref.injEq, exists_eq_left, exists_eq_left', exists_eq_right, exists_eq, exists_and_left, and_true, true_and, decide_eq_true_eq, Nat.reduceAdd, Nat.reduceSub, Nat.add_zero, Nat.zero_add, List.cons.injEq, Bool.not_eq_true', decide_eq_false_iff_not, eq_self, reduceCtorEq, Bool.false_eq_true, if_true, if_false, ite_true, ite_false, and_self, ↓tLc_range1, ↓tLc_range2, ↓tLc_list, ↓tLc_tup, ↓tYes_, wipe0, wipe1, ↓tCallS_, ↓rIxL_, ↓rIxT_, ↓rSlL_, ↓rCat_, ↓rSetL_, ↓rRep_, ↓rGcd_, ↓tCallK_, ↓gUnl_, ↓tRaise_, decide_true, decide_false, not_true_eq_false, not_false_eq_true, false_and, or_false, false_or, and_false, and_assoc, exists_const, forall_const, forall_eq'])

section
variable {P : Program} {w : World} {K : PySem.W.Frag} {mg : Str → Option Value} {base : Heap}
theorem WellAt.put {H : Hp} {u p : Addr} {o : HO} (w : WellAt H u) (h : p ≠ u) : WellAt (upd H p o) u := by
  obtain ⟨a, b, c, e⟩ := w
  exact ⟨a, b, c, (upd_ne (Ne.symm h)).trans e⟩
/-- data outlives what is done to the well -/
theorem dq_but {u : Addr} {H H' : Hp} (hb : But u H H') (w : WellAt H u) {x : V} {d : PyData} (h : Dq K H x d) : Dq K H' x d := by
  refine h.keep fun a o e xs ho => hb a o (fun z => ?_) e
  obtain ⟨a1, b1, c1, q⟩ := w
  rw [z, q] at e
  cases e
  rcases ho with ⟨h1, h2⟩ | h1 | h1
  · cases h1
    exact absurd (show 3 ≤ 1 from h2) (by decide)
  · cases h1
  · cases h1
theorem dqAll_but {u : Addr} {H H' : Hp} (hb : But u H H') (w : WellAt H u) {x : List V} {d : List PyData} (h : DqAll K H x d) : DqAll K H' x d := by
  refine h.keep fun a o e xs ho => hb a o (fun z => ?_) e
  obtain ⟨a1, b1, c1, q⟩ := w
  rw [z, q] at e
  cases e
  rcases ho with ⟨h1, h2⟩ | h1 | h1
  · cases h1
    exact absurd (show 3 ≤ 1 from h2) (by decide)
  · cases h1
  · cases h1
theorem c_ok {sg a b : Str} (hs : sg = "=" ∨ sg = "!=") (ha : isLetterS a = true) (hb : isGoal (.str b) = true) : isComp (.tuple [.str sg, .str a, .str b]) = true := by
  show ((decide (sg = "=") || decide (sg = "!=")) && (isLetterS a && isGoal (.str b))) = true
  rw [ha, hb]
  rcases hs with rfl | rfl <;> decide
theorem t_ok {jt : Str} {ds : List PyData} (hj : jt = "and" ∨ jt = "or") (h1 : 1 ≤ ds.length) (h3 : ds.length ≤ 3) (ho : jt = "or" → 1 < ds.length) (hc : ∀ c ∈ ds, isComp c = true) : isTest (.tuple [.str jt, .tuple ds]) = true := by
  show ((decide (jt = "and") || decide (jt = "or")) && (decide (1 ≤ ds.length ∧ ds.length ≤ 3) && (!(decide (ds.length = 1) && decide (jt = "or")) && ds.all isComp))) = true
  rw [List.all_eq_true.mpr hc, decide_eq_true (show 1 ≤ ds.length ∧ ds.length ≤ 3 from ⟨h1, h3⟩)]
  rcases hj with rfl | rfl
  · simp only [decide_eq_false (show ¬ ("and" : Str) = "or" by decide)]
    simp
  · have := ho rfl
    rw [decide_eq_false (show ¬ ds.length = 1 by omega)]
    simp
/-- rows of acts' size -/
def quP (K : PySem.W.Frag) (H0 : Hp) (u p : Addr) (z : Str) (oft : Int) (jt : Str) (i : Nat) : L2.St → Hp → Prop := fun σ H => But u H0 H ∧ WellAt H u ∧ (∃ (xs : List V) (ds : List PyData), H p = some (.lst xs) ∧ DqAll K (nw H0 p H) xs ds ∧ ds.length = i ∧ PyData.depthAll ds ≤ 1 ∧ wtAll ds ≤ 202 * i ∧ (∀ c ∈ ds, isComp c = true)) ∧ ∃ a b c : Option V, σ = [some (.ref u), some (.str z), some (.int oft), some (.str jt), some (.ref p), a, b, c]
def spQuiz (K : PySem.W.Frag) : Sp := fun vs H Q _ => ∃ (u : Addr) (z : Str), vs = [.ref u, .str z] ∧ WellAt H u ∧ Sg z ∧ ∀ (x : V) (d : PyData) (H' : Hp), But u H H' → WellAt H' u → Dq K (newp H H') x d → d.depth ≤ 3 → wt d ≤ 700 → isTest d = true → Q x H'
theorem sc_qz : FnScope ["_law_well_here", "_law_signs_here", "_law_often_here", "_law_joint", "_law_found", "_law_turn", "_law_mark", "_law_one"] ["_law_well_here", "_law_signs_here"] (defScope (top 40)) := ⟨rfl, rfl, rfl, by decide +kernel, rfl, by decide +kernel, by decide +kernel⟩
theorem ok_qz {f : Addr} {fd : FuncData} (T : Tx mg) (F : FD K "_law_quiz" (top 40) f fd) {f1 f2 : Addr} {fd1 fd2 : FuncData} (C1 : Cal P w K mg base CX0 1 "_law_take" ["_law_well_here", "_law_limit"] spTake f1 fd1) (C2 : Cal P w K mg base CX0 2 "_law_pick" ["_law_well_here", "_law_some"] spPick f2 fd2) : FnOk P w K mg base CX0 3 f fd ["_law_well_here", "_law_signs_here"] (spQuiz K) := by
  obtain ⟨g_law_take, k_law_take, b_law_take, F_law_take⟩ := C1
  obtain ⟨g_law_pick, k_law_pick, b_law_pick, F_law_pick⟩ := C2
  refine F.ok sc_qz (fun vs H Q E h => ?_) (fun cdv A outer s H vs Q E hr h => ?_)
  · obtain ⟨_, _, rfl, _⟩ := h
    rfl
  · obtain ⟨u, z, rfl, hw, hz, k⟩ := h
    have nd := sc_qz.nd
    refine ⟨_, (pss_cons (ps_set (i := 2) nd rfl (Or.inl rfl) (pe_ix (r := rIxT K) ix_tup (pe_tup (pa_cons pe_int (pa_cons pe_int (pa_cons pe_int (pa_cons pe_int pa_nil))))) (pe_call F_law_take (hr.mono (by omega)) rfl g_law_take k_law_take b_law_take .nil pass0 (pa_cons (pv 0) (pa_cons pe_int pa_nil))) (fun _ _ => rfl)))
        (pss_cons (ps_par rfl nd (i := 3) (j := 4) rfl rfl (by decide) rfl rfl (pa_cons (pe_ifExp (PW.pt (pw_and (pt_cmpR op_gt (pv 2) pe_int (nomark _)) (pw_and1 (pt_cmpR op_eq (pe_call F_law_take (hr.mono (by omega)) rfl g_law_take k_law_take b_law_take .nil pass0 (pa_cons (pv 0) (pa_cons pe_int pa_nil))) pe_int (nomark _))))) pe_str pe_str) (pa_cons (pe_lst pa_nil) pa_nil)) rfl)
        (pss_cons (ps_for (passes_of rfl) rfl (pi_range1 rfl T.b_range (pa_cons (pv 2) pa_nil)) (pg_name (i := 5) nd rfl (Or.inl rfl)) (pss_cons (ps_par rfl nd (i := 6) (j := 7) rfl rfl (by decide) rfl rfl (pa_cons (pe_call F_law_pick (hr.mono (by omega)) rfl g_law_pick k_law_pick b_law_pick .nil pass0 (pa_cons (pv 0) (pa_cons (pe_tup (pa_cons pe_str (pa_cons pe_str pa_nil))) pa_nil))) (pa_cons (pe_call F_law_pick (hr.mono (by omega)) rfl g_law_pick k_law_pick b_law_pick .nil pass0 (pa_cons (pv 0) (pa_cons (pv 1) pa_nil))) pa_nil)) rfl)
        (pss_one (ps_expr (pe_bm PySem.F.plainAttrs_list PySem.F.slot_list_append PySem.F.type_list_append mt_append (pv 4) (pa_cons (pe_tup (pa_cons (pv 6) (pa_cons (pv 7) (pa_cons (pe_call F_law_pick (hr.mono (by omega)) rfl g_law_pick k_law_pick b_law_pick .nil pass0 (pa_cons (pv 0) (pa_cons (pe_op op_cat (pe_callTy (call_list_signs hr.hd) (by rfl) T.b_list (by decide +kernel) (pa_cons (pv 1) pa_nil)) (pe_lst (pa_cons pe_str (pa_cons pe_str pa_nil)))) pa_nil))) pa_nil)))) pa_nil))))))
        (pss_one (ps_ret (pe_tup (pa_cons (pv 3) (pa_cons (pe_callTy call_tuple_of (by rfl) T.b_tuple (by decide +kernel) (pa_cons (pv 4) pa_nil)) pa_nil)))))))), ?_⟩
    refine sq fun U hU => ?_
    walk_at "rd"
    refine ⟨by decide, fun p0 hp0 => ?_⟩
    have s0 : Same H (upd H p0 (.tup [.int 1, .int 1, .int 2, .int 3])) := same_new hp0
    refine ⟨u, 4, rfl, hw.but s0, by decide, by decide, fun o H1 b1 w1 o0 o1 => ?_⟩
    have e1 := b1 _ _ (hw.ne hp0) (upd_same (o := .tup [.int 1, .int 1, .int 2, .int 3]))
    have ob : ∃ oft : Int, ([V.int 1, V.int 1, V.int 2, V.int 3] : List V)[o.toNat]? = some (.int oft) ∧ 1 ≤ oft ∧ oft ≤ 3 := by
      obtain rfl | rfl | rfl | rfl : o = 0 ∨ o = 1 ∨ o = 2 ∨ o = 3 := by omega
      · exact ⟨1, rfl, by decide, by decide⟩
      · exact ⟨1, rfl, by decide, by decide⟩
      · exact ⟨2, rfl, by decide, by decide⟩
      · exact ⟨3, rfl, by decide, by decide⟩
    obtain ⟨oft, eo, oft1, oft3⟩ := ob
    have bb1 : But u H H1 := (But.same s0).trans b1
    refine ⟨_, _, rfl, SqT.of e1, _, atI_nn o0 eo, hU _ _ ?_⟩
    clear hU
    refine sq fun U hU => ?_
    walk_at "rd"
    suffices go : ∀ (jt : Str) (H2 : Hp) (p : Addr), But u H H2 → WellAt H2 u → H2 p = none → (jt = "or" ∨ jt = "and") → (jt = "or" → 1 < oft) → U [some (.ref u), some (.str z), some (.int oft), some (.str jt), some (.ref p), none, none, none] (upd H2 p (.lst [])) by
      by_cases o2 : 1 < oft
      · rw [if_pos o2]
        refine ⟨u, 2, rfl, w1, by decide, by decide, fun c H2 b2 w2 c0 c1 => ?_⟩
        walk_at "rd"
        by_cases cc : c = 1
        · rw [if_pos cc]
          exact ⟨by decide, fun p hp => go _ _ p (bb1.trans b2) w2 hp (.inl rfl) (fun _ => o2)⟩
        · rw [if_neg cc]
          exact ⟨by decide, fun p hp => go _ _ p (bb1.trans b2) w2 hp (.inr rfl) (fun z => absurd z (by decide))⟩
      · rw [if_neg o2]
        exact ⟨by decide, fun p hp => go _ _ p bb1 w1 hp (.inr rfl) (fun z => absurd z (by decide))⟩
    intro jt H2 p bb2 w2 hp hj hjo
    refine hU _ _ ?_
    clear hU
    have hp0 := but_none bb2 w2 hp
    have pu := w2.ne hp
    refine sq fun U hU => ?_
    walk_at "rd"
    refine ⟨by omega, by omega, ?_⟩
    refine for_r (quP K H u p z oft jt) ⟨but_new bb2 hp0, w2.put pu, ⟨[], [], upd_same, .nil, rfl, by simp [PyData.depthAll], by simp [wtAll], (fun _ z => nomatch z)⟩, _, _, _, rfl⟩ ?_ ?_
    · rintro i σ H3 hi ⟨bb3, w3, ⟨xs, ds, hL, hD, hlen, hdp, hwt, hcs⟩, a, b, c, rfl⟩
      simp only [gName_, List.set_cons_succ, List.set_cons_zero]
      refine sq fun V2 hV => ?_
      walk_at "rd"
      refine ⟨by decide, fun p1 hp1 => ?_⟩
      have s1 : Same H3 (upd H3 p1 (.tup [.str "=", .str "!="])) := same_new hp1
      refine ⟨u, .ref p1, _, rfl, w3.but s1, (fun q => w3.ne hp1 (by cases q; rfl)), .tup upd_same, (by decide : 1 ≤ 2), (by decide : 2 ≤ 1000), fun y1 H4 b4 w4 hy1 => ?_⟩
      obtain ⟨r1, r2, r3, r4⟩ := hz.row H4
      refine ⟨u, .str z, _, rfl, w4, (fun q => nomatch q), r1, r2, by omega, fun y2 H5 b5 w5 hy2 => hV _ _ ?_⟩
      clear hV
      have b35 : But u H3 H5 := ((But.same s1).trans b4).trans b5
      obtain ⟨s2, rfl, m2, l2, i2⟩ := r4 y2 hy2
      obtain ⟨sg, rfl, mg', lg, ig⟩ : ∃ sg : Str, y1 = .str sg ∧ smS sg = true ∧ sg.length ≤ 4 ∧ (sg = "=" ∨ sg = "!=") := by
        simp only [List.mem_cons, List.not_mem_nil, or_false] at hy1
        rcases hy1 with rfl | rfl
        · exact ⟨_, rfl, by decide +kernel, by decide, .inl rfl⟩
        · exact ⟨_, rfl, by decide +kernel, by decide, .inr rfl⟩
      replace hL := b35 _ _ pu hL
      walk_at "rd"
      refine ⟨.inl ⟨rfl, _, SqL.of hL⟩, z, rfl, by rcases hz with rfl | rfl | rfl | rfl <;> decide +kernel, fun l hl => ⟨by decide, fun l2 hl2 => ⟨l, rfl, _, same_new hl2 _ _ upd_same, _, upd_same, ?_, fun l3 hl3 => ?_⟩⟩⟩
      · rw [sizeLine_eq]
        have := (hz.row H5).2.2.1
        simp only [List.length_cons, List.length_nil]
        omega
      have s6 : Same H5 (upd (upd (upd H5 l (.lst (z.cps.toList.map fun c => V.str ⟨#[c]⟩))) l2 (.lst [.str "END", .str "END"])) l3 (.lst ((z.cps.toList.map fun c => V.str ⟨#[c]⟩) ++ [.str "END", .str "END"]))) := (same_new hl).trans ((same_new hl2).trans (same_new hl3))
      have w6 := w5.but s6
      have e6 : (upd (upd (upd H5 l (.lst (z.cps.toList.map fun c => V.str ⟨#[c]⟩))) l2 (.lst [.str "END", .str "END"])) l3 (.lst ((z.cps.toList.map fun c => V.str ⟨#[c]⟩) ++ [.str "END", .str "END"]))) l3 = some _ := upd_same
      obtain ⟨q1, q2, q3, q4⟩ := hz.row H5
      refine ⟨u, .ref l3, _, rfl, w6, (fun q => (w5.but ((same_new hl).trans (same_new hl2))).ne hl3 (by cases q; rfl)), .lst e6, by simp only [List.length_append, List.length_cons]; omega, by simp only [List.length_append, List.length_cons, List.length_nil]; omega, fun y3 H7 b7 w7 hy3 => ⟨by decide, fun p3 hp3 => ?_⟩⟩
      obtain ⟨s3, rfl, m3, l3', i3⟩ : ∃ s3 : Str, y3 = .str s3 ∧ smS s3 = true ∧ s3.length ≤ 4 ∧ isGoal (.str s3) = true := by
        rcases List.mem_append.mp hy3 with hy | hy
        · obtain ⟨s, e, h1, h2, h3⟩ := q4 y3 hy
          exact ⟨s, e, h1, by omega, l_goal h3⟩
        · simp only [List.mem_cons, List.not_mem_nil, or_false, or_self] at hy
          exact ⟨_, hy, by decide +kernel, by decide, g_END⟩
      have b57 : But u H5 H7 := (But.same s6).trans b7
      have hL7 := b57 _ _ pu hL
      have s8 : Same H7 (upd H7 p3 (.tup [.str sg, .str s2, .str s3])) := same_new hp3
      have hL8 := s8 _ _ hL7
      have n3 : p3 ≠ p := (ne_of_none hL7 hp3).symm
      have b37 : But u H3 H7 := b35.trans b57
      have h03 : H p3 = none := but_none (bb3.trans b37) w7 hp3
      have e8 : (upd H7 p3 (HO.tup [.str sg, .str s2, .str s3])) p3 = some (.tup [.str sg, .str s2, .str s3]) := upd_same
      have w3' := wt3 (a := sg) (b := s2) (c := s3) ⟨lg, by omega, l3'⟩
      have b38 : But u H3 (upd H7 p3 (.tup [.str sg, .str s2, .str s3])) := b37.trans (But.same s8)
      have w8 := w7.but s8
      generalize (upd H7 p3 (HO.tup [V.str sg, V.str s2, V.str s3])) = H8 at hL8 e8 b38 w8 ⊢
      have xl := hD.len
      have sn : Same (nw H p H3) (nw H p (upd H8 p (.lst (xs ++ [.ref p3])))) := nw_but (fun p => hw.ne) fun a o h1 h2 e => by
        rw [upd_ne h2]
        exact b38 a o h1 e
      have t8 : Dq K (nw H p (upd H8 p (.lst (xs ++ [.ref p3])))) (.ref p3) (.tuple [.str sg, .str s2, .str s3]) := tup3 ((nw_at n3 h03).trans ((upd_ne n3).trans e8)) mg' m2 m3
      refine ⟨p, xs, _, rfl, rfl, hL8, by rw [sizeLine_eq]; omega, but_new (bb3.trans b38) hp0, w8.put pu, ⟨xs ++ [.ref p3], ds ++ [.tuple [.str sg, .str s2, .str s3]], upd_same, (hD.up sn).append (.cons t8 .nil), by rw [List.length_append, hlen]; rfl, ?_, ?_, ?_⟩, _, _, _, rfl⟩
      · rw [depthAll_append, PyData.depthAll, PyData.depthAll]
        have := w3'.1
        omega
      · rw [wtAll_append, wtAll, wtAll]
        have := w3'.2
        omega
      · intro c hc
        rcases List.mem_append.mp hc with hc | hc
        · exact hcs c hc
        · rw [List.mem_singleton.mp hc]
          exact c_ok ig i2 i3
    · rintro σ H3 ⟨bb3, w3, ⟨xs, ds, hL, hD, hlen, hdp, hwt, hcs⟩, a, b, c, rfl⟩
      refine hU _ _ ?_
      walk_at "rd"
      refine ⟨_, .inl ⟨SqL.of hL, fun l hl => ⟨by decide, fun q hq => ?_⟩⟩⟩
      have s1 : Same H3 (upd H3 l (.tup xs)) := same_new hl
      have s2 : Same (upd H3 l (.tup xs)) (upd (upd H3 l (.tup xs)) q (.tup [.str jt, .ref l])) := same_new hq
      have sj : smS jt = true ∧ jt.length ≤ 3 := by rcases hj with rfl | rfl <;> exact ⟨by decide +kernel, by decide⟩
      refine k _ _ _ (bb3.trans (But.same (s1.trans s2))) (w3.but (s1.trans s2)) (.tup ((newp_at (but_none (bb3.trans (But.same s1)) (w3.but s1) hq)).trans upd_same) (.cons (.str jt sj.1) (.cons (.tup ((newp_at (but_none bb3 w3 hl)).trans (s2 _ _ upd_same)) (hD.up fun a o e => by
        obtain ⟨h1, h2, h3⟩ := nw_some e
        rw [newp_at h2]
        exact s2 _ _ (s1 _ _ h3))) .nil))) ?_ ?_ ?_
      · simp only [PyData.depth, PyData.depthAll]
        omega
      · have := sj.2
        have : wtAll ds ≤ 606 := by omega
        have e : wt (.tuple [.str jt, .tuple ds]) = 3 + (2 + (10 * jt.length + 12) + (2 + (3 + wtAll ds) + 0)) := by simp only [wt, wtAll]
        rw [e]
        omega
      · exact t_ok (by rcases hj with z | z <;> simp [z]) (by rw [hlen]; omega) (by rw [hlen]; omega) (fun z => by have := hjo z; rw [hlen]; omega) hcs
end
end K38

set_option Elab.async false
set_option linter.all false
set_option maxRecDepth 100000
set_option maxHeartbeats 4000000
namespace K38
open PySem PySem.Spec PyProof.Rows L2 Rd Dt Dq Pk TL
local macro_rules | `(tactic| walk_at "rd") => `(tactic| try simp only [↓tFld_, ↓sFld_, ↓tVar_, ↓tC_, ↓tM1, ↓tDNewK_, ↓tOp_, ↓tUn_, ↓rI_, ↓rI0_, ↓rU_, ↓eq_ii, ↓ne_ii, ↓eq_ss, ↓ne_ss, ↓eq_bb, ↓ne_bb, ↓tAndV_, ↓tOrV_, ↓tNotV_, ↓tIf_, ↓tTest_, ↓tB_, ↓tAnd_, ↓tOr_, ↓tNot_, ↓tChain_, ↓tNil_, ↓tCons_, ↓tTup_, ↓tLst_, ↓tCB_, ↓tCall_, ↓tSeq_, ↓tNext_, ↓tRet_, ↓tRetN_, ↓tDrop_, ↓tBreak_, ↓tNever_, ↓tIfS_, ↓tAsg_, ↓gName_, ↓gTup_, ↓gCons_, ↓gNil_, ↓gSub_, ↓tPar_, ↓tPar3_, ↓tSl_, ↓tNoPart_, ↓tPart_, ↓tBM_, ↓tFor_range1, ↓tFor_range2, ↓tFor_list, ↓tFor_tup, L2.start, List.headD_cons, List.headD_nil, List.tail_cons, List.map_cons, List.map_nil, List.length_cons, List.length_nil, List.replicate, List.append_nil, List.nil_append, List.cons_append, List.getElem?_cons_zero, List.getElem?_cons_succ, List.set_cons_zero, List.set_cons_succ, Option.some.injEq, V.int.injEq, V.bl.injEq, V.str.injEq, V.ref.injEq, exists_eq_left, exists_eq_left', exists_eq_right, exists_eq, exists_and_left, and_true, true_and, decide_eq_true_eq, Nat.reduceAdd, Nat.reduceSub, Nat.add_zero, Nat.zero_add, List.cons.injEq, Bool.not_eq_true', decide_eq_false_iff_not, eq_self, reduceCtorEq, Bool.false_eq_true, if_true, if_false, ite_true, ite_false, and_self, ↓tLc_range1, ↓tLc_range2, ↓tLc_list, ↓tLc_tup, ↓tYes_, wipe0, wipe1, ↓tCallS_, ↓rIxL_, ↓rIxT_, ↓rSlL_, ↓rCat_, ↓rSetL_, ↓rRep_, ↓rGcd_, ↓tCallK_, ↓gUnl_, ↓tRaise_, decide_true, decide_false, not_true_eq_false, not_false_eq_true, false_and, or_false, false_or, and_false, and_assoc, exists_const, forall_const, forall_eq'])

section
variable {P : Program} {w : World} {K : PySem.W.Frag} {mg : Str → Option Value} {base : Heap}
theorem cnt_snoc {f : PyData → Nat} {ds : List PyData} {d : PyData} : ((ds ++ [d]).map f).sum = (ds.map f).sum + f d := by
  rw [List.map_append, List.sum_append]
  simp
def RoomAt (H : Hp) (r : Addr) : Prop := ∃ a b : Int, H r = some (.lst [.int a, .int b])
/-- all but u and r stands -/
def But2 (u r : Addr) (H H' : Hp) : Prop := ∀ b o, b ≠ u → b ≠ r → H b = some o → H' b = some o
theorem But2.refl {u r : Addr} {H : Hp} : But2 u r H H := fun _ _ _ _ e => e
theorem But2.trans {u r : Addr} {H H1 H2 : Hp} (a : But2 u r H H1) (b : But2 u r H1 H2) : But2 u r H H2 := fun c o n m e => b c o n m (a c o n m e)
theorem But2.of {u r : Addr} {H H1 : Hp} (a : But u H H1) : But2 u r H H1 := fun c o n _ e => a c o n e
theorem But2.room {u r : Addr} {H : Hp} {o : HO} : But2 u r H (upd H r o) := fun b x _ m e => by rw [upd_ne m]; exact e
theorem RoomAt.but {u r : Addr} {H H' : Hp} (h : RoomAt H r) (n : r ≠ u) (b : But u H H') : RoomAt H' r := by
  obtain ⟨x, y, e⟩ := h
  exact ⟨x, y, b _ _ n e⟩
def twDp : Nat → Nat
  | 0 => 2
  | n + 1 => max 4 (twDp n) + 2
def twgP (K : PySem.W.Frag) (H0 : Hp) (u r p : Addr) (z : Str) (oft : Int) (n : Nat) (ra : Int) (i : Nat) : L2.St → Hp → Prop := fun σ H => But2 u r H0 H ∧ WellAt H u ∧ (∃ (xs : List V) (ds : List PyData) (a b : Int), H r = some (.lst [.int a, .int b]) ∧ 0 ≤ a ∧ a + ((ds.map (cntSt n)).sum : Nat) = ra ∧ H p = some (.lst xs) ∧ DqAll K (nw H0 p H) xs ds ∧ ds.length ≤ i ∧ PyData.depthAll ds + 1 ≤ twDp n ∧ wtAll ds ≤ 1000 * (ds.map (cntSt n)).sum ∧ (∀ c ∈ ds, isSt n c = true)) ∧
  ∃ a b c d e : Option V, σ = [some (.ref u), some (.str z), some (.int oft), some (.int n), some (.ref r), some (.ref p), a, b, c, d, e]
theorem twDp_pos (n : Nat) : 2 ≤ twDp n := by cases n <;> simp only [twDp] <;> omega
theorem RoomAt.ne {H : Hp} {r p : Addr} (w : RoomAt H r) (h : H p = none) : p ≠ r := fun z => by
  obtain ⟨a, b, e⟩ := w
  rw [z, e] at h
  cases h
theorem but2_none {u r p : Addr} {H H' : Hp} (a : But2 u r H H') (w : WellAt H' u) (m : RoomAt H' r) (n : H' p = none) : H p = none := by
  cases e : H p with
  | none => rfl
  | some o => rw [a p o (w.ne n) (m.ne n) e] at n; cases n
structure TwS (K : PySem.W.Frag) (H : Hp) (u r p : Addr) (xs : List V) (ds : List PyData) (H' : Hp) : Prop where
  b : But2 u r H H'
  w : WellAt H' u
  m : RoomAt H' r
  l : H' p = some (.lst xs)
  d : DqAll K (nw H p H') xs ds
theorem TwS.step {K : PySem.W.Frag} {H H3 H4 : Hp} {u r p : Addr} {xs : List V} {ds : List PyData} (hw : WellAt H u) (hr : RoomAt H r) (pu : p ≠ u) (pr : p ≠ r) (s : TwS K H u r p xs ds H3) (b : But2 u r H3 H4) (w : WellAt H4 u) (m : RoomAt H4 r) : TwS K H u r p xs ds H4 :=
  ⟨s.b.trans b, w, m, b _ _ pu pr s.l, s.d.up fun a o e => by
    obtain ⟨h1, h2, h3⟩ := nw_some e
    rw [nw_at h1 h2]
    exact b a o (hw.ne h2) (hr.ne h2) h3⟩
/-- one more in the list -/
theorem TwS.add {K : PySem.W.Frag} {H H5 H6 : Hp} {u r p : Addr} {xs : List V} {ds : List PyData} {x : V} {d : PyData} (hw : WellAt H u) (hr : RoomAt H r) (hp : H p = none) (s : TwS K H u r p xs ds H5) (b : But2 u r H5 H6) (w : WellAt H6 u) (m : RoomAt H6 r) (hx : Dq K (newp H5 H6) x d) :
    H6 p = some (.lst xs) ∧ TwS K H u r p (xs ++ [x]) (ds ++ [d]) (upd H6 p (.lst (xs ++ [x]))) := by
  have pu := hw.ne hp
  have pr := hr.ne hp
  have s6 := s.step hw hr pu pr b w m
  obtain ⟨a1, a2, e⟩ := m
  refine ⟨s6.l, fun c o n1 n2 ec => ?_, w.put pu, ⟨a1, a2, (upd_ne (Ne.symm pr)).trans e⟩, upd_same, (s6.d.up fun a o ea => ?_).append (.cons (hx.up fun a o ea => ?_) .nil)⟩
  · rw [upd_ne (ne_of_none ec hp)]
    exact s6.b c o n1 n2 ec
  · obtain ⟨h1, h2, h3⟩ := nw_some ea
    rw [nw_at h1 h2, upd_ne h1]
    exact h3
  · obtain ⟨h1, h2⟩ := newp_some ea
    have n1 : a ≠ p := (ne_of_none s.l h1).symm
    rw [nw_at n1 (but2_none s.b s.w s.m h1), upd_ne n1]
    exact h2
theorem newp_up {A B C H5 : Hp} {u r : Addr} (bA : But2 u r H5 A) (wA : WellAt A u) (mA : RoomAt A r) (bC : But2 u r B C) : Same (newp A B) (newp H5 C) := fun a o e => by
  obtain ⟨h1, h2⟩ := newp_some e
  rw [newp_at (but2_none bA wA mA h1)]
  exact bC a o (wA.ne h1) (mA.ne h1) h2
def spTwD (K : PySem.W.Frag) (n : Nat) : Sp := fun vs H Q _ => ∃ (u r : Addr) (z : Str) (oft ra rb : Int), vs = [.ref u, .str z, .int oft, .int n, .ref r] ∧ WellAt H u ∧ H r = some (.lst [.int ra, .int rb]) ∧ 0 ≤ ra ∧ r ≠ u ∧ Sg z ∧ 0 ≤ oft ∧ oft ≤ 4 ∧
  ∀ (x : V) (d : PyData) (H' : Hp) (a' b' : Int), But2 u r H H' → WellAt H' u → H' r = some (.lst [.int a', .int b']) → 0 ≤ a' → a' + (cntOf (cntSt n) d : Nat) = ra → Dq K (newp H H') x d → d.depth ≤ twDp n → wt d ≤ 3 + 1000 * cntOf (cntSt n) d → treeOf (isSt n) d = true → Q x H'
def spTwDP (K : PySem.W.Frag) : Nat → Sp
  | 0 => fun _ _ _ _ => False
  | n + 1 => spTwD K n
theorem sc_twigs : FnScope ["_law_well_here", "_law_signs_here", "_law_often_here", "_law_deep", "_law_room", "_law_found", "_law_turn", "_law_branch", "_law_loops", "_law_quiz_here", "_law_inner"] ["_law_well_here", "_law_signs_here", "_law_often_here", "_law_deep", "_law_room"] (defScope (top 41)) := ⟨rfl, rfl, rfl, by decide +kernel, rfl, by decide +kernel, by decide +kernel⟩
theorem ok_twigs {f : Addr} {fd : FuncData} (T : Tx mg) (n : Nat) (F : FD K "_law_twigs" (top 41) f fd) {f1 f2 f3 : Addr} {fd1 fd2 fd3 : FuncData} (C1 : Cal P w K mg base CX0 1 "_law_take" ["_law_well_here", "_law_limit"] spTake f1 fd1) (C2 : Cal P w K mg base CX0 3 "_law_one_act" ["_law_well_here", "_law_signs_here"] (spAct K) f2 fd2) (C3 : Cal P w K mg base CX0 3 "_law_quiz" ["_law_well_here", "_law_signs_here"] (spQuiz K) f3 fd3)
    (C4 : Cal P w K mg base CX0 (3 + n) "_law_twigs" ["_law_well_here", "_law_signs_here", "_law_often_here", "_law_deep", "_law_room"] (spTwDP K n) f fd) : FnOk P w K mg base CX0 (3 + n + 1) f fd ["_law_well_here", "_law_signs_here", "_law_often_here", "_law_deep", "_law_room"] (spTwD K n) := by
  obtain ⟨g_law_take, k_law_take, b_law_take, F_law_take⟩ := C1
  obtain ⟨g_law_one_act, k_law_one_act, b_law_one_act, F_law_one_act⟩ := C2
  obtain ⟨g_law_quiz, k_law_quiz, b_law_quiz, F_law_quiz⟩ := C3
  obtain ⟨g_law_twigs, k_law_twigs, b_law_twigs, F_law_twigs⟩ := C4
  refine F.ok sc_twigs (fun vs H Q E h => ?_) (fun cdv A outer s H vs Q E hr h => ?_)
  · obtain ⟨_, _, _, _, _, _, rfl, _⟩ := h
    rfl
  · obtain ⟨u, r, z, oft, ra, rb, rfl, hw, hre, ra0, hne, hz, o0, o3, k⟩ := h
    have hrm : RoomAt H r := ⟨_, _, hre⟩
    have nd := sc_twigs.nd
    refine ⟨_, (pss_cons (ps_set (i := 5) nd rfl (Or.inl rfl) (pe_lst pa_nil))
        (pss_cons (ps_for (passes_of rfl) rfl (pi_range1 rfl T.b_range (pa_cons (pv 2) pa_nil)) (pg_name (i := 6) nd rfl (Or.inl rfl)) (pss_one (ps_if (pt_cmpR op_gt (pe_ix (r := rIxL K) ix_list (pv 4) pe_int (fun _ _ => rfl)) pe_int (nomark _)) (pss_cons (ps_asg (pe_op op_sub (pe_ix (r := rIxL K) ix_list (pv 4) pe_int (fun _ _ => rfl)) pe_int) (pg_sub (pv 4) pe_int set_list))
        (pss_cons (ps_par rfl nd (i := 7) (j := 8) rfl rfl (by decide) rfl rfl (pa_cons (pe_ifExp (pt_cmpR op_gt (pv 3) pe_int (nomark _)) (pe_call F_law_take (hr.mono (by omega)) rfl g_law_take k_law_take b_law_take .nil pass0 (pa_cons (pv 0) (pa_cons pe_int pa_nil))) pe_int) (pa_cons (pe_ix (r := rIxL K) ix_list (pv 4) pe_int (fun _ _ => rfl)) pa_nil)) rfl)
        (pss_one (ps_if (pt_cmpR op_lt (pv 7) pe_int (nomark _)) (pss_one (ps_expr (pe_bm PySem.F.plainAttrs_list PySem.F.slot_list_append PySem.F.type_list_append mt_append (pv 5) (pa_cons (pe_call F_law_one_act (hr.mono (by omega)) rfl g_law_one_act k_law_one_act b_law_one_act .nil pass0 (pa_cons (pv 0) (pa_cons (pv 1) pa_nil))) pa_nil)))) (pss_one (ps_if (PW.pt (pw_or (pt_cmpR op_eq (pv 7) pe_int (nomark _)) (pw_or1 (pt_cmpR op_eq (pv 8) pe_int (nomark _))))) (pss_cons (ps_set (i := 9) nd rfl (Or.inl rfl) (pe_call F_law_quiz (hr.mono (by omega)) rfl g_law_quiz k_law_quiz b_law_quiz .nil pass0 (pa_cons (pv 0) (pa_cons (pv 1) pa_nil))))
        (pss_cons (ps_set (i := 10) nd rfl (Or.inl rfl) (pe_call F_law_twigs (hr.mono (by omega)) rfl g_law_twigs k_law_twigs b_law_twigs .nil pass0 (pa_cons (pv 0) (pa_cons (pv 1) (pa_cons (pe_call F_law_take (hr.mono (by omega)) rfl g_law_take k_law_take b_law_take .nil pass0 (pa_cons (pv 0) (pa_cons pe_int pa_nil))) (pa_cons (pe_op op_sub (pv 3) pe_int) (pa_cons (pv 4) pa_nil)))))))
        (pss_one (ps_expr (pe_bm PySem.F.plainAttrs_list PySem.F.slot_list_append PySem.F.type_list_append mt_append (pv 5) (pa_cons (pe_tup (pa_cons pe_str (pa_cons (pv 9) (pa_cons (pv 10) (pa_cons (pe_call F_law_twigs (hr.mono (by omega)) rfl g_law_twigs k_law_twigs b_law_twigs .nil pass0 (pa_cons (pv 0) (pa_cons (pv 1) (pa_cons (pe_call F_law_take (hr.mono (by omega)) rfl g_law_take k_law_take b_law_take .nil pass0 (pa_cons (pv 0) (pa_cons pe_int pa_nil))) (pa_cons (pe_op op_sub (pv 3) pe_int) (pa_cons (pv 4) pa_nil)))))) pa_nil))))) pa_nil)))))) (pss_cons (ps_asg (pe_tup (pa_cons (pe_call F_law_quiz (hr.mono (by omega)) rfl g_law_quiz k_law_quiz b_law_quiz .nil pass0 (pa_cons (pv 0) (pa_cons (pv 1) pa_nil))) (pa_cons (pe_ifExp (pt_cmpR op_eq (pv 8) pe_int (nomark _)) pe_int (pv 8)) pa_nil))) (pg_tup rfl (pgs_cons (pg_name (i := 9) nd rfl (Or.inl rfl) (hf := Or.inr rfl)) (pgs_cons (pg_sub (pv 4) pe_int set_list) pgs_nil))))
        (pss_cons (ps_expr (pe_bm PySem.F.plainAttrs_list PySem.F.slot_list_append PySem.F.type_list_append mt_append (pv 5) (pa_cons (pe_tup (pa_cons pe_str (pa_cons (pv 9) (pa_cons (pe_call F_law_twigs (hr.mono (by omega)) rfl g_law_twigs k_law_twigs b_law_twigs .nil pass0 (pa_cons (pv 0) (pa_cons (pv 1) (pa_cons (pe_call F_law_take (hr.mono (by omega)) rfl g_law_take k_law_take b_law_take .nil pass0 (pa_cons (pv 0) (pa_cons pe_int pa_nil))) (pa_cons (pe_op op_sub (pv 3) pe_int) (pa_cons (pv 4) pa_nil)))))) pa_nil)))) pa_nil)))
        (pss_one (ps_asg (pv 8) (pg_sub (pv 4) pe_int set_list))))))))))) pss_nil)))
        (pss_one (ps_ret (pe_callTy call_tuple_of (by rfl) T.b_tuple (by decide +kernel) (pa_cons (pv 5) pa_nil)))))), ?_⟩
    refine sq fun U hU => ?_
    walk_at "rd"
    refine ⟨by decide, fun p hp => hU _ _ ?_⟩
    clear hU
    refine sq fun U hU => ?_
    walk_at "rd"
    have pu := hw.ne hp
    have pr : p ≠ r := by
      obtain ⟨a, b, e⟩ := hrm
      exact (ne_of_none e hp).symm
    have s0 : Same H (upd H p (.lst [])) := same_new hp
    refine ⟨by omega, by omega, ?_⟩
    refine for_r (twgP K H u r p z oft n ra) ⟨But2.of (But.same s0), hw.but s0, ⟨[], [], ra, rb, s0 _ _ hre, ra0, by simp, upd_same, .nil, Nat.le_refl _, ?_, by simp [wtAll], (fun _ z => nomatch z)⟩, _, _, _, _, _, rfl⟩ ?_ ?_
    · have := twDp_pos n
      simp only [PyData.depthAll]
      omega
    · rintro i σ H3 hi ⟨bb3, w3, ⟨xs, ds, m1, m2, er, m10, hcnt, hL, hD, hlen, hdp, hwt, hst⟩, a, b, c, d, e, rfl⟩
      simp only [gName_, List.set_cons_succ, List.set_cons_zero]
      refine iq fun T1 U1 hT1 hU1 => ?_
      walk_at "rd"
      refine ⟨_, SqL.of er, _, atI_nn (by decide) rfl, _, rfl, ?_⟩
      by_cases m0 : 0 < m1
      · rw [if_pos m0]
        refine hT1 _ ?_
        clear hT1 hU1
        refine sq fun V2 hV => ?_
        walk_at "rd"
        refine ⟨_, SqL.of er, _, atI_nn (by decide) rfl, _, rfl, _, er, 0, rfl, hV _ _ ?_⟩
        clear hV
        have st4 : TwS K H u r p xs ds (upd H3 r (.lst ([V.int m1, V.int m2].set 0 (V.int (m1 - 1))))) := TwS.step hw hrm pu pr ⟨bb3, w3, ⟨m1, m2, er⟩, hL, hD⟩ But2.room (w3.put hne) ⟨_, _, upd_same⟩
        have er4 : (upd H3 r (HO.lst ([V.int m1, V.int m2].set 0 (V.int (m1 - 1))))) r = some (.lst [.int (m1 - 1), .int m2]) := upd_same
        generalize (upd H3 r (HO.lst ([V.int m1, V.int m2].set 0 (V.int (m1 - 1))))) = H4 at st4 er4 ⊢
        refine sq fun V2 hV => ?_
        walk_at "rd"
        suffices go : ∀ (H5 : Hp) (br lo : Int), TwS K H u r p xs ds H5 → H5 r = some (.lst [.int (m1 - 1), .int m2]) → lo = m2 → (n = 0 → br < 5) → V2 [some (.ref u), some (.str z), some (.int oft), some (.int n), some (.ref r), some (.ref p), some (.int (0 + i)), some (.int br), some (.int lo), d, e] H5 by
          by_cases n0 : (0 : Int) < n
          · rw [if_pos n0]
            refine ⟨u, 7, rfl, st4.w, by decide, by decide, fun br H5 b5 w5 br0 br1 => ?_⟩
            have m5 := st4.m.but hne b5
            have st5 := st4.step hw hrm pu pr (But2.of b5) w5 m5
            have e5 := b5 _ _ hne er4
            exact ⟨_, SqL.of e5, _, atI_nn (by decide) rfl, go _ _ _ st5 e5 rfl fun z => by omega⟩
          · rw [if_neg n0]
            exact ⟨_, SqL.of er4, _, atI_nn (by decide) rfl, go _ _ _ st4 er4 rfl fun z => by decide⟩
        intro H5 br lo st5 er5 hlo hbr
        refine hV _ _ ?_
        clear hV
        have fin : ∀ (H6 : Hp) (x : V) (dd : PyData) (a6 b6' : Int) (c1 c2 c3 c4 c5 : Option V), But2 u r H5 H6 → WellAt H6 u → H6 r = some (.lst [.int a6, .int b6']) → 0 ≤ a6 → a6 + (cntSt n dd : Nat) = m1 → Dq K (newp H5 H6) x dd → dd.depth + 1 ≤ twDp n → wt dd + 2 ≤ 1000 * cntSt n dd → isSt n dd = true →
            rAppend (.ref p) [x] H6 fun _ H1 => twgP K H u r p z oft n ra (i + 1) [some (.ref u), some (.str z), some (.int oft), some (.int n), some (.ref r), some (.ref p), c1, c2, c3, c4, c5] H1 := fun H6 x dd a6 b6' c1 c2 c3 c4 c5 b6 w6 er6 a60 hc6 hx h1 h2 hsd => by
          have m6 : RoomAt H6 r := ⟨_, _, er6⟩
          obtain ⟨l6, s7⟩ := TwS.add hw hrm hp st5 b6 w6 m6 hx
          have xl := hD.len
          have pr' : r ≠ p := Ne.symm pr
          refine ⟨p, xs, x, rfl, rfl, l6, by rw [sizeLine_eq]; omega, s7.b, s7.w, ⟨_, _, a6, b6', (upd_ne pr').trans er6, a60, by rw [cnt_snoc]; omega, s7.l, s7.d, by rw [List.length_append]; simp only [List.length_cons, List.length_nil]; omega, ?_, ?_, ?_⟩, _, _, _, _, _, rfl⟩
          · rw [depthAll_append, PyData.depthAll, PyData.depthAll]
            omega
          · rw [wtAll_append, wtAll, wtAll, cnt_snoc]
            omega
          · intro c hc
            rcases List.mem_append.mp hc with hc | hc
            · exact hst c hc
            · rw [List.mem_singleton.mp hc]
              exact hsd
        refine iq fun T2 U2 hT2 hU2 => ?_
        walk_at "rd"
        by_cases b5 : br < 5
        · rw [if_pos b5]
          refine hT2 _ ?_
          clear hT2 hU2
          walk_at "rd"
          refine ⟨.inl ⟨rfl, _, SqL.of st5.l⟩, u, z, rfl, st5.w, hz, fun x dd H6 b6 w6 hx h1 h2 hdd => ?_⟩
          have hc1 : cntSt n dd = 1 := (deed_plain hdd n).1
          refine fin H6 x dd (m1 - 1) m2 _ _ _ _ _ (But2.of b6) w6 (b6 _ _ hne er5) (by omega) (by rw [hc1]; omega) hx ?_ ?_ (deed_isSt hdd n)
          · have := twDp_pos n
            omega
          · omega
        · rw [if_neg b5]
          refine hU2 _ ?_
          clear hT2 hU2
          obtain ⟨m, rfl⟩ : ∃ m, n = m + 1 := ⟨n - 1, by
            have : n ≠ 0 := fun z => b5 (hbr z)
            omega⟩
          have em : ((m + 1 : Nat) : Int) - 1 = (m : Int) := by omega
          refine iq fun T3 U3 hT3 hU3 => ?_
          walk_at "rd"
          by_cases cc : br = 5 ∨ lo = 0
          · have e3 : (if br = 5 then T3 H5 else if lo = 0 then T3 H5 else U3 H5) = T3 H5 := by
              rcases cc with z | z
              · rw [if_pos z]
              · by_cases y : br = 5
                · rw [if_pos y]
                · rw [if_neg y, if_pos z]
            rw [e3]
            refine hT3 _ ?_
            clear hT3 hU3
            refine sq fun V3 hV3 => ?_
            walk_at "rd"
            refine ⟨u, z, rfl, st5.w, hz, fun q dq H6 b6 w6 hq hq1 hq2 hqt => hV3 _ _ ?_⟩
            clear hV3
            have m6 := st5.m.but hne b6
            refine sq fun V3 hV3 => ?_
            walk_at "rd"
            refine ⟨u, 3, rfl, w6, by decide, by decide, fun t H7 b7 w7 t0 t1 => ?_⟩
            have m7 := m6.but hne b7
            have er7 := b7 _ _ hne (b6 _ _ hne er5)
            refine ⟨u, r, z, t, _, _, by rw [em], w7, er7, by omega, hne, hz, t0, by omega, fun x1 d1 H8 a8 q8 b8 w8 er8 a80 hc8 hx1 hd1 hw1 ht1 => hV3 _ _ ?_⟩
            clear hV3
            have m8 : RoomAt H8 r := ⟨_, _, er8⟩
            walk_at "rd"
            have b56 : But2 u r H5 H6 := But2.of b6
            have b57 := b56.trans (But2.of b7)
            have b58 := b57.trans b8
            have l8 := (st5.step hw hrm pu pr b58 w8 m8).l
            refine ⟨.inl ⟨rfl, _, SqL.of l8⟩, u, 3, rfl, w8, by decide, by decide, fun t2 H9 b9 w9 t20 t21 => ?_⟩
            have m9 := m8.but hne b9
            have b59 := b58.trans (But2.of b9)
            refine ⟨u, r, z, t2, _, _, by rw [em], w9, b9 _ _ hne er8, a80, hne, hz, t20, by omega, fun x2 d2 H10 a10 q10 b10 w10 er10 a100 hc10 hx2 hd2 hw2 ht2 => ⟨by decide, fun p9 hp9 => ?_⟩⟩
            have m10 : RoomAt H10 r := ⟨_, _, er10⟩
            have b510 := b59.trans b10
            have s11 : Same H10 (upd H10 p9 (.tup [.str "if", q, x1, x2])) := same_new hp9
            have c11 : But2 u r H10 (upd H10 p9 (.tup [.str "if", q, x1, x2])) := But2.of (But.same s11)
            have e11 : (upd H10 p9 (HO.tup [.str "if", q, x1, x2])) p9 = some (.tup [.str "if", q, x1, x2]) := upd_same
            have n9 := but2_none b510 w10 m10 hp9
            have w11 := w10.but s11
            have er11 := s11 _ _ er10
            generalize (upd H10 p9 (HO.tup [V.str (Str.ofString "if"), q, x1, x2])) = H11 at c11 e11 w11 er11 ⊢
            refine fin H11 (.ref p9) (.tuple [.str "if", dq, d1, d2]) a10 q10 _ _ _ _ _ (b510.trans c11) w11 er11 a100 (by rw [if_cnt]; omega) (.tup ((newp_at n9).trans e11) (.cons (.str _ (by decide +kernel)) (.cons (hq.up (newp_up But2.refl st5.w st5.m ((But2.of b7).trans (b8.trans ((But2.of b9).trans (b10.trans c11)))))) (.cons (hx1.up (newp_up b57 w7 m7 ((But2.of b9).trans (b10.trans c11)))) (.cons (hx2.up (newp_up b59 w9 m9 c11)) .nil))))) ?_ ?_ (i_ok hqt ht1 ht2)
            · simp only [PyData.depth, PyData.depthAll, twDp]
              omega
            · rw [if_cnt]
              have e : wt (.tuple [.str "if", dq, d1, d2]) = 3 + (2 + (10 * 2 + 12) + (2 + wt dq + (2 + wt d1 + (2 + wt d2 + 0)))) := by simp only [wt, wtAll]; rfl
              rw [e]
              omega
          · rw [if_neg (fun z => cc (.inl z)), if_neg (fun z => cc (.inr z))]
            refine hU3 _ ?_
            clear hT3 hU3
            refine sq fun V3 hV3 => ?_
            walk_at "rd"
            refine ⟨u, z, rfl, st5.w, hz, fun q dq H6 b6 w6 hq hq1 hq2 hqt => ?_⟩
            have m6 := st5.m.but hne b6
            have er6 := b6 _ _ hne er5
            suffices go2 : ∀ (H7 : Hp) (q7 : Int), But2 u r H6 H7 → WellAt H7 u → H7 r = some (.lst [.int (m1 - 1), .int q7]) → V3 [some (.ref u), some (.str z), some (.int oft), some (.int (m + 1 : Nat)), some (.ref r), some (.ref p), some (.int (0 + i)), some (.int br), some (.int lo), some q, e] H7 by
              have stp : ∀ (c : Int) (pc : Addr), H6 pc = none → V3 [some (.ref u), some (.str z), some (.int oft), some (.int (m + 1 : Nat)), some (.ref r), some (.ref p), some (.int (0 + i)), some (.int br), some (.int lo), some q, e] (upd (upd H6 pc (.tup [q, .int c])) r (.lst ([V.int (m1 - 1), V.int m2].set 1 (.int c)))) := fun c pc hpc =>
                go2 _ c ((But2.of (But.same (same_new hpc))).trans But2.room) ((w6.but (same_new hpc)).put hne) upd_same
              have rm : ∀ (c : Int) (pc : Addr), H6 pc = none → (upd H6 pc (.tup [q, .int c])) r = some (.lst [.int (m1 - 1), .int m2]) := fun c pc hpc => same_new hpc _ _ er6
              by_cases l1 : lo = 1
              · show if lo = 1 then _ else _
                rw [if_pos l1]
                exact ⟨by decide, fun pc hpc => ⟨_, SqT.of upd_same, rfl, _, _, rfl, _, _, rfl, _, rm 0 pc hpc, 1, rfl, rfl, stp 0 pc hpc⟩⟩
              · show if lo = 1 then _ else _
                rw [if_neg l1]
                exact ⟨by decide, fun pc hpc => ⟨_, SqT.of upd_same, rfl, _, _, rfl, _, _, rfl, _, rm lo pc hpc, 1, rfl, rfl, stp lo pc hpc⟩⟩
            intro H7 q7 b67 w7 er7
            have m7 : RoomAt H7 r := ⟨_, _, er7⟩
            refine hV3 _ _ ?_
            clear hV3
            have b57 : But2 u r H5 H7 := (But2.of b6).trans b67
            refine sq fun V3 hV3 => ?_
            walk_at "rd"
            have l7 := (st5.step hw hrm pu pr b57 w7 m7).l
            refine ⟨.inl ⟨rfl, _, SqL.of l7⟩, u, 4, rfl, w7, by decide, by decide, fun t H8 b8 w8 t0 t1 => ?_⟩
            have m8 := m7.but hne b8
            have b58 := b57.trans (But2.of b8)
            refine ⟨u, r, z, t, _, _, by rw [em], w8, b8 _ _ hne er7, by omega, hne, hz, t0, by omega, fun x1 d1 H9 a9 q9 b9 w9 er9 a90 hc9 hx1 hd1 hw1 ht1 => ⟨by decide, fun p9 hp9 => ?_⟩⟩
            have m9 : RoomAt H9 r := ⟨_, _, er9⟩
            have b59 := b58.trans b9
            have s10 : Same H9 (upd H9 p9 (.tup [.str "while", q, x1])) := same_new hp9
            have c10 : But2 u r H9 (upd H9 p9 (.tup [.str "while", q, x1])) := But2.of (But.same s10)
            have e10 : (upd H9 p9 (HO.tup [.str "while", q, x1])) p9 = some (.tup [.str "while", q, x1]) := upd_same
            have n9 := but2_none b59 w9 m9 hp9
            have w10 := w9.but s10
            have m10 := m9.but hne (But.same s10)
            have er10 := s10 _ _ er9
            generalize (upd H9 p9 (HO.tup [V.str (Str.ofString "while"), q, x1])) = H10 at c10 e10 w10 m10 er10 ⊢
            obtain ⟨l10, s11⟩ := TwS.add (x := .ref p9) (d := .tuple [.str "while", dq, d1]) hw hrm hp st5 (b59.trans c10) w10 m10 (.tup ((newp_at n9).trans e10) (.cons (.str _ (by decide +kernel)) (.cons (hq.up (newp_up But2.refl st5.w st5.m (b67.trans ((But2.of b8).trans (b9.trans c10))))) (.cons (hx1.up (newp_up b58 w8 m8 c10)) .nil))))
            have xl := hD.len
            refine ⟨p, xs, .ref p9, rfl, rfl, l10, by rw [sizeLine_eq]; omega, hV3 _ _ ?_⟩
            clear hV3
            walk_at "rd"
            have e11 : (upd H10 p (HO.lst (xs ++ [.ref p9]))) r = some (.lst [.int a9, .int q9]) := (upd_ne (Ne.symm pr)).trans er10
            have s12 := TwS.step hw hrm pu pr s11 (But2.room (o := .lst ([V.int a9, V.int q9].set 1 (V.int lo)))) (s11.w.put hne) ⟨_, _, upd_same⟩
            refine ⟨_, e11, 1, rfl, s12.b, s12.w, ⟨_, _, a9, lo, upd_same, a90, by rw [cnt_snoc, while_cnt]; omega, s12.l, s12.d, by rw [List.length_append]; simp only [List.length_cons, List.length_nil]; omega, ?_, ?_, ?_⟩, _, _, _, _, _, rfl⟩
            · rw [depthAll_append, PyData.depthAll, PyData.depthAll]
              simp only [PyData.depth, PyData.depthAll, twDp] at hdp ⊢
              omega
            · rw [wtAll_append, wtAll, wtAll, cnt_snoc, while_cnt]
              have e : wt (.tuple [.str "while", dq, d1]) = 3 + (2 + (10 * 5 + 12) + (2 + wt dq + (2 + wt d1 + 0))) := by simp only [wt, wtAll]; rfl
              rw [e]
              omega
            · intro c hc
              rcases List.mem_append.mp hc with hc | hc
              · exact hst c hc
              · rw [List.mem_singleton.mp hc]
                exact w_ok hqt ht1
      · rw [if_neg m0]
        refine hU1 _ ?_
        walk_at "rd"
        exact ⟨bb3, w3, ⟨xs, ds, m1, m2, er, m10, hcnt, hL, hD, by omega, hdp, hwt, hst⟩, _, _, _, _, _, rfl⟩
    · rintro σ H3 ⟨bb3, w3, ⟨xs, ds, m1, m2, er, m10, hcnt, hL, hD, hlen, hdp, hwt, hst⟩, a, b, c, d, e, rfl⟩
      have rm3 : RoomAt H3 r := ⟨_, _, er⟩
      refine hU _ _ ?_
      walk_at "rd"
      refine ⟨_, .inl ⟨SqL.of hL, fun l hl => ?_⟩⟩
      have s1 : Same H3 (upd H3 l (.tup xs)) := same_new hl
      refine k _ (.tuple ds) _ m1 m2 (bb3.trans (But2.of (But.same s1))) (w3.but s1) (s1 _ _ er) m10 hcnt (.tup ((newp_at (but2_none bb3 w3 rm3 hl)).trans upd_same) (hD.up fun a o e => ?_)) ?_ ?_ (List.all_eq_true.mpr hst)
      · obtain ⟨h1, h2, h3⟩ := nw_some e
        rw [newp_at h2]
        exact s1 _ _ h3
      · rw [PyData.depth]
        exact hdp
      · rw [wt]
        have e : cntOf (cntSt n) (.tuple ds) = (ds.map (cntSt n)).sum := rfl
        rw [e]
        omega
end
end K38

set_option Elab.async false
set_option linter.all false
set_option maxRecDepth 100000
set_option maxHeartbeats 4000000
namespace K38
open PySem PySem.Spec PyProof.Rows L2 Rd Dt Dq Pk TL
local macro_rules | `(tactic| walk_at "rd") => `(tactic| try simp only [↓Rp.tReplC_, ↓tFld_, ↓sFld_, ↓tVar_, ↓tC_, ↓tM1, ↓tDNewK_, ↓tOp_, ↓tUn_, ↓rI_, ↓rI0_, ↓rU_, ↓eq_ii, ↓ne_ii, ↓eq_ss, ↓ne_ss, ↓eq_bb, ↓ne_bb, ↓tAndV_, ↓tOrV_, ↓tNotV_, ↓tIf_, ↓tTest_, ↓tB_, ↓tAnd_, ↓tOr_, ↓tNot_, ↓tChain_, ↓tNil_, ↓tCons_, ↓tTup_, ↓tLst_, ↓tCB_, ↓tCall_, ↓tSeq_, ↓tNext_, ↓tRet_, ↓tRetN_, ↓tDrop_, ↓tBreak_, ↓tNever_, ↓tIfS_, ↓tAsg_, ↓gName_, ↓gTup_, ↓gCons_, ↓gNil_, ↓gSub_, ↓tPar_, ↓tPar3_, ↓tSl_, ↓tNoPart_, ↓tPart_, ↓tBM_, ↓tFor_range1, ↓tFor_range2, ↓tFor_list, ↓tFor_tup, L2.start, List.headD_cons, List.headD_nil, List.tail_cons, List.map_cons, List.map_nil, List.length_cons, List.length_nil, List.replicate, List.append_nil, List.nil_append, List.cons_append, List.getElem?_cons_zero, List.getElem?_cons_succ, List.set_cons_zero, List.set_cons_succ, Option.some.injEq, V.int.injEq, V.bl.injEq, V.str.injEq, V.ref.injEq, exists_eq_left, exists_eq_left', exists_eq_right, exists_eq, exists_and_left, and_true, true_and, decide_eq_true_eq, Nat.reduceAdd, Nat.reduceSub, Nat.add_zero, Nat.zero_add, List.cons.injEq, Bool.not_eq_true', decide_eq_false_iff_not, eq_self, reduceCtorEq, Bool.false_eq_true, if_true, if_false, ite_true, ite_false, and_self, ↓tLc_range1, ↓tLc_range2, ↓tLc_list, ↓tLc_tup, ↓tYes_, wipe0, wipe1, ↓tCallS_, ↓rIxL_, ↓rIxT_, ↓rSlL_, ↓rCat_, ↓rSetL_, ↓rRep_, ↓rGcd_, ↓tCallK_, ↓gUnl_, ↓tRaise_, decide_true, decide_false, not_true_eq_false, not_false_eq_true, false_and, or_false, false_or, and_false, and_assoc, exists_const, forall_const, forall_eq'])

section
variable {P : Program} {w : World} {K : PySem.W.Frag} {mg : Str → Option Value} {base : Heap}
/-- a text of bounds -/
structure Bt (s : Str) (n : Nat) : Prop where
  l : s.length ≤ n
  c : ∀ c ∈ tl s, c < 0x110000
theorem Bt.mono {s : Str} {n m : Nat} (h : Bt s n) (e : n ≤ m) : Bt s m := ⟨Nat.le_trans h.l e, h.c⟩
theorem Bt.app {a b : Str} {n m : Nat} (h : Bt a n) (g : Bt b m) : Bt (a ++ b) (n + m) := ⟨by rw [Str.length_append]; exact Nat.add_le_add h.l g.l, fun c hc => by
  rw [tl_append] at hc
  rcases List.mem_append.mp hc with z | z
  · exact h.c c z
  · exact g.c c z⟩
theorem Bt.sub {s w : Str} {n : Nat} (h : Bt s n) (hl : w.length ≤ s.length) (hc : ∀ c ∈ tl w, c ∈ tl s) : Bt w n := ⟨Nat.le_trans hl h.l, fun c q => h.c c (hc c q)⟩
theorem Bt.cut {s : Str} {n : Nat} (h : Bt s n) (lo hi : Option Int) : Bt (cutS s lo hi) n := h.sub (cutS_length _ _ _) fun c hc => by
  have : c ∈ (List.take _ (List.drop _ (tl s))) := hc
  exact List.mem_of_mem_drop (List.mem_of_mem_take this)
theorem Bt.sm {s : Str} {n : Nat} (h : Bt s n) (hn : n ≤ 10000) : smS s = true := by
  unfold smS
  rw [Bool.and_eq_true]
  refine ⟨decide_eq_true (Nat.le_trans h.l hn), ?_⟩
  unfold PyData.strOk
  rw [← Array.all_toList, List.all_eq_true]
  exact fun c hc => decide_eq_true (h.c c hc)
theorem splk (k : Nat) : ∀ (l acc : List Nat), spl [k] 0 acc l ≠ [] ∧ ((spl [k] 0 acc l).map (·.length)).sum + (spl [k] 0 acc l).length ≤ acc.length + l.length + 1 ∧ ∀ p ∈ spl [k] 0 acc l, ∀ c ∈ p, c ∈ acc ∨ c ∈ l
  | [], acc => by
    rw [spl_nil]
    refine ⟨by simp, by simp, fun p hp => ?_⟩
    rw [List.mem_singleton.mp hp]
    exact fun c hc => .inl hc
  | x :: r, acc => by
    cases h : pre [k] (x :: r) with
    | true =>
      rw [spl_hit h]
      obtain ⟨_, i1, i2⟩ := splk k r []
      show (acc :: spl [k] 0 [] r) ≠ [] ∧ ((acc :: spl [k] 0 [] r).map (·.length)).sum + (acc :: spl [k] 0 [] r).length ≤ _ ∧ _
      refine ⟨by simp, by rw [List.map_cons, List.sum_cons, List.length_cons, List.length_cons]; rw [List.length_nil] at i1; omega, fun p hp => ?_⟩
      rcases List.mem_cons.mp hp with rfl | hp
      · exact fun c hc => .inl hc
      · intro c hc
        rcases i2 p hp c hc with z | z
        · cases z
        · exact .inr (List.mem_cons_of_mem _ z)
    | false =>
      rw [spl_miss h]
      obtain ⟨i0, i1, i2⟩ := splk k r (acc ++ [x])
      refine ⟨i0, by rw [List.length_append] at i1; simp only [List.length_cons, List.length_nil] at i1 ⊢; omega, fun p hp => ?_⟩
      intro c hc
      rcases i2 p hp c hc with z | z
      · rcases List.mem_append.mp z with z | z
        · exact .inl z
        · rw [List.mem_singleton.mp z]; exact .inr List.mem_cons_self
      · exact .inr (List.mem_cons_of_mem _ z)
def jl (ws : List Str) : Nat := (ws.map (·.length)).sum + ws.length
theorem split_k (s : Str) (k : Nat) (hk : k < 256) : Txt.split s ⟨#[k]⟩ ≠ [] ∧ jl (Txt.split s ⟨#[k]⟩) ≤ s.length + 1 ∧ ∀ w ∈ Txt.split s ⟨#[k]⟩, ∀ c ∈ tl w, c ∈ tl s := by
  have e := split_spl s ⟨#[k]⟩ (by simp [tl]) (kind_ok (by simpa using hk))
  have e32 : tl (⟨#[k]⟩ : Str) = [k] := rfl
  rw [e32] at e
  obtain ⟨i0, i1, i2⟩ := splk k (tl s) []
  rw [← e] at i0 i1 i2
  refine ⟨fun z => i0 (by rw [z]; rfl), ?_, fun w hw c hc => ?_⟩
  · unfold jl
    rw [List.map_map, List.length_map] at i1
    rw [len_tl]
    have ef : ((Txt.split s ⟨#[k]⟩).map (·.length)) = ((Txt.split s ⟨#[k]⟩).map ((fun x : List Nat => x.length) ∘ tl)) := List.map_congr_left fun w _ => len_tl w
    rw [ef]
    simpa using i1
  · rcases i2 (tl w) (List.mem_map_of_mem hw) c hc with z | z
    · cases z
    · exact z
theorem join_mem {sep : Str} : ∀ {ws : List Str} {c : Nat}, c ∈ tl (Str.join sep ws) → c ∈ tl sep ∨ ∃ w ∈ ws, c ∈ tl w
  | [], c, h => by cases (show c ∈ ([] : List Nat) from h)
  | [x], c, h => .inr ⟨x, List.mem_cons_self, h⟩
  | x :: y :: r, c, h => by
    have h' : c ∈ tl (x ++ sep ++ Str.join sep (y :: r)) := h
    rw [tl_append, tl_append] at h'
    rcases List.mem_append.mp h' with z | z
    · rcases List.mem_append.mp z with z | z
      · exact .inr ⟨x, List.mem_cons_self, z⟩
      · exact .inl z
    · rcases join_mem z with z | ⟨w, hw, z⟩
      · exact .inl z
      · exact .inr ⟨w, List.mem_cons_of_mem _ hw, z⟩
theorem Bt.repl {s : Str} {n : Nat} (h : Bt s n) : Bt (Txt.replace s ";" "") n := by
  have hl := TK.replace_len s ";" ""
  have e0 : ("" : Str).length = 0 := by decide
  rw [e0, Nat.mul_zero, Nat.add_zero] at hl
  refine h.sub hl fun c hc => ?_
  have es : (";" : Str) = ⟨#[59]⟩ := by decide +kernel
  rw [es, StrLaws.replace_one] at hc
  rcases join_mem hc with z | ⟨w, hw, z⟩
  · exact absurd z (by rw [show tl ("" : Str) = [] by decide +kernel]; simp)
  · exact (split_k s 59 (by decide)).2.2 w hw c z
def btB (m : Nat) (s : Str) : Bool := decide (s.length ≤ m) && PyData.strOk s
theorem Bt.of {m : Nat} {s : Str} (h : btB m s = true) : Bt s m := by
  obtain ⟨h1, h2⟩ := Bool.and_eq_true_iff.mp h
  refine ⟨of_decide_eq_true h1, fun c hc => ?_⟩
  unfold PyData.strOk at h2
  rw [← Array.all_toList, List.all_eq_true] at h2
  exact of_decide_eq_true (h2 c hc)
theorem tup_ne {H : Hp} {u a : Addr} {xs : List V} (hw : WellAt H u) (e : H a = some (.tup xs)) : a ≠ u := fun z => by
  obtain ⟨x, y, c, q⟩ := hw
  rw [z, q] at e
  cases e
theorem pickSign {H : Hp} {u : Addr} {s : Str} {Q : VK} {E : XK} (hw : WellAt H u) (hb : btB 100 s = true) (h0 : 1 ≤ s.length) (k : ∀ (t : Str) (H' : Hp), But u H H' → WellAt H' u → Bt t 1 → Q (.str t) H') : spPick [.ref u, .str s] H Q E := by
  have b := Bt.of hb
  have hl : s.cps.toList.length = s.length := Array.length_toList ..
  refine ⟨u, .str s, _, rfl, hw, (fun q => nomatch q), .str s (Nat.le_trans b.l (by rw [sizeLine_eq]; decide)), by rw [List.length_map]; omega, by rw [List.length_map]; have := b.l; omega, fun y H' b' w' hy => ?_⟩
  obtain ⟨c, hc, rfl⟩ := List.mem_map.mp hy
  exact k _ H' b' w' ⟨Nat.le_refl _, fun x hx => by
    have : x ∈ [c] := hx
    rw [List.mem_singleton.mp this]
    exact b.c c hc⟩
theorem pickStrs {H : Hp} {u p : Addr} {ss : List Str} {m : Nat} {Q : VK} {E : XK} (hw : WellAt H u) (e : H p = some (.tup (ss.map V.str))) (hb : ∀ s ∈ ss, Bt s m) (l1 : 1 ≤ ss.length) (l2 : ss.length ≤ 1000) (k : ∀ (t : Str) (H' : Hp), But u H H' → WellAt H' u → Bt t m → Q (.str t) H') : spPick [.ref u, .ref p] H Q E := by
  refine ⟨u, .ref p, _, rfl, hw, (fun q => tup_ne hw e (by cases q; rfl)), .tup e, by rw [List.length_map]; exact l1, by rw [List.length_map]; exact l2, fun y H' b w' hy => ?_⟩
  obtain ⟨s, hs, rfl⟩ := List.mem_map.mp hy
  exact k s H' b w' (hb s hs)
theorem bt_all {m : Nat} {ss : List Str} (h : ss.all (btB m) = true) : ∀ s ∈ ss, Bt s m := fun s hs => Bt.of (List.all_eq_true.mp h s hs)
theorem catD {H : Hp} {a b : Addr} {xs ys : List V} {Q : VK} (ha : H a = some (.tup xs)) (hb : H b = some (.tup ys)) (hz : xs.length + ys.length ≤ sizeLine) (k : ∀ (p : Addr) (H' : Hp), Same H H' → H' p = some (.tup (xs ++ ys)) → Q (.ref p) H') : rCatA K (.ref a) (.ref b) H Q := by
  refine ⟨a, b, xs, ys, rfl, rfl, SqT.of ha, SqT.of hb, hz, fun z => ?_, fun _ z => ?_, fun _ _ p hp => k p _ (same_new hp) upd_same⟩
  · subst z; exact k b H (Same.refl H) hb
  · subst z; exact k a H (Same.refl H) (by rw [List.append_nil]; exact ha)
theorem ixn {n : Nat} {i : Int} (h0 : 0 ≤ i) (h : i.toNat < n) : ixN n i = some i.toNat := by
  unfold ixN
  rw [if_pos h0, if_pos (by omega)]
theorem erase_map (f : Str → V) : ∀ (ws : List Str) (k : Nat), (ws.map f).eraseIdx k = (ws.eraseIdx k).map f
  | [], _ => rfl
  | _ :: _, 0 => rfl
  | w :: ws, k + 1 => by
    show f w :: (ws.map f).eraseIdx k = f w :: (ws.eraseIdx k).map f
    rw [erase_map f ws k]
theorem jl_cons (w : Str) (ws : List Str) : jl (w :: ws) = w.length + 1 + jl ws := by
  unfold jl
  rw [List.map_cons, List.sum_cons, List.length_cons]
  omega
theorem jl_app (a b : List Str) : jl (a ++ b) = jl a + jl b := by
  unfold jl
  rw [List.map_append, List.sum_append, List.length_append]
  omega
theorem jl_erase : ∀ (ws : List Str) (k : Nat), jl (ws.eraseIdx k) ≤ jl ws
  | [], _ => Nat.le_refl _
  | w :: ws, 0 => by
    show jl ws ≤ _
    rw [jl_cons]; omega
  | w :: ws, k + 1 => by
    show jl (w :: ws.eraseIdx k) ≤ _
    rw [jl_cons, jl_cons]
    have := jl_erase ws k
    omega
theorem jl_set (t : Str) : ∀ (ws : List Str) (k : Nat), jl (ws.set k t) ≤ jl ws + t.length
  | [], _ => by simp [jl]
  | w :: ws, 0 => by
    show jl (t :: ws) ≤ _
    rw [jl_cons, jl_cons]; omega
  | w :: ws, k + 1 => by
    show jl (w :: ws.set k t) ≤ _
    rw [jl_cons, jl_cons]
    have := jl_set t ws k
    omega
def spBent (K : PySem.W.Frag) : Sp := fun vs H Q _ => ∃ (u : Addr) (s : Str) (n : Nat), vs = [.ref u, .str s] ∧ WellAt H u ∧ Bt s n ∧ n ≤ 4900 ∧ ∀ (t : Str) (H' : Hp), But u H H' → WellAt H' u → Bt t (2 * n + 30) → Q (.str t) H'
theorem sc_bent : FnScope ["_law_well_here", "_law_said_here", "_law_branch", "_law_here", "_law_tokens_here", "_law_spot", "_law_menu"] ["_law_well_here", "_law_said_here"] (defScope (top 55)) := ⟨rfl, rfl, rfl, by decide +kernel, rfl, by decide +kernel, by decide +kernel⟩
theorem ok_bent {f : Addr} {fd : FuncData} (T : Tx mg) (F : FD K "_law_bent" (top 55) f fd) {f1 f2 : Addr} {fd1 fd2 : FuncData} (C1 : Cal P w K mg base CX0 1 "_law_take" ["_law_well_here", "_law_limit"] spTake f1 fd1) (C2 : Cal P w K mg base CX0 2 "_law_pick" ["_law_well_here", "_law_some"] spPick f2 fd2) : FnOk P w K mg base CX0 3 f fd ["_law_well_here", "_law_said_here"] (spBent K) := by
  obtain ⟨g_law_take, k_law_take, b_law_take, F_law_take⟩ := C1
  obtain ⟨g_law_pick, k_law_pick, b_law_pick, F_law_pick⟩ := C2
  refine F.ok sc_bent (fun vs H Q E h => ?_) (fun cdv A outer s H vs Q E hr h => ?_)
  · obtain ⟨_, _, _, rfl, _⟩ := h
    rfl
  · obtain ⟨u, z, n, rfl, hw, hb, hn, k⟩ := h
    have nd := sc_bent.nd
    refine ⟨_, (pss_cons (ps_par rfl nd (i := 2) (j := 3) rfl rfl (by decide) rfl rfl (pa_cons (pe_call F_law_take (hr.mono (by omega)) rfl g_law_take k_law_take b_law_take .nil pass0 (pa_cons (pv 0) (pa_cons pe_int pa_nil))) (pa_cons (pe_call F_law_take (hr.mono (by omega)) rfl g_law_take k_law_take b_law_take .nil pass0 (pa_cons (pv 0) (pa_cons (pe_op op_add (pe_callB call_len_str (by rfl) T.b_len PySem.boot_len (pa_cons (pv 1) pa_nil)) pe_int) pa_nil))) pa_nil)) rfl)
        (pss_cons (ps_if (pt_cmpR op_eq (pv 2) pe_int (nomark _)) (pss_one (ps_ret (pe_op op_add_str (pe_slice sl_str (pv 1) po_none (po_some (pv 3))) (pe_slice sl_str (pv 1) (po_some (pe_op op_add (pv 3) pe_int)) po_none)))) pss_nil)
        (pss_cons (ps_if (pt_cmpR op_eq (pv 2) pe_int (nomark _)) (pss_one (ps_ret (pe_op op_add_str (pe_op op_add_str (pe_slice sl_str (pv 1) po_none (po_some (pv 3))) (pe_call F_law_pick (hr.mono (by omega)) rfl g_law_pick k_law_pick b_law_pick .nil pass0 (pa_cons (pv 0) (pa_cons pe_str pa_nil)))) (pe_slice sl_str (pv 1) (po_some (pv 3)) po_none)))) pss_nil)
        (pss_cons (ps_if (pt_cmpR op_eq (pv 2) pe_int (nomark _)) (pss_one (ps_ret (pe_op op_add_str (pe_op op_add_str (pe_slice sl_str (pv 1) po_none (po_some (pv 3))) (pe_call F_law_pick (hr.mono (by omega)) rfl g_law_pick k_law_pick b_law_pick .nil pass0 (pa_cons (pv 0) (pa_cons pe_str pa_nil)))) (pe_slice sl_str (pv 1) (po_some (pe_op op_add (pv 3) pe_int)) po_none)))) pss_nil)
        (pss_cons (ps_if (pt_cmpR op_eq (pv 2) pe_int (nomark _)) (pss_one (ps_ret (pe_op op_add_str (pv 1) (pe_call F_law_pick (hr.mono (by omega)) rfl g_law_pick k_law_pick b_law_pick .nil pass0 (pa_cons (pv 0) (pa_cons (pe_tup (pa_cons pe_str (pa_cons pe_str (pa_cons pe_str (pa_cons pe_str (pa_cons pe_str (pa_cons pe_str (pa_cons pe_str (pa_cons pe_str (pa_cons pe_str pa_nil)))))))))) pa_nil)))))) pss_nil)
        (Rp.pss_bmC (i := 4) nd rfl (Or.inl rfl) PySem.F.plainAttrs_str PySem.F.slot_str_split PySem.F.type_str_split mt_split (pv 1)
        (psst_cons (PST.of (ps_par rfl nd (i := 5) (j := 6) rfl rfl (by decide) rfl rfl (pa_cons (pe_call F_law_take (hr.mono (by omega)) rfl g_law_take k_law_take b_law_take .nil pass0 (pa_cons (pv 0) (pa_cons (pe_callB call_len_seq (by rfl) T.b_len PySem.boot_len (pa_cons (pv 4) pa_nil)) pa_nil))) (pa_cons (pe_tup (pa_cons pe_str (pa_cons pe_str (pa_cons pe_str (pa_cons pe_str (pa_cons pe_str (pa_cons pe_str (pa_cons pe_str (pa_cons pe_str (pa_cons pe_str (pa_cons pe_str (pa_cons pe_str (pa_cons pe_str (pa_cons pe_str (pa_cons pe_str pa_nil))))))))))))))) pa_nil)) rfl))
        (psst_cons (CwR.pst_if (pt_cmpR op_eq (pv 2) pe_int (nomark _)) (PSsT.of (pss_one (ps_expr (pe_bm PySem.F.plainAttrs_list PySem.F.slot_list_pop PySem.F.type_list_pop mt_popAt (pv 4) (pa_cons (pv 5) pa_nil))))) (CwR.psst_one (CwR.pst_if (pt_cmpR op_eq (pv 2) pe_int (nomark _)) (PSsT.of (pss_one (ps_expr (pe_bm PySem.F.plainAttrs_list PySem.F.slot_list_insert PySem.F.type_list_insert mt_insert (pv 4) (pa_cons (pv 5) (pa_cons (pe_call F_law_pick (hr.mono (by omega)) rfl g_law_pick k_law_pick b_law_pick .nil pass0 (pa_cons (pv 0) (pa_cons (pv 6) pa_nil))) pa_nil)))))) (CwR.psst_one (CwR.pst_if (pt_cmpR op_eq (pv 2) pe_int (nomark _)) (PSsT.of (pss_one (ps_asg (pe_call F_law_pick (hr.mono (by omega)) rfl g_law_pick k_law_pick b_law_pick .nil pass0 (pa_cons (pv 0) (pa_cons (pe_op op_catA (pv 6) (pe_tup (pa_cons pe_str (pa_cons pe_str (pa_cons pe_str (pa_cons (pe_ix (r := rIxL K) ix_list (pv 4) (pe_call F_law_take (hr.mono (by omega)) rfl g_law_take k_law_take b_law_take .nil pass0 (pa_cons (pv 0) (pa_cons (pe_callB call_len_seq (by rfl) T.b_len PySem.boot_len (pa_cons (pv 4) pa_nil)) pa_nil))) (fun _ _ => rfl)) pa_nil)))))) pa_nil))) (pg_sub (pv 4) (pv 5) set_list)))) (CwR.psst_one (CwR.pst_if (pt_cmpR op_eq (pv 2) pe_int (nomark _)) (PSsT.of (pss_one (ps_asg (pe_op op_add_str (pe_ix (r := rIxL K) ix_list (pv 4) (pv 5) (fun _ _ => rfl)) pe_str) (pg_sub (pv 4) (pv 5) set_list)))) (CwR.psst_one (Rp.pst_asg (CwR.pet_replC (pe_ix (r := rIxL K) ix_list (pv 4) (pv 5) (fun _ _ => rfl))) (pg_sub (pv 4) (pv 5) set_list))))))))))
        (CwR.psst_one (PST.of (ps_ret (pe_join pe_str (pv 4))))))))))))), ?_⟩
    refine sq fun U hU => ?_
    walk_at "rd"
    have zl : (400000 : Nat) ≤ sizeLine := by rw [sizeLine_eq]; decide
    have lz := hb.l
    refine ⟨u, 9, rfl, hw, by decide, by decide, fun br H1 b1 w1 br0 br1 => ⟨by omega, u, _, rfl, w1, by omega, by omega, fun he H2 b2 w2 he0 he1 => hU _ _ ?_⟩⟩
    clear hU
    have bb := b1.trans b2
    have fin : ∀ (t : Str) (H' : Hp), But u H2 H' → WellAt H' u → Bt t (2 * n + 30) → Q (.str t) H' := fun t H' b w ht => k t H' (bb.trans b) w ht
    refine sq fun U hU => ?_
    walk_at "rd"
    by_cases c0 : br = 0
    · rw [if_pos c0]
      refine ⟨z, rfl, by omega, z, rfl, by omega, ?_⟩
      have q1 := hb.cut none (some he)
      have q2 := hb.cut (some (he + 1)) none
      have l1 := q1.l
      have l2 := q2.l
      exact ⟨_, rfl, _, rfl, by omega, fin _ _ But.refl w2 ((q1.app q2).mono (by omega))⟩
    rw [if_neg c0]
    refine hU _ _ ?_
    clear hU
    refine sq fun U hU => ?_
    walk_at "rd"
    by_cases c1 : br = 1
    · rw [if_pos c1]
      refine ⟨z, rfl, by omega, pickSign w2 (by decide +kernel) (by decide) fun t H3 b3 w3 ht => ⟨_, rfl, t, rfl, ?_, z, rfl, by omega, ?_⟩⟩
      · have l1 := (hb.cut none (some he)).l
        have l2 := ht.l
        omega
      · have q1 := (hb.cut none (some he)).app ht
        have q2 := hb.cut (some he) none
        have l1 := q1.l
        have l2 := q2.l
        refine ⟨_, rfl, by omega, fin _ _ b3 w3 ((q1.app q2).mono (by omega))⟩
    rw [if_neg c1]
    refine hU _ _ ?_
    clear hU
    refine sq fun U hU => ?_
    walk_at "rd"
    by_cases c2 : br = 2
    · rw [if_pos c2]
      refine ⟨z, rfl, by omega, pickSign w2 (by decide +kernel) (by decide) fun t H3 b3 w3 ht => ⟨_, rfl, t, rfl, ?_, z, rfl, by omega, ?_⟩⟩
      · have l1 := (hb.cut none (some he)).l
        have l2 := ht.l
        omega
      · have q1 := (hb.cut none (some he)).app ht
        have q2 := hb.cut (some (he + 1)) none
        have l1 := q1.l
        have l2 := q2.l
        refine ⟨_, rfl, by omega, fin _ _ b3 w3 ((q1.app q2).mono (by omega))⟩
    rw [if_neg c2]
    refine hU _ _ ?_
    clear hU
    refine sq fun U hU => ?_
    walk_at "rd"
    by_cases c3 : br = 3
    · rw [if_pos c3]
      refine ⟨by decide, fun p hp => ?_⟩
      have s3 := same_new (o := .tup [.str "; ", .str ";", .str " ", .str "; none", .str "; x = y", .str " }", .str " else { none }", .str " and x = y", .str " or y != END"]) hp
      refine pickStrs (m := 20) (ss := ["; ", ";", " ", "; none", "; x = y", " }", " else { none }", " and x = y", " or y != END"]) (w2.but s3) upd_same (bt_all (by decide +kernel)) (by decide) (by decide) fun t H3 b3 w3 ht => ⟨t, rfl, ?_, ?_⟩
      · have l2 := ht.l
        omega
      · exact fin _ _ ((But.same s3).trans b3) w3 ((hb.app ht).mono (by omega))
    rw [if_neg c3]
    refine hU _ _ ?_
    clear hU
    refine sq fun U hU => ?_
    walk_at "rd"
    refine ⟨rfl, by decide, by omega, fun p hp => hU _ _ ?_⟩
    clear hU
    refine sq fun U hU => ?_
    walk_at "rd"
    obtain ⟨ne, jle, sub⟩ := split_k z 32 (by decide)
    have e32 : (⟨#[32]⟩ : Str) = " " := by decide +kernel
    rw [e32] at ne jle sub
    have s3 : Same H2 (upd H2 p (.lst ((Txt.split z " ").map V.str))) := same_new hp
    have pu : p ≠ u := w2.ne hp
    have e3 : (upd H2 p (HO.lst ((Txt.split z " ").map V.str))) p = some (.lst ((Txt.split z " ").map V.str)) := upd_same
    have w3 := w2.but s3
    have hch : ∀ w ∈ Txt.split z " ", ∀ c ∈ tl w, c < 0x110000 := fun w hw c hc => hb.c c (sub w hw c hc)
    generalize Txt.split z " " = ws at *
    generalize upd H2 p (HO.lst (ws.map V.str)) = H3 at s3 e3 w3 ⊢
    have lw : 1 ≤ ws.length := List.length_pos_iff.mpr ne
    have jlw : (ws.map (·.length)).sum + ws.length ≤ n + 1 := by unfold jl at jle; omega
    have wle : ∀ w ∈ ws, w.length ≤ n := fun w hw => by
      have := mem_sum_le (fun x : Str => x.length) ws w hw
      omega
    refine ⟨_, .inl (SqL.of e3), ?_⟩
    rw [List.length_map]
    refine ⟨u, _, rfl, w3, by omega, by omega, fun sp H4 b4 w4 sp0 sp1 => ⟨by decide, fun p1 hp1 => hU _ _ ?_⟩⟩
    clear hU
    have e4 := b4 _ _ pu e3
    have s5 : Same H4 (upd H4 p1 (.tup [.str "x", .str "=", .str "next", .str "new", .str "END", .str "none", .str "{", .str "}", .str "else", .str "and", .str "or", .str "", .str ";", .str "!="])) := same_new hp1
    have m5 : (upd H4 p1 (HO.tup [.str "x", .str "=", .str "next", .str "new", .str "END", .str "none", .str "{", .str "}", .str "else", .str "and", .str "or", .str "", .str ";", .str "!="])) p1 = some (.tup [.str "x", .str "=", .str "next", .str "new", .str "END", .str "none", .str "{", .str "}", .str "else", .str "and", .str "or", .str "", .str ";", .str "!="]) := upd_same
    have b5 : But u H2 (upd H4 p1 (HO.tup [.str "x", .str "=", .str "next", .str "new", .str "END", .str "none", .str "{", .str "}", .str "else", .str "and", .str "or", .str "", .str ";", .str "!="])) := (But.same s3).trans (b4.trans (But.same s5))
    have e5 := s5 _ _ e4
    have w5 := w4.but s5
    generalize (upd H4 p1 (HO.tup [V.str (Str.ofString "x"), V.str (Str.ofString "="), V.str (Str.ofString "next"), V.str (Str.ofString "new"), V.str (Str.ofString "END"), V.str (Str.ofString "none"), V.str (Str.ofString "{"), V.str (Str.ofString "}"), V.str (Str.ofString "else"), V.str (Str.ofString "and"), V.str (Str.ofString "or"), V.str (Str.ofString ""), V.str (Str.ofString ";"), V.str (Str.ofString "!=")])) = H5 at m5 b5 e5 w5 ⊢
    clear s3 w3 e3 b4 w4 e4 s5 hp1
    refine sq fun U hU => ?_
    have goJ : ∀ (H' : Hp) (ws' : List Str), But u H2 H' → WellAt H' u → H' p = some (.lst (ws'.map V.str)) → (∀ w ∈ ws', ∀ c ∈ tl w, c < 0x110000) → jl ws' ≤ 2 * n + 30 → U [some (.ref u), some (.str z), some (.int br), some (.int he), some (.ref p), some (.int sp), some (.ref p1)] H' := fun H' ws' b' w' e' hc hj => by
      refine hU _ _ ?_
      clear hU
      walk_at "rd"
      have e1 : (" " : Str).length = 1 := by decide
      unfold jl at hj
      refine ⟨⟨_, rfl⟩, ws', .inl (SqL.of e'), ?_, ?_⟩
      · show _ + ws'.length * (" " : Str).length ≤ _
        rw [e1, Nat.mul_one]
        have : (ws'.map (fun x => x.length)).sum + ws'.length ≤ 2 * n + 30 := hj
        omega
      · refine fin _ H' b' w' ⟨?_, fun c hc' => ?_⟩
        · rw [TL.join_eq]
          have := StrLaws.join_length_le " " ws'
          rw [e1, Nat.mul_one] at this
          omega
        · rw [TL.join_eq] at hc'
          rcases join_mem hc' with q | ⟨w, hw', q⟩
          · rw [show tl (" " : Str) = [32] by decide +kernel, List.mem_singleton] at q
            rw [q]; decide
          · exact hc w hw' c q
    have spl' : sp.toNat < ws.length := by omega
    obtain ⟨wd, hwd⟩ : ∃ wd, ws[sp.toNat]? = some wd := ⟨_, List.getElem?_eq_getElem spl'⟩
    have wdm := List.mem_of_getElem? hwd
    have hwdV : (ws.map V.str)[sp.toNat]? = some (V.str wd) := by rw [List.getElem?_map, hwd]; rfl
    have ixs : ixN (ws.map V.str).length sp = some sp.toNat := ixn sp0 (by rw [List.length_map]; exact spl')
    have jle' : jl ws ≤ n + 1 := by omega
    have setc : ∀ t : Str, (∀ c ∈ tl t, c < 0x110000) → ∀ w ∈ ws.set sp.toNat t, ∀ c ∈ tl w, c < 0x110000 := fun t ht w hw c hc => by
      rcases List.mem_or_eq_of_mem_set hw with q | q
      · exact hch w q c hc
      · rw [q] at hc; exact ht c hc
    refine iq fun T1 U1 hT1 hU1 => ?_
    walk_at "rd"
    by_cases c4 : br = 4
    · rw [if_pos c4]
      refine hT1 _ ?_
      walk_at "rd"
      refine ⟨.inl ⟨rfl, _, SqL.of e5⟩, p, _, sp, sp.toNat, _, rfl, rfl, e5, by omega, by omega, (ixN_seq ixs).1, hwdV, ?_⟩
      refine goJ _ (ws.eraseIdx sp.toNat) (but_new b5 hp) (w5.put pu) (by rw [upd_same, erase_map]) (fun w hw => hch w ((List.eraseIdx_sublist ws sp.toNat).subset hw)) ?_
      have := jl_erase ws sp.toNat
      omega
    rw [if_neg c4]
    refine hU1 _ ?_
    clear hT1 hU1
    refine iq fun T1 U1 hT1 hU1 => ?_
    walk_at "rd"
    by_cases c5 : br = 5
    · rw [if_pos c5]
      refine hT1 _ ?_
      walk_at "rd"
      refine ⟨.inl ⟨rfl, _, SqL.of e5⟩, pickStrs (m := 5) (ss := ["x", "=", "next", "new", "END", "none", "{", "}", "else", "and", "or", "", ";", "!="]) w5 m5 (bt_all (by decide +kernel)) (by decide) (by decide) fun t H6 b6 w6 ht => ⟨_, b6 _ _ pu e5, by rw [List.length_map]; omega, sp0, by omega, ?_⟩⟩
      refine goJ _ (ws.take sp.toNat ++ [t] ++ ws.drop sp.toNat) (but_new (b5.trans b6) hp) (w6.put pu) ?_ (fun w hw => ?_) ?_
      · rw [upd_same, List.map_append, List.map_append, List.map_take, List.map_drop]
        rfl
      · rcases List.mem_append.mp hw with hw | hw
        · rcases List.mem_append.mp hw with hw | hw
          · exact hch w (List.mem_of_mem_take hw)
          · rw [List.mem_singleton.mp hw]; exact ht.c
        · exact hch w (List.mem_of_mem_drop hw)
      · have h1 : jl (ws.take sp.toNat) + jl (ws.drop sp.toNat) = jl ws := by rw [← jl_app, List.take_append_drop]
        have h2 : jl [t] = t.length + 1 := by rw [jl_cons]; rfl
        have := ht.l
        rw [jl_app, jl_app]
        omega
    rw [if_neg c5]
    refine hU1 _ ?_
    clear hT1 hU1
    refine iq fun T1 U1 hT1 hU1 => ?_
    walk_at "rd"
    by_cases c6 : br = 6
    · rw [if_pos c6]
      refine hT1 _ ?_
      walk_at "rd"
      refine ⟨_, .inl (SqL.of e5), ?_⟩
      rw [List.length_map]
      refine ⟨u, _, rfl, w5, by omega, by omega, fun i H6 b6 w6 i0 i1 => ?_⟩
      have hi : i.toNat < ws.length := by omega
      have e6 := b6 _ _ pu e5
      have hiV : (ws.map V.str)[i.toNat]? = some (V.str (ws[i.toNat]'hi)) := by rw [List.getElem?_map, List.getElem?_eq_getElem hi]; rfl
      have him : ws[i.toNat]'hi ∈ ws := List.getElem_mem hi
      refine ⟨_, i, rfl, SqL.of e6, _, atI_nn i0 hiV, by decide, fun p2 hp2 => ?_⟩
      have s7 : Same H6 (upd H6 p2 (.tup [.str "drop", .str "if", .str "while", .str (ws[i.toNat]'hi)])) := same_new hp2
      refine catD (s7 _ _ (b6 _ _ (tup_ne w5 m5) m5)) upd_same (Nat.le_trans (show 18 ≤ 18 by decide) (by omega)) fun pz Hz sz ez => ?_
      have ss := s7.trans sz
      refine pickStrs (m := n + 5) (ss := ["x", "=", "next", "new", "END", "none", "{", "}", "else", "and", "or", "", ";", "!=", "drop", "if", "while", ws[i.toNat]'hi]) (w6.but ss) ez (fun s hs => ?_) (by simp) (by simp) fun t H8 b8 w8 ht => ?_
      · have : s ∈ (["x", "=", "next", "new", "END", "none", "{", "}", "else", "and", "or", "", ";", "!=", "drop", "if", "while"] : List Str) ++ [ws[i.toNat]'hi] := hs
        rcases List.mem_append.mp this with q | q
        · exact ((bt_all (m := 5) (ss := ["x", "=", "next", "new", "END", "none", "{", "}", "else", "and", "or", "", ";", "!=", "drop", "if", "while"]) (by decide +kernel)) s q).mono (by omega)
        · rw [List.mem_singleton.mp q]
          exact ⟨Nat.le_trans (wle _ him) (by omega), hch _ him⟩
      · have b28 : But u H2 H8 := b5.trans (b6.trans ((But.same ss).trans b8))
        refine ⟨_, b8 _ _ pu (ss _ _ e6), _, ixs, ?_⟩
        refine goJ _ (ws.set sp.toNat t) (but_new b28 hp) (w8.put pu) (by rw [upd_same, List.map_set]) (setc t ht.c) ?_
        have := jl_set t ws sp.toNat
        have := ht.l
        omega
    rw [if_neg c6]
    refine hU1 _ ?_
    clear hT1 hU1
    refine iq fun T1 U1 hT1 hU1 => ?_
    have wl := wle wd wdm
    have bwd : Bt wd n := ⟨wl, hch wd wdm⟩
    walk_at "rd"
    by_cases c7 : br = 7
    · rw [if_pos c7]
      refine hT1 _ ?_
      walk_at "rd"
      have bt := bwd.app (show Bt ";" 1 from Bt.of (by decide +kernel))
      have l1 := bt.l
      refine ⟨_, SqL.of e5, _, atI_nn sp0 hwdV, wd, rfl, ?_, _, e5, _, ixs, ?_⟩
      · rw [Str.length_append] at l1
        omega
      · refine goJ _ (ws.set sp.toNat (wd ++ ";")) (but_new b5 hp) (w5.put pu) (by rw [upd_same, List.map_set]) (setc _ bt.c) ?_
        have := jl_set (wd ++ ";") ws sp.toNat
        omega
    rw [if_neg c7]
    refine hU1 _ ?_
    clear hT1 hU1
    walk_at "rd"
    have bt := bwd.repl
    have l1 := bt.l
    refine ⟨_, SqL.of e5, _, atI_nn sp0 hwdV, wd, rfl, ?_, _, e5, _, ixs, ?_⟩
    · show wd.length + (wd.length + 1) * (Str.ofString "").length ≤ 16777216
      rw [show (Str.ofString "").length = 0 by decide, Nat.mul_zero]
      omega
    · refine goJ _ (ws.set sp.toNat (Txt.replace wd ";" "")) (but_new b5 hp) (w5.put pu) (by rw [upd_same, List.map_set]) (setc _ bt.c) ?_
      have := jl_set (Txt.replace wd ";" "") ws sp.toNat
      omega
theorem dq_mem {H : Hp} {xs : List V} {ds : List PyData} (hD : DqAll K H xs ds) {y : V} (hy : y ∈ xs) : ∃ d, d ∈ ds ∧ Dq K H y d := by
  obtain ⟨i, hi⟩ := List.mem_iff_getElem?.mp hy
  obtain ⟨d, h1, h2⟩ := hD.atV hi
  exact ⟨d, List.mem_of_getElem? h1, h2⟩
def bdB (n m : Nat) (ds : List PyData) : Bool := ds.all fun d => decide (d.depth ≤ n) && (decide (wt d ≤ m) && (progOfD d).isNone)
/-- one of a menu of data -/
theorem pickD {H : Hp} {u p : Addr} {xs : List V} {ds : List PyData} {n m : Nat} {Q : VK} {E : XK} (hw : WellAt H u) (e : H p = some (.tup xs)) (hD : DqAll K H xs ds) (hb : bdB n m ds = true) (l1 : 1 ≤ xs.length) (l2 : xs.length ≤ 1000)
    (k : ∀ (y : V) (d : PyData) (H' : Hp), But u H H' → WellAt H' u → Dq K H' y d → d.depth ≤ n → wt d ≤ m → progOfD d = none → Q y H') : spPick [.ref u, .ref p] H Q E := by
  have pu : p ≠ u := fun z => by
    obtain ⟨a, b, c, q⟩ := hw
    rw [z, q] at e
    cases e
  refine ⟨u, .ref p, xs, rfl, hw, (fun q => pu (by cases q; rfl)), .tup e, l1, l2, fun y H' b w' hy => ?_⟩
  obtain ⟨d, hd, h⟩ := dq_mem hD hy
  have := List.all_eq_true.mp hb d hd
  obtain ⟨h1, h2⟩ := Bool.and_eq_true_iff.mp this
  obtain ⟨h2, h3⟩ := Bool.and_eq_true_iff.mp h2
  exact k y d H' b w' (dq_but b hw h) (of_decide_eq_true h1) (of_decide_eq_true h2) (Option.isNone_iff_eq_none.mp h3)
def spOdd (K : PySem.W.Frag) : Sp := fun vs H Q _ => ∃ (u : Addr), vs = [.ref u] ∧ WellAt H u ∧ ∀ (x : V) (d : PyData) (H' : Hp), But u H H' → WellAt H' u → Dq K H' x d → d.depth ≤ 3 → wt d ≤ 700 → progOfD d = none → Q x H'
theorem sc_odd : FnScope ["_law_well_here"] ["_law_well_here"] (defScope (top 56)) := ⟨rfl, rfl, rfl, by decide +kernel, rfl, by decide +kernel, by decide +kernel⟩
theorem ok_odd {f : Addr} {fd : FuncData} (T : Tx mg) (F : FD K "_law_odd" (top 56) f fd) {f2 : Addr} {fd2 : FuncData} (C2 : Cal P w K mg base CX0 2 "_law_pick" ["_law_well_here", "_law_some"] spPick f2 fd2) : FnOk P w K mg base CX0 3 f fd ["_law_well_here"] (spOdd K) := by
  obtain ⟨g_law_pick, k_law_pick, b_law_pick, F_law_pick⟩ := C2
  refine F.ok sc_odd (fun vs H Q E h => ?_) (fun cdv A outer s H vs Q E hr h => ?_)
  · obtain ⟨_, rfl, _⟩ := h
    rfl
  · obtain ⟨u, rfl, hw, k⟩ := h
    have nd := sc_odd.nd
    refine ⟨_, (pss_one (ps_ret (pe_call F_law_pick (hr.mono (by omega)) rfl g_law_pick k_law_pick b_law_pick .nil pass0 (pa_cons (pv 0) (pa_cons (pe_tup (pa_cons pe_non (pa_cons pe_bl (pa_cons pe_bl (pa_cons pe_int (pa_cons pe_int (pa_cons pe_str (pa_cons pe_str (pa_cons pe_str (pa_cons (pe_tup pa_nil) (pa_cons (pe_tup (pa_cons pe_str pa_nil)) (pa_cons (pe_tup (pa_cons pe_str (pa_cons pe_str (pa_cons pe_non pa_nil)))) (pa_cons (pe_lst pa_nil) (pa_cons (pe_lst (pa_cons pe_str pa_nil)) (pa_cons pe_dnewK (pa_cons (pe_tup (pa_cons (pe_tup pa_nil) pa_nil)) (pa_cons (pe_un un_neg pe_int) pa_nil))))))))))))))))) pa_nil))))), ?_⟩
    walk_at "rd"
    refine ⟨by decide, fun p1 h1 => ?_⟩
    have s1 := fun o : HO => same_new (o := o) h1
    refine ⟨by decide, fun p2 h2 => ?_⟩
    have s2 := fun o : HO => same_new (o := o) h2
    refine ⟨by decide, fun p3 h3 => ?_⟩
    have s3 := fun o : HO => same_new (o := o) h3
    refine ⟨by decide, fun p4 h4 => ?_⟩
    have s4 := fun o : HO => same_new (o := o) h4
    refine ⟨by decide, fun p5 h5 => ?_⟩
    have s5 := fun o : HO => same_new (o := o) h5
    refine fun p6 h6 => ?_
    have s6 := fun o : HO => same_new (o := o) h6
    refine ⟨by decide, fun p7 h7 => ?_⟩
    have s7 := fun o : HO => same_new (o := o) h7
    refine ⟨by decide, fun p8 h8 => ?_⟩
    have s8 := fun o : HO => same_new (o := o) h8
    refine ⟨by decide, fun p9 h9 => ?_⟩
    have s9 := fun o : HO => same_new (o := o) h9
    refine pickD (K := K) (n := 3) (m := 700) (ds := [.none, .bool true, .bool false, .int (0), .int (3), .str "", .str "X", .str "xy", .tuple [], .tuple [.str "copy"], .tuple [.str "copy", .str "x", .none], .list [], .list [.str "x = y"], .dict [], .tuple [.tuple []], .int (-1)]) (hw.but (Same.trans (Same.trans (Same.trans (Same.trans (Same.trans (Same.trans (Same.trans (Same.trans (s1 _) (s2 _)) (s3 _)) (s4 _)) (s5 _)) (s6 _)) (s7 _)) (s8 _)) (s9 _))) upd_same
      (.cons .non
      (.cons (.bl _)
      (.cons (.bl _)
      (.cons (.int _ (by decide))
      (.cons (.int _ (by decide))
      (.cons (.str _ (by decide +kernel))
      (.cons (.str _ (by decide +kernel))
      (.cons (.str _ (by decide +kernel))
      (.cons (.tup (s9 _ _ _ (s8 _ _ _ (s7 _ _ _ (s6 _ _ _ (s5 _ _ _ (s4 _ _ _ (s3 _ _ _ (s2 _ _ _ upd_same)))))))) .nil)
      (.cons (.tup (s9 _ _ _ (s8 _ _ _ (s7 _ _ _ (s6 _ _ _ (s5 _ _ _ (s4 _ _ _ (s3 _ _ _ upd_same))))))) (.cons (.str _ (by decide +kernel)) .nil))
      (.cons (.tup (s9 _ _ _ (s8 _ _ _ (s7 _ _ _ (s6 _ _ _ (s5 _ _ _ (s4 _ _ _ upd_same)))))) (.cons (.str _ (by decide +kernel)) (.cons (.str _ (by decide +kernel)) (.cons .non .nil))))
      (.cons (.lst (s9 _ _ _ (s8 _ _ _ (s7 _ _ _ (s6 _ _ _ (s5 _ _ _ upd_same))))) (by decide) .nil)
      (.cons (.lst (s9 _ _ _ (s8 _ _ _ (s7 _ _ _ (s6 _ _ _ upd_same)))) (by decide) (.cons (.str _ (by decide +kernel)) .nil))
      (.cons (.dic (s9 _ _ _ (s8 _ _ _ (s7 _ _ _ upd_same))))
      (.cons (.tup (s9 _ _ _ upd_same) (.cons (.tup (s9 _ _ _ (s8 _ _ _ upd_same)) .nil) .nil))
      (.cons (.int _ (by decide))
      .nil)))))))))))))))) (by decide +kernel) (show 1 ≤ 16 by decide) (show 16 ≤ 1000 by decide) fun y d H' b w' hy h1 h2 h3 => ?_
    exact k y d H' (But.trans (But.same (Same.trans (Same.trans (Same.trans (Same.trans (Same.trans (Same.trans (Same.trans (Same.trans (s1 _) (s2 _)) (s3 _)) (s4 _)) (s5 _)) (s6 _)) (s7 _)) (s8 _)) (s9 _))) b) w' hy h1 h2 h3
end
end K38

set_option Elab.async false
set_option linter.all false
set_option maxRecDepth 100000
set_option maxHeartbeats 2000000
/-! what stands in a program, as plain functions -/
namespace K38
open PySem PySem.Spec PyProof.Rows L2 Rd Dt Dq TL
/-! ### letters -/
def sg (c : Nat) : Str := ⟨#[c]⟩
def abcL : List Str := abc.cps.toList.map sg
def letL (ws : List Str) : List Str := abcL.filter fun c => decide (c ∈ ws)
theorem sg_inj {a b : Nat} (h : sg a = sg b) : a = b := by
  unfold sg at h
  injection h with h
  simpa using h
theorem mem_abcL {s : Str} : s ∈ abcL ↔ isLetterS s = true := by
  constructor
  · intro h
    obtain ⟨c, hc, rfl⟩ := List.mem_map.mp h
    show decide (c ∈ abc.cps.toList) = true
    exact decide_eq_true hc
  · intro h
    unfold isLetterS at h
    split at h
    · rename_i c e
      refine List.mem_map.mpr ⟨c, of_decide_eq_true h, ?_⟩
      cases s with
      | mk cs =>
        cases cs with
        | mk l =>
          have e' : l = [c] := e
          rw [e']; rfl
    · cases h
theorem END_abcL : ("END" : Str) ∉ abcL := fun h => absurd (mem_abcL.mp h) (by decide +kernel)
theorem abc_lt : abc.cps.toList.Pairwise (· < ·) := by decide +kernel
theorem rising : ∀ (cs : List Nat) (p : Nat), risingS (sg p) (cs.map sg) = true → (p :: cs).Pairwise (· ≤ ·)
  | [], p, _ => List.pairwise_singleton _ _
  | c :: cs, p, h => by
    rw [List.map_cons, risingS, Bool.and_eq_true] at h
    have ih := rising cs c h.2
    have h1 : p ≤ c := by
      have h0 := h.1
      have e : ltCps (sg c).cps.toList (sg p).cps.toList = (decide (c < p) || ((c == p) && ltCps [] [])) := rfl
      rw [e] at h0
      have : ¬ c < p := fun z => by rw [decide_eq_true z] at h0; cases h0
      omega
    refine List.pairwise_cons.mpr ⟨fun x hx => ?_, ih⟩
    rcases List.mem_cons.mp hx with rfl | hx
    · exact h1
    · exact Nat.le_trans h1 ((List.pairwise_cons.mp ih).1 x hx)
theorem uniq : ∀ (xs ys : List Nat), xs.Pairwise (· < ·) → ys.Pairwise (· < ·) → (∀ x, x ∈ xs ↔ x ∈ ys) → xs = ys
  | [], [], _, _, _ => rfl
  | [], y :: ys, _, _, h => by have := (h y).mpr List.mem_cons_self; cases this
  | x :: xs, [], _, _, h => by have := (h x).mp List.mem_cons_self; cases this
  | x :: xs, y :: ys, p, q, h => by
    obtain ⟨p1, p2⟩ := List.pairwise_cons.mp p
    obtain ⟨q1, q2⟩ := List.pairwise_cons.mp q
    have e : x = y := by
      rcases List.mem_cons.mp ((h x).mp List.mem_cons_self) with z | z
      · exact z
      · rcases List.mem_cons.mp ((h y).mpr List.mem_cons_self) with w | w
        · exact w.symm
        · have := q1 x z
          have := p1 y w
          omega
    subst e
    rw [uniq xs ys p2 q2 fun z => ⟨fun hz => ?_, fun hz => ?_⟩]
    · rcases List.mem_cons.mp ((h z).mp (List.mem_cons_of_mem _ hz)) with w | w
      · have := p1 z hz; omega
      · exact w
    · rcases List.mem_cons.mp ((h z).mpr (List.mem_cons_of_mem _ hz)) with w | w
      · have := q1 z hz; omega
      · exact w
/-- the keys that stand for the letters among these words -/
structure KS (ks ws : List Str) : Prop where
  nd : ks.Nodup
  m : ∀ c, c ∈ ks ↔ c ∈ abcL ∧ c ∈ ws
theorem KS.nil : KS [] [] := ⟨List.nodup_nil, fun c => ⟨fun z => (nomatch z), fun z => nomatch z.2⟩⟩
theorem KS.congr {ks ws vs : List Str} (h : KS ks ws) (e : ∀ c ∈ abcL, c ∈ ws ↔ c ∈ vs) : KS ks vs :=
  ⟨h.nd, fun c => (h.m c).trans ⟨fun z => ⟨z.1, (e c z.1).mp z.2⟩, fun z => ⟨z.1, (e c z.1).mpr z.2⟩⟩⟩
theorem KS.add {ks ws : List Str} (h : KS ks ws) {c : Str} (hc : isLetterS c = true) : KS (if c ∈ ks then ks else ks ++ [c]) (ws ++ [c]) := by
  have hm := mem_abcL.mpr hc
  by_cases z : c ∈ ks
  · rw [if_pos z]
    refine ⟨h.nd, fun x => (h.m x).trans ⟨fun w => ⟨w.1, List.mem_append_left _ w.2⟩, fun w => ⟨w.1, ?_⟩⟩⟩
    rcases List.mem_append.mp w.2 with v | v
    · exact v
    · rw [List.mem_singleton.mp v]; exact ((h.m c).mp z).2
  · rw [if_neg z]
    refine ⟨List.nodup_append.mpr ⟨h.nd, by simp, fun a ha b hb => ?_⟩, fun x => ?_⟩
    · rw [List.mem_singleton.mp hb]
      intro e
      rw [e] at ha
      exact z ha
    · rw [List.mem_append, List.mem_append, List.mem_singleton, h.m x]
      constructor
      · rintro (w | w)
        · exact ⟨w.1, .inl w.2⟩
        · rw [w]; exact ⟨hm, .inr rfl⟩
      · rintro ⟨w, v | v⟩
        · exact .inl ⟨w, v⟩
        · exact .inr v
theorem KS.goal {ks ws : List Str} (h : KS ks ws) : KS ks (ws ++ [("END" : Str)]) := h.congr fun c hc => by
  rw [List.mem_append, List.mem_singleton]
  exact ⟨.inl, fun z => z.elim id fun e => absurd hc (by rw [e]; exact END_abcL)⟩
theorem nodup_map_sg : ∀ {cs : List Nat}, (cs.map sg).Nodup → cs.Nodup
  | [], _ => List.nodup_nil
  | c :: cs, h => by
    rw [List.map_cons, List.nodup_cons] at h
    exact List.nodup_cons.mpr ⟨fun z => h.1 (List.mem_map_of_mem z), nodup_map_sg h.2⟩
theorem lt_of_le_nd : ∀ {cs : List Nat}, cs.Pairwise (· ≤ ·) → cs.Nodup → cs.Pairwise (· < ·)
  | [], _, _ => .nil
  | c :: cs, h, g => by
    obtain ⟨h1, h2⟩ := List.pairwise_cons.mp h
    obtain ⟨g1, g2⟩ := List.nodup_cons.mp g
    refine List.pairwise_cons.mpr ⟨fun x hx => ?_, lt_of_le_nd h2 g2⟩
    have := h1 x hx
    have : c ≠ x := fun e => g1 (by rw [e]; exact hx)
    omega
theorem KS.sort {ks ws ys : List Str} (h : KS ks ws) (hp : ys.Perm ks) (hs : sortedS ys = true) : ys = letL ws := by
  have hsg : ∀ y ∈ ys, ∃ c, c ∈ abc.cps.toList ∧ sg c = y := fun y hy => List.mem_map.mp ((h.m y).mp (hp.mem_iff.mp hy)).1
  have ecs : ∀ l : List Str, (∀ y ∈ l, ∃ c, c ∈ abc.cps.toList ∧ sg c = y) → ∃ cs : List Nat, l = cs.map sg := fun l => by
    induction l with
    | nil => exact fun _ => ⟨[], rfl⟩
    | cons x r ih =>
      intro g
      obtain ⟨cs, e⟩ := ih fun y hy => g y (List.mem_cons_of_mem _ hy)
      obtain ⟨c, _, e2⟩ := g x List.mem_cons_self
      exact ⟨c :: cs, by rw [List.map_cons, e2, ← e]⟩
  obtain ⟨cs, rfl⟩ := ecs ys hsg
  have p1 : cs.Pairwise (· ≤ ·) := by
    cases cs with
    | nil => exact .nil
    | cons c cs => exact rising cs c hs
  have p2 : cs.Pairwise (· < ·) := lt_of_le_nd p1 (nodup_map_sg (hp.nodup_iff.mpr h.nd))
  have e3 : letL ws = (abc.cps.toList.filter fun c => decide (sg c ∈ ws)).map sg := by
    unfold letL abcL
    rw [List.filter_map]; rfl
  rw [e3]
  congr 1
  refine uniq _ _ p2 (abc_lt.filter _) fun x => ?_
  rw [List.mem_filter, decide_eq_true_eq]
  have hx : sg x ∈ cs.map sg ↔ x ∈ cs := ⟨fun z => by
    obtain ⟨c, h1, h2⟩ := List.mem_map.mp z
    rw [← sg_inj h2]; exact h1, List.mem_map_of_mem⟩
  rw [← hx, hp.mem_iff, h.m]
  have ha : sg x ∈ abcL ↔ x ∈ abc.cps.toList := ⟨fun z => by
    obtain ⟨c, h1, h2⟩ := List.mem_map.mp z
    rw [← sg_inj h2]; exact h1, fun z => List.mem_map_of_mem z⟩
  rw [ha]
theorem KS.len {ks ws : List Str} (h : KS ks ws) : ks.length ≤ 26 := by
  have e : abcL.length = 26 := by decide +kernel
  have key : ∀ (xs ys : List Str), xs.Nodup → (∀ x ∈ xs, x ∈ ys) → xs.length ≤ ys.length := fun xs => by
    induction xs with
    | nil => exact fun _ _ _ => Nat.zero_le _
    | cons x xs ih =>
      intro ys hn hs
      obtain ⟨h1, h2⟩ := List.nodup_cons.mp hn
      have hx := hs x List.mem_cons_self
      have := ih (ys.erase x) h2 fun y hy => (List.mem_erase_of_ne (fun z => h1 (by rw [← z]; exact hy))).mpr (hs y (List.mem_cons_of_mem _ hy))
      rw [List.length_erase_of_mem hx] at this
      have := List.length_pos_of_mem hx
      rw [List.length_cons]
      omega
  rw [← e]
  exact key _ _ h.nd fun c hc => ((h.m c).mp hc).1
theorem letL_congr {ws vs : List Str} (e : ∀ c ∈ abcL, c ∈ ws ↔ c ∈ vs) : letL ws = letL vs := by
  unfold letL
  refine List.filter_congr fun c hc => ?_
  rw [decide_eq_decide]
  exact e c hc
theorem mem_letL {ws : List Str} {c : Str} : c ∈ letL ws ↔ c ∈ abcL ∧ c ∈ ws := by
  unfold letL
  rw [List.mem_filter, decide_eq_true_eq]
theorem letL_len (ws : List Str) : (letL ws).length ≤ 26 := Nat.le_trans (List.length_filter_le _ _) (by decide +kernel)
theorem letL_letter {ws : List Str} {c : Str} (h : c ∈ letL ws) : isLetterS c = true := mem_abcL.mp (mem_letL.mp h).1
/-! ### of trees -/
def stOf : PyData → List Str
  | .str s => [s]
  | _ => []
def wordsOf : PyData → List Str
  | .tuple (_ :: r) => r.flatMap stOf
  | _ => []
def testL : PyData → List Str
  | .tuple [_, .tuple cs] => cs.flatMap wordsOf
  | _ => []
def treeL {α : Type} (f : PyData → List α) : PyData → List α
  | .tuple ds => ds.flatMap f
  | _ => []
def stL : Nat → PyData → List Str
  | 0, d => wordsOf d
  | n + 1, d => match d with
    | .tuple [.str k, t, a, b] => if k = "if" then testL t ++ (treeL (stL n) a ++ treeL (stL n) b) else wordsOf d
    | .tuple [.str k, t, a] => if k = "while" then testL t ++ treeL (stL n) a else wordsOf d
    | _ => wordsOf d
def stD : Nat → PyData → List PyData
  | 0, d => [d]
  | n + 1, d => match d with
    | .tuple [.str k, t, a, b] => if k = "if" then treeL (stD n) a ++ treeL (stD n) b else [d]
    | .tuple [.str k, t, a] => if k = "while" then treeL (stD n) a else [d]
    | _ => [d]
def treeN (f : PyData → Nat) : PyData → Nat
  | .tuple ds => ds.foldl (fun m d => max m (f d)) 0
  | _ => 0
def stN : Nat → PyData → Nat
  | 0, _ => 0
  | n + 1, d => match d with
    | .tuple [.str k, t, a, b] => if k = "if" then max (treeN (stN n) a) (treeN (stN n) b) else 0
    | .tuple [.str k, t, a] => if k = "while" then treeN (stN n) a + 1 else 0
    | _ => 0
theorem deed_flat {d : PyData} (h : isDeed d = true) (n : Nat) : stL n d = wordsOf d ∧ stD n d = [d] ∧ stN n d = 0 := by
  cases n with
  | zero => exact ⟨rfl, rfl, rfl⟩
  | succ n =>
    rcases deed_cases h with ⟨k, a, rfl, _, _⟩ | ⟨k, a, b, rfl, _, hk⟩
    · exact ⟨rfl, rfl, rfl⟩
    · have nw : k ≠ "while" := by
        rcases hk with ⟨rfl, _⟩ | ⟨rfl | rfl, _⟩ <;> decide
      exact ⟨if_neg nw, if_neg nw, if_neg nw⟩
theorem stL_if {n : Nat} {t a b : PyData} : stL (n + 1) (.tuple [.str "if", t, a, b]) = testL t ++ (treeL (stL n) a ++ treeL (stL n) b) := by rw [stL]; exact if_pos rfl
theorem stL_while {n : Nat} {t a : PyData} : stL (n + 1) (.tuple [.str "while", t, a]) = testL t ++ treeL (stL n) a := by rw [stL]; exact if_pos rfl
theorem stD_if {n : Nat} {t a b : PyData} : stD (n + 1) (.tuple [.str "if", t, a, b]) = treeL (stD n) a ++ treeL (stD n) b := by rw [stD]; exact if_pos rfl
theorem stD_while {n : Nat} {t a : PyData} : stD (n + 1) (.tuple [.str "while", t, a]) = treeL (stD n) a := by rw [stD]; exact if_pos rfl
theorem stN_if {n : Nat} {t a b : PyData} : stN (n + 1) (.tuple [.str "if", t, a, b]) = max (treeN (stN n) a) (treeN (stN n) b) := by rw [stN]; exact if_pos rfl
theorem stN_while {n : Nat} {t a : PyData} : stN (n + 1) (.tuple [.str "while", t, a]) = treeN (stN n) a + 1 := by rw [stN]; exact if_pos rfl
/-! ### a printed program is read again -/
theorem test_read {t : PyData} {r : List Str} (h : isTest t = true) (hr : ¬ jw (r.headD "")) : pTest (testW t ++ r) = some (t, r) := by
  obtain ⟨k, cs, rfl, hk, hl, hc⟩ := test_cases h
  cases cs with
  | nil => exact absurd hl.1 (by simp)
  | cons c cs =>
    refine tst_p ⟨k, c, cs, hk, fun e => ?_, rfl, by have := hl.2; simp only [List.length_cons] at this; omega, hc, by rw [testW_cons, List.append_assoc]⟩ hr
    subst e
    rcases hk with rfl | rfl
    · rfl
    · exact absurd h (by
        show ¬ ((decide (("or" : Str) = "and") || decide (("or" : Str) = "or")) && (decide (1 ≤ [c].length ∧ [c].length ≤ 3) && (!(decide ([c].length = 1) && decide (("or" : Str) = "or")) && [c].all isComp))) = true
        have e1 : decide ([c].length = 1) = true := decide_eq_true rfl
        have e2 : decide (("or" : Str) = "or") = true := decide_eq_true rfl
        rw [e1, e2]
        simp)
theorem l_ne {a b : Str} (h : isLetterS a = true) (hb : b.length ≠ 1) : a ≠ b := fun z => hb (by rw [← z]; exact letter_len h)
theorem deed_read {d : PyData} (h : isDeed d = true) (r : List Str) : refDeed (deedW d ++ r) = some (d, r) ∧ (deedW d ++ r).headD "" ≠ "if" ∧ (deedW d ++ r).headD "" ≠ "while" ∧ (deedW d ++ r).headD "" ≠ "none" ∧ deedW d ≠ [] := by
  rcases deed_cases h with ⟨k, a, rfl, ha, hk⟩ | ⟨k, a, b, rfl, ha, hk⟩
  · have n1 := l_ne (b := "drop") ha (by decide)
    have n2 := l_ne (b := "next") ha (by decide)
    have n3 := l_ne (b := "if") ha (by decide)
    have n4 := l_ne (b := "while") ha (by decide)
    have n5 := l_ne (b := "none") ha (by decide)
    rcases hk with rfl | rfl
    · have e : deedW (.tuple [.str "new", .str a]) = ([a, "=", "new"] : List Str) := by unfold deedW; exact if_pos rfl
      rw [e]
      refine ⟨?_, n3, n4, n5, by simp⟩
      show (if a = "drop" then _ else if a = "next" then _ else if isLetterS a = true ∧ ("=" : Str) = "=" then (if ("new" : Str) = "new" then _ else _) else _) = _
      rw [if_neg n1, if_neg n2, if_pos ⟨ha, rfl⟩, if_pos rfl]
      rfl
    · have e : deedW (.tuple [.str "drop", .str a]) = (["drop", a] : List Str) := by unfold deedW; exact if_neg (by decide)
      rw [e]
      refine ⟨?_, (by decide : ("drop" : Str) ≠ "if"), (by decide : ("drop" : Str) ≠ "while"), (by decide : ("drop" : Str) ≠ "none"), by simp⟩
      show (if ("drop" : Str) = "drop" then (if isLetterS a = true then _ else _) else _) = _
      rw [if_pos rfl, if_pos ha]
      rfl
  · have n1 := l_ne (b := "drop") ha (by decide)
    have n2 := l_ne (b := "next") ha (by decide)
    have n3 := l_ne (b := "if") ha (by decide)
    have n4 := l_ne (b := "while") ha (by decide)
    have n5 := l_ne (b := "none") ha (by decide)
    rcases hk with ⟨rfl, hb⟩ | ⟨rfl | rfl, hb⟩
    · have e : deedW (.tuple [.str "next", .str a, .str b]) = ([a, "=", "next", b] : List Str) := by unfold deedW; exact if_pos rfl
      rw [e]
      refine ⟨?_, n3, n4, n5, by simp⟩
      show (if a = "drop" then _ else if a = "next" then _ else if isLetterS a = true ∧ ("=" : Str) = "=" then (if ("next" : Str) = "new" then _ else if ("next" : Str) = "next" then (if isLetterS b = true then _ else _) else _) else _) = _
      rw [if_neg n1, if_neg n2, if_pos ⟨ha, rfl⟩, if_neg (by decide), if_pos rfl, if_pos hb]
      rfl
    · have e : deedW (.tuple [.str "copy", .str a, .str b]) = ([a, "=", b] : List Str) := by unfold deedW; exact (if_neg (by decide)).trans (if_neg (by decide))
      have hb1 : b ≠ "new" ∧ b ≠ "next" := by
        have e : (isLetterS b || decide (b = "END")) = true := hb
        rcases Bool.or_eq_true_iff.mp e with z | z
        · exact ⟨l_ne z (by decide), l_ne z (by decide)⟩
        · rw [of_decide_eq_true z]; exact ⟨by decide, by decide⟩
      rw [e]
      refine ⟨?_, n3, n4, n5, by simp⟩
      show (if a = "drop" then _ else if a = "next" then _ else if isLetterS a = true ∧ ("=" : Str) = "=" then (if b = "new" then _ else if b = "next" then _ else if isGoal (.str b) = true then _ else _) else _) = _
      rw [if_neg n1, if_neg n2, if_pos ⟨ha, rfl⟩, if_neg hb1.1, if_neg hb1.2, if_pos hb]
      rfl
    · have e : deedW (.tuple [.str "tie", .str a, .str b]) = (["next", a, "=", b] : List Str) := by unfold deedW; exact (if_neg (by decide)).trans (if_pos rfl)
      rw [e]
      refine ⟨?_, (by decide : ("next" : Str) ≠ "if"), (by decide : ("next" : Str) ≠ "while"), (by decide : ("next" : Str) ≠ "none"), by simp⟩
      show (if ("next" : Str) = "drop" then _ else if ("next" : Str) = "next" then (if isLetterS a = true ∧ ("=" : Str) = "=" ∧ isGoal (.str b) = true then _ else _) else _) = _
      rw [if_neg (by decide), if_pos rfl, if_pos ⟨ha, rfl, hb⟩]
      rfl
/-- what may stand behind a statement -/
def Aft (r : List Str) : Prop := r.headD "" = "" ∨ r.headD "" = ";" ∨ r.headD "" = "}"
def Reads1 (st : List Str → Res) (g : PyData → List Str) (d : PyData) : Prop := g d ≠ [] ∧ ∀ r, (g d ++ r).headD "" ≠ "none" ∧ (Aft r → st (g d ++ r) = some (d, r))
theorem rows_read {st : List Str → Res} {g : PyData → List Str} : ∀ (ds : List PyData) (acc : List PyData) (f : Nat) (r : List Str), (∀ d ∈ ds, Reads1 st g d) → ds ≠ [] → ds.length ≤ f → (r.headD "" = "" ∨ r.headD "" = "}") →
    rowsWith st f acc (joinW ";" (ds.map g) ++ r) = some (.tuple (acc ++ ds), r)
  | [], _, _, _, _, h, _, _ => absurd rfl h
  | [d], acc, f, r, h, _, hf, hr => by
    obtain ⟨f, rfl⟩ : ∃ f', f = f' + 1 := ⟨f - 1, by simp only [List.length_cons, List.length_nil] at hf; omega⟩
    have h1 := (h d List.mem_cons_self).2 r
    show rowsWith st (f + 1) acc (g d ++ r) = _
    rw [rowsWith, h1.2 (hr.elim .inl fun z => .inr (.inr z))]
    show (if r.headD "" = ";" then _ else _) = _
    rw [if_neg (by rcases hr with z | z <;> (rw [z]; decide))]
  | d :: e :: ds, acc, f, r, h, _, hf, hr => by
    obtain ⟨f, rfl⟩ : ∃ f', f = f' + 1 := ⟨f - 1, by simp only [List.length_cons] at hf; omega⟩
    have h1 := (h d List.mem_cons_self).2 (";" :: (joinW ";" ((e :: ds).map g) ++ r))
    have ej : joinW ";" ((d :: e :: ds).map g) ++ r = g d ++ ((";" : Str) :: (joinW ";" ((e :: ds).map g) ++ r)) := by
      show (g d ++ ((";" : Str) :: joinW ";" ((e :: ds).map g))) ++ r = _
      rw [List.append_assoc]; rfl
    rw [ej, rowsWith, h1.2 (.inr (.inl rfl))]
    show (if (";" : Str) = ";" then rowsWith st f (acc ++ [d]) (joinW ";" ((e :: ds).map g) ++ r) else _) = _
    rw [if_pos rfl, rows_read (e :: ds) (acc ++ [d]) f r (fun x hx => h x (List.mem_cons_of_mem _ hx)) (by simp) (by simp only [List.length_cons] at hf ⊢; omega) hr, List.append_assoc]
    rfl
theorem joinW_len {g : PyData → List Str} : ∀ (ds : List PyData), (∀ d ∈ ds, g d ≠ []) → ds.length ≤ (joinW ";" (ds.map g)).length
  | [], _ => Nat.le_refl _
  | [d], h => by
    have := List.length_pos_iff.mpr (h d List.mem_cons_self)
    exact this
  | d :: e :: ds, h => by
    have := joinW_len (e :: ds) fun x hx => h x (List.mem_cons_of_mem _ hx)
    show _ ≤ (g d ++ ((";" : Str) :: joinW ";" ((e :: ds).map g))).length
    rw [List.length_append, List.length_cons]
    simp only [List.length_cons] at this ⊢
    omega
theorem tree_read {st : List Str → Res} {g : PyData → List Str} {p : PyData → Bool} (ih : ∀ d, p d = true → Reads1 st g d) {d : PyData} (h : treeOf p d = true) {r : List Str} (hr : r.headD "" = "" ∨ r.headD "" = "}") : refRows st (treeW g d ++ r) = some (d, r) := by
  cases d with
  | tuple ds =>
    have hp : ∀ d ∈ ds, Reads1 st g d := fun x hx => ih x (List.all_eq_true.mp h x hx)
    cases ds with
    | nil => rfl
    | cons d ds =>
      have e : treeW g (.tuple (d :: ds)) = joinW ";" ((d :: ds).map g) := by unfold treeW; exact if_neg (by simp)
      have hd : (joinW ";" ((d :: ds).map g) ++ r).headD "" ≠ "none" := by
        cases ds with
        | nil => exact ((hp d List.mem_cons_self).2 r).1
        | cons x xs =>
          have ej : joinW ";" ((d :: x :: xs).map g) ++ r = g d ++ ((";" : Str) :: (joinW ";" ((x :: xs).map g) ++ r)) := by
            show (g d ++ ((";" : Str) :: joinW ";" ((x :: xs).map g))) ++ r = _
            rw [List.append_assoc]; rfl
          rw [ej]
          exact ((hp d List.mem_cons_self).2 _).1
      rw [e]
      unfold refRows
      rw [if_neg hd]
      have hl := joinW_len (g := g) (d :: ds) fun x hx => (hp x hx).1
      refine rows_read (d :: ds) [] _ r hp (by simp) ?_ hr
      rw [List.length_append]
      omega
  | _ => cases h
theorem block_read {rows : List Str → Res} {ws : List Str} {a : PyData} {r : List Str} (h : rows (ws ++ ("}" : Str) :: r) = some (a, ("}" : Str) :: r)) : refBlock rows (("{" : Str) :: (ws ++ ("}" : Str) :: r)) = some (a, r) := by
  unfold refBlock
  rw [if_pos (show ((("{" : Str) :: (ws ++ ("}" : Str) :: r)).headD "") = "{" from rfl)]
  show (match rows (ws ++ ("}" : Str) :: r) with
    | none => none
    | some (d, r) => if r.headD "" = "}" then some (d, r.tail) else none) = _
  rw [h]
  exact if_pos rfl
theorem st_read : ∀ (n : Nat) (d : PyData), isSt n d = true → Reads1 (refSt n) (stW false n) d
  | 0, d, h => by
    have hd := deed_read (d := d) h
    refine ⟨(hd []).2.2.2.2, fun r => ⟨(hd r).2.2.2.1, fun _ => ?_⟩⟩
    show refSt 0 (deedW d ++ r) = _
    rw [refSt, if_neg (fun z => z.elim (hd r).2.1 (hd r).2.2.1)]
    exact (hd r).1
  | n + 1, d, h => by
    have nj : ∀ r : List Str, ¬ jw ((("{" : Str) :: r).headD "") := fun r z => by
      rcases z with z | z
      · exact absurd z (show ¬ ("{" : Str) = "and" by decide)
      · exact absurd z (show ¬ ("{" : Str) = "or" by decide)
    rcases st_cases h with z | ⟨t, a, b, rfl, ht, ha, hb⟩ | ⟨t, a, rfl, ht, ha⟩
    · have hd := deed_read z
      have e := (deed_st z false (n + 1)).1
      unfold Reads1
      rw [e]
      refine ⟨(hd []).2.2.2.2, fun r => ⟨(hd r).2.2.2.1, fun _ => ?_⟩⟩
      rw [refSt_eq, if_neg (hd r).2.1, if_neg (hd r).2.2.1]
      exact (hd r).1
    · refine ⟨by rw [stW_if]; simp, fun r => ⟨by rw [stW_if]; exact (by decide : ("if" : Str) ≠ "none"), fun hr => ?_⟩⟩
      have e : stW false (n + 1) (.tuple [.str "if", t, a, b]) ++ r = ("if" : Str) :: (testW t ++ (("{" : Str) :: (treeW (stW false n) a ++ (("}" : Str) :: (elseW false (stW false n) b ++ r))))) := by
        rw [stW_if]
        simp only [List.cons_append, List.append_assoc]
      rw [e, refSt_eq, List.headD_cons, List.tail_cons, if_pos rfl]
      show refIf (refBlk (n + 1)) _ = _
      unfold refIf
      show (match pTest (testW t ++ (("{" : Str) :: (treeW (stW false n) a ++ (("}" : Str) :: (elseW false (stW false n) b ++ r))))) with
        | none => none
        | some (q, r) => match refBlk (n + 1) r with
          | none => none
          | some (a, r2) => if r2.headD "" = "else" then (match refBlk (n + 1) r2.tail with
            | none => none
            | some (b, r3) => some (PyData.tuple [.str "if", q, a, b], r3)) else some (PyData.tuple [.str "if", q, a, .tuple []], r2)) = _
      rw [test_read ht (nj _)]
      dsimp only
      rw [show refBlk (n + 1) = refBlock (refRows (refSt n)) from rfl, block_read (tree_read (st_read n) ha (.inr rfl))]
      dsimp only
      by_cases hz : noRows b = true
      · have el : elseW false (stW false n) b = [] := by unfold elseW; exact if_pos (by rw [hz]; rfl)
        rw [el, List.nil_append, if_neg (by rcases hr with z | z | z <;> (rw [z]; decide))]
        cases b with
        | tuple bs =>
          cases bs with
          | nil => rfl
          | cons _ _ => cases hz
        | _ => cases hb
      · have el : elseW false (stW false n) b = ("else" : Str) :: ("{" : Str) :: (treeW (stW false n) b ++ [("}" : Str)]) := by unfold elseW; exact if_neg (by rw [Bool.not_false, Bool.true_and]; exact hz)
        have e2 : (("else" : Str) :: ("{" : Str) :: (treeW (stW false n) b ++ [("}" : Str)])) ++ r = ("else" : Str) :: ("{" : Str) :: (treeW (stW false n) b ++ (("}" : Str) :: r)) := by simp
        rw [el]
        rw [e2, List.headD_cons, List.tail_cons, if_pos rfl]
        show (match refBlock (refRows (refSt n)) (("{" : Str) :: (treeW (stW false n) b ++ (("}" : Str) :: r))) with
            | none => none
            | some (b, r3) => some (PyData.tuple [.str "if", t, a, b], r3)) = _
        rw [block_read (tree_read (st_read n) hb (.inr rfl))]
    · refine ⟨by rw [stW_while]; simp, fun r => ⟨by rw [stW_while]; exact (by decide : ("while" : Str) ≠ "none"), fun hr => ?_⟩⟩
      have e : stW false (n + 1) (.tuple [.str "while", t, a]) ++ r = ("while" : Str) :: (testW t ++ (("{" : Str) :: (treeW (stW false n) a ++ (("}" : Str) :: r)))) := by
        rw [stW_while]
        simp only [List.cons_append, List.append_assoc, List.nil_append]
      rw [e, refSt_eq, List.headD_cons, List.tail_cons, if_neg (by decide), if_pos rfl]
      show refWhile (refBlk (n + 1)) _ = _
      unfold refWhile
      show (match pTest (testW t ++ (("{" : Str) :: (treeW (stW false n) a ++ (("}" : Str) :: r)))) with
        | none => none
        | some (q, r) => match refBlk (n + 1) r with
          | none => none
          | some (a, r2) => some (PyData.tuple [.str "while", q, a], r2)) = _
      rw [test_read ht (nj _)]
      dsimp only
      rw [show refBlk (n + 1) = refBlock (refRows (refSt n)) from rfl, block_read (tree_read (st_read n) ha (.inr rfl))]
end K38

set_option Elab.async false
set_option linter.all false
set_option maxRecDepth 100000
set_option maxHeartbeats 4000000
namespace K38
open PySem PySem.Spec PyProof.Rows L2 Rd Dt Dq Pk TL
local macro_rules | `(tactic| walk_at "rd") => `(tactic| try simp only [↓Ls.tLc_str, ↓Ls.sDPut_, ↓Rl.rReprL_, ↓Rl.tCallKS_, ↓tFld_, ↓sFld_, ↓tVar_, ↓tC_, ↓tM1, ↓tDNewK_, ↓tOp_, ↓tUn_, ↓rI_, ↓rI0_, ↓rU_, ↓eq_ii, ↓ne_ii, ↓eq_ss, ↓ne_ss, ↓eq_bb, ↓ne_bb, ↓tAndV_, ↓tOrV_, ↓tNotV_, ↓tIf_, ↓tTest_, ↓tB_, ↓tAnd_, ↓tOr_, ↓tNot_, ↓tChain_, ↓tNil_, ↓tCons_, ↓tTup_, ↓tLst_, ↓tCB_, ↓tCall_, ↓tSeq_, ↓tNext_, ↓tRet_, ↓tRetN_, ↓tDrop_, ↓tBreak_, ↓tNever_, ↓tIfS_, ↓tAsg_, ↓gName_, ↓gTup_, ↓gCons_, ↓gNil_, ↓gSub_, ↓tPar_, ↓tPar3_, ↓tSl_, ↓tNoPart_, ↓tPart_, ↓tBM_, ↓tFor_range1, ↓tFor_range2, ↓tFor_list, ↓tFor_tup, L2.start, List.headD_cons, List.headD_nil, List.tail_cons, List.map_cons, List.map_nil, List.length_cons, List.length_nil, List.replicate, List.append_nil, List.nil_append, List.cons_append, List.getElem?_cons_zero, List.getElem?_cons_succ, List.set_cons_zero, List.set_cons_succ, Option.some.injEq, V.int.injEq, V.bl.injEq, V.str.injEq, V.ref.injEq, exists_eq_left, exists_eq_left', exists_eq_right, exists_eq, exists_and_left, and_true, true_and, decide_eq_true_eq, Nat.reduceAdd, Nat.reduceSub, Nat.add_zero, Nat.zero_add, List.cons.injEq, Bool.not_eq_true', decide_eq_false_iff_not, eq_self, reduceCtorEq, Bool.false_eq_true, if_true, if_false, ite_true, ite_false, and_self, ↓tLc_range1, ↓tLc_range2, ↓tLc_list, ↓tLc_tup, ↓tYes_, wipe0, wipe1, ↓tCallS_, ↓rIxL_, ↓rIxT_, ↓rSlL_, ↓rCat_, ↓rSetL_, ↓rRep_, ↓rGcd_, ↓tCallK_, ↓gUnl_, ↓tRaise_, decide_true, decide_false, not_true_eq_false, not_false_eq_true, false_and, or_false, false_or, and_false, and_assoc, exists_const, forall_const, forall_eq'])

section
variable {P : Program} {w : World} {K : PySem.W.Frag} {mg : Str → Option Value} {base : Heap}
open Ls
theorem deed_dq {H : Hp} {y : V} {c : PyData} (hd : isDeed c = true) (h : Dq K H y c) : ∃ (k : Str) (b : Addr) (ss : List Str), y = .ref b ∧ H b = some (.tup ((k :: ss).map V.str)) ∧ k ≠ "if" ∧ k ≠ "while" ∧ wordsOf c = ss ∧ (∀ s ∈ ss, isGoal (.str s) = true) ∧ ss.length ≤ 2 := by
  rcases deed_cases hd with ⟨k, a, rfl, ha, hk⟩ | ⟨k, a, b, rfl, ha, hk⟩
  · obtain ⟨n1, n2⟩ := ne_if (k := k) (by rcases hk with z | z <;> simp [z])
    cases h with
    | tup e2 h2 =>
      cases h2 with
      | cons h3 h4 =>
        cases h3
        cases h4 with
        | cons h5 h6 =>
          cases h5
          cases h6
          exact ⟨k, _, [a], rfl, e2, n1, n2, rfl, fun s hs => by rw [List.mem_singleton.mp hs]; exact l_goal ha, by simp⟩
  · obtain ⟨n1, n2⟩ := ne_if (k := k) (by rcases hk with ⟨z, _⟩ | ⟨z | z, _⟩ <;> simp [z])
    have hb : isGoal (.str b) = true := by
      rcases hk with ⟨_, z⟩ | ⟨_, z⟩
      · exact l_goal z
      · exact z
    cases h with
    | tup e2 h2 =>
      cases h2 with
      | cons h3 h4 =>
        cases h3
        cases h4 with
        | cons h5 h6 =>
          cases h5
          cases h6 with
          | cons h7 h8 =>
            cases h7
            cases h8
            refine ⟨k, _, [a, b], rfl, e2, n1, n2, rfl, fun s hs => ?_, by simp⟩
            simp only [List.mem_cons, List.not_mem_nil, or_false] at hs
            rcases hs with rfl | rfl
            · exact l_goal ha
            · exact hb
theorem comp_dq {H : Hp} {y : V} {c : PyData} (hd : isComp c = true) (h : Dq K H y c) : ∃ (b : Addr) (m a e : Str), y = .ref b ∧ H b = some (.tup [.str m, .str a, .str e]) ∧ isLetterS a = true ∧ isGoal (.str e) = true ∧ wordsOf c = [a, e] := by
  obtain ⟨m, a, e, rfl, hm, ha, he⟩ := comp_cases hd
  cases h with
  | tup e2 h2 =>
    cases h2 with
    | cons h3 h4 =>
      cases h3
      cases h4 with
      | cons h5 h6 =>
        cases h5
        cases h6 with
        | cons h7 h8 =>
          cases h7
          cases h8
          exact ⟨_, m, a, e, rfl, e2, ha, he, rfl⟩
theorem st_nest2 {m : Nat} {d : PyData} (h : isSt (m + 1) d = true) (hd : ¬ isDeed d = true) : ∃ (k : Str) (t : PyData) (r : List PyData), d = .tuple (.str k :: t :: r) ∧ ((k = "if" ∧ r.length = 2) ∨ (k = "while" ∧ r.length = 1)) ∧ isTest t = true ∧ (∀ c ∈ r, treeOf (isSt m) c = true) ∧ stL (m + 1) d = testL t ++ r.flatMap (treeL (stL m)) ∧ stD (m + 1) d = r.flatMap (treeL (stD m)) ∧ stN (m + 1) d = (r.foldl (fun x c => max x (treeN (stN m) c)) 0) + (if k = "while" then 1 else 0) ∧ cntSt (m + 1) d = 1 + (r.map (cntOf (cntSt m))).sum := by
  rcases st_cases h with z | ⟨t, a, b, rfl, ht, ha, hb⟩ | ⟨t, a, rfl, ht, ha⟩
  · exact absurd z hd
  · refine ⟨_, t, [a, b], rfl, .inl ⟨rfl, rfl⟩, ht, fun c hc => ?_, by rw [stL_if]; simp, by rw [stD_if]; simp, ?_, by rw [if_cnt]; simp⟩
    · simp only [List.mem_cons, List.not_mem_nil, or_false] at hc
      rcases hc with rfl | rfl
      · exact ha
      · exact hb
    · rw [stN_if, if_neg (by decide)]
      show _ = max (max 0 (treeN (stN m) a)) (treeN (stN m) b) + 0
      omega
  · refine ⟨_, t, [a], rfl, .inr ⟨rfl, rfl⟩, ht, fun c hc => ?_, by rw [stL_while]; simp, by rw [stD_while]; simp, ?_, by rw [while_cnt]; simp⟩
    · simp only [List.mem_cons, List.not_mem_nil, or_false] at hc
      rcases hc with rfl
      exact ha
    · rw [stN_while, if_pos rfl]
      show _ = max 0 (treeN (stN m) a) + 1
      omega
def LT (H : Hp) (p : Addr) (ws : List Str) : Prop := H p = some (.lst ((letL ws).map V.str))
def spTL (K : PySem.W.Frag) : Sp := fun vs H Q _ => ∃ (x : V) (t : PyData), vs = [x] ∧ Dq K H x t ∧ isTest t = true ∧ ∀ p H', H p = none → Same H H' → LT H' p (testL t) → Q (.ref p) H'
def tlP (H0 : Hp) (a0 p : Addr) (cs : List PyData) (j : Nat) : L2.St → Hp → Prop := fun σ H => Same H0 H ∧ (∃ ks, DS H p ks ∧ KS ks ((cs.take j).flatMap wordsOf)) ∧ ∃ x y z : Option V, σ = [some (.ref a0), some (.ref p), x, y, z]
theorem sc_tl : FnScope ["tree", "found", "sign", "one", "other"] ["tree"] (defScope (top 25)) := ⟨rfl, rfl, rfl, by decide +kernel, rfl, by decide +kernel, by decide +kernel⟩
theorem ok_tl {f : Addr} {fd : FuncData} (T : Tx mg) (bSo : mg "sorted" = none) (F : FD K "test_letters" (top 25) f fd) : FnOk P w K mg base CX0 1 f fd ["tree"] (spTL K) := by
  refine F.ok sc_tl (fun vs H Q E h => ?_) (fun cdv A outer s H vs Q E hr h => ?_)
  · obtain ⟨_, _, rfl, _⟩ := h
    rfl
  · obtain ⟨x, t, rfl, hx, ht, k⟩ := h
    have nd := sc_tl.nd
    obtain ⟨j, cs, rfl, _, hl3, hc⟩ := test_cases ht
    have e0 : testL (.tuple [.str j, .tuple cs]) = cs.flatMap wordsOf := rfl
    rw [e0] at k
    obtain ⟨a0, a1, xs, rfl, e1, e2, ha⟩ : ∃ (a0 a1 : Addr) (xs : List V), x = .ref a0 ∧ H a0 = some (.tup [.str j, .ref a1]) ∧ H a1 = some (.tup xs) ∧ DqAll K H xs cs := by
      cases hx with
      | tup e h2 =>
        cases h2 with
        | cons h3 h4 =>
          cases h3
          cases h4 with
          | cons h5 h6 =>
            cases h6
            cases h5 with
            | tup e2 h7 => exact ⟨_, _, _, rfl, e, e2, h7⟩
    have hl := ha.len
    have zl : (400000 : Nat) ≤ sizeLine := by rw [sizeLine_eq]; decide
    refine ⟨_, (pss_cons (ps_set (i := 1) nd rfl (Or.inl rfl) pe_dnewK)
        (pss_cons (ps_for (passes_of rfl) rfl (pi_tup (pe_ix (r := rIxT K) ix_tup (pv 0) pe_int (fun _ _ => rfl))) (pg_tup rfl (pgs_cons (pg_name (i := 2) nd rfl (Or.inl rfl) (hf := Or.inr rfl)) (pgs_cons (pg_name (i := 3) nd rfl (Or.inl rfl) (hf := Or.inr rfl)) (pgs_cons (pg_name (i := 4) nd rfl (Or.inl rfl) (hf := Or.inr rfl)) pgs_nil)))) (pss_cons (ps_dput (hu_of hr) (pv 1) (pv 3) pe_bl rfl)
        (pss_one (ps_if (pt_cmpR op_ne (pv 4) pe_str (nomark _)) (pss_one (ps_dput (hu_of hr) (pv 1) (pv 4) pe_bl rfl)) pss_nil))))
        (pss_one (ps_ret (pe_callB (call_sortedD rfl) (by rfl) bSo (by decide +kernel) (pa_cons (pv 1) pa_nil)))))), ?_⟩
    refine sq fun U hU => ?_
    walk_at "rd"
    refine fun p hp => hU _ _ ?_
    clear hU
    have s0 : Same H (upd H p (.dK [])) := same_new hp
    refine sq fun U hU => ?_
    walk_at "rd"
    refine ⟨_, SqT.of (s0 _ _ e1), _, atI_nn (by decide) rfl, a1, rfl, ⟨_, SqT.of (s0 _ _ e2)⟩, ?_⟩
    have pn : ∀ {b o}, H b = some o → b ≠ p := fun e => ne_of_none e hp
    refine for_t (xs := xs) (fun i σ H' => tlP H a0 p cs i σ H') ⟨s0, ⟨[], ⟨[], upd_same, rfl⟩, KS.nil⟩, _, _, _, rfl⟩ (fun i σ H' _ hP => SqT.of (hP.1 _ _ e2)) ?_ ?_
    · rintro i y σ H' hy ⟨hs, ⟨ks, hds, hks⟩, v1, v2, v3, rfl⟩
      obtain ⟨c, hc1, hc2⟩ := ha.atV hy
      obtain ⟨b, m, a, e, rfl, eb, la, ge, wc⟩ := comp_dq (hc c (List.mem_of_getElem? hc1)) (hc2.up hs)
      have et : (cs.take (i + 1)).flatMap wordsOf = (cs.take i).flatMap wordsOf ++ [a] ++ [e] := by
        rw [List.take_succ, hc1, List.flatMap_append]
        show _ ++ (wordsOf c ++ []) = _
        rw [wc]; simp
      walk_at "rd"
      refine ⟨_, SqT.of eb, rfl, _, _, rfl, _, _, rfl, _, _, rfl, rfl, ?_⟩
      have kl := hks.len
      obtain ⟨H2, d2, ds2, o2, rfl⟩ := hds.put (by omega) a (.bl true)
      refine ⟨_, d2, ?_⟩
      have s2 : Same H (upd H' p o2) := fun b o eb' => by rw [upd_ne (pn eb')]; exact hs _ _ eb'
      have k2 := hks.add la
      walk_at "rd"
      by_cases hE : e = "END"
      · rw [if_neg (by simp [hE])]
        exact ⟨s2, ⟨_, ds2, by rw [et, hE]; exact k2.goal⟩, _, _, _, rfl⟩
      · rw [if_pos hE]
        have le : isLetterS e = true := by
          have z : (isLetterS e || decide (e = "END")) = true := ge
          rw [decide_eq_false hE, Bool.or_false] at z
          exact z
        have kl2 := k2.len
        obtain ⟨H3, d3, ds3, o3, rfl⟩ := ds2.put (by omega) e (.bl true)
        refine ⟨_, d3, fun b o eb' => by rw [upd_ne (pn eb')]; exact s2 _ _ eb', ⟨_, ds3, by rw [et]; exact k2.add le⟩, _, _, _, rfl⟩
    · rintro σ H' ⟨hs, ⟨ks, hds, hks⟩, v1, v2, v3, rfl⟩
      refine hU _ _ ?_
      walk_at "rd"
      obtain ⟨kvs, ek, hk⟩ := hds
      have kl := hks.len
      refine ⟨kvs, Rd.of ek, ks, hk, by omega, fun ys q hpm hst hq => ?_⟩
      have n0 : H q = none := by
        cases z : H q with
        | none => rfl
        | some o => rw [hs _ _ z] at hq; cases hq
      refine k q _ n0 (hs.trans (same_new hq)) ?_
      have ey := hks.sort hpm hst
      rw [hl, List.take_length] at ey
      show (upd H' q (.lst (ys.map V.str))) q = _
      rw [upd_same, ey]
theorem slT {H : Hp} {Q : VK} {a : Addr} {xs : List V} {k : Nat} (e : H a = some (.tup xs)) (h1 : 1 ≤ k) (h2 : k ≤ xs.length) (q : ∀ p, H p = none → Q (.ref p) (upd H p (.tup (xs.drop k)))) : rSlT K (.ref a) (some (k : Int)) none H Q := by
  have hs : HT.sIx xs.length 0 (some (k : Int)) = k := by
    rw [HT.sIx_nat]
    omega
  refine ⟨a, xs, rfl, SqT.of e, by rw [hs]; exact fun z => absurd z.1 (by omega), fun p hp => ?_⟩
  have hc : cutV xs (some (k : Int)) none = xs.drop k := by
    unfold cutV
    rw [hs]
    show (xs.drop k).take (xs.length - k) = _
    exact List.take_of_length_le (by rw [List.length_drop]; exact Nat.le_refl _)
  rw [hc]
  exact q p hp
def wdP (H0 : Hp) (ss : List Str) (D : Addr) (j : Nat) (H : Hp) : Prop := Same H0 H ∧ H D = some (.lst (((ss.take j).filter fun s : Str => decide (s ≠ "END")).map V.str))
def inP (H0 : Hp) (p : Addr) (tw : List Str) (f : PyData → List Str) (r : List PyData) (σ0 : List (Option V)) (v4 v5 : Option V) (j : Nat) : L2.St → Hp → Prop := fun σ H => Same H0 H ∧ ∃ (q : Addr) (ms : List Str) (w : Option V), H q = some (.lst (ms.map V.str)) ∧ q ≠ p ∧ ms.length ≤ 26 * (j + 1) ∧ (∀ m ∈ ms, isLetterS m = true) ∧ (∀ c' ∈ abcL, c' ∈ ms ↔ c' ∈ tw ++ (r.take j).flatMap f) ∧ σ = σ0 ++ [some (.ref q), w, v4, v5]
def ltP (H0 : Hp) (p q : Addr) (ws ms : List Str) (σ0 : List (Option V)) (v5 : Option V) (j : Nat) : L2.St → Hp → Prop := fun σ H => Same H0 H ∧ H q = some (.lst (ms.map V.str)) ∧ (∃ ks, DS H p ks ∧ KS ks (ws ++ ms.take j)) ∧ ∃ w, σ = σ0 ++ [w, v5]
theorem flat_take {α : Type} {f : PyData → List α} {cs : List PyData} {i : Nat} {c : PyData} (h : cs[i]? = some c) : (cs.take (i + 1)).flatMap f = (cs.take i).flatMap f ++ f c := by
  rw [List.take_succ, h, List.flatMap_append]
  simp
def spTrL (K : PySem.W.Frag) (n : Nat) : Sp := fun vs H Q _ => ∃ (x : V) (d : PyData), vs = [x] ∧ Dq K H x d ∧ treeOf (isSt n) d = true ∧ ∀ p H', H p = none → Same H H' → LT H' p (treeL (stL n) d) → Q (.ref p) H'
def spTrLP (K : PySem.W.Frag) : Nat → Sp
  | 0 => fun _ _ _ _ => False
  | n + 1 => spTrL K n
def trP (H0 : Hp) (a0 p : Addr) (n : Nat) (ds : List PyData) (j : Nat) : L2.St → Hp → Prop := fun σ H => Same H0 H ∧ (∃ ks, DS H p ks ∧ KS ks ((ds.take j).flatMap (stL n))) ∧ ∃ a b c d e : Option V, σ = [some (.ref a0), some (.ref p), a, b, c, d, e]
theorem sc_trl : FnScope ["tree", "found", "part", "mine", "inner", "letter", "word"] ["tree"] (defScope (top 26)) := ⟨rfl, rfl, rfl, by decide +kernel, rfl, by decide +kernel, by decide +kernel⟩
theorem ok_trl {f : Addr} {fd : FuncData} (T : Tx mg) (bSo : mg "sorted" = none) (n : Nat) (F : FD K "tree_letters" (top 26) f fd) {f1 : Addr} {fd1 : FuncData} (C1 : Cal P w K mg base CX0 1 "test_letters" ["tree"] (spTL K) f1 fd1) (C2 : Cal P w K mg base CX0 (1 + n) "tree_letters" ["tree"] (spTrLP K n) f fd) : FnOk P w K mg base CX0 (1 + n + 1) f fd ["tree"] (spTrL K n) := by
  obtain ⟨gtest_letters, ktest_letters, btest_letters, Ftest_letters⟩ := C1
  obtain ⟨gtree_letters, ktree_letters, btree_letters, Ftree_letters⟩ := C2
  refine F.ok sc_trl (fun vs H Q E h => ?_) (fun cdv A outer s H vs Q E hr h => ?_)
  · obtain ⟨_, _, rfl, _⟩ := h
    rfl
  · obtain ⟨x, d, rfl, hx, ht, k⟩ := h
    have nd := sc_trl.nd
    have zl : (400000 : Nat) ≤ sizeLine := by rw [sizeLine_eq]; decide
    refine ⟨_, (pss_cons (ps_set (i := 1) nd rfl (Or.inl rfl) pe_dnewK)
        (pss_cons (ps_for (passes_of rfl) rfl (pi_tup (pv 0)) (pg_name (i := 2) nd rfl (Or.inl rfl)) (pss_cons (ps_if (pt_cmpR op_notIn_seq (pe_ix (r := rIxT K) ix_tup (pv 2) pe_int (fun _ _ => rfl)) (pe_tup (pa_cons pe_str (pa_cons pe_str pa_nil))) rfl) (pss_one (ps_setLc (i := 3) (own := [("word", 6)]) rfl nd rfl rfl (sw_true rfl rfl rfl (by decide +kernel)) (pi_tup (pe_slice (r := rSlT K) sl_tup (pv 2) (po_some pe_int) po_none)) (blkOk_by (N := ["tree", "found", "part", "mine", "inner", "letter", "word"]) (sc := defScope (top 26)) (by decide +kernel)) (fun _ _ _ _ _ => (pg_name (i := 6) nd rfl (Or.inl rfl))) (fun _ _ _ _ _ => (pts_one (pt_cmpR op_ne (pv 6) pe_str (nomark _)))) (fun _ _ _ _ _ => (pv 6)))) (pss_cons (ps_set (i := 3) nd rfl (Or.inl rfl) (pe_call Ftest_letters (hr.mono (by omega)) rfl gtest_letters ktest_letters btest_letters .nil pass0 (pa_cons (pe_ix (r := rIxT K) ix_tup (pv 2) pe_int (fun _ _ => rfl)) pa_nil)))
        (pss_one (ps_for (passes_of rfl) rfl (pi_tup (pe_slice (r := rSlT K) sl_tup (pv 2) (po_some pe_int) po_none)) (pg_name (i := 4) nd rfl (Or.inl rfl)) (pss_one (ps_set (i := 3) nd rfl (Or.inl rfl) (pe_op op_cat (pv 3) (pe_call Ftree_letters (hr.mono (by omega)) rfl gtree_letters ktree_letters btree_letters .nil pass0 (pa_cons (pv 4) pa_nil)))))))))
        (pss_one (ps_for (passes_of rfl) rfl (pi_list (pv 3)) (pg_name (i := 5) nd rfl (Or.inl rfl)) (pss_one (ps_dput (hu_of hr) (pv 1) (pv 5) pe_bl rfl))))))
        (pss_one (ps_ret (pe_callB (call_sortedD rfl) (by rfl) bSo (by decide +kernel) (pa_cons (pv 1) pa_nil)))))), ?_⟩
    refine sq fun U hU => ?_
    walk_at "rd"
    refine fun p hp => hU _ _ ?_
    clear hU
    have s0 : Same H (upd H p (.dK [])) := same_new hp
    have pn : ∀ {b o}, H b = some o → b ≠ p := fun e => ne_of_none e hp
    cases hx with
    | tup e ha =>
      rename_i a0 xs ds
      have hl := ha.len
      have e0 : treeL (stL n) (.tuple ds) = ds.flatMap (stL n) := rfl
      rw [e0] at k
      refine sq fun U hU => ?_
      walk_at "rd"
      refine ⟨⟨_, SqT.of (s0 _ _ e)⟩, ?_⟩
      refine for_t (xs := xs) (trP H a0 p n ds) ⟨s0, ⟨[], ⟨[], upd_same, rfl⟩, KS.nil⟩, _, _, _, _, _, rfl⟩ (fun i σ H' _ hP => SqT.of (hP.1 _ _ e)) ?_ ?_
      · rintro i y σ H' hy ⟨hs, ⟨ks, hds, hks⟩, v1, v2, v3, v4, v5, rfl⟩
        obtain ⟨c, hc1, hc2⟩ := ha.atV hy
        have hcs : isSt n c = true := List.all_eq_true.mp ht c (List.mem_of_getElem? hc1)
        replace hc2 := hc2.up hs
        refine sq fun V2 hV => ?_
        -- the letters of a statement, in a list
        suffices go : ∀ (H2 : Hp) (q : Addr) (ms : List Str) (w3 w4 : Option V), Same H' H2 → H2 q = some (.lst (ms.map V.str)) → q ≠ p → ms.length ≤ 1000 → (∀ m ∈ ms, isLetterS m = true) → (∀ c' ∈ abcL, c' ∈ ms ↔ c' ∈ stL n c) → V2 [some (.ref a0), some (.ref p), some y, some (.ref q), w3, w4, v5] H2 by
          have hp' : ∃ o, H' p = some o := hds.elim fun kvs h => ⟨_, h.1⟩
          obtain ⟨op, hp'⟩ := hp'
          walk_at "rd"
          by_cases dd : isDeed c = true
          · obtain ⟨k0, b, ss, rfl, eb, n1, n2, wc, hg, sl⟩ := deed_dq dd hc2
            refine ⟨b, rfl, _, SqT.of eb, _, atI_nn (by decide) rfl, by decide, fun p1 hp1 => notIn2 upd_same ⟨_, rfl, ?_⟩⟩
            rw [if_pos (by rw [decide_eq_false n1, decide_eq_false n2]; rfl)]
            have s1 : Same H' (upd H' p1 (.tup [.str "if", .str "while"])) := same_new hp1
            refine slT (k := 1) (s1 _ _ eb) (Nat.le_refl _) (by simp) fun q hq => ?_
            have s2 := same_new (o := .tup (((k0 :: ss).map V.str).drop 1)) hq
            refine ⟨q, rfl, ⟨_, SqT.of upd_same⟩, lc_t (xs := ss.map V.str) (wdP (upd (upd H' p1 (.tup [.str "if", .str "while"])) q (.tup (((k0 :: ss).map V.str).drop 1))) ss) fun D hD => ⟨⟨same_new hD, upd_same⟩, fun i H3 _ hP => SqT.of (hP.1 _ _ upd_same), ?_, ?_⟩⟩
            · rintro i x H3 hx ⟨hs3, hL⟩
              rw [List.getElem?_map] at hx
              obtain ⟨wd, hw, rfl⟩ := Option.map_eq_some_iff.mp hx
              have et : ss.take (i + 1) = ss.take i ++ [wd] := by rw [List.take_succ, hw]; rfl
              unfold Lturn
              walk_at "rd"
              by_cases hE : wd = "END"
              · rw [if_neg (by simp [hE])]
                refine ⟨hs3, ?_⟩
                rw [hL, et, List.filter_append, hE]
                simp
              · rw [if_pos hE]
                refine ⟨_, hL, ?_, fun b' o e' => ?_, ?_⟩
                · rw [List.length_map]
                  have h1 := List.length_filter_le (fun s : Str => decide (s ≠ "END")) (ss.take i)
                  have h2 : (ss.take i).length ≤ ss.length := List.length_take_le' _ _
                  omega
                · rw [upd_ne (ne_of_none e' hD)]; exact hs3 b' o e'
                · rw [upd_same, et, List.filter_append, List.map_append]
                  simp [hE]
            · rintro H3 ⟨hs3, hL⟩
              rw [List.length_map, List.take_length] at hL
              have s13 := s1.trans (s2.trans hs3)
              refine go H3 D _ _ _ s13 hL (ne_of_none (s2 _ _ (s1 _ _ hp')) hD).symm ?_ (fun m hm => ?_) (fun c' hc' => ?_)
              · have h1 := List.length_filter_le (fun s : Str => decide (s ≠ "END")) ss
                omega
              · rw [List.mem_filter] at hm
                have h1 := hg m hm.1
                have h2 : (isLetterS m || decide (m = "END")) = true := h1
                rw [decide_eq_false (of_decide_eq_true hm.2), Bool.or_false] at h2
                exact h2
              · rw [(deed_flat dd n).1, wc, List.mem_filter, decide_eq_true_eq]
                exact ⟨fun z => z.1, fun z => ⟨z, fun y => END_abcL (by rw [← y]; exact hc')⟩⟩
          cases n with
          | zero => exact absurd hcs dd
          | succ m =>
            obtain ⟨k0, t, r, rfl, hk, htt, hr', hst, _, _, _⟩ := st_nest2 hcs dd
            have rl : r.length ≤ 2 := by rcases hk with z | z <;> omega
            cases hc2 with
            | tup e2 h2 =>
              rename_i b ys
              cases h2 with
              | cons h3 h2 =>
              cases h2 with
              | cons h4 h5 =>
                cases h3
                rename_i vt vs _
                have hvl := h5.len
                refine ⟨b, rfl, _, SqT.of e2, _, atI_nn (by decide) rfl, by decide, fun p1 hp1 => notIn2 upd_same ⟨_, rfl, ?_⟩⟩
                rw [if_neg (by rcases hk with ⟨z, _⟩ | ⟨z, _⟩ <;> (rw [z]; decide))]
                have s1 : Same H' (upd H' p1 (.tup [.str "if", .str "while"])) := same_new hp1
                refine ⟨b, rfl, _, SqT.of (s1 _ _ e2), _, atI_nn (by decide) rfl, vt, t, rfl, h4.up s1, htt, fun q1 H2 nq s2 lt2 => ?_⟩
                refine slT (k := 2) (s2 _ _ (s1 _ _ e2)) (by decide) (by simp) fun q hq => ?_
                have s3 : Same H2 (upd H2 q (.tup (((V.str k0) :: vt :: vs).drop 2))) := same_new hq
                have s13 := s1.trans (s2.trans s3)
                have eq' : (upd H2 q (HO.tup (((V.str k0) :: vt :: vs).drop 2))) q = some (.tup vs) := upd_same
                have q1p : q1 ≠ p := fun z => by rw [z, s1 _ _ hp'] at nq; cases nq
                have l1 := s3 _ _ lt2
                replace h5 := h5.up s13
                have hp3 := s13 _ _ hp'
                generalize (upd H2 q (HO.tup (((V.str k0) :: vt :: vs).drop 2))) = H3 at s13 eq' l1 h5 hp3 ⊢
                refine ⟨q, rfl, ⟨_, SqT.of eq'⟩, ?_⟩
                refine for_t (xs := vs) (inP H3 p (testL t) (treeL (stL m)) r [some (.ref a0), some (.ref p), some (.ref b)] v4 v5) ⟨Same.refl _, q1, letL (testL t), _, l1, q1p, by have := letL_len (testL t); omega, fun m' hm => letL_letter hm, fun c' hc' => ?_, rfl⟩ (fun i σ H' _ hP => SqT.of (hP.1 _ _ eq')) ?_ ?_
                · rw [mem_letL, List.take_zero, List.flatMap_nil, List.append_nil]
                  exact ⟨fun z => z.2, fun z => ⟨hc', z⟩⟩
                · rintro j x1 σ H4 hj ⟨hs4, q4, ms, w4, e4, q4p, hml, hlt, hmem, rfl⟩
                  obtain ⟨c', hc1', hc2'⟩ := h5.atV hj
                  have jl : j < r.length := (List.getElem?_eq_some_iff.mp hc1').1
                  walk_at "rd"
                  refine ⟨x1, c', rfl, hc2'.up hs4, hr' c' (List.mem_of_getElem? hc1'), fun q5 H5 n5 s5 l5 => ⟨q5, rfl, _, s5 _ _ e4, _, l5, ?_, fun q6 n6 => ?_⟩⟩
                  · rw [List.length_map, List.length_map]
                    have := letL_len (treeL (stL m) c')
                    omega
                  · have s6 := same_new (o := .lst (ms.map V.str ++ (letL (treeL (stL m) c')).map V.str)) n6
                    refine ⟨hs4.trans (s5.trans s6), q6, ms ++ letL (treeL (stL m) c'), _, by rw [upd_same, List.map_append], (ne_of_none (s5 _ _ (hs4 _ _ hp3)) n6).symm, ?_, fun m' hm => ?_, fun c2 hc2 => ?_, rfl⟩
                    · rw [List.length_append]
                      have := letL_len (treeL (stL m) c')
                      omega
                    · rcases List.mem_append.mp hm with z | z
                      · exact hlt m' z
                      · exact letL_letter z
                    · rw [List.mem_append, hmem c2 hc2, flat_take hc1', List.mem_append, List.mem_append, List.mem_append, mem_letL]
                      constructor
                      · rintro ((z | z) | z)
                        · exact .inl z
                        · exact .inr (.inl z)
                        · exact .inr (.inr z.2)
                      · rintro (z | z | z)
                        · exact .inl (.inl z)
                        · exact .inl (.inr z)
                        · exact .inr ⟨hc2, z⟩
                · rintro σ H4 ⟨hs4, q4, ms, w4, e4, q4p, hml, hlt, hmem, rfl⟩
                  refine go H4 q4 ms _ _ (s13.trans hs4) e4 q4p (by omega) hlt fun c' hc' => ?_
                  rw [hmem c' hc', hst, hvl, List.take_length]
        intro H2 q ms w3 w4 s2 e2 qp hlm hml hmem
        refine hV _ _ ?_
        walk_at "rd"
        refine ⟨⟨_, SqL.of e2⟩, ?_⟩
        have hds2 : DS H2 p ks := hds.elim fun kvs h => ⟨kvs, s2 _ _ h.1, h.2⟩
        refine for_l (xs := ms.map V.str) (ltP H p q ((ds.take i).flatMap (stL n)) ms [some (.ref a0), some (.ref p), some y, some (.ref q), w3] v5) ⟨hs.trans s2, e2, ⟨ks, hds2, by rw [List.take_zero, List.append_nil]; exact hks⟩, _, rfl⟩ (fun i σ H' _ hP => SqL.of hP.2.1) ?_ ?_
        · rintro j x1 σ H4 hj ⟨hs4, e4, ⟨ks4, hd4, hk4⟩, w5, rfl⟩
          rw [List.getElem?_map] at hj
          obtain ⟨wd, hw, rfl⟩ := Option.map_eq_some_iff.mp hj
          have kl := hk4.len
          obtain ⟨H5, d5, ds5, o5, rfl⟩ := hd4.put (by omega) wd (.bl true)
          walk_at "rd"
          refine ⟨_, d5, fun b o eb' => by rw [upd_ne (pn eb')]; exact hs4 _ _ eb', (upd_ne qp).trans e4, ⟨_, ds5, ?_⟩, _, rfl⟩
          have := hk4.add (hml wd (List.mem_of_getElem? hw))
          rw [List.append_assoc] at this
          rw [List.take_succ, hw]
          exact this
        · rintro σ H4 ⟨hs4, e4, ⟨ks4, hd4, hk4⟩, w5, rfl⟩
          refine ⟨hs4, ⟨ks4, hd4, hk4.congr fun c' hc' => ?_⟩, _, _, _, _, _, rfl⟩
          rw [List.length_map, List.take_length, flat_take hc1, List.mem_append, List.mem_append, hmem c' hc']
      · rintro σ H' ⟨hs, ⟨ks, hds, hks⟩, v1, v2, v3, v4, v5, rfl⟩
        refine hU _ _ ?_
        walk_at "rd"
        obtain ⟨kvs, ek, hk⟩ := hds
        have kl := hks.len
        refine ⟨kvs, Rd.of ek, ks, hk, by omega, fun ys q hpm hst hq => ?_⟩
        have n0 : H q = none := by
          cases z : H q with
          | none => rfl
          | some o => rw [hs _ _ z] at hq; cases hq
        refine k q _ n0 (hs.trans (same_new hq)) ?_
        have ey := hks.sort hpm hst
        rw [hl, List.take_length] at ey
        show (upd H' q (.lst (ys.map V.str))) q = _
        rw [upd_same, ey]
    | _ => cases ht
end
end K38

set_option Elab.async false
set_option linter.all false
set_option maxRecDepth 100000
set_option maxHeartbeats 4000000
namespace K38
open PySem PySem.Spec PyProof.Rows L2 Rd Dt Dq Pk TL
local macro_rules | `(tactic| walk_at "rd") => `(tactic| try simp only [↓Ls.tLc_str, ↓Ls.sDPut_, ↓Rl.rReprL_, ↓Rl.tCallKS_, ↓tFld_, ↓sFld_, ↓tVar_, ↓tC_, ↓tM1, ↓tDNewK_, ↓tOp_, ↓tUn_, ↓rI_, ↓rI0_, ↓rU_, ↓eq_ii, ↓ne_ii, ↓eq_ss, ↓ne_ss, ↓eq_bb, ↓ne_bb, ↓tAndV_, ↓tOrV_, ↓tNotV_, ↓tIf_, ↓tTest_, ↓tB_, ↓tAnd_, ↓tOr_, ↓tNot_, ↓tChain_, ↓tNil_, ↓tCons_, ↓tTup_, ↓tLst_, ↓tCB_, ↓tCall_, ↓tSeq_, ↓tNext_, ↓tRet_, ↓tRetN_, ↓tDrop_, ↓tBreak_, ↓tNever_, ↓tIfS_, ↓tAsg_, ↓gName_, ↓gTup_, ↓gCons_, ↓gNil_, ↓gSub_, ↓tPar_, ↓tPar3_, ↓tSl_, ↓tNoPart_, ↓tPart_, ↓tBM_, ↓tFor_range1, ↓tFor_range2, ↓tFor_list, ↓tFor_tup, L2.start, List.headD_cons, List.headD_nil, List.tail_cons, List.map_cons, List.map_nil, List.length_cons, List.length_nil, List.replicate, List.append_nil, List.nil_append, List.cons_append, List.getElem?_cons_zero, List.getElem?_cons_succ, List.set_cons_zero, List.set_cons_succ, Option.some.injEq, V.int.injEq, V.bl.injEq, V.str.injEq, V.ref.injEq, exists_eq_left, exists_eq_left', exists_eq_right, exists_eq, exists_and_left, and_true, true_and, decide_eq_true_eq, Nat.reduceAdd, Nat.reduceSub, Nat.add_zero, Nat.zero_add, List.cons.injEq, Bool.not_eq_true', decide_eq_false_iff_not, eq_self, reduceCtorEq, Bool.false_eq_true, if_true, if_false, ite_true, ite_false, and_self, ↓tLc_range1, ↓tLc_range2, ↓tLc_list, ↓tLc_tup, ↓tYes_, wipe0, wipe1, ↓tCallS_, ↓rIxL_, ↓rIxT_, ↓rSlL_, ↓rCat_, ↓rSetL_, ↓rRep_, ↓rGcd_, ↓tCallK_, ↓gUnl_, ↓tRaise_, decide_true, decide_false, not_true_eq_false, not_false_eq_true, false_and, or_false, false_or, and_false, and_assoc, exists_const, forall_const, forall_eq'])

section
variable {P : Program} {w : World} {K : PySem.W.Frag} {mg : Str → Option Value} {base : Heap}
open Ls
theorem deeds_len : ∀ (n : Nat) (d : PyData), isSt n d = true → (stD n d).length ≤ cntSt n d
  | 0, d, _ => by show 1 ≤ 1; exact Nat.le_refl _
  | n + 1, d, h => by
    have tr : ∀ x, treeOf (isSt n) x = true → (treeL (stD n) x).length ≤ cntOf (cntSt n) x := fun x hx => by
      cases x with
      | tuple ds =>
        have h' : ∀ x ∈ ds, isSt n x = true := List.all_eq_true.mp hx
        show (ds.flatMap (stD n)).length ≤ (ds.map (cntSt n)).sum
        induction ds with
        | nil => simp
        | cons y ys ih =>
          rw [List.flatMap_cons, List.length_append, List.map_cons, List.sum_cons]
          have h1 := deeds_len n y (h' y List.mem_cons_self)
          have h2 := ih (List.all_eq_true.mpr fun z hz => h' z (List.mem_cons_of_mem _ hz)) fun z hz => h' z (List.mem_cons_of_mem _ hz)
          omega
      | _ => cases hx
    rcases st_cases h with z | ⟨t, a, b, rfl, ht, ha, hb⟩ | ⟨t, a, rfl, ht, ha⟩
    · rw [(deed_flat z (n + 1)).2.1]
      exact cntSt_pos _ _
    · rw [stD_if, if_cnt, List.length_append]
      have := tr a ha
      have := tr b hb
      omega
    · rw [stD_while, while_cnt]
      have := tr a ha
      omega
theorem take_sum_le (f : PyData → Nat) (ds : List PyData) (i : Nat) : ((ds.take i).map f).sum ≤ (ds.map f).sum := by
  have e : (ds.map f).sum = ((ds.take i).map f).sum + ((ds.drop i).map f).sum := by
    rw [← List.sum_append, ← List.map_append, List.take_append_drop]
  omega
theorem flat_len_sum {n : Nat} : ∀ (ds : List PyData), (∀ d ∈ ds, isSt n d = true) → (ds.flatMap (stD n)).length ≤ (ds.map (cntSt n)).sum
  | [], _ => by simp
  | y :: ys, h => by
    rw [List.flatMap_cons, List.length_append, List.map_cons, List.sum_cons]
    have h1 := deeds_len n y (h y List.mem_cons_self)
    have h2 := flat_len_sum ys fun z hz => h z (List.mem_cons_of_mem _ hz)
    omega
theorem flat_len_tree {n : Nat} (ds : List PyData) (h : ∀ d ∈ ds, treeOf (isSt n) d = true) : (ds.flatMap (treeL (stD n))).length ≤ (ds.map (cntOf (cntSt n))).sum := by
  induction ds with
  | nil => simp
  | cons y ys ih =>
    rw [List.flatMap_cons, List.length_append, List.map_cons, List.sum_cons]
    have h1 : (treeL (stD n) y).length ≤ cntOf (cntSt n) y := by
      have hy := h y List.mem_cons_self
      cases y with
      | tuple zs => exact flat_len_sum zs (List.all_eq_true.mp hy)
      | _ => cases hy
    have h2 := ih fun z hz => h z (List.mem_cons_of_mem _ hz)
    omega
/-- the deeds, in a list -/
def spTD (K : PySem.W.Frag) (n : Nat) : Sp := fun vs H Q _ => ∃ (x : V) (d : PyData) (H0 : Hp), vs = [x] ∧ Same H0 H ∧ Dq K H0 x d ∧ treeOf (isSt n) d = true ∧ cntOf (cntSt n) d ≤ 1000 ∧ ∀ p H' xs, H p = none → Same H H' → H' p = some (.lst xs) → DqAll K H0 xs (treeL (stD n) d) → Q (.ref p) H'
def spTDP (K : PySem.W.Frag) : Nat → Sp
  | 0 => fun _ _ _ _ => False
  | n + 1 => spTD K n
def tdP (K : PySem.W.Frag) (H0 H : Hp) (a0 p : Addr) (n : Nat) (ds : List PyData) (j : Nat) : L2.St → Hp → Prop := fun σ H' => Same H H' ∧ (∃ xs, H' p = some (.lst xs) ∧ DqAll K H0 xs ((ds.take j).flatMap (stD n))) ∧ ∃ a b : Option V, σ = [some (.ref a0), some (.ref p), a, b]
def tiP (K : PySem.W.Frag) (H0 H : Hp) (q p : Addr) (vs : List V) (f : PyData → List PyData) (pre r : List PyData) (σ0 : List (Option V)) (j : Nat) : L2.St → Hp → Prop := fun σ H' => Same H H' ∧ H' q = some (.tup vs) ∧ (∃ xs, H' p = some (.lst xs) ∧ DqAll K H0 xs (pre ++ (r.take j).flatMap f)) ∧ ∃ b : Option V, σ = σ0 ++ [b]
theorem sc_td : FnScope ["tree", "found", "part", "inner"] ["tree"] (defScope (top 27)) := ⟨rfl, rfl, rfl, by decide +kernel, rfl, by decide +kernel, by decide +kernel⟩
theorem ok_td {f : Addr} {fd : FuncData} (T : Tx mg) (n : Nat) (F : FD K "tree_deeds" (top 27) f fd) (C2 : Cal P w K mg base CX0 n "tree_deeds" ["tree"] (spTDP K n) f fd) : FnOk P w K mg base CX0 (n + 1) f fd ["tree"] (spTD K n) := by
  obtain ⟨gtree_deeds, ktree_deeds, btree_deeds, Ftree_deeds⟩ := C2
  refine F.ok sc_td (fun vs H Q E h => ?_) (fun cdv A outer s H vs Q E hr h => ?_)
  · obtain ⟨_, _, _, rfl, _⟩ := h
    rfl
  · obtain ⟨x, d, H0, rfl, s00, hx, ht, hcn, k⟩ := h
    have nd := sc_td.nd
    have zl : (400000 : Nat) ≤ sizeLine := by rw [sizeLine_eq]; decide
    refine ⟨_, (pss_cons (ps_set (i := 1) nd rfl (Or.inl rfl) (pe_lst pa_nil))
        (pss_cons (ps_for (passes_of rfl) rfl (pi_tup (pv 0)) (pg_name (i := 2) nd rfl (Or.inl rfl)) (pss_one (ps_if (pt_cmpR op_notIn_seq (pe_ix (r := rIxT K) ix_tup (pv 2) pe_int (fun _ _ => rfl)) (pe_tup (pa_cons pe_str (pa_cons pe_str pa_nil))) rfl) (pss_one (ps_expr (pe_bm PySem.F.plainAttrs_list PySem.F.slot_list_append PySem.F.type_list_append mt_append (pv 1) (pa_cons (pv 2) pa_nil)))) (pss_one (ps_for (passes_of rfl) rfl (pi_tup (pe_slice (r := rSlT K) sl_tup (pv 2) (po_some pe_int) po_none)) (pg_name (i := 3) nd rfl (Or.inl rfl)) (pss_one (ps_expr (pe_bm PySem.F.plainAttrs_list PySem.F.slot_list_extend PySem.F.type_list_extend mt_extend (pv 1) (pa_cons (pe_call Ftree_deeds (hr.mono (by omega)) rfl gtree_deeds ktree_deeds btree_deeds .nil pass0 (pa_cons (pv 3) pa_nil)) pa_nil)))))))))
        (pss_one (ps_ret (pv 1))))), ?_⟩
    refine sq fun U hU => ?_
    walk_at "rd"
    refine ⟨by decide, fun p hp => hU _ _ ?_⟩
    clear hU
    have s0 : Same H (upd H p (.lst [])) := same_new hp
    have pn : ∀ {b o}, H b = some o → b ≠ p := fun e => ne_of_none e hp
    cases hx with
    | tup e ha =>
      rename_i a0 xs ds
      have hl := ha.len
      have hds : ∀ d ∈ ds, isSt n d = true := List.all_eq_true.mp ht
      have e0 : treeL (stD n) (.tuple ds) = ds.flatMap (stD n) := rfl
      rw [e0] at k
      have hcn' : (ds.map (cntSt n)).sum ≤ 1000 := hcn
      refine sq fun U hU => ?_
      walk_at "rd"
      refine ⟨⟨_, SqT.of (s0 _ _ (s00 _ _ e))⟩, ?_⟩
      refine for_t (xs := xs) (tdP K H0 H a0 p n ds) ⟨s0, ⟨[], upd_same, .nil⟩, _, _, rfl⟩ (fun i σ H' _ hP => SqT.of (hP.1 _ _ (s00 _ _ e))) ?_ ?_
      · rintro i y σ H' hy ⟨hs, ⟨zs, hz, hD⟩, v1, v2, rfl⟩
        obtain ⟨c, hc1, hc20⟩ := ha.atV hy
        have hcs : isSt n c = true := hds c (List.mem_of_getElem? hc1)
        have hc2 := (hc20.up s00).up hs
        have zlen : zs.length ≤ 1000 := by
          rw [hD.len]
          exact Nat.le_trans (flat_len_sum _ fun d hd => hds d (List.mem_of_mem_take hd)) (Nat.le_trans (take_sum_le _ ds i) hcn')
        walk_at "rd"
        by_cases dd : isDeed c = true
        · obtain ⟨k0, b, ss, rfl, eb, n1, n2, wc, hg, sl⟩ := deed_dq dd hc2
          refine ⟨b, rfl, _, SqT.of eb, _, atI_nn (by decide) rfl, by decide, fun p1 hp1 => notIn2 upd_same ⟨_, rfl, ?_⟩⟩
          rw [if_pos (by rw [decide_eq_false n1, decide_eq_false n2]; rfl)]
          have s1 : Same H' (upd H' p1 (.tup [.str "if", .str "while"])) := same_new hp1
          refine ⟨.inl ⟨rfl, _, SqL.of (s1 _ _ hz)⟩, p, zs, _, rfl, rfl, s1 _ _ hz, by omega, fun b' o e' => ?_, ⟨_, upd_same, ?_⟩, _, _, rfl⟩
          · rw [upd_ne (pn e')]; exact s1 _ _ (hs _ _ e')
          · rw [flat_take hc1, (deed_flat dd n).2.1]
            exact hD.append (.cons hc20 .nil)
        cases n with
        | zero => exact absurd hcs dd
        | succ m =>
          obtain ⟨k0, t, r, rfl, hk, htt, hr', _, hst, _, hcnt⟩ := st_nest2 hcs dd
          have rl : r.length ≤ 2 := by rcases hk with z | z <;> omega
          cases hc20 with
          | tup e2 h2 =>
            rename_i b ys
            cases h2 with
            | cons h3 h2 =>
            cases h2 with
            | cons h4 h5 =>
              cases h3
              rename_i vt vs _
              have hvl := h5.len
              have e2' := hs _ _ (s00 _ _ e2)
              refine ⟨b, rfl, _, SqT.of e2', _, atI_nn (by decide) rfl, by decide, fun p1 hp1 => notIn2 upd_same ⟨_, rfl, ?_⟩⟩
              rw [if_neg (by rcases hk with ⟨z, _⟩ | ⟨z, _⟩ <;> (rw [z]; decide))]
              have s1 : Same H' (upd H' p1 (.tup [.str "if", .str "while"])) := same_new hp1
              refine slT (k := 2) (s1 _ _ e2') (by decide) (by simp) fun q hq => ?_
              have s3 := same_new (o := .tup (((V.str k0) :: vt :: vs).drop 2)) hq
              have s13 := s1.trans s3
              have eq' : (upd (upd H' p1 (.tup [.str "if", .str "while"])) q (HO.tup (((V.str k0) :: vt :: vs).drop 2))) q = some (.tup vs) := upd_same
              have pq : p ≠ q := ne_of_none (s1 _ _ hz) hq
              have hz3 := s13 _ _ hz
              generalize (upd (upd H' p1 (HO.tup [V.str (Str.ofString "if"), V.str (Str.ofString "while")])) q (HO.tup (((V.str k0) :: vt :: vs).drop 2))) = H3 at s13 eq' hz3 ⊢
              refine ⟨q, rfl, ⟨_, SqT.of eq'⟩, ?_⟩
              refine for_t (xs := vs) (tiP K H0 H q p vs (treeL (stD m)) ((ds.take i).flatMap (stD (m + 1))) r [some (.ref a0), some (.ref p), some (.ref b)]) ⟨hs.trans s13, eq', ⟨zs, hz3, by rw [List.take_zero, List.flatMap_nil, List.append_nil]; exact hD⟩, _, rfl⟩ (fun i σ H' _ hP => SqT.of hP.2.1) ?_ ?_
              · rintro j x1 σ H4 hj ⟨hs4, eq4, ⟨ws, hw4, hD4⟩, w4, rfl⟩
                obtain ⟨c', hc1', hc2'⟩ := h5.atV hj
                have jm := List.mem_of_getElem? hc1'
                have lpre : ((ds.take i).flatMap (stD (m + 1))).length ≤ 1000 := by rw [← hD.len]; exact zlen
                have csum : (r.map (cntOf (cntSt m))).sum ≤ 1000 := by
                  have h1 := mem_sum_le (cntSt (m + 1)) ds _ (List.mem_of_getElem? hc1)
                  omega
                have lr : ((r.take j).flatMap (treeL (stD m))).length ≤ 1000 := Nat.le_trans (flat_len_tree _ fun d hd => hr' d (List.mem_of_mem_take hd)) (Nat.le_trans (take_sum_le _ r j) csum)
                have cle : cntOf (cntSt m) c' ≤ 1000 := Nat.le_trans (mem_sum_le (cntOf (cntSt m)) r c' jm) csum
                walk_at "rd"
                have s04 : Same H0 H4 := s00.trans hs4
                refine ⟨.inl ⟨rfl, _, SqL.of hw4⟩, x1, c', H0, rfl, s04, hc2', hr' c' jm, cle, fun p5 H5 ws5 n5 s5 e5 D5 => ?_⟩
                have wl := hD4.len
                have wl5 := D5.len
                have l5 : (treeL (stD m) c').length ≤ 1000 := by
                  have := flat_len_tree [c'] (fun d hd => by rw [List.mem_singleton.mp hd]; exact hr' c' jm)
                  simp only [List.flatMap_cons, List.flatMap_nil, List.append_nil, List.map_cons, List.map_nil, List.sum_cons, List.sum_nil] at this
                  omega
                rw [List.length_append] at wl
                refine ⟨p, p5, ws, ws5, rfl, rfl, s5 _ _ hw4, e5, by omega, fun b' o e' => ?_, (upd_ne pq.symm).trans (s5 _ _ eq4), ⟨_, upd_same, ?_⟩, _, rfl⟩
                · rw [upd_ne (pn e')]; exact s5 _ _ (hs4 _ _ e')
                · rw [flat_take hc1', ← List.append_assoc]
                  exact hD4.append D5
              · rintro σ H4 ⟨hs4, eq4, ⟨ws, hw4, hD4⟩, w4, rfl⟩
                refine ⟨hs4, ⟨ws, hw4, ?_⟩, _, _, rfl⟩
                rw [flat_take hc1, hst]
                rw [hvl, List.take_length] at hD4
                exact hD4
      · rintro σ H' ⟨hs, ⟨zs, hz, hD⟩, v1, v2, rfl⟩
        refine hU _ _ ?_
        walk_at "rd"
        rw [hl, List.take_length] at hD
        exact k p H' zs hp hs hz hD
    | _ => cases ht

/-! ### loops within loops -/
def mxN (f : PyData → Nat) (ds : List PyData) : Nat := ds.foldl (fun m d => max m (f d)) 0
theorem mx_take {f : PyData → Nat} {cs : List PyData} {i : Nat} {c : PyData} (h : cs[i]? = some c) : mxN f (cs.take (i + 1)) = max (mxN f (cs.take i)) (f c) := by
  unfold mxN
  rw [List.take_succ, h, List.foldl_append]
  rfl
theorem mx_of {f : PyData → Nat} {r : List PyData} (hr : r.length = 1 ∨ r.length = 2) {m : Int} (h1 : m ∈ r.map fun c => (f c : Int)) (h2 : ∀ y ∈ r.map fun c => (f c : Int), y ≤ m) : m = (mxN f r : Nat) := by
  match r, hr with
  | [a], _ =>
    have e : mxN f [a] = max 0 (f a) := rfl
    rw [e]
    simp only [List.map_cons, List.map_nil, List.mem_singleton] at h1
    omega
  | [a, b], _ =>
    have e : mxN f [a, b] = max (max 0 (f a)) (f b) := rfl
    rw [e]
    simp only [List.map_cons, List.map_nil, List.mem_cons, List.not_mem_nil, or_false] at h1 h2
    have h3 := h2 _ (.inl rfl)
    have h4 := h2 _ (.inr rfl)
    omega
  | [], h => rcases h with h | h <;> cases h
  | _ :: _ :: _ :: _, h => rcases h with h | h <;> simp at h
def spLD (K : PySem.W.Frag) (n : Nat) : Sp := fun vs H Q _ => ∃ (x : V) (d : PyData), vs = [x] ∧ Dq K H x d ∧ treeOf (isSt n) d = true ∧ ∀ H', Same H H' → Q (.int (treeN (stN n) d : Nat)) H'
def spLDP (K : PySem.W.Frag) : Nat → Sp
  | 0 => fun _ _ _ _ => False
  | n + 1 => spLD K n
def ldP (H0 : Hp) (a0 : Addr) (n : Nat) (ds : List PyData) (j : Nat) : L2.St → Hp → Prop := fun σ H => Same H0 H ∧ ∃ a b c : Option V, σ = [some (.ref a0), some (.int (mxN (stN n) (ds.take j) : Nat)), a, b, c]
theorem sc_ld : FnScope ["tree", "found", "part", "inner", "each"] ["tree"] (defScope (top 28)) := ⟨rfl, rfl, rfl, by decide +kernel, rfl, by decide +kernel, by decide +kernel⟩
theorem ok_ld {f : Addr} {fd : FuncData} (T : Tx mg) (n : Nat) (F : FD K "loops_depth" (top 28) f fd) (C2 : Cal P w K mg base CX0 n "loops_depth" ["tree"] (spLDP K n) f fd) : FnOk P w K mg base CX0 (n + 1) f fd ["tree"] (spLD K n) := by
  obtain ⟨gloops_depth, kloops_depth, bloops_depth, Floops_depth⟩ := C2
  refine F.ok sc_ld (fun vs H Q E h => ?_) (fun cdv A outer s H vs Q E hr h => ?_)
  · obtain ⟨_, _, rfl, _⟩ := h
    rfl
  · obtain ⟨x, d, rfl, hx, ht, k⟩ := h
    have nd := sc_ld.nd
    have zl : (400000 : Nat) ≤ sizeLine := by rw [sizeLine_eq]; decide
    refine ⟨_, (pss_cons (ps_set (i := 1) nd rfl (Or.inl rfl) pe_int)
        (pss_cons (ps_for (passes_of rfl) rfl (pi_tup (pv 0)) (pg_name (i := 2) nd rfl (Or.inl rfl)) (pss_one (ps_if (pt_cmpR op_in_seq (pe_ix (r := rIxT K) ix_tup (pv 2) pe_int (fun _ _ => rfl)) (pe_tup (pa_cons pe_str (pa_cons pe_str pa_nil))) rfl) (pss_cons (ps_set (i := 3) nd rfl (Or.inl rfl) (pe_callB (cr_max rfl) (by rfl) T.b_max (by decide +kernel) (pa_cons (pe_lc (own := [("each", 4)]) rfl nd (pi_tup (pe_slice (r := rSlT K) sl_tup (pv 2) (po_some pe_int) po_none)) (blkOk_by (N := ["tree", "found", "part", "inner", "each"]) (sc := defScope (top 28)) (by decide +kernel)) (fun _ _ _ _ _ => (pg_name (i := 4) nd rfl (Or.inl rfl))) (fun _ _ _ _ _ => pts_nil) (fun _ _ _ _ _ => (pe_call Floops_depth (hr.mono (by omega)) rfl gloops_depth kloops_depth bloops_depth .nil pass0 (pa_cons (pv 4) pa_nil)))) pa_nil)))
        (pss_one (ps_set (i := 1) nd rfl (Or.inl rfl) (pe_callB (call_max2 rfl) (by rfl) T.b_max (by decide +kernel) (pa_cons (pv 1) (pa_cons (pe_ifExp (pt_cmpR op_eq (pe_ix (r := rIxT K) ix_tup (pv 2) pe_int (fun _ _ => rfl)) pe_str (nomark _)) (pe_op op_add (pv 3) pe_int) (pv 3)) pa_nil)))))) pss_nil)))
        (pss_one (ps_ret (pv 1))))), ?_⟩
    refine sq fun U hU => ?_
    walk_at "rd"
    refine hU _ _ ?_
    clear hU
    cases hx with
    | tup e ha =>
      rename_i a0 xs ds
      have hl := ha.len
      have hds : ∀ d ∈ ds, isSt n d = true := List.all_eq_true.mp ht
      have e0 : treeN (stN n) (.tuple ds) = mxN (stN n) ds := rfl
      rw [e0] at k
      refine sq fun U hU => ?_
      walk_at "rd"
      refine ⟨⟨_, SqT.of e⟩, ?_⟩
      refine for_t (xs := xs) (ldP H a0 n ds) ⟨Same.refl _, _, _, _, rfl⟩ (fun i σ H' _ hP => SqT.of (hP.1 _ _ e)) ?_ ?_
      · rintro i y σ H' hy ⟨hs, v1, v2, v3, rfl⟩
        obtain ⟨c, hc1, hc2⟩ := ha.atV hy
        have hcs : isSt n c = true := hds c (List.mem_of_getElem? hc1)
        replace hc2 := hc2.up hs
        walk_at "rd"
        by_cases dd : isDeed c = true
        · obtain ⟨k0, b, ss, rfl, eb, n1, n2, wc, hg, sl⟩ := deed_dq dd hc2
          refine ⟨b, rfl, _, SqT.of eb, _, atI_nn (by decide) rfl, by decide, fun p1 hp1 => in2 upd_same ⟨_, rfl, ?_⟩⟩
          rw [if_neg (by rw [decide_eq_false n1, decide_eq_false n2]; decide)]
          refine ⟨hs.trans (same_new hp1), some (.ref b), v2, v3, ?_⟩
          rw [mx_take hc1, (deed_flat dd n).2.2, Nat.max_zero]
        cases n with
        | zero => exact absurd hcs dd
        | succ m =>
          obtain ⟨k0, t, r, rfl, hk, htt, hr', _, _, hst, _⟩ := st_nest2 hcs dd
          have rl : r.length = 1 ∨ r.length = 2 := by rcases hk with z | z; exact .inr z.2; exact .inl z.2
          cases hc2 with
          | tup e2 h2 =>
            rename_i b ys
            cases h2 with
            | cons h3 h2 =>
            cases h2 with
            | cons h4 h5 =>
              cases h3
              rename_i vt vs _
              have hvl := h5.len
              refine ⟨b, rfl, _, SqT.of e2, _, atI_nn (by decide) rfl, by decide, fun p1 hp1 => in2 upd_same ⟨_, rfl, ?_⟩⟩
              rw [if_pos (by rcases hk with ⟨z, _⟩ | ⟨z, _⟩ <;> (rw [z]; decide))]
              have s1 : Same H' (upd H' p1 (.tup [.str "if", .str "while"])) := same_new hp1
              refine slT (k := 2) (s1 _ _ e2) (by decide) (by simp) fun q hq => ?_
              have s3 := same_new (o := .tup (((V.str k0) :: vt :: vs).drop 2)) hq
              have s13 := s1.trans s3
              have eq' : (upd (upd H' p1 (.tup [.str "if", .str "while"])) q (HO.tup (((V.str k0) :: vt :: vs).drop 2))) q = some (.tup vs) := upd_same
              generalize (upd (upd H' p1 (HO.tup [V.str (Str.ofString "if"), V.str (Str.ofString "while")])) q (HO.tup (((V.str k0) :: vt :: vs).drop 2))) = H2 at s13 eq' ⊢
              replace h5 := h5.up s13
              refine ⟨q, rfl, ⟨_, SqT.of eq'⟩, lc_t (xs := vs) (cmP H2 (treeN (stN m)) r) fun D hD => ⟨⟨same_new hD, upd_same⟩, fun j H3 _ hP => SqT.of (hP.1 _ _ eq'), ?_, ?_⟩⟩
              · rintro j x1 H3 hj ⟨hs3, hL⟩
                obtain ⟨c', hc1', hc2'⟩ := h5.atV hj
                unfold Lturn
                walk_at "rd"
                refine ⟨x1, c', rfl, hc2'.up hs3, hr' c' (List.mem_of_getElem? hc1'), fun H4 s4 => ⟨_, s4 _ _ hL, ?_, fun b' o e' => ?_, ?_⟩⟩
                · rw [List.length_map, List.length_map]
                  have : (List.take j r).length ≤ r.length := List.length_take_le' _ _
                  omega
                · rw [upd_ne (ne_of_none e' hD)]; exact s4 _ _ (hs3 b' o e')
                · rw [upd_same, List.take_succ, hc1', List.map_append, List.map_append]; rfl
              · rintro H3 ⟨hs3, hL⟩
                rw [hvl, List.take_length] at hL
                have s23 := s13.trans hs3
                walk_at "rd"
                refine ⟨D, r.map fun d => (treeN (stN m) d : Int), rfl, SqL.of hL, by rw [List.length_map]; omega, fun mm h1 h2 => ?_⟩
                obtain rfl := mx_of rl h1 h2
                have est : stN (m + 1) (.tuple (.str k0 :: t :: r)) = mxN (treeN (stN m)) r + (if k0 = "while" then 1 else 0) := hst
                refine ⟨_, SqT.of (s23 _ _ e2), _, atI_nn (by decide) rfl, ?_⟩
                walk_at "rd"
                by_cases kw : k0 = "while"
                · rw [if_pos kw]
                  rw [if_pos kw] at est
                  refine ⟨hs.trans s23, some (.ref b), some (.int ((mxN (treeN (stN m)) r : Nat) : Int)), v3, ?_⟩
                  rw [mx_take hc1, est, max_if]
                  congr 4
                  omega
                · rw [if_neg kw]
                  rw [if_neg kw] at est
                  refine ⟨hs.trans s23, some (.ref b), some (.int ((mxN (treeN (stN m)) r : Nat) : Int)), v3, ?_⟩
                  rw [mx_take hc1, est, max_if]
                  congr 4
                  omega
      · rintro σ H' ⟨hs, v1, v2, v3, rfl⟩
        refine hU _ _ ?_
        walk_at "rd"
        rw [hl, List.take_length]
        exact k _ hs
    | _ => cases ht
/-! ### what callers ask -/
def lettersOf (d : PyData) : Str := Txt.join "" (letL (treeL (stL 4) d))
theorem letL_sum (ws : List Str) : ((letL ws).map (fun x => x.length)).sum ≤ 26 := by
  have key : ∀ l : List Str, (∀ s ∈ l, isLetterS s = true) → (l.map (fun x => x.length)).sum = l.length := fun l => by
    induction l with
    | nil => exact fun _ => rfl
    | cons a r ih =>
      intro h
      rw [List.map_cons, List.sum_cons, ih fun s hs => h s (List.mem_cons_of_mem _ hs), letter_len (h a List.mem_cons_self), List.length_cons]
      omega
  rw [key _ fun s hs => letL_letter hs]
  exact letL_len ws
/-- told of a program, or refused -/
def spTold (K : PySem.W.Frag) (C : Addr) (R : PyData → Hp → VK → Prop) : Sp := fun vs H Q E => ∃ (x : V) (d : PyData), vs = [x] ∧ Dq K H x d ∧ (∀ e, progOfD d = some e → R e H Q) ∧ (progOfD d = none → ∀ dd H', Same H H' → H' dd = none → E (.ref C) (some dd) (upd H' dd (.xd [("given", x)])))
def rStr (g : PyData → Str) : PyData → Hp → VK → Prop := fun e H Q => ∀ H', Same H H' → Q (.str (g e)) H'
def rBl (g : PyData → Bool) : PyData → Hp → VK → Prop := fun e H Q => ∀ H', Same H H' → Q (.bl (g e)) H'
def rInt (g : PyData → Nat) : PyData → Hp → VK → Prop := fun e H Q => ∀ H', Same H H' → Q (.int (g e : Nat)) H'
def rDeeds (K : PySem.W.Frag) : PyData → Hp → VK → Prop := fun e H Q => ∀ y H', Same H H' → Dq K H' y (.tuple (treeL (stD 4) e)) → Q y H'
theorem sc_pl : FnScope ["program"] ["program"] (defScope (top 29)) := ⟨rfl, rfl, rfl, by decide +kernel, rfl, by decide +kernel, by decide +kernel⟩
theorem ok_pl {C : Addr} {f : Addr} {fd : FuncData} (T : Tx mg) (F : FD K "program_letters" (top 29) f fd) {f1 f2 : Addr} {fd1 fd2 : FuncData} (C1 : Cal P w K mg base (L2.CX P w) 26 "program_tree" ["program"] (spTT K C) f1 fd1) (C2 : Cal P w K mg base CX0 6 "tree_letters" ["tree"] (spTrL K 4) f2 fd2) : FnOk P w K mg base (L2.CX P w) 27 f fd ["program"] (spTold K C (rStr lettersOf)) := by
  obtain ⟨gprogram_tree, kprogram_tree, bprogram_tree, Fprogram_tree⟩ := C1
  obtain ⟨gtree_letters, ktree_letters, btree_letters, Ftree_letters⟩ := C2
  refine F.ok sc_pl (fun vs H Q E h => ?_) (fun cdv A outer s H vs Q E hr h => ?_)
  · obtain ⟨_, _, rfl, _⟩ := h
    rfl
  · obtain ⟨x, d, rfl, hx, k1, k2⟩ := h
    have nd := sc_pl.nd
    have zl : (400000 : Nat) ≤ sizeLine := by rw [sizeLine_eq]; decide
    refine ⟨_, (pss_one (ps_ret (pe_join pe_str (pe_call Ftree_letters (hr.mono (by omega)) rfl gtree_letters ktree_letters btree_letters .nil pass0 (pa_cons (pe_call Fprogram_tree (hr.mono (by omega)) rfl gprogram_tree kprogram_tree bprogram_tree .nil (passes_call (takes_of rfl rfl rfl rfl) (fun _ _ _ _ z => z)) (pa_cons (pv 0) pa_nil)) pa_nil))))), ?_⟩
    walk_at "rd"
    refine ⟨⟨_, rfl⟩, x, d, rfl, hx, fun e he y H1 s1 hy => ?_, k2⟩
    obtain ⟨ht, hc⟩ := progOfD_some he
    refine ⟨y, e, rfl, hy, ht, fun p H2 n2 s2 l2 => ⟨p, rfl, letL (treeL (stL 4) e), .inl (SqL.of l2), ?_, k1 e he _ (s1.trans s2)⟩⟩
    have h1 := letL_len (treeL (stL 4) e)
    have h2 := letL_sum (treeL (stL 4) e)
    have e0 : (Str.ofString "").length = 0 := by decide
    rw [e0, Nat.mul_zero]
    omega
theorem sc_do : FnScope ["program"] ["program"] (defScope (top 30)) := ⟨rfl, rfl, rfl, by decide +kernel, rfl, by decide +kernel, by decide +kernel⟩
theorem ok_do {C : Addr} {f : Addr} {fd : FuncData} (T : Tx mg) (F : FD K "deeds_of" (top 30) f fd) {f1 f2 : Addr} {fd1 fd2 : FuncData} (C1 : Cal P w K mg base (L2.CX P w) 26 "program_tree" ["program"] (spTT K C) f1 fd1) (C2 : Cal P w K mg base CX0 6 "tree_deeds" ["tree"] (spTD K 4) f2 fd2) : FnOk P w K mg base (L2.CX P w) 27 f fd ["program"] (spTold K C (rDeeds K)) := by
  obtain ⟨gprogram_tree, kprogram_tree, bprogram_tree, Fprogram_tree⟩ := C1
  obtain ⟨gtree_deeds, ktree_deeds, btree_deeds, Ftree_deeds⟩ := C2
  refine F.ok sc_do (fun vs H Q E h => ?_) (fun cdv A outer s H vs Q E hr h => ?_)
  · obtain ⟨_, _, rfl, _⟩ := h
    rfl
  · obtain ⟨x, d, rfl, hx, k1, k2⟩ := h
    have nd := sc_do.nd
    have zl : (400000 : Nat) ≤ sizeLine := by rw [sizeLine_eq]; decide
    refine ⟨_, (pss_one (ps_ret (pe_callTy call_tuple_of (by rfl) T.b_tuple (by decide +kernel) (pa_cons (pe_call Ftree_deeds (hr.mono (by omega)) rfl gtree_deeds ktree_deeds btree_deeds .nil pass0 (pa_cons (pe_call Fprogram_tree (hr.mono (by omega)) rfl gprogram_tree kprogram_tree bprogram_tree .nil (passes_call (takes_of rfl rfl rfl rfl) (fun _ _ _ _ z => z)) (pa_cons (pv 0) pa_nil)) pa_nil)) pa_nil)))), ?_⟩
    walk_at "rd"
    refine ⟨x, d, rfl, hx, fun e he y H1 s1 hy => ?_, k2⟩
    obtain ⟨ht, hc⟩ := progOfD_some he
    exact ⟨y, e, H1, rfl, Same.refl _, hy, ht, by omega, fun p H2 xs n2 s2 e2 D2 => ⟨p, rfl, xs, .inl ⟨SqL.of e2, fun l hl => k1 e he _ _ (s1.trans (s2.trans (same_new hl))) (.tup upd_same ((D2.up s2).up (same_new hl)))⟩⟩⟩
theorem sc_hl : FnScope ["program"] ["program"] (defScope (top 31)) := ⟨rfl, rfl, rfl, by decide +kernel, rfl, by decide +kernel, by decide +kernel⟩
theorem ok_hl {C : Addr} {f : Addr} {fd : FuncData} (T : Tx mg) (F : FD K "has_loop" (top 31) f fd) {f1 f2 : Addr} {fd1 fd2 : FuncData} (C1 : Cal P w K mg base (L2.CX P w) 26 "program_tree" ["program"] (spTT K C) f1 fd1) (C2 : Cal P w K mg base CX0 6 "loops_depth" ["tree"] (spLD K 4) f2 fd2) : FnOk P w K mg base (L2.CX P w) 27 f fd ["program"] (spTold K C (rBl fun e => decide (0 < treeN (stN 4) e))) := by
  obtain ⟨gprogram_tree, kprogram_tree, bprogram_tree, Fprogram_tree⟩ := C1
  obtain ⟨gloops_depth, kloops_depth, bloops_depth, Floops_depth⟩ := C2
  refine F.ok sc_hl (fun vs H Q E h => ?_) (fun cdv A outer s H vs Q E hr h => ?_)
  · obtain ⟨_, _, rfl, _⟩ := h
    rfl
  · obtain ⟨x, d, rfl, hx, k1, k2⟩ := h
    have nd := sc_hl.nd
    have zl : (400000 : Nat) ≤ sizeLine := by rw [sizeLine_eq]; decide
    refine ⟨_, (pss_one (ps_ret (pe_cmpR op_gt (pe_call Floops_depth (hr.mono (by omega)) rfl gloops_depth kloops_depth bloops_depth .nil pass0 (pa_cons (pe_call Fprogram_tree (hr.mono (by omega)) rfl gprogram_tree kprogram_tree bprogram_tree .nil (passes_call (takes_of rfl rfl rfl rfl) (fun _ _ _ _ z => z)) (pa_cons (pv 0) pa_nil)) pa_nil)) pe_int (nomark _)))), ?_⟩
    walk_at "rd"
    refine ⟨x, d, rfl, hx, fun e he y H1 s1 hy => ?_, k2⟩
    obtain ⟨ht, hc⟩ := progOfD_some he
    refine ⟨y, e, rfl, hy, ht, fun H2 s2 => ⟨_, rfl, ?_⟩⟩
    rw [show decide ((0 : Int) < ((treeN (stN 4) e : Nat) : Int)) = decide (0 < treeN (stN 4) e) by rw [decide_eq_decide]; omega]
    exact k1 e he _ (s1.trans s2)
theorem sc_ip : FnScope ["program"] ["program"] (defScope (top 32)) := ⟨rfl, rfl, rfl, by decide +kernel, rfl, by decide +kernel, by decide +kernel⟩
theorem ok_ip {C : Addr} {f : Addr} {fd : FuncData} (T : Tx mg) (F : FD K "is_plain" (top 32) f fd) {f1 f2 : Addr} {fd1 fd2 : FuncData} (C1 : Cal P w K mg base (L2.CX P w) 26 "program_tree" ["program"] (spTT K C) f1 fd1) (C2 : Cal P w K mg base CX0 6 "loops_depth" ["tree"] (spLD K 4) f2 fd2) : FnOk P w K mg base (L2.CX P w) 27 f fd ["program"] (spTold K C (rBl fun e => decide (treeN (stN 4) e < 2))) := by
  obtain ⟨gprogram_tree, kprogram_tree, bprogram_tree, Fprogram_tree⟩ := C1
  obtain ⟨gloops_depth, kloops_depth, bloops_depth, Floops_depth⟩ := C2
  refine F.ok sc_ip (fun vs H Q E h => ?_) (fun cdv A outer s H vs Q E hr h => ?_)
  · obtain ⟨_, _, rfl, _⟩ := h
    rfl
  · obtain ⟨x, d, rfl, hx, k1, k2⟩ := h
    have nd := sc_ip.nd
    have zl : (400000 : Nat) ≤ sizeLine := by rw [sizeLine_eq]; decide
    refine ⟨_, (pss_one (ps_ret (pe_cmpR op_lt (pe_call Floops_depth (hr.mono (by omega)) rfl gloops_depth kloops_depth bloops_depth .nil pass0 (pa_cons (pe_call Fprogram_tree (hr.mono (by omega)) rfl gprogram_tree kprogram_tree bprogram_tree .nil (passes_call (takes_of rfl rfl rfl rfl) (fun _ _ _ _ z => z)) (pa_cons (pv 0) pa_nil)) pa_nil)) pe_int (nomark _)))), ?_⟩
    walk_at "rd"
    refine ⟨x, d, rfl, hx, fun e he y H1 s1 hy => ?_, k2⟩
    obtain ⟨ht, hc⟩ := progOfD_some he
    refine ⟨y, e, rfl, hy, ht, fun H2 s2 => ⟨_, rfl, ?_⟩⟩
    rw [show decide (((treeN (stN 4) e : Nat) : Int) < 2) = decide (treeN (stN 4) e < 2) by rw [decide_eq_decide]; omega]
    exact k1 e he _ (s1.trans s2)
theorem sc_sn : FnScope ["program"] ["program"] (defScope (top 33)) := ⟨rfl, rfl, rfl, by decide +kernel, rfl, by decide +kernel, by decide +kernel⟩
theorem ok_sn {C : Addr} {f : Addr} {fd : FuncData} (T : Tx mg) (F : FD K "statements_number" (top 33) f fd) {f1 f2 : Addr} {fd1 fd2 : FuncData} (C1 : Cal P w K mg base (L2.CX P w) 26 "program_tree" ["program"] (spTT K C) f1 fd1) (C2 : Cal P w K mg base CX0 6 "count_statements" ["tree"] (spCnt K 4) f2 fd2) : FnOk P w K mg base (L2.CX P w) 27 f fd ["program"] (spTold K C (rInt (cntOf (cntSt 4)))) := by
  obtain ⟨gprogram_tree, kprogram_tree, bprogram_tree, Fprogram_tree⟩ := C1
  obtain ⟨gcount_statements, kcount_statements, bcount_statements, Fcount_statements⟩ := C2
  refine F.ok sc_sn (fun vs H Q E h => ?_) (fun cdv A outer s H vs Q E hr h => ?_)
  · obtain ⟨_, _, rfl, _⟩ := h
    rfl
  · obtain ⟨x, d, rfl, hx, k1, k2⟩ := h
    have nd := sc_sn.nd
    have zl : (400000 : Nat) ≤ sizeLine := by rw [sizeLine_eq]; decide
    refine ⟨_, (pss_one (ps_ret (pe_call Fcount_statements (hr.mono (by omega)) rfl gcount_statements kcount_statements bcount_statements .nil pass0 (pa_cons (pe_call Fprogram_tree (hr.mono (by omega)) rfl gprogram_tree kprogram_tree bprogram_tree .nil (passes_call (takes_of rfl rfl rfl rfl) (fun _ _ _ _ z => z)) (pa_cons (pv 0) pa_nil)) pa_nil)))), ?_⟩
    walk_at "rd"
    refine ⟨x, d, rfl, hx, fun e he y H1 s1 hy => ?_, k2⟩
    obtain ⟨ht, hc⟩ := progOfD_some he
    exact ⟨y, e, rfl, hy, ht, fun H2 s2 => k1 e he _ (s1.trans s2)⟩
end
end K38

set_option Elab.async false
set_option linter.all false
set_option maxRecDepth 100000
set_option maxHeartbeats 4000000
namespace K38
open PySem PySem.Spec PyProof.Rows L2 Rd Dt Dq Pk TL
local macro_rules | `(tactic| walk_at "rd") => `(tactic| try simp only [↓Ls.tLc_str, ↓Ls.sDPut_, ↓Rl.rReprL_, ↓Rl.tCallKS_, ↓tFld_, ↓sFld_, ↓tVar_, ↓tC_, ↓tM1, ↓tDNewK_, ↓tOp_, ↓tUn_, ↓rI_, ↓rI0_, ↓rU_, ↓eq_ii, ↓ne_ii, ↓eq_ss, ↓ne_ss, ↓eq_bb, ↓ne_bb, ↓tAndV_, ↓tOrV_, ↓tNotV_, ↓tIf_, ↓tTest_, ↓tB_, ↓tAnd_, ↓tOr_, ↓tNot_, ↓tChain_, ↓tNil_, ↓tCons_, ↓tTup_, ↓tLst_, ↓tCB_, ↓tCall_, ↓tSeq_, ↓tNext_, ↓tRet_, ↓tRetN_, ↓tDrop_, ↓tBreak_, ↓tNever_, ↓tIfS_, ↓tAsg_, ↓gName_, ↓gTup_, ↓gCons_, ↓gNil_, ↓gSub_, ↓tPar_, ↓tPar3_, ↓tSl_, ↓tNoPart_, ↓tPart_, ↓tBM_, ↓tFor_range1, ↓tFor_range2, ↓tFor_list, ↓tFor_tup, L2.start, List.headD_cons, List.headD_nil, List.tail_cons, List.map_cons, List.map_nil, List.length_cons, List.length_nil, List.replicate, List.append_nil, List.nil_append, List.cons_append, List.getElem?_cons_zero, List.getElem?_cons_succ, List.set_cons_zero, List.set_cons_succ, Option.some.injEq, V.int.injEq, V.bl.injEq, V.str.injEq, V.ref.injEq, exists_eq_left, exists_eq_left', exists_eq_right, exists_eq, exists_and_left, and_true, true_and, decide_eq_true_eq, Nat.reduceAdd, Nat.reduceSub, Nat.add_zero, Nat.zero_add, List.cons.injEq, Bool.not_eq_true', decide_eq_false_iff_not, eq_self, reduceCtorEq, Bool.false_eq_true, if_true, if_false, ite_true, ite_false, and_self, ↓tLc_range1, ↓tLc_range2, ↓tLc_list, ↓tLc_tup, ↓tYes_, wipe0, wipe1, ↓tCallS_, ↓rIxL_, ↓rIxT_, ↓rSlL_, ↓rCat_, ↓rSetL_, ↓rRep_, ↓rGcd_, ↓tCallK_, ↓gUnl_, ↓tRaise_, decide_true, decide_false, not_true_eq_false, not_false_eq_true, false_and, or_false, false_or, and_false, and_assoc, exists_const, forall_const, forall_eq'])

section
variable {P : Program} {w : World} {K : PySem.W.Frag} {mg : Str → Option Value} {base : Heap}
open Ls
/-! ### how often -/
def ofP (H0 : Hp) (a0 : Addr) (n : Nat) (ds : List PyData) (j : Nat) : L2.St → Hp → Prop := fun σ H => Same H0 H ∧ ∃ a b : Option V, σ = [some (.ref a0), some (.int ((ds.length + ((ds.take j).map fun c => cntSt n c - 1).sum : Nat))), a, b]
theorem sum_cast2 (f : PyData → Nat) (ds : List PyData) : (ds.map fun d => (f d : Int)).sum = (((ds.map f).sum : Nat) : Int) := sum_cast f ds
theorem cnt_less {n : Nat} : ∀ ds : List PyData, ds.length + (ds.map fun c => cntSt n c - 1).sum = (ds.map (cntSt n)).sum
  | [] => rfl
  | d :: ds => by
    have h1 := cntSt_pos n d
    have h2 := cnt_less (n := n) ds
    simp only [List.length_cons, List.map_cons, List.sum_cons]
    omega
theorem sc_of : FnScope ["_law_twigs_here", "_law_found", "_law_twig", "_law_part"] ["_law_twigs_here"] (defScope (top 59)) := ⟨rfl, rfl, rfl, by decide +kernel, rfl, by decide +kernel, by decide +kernel⟩
theorem ok_of {f : Addr} {fd : FuncData} (T : Tx mg) (n : Nat) (F : FD K "_law_often" (top 59) f fd) (C2 : Cal P w K mg base CX0 n "_law_often" ["_law_twigs_here"] (spCntP K n) f fd) : FnOk P w K mg base CX0 (n + 1) f fd ["_law_twigs_here"] (spCnt K n) := by
  obtain ⟨g_law_often, k_law_often, b_law_often, F_law_often⟩ := C2
  refine F.ok sc_of (fun vs H Q E h => ?_) (fun cdv A outer s H vs Q E hr h => ?_)
  · obtain ⟨_, _, rfl, _⟩ := h
    rfl
  · obtain ⟨x, d, rfl, hx, ht, k⟩ := h
    have nd := sc_of.nd
    have zl : (400000 : Nat) ≤ sizeLine := by rw [sizeLine_eq]; decide
    refine ⟨_, (pss_cons (ps_set (i := 1) nd rfl (Or.inl rfl) (pe_callB call_len_seq (by rfl) T.b_len PySem.boot_len (pa_cons (pv 0) pa_nil)))
        (pss_cons (ps_for (passes_of rfl) rfl (pi_tup (pv 0)) (pg_name (i := 2) nd rfl (Or.inl rfl)) (pss_one (ps_if (pt_cmpR op_in_seq (pe_ix (r := rIxT K) ix_tup (pv 2) pe_int (fun _ _ => rfl)) (pe_tup (pa_cons pe_str (pa_cons pe_str pa_nil))) rfl) (pss_one (ps_set (i := 1) nd rfl (Or.inl rfl) (pe_op op_add (pv 1) (pe_callB (cr_sum rfl) (by rfl) T.b_sum (by decide +kernel) (pa_cons (pe_lc (own := [("_law_part", 3)]) rfl nd (pi_tup (pe_slice (r := rSlT K) sl_tup (pv 2) (po_some pe_int) po_none)) (blkOk_by (N := ["_law_twigs_here", "_law_found", "_law_twig", "_law_part"]) (sc := defScope (top 59)) (by decide +kernel)) (fun _ _ _ _ _ => (pg_name (i := 3) nd rfl (Or.inl rfl))) (fun _ _ _ _ _ => pts_nil) (fun _ _ _ _ _ => (pe_call F_law_often (hr.mono (by omega)) rfl g_law_often k_law_often b_law_often .nil pass0 (pa_cons (pv 3) pa_nil)))) pa_nil))))) pss_nil)))
        (pss_one (ps_ret (pv 1))))), ?_⟩
    refine sq fun U hU => ?_
    cases hx with
    | tup e ha =>
      rename_i a0 xs ds
      walk_at "rd"
      have hl := ha.len
      have hds : ∀ d ∈ ds, isSt n d = true := List.all_eq_true.mp ht
      refine ⟨_, .inr (SqT.of e), hU _ _ ?_⟩
      clear hU
      rw [hl]
      refine sq fun U hU => ?_
      walk_at "rd"
      refine ⟨⟨_, SqT.of e⟩, ?_⟩
      refine for_t (xs := xs) (ofP H a0 n ds) ⟨Same.refl _, _, _, rfl⟩ (fun i σ H' _ hP => SqT.of (hP.1 _ _ e)) ?_ ?_
      · rintro i y σ H' hy ⟨hs, v1, v2, rfl⟩
        obtain ⟨c, hc1, hc2⟩ := ha.atV hy
        have hcs : isSt n c = true := hds c (List.mem_of_getElem? hc1)
        replace hc2 := hc2.up hs
        walk_at "rd"
        by_cases dd : isDeed c = true
        · obtain ⟨k0, b, ss, rfl, eb, n1, n2, wc, hg, sl⟩ := deed_dq dd hc2
          refine ⟨b, rfl, _, SqT.of eb, _, atI_nn (by decide) rfl, by decide, fun p1 hp1 => in2 upd_same ⟨_, rfl, ?_⟩⟩
          rw [if_neg (by rw [decide_eq_false n1, decide_eq_false n2]; decide)]
          have s1 : Same H' (upd H' p1 (.tup [.str "if", .str "while"])) := same_new hp1
          refine ⟨hs.trans s1, some (.ref b), v2, ?_⟩
          rw [sum_step (f := fun c => cntSt n c - 1) hc1, (deed_plain dd n).1]
          rfl
        · skip
          cases n with
          | zero => exact absurd hcs dd
          | succ m =>
            obtain ⟨k0, t, r, rfl, hk, htt, hr', hstL, hstD, hstN, hcnt⟩ := st_nest2 hcs dd
            have rl : r.length = 1 ∨ r.length = 2 := by rcases hk with z | z; exact .inr z.2; exact .inl z.2
            cases hc2 with
            | tup e2 h2 =>
              rename_i b ys
              cases h2 with
              | cons h3 h2 =>
              cases h2 with
              | cons h4 h5 =>
                cases h3
                rename_i vt vs _
                have hvl := h5.len
                refine ⟨b, rfl, _, SqT.of e2, _, atI_nn (by decide) rfl, by decide, fun p1 hp1 => in2 upd_same ⟨_, rfl, ?_⟩⟩
                rw [if_pos (by rcases hk with ⟨z, _⟩ | ⟨z, _⟩ <;> (rw [z]; decide))]
                have s1 : Same H' (upd H' p1 (.tup [.str "if", .str "while"])) := same_new hp1
                have e21 := s1 _ _ e2
                replace h4 := h4.up s1
                replace h5 := h5.up s1
                generalize (upd H' p1 (HO.tup [V.str (Str.ofString "if"), V.str (Str.ofString "while")])) = H1 at s1 e21 h4 h5 ⊢
                refine slT (k := 2) e21 (by decide) (by simp) fun q hq => ?_
                have s3 := same_new (o := .tup (((V.str k0) :: vt :: vs).drop 2)) hq
                have eq' : (upd H1 q (HO.tup (((V.str k0) :: vt :: vs).drop 2))) q = some (.tup vs) := upd_same
                generalize (upd H1 q (HO.tup (((V.str k0) :: vt :: vs).drop 2))) = H2 at s3 eq' ⊢
                replace h5 := h5.up s3
                refine ⟨q, rfl, ⟨_, SqT.of eq'⟩, lc_t (xs := vs) (cmP H2 (cntOf (cntSt m)) r) fun D hD => ⟨⟨same_new hD, upd_same⟩, fun j H3 _ hP => SqT.of (hP.1 _ _ eq'), ?_, ?_⟩⟩
                · rintro j x1 H3 hj ⟨hs3, hL⟩
                  obtain ⟨c', hc1', hc2'⟩ := h5.atV hj
                  unfold Lturn
                  walk_at "rd"
                  refine ⟨x1, c', rfl, hc2'.up hs3, hr' c' (List.mem_of_getElem? hc1'), fun H4 s4 => ⟨_, s4 _ _ hL, ?_, fun b' o e' => ?_, ?_⟩⟩
                  · rw [List.length_map, List.length_map]
                    have : (List.take j r).length ≤ r.length := List.length_take_le' _ _
                    omega
                  · rw [upd_ne (ne_of_none e' hD)]; exact s4 _ _ (hs3 b' o e')
                  · rw [upd_same, List.take_succ, hc1', List.map_append, List.map_append]; rfl
                · rintro H3 ⟨hs3, hL⟩
                  refine ⟨D, _, rfl, SqL.of hL, ?_⟩
                  walk_at "rd"
                  rw [hvl, List.take_length]
                  refine ⟨hs.trans (s1.trans (s3.trans hs3)), some (.ref b), v2, ?_⟩
                  rw [sum_cast, sum_step (f := fun c => cntSt (m + 1) c - 1) hc1, hcnt, ← Int.natCast_add]
                  congr 5
                  omega
      · rintro σ H' ⟨hs, v1, v2, rfl⟩
        refine hU _ _ ?_
        walk_at "rd"
        rw [hl, List.take_length, cnt_less]
        exact k _ hs
    | _ => cases ht
/-! ### loops within loops -/
def neP (H0 : Hp) (a0 : Addr) (n : Nat) (ds : List PyData) (j : Nat) : L2.St → Hp → Prop := fun σ H => Same H0 H ∧ ∃ a b : Option V, σ = [some (.ref a0), some (.int (mxN (stN n) (ds.take j) : Nat)), a, b]
def niP (H0 : Hp) (σ0 : V) (y : V) (pre : Nat) (f : PyData → Nat) (r : List PyData) (j : Nat) : L2.St → Hp → Prop := fun σ H => Same H0 H ∧ ∃ b : Option V, σ = [some σ0, some (.int ((max pre (mxN f (r.take j)) : Nat))), some y, b]
theorem mx_add {f : PyData → Nat} {w : Nat} {r : List PyData} (hr : r.length = 1 ∨ r.length = 2) : mxN (fun c => f c + w) r = mxN f r + w := by
  match r, hr with
  | [a], _ =>
    show max 0 (f a + w) = max 0 (f a) + w
    omega
  | [a, b], _ =>
    show max (max 0 (f a + w)) (f b + w) = max (max 0 (f a)) (f b) + w
    omega
  | [], h => rcases h with h | h <;> cases h
  | _ :: _ :: _ :: _, h => rcases h with h | h <;> simp at h
theorem sc_ne : FnScope ["_law_twigs_here", "_law_found", "_law_twig", "_law_part"] ["_law_twigs_here"] (defScope (top 58)) := ⟨rfl, rfl, rfl, by decide +kernel, rfl, by decide +kernel, by decide +kernel⟩
theorem ok_ne {f : Addr} {fd : FuncData} (T : Tx mg) (n : Nat) (F : FD K "_law_nest" (top 58) f fd) (C2 : Cal P w K mg base CX0 n "_law_nest" ["_law_twigs_here"] (spLDP K n) f fd) : FnOk P w K mg base CX0 (n + 1) f fd ["_law_twigs_here"] (spLD K n) := by
  obtain ⟨g_law_nest, k_law_nest, b_law_nest, F_law_nest⟩ := C2
  refine F.ok sc_ne (fun vs H Q E h => ?_) (fun cdv A outer s H vs Q E hr h => ?_)
  · obtain ⟨_, _, rfl, _⟩ := h
    rfl
  · obtain ⟨x, d, rfl, hx, ht, k⟩ := h
    have nd := sc_ne.nd
    have zl : (400000 : Nat) ≤ sizeLine := by rw [sizeLine_eq]; decide
    refine ⟨_, (pss_cons (ps_set (i := 1) nd rfl (Or.inl rfl) pe_int)
        (pss_cons (ps_for (passes_of rfl) rfl (pi_tup (pv 0)) (pg_name (i := 2) nd rfl (Or.inl rfl)) (pss_one (ps_if (pt_cmpR op_in_seq (pe_ix (r := rIxT K) ix_tup (pv 2) pe_int (fun _ _ => rfl)) (pe_tup (pa_cons pe_str (pa_cons pe_str pa_nil))) rfl) (pss_one (ps_for (passes_of rfl) rfl (pi_tup (pe_slice (r := rSlT K) sl_tup (pv 2) (po_some pe_int) po_none)) (pg_name (i := 3) nd rfl (Or.inl rfl)) (pss_one (ps_set (i := 1) nd rfl (Or.inl rfl) (pe_callB (call_max2 rfl) (by rfl) T.b_max (by decide +kernel) (pa_cons (pv 1) (pa_cons (pe_op op_add (pe_call F_law_nest (hr.mono (by omega)) rfl g_law_nest k_law_nest b_law_nest .nil pass0 (pa_cons (pv 3) pa_nil)) (pe_callTy call_int1 (by rfl) T.b_int (by decide +kernel) (pa_cons (pe_cmpR op_eq (pe_ix (r := rIxT K) ix_tup (pv 2) pe_int (fun _ _ => rfl)) pe_str (nomark _)) pa_nil))) pa_nil))))))) pss_nil)))
        (pss_one (ps_ret (pv 1))))), ?_⟩
    refine sq fun U hU => ?_
    walk_at "rd"
    refine hU _ _ ?_
    clear hU
    cases hx with
    | tup e ha =>
      rename_i a0 xs ds
      have hl := ha.len
      have hds : ∀ d ∈ ds, isSt n d = true := List.all_eq_true.mp ht
      have e0 : treeN (stN n) (.tuple ds) = mxN (stN n) ds := rfl
      rw [e0] at k
      refine sq fun U hU => ?_
      walk_at "rd"
      refine ⟨⟨_, SqT.of e⟩, ?_⟩
      refine for_t (xs := xs) (neP H a0 n ds) ⟨Same.refl _, _, _, rfl⟩ (fun i σ H' _ hP => SqT.of (hP.1 _ _ e)) ?_ ?_
      · rintro i y σ H' hy ⟨hs, v1, v2, rfl⟩
        obtain ⟨c, hc1, hc2⟩ := ha.atV hy
        have hcs : isSt n c = true := hds c (List.mem_of_getElem? hc1)
        replace hc2 := hc2.up hs
        walk_at "rd"
        by_cases dd : isDeed c = true
        · obtain ⟨k0, b, ss, rfl, eb, n1, n2, wc, hg, sl⟩ := deed_dq dd hc2
          refine ⟨b, rfl, _, SqT.of eb, _, atI_nn (by decide) rfl, by decide, fun p1 hp1 => in2 upd_same ⟨_, rfl, ?_⟩⟩
          rw [if_neg (by rw [decide_eq_false n1, decide_eq_false n2]; decide)]
          have s1 : Same H' (upd H' p1 (.tup [.str "if", .str "while"])) := same_new hp1
          refine ⟨hs.trans s1, some (.ref b), v2, ?_⟩
          rw [mx_take hc1, (deed_flat dd n).2.2, Nat.max_zero]
        · skip
          cases n with
          | zero => exact absurd hcs dd
          | succ m =>
            obtain ⟨k0, t, r, rfl, hk, htt, hr', hstL, hstD, hstN, hcnt⟩ := st_nest2 hcs dd
            have rl : r.length = 1 ∨ r.length = 2 := by rcases hk with z | z; exact .inr z.2; exact .inl z.2
            cases hc2 with
            | tup e2 h2 =>
              rename_i b ys
              cases h2 with
              | cons h3 h2 =>
              cases h2 with
              | cons h4 h5 =>
                cases h3
                rename_i vt vs _
                have hvl := h5.len
                refine ⟨b, rfl, _, SqT.of e2, _, atI_nn (by decide) rfl, by decide, fun p1 hp1 => in2 upd_same ⟨_, rfl, ?_⟩⟩
                rw [if_pos (by rcases hk with ⟨z, _⟩ | ⟨z, _⟩ <;> (rw [z]; decide))]
                have s1 : Same H' (upd H' p1 (.tup [.str "if", .str "while"])) := same_new hp1
                have e21 := s1 _ _ e2
                replace h4 := h4.up s1
                replace h5 := h5.up s1
                generalize (upd H' p1 (HO.tup [V.str (Str.ofString "if"), V.str (Str.ofString "while")])) = H1 at s1 e21 h4 h5 ⊢
                refine slT (k := 2) e21 (by decide) (by simp) fun q hq => ?_
                have s3 := same_new (o := .tup (((V.str k0) :: vt :: vs).drop 2)) hq
                have eq' : (upd H1 q (HO.tup (((V.str k0) :: vt :: vs).drop 2))) q = some (.tup vs) := upd_same
                generalize (upd H1 q (HO.tup (((V.str k0) :: vt :: vs).drop 2))) = H2 at s3 eq' ⊢
                replace h5 := h5.up s3
                have e22 := s3 _ _ e21
                have est : stN (m + 1) (.tuple (.str k0 :: t :: r)) = mxN (treeN (stN m)) r + (if k0 = "while" then 1 else 0) := hstN
                refine ⟨q, rfl, ⟨_, SqT.of eq'⟩, ?_⟩
                refine for_t (xs := vs) (niP H2 (.ref a0) (.ref b) (mxN (stN (m + 1)) (ds.take i)) (fun c => treeN (stN m) c + (if k0 = "while" then 1 else 0)) r) ⟨Same.refl _, v2, ?_⟩ (fun i σ H' _ hP => SqT.of (hP.1 _ _ eq')) ?_ ?_
                · rw [List.take_zero]
                  show _ = [some (.ref a0), some (.int ((max (mxN (stN (m + 1)) (ds.take i)) 0 : Nat) : Int)), some (.ref b), v2]
                  rw [Nat.max_zero]
                · rintro j x1 σ H3 hj ⟨hs3, w1, rfl⟩
                  obtain ⟨c', hc1', hc2'⟩ := h5.atV hj
                  walk_at "rd"
                  refine ⟨x1, c', rfl, hc2'.up hs3, hr' c' (List.mem_of_getElem? hc1'), fun H4 s4 => ?_⟩
                  walk_at "rd"
                  refine ⟨_, SqT.of (s4 _ _ (hs3 _ _ e22)), _, atI_nn (by decide) rfl, ?_⟩
                  walk_at "rd"
                  refine ⟨hs3.trans s4, some x1, ?_⟩
                  rw [mx_take hc1']
                  by_cases kw : k0 = "while"
                  · simp only [if_pos kw]
                    congr 4
                    split <;> omega
                  · simp only [if_neg kw]
                    congr 4
                    split <;> omega
                · rintro σ H3 ⟨hs3, w1, rfl⟩
                  refine ⟨hs.trans (s1.trans (s3.trans hs3)), some (.ref b), w1, ?_⟩
                  rw [mx_take hc1, est, hvl, List.take_length, mx_add rl]
      · rintro σ H' ⟨hs, v1, v2, rfl⟩
        refine hU _ _ ?_
        walk_at "rd"
        rw [hl, List.take_length]
        exact k _ hs
    | _ => cases ht
end
end K38

set_option Elab.async false
set_option linter.all false
set_option maxRecDepth 100000
set_option maxHeartbeats 4000000
namespace K38
open PySem PySem.Spec PyProof.Rows L2 Rd Dt Dq Pk TL
local macro_rules | `(tactic| walk_at "rd") => `(tactic| try simp only [↓Ls.tLc_str, ↓Ls.sDPut_, ↓Rl.rReprL_, ↓Rl.tCallKS_, ↓tFld_, ↓sFld_, ↓tVar_, ↓tC_, ↓tM1, ↓tDNewK_, ↓tOp_, ↓tUn_, ↓rI_, ↓rI0_, ↓rU_, ↓eq_ii, ↓ne_ii, ↓eq_ss, ↓ne_ss, ↓eq_bb, ↓ne_bb, ↓tAndV_, ↓tOrV_, ↓tNotV_, ↓tIf_, ↓tTest_, ↓tB_, ↓tAnd_, ↓tOr_, ↓tNot_, ↓tChain_, ↓tNil_, ↓tCons_, ↓tTup_, ↓tLst_, ↓tCB_, ↓tCall_, ↓tSeq_, ↓tNext_, ↓tRet_, ↓tRetN_, ↓tDrop_, ↓tBreak_, ↓tNever_, ↓tIfS_, ↓tAsg_, ↓gName_, ↓gTup_, ↓gCons_, ↓gNil_, ↓gSub_, ↓tPar_, ↓tPar3_, ↓tSl_, ↓tNoPart_, ↓tPart_, ↓tBM_, ↓tFor_range1, ↓tFor_range2, ↓tFor_list, ↓tFor_tup, L2.start, List.headD_cons, List.headD_nil, List.tail_cons, List.map_cons, List.map_nil, List.length_cons, List.length_nil, List.replicate, List.append_nil, List.nil_append, List.cons_append, List.getElem?_cons_zero, List.getElem?_cons_succ, List.set_cons_zero, List.set_cons_succ, Option.some.injEq, V.int.injEq, V.bl.injEq, V.str.injEq, V.ref.injEq, exists_eq_left, exists_eq_left', exists_eq_right, exists_eq, exists_and_left, and_true, true_and, decide_eq_true_eq, Nat.reduceAdd, Nat.reduceSub, Nat.add_zero, Nat.zero_add, List.cons.injEq, Bool.not_eq_true', decide_eq_false_iff_not, eq_self, reduceCtorEq, Bool.false_eq_true, if_true, if_false, ite_true, ite_false, and_self, ↓tLc_range1, ↓tLc_range2, ↓tLc_list, ↓tLc_tup, ↓tYes_, wipe0, wipe1, ↓tCallS_, ↓rIxL_, ↓rIxT_, ↓rSlL_, ↓rCat_, ↓rSetL_, ↓rRep_, ↓rGcd_, ↓tCallK_, ↓gUnl_, ↓tRaise_, decide_true, decide_false, not_true_eq_false, not_false_eq_true, false_and, or_false, false_or, and_false, and_assoc, exists_const, forall_const, forall_eq'])

section
variable {P : Program} {w : World} {K : PySem.W.Frag} {mg : Str → Option Value} {base : Heap}
open Ls
/-! ### the law's deeds -/
def acP (K : PySem.W.Frag) (H0 H : Hp) (a0 : Addr) (n : Nat) (ds : List PyData) (j : Nat) : L2.St → Hp → Prop := fun σ H' => Same H H' ∧ ∃ (p : Addr) (xs : List V) (a b : Option V), H p = none ∧ H' p = some (.lst xs) ∧ DqAll K H0 xs ((ds.take j).flatMap (stD n)) ∧ σ = [some (.ref a0), some (.ref p), a, b]
def aiP (K : PySem.W.Frag) (H0 H : Hp) (q : Addr) (vs : List V) (f : PyData → List PyData) (pre r : List PyData) (x y : V) (j : Nat) : L2.St → Hp → Prop := fun σ H' => Same H H' ∧ H' q = some (.tup vs) ∧ ∃ (p : Addr) (xs : List V) (b : Option V), H p = none ∧ H' p = some (.lst xs) ∧ DqAll K H0 xs (pre ++ (r.take j).flatMap f) ∧ σ = [some x, some (.ref p), some y, b]
theorem sc_ac : FnScope ["_law_twigs_here", "_law_found", "_law_twig", "_law_part"] ["_law_twigs_here"] (defScope (top 57)) := ⟨rfl, rfl, rfl, by decide +kernel, rfl, by decide +kernel, by decide +kernel⟩
theorem ok_ac {f : Addr} {fd : FuncData} (T : Tx mg) (n : Nat) (F : FD K "_law_acts" (top 57) f fd) (C2 : Cal P w K mg base CX0 n "_law_acts" ["_law_twigs_here"] (spTDP K n) f fd) : FnOk P w K mg base CX0 (n + 1) f fd ["_law_twigs_here"] (spTD K n) := by
  obtain ⟨g_law_acts, k_law_acts, b_law_acts, F_law_acts⟩ := C2
  refine F.ok sc_ac (fun vs H Q E h => ?_) (fun cdv A outer s H vs Q E hr h => ?_)
  · obtain ⟨_, _, _, rfl, _⟩ := h
    rfl
  · obtain ⟨x, d, H0, rfl, s00, hx, ht, hcn, k⟩ := h
    have nd := sc_ac.nd
    have zl : (400000 : Nat) ≤ sizeLine := by rw [sizeLine_eq]; decide
    refine ⟨_, (pss_cons (ps_set (i := 1) nd rfl (Or.inl rfl) (pe_lst pa_nil))
        (pss_cons (ps_for (passes_of rfl) rfl (pi_tup (pv 0)) (pg_name (i := 2) nd rfl (Or.inl rfl)) (pss_one (ps_if (pt_cmpR op_in_seq (pe_ix (r := rIxT K) ix_tup (pv 2) pe_int (fun _ _ => rfl)) (pe_tup (pa_cons pe_str (pa_cons pe_str pa_nil))) rfl) (pss_one (ps_for (passes_of rfl) rfl (pi_tup (pe_slice (r := rSlT K) sl_tup (pv 2) (po_some pe_int) po_none)) (pg_name (i := 3) nd rfl (Or.inl rfl)) (pss_one (ps_set (i := 1) nd rfl (Or.inl rfl) (pe_op op_cat (pv 1) (pe_call F_law_acts (hr.mono (by omega)) rfl g_law_acts k_law_acts b_law_acts .nil pass0 (pa_cons (pv 3) pa_nil))))))) (pss_one (ps_expr (pe_bm PySem.F.plainAttrs_list PySem.F.slot_list_append PySem.F.type_list_append mt_append (pv 1) (pa_cons (pv 2) pa_nil)))))))
        (pss_one (ps_ret (pv 1))))), ?_⟩
    refine sq fun U hU => ?_
    walk_at "rd"
    refine ⟨by decide, fun p hp => hU _ _ ?_⟩
    clear hU
    have s0 : Same H (upd H p (.lst [])) := same_new hp
    cases hx with
    | tup e ha =>
      rename_i a0 xs ds
      have hl := ha.len
      have hds : ∀ d ∈ ds, isSt n d = true := List.all_eq_true.mp ht
      have e0 : treeL (stD n) (.tuple ds) = ds.flatMap (stD n) := rfl
      rw [e0] at k
      have hcn' : (ds.map (cntSt n)).sum ≤ 1000 := hcn
      refine sq fun U hU => ?_
      walk_at "rd"
      refine ⟨⟨_, SqT.of (s0 _ _ (s00 _ _ e))⟩, ?_⟩
      refine for_t (xs := xs) (acP K H0 H a0 n ds) ⟨s0, p, [], none, none, hp, upd_same, .nil, rfl⟩ (fun i σ H' _ hP => SqT.of (hP.1 _ _ (s00 _ _ e))) ?_ ?_
      · rintro i y σ H' hy ⟨hs, pf, zs, v1, v2, hpf, hz, hD, rfl⟩
        obtain ⟨c, hc1, hc20⟩ := ha.atV hy
        have hcs : isSt n c = true := hds c (List.mem_of_getElem? hc1)
        have hc2 := (hc20.up s00).up hs
        have zlen : zs.length ≤ 1000 := by
          rw [hD.len]
          exact Nat.le_trans (flat_len_sum _ fun d hd => hds d (List.mem_of_mem_take hd)) (Nat.le_trans (take_sum_le _ ds i) hcn')
        have pn : ∀ {b o}, H b = some o → b ≠ pf := fun e => ne_of_none e hpf
        walk_at "rd"
        by_cases dd : isDeed c = true
        · obtain ⟨k0, b, ss, rfl, eb, n1, n2, wc, hg, sl⟩ := deed_dq dd hc2
          refine ⟨b, rfl, _, SqT.of eb, _, atI_nn (by decide) rfl, by decide, fun p1 hp1 => in2 upd_same ⟨_, rfl, ?_⟩⟩
          rw [if_neg (by rw [decide_eq_false n1, decide_eq_false n2]; decide)]
          have s1 : Same H' (upd H' p1 (.tup [.str "if", .str "while"])) := same_new hp1
          refine ⟨.inl ⟨rfl, _, SqL.of (s1 _ _ hz)⟩, pf, zs, _, rfl, rfl, s1 _ _ hz, by omega, fun b' o e' => ?_, pf, _, some (.ref b), v2, hpf, upd_same, ?_, rfl⟩
          · rw [upd_ne (pn e')]; exact s1 _ _ (hs _ _ e')
          · rw [flat_take hc1, (deed_flat dd n).2.1]
            exact hD.append (.cons hc20 .nil)
        · have h50 := hc20
          cases n with
          | zero => exact absurd hcs dd
          | succ m =>
            obtain ⟨k0, t, r, rfl, hk, htt, hr', hstL, hstD, hstN, hcnt⟩ := st_nest2 hcs dd
            have rl : r.length = 1 ∨ r.length = 2 := by rcases hk with z | z; exact .inr z.2; exact .inl z.2
            cases hc2 with
            | tup e2 h2 =>
              rename_i b ys
              cases h2 with
              | cons h3 h2 =>
              cases h2 with
              | cons h4 h5 =>
                cases h3
                rename_i vt vs _
                have hvl := h5.len
                refine ⟨b, rfl, _, SqT.of e2, _, atI_nn (by decide) rfl, by decide, fun p1 hp1 => in2 upd_same ⟨_, rfl, ?_⟩⟩
                rw [if_pos (by rcases hk with ⟨z, _⟩ | ⟨z, _⟩ <;> (rw [z]; decide))]
                have s1 : Same H' (upd H' p1 (.tup [.str "if", .str "while"])) := same_new hp1
                have e21 := s1 _ _ e2
                replace h4 := h4.up s1
                replace h5 := h5.up s1
                generalize (upd H' p1 (HO.tup [V.str (Str.ofString "if"), V.str (Str.ofString "while")])) = H1 at s1 e21 h4 h5 ⊢
                refine slT (k := 2) e21 (by decide) (by simp) fun q hq => ?_
                have s3 := same_new (o := .tup (((V.str k0) :: vt :: vs).drop 2)) hq
                have eq' : (upd H1 q (HO.tup (((V.str k0) :: vt :: vs).drop 2))) q = some (.tup vs) := upd_same
                generalize (upd H1 q (HO.tup (((V.str k0) :: vt :: vs).drop 2))) = H2 at s3 eq' ⊢
                replace h5 : DqAll K H0 vs r := by
                  cases h50 with
                  | tup g1 g2 =>
                    have g3 := hs _ _ (s00 _ _ g1)
                    rw [e2] at g3
                    injection g3 with g3
                    injection g3 with g3
                    subst g3
                    cases g2 with
                    | cons _ g4 =>
                      cases g4 with
                      | cons _ g5 => exact g5
                have s13 := s1.trans s3
                refine ⟨q, rfl, ⟨_, SqT.of eq'⟩, ?_⟩
                refine for_t (xs := vs) (aiP K H0 H q vs (treeL (stD m)) ((ds.take i).flatMap (stD (m + 1))) r (.ref a0) (.ref b)) ⟨hs.trans s13, eq', pf, zs, v2, hpf, s13 _ _ hz, by rw [List.take_zero, List.flatMap_nil, List.append_nil]; exact hD, rfl⟩ (fun i σ H' _ hP => SqT.of hP.2.1) ?_ ?_
                · rintro j x1 σ H4 hj ⟨hs4, eq4, p4, ws, w4, hp4, hw4, hD4, rfl⟩
                  obtain ⟨c', hc1', hc2'⟩ := h5.atV hj
                  have jm := List.mem_of_getElem? hc1'
                  have lpre : ((ds.take i).flatMap (stD (m + 1))).length ≤ 1000 := by rw [← hD.len]; exact zlen
                  have csum : (r.map (cntOf (cntSt m))).sum ≤ 1000 := by
                    have h1 := mem_sum_le (cntSt (m + 1)) ds _ (List.mem_of_getElem? hc1)
                    omega
                  have lr : ((r.take j).flatMap (treeL (stD m))).length ≤ 1000 := Nat.le_trans (flat_len_tree _ fun d hd => hr' d (List.mem_of_mem_take hd)) (Nat.le_trans (take_sum_le _ r j) csum)
                  have cle : cntOf (cntSt m) c' ≤ 1000 := Nat.le_trans (mem_sum_le (cntOf (cntSt m)) r c' jm) csum
                  walk_at "rd"
                  have s04 : Same H0 H4 := s00.trans hs4
                  refine ⟨x1, c', H0, rfl, s04, hc2', hr' c' jm, cle, fun p5 H5 ws5 n5 s5 e5 D5 => ?_⟩
                  have wl := hD4.len
                  have wl5 := D5.len
                  have l5 : (treeL (stD m) c').length ≤ 1000 := by
                    have := flat_len_tree [c'] (fun d hd => by rw [List.mem_singleton.mp hd]; exact hr' c' jm)
                    simp only [List.flatMap_cons, List.flatMap_nil, List.append_nil, List.map_cons, List.map_nil, List.sum_cons, List.sum_nil] at this
                    omega
                  rw [List.length_append] at wl
                  refine ⟨p5, rfl, ws, s5 _ _ hw4, ws5, e5, by omega, fun q6 n6 => ⟨hs4.trans (s5.trans (same_new n6)), same_new n6 _ _ (s5 _ _ eq4), q6, _, some x1, ?_, upd_same, ?_, rfl⟩⟩
                  · cases z : H q6 with
                    | none => rfl
                    | some o => rw [s5 _ _ (hs4 _ _ z)] at n6; cases n6
                  · rw [flat_take hc1', ← List.append_assoc]
                    exact hD4.append D5
                · rintro σ H4 ⟨hs4, eq4, p4, ws, w4, hp4, hw4, hD4, rfl⟩
                  refine ⟨hs4, p4, ws, some (.ref b), w4, hp4, hw4, ?_, rfl⟩
                  rw [flat_take hc1, hstD]
                  rw [hvl, List.take_length] at hD4
                  exact hD4
      · rintro σ H' ⟨hs, pf, zs, v1, v2, hpf, hz, hD, rfl⟩
        refine hU _ _ ?_
        walk_at "rd"
        rw [hl, List.take_length] at hD
        exact k pf H' zs hpf hs hz hD
    | _ => cases ht
/-! ### the law's letters -/
theorem test_dq {H : Hp} {y : V} {t : PyData} (ht : isTest t = true) (h : Dq K H y t) : ∃ (a0 a1 : Addr) (xs : List V) (j : Str) (cs : List PyData), y = .ref a0 ∧ H a0 = some (.tup [.str j, .ref a1]) ∧ H a1 = some (.tup xs) ∧ DqAll K H xs cs ∧ t = .tuple [.str j, .tuple cs] ∧ cs.length ≤ 3 ∧ ∀ c ∈ cs, isComp c = true := by
  obtain ⟨j, cs, rfl, _, hl3, hc⟩ := test_cases ht
  cases h with
  | tup e h2 =>
    cases h2 with
    | cons h3 h4 =>
      cases h3
      cases h4 with
      | cons h5 h6 =>
        cases h6
        cases h5 with
        | tup e2 h7 => exact ⟨_, _, _, _, _, rfl, e, e2, h7, rfl, hl3.2, hc⟩
theorem inV_strs (s : Str) : ∀ ms : List Str, inV (.str s) (ms.map V.str) = decide (s ∈ ms)
  | [] => rfl
  | m :: ms => by
    have ih := inV_strs s ms
    unfold inV at ih ⊢
    rw [List.map_cons, List.any_cons, ih, eqV_ss, Bool.eq_iff_iff, Bool.or_eq_true, decide_eq_true_eq, decide_eq_true_eq, decide_eq_true_eq, List.mem_cons]
    exact ⟨fun z => z.elim (fun e => .inl e.symm) .inr, fun z => z.elim (fun e => .inl e.symm) .inr⟩
theorem flat_strs (ms : List Str) : (ms.map V.str).all flatV = true := List.all_eq_true.mpr fun x hx => by
  obtain ⟨s, _, rfl⟩ := List.mem_map.mp hx
  rfl
/-- a list of words, and which letters are among them -/
def WL (H : Hp) (q : Addr) (b : Nat) (ws : List Str) : Prop := ∃ ms : List Str, H q = some (.lst (ms.map V.str)) ∧ ms.length ≤ b ∧ ∀ c ∈ abcL, c ∈ ms ↔ c ∈ ws
def spSg (K : PySem.W.Frag) (n : Nat) : Sp := fun vs H Q _ => ∃ (x : V) (d : PyData), vs = [x] ∧ Dq K H x d ∧ treeOf (isSt n) d = true ∧ cntOf (cntSt n) d ≤ 1000 ∧ ∀ p H', Same H H' → LT H' p (treeL (stL n) d) → Q (.ref p) H'
def spSgP (K : PySem.W.Frag) : Nat → Sp
  | 0 => fun _ _ _ _ => False
  | n + 1 => spSg K n
def sgP (H0 : Hp) (a0 : Addr) (n : Nat) (ds : List PyData) (j : Nat) : L2.St → Hp → Prop := fun σ H => Same H0 H ∧ ∃ (q : Addr) (a b c d e f : Option V), WL H q (60 * j) ((ds.take j).flatMap (stL n)) ∧ σ = [some (.ref a0), some (.ref q), a, b, c, d, e, f]
def sqP (H0 : Hp) (x y : V) (b0 : Nat) (pre : List Str) (cs : List PyData) (e f : Option V) (j : Nat) : L2.St → Hp → Prop := fun σ H => Same H0 H ∧ ∃ (q : Addr) (b c d : Option V), WL H q (b0 + 2 * j) (pre ++ (cs.take j).flatMap wordsOf) ∧ σ = [some x, some (.ref q), some y, b, c, d, e, f]
def siP (H0 : Hp) (x y : V) (b0 : Nat) (pre : List Str) (g : PyData → List Str) (r : List PyData) (b c d f : Option V) (j : Nat) : L2.St → Hp → Prop := fun σ H => Same H0 H ∧ ∃ (q : Addr) (e : Option V), WL H q (b0 + 26 * j) (pre ++ (r.take j).flatMap g) ∧ σ = [some x, some (.ref q), some y, b, c, d, e, f]
def abP (H0 : Hp) (ms : List Str) (D : Addr) (j : Nat) (H : Hp) : Prop := Same H0 H ∧ H D = some (.lst ((((abc.cps.toList.take j).map sg).filter fun c => decide (c ∈ ms)).map V.str))
theorem sc_sg : FnScope ["_law_twigs_here", "_law_found", "_law_twig", "_law_mark", "_law_one", "_law_two", "_law_part", "_law_sign"] ["_law_twigs_here"] (defScope (top 38)) := ⟨rfl, rfl, rfl, by decide +kernel, rfl, by decide +kernel, by decide +kernel⟩
theorem ok_sg {f : Addr} {fd : FuncData} (T : Tx mg) (n : Nat) (F : FD K "_law_signs" (top 38) f fd) (C2 : Cal P w K mg base CX0 n "_law_signs" ["_law_twigs_here"] (spSgP K n) f fd) : FnOk P w K mg base CX0 (n + 1) f fd ["_law_twigs_here"] (spSg K n) := by
  obtain ⟨g_law_signs, k_law_signs, b_law_signs, F_law_signs⟩ := C2
  refine F.ok sc_sg (fun vs H Q E h => ?_) (fun cdv A outer s H vs Q E hr h => ?_)
  · obtain ⟨_, _, rfl, _⟩ := h
    rfl
  · obtain ⟨x, d, rfl, hx, ht, hcn, k⟩ := h
    have nd := sc_sg.nd
    have zl : (400000 : Nat) ≤ sizeLine := by rw [sizeLine_eq]; decide
    refine ⟨_, (pss_cons (ps_set (i := 1) nd rfl (Or.inr rfl) (pe_lst pa_nil))
        (pss_cons (ps_for (passes_of rfl) rfl (pi_tup (pv 0)) (pg_name (i := 2) nd rfl (Or.inl rfl)) (pss_one (ps_if (pt_cmpR op_in_seq (pe_ix (r := rIxT K) ix_tup (pv 2) pe_int (fun _ _ => rfl)) (pe_tup (pa_cons pe_str (pa_cons pe_str pa_nil))) rfl) (pss_cons (ps_for (passes_of rfl) rfl (pi_tup (pe_ix (r := rIxT K) ix_tup (pe_ix (r := rIxT K) ix_tup (pv 2) pe_int (fun _ _ => rfl)) pe_int (fun _ _ => rfl))) (pg_tup rfl (pgs_cons (pg_name (i := 3) nd rfl (Or.inl rfl) (hf := Or.inr rfl)) (pgs_cons (pg_name (i := 4) nd rfl (Or.inl rfl) (hf := Or.inr rfl)) (pgs_cons (pg_name (i := 5) nd rfl (Or.inl rfl) (hf := Or.inr rfl)) pgs_nil)))) (pss_one (ps_set (i := 1) nd rfl (Or.inr rfl) (pe_op op_cat (pv 1) (pe_lst (pa_cons (pv 4) (pa_cons (pv 5) pa_nil)))))))
        (pss_one (ps_for (passes_of rfl) rfl (pi_tup (pe_slice (r := rSlT K) sl_tup (pv 2) (po_some pe_int) po_none)) (pg_name (i := 6) nd rfl (Or.inl rfl)) (pss_one (ps_set (i := 1) nd rfl (Or.inr rfl) (pe_op op_cat (pv 1) (pe_call F_law_signs (hr.mono (by omega)) rfl g_law_signs k_law_signs b_law_signs .nil pass0 (pa_cons (pv 6) pa_nil)))))))) (pss_one (ps_set (i := 1) nd rfl (Or.inr rfl) (pe_op op_cat (pv 1) (pe_callTy call_list_of (by rfl) T.b_list (by decide +kernel) (pa_cons (pe_slice (r := rSlT K) sl_tup (pv 2) (po_some pe_int) po_none) pa_nil))))))))
        (pss_one (ps_ret (pe_lc (own := [("_law_sign", 7)]) rfl nd (pi_str pe_str) (blkOk_by (N := ["_law_twigs_here", "_law_found", "_law_twig", "_law_mark", "_law_one", "_law_two", "_law_part", "_law_sign"]) (sc := defScope (top 38)) (by decide +kernel)) (fun _ _ _ _ _ => (pg_name (i := 7) nd rfl (Or.inl rfl))) (fun _ _ _ _ _ => (pts_one (pt_cmpR (Ls.op_in_seqK (K := K) rfl) (pv 7) (pv 1) rfl))) (fun _ _ _ _ _ => (pv 7))))))), ?_⟩
    refine sq fun U hU => ?_
    walk_at "rd"
    refine ⟨by decide, fun p hp => hU _ _ ?_⟩
    clear hU
    have s0 : Same H (upd H p (.lst [])) := same_new hp
    cases hx with
    | tup e ha =>
      rename_i a0 xs ds
      have hl := ha.len
      have hds : ∀ d ∈ ds, isSt n d = true := List.all_eq_true.mp ht
      have e0 : treeL (stL n) (.tuple ds) = ds.flatMap (stL n) := rfl
      rw [e0] at k
      have hcn' : (ds.map (cntSt n)).sum ≤ 1000 := hcn
      have dlen : ds.length ≤ 1000 := Nat.le_trans (len_le_cnt n ds) hcn'
      refine sq fun U hU => ?_
      walk_at "rd"
      refine ⟨⟨_, SqT.of (s0 _ _ e)⟩, ?_⟩
      refine for_t (xs := xs) (sgP H a0 n ds) ⟨s0, p, none, none, none, none, none, none, ⟨[], upd_same, Nat.zero_le _, fun c _ => by simp⟩, rfl⟩ (fun i σ H' _ hP => SqT.of (hP.1 _ _ e)) ?_ ?_
      · rintro i y σ H' hy ⟨hs, qf, v1, v2, v3, v4, v5, v6, ⟨ms, hm, hml, hmem⟩, rfl⟩
        obtain ⟨c, hc1, hc2⟩ := ha.atV hy
        have il : i < ds.length := (List.getElem?_eq_some_iff.mp hc1).1
        have hcs : isSt n c = true := hds c (List.mem_of_getElem? hc1)
        replace hc2 := hc2.up hs
        walk_at "rd"
        by_cases dd : isDeed c = true
        · obtain ⟨k0, b, ss, rfl, eb, n1, n2, wc, hg, sl⟩ := deed_dq dd hc2
          refine ⟨b, rfl, _, SqT.of eb, _, atI_nn (by decide) rfl, by decide, fun p1 hp1 => in2 upd_same ⟨_, rfl, ?_⟩⟩
          rw [if_neg (by rw [decide_eq_false n1, decide_eq_false n2]; decide)]
          have s1 : Same H' (upd H' p1 (.tup [.str "if", .str "while"])) := same_new hp1
          refine slT (k := 1) (s1 _ _ eb) (Nat.le_refl _) (by simp) fun q hq => ?_
          have s2 := same_new (o := .tup (((k0 :: ss).map V.str).drop 1)) hq
          have e2 : (upd (upd H' p1 (.tup [.str "if", .str "while"])) q (.tup (((k0 :: ss).map V.str).drop 1))) q = some (.tup (ss.map V.str)) := upd_same
          have hm2 := s2 _ _ (s1 _ _ hm)
          refine ⟨q, rfl, ss.map V.str, .inr (SqT.of e2), fun l hl3 => ⟨ms.map V.str, same_new hl3 _ _ hm2, ss.map V.str, upd_same, ?_, fun q4 hq4 => ?_⟩⟩
          · rw [List.length_map, List.length_map]
            omega
          · have s34 := (same_new (o := .lst (ss.map V.str)) hl3).trans (same_new (o := .lst (ms.map V.str ++ ss.map V.str)) hq4)
            refine ⟨hs.trans (s1.trans (s2.trans s34)), q4, some (.ref b), v2, v3, v4, v5, v6, ⟨ms ++ ss, by rw [upd_same, List.map_append], ?_, fun c' hc' => ?_⟩, rfl⟩
            · rw [List.length_append]
              omega
            · rw [List.mem_append, flat_take hc1, List.mem_append, hmem c' hc', (deed_flat dd n).1, wc]
        · skip
          cases n with
          | zero => exact absurd hcs dd
          | succ m =>
            obtain ⟨k0, t, r, rfl, hk, htt, hr', hstL, hstD, hstN, hcnt⟩ := st_nest2 hcs dd
            have rl : r.length = 1 ∨ r.length = 2 := by rcases hk with z | z; exact .inr z.2; exact .inl z.2
            cases hc2 with
            | tup e2 h2 =>
              rename_i b ys
              cases h2 with
              | cons h3 h2 =>
              cases h2 with
              | cons h4 h5 =>
                cases h3
                rename_i vt vs _
                have hvl := h5.len
                refine ⟨b, rfl, _, SqT.of e2, _, atI_nn (by decide) rfl, by decide, fun p1 hp1 => in2 upd_same ⟨_, rfl, ?_⟩⟩
                rw [if_pos (by rcases hk with ⟨z, _⟩ | ⟨z, _⟩ <;> (rw [z]; decide))]
                have s1 : Same H' (upd H' p1 (.tup [.str "if", .str "while"])) := same_new hp1
                have e21 := s1 _ _ e2
                replace h4 := h4.up s1
                replace h5 := h5.up s1
                generalize (upd H' p1 (HO.tup [V.str (Str.ofString "if"), V.str (Str.ofString "while")])) = H1 at s1 e21 h4 h5 ⊢
                obtain ⟨tv, cv, cvs, tj, cs, rfl, f1, f2, hcv, rfl, cl3, hcc⟩ := test_dq htt h4
                refine ⟨b, rfl, _, SqT.of e21, _, atI_nn (by decide) rfl, tv, rfl, _, SqT.of f1, _, atI_nn (by decide) rfl, cv, rfl, ⟨_, SqT.of f2⟩, ?_⟩
                have cl := hcv.len
                refine for_t (xs := cvs) (sqP H1 (.ref a0) (.ref b) (60 * i) ((ds.take i).flatMap (stL (m + 1))) cs v5 v6) ⟨Same.refl _, qf, v2, v3, v4, ⟨ms, s1 _ _ hm, by omega, by rw [List.take_zero, List.flatMap_nil, List.append_nil]; exact hmem⟩, rfl⟩ (fun i σ H' _ hP => SqT.of (hP.1 _ _ f2)) ?_ ?_
                · rintro j x1 σ H4 hj ⟨hs4, q4, w1, w2, w3, ⟨ms4, hm4, hl4, hmem4⟩, rfl⟩
                  obtain ⟨c', hc1', hc2'⟩ := hcv.atV hj
                  have jl : j < cs.length := (List.getElem?_eq_some_iff.mp hc1').1
                  obtain ⟨cb, mk, ca, ce, rfl, ecb, la, ge, wc⟩ := comp_dq (hcc c' (List.mem_of_getElem? hc1')) (hc2'.up hs4)
                  walk_at "rd"
                  refine ⟨_, SqT.of ecb, rfl, _, _, rfl, _, _, rfl, _, _, rfl, rfl, by omega, fun l hl3 => ⟨ms4.map V.str, same_new hl3 _ _ hm4, _, upd_same, ?_, fun q5 hq5 => ?_⟩⟩
                  · rw [List.length_map]
                    simp only [List.length_cons, List.length_nil]
                    omega
                  · have s34 := (same_new (o := .lst [.str ca, .str ce]) hl3).trans (same_new (o := .lst (ms4.map V.str ++ [.str ca, .str ce])) hq5)
                    refine ⟨hs4.trans s34, q5, _, _, _, ⟨ms4 ++ [ca, ce], by rw [upd_same, List.map_append]; rfl, ?_, fun c2 hc2 => ?_⟩, rfl⟩
                    · rw [List.length_append]
                      simp only [List.length_cons, List.length_nil]
                      omega
                    · rw [List.mem_append, hmem4 c2 hc2, flat_take hc1', wc, List.mem_append, List.mem_append, List.mem_append, or_assoc]
                · rintro σ H4 ⟨hs4, q4, w1, w2, w3, ⟨ms4, hm4, hl4, hmem4⟩, rfl⟩
                  rw [cl, List.take_length] at hmem4
                  rw [cl] at hl4
                  have et : testL (.tuple [.str tj, .tuple cs]) = cs.flatMap wordsOf := rfl
                  rw [← et] at hmem4
                  walk_at "rd"
                  refine slT (k := 2) (hs4 _ _ e21) (by decide) (by simp) fun q hq => ?_
                  have s5 := same_new (o := .tup (((V.str k0) :: (V.ref tv) :: vs).drop 2)) hq
                  have eq' : (upd H4 q (HO.tup (((V.str k0) :: (V.ref tv) :: vs).drop 2))) q = some (.tup vs) := upd_same
                  have hm5 := s5 _ _ hm4
                  have s15 := s1.trans (hs4.trans s5)
                  replace h5 := h5.up (hs4.trans s5)
                  generalize (upd H4 q (HO.tup (((V.str k0) :: (V.ref tv) :: vs).drop 2))) = H5 at eq' hm5 s15 h5 ⊢
                  refine ⟨q, rfl, ⟨_, SqT.of eq'⟩, ?_⟩
                  refine for_t (xs := vs) (siP H5 (.ref a0) (.ref b) (60 * i + 6) ((ds.take i).flatMap (stL (m + 1)) ++ testL (.tuple [.str tj, .tuple cs])) (treeL (stL m)) r w1 w2 w3 v6) ⟨Same.refl _, q4, v5, ⟨ms4, hm5, by omega, by rw [List.take_zero, List.flatMap_nil, List.append_nil]; exact hmem4⟩, rfl⟩ (fun i σ H' _ hP => SqT.of (hP.1 _ _ eq')) ?_ ?_
                  · rintro j x1 σ H6 hj ⟨hs6, q6, w6, ⟨ms6, hm6, hl6, hmem6⟩, rfl⟩
                    obtain ⟨c', hc1', hc2'⟩ := h5.atV hj
                    have jm := List.mem_of_getElem? hc1'
                    have jl : j < r.length := (List.getElem?_eq_some_iff.mp hc1').1
                    have csum : (r.map (cntOf (cntSt m))).sum ≤ 1000 := by
                      have h1 := mem_sum_le (cntSt (m + 1)) ds _ (List.mem_of_getElem? hc1)
                      omega
                    have cle : cntOf (cntSt m) c' ≤ 1000 := Nat.le_trans (mem_sum_le (cntOf (cntSt m)) r c' jm) csum
                    walk_at "rd"
                    refine ⟨x1, c', rfl, hc2'.up hs6, hr' c' jm, cle, fun q7 H7 s7 l7 => ⟨q7, rfl, _, s7 _ _ hm6, _, l7, ?_, fun q8 n8 => ?_⟩⟩
                    · rw [List.length_map, List.length_map]
                      have := letL_len (treeL (stL m) c')
                      omega
                    · have s8 := same_new (o := .lst (ms6.map V.str ++ (letL (treeL (stL m) c')).map V.str)) n8
                      refine ⟨hs6.trans (s7.trans s8), q8, _, ⟨ms6 ++ letL (treeL (stL m) c'), by rw [upd_same, List.map_append], ?_, fun c2 hc2 => ?_⟩, rfl⟩
                      · rw [List.length_append]
                        have := letL_len (treeL (stL m) c')
                        omega
                      · rw [List.mem_append, hmem6 c2 hc2, flat_take hc1', ← List.append_assoc]
                        exact ⟨fun z => List.mem_append.mpr (z.elim .inl fun w => .inr (mem_letL.mp w).2), fun z => (List.mem_append.mp z).elim .inl fun w => .inr (mem_letL.mpr ⟨hc2, w⟩)⟩
                  · rintro σ H6 ⟨hs6, q6, w6, ⟨ms6, hm6, hl6, hmem6⟩, rfl⟩
                    rw [hvl, List.take_length] at hmem6
                    rw [hvl] at hl6
                    refine ⟨hs.trans (s15.trans hs6), q6, _, _, _, _, _, _, ⟨ms6, hm6, by omega, fun c2 hc2 => ?_⟩, rfl⟩
                    rw [hmem6 c2 hc2, flat_take hc1, hstL, List.append_assoc]
      · rintro σ H' ⟨hs, qf, v1, v2, v3, v4, v5, v6, ⟨ms, hm, hml, hmem⟩, rfl⟩
        refine hU _ _ ?_
        walk_at "rd"
        rw [hl, List.take_length] at hmem
        have el : (Str.ofString "abcdefghijklmnopqrstuvwxyz") = abc := rfl
        refine lc_s (abP H' ms) fun D hD => ⟨⟨same_new hD, by rw [upd_same]; rfl⟩, ?_, ?_⟩
        · rintro j c H3 hj ⟨hs3, hL⟩
          rw [el] at hj
          have et : ((abc.cps.toList.take (j + 1)).map sg).filter (fun c => decide (c ∈ ms)) = ((abc.cps.toList.take j).map sg).filter (fun c => decide (c ∈ ms)) ++ [sg c].filter (fun c => decide (c ∈ ms)) := by
            rw [List.take_succ, hj, List.map_append, List.filter_append]; rfl
          unfold Lturn
          walk_at "rd"
          refine ⟨qf, _, rfl, .inl (SqL.of (hs3 _ _ hm)), rfl, flat_strs ms, ?_⟩
          rw [inV_strs]
          refine ⟨_, rfl, ?_⟩
          by_cases hc : sg c ∈ ms
          · have hc' : decide ((⟨#[c]⟩ : Str) ∈ ms) = true := decide_eq_true hc
            rw [hc', if_pos (by decide)]
            refine ⟨_, hL, ?_, fun b' o e' => ?_, ?_⟩
            · rw [List.length_map]
              have h1 := List.length_filter_le (fun c : Str => decide (c ∈ ms)) ((abc.cps.toList.take j).map sg)
              have h2 : ((abc.cps.toList.take j).map sg).length ≤ 26 := by
                rw [List.length_map]
                exact Nat.le_trans (List.length_take_le' _ _) (by decide +kernel)
              omega
            · rw [upd_ne (ne_of_none e' hD)]; exact hs3 b' o e'
            · rw [upd_same, et, List.map_append]
              have hcm : (⟨#[c]⟩ : Str) ∈ ms := hc
              simp [sg, hcm]
          · have hc' : decide ((⟨#[c]⟩ : Str) ∈ ms) = false := decide_eq_false hc
            rw [hc', if_neg (by decide)]
            refine ⟨hs3, ?_⟩
            rw [hL, et]
            simp [hc]
        · rintro H3 ⟨hs3, hL⟩
          refine k D H3 (hs.trans hs3) ?_
          rw [el, List.take_length] at hL
          show H3 D = _
          rw [hL]
          congr 3
          exact letL_congr fun c hc => hmem c hc
    | _ => cases ht
end
end K38

set_option Elab.async false
set_option linter.all false
set_option maxRecDepth 100000
set_option maxHeartbeats 4000000
namespace K38
open PySem PySem.Spec PyProof.Rows L2 Rd Dt Dq Pk TL
local macro_rules | `(tactic| walk_at "rd") => `(tactic| try simp only [↓Ls.tLc_str, ↓Ls.sDPut_, ↓Rl.rReprL_, ↓Rl.tCallKS_, ↓tFld_, ↓sFld_, ↓tVar_, ↓tC_, ↓tM1, ↓tDNewK_, ↓tOp_, ↓tUn_, ↓rI_, ↓rI0_, ↓rU_, ↓eq_ii, ↓ne_ii, ↓eq_ss, ↓ne_ss, ↓eq_bb, ↓ne_bb, ↓tAndV_, ↓tOrV_, ↓tNotV_, ↓tIf_, ↓tTest_, ↓tB_, ↓tAnd_, ↓tOr_, ↓tNot_, ↓tChain_, ↓tNil_, ↓tCons_, ↓tTup_, ↓tLst_, ↓tCB_, ↓tCall_, ↓tSeq_, ↓tNext_, ↓tRet_, ↓tRetN_, ↓tDrop_, ↓tBreak_, ↓tNever_, ↓tIfS_, ↓tAsg_, ↓gName_, ↓gTup_, ↓gCons_, ↓gNil_, ↓gSub_, ↓tPar_, ↓tPar3_, ↓tSl_, ↓tNoPart_, ↓tPart_, ↓tBM_, ↓tFor_range1, ↓tFor_range2, ↓tFor_list, ↓tFor_tup, L2.start, List.headD_cons, List.headD_nil, List.tail_cons, List.map_cons, List.map_nil, List.length_cons, List.length_nil, List.replicate, List.append_nil, List.nil_append, List.cons_append, List.getElem?_cons_zero, List.getElem?_cons_succ, List.set_cons_zero, List.set_cons_succ, Option.some.injEq, V.int.injEq, V.bl.injEq, V.str.injEq, V.ref.injEq, exists_eq_left, exists_eq_left', exists_eq_right, exists_eq, exists_and_left, and_true, true_and, decide_eq_true_eq, Nat.reduceAdd, Nat.reduceSub, Nat.add_zero, Nat.zero_add, List.cons.injEq, Bool.not_eq_true', decide_eq_false_iff_not, eq_self, reduceCtorEq, Bool.false_eq_true, if_true, if_false, ite_true, ite_false, and_self, ↓tLc_range1, ↓tLc_range2, ↓tLc_list, ↓tLc_tup, ↓tYes_, wipe0, wipe1, ↓tCallS_, ↓rIxL_, ↓rIxT_, ↓rSlL_, ↓rCat_, ↓rSetL_, ↓rRep_, ↓rGcd_, ↓tCallK_, ↓gUnl_, ↓tRaise_, decide_true, decide_false, not_true_eq_false, not_false_eq_true, false_and, or_false, false_or, and_false, and_assoc, exists_const, forall_const, forall_eq'])

section
variable {P : Program} {w : World} {K : PySem.W.Frag} {mg : Str → Option Value} {base : Heap}
open Ls
theorem lev_up {CX : CXT} {k k' : Nat} (h : k ≤ k') {x : Str} {ps : List Str} {sp : Sp} {f : Addr} {fd : FuncData} (C : Cal P w K mg base CX k x ps sp f fd) : Cal P w K mg base CX k' x ps sp f fd := ⟨C.g, C.kp, C.b, ⟨C.F.len, fun A ev s H ar us vs Q E hr => C.F.run A ev s H ar us vs Q E (hr.mono h)⟩⟩
theorem tk_bt {s : Str} {n : Nat} (h : Tok s n) : Bt s n := ⟨h.len, fun c hc => by
  have := h.ok
  unfold PyData.strOk at this
  rw [← Array.all_toList, List.all_eq_true] at this
  exact of_decide_eq_true (this c hc)⟩
theorem sum_len {m : Nat} : ∀ {ss : List Str}, (∀ s ∈ ss, Bt s m) → (ss.map (·.length)).sum ≤ m * ss.length
  | [], _ => by simp
  | s :: ss, h => by
    have h1 := (h s List.mem_cons_self).l
    have h2 := sum_len fun x hx => h x (List.mem_cons_of_mem s hx)
    rw [List.map_cons, List.sum_cons, List.length_cons, Nat.mul_add, Nat.mul_one]
    omega
theorem Bt.join {sep : Str} {k m n : Nat} {ss : List Str} (hs : Bt sep k) (h : ∀ s ∈ ss, Bt s m) (hl : (m + k) * ss.length ≤ n) : Bt (Txt.join sep ss) n := by
  refine ⟨?_, fun c hc => ?_⟩
  · rw [TL.join_eq]
    have h1 := StrLaws.join_length_le sep ss
    have h2 := sum_len h
    have h3 := Nat.mul_le_mul_left ss.length hs.l
    rw [Nat.add_mul, Nat.mul_comm k] at hl
    omega
  · rw [TL.join_eq] at hc
    rcases join_mem hc with q | ⟨w, hw', q⟩
    · exact hs.c c q
    · exact (h w hw').c c q
theorem deeds_deed : ∀ (n : Nat) (d : PyData), isSt n d = true → ∀ x ∈ stD n d, isDeed x = true
  | 0, d, h => fun x hx => by rw [List.mem_singleton.mp (show x ∈ [d] from hx)]; exact h
  | n + 1, d, h => by
    have tr : ∀ y, treeOf (isSt n) y = true → ∀ x ∈ treeL (stD n) y, isDeed x = true := fun y hy x hx => by
      cases y with
      | tuple ds =>
        obtain ⟨c, h1, h2⟩ := List.mem_flatMap.mp (show x ∈ ds.flatMap (stD n) from hx)
        exact deeds_deed n c (List.all_eq_true.mp hy c h1) x h2
      | _ => cases hy
    rcases st_cases h with z | ⟨t, a, b, rfl, ht, ha, hb⟩ | ⟨t, a, rfl, ht, ha⟩
    · rw [(deed_flat z (n + 1)).2.1]
      exact fun x hx => by rw [List.mem_singleton.mp hx]; exact z
    · rw [stD_if]
      exact fun x hx => (List.mem_append.mp hx).elim (tr a ha x) (tr b hb x)
    · rw [stD_while]
      exact tr a ha
theorem deeds_wt : ∀ ds : List PyData, (∀ d ∈ ds, isDeed d = true) → wtAll ds ≤ 152 * ds.length ∧ PyData.depthAll ds ≤ 1
  | [], _ => ⟨by simp [wtAll], by simp [PyData.depthAll]⟩
  | d :: ds, h => by
    have h1 := deed_wt (h d List.mem_cons_self)
    have h4 := deeds_wt ds fun x hx => h x (List.mem_cons_of_mem _ hx)
    rw [wtAll, PyData.depthAll, List.length_cons]
    omega
theorem letters_bt (t : PyData) : Bt (lettersOf t) 26 := by
  refine Bt.join (k := 0) (m := 1) (Bt.of (by decide +kernel)) (fun s hs => ?_) (by have := letL_len (treeL (stL 4) t); omega)
  have := letter_tok (d := .str s) (letL_letter hs)
  obtain ⟨s', e, tk⟩ := this
  cases e
  exact tk_bt tk
/-- what is told of a program -/
def told (k : Int) (t : PyData) : PyData := if k = 0 then .str (lettersOf t) else if k = 1 then .tuple (treeL (stD 4) t) else if k = 2 then .bool (decide (0 < treeN (stN 4) t)) else if k = 3 then .bool (decide (treeN (stN 4) t < 2)) else .int (cntOf (cntSt 4) t : Nat)
def calledD (k : Int) (d : PyData) : List PyData := match progOfD d with
  | some t => [.str "told", told k t, told k t]
  | none => [.str "refused", d, .bool true]
theorem told_size {k : Int} {t : PyData} (ht : treeOf (isSt 4) t = true) (hc : cntOf (cntSt 4) t ≤ 30) : wt (told k t) ≤ 10000 ∧ (told k t).depth ≤ 5 := by
  unfold told
  split
  · have := (letters_bt t).l
    refine ⟨by rw [wt]; omega, by simp [PyData.depth]⟩
  split
  · cases t with
    | tuple ds =>
      have hd : ∀ d ∈ ds, isSt 4 d = true := List.all_eq_true.mp ht
      have h1 := flat_len_sum ds hd
      have h2 : (ds.map (cntSt 4)).sum ≤ 30 := hc
      have h3 := deeds_wt (treeL (stD 4) (.tuple ds)) fun d hd' => by
        obtain ⟨c, h1, h2⟩ := List.mem_flatMap.mp (show d ∈ ds.flatMap (stD 4) from hd')
        exact deeds_deed 4 c (hd c h1) d h2
      have e : treeL (stD 4) (.tuple ds) = ds.flatMap (stD 4) := rfl
      rw [e] at h3 ⊢
      rw [wt, PyData.depth]
      omega
    | _ => cases ht
  split
  · exact ⟨by rw [wt]; omega, by simp [PyData.depth]⟩
  split
  · exact ⟨by rw [wt]; omega, by simp [PyData.depth]⟩
  · exact ⟨by rw [wt]; omega, by simp [PyData.depth]⟩
def spCalled (K : PySem.W.Frag) : Sp := fun vs H Q _ => ∃ (k : Int) (x : V) (d : PyData), vs = [.int k, x] ∧ Dq K H x d ∧ 0 ≤ k ∧ k < 5 ∧ ∀ l H' xs, Same H H' → H' l = some (.lst xs) → DqAll K H' xs (calledD k d) → Q (.ref l) H'
theorem told2 {C : Addr} {R : PyData → Hp → VK → Prop} {g : PyData → PyData} {E : XK} {x : V} {d : PyData} {H : Hp} {Q : VK} (hR : ∀ e, treeOf (isSt 4) e = true → cntOf (cntSt 4) e ≤ 30 → ∀ H1 QQ, (∀ v H2, Same H1 H2 → Dq K H2 v (g e) → QQ v H2) → R e H1 QQ) (hx : Dq K H x d)
    (bad : progOfD d = none → ∀ dd H2, Same H H2 → H2 dd = none → E (.ref C) (some dd) (upd H2 dd (.xd [("given", x)])))
    (good : ∀ e l H' v u, progOfD d = some e → Same H H' → H' l = some (.lst [.str "told", v, u]) → Dq K H' v (g e) → Dq K H' u (g e) → Q (.ref l) H') :
    spTold K C R [x] H (fun v H1 => spTold K C R [x] H1 (fun u H2 => 3 ≤ sizeLine ∧ ∀ p, H2 p = none → Q (.ref p) (upd H2 p (.lst [.str "told", v, u]))) E) E := by
  refine ⟨x, d, rfl, hx, fun e he => ?_, bad⟩
  obtain ⟨ht, hc⟩ := progOfD_some he
  refine hR e ht hc H _ fun v H1 s1 hv => ⟨x, d, rfl, hx.up s1, fun e2 he2 => ?_, fun z => by rw [he] at z; cases z⟩
  rw [he] at he2
  cases he2
  refine hR e ht hc H1 _ fun u H2 s2 hu => ⟨by rw [sizeLine_eq]; decide, fun p hp => ?_⟩
  have s3 := same_new (o := .lst [.str "told", v, u]) hp
  exact good e p _ v u he (s1.trans (s2.trans s3)) upd_same ((hv.up s2).up s3) (hu.up s3)
theorem sc_cl : FnScope ["_law_branch", "_law_said_here", "e"] ["_law_branch", "_law_said_here"] (defScope (top 60)) := ⟨rfl, rfl, rfl, by decide +kernel, rfl, by decide +kernel, by decide +kernel⟩
theorem ok_cl {C CA fI : Addr} {fdI : FuncData} (T : Tx mg) (R : ErI K mg C fI fdI) (XF : XfC K C) (XE : ExcC K C) (te : PySem.W.exmOne K (.ref C) (.ref C) = some true) (gArr : mg "ArrowError" = some (.ref CA)) (kit : PySem.W.kitOne K (.ref C) (.ref CA) = some true)
    {f : Addr} {fd : FuncData} (F : FD K "_law_called" (top 60) f fd) {f1 f2 f3 f4 f5 : Addr} {fd1 fd2 fd3 fd4 fd5 : FuncData}
    (C1 : Cal P w K mg base (L2.CX P w) 27 "program_letters" ["program"] (spTold K C (rStr lettersOf)) f1 fd1) (wprogram_letters : KW K fd1 ["program"]) (C2 : Cal P w K mg base (L2.CX P w) 27 "deeds_of" ["program"] (spTold K C (rDeeds K)) f2 fd2) (wdeeds_of : KW K fd2 ["program"])
    (C3 : Cal P w K mg base (L2.CX P w) 27 "has_loop" ["program"] (spTold K C (rBl fun e => decide (0 < treeN (stN 4) e))) f3 fd3) (whas_loop : KW K fd3 ["program"]) (C4 : Cal P w K mg base (L2.CX P w) 27 "is_plain" ["program"] (spTold K C (rBl fun e => decide (treeN (stN 4) e < 2))) f4 fd4) (wis_plain : KW K fd4 ["program"])
    (C5 : Cal P w K mg base (L2.CX P w) 27 "statements_number" ["program"] (spTold K C (rInt (cntOf (cntSt 4)))) f5 fd5) (wstatements_number : KW K fd5 ["program"]) : FnOk P w K mg base CX0 28 f fd ["_law_branch", "_law_said_here"] (spCalled K) := by
  obtain ⟨gprogram_letters, kprogram_letters, bprogram_letters, Fprogram_letters⟩ := C1
  obtain ⟨gdeeds_of, kdeeds_of, bdeeds_of, Fdeeds_of⟩ := C2
  obtain ⟨ghas_loop, khas_loop, bhas_loop, Fhas_loop⟩ := C3
  obtain ⟨gis_plain, kis_plain, bis_plain, Fis_plain⟩ := C4
  obtain ⟨gstatements_number, kstatements_number, bstatements_number, Fstatements_number⟩ := C5
  refine F.ok sc_cl (fun vs H Q E h => ?_) (fun cdv A outer s H vs Q E hr h => ?_)
  · obtain ⟨_, _, _, rfl, _⟩ := h
    rfl
  · obtain ⟨k0, x, d, rfl, hx, k00, k05, k⟩ := h
    have nd := sc_cl.nd
    have zl : (400000 : Nat) ≤ sizeLine := by rw [sizeLine_eq]; decide
    refine ⟨_, (pss_one (ps_try_as (i := 2) rfl rfl nd rfl rfl ⟨rfl, by decide, .inl R.gC⟩ takes0 (fun W pn xe tk _ => (pss_cons (ps_if (pt_cmpR op_eq (pv 0) pe_int (nomark _)) (pss_one (ps_ret (pe_lst (pa_cons pe_str (pa_cons (pe_callS Fprogram_letters (hr.mono (by omega)) rfl gprogram_letters kprogram_letters bprogram_letters (fun σ => passAt tk σ) (pa_cons (pv 1) pa_nil)) (pa_cons (Rl.pe_callKwS Fprogram_letters (hr.mono (by omega)) rfl gprogram_letters kprogram_letters wprogram_letters (fun σ => passAt tk σ) (pk_cons (pv 1) pk_nil)) pa_nil)))))) pss_nil)
        (pss_cons (ps_if (pt_cmpR op_eq (pv 0) pe_int (nomark _)) (pss_one (ps_ret (pe_lst (pa_cons pe_str (pa_cons (pe_callS Fdeeds_of (hr.mono (by omega)) rfl gdeeds_of kdeeds_of bdeeds_of (fun σ => passAt tk σ) (pa_cons (pv 1) pa_nil)) (pa_cons (Rl.pe_callKwS Fdeeds_of (hr.mono (by omega)) rfl gdeeds_of kdeeds_of wdeeds_of (fun σ => passAt tk σ) (pk_cons (pv 1) pk_nil)) pa_nil)))))) pss_nil)
        (pss_cons (ps_if (pt_cmpR op_eq (pv 0) pe_int (nomark _)) (pss_one (ps_ret (pe_lst (pa_cons pe_str (pa_cons (pe_callS Fhas_loop (hr.mono (by omega)) rfl ghas_loop khas_loop bhas_loop (fun σ => passAt tk σ) (pa_cons (pv 1) pa_nil)) (pa_cons (Rl.pe_callKwS Fhas_loop (hr.mono (by omega)) rfl ghas_loop khas_loop whas_loop (fun σ => passAt tk σ) (pk_cons (pv 1) pk_nil)) pa_nil)))))) pss_nil)
        (pss_cons (ps_if (pt_cmpR op_eq (pv 0) pe_int (nomark _)) (pss_one (ps_ret (pe_lst (pa_cons pe_str (pa_cons (pe_callS Fis_plain (hr.mono (by omega)) rfl gis_plain kis_plain bis_plain (fun σ => passAt tk σ) (pa_cons (pv 1) pa_nil)) (pa_cons (Rl.pe_callKwS Fis_plain (hr.mono (by omega)) rfl gis_plain kis_plain wis_plain (fun σ => passAt tk σ) (pk_cons (pv 1) pk_nil)) pa_nil)))))) pss_nil)
        (pss_one (ps_ret (pe_lst (pa_cons pe_str (pa_cons (pe_callS Fstatements_number (hr.mono (by omega)) rfl gstatements_number kstatements_number bstatements_number (fun σ => passAt tk σ) (pa_cons (pv 1) pa_nil)) (pa_cons (Rl.pe_callKwS Fstatements_number (hr.mono (by omega)) rfl gstatements_number kstatements_number wstatements_number (fun σ => passAt tk σ) (pk_cons (pv 1) pk_nil)) pa_nil)))))))))))
        (fun a oe cls d pn hz hf => (pss_one (ps_ret (pe_lst (pa_cons pe_str (pa_cons (pe_xf XF R.noN hz hf (pv 2)) (pa_cons (pe_callB (Exx.call_isX XE hz hf) (by rfl) T.b_isinstance (by decide +kernel) (pa_cons (pv 2) (pa_cons (pe_glob (v := .ref CA) rfl gArr rfl) pa_nil))) pa_nil))))))))), ?_⟩
    walk_at "rd"
    have lk : ∀ x : V, List.lookup ("given" : Str) [(("given" : Str), x)] = some x := fun x => by simp [List.lookup]
    have sm : ∀ t : PyData, smS (lettersOf t) = true := fun t => (letters_bt t).sm (by decide)
    have ssm : smS "told" = true := by decide +kernel
    have gd : ∀ (g : PyData → PyData), (∀ e, told k0 e = g e) → ∀ e l H' v u, progOfD d = some e → Same H H' → H' l = some (.lst [.str "told", v, u]) → Dq K H' v (g e) → Dq K H' u (g e) → Q (.ref l) H' := fun g hg e l H' v u he hs hl hv hu => by
      refine k l H' _ hs hl ?_
      unfold calledD
      rw [he]
      show DqAll K H' _ [.str "told", told k0 e, told k0 e]
      rw [hg]
      exact .cons (.str _ ssm) (.cons hv (.cons hu .nil))
    have rsm : smS "refused" = true := by decide +kernel
    have bad : ∀ p H', progOfD d = none → Same H H' → H' p = some (.lst [.str "refused", x, .bl true]) → Q (.ref p) H' := fun p H' hn hs hp => by
      refine k p H' _ hs hp ?_
      unfold calledD
      rw [hn]
      exact .cons (.str _ rsm) (.cons (hx.up hs) (.cons (.bl _) .nil))
    by_cases c0 : k0 = 0
    · rw [if_pos c0]
      refine told2 (g := fun e => .str (lettersOf e)) (fun e _ _ H1 QQ q H2 s2 => q _ H2 s2 (.str _ (sm e))) hx (fun hn dd H2 s2 hd => ?_) (gd _ fun e => if_pos c0)
      refine ⟨true, te, fun _ a' ha' => ?_, fun q => nomatch q⟩
      walk_at "rd"
      have s3 : Same H (upd H2 dd (.xd [("given", x)])) := s2.trans (same_new hd)
      refine ⟨_, rfl, rfl, rfl, dd, [("given", x)], x, rfl, upd_same, lk x, .ref CA, .ref CA, true, dd, _, rfl, rfl, (fun u hu => hu), rfl, upd_same, kit, by omega, fun p hp => ?_⟩
      exact bad p _ hn (s3.trans (same_new hp)) upd_same
    rw [if_neg c0]
    by_cases c1 : k0 = 1
    · rw [if_pos c1]
      refine told2 (g := fun e => .tuple (treeL (stD 4) e)) (fun e _ _ H1 QQ q y H2 s2 hy => q _ H2 s2 hy) hx (fun hn dd H2 s2 hd => ?_) (gd _ fun e => (if_neg c0).trans (if_pos c1))
      refine ⟨true, te, fun _ a' ha' => ?_, fun q => nomatch q⟩
      walk_at "rd"
      have s3 : Same H (upd H2 dd (.xd [("given", x)])) := s2.trans (same_new hd)
      refine ⟨_, rfl, rfl, rfl, dd, [("given", x)], x, rfl, upd_same, lk x, .ref CA, .ref CA, true, dd, _, rfl, rfl, (fun u hu => hu), rfl, upd_same, kit, by omega, fun p hp => ?_⟩
      exact bad p _ hn (s3.trans (same_new hp)) upd_same
    rw [if_neg c1]
    by_cases c2 : k0 = 2
    · rw [if_pos c2]
      refine told2 (g := fun e => .bool (decide (0 < treeN (stN 4) e))) (fun e _ _ H1 QQ q H2 s2 => q _ H2 s2 (.bl _)) hx (fun hn dd H2 s2 hd => ?_) (gd _ fun e => (if_neg c0).trans ((if_neg c1).trans (if_pos c2)))
      refine ⟨true, te, fun _ a' ha' => ?_, fun q => nomatch q⟩
      walk_at "rd"
      have s3 : Same H (upd H2 dd (.xd [("given", x)])) := s2.trans (same_new hd)
      refine ⟨_, rfl, rfl, rfl, dd, [("given", x)], x, rfl, upd_same, lk x, .ref CA, .ref CA, true, dd, _, rfl, rfl, (fun u hu => hu), rfl, upd_same, kit, by omega, fun p hp => ?_⟩
      exact bad p _ hn (s3.trans (same_new hp)) upd_same
    rw [if_neg c2]
    by_cases c3 : k0 = 3
    · rw [if_pos c3]
      refine told2 (g := fun e => .bool (decide (treeN (stN 4) e < 2))) (fun e _ _ H1 QQ q H2 s2 => q _ H2 s2 (.bl _)) hx (fun hn dd H2 s2 hd => ?_) (gd _ fun e => (if_neg c0).trans ((if_neg c1).trans ((if_neg c2).trans (if_pos c3))))
      refine ⟨true, te, fun _ a' ha' => ?_, fun q => nomatch q⟩
      walk_at "rd"
      have s3 : Same H (upd H2 dd (.xd [("given", x)])) := s2.trans (same_new hd)
      refine ⟨_, rfl, rfl, rfl, dd, [("given", x)], x, rfl, upd_same, lk x, .ref CA, .ref CA, true, dd, _, rfl, rfl, (fun u hu => hu), rfl, upd_same, kit, by omega, fun p hp => ?_⟩
      exact bad p _ hn (s3.trans (same_new hp)) upd_same
    rw [if_neg c3]
    refine told2 (g := fun e => .int (cntOf (cntSt 4) e : Nat)) (fun e _ hc H1 QQ q H2 s2 => q _ H2 s2 (.int _ (by omega))) hx (fun hn dd H2 s2 hd => ?_) (gd _ fun e => (if_neg c0).trans ((if_neg c1).trans ((if_neg c2).trans (if_neg c3))))
    refine ⟨true, te, fun _ a' ha' => ?_, fun q => nomatch q⟩
    walk_at "rd"
    have s3 : Same H (upd H2 dd (.xd [("given", x)])) := s2.trans (same_new hd)
    refine ⟨_, rfl, rfl, rfl, dd, [("given", x)], x, rfl, upd_same, lk x, .ref CA, .ref CA, true, dd, _, rfl, rfl, (fun u hu => hu), rfl, upd_same, kit, by omega, fun p hp => ?_⟩
    exact bad p _ hn (s3.trans (same_new hp)) upd_same
end
end K38

set_option Elab.async false
set_option linter.all false
set_option maxRecDepth 100000
set_option maxHeartbeats 4000000
namespace K38
open PySem PySem.Spec PyProof.Rows L2 Rd Dt Dq Pk TL
local macro_rules | `(tactic| walk_at "rd") => `(tactic| try simp only [↓Ls.tLc_str, ↓Ls.sDPut_, ↓Rl.rReprL_, ↓Rl.tCallKS_, ↓tFld_, ↓sFld_, ↓tVar_, ↓tC_, ↓tM1, ↓tDNewK_, ↓tOp_, ↓tUn_, ↓rI_, ↓rI0_, ↓rU_, ↓eq_ii, ↓ne_ii, ↓eq_ss, ↓ne_ss, ↓eq_bb, ↓ne_bb, ↓tAndV_, ↓tOrV_, ↓tNotV_, ↓tIf_, ↓tTest_, ↓tB_, ↓tAnd_, ↓tOr_, ↓tNot_, ↓tChain_, ↓tNil_, ↓tCons_, ↓tTup_, ↓tLst_, ↓tCB_, ↓tCall_, ↓tSeq_, ↓tNext_, ↓tRet_, ↓tRetN_, ↓tDrop_, ↓tBreak_, ↓tNever_, ↓tIfS_, ↓tAsg_, ↓gName_, ↓gTup_, ↓gCons_, ↓gNil_, ↓gSub_, ↓tPar_, ↓tPar3_, ↓tSl_, ↓tNoPart_, ↓tPart_, ↓tBM_, ↓tFor_range1, ↓tFor_range2, ↓tFor_list, ↓tFor_tup, L2.start, List.headD_cons, List.headD_nil, List.tail_cons, List.map_cons, List.map_nil, List.length_cons, List.length_nil, List.replicate, List.append_nil, List.nil_append, List.cons_append, List.getElem?_cons_zero, List.getElem?_cons_succ, List.set_cons_zero, List.set_cons_succ, Option.some.injEq, V.int.injEq, V.bl.injEq, V.str.injEq, V.ref.injEq, exists_eq_left, exists_eq_left', exists_eq_right, exists_eq, exists_and_left, and_true, true_and, decide_eq_true_eq, Nat.reduceAdd, Nat.reduceSub, Nat.add_zero, Nat.zero_add, List.cons.injEq, Bool.not_eq_true', decide_eq_false_iff_not, eq_self, reduceCtorEq, Bool.false_eq_true, if_true, if_false, ite_true, ite_false, and_self, ↓tLc_range1, ↓tLc_range2, ↓tLc_list, ↓tLc_tup, ↓tYes_, wipe0, wipe1, ↓tCallS_, ↓rIxL_, ↓rIxT_, ↓rSlL_, ↓rCat_, ↓rSetL_, ↓rRep_, ↓rGcd_, ↓tCallK_, ↓gUnl_, ↓tRaise_, decide_true, decide_false, not_true_eq_false, not_false_eq_true, false_and, or_false, false_or, and_false, and_assoc, exists_const, forall_const, forall_eq'])

section
variable {P : Program} {w : World} {K : PySem.W.Frag} {mg : Str → Option Value} {base : Heap}
open Ls
def spG : Sp := fun vs H Q _ => ∃ (u : Addr), vs = [.ref u] ∧ WellAt H u ∧ ∀ H', But u H H' → WellAt H' u → Q (.bl true) H'
def ri1 (H0 : Hp) (σ0 : List (Option V)) (_ : Nat) : L2.St → Hp → Prop := fun σ H => Same H0 H ∧ ∃ a : Option V, σ = σ0 ++ [a]
theorem isSt_up : ∀ (n : Nat) (d : PyData), isSt n d = true → isSt (n + 1) d = true ∧ cntSt (n + 1) d = cntSt n d
  | 0, d, h => ⟨deed_isSt h 1, by rw [(deed_plain h 1).1]; rfl⟩
  | n + 1, d, h => by
    have tr : ∀ x, treeOf (isSt n) x = true → treeOf (isSt (n + 1)) x = true ∧ cntOf (cntSt (n + 1)) x = cntOf (cntSt n) x := fun x hx => by
      cases x with
      | tuple ds =>
        have h' : ∀ x ∈ ds, isSt n x = true := List.all_eq_true.mp hx
        refine ⟨List.all_eq_true.mpr fun y hy => (isSt_up n y (h' y hy)).1, ?_⟩
        show (ds.map (cntSt (n + 1))).sum = (ds.map (cntSt n)).sum
        rw [List.map_congr_left fun y hy => (isSt_up n y (h' y hy)).2]
      | _ => cases hx
    rcases st_cases h with z | ⟨t, a, b, rfl, ht, ha, hb⟩ | ⟨t, a, rfl, ht, ha⟩
    · exact ⟨deed_isSt z _, by rw [(deed_plain z _).1, (deed_plain z _).1]⟩
    · exact ⟨i_ok ht (tr a ha).1 (tr b hb).1, by rw [if_cnt, if_cnt, (tr a ha).2, (tr b hb).2]⟩
    · exact ⟨w_ok ht (tr a ha).1, by rw [while_cnt, while_cnt, (tr a ha).2]⟩
theorem isSt_add (n : Nat) (d : PyData) (h : isSt n d = true) : ∀ k, isSt (n + k) d = true ∧ cntSt (n + k) d = cntSt n d
  | 0 => ⟨h, rfl⟩
  | k + 1 => by
    obtain ⟨h1, h2⟩ := isSt_add n d h k
    obtain ⟨h3, h4⟩ := isSt_up (n + k) d h1
    exact ⟨h3, h4.trans h2⟩
theorem tree_four {n : Nat} (hn : n ≤ 4) {d : PyData} (h : treeOf (isSt n) d = true) : treeOf (isSt 4) d = true ∧ cntOf (cntSt 4) d = cntOf (cntSt n) d := by
  obtain ⟨k, hk⟩ : ∃ k, 4 = n + k := ⟨4 - n, by omega⟩
  rw [hk]
  cases d with
  | tuple ds =>
    have h' : ∀ x ∈ ds, isSt n x = true := List.all_eq_true.mp h
    refine ⟨List.all_eq_true.mpr fun y hy => (isSt_add n y (h' y hy) k).1, ?_⟩
    show (ds.map (cntSt (n + k))).sum = (ds.map (cntSt n)).sum
    rw [List.map_congr_left fun y hy => (isSt_add n y (h' y hy) k).2]
  | _ => cases h
/-- any depth up to four -/
def spTwDU (K : PySem.W.Frag) : Sp := fun vs H Q E => ∃ n, n ≤ 4 ∧ spTwD K n vs H Q E
theorem fn_level {CX : CXT} {k k' : Nat} {f : Addr} {fd : FuncData} {ps : List Str} {sp : Sp} (F : FnOk P w K mg base CX k f fd ps sp) (h : k ≤ k') : FnOk P w K mg base CX k' f fd ps sp :=
  ⟨F.len, fun A ev s H ar us vs Q E hr => F.run A ev s H ar us vs Q E (hr.mono h)⟩
theorem twigs_all {f : Addr} {fd : FuncData} (T : Tx mg) (F : FD K "_law_twigs" (top 41) f fd) (g : mg "_law_twigs" = some (.ref f)) (b : Binds K fd ["_law_well_here", "_law_signs_here", "_law_often_here", "_law_deep", "_law_room"] []) {f1 f2 f3 : Addr} {fd1 fd2 fd3 : FuncData} (C1 : Cal P w K mg base CX0 1 "_law_take" ["_law_well_here", "_law_limit"] spTake f1 fd1) (C2 : Cal P w K mg base CX0 3 "_law_one_act" ["_law_well_here", "_law_signs_here"] (spAct K) f2 fd2) (C3 : Cal P w K mg base CX0 3 "_law_quiz" ["_law_well_here", "_law_signs_here"] (spQuiz K) f3 fd3) : ∀ n, Cal P w K mg base CX0 (3 + n) "_law_twigs" ["_law_well_here", "_law_signs_here", "_law_often_here", "_law_deep", "_law_room"] (spTwDP K n) f fd
  | 0 => ⟨g, F.kp, b, fn_false⟩
  | n + 1 => ⟨g, F.kp, b, ok_twigs T n F C1 C2 C3 (twigs_all T F g b C1 C2 C3 n)⟩
theorem twigs_u {f : Addr} {fd : FuncData} (h : ∀ n, Cal P w K mg base CX0 (3 + n) "_law_twigs" ["_law_well_here", "_law_signs_here", "_law_often_here", "_law_deep", "_law_room"] (spTwDP K n) f fd) : Cal P w K mg base CX0 8 "_law_twigs" ["_law_well_here", "_law_signs_here", "_law_often_here", "_law_deep", "_law_room"] (spTwDU K) f fd :=
  ⟨(h 0).g, (h 0).kp, (h 0).b, ⟨fun vs H Q E ⟨n, hn, z⟩ => (h (n + 1)).F.len vs H Q E z, fun A ev s H ar us vs Q E hr e0 hb rv ⟨n, hn, z⟩ => (h (n + 1)).F.run A ev s H ar us vs Q E (hr.mono (by omega)) e0 hb rv z⟩⟩
theorem pick_ints {H : Hp} {u p : Addr} {ns : List Int} {Q : VK} {E : XK} (hw : WellAt H u) (e : H p = some (.tup (ns.map V.int))) (l1 : 1 ≤ ns.length) (l2 : ns.length ≤ 1000)
    (k : ∀ (n : Int) (H' : Hp), But u H H' → WellAt H' u → n ∈ ns → Q (.int n) H') : spPick [.ref u, .ref p] H Q E := by
  have pu : p ≠ u := fun z => by
    obtain ⟨a, b, c, q⟩ := hw
    rw [z, q] at e
    cases e
  refine ⟨u, .ref p, _, rfl, hw, (fun q => pu (by cases q; rfl)), .tup e, by rw [List.length_map]; exact l1, by rw [List.length_map]; exact l2, fun y H' b w' hy => ?_⟩
  obtain ⟨n, hn, rfl⟩ := List.mem_map.mp hy
  exact k n H' b w' hn

theorem prog_text {d : PyData} (ht : treeOf (isSt 4) d = true) (hc : cntOf (cntSt 4) d ≤ 30) : progOf (treeTextOf (stText 4) d) = some d := by
  have e : toks (treeTextOf (stText 4) d) = treeW (stW false 4) d := (tree_Tk (st_Tk 4) ht).split.2.1
  have r := tree_read (st_read 4) ht (r := []) (.inl rfl)
  rw [List.append_nil] at r
  rw [progOf_toks, e]
  unfold progW
  rw [r]
  exact if_pos hc
def due (k : Nat) (vs : List V) : V := vs[k]?.getD .non
def rkP (H0 : Hp) (σ0 : List (Option V)) (_ : Nat) : L2.St → Hp → Prop := fun σ H => Same H0 H ∧ ∃ a b c d : Option V, σ = σ0 ++ [a, b, c, d]
def reP (H0 : Hp) (u : Addr) (σ0 : List (Option V)) (_ : Nat) : L2.St → Hp → Prop := fun σ H => But u H0 H ∧ WellAt H u ∧ ∃ a b : Option V, σ = σ0 ++ [a, b]
theorem sc_right : FnScope ["_law_well_here", "_law_room", "_law_twigs_here", "_law_said_here", "_law_signs_here", "_law_nest_here", "_law_due", "_law_k", "_law_once", "_law_each", "_law_branch"] ["_law_well_here"] (defScope (top 61)) := ⟨rfl, rfl, rfl, by decide +kernel, rfl, by decide +kernel, by decide +kernel⟩
theorem ok_right {f : Addr} {fd : FuncData} (T : Tx mg) (hS : SysD K) (F : FD K "_law_right" (top 61) f fd) {f1 f2 f3 f4 f5 f6 f7 f8 f9 f10 f11 f12 : Addr} {fd1 fd2 fd3 fd4 fd5 fd6 fd7 fd8 fd9 fd10 fd11 fd12 : FuncData}
    (C1 : Cal P w K mg base CX0 1 "_law_take" ["_law_well_here", "_law_limit"] spTake f1 fd1) (C2 : Cal P w K mg base CX0 2 "_law_pick" ["_law_well_here", "_law_some"] spPick f2 fd2) (C3 : Cal P w K mg base CX0 8 "_law_twigs" ["_law_well_here", "_law_signs_here", "_law_often_here", "_law_deep", "_law_room"] (spTwDU K) f3 fd3)
    (C4 : Cal P w K mg base CX0 6 "_law_said" ["_law_twigs_here"] (spTTx K 4) f4 fd4) (C5 : Cal P w K mg base CX0 5 "_law_signs" ["_law_twigs_here"] (spSg K 4) f5 fd5) (C6 : Cal P w K mg base CX0 5 "_law_nest" ["_law_twigs_here"] (spLD K 4) f6 fd6)
    (C7 : Cal P w K mg base CX0 5 "_law_acts" ["_law_twigs_here"] (spTD K 4) f7 fd7) (C8 : Cal P w K mg base CX0 5 "_law_often" ["_law_twigs_here"] (spCnt K 4) f8 fd8) (C9 : Cal P w K mg base CX0 28 "_law_called" ["_law_branch", "_law_said_here"] (spCalled K) f9 fd9)
    (C10 : Cal P w K mg base CX0 3 "_law_bent" ["_law_well_here", "_law_said_here"] (spBent K) f10 fd10) (C11 : Cal P w K mg base CX0 3 "_law_odd" ["_law_well_here"] (spOdd K) f11 fd11) (C12 : Cal P w K mg base CX0 26 "_law_read" ["_law_said_here"] (spRead K) f12 fd12) : Ga.FnG P w K mg base CX0 30 f fd ["_law_well_here"] spG := by
  obtain ⟨g_law_take, k_law_take, b_law_take, F_law_take⟩ := C1
  obtain ⟨g_law_pick, k_law_pick, b_law_pick, F_law_pick⟩ := C2
  obtain ⟨g_law_twigs, k_law_twigs, b_law_twigs, F_law_twigs⟩ := C3
  obtain ⟨g_law_said, k_law_said, b_law_said, F_law_said⟩ := C4
  obtain ⟨g_law_signs, k_law_signs, b_law_signs, F_law_signs⟩ := C5
  obtain ⟨g_law_nest, k_law_nest, b_law_nest, F_law_nest⟩ := C6
  obtain ⟨g_law_acts, k_law_acts, b_law_acts, F_law_acts⟩ := C7
  obtain ⟨g_law_often, k_law_often, b_law_often, F_law_often⟩ := C8
  obtain ⟨g_law_called, k_law_called, b_law_called, F_law_called⟩ := C9
  obtain ⟨g_law_bent, k_law_bent, b_law_bent, F_law_bent⟩ := C10
  obtain ⟨g_law_odd, k_law_odd, b_law_odd, F_law_odd⟩ := C11
  obtain ⟨g_law_read, k_law_read, b_law_read, F_law_read⟩ := C12
  refine Ga.FnG.mk' F sc_right (fun vs H Q E h => ?_) (fun cdv A outer s' H vs Q E hG hr h => ?_)
  · obtain ⟨_, rfl, _⟩ := h
    rfl
  · obtain ⟨u, rfl, hw, k⟩ := h
    have nd := sc_right.nd
    have zl : (400000 : Nat) ≤ sizeLine := by rw [sizeLine_eq]; decide
    refine ⟨_, (pss_cons (ps_set (i := 1) nd rfl (Or.inl rfl) (pe_lst (pa_cons (pe_call F_law_pick (hr.mono (by omega)) rfl g_law_pick k_law_pick b_law_pick .nil pass0 (pa_cons (pv 0) (pa_cons (pe_tup (pa_cons pe_int (pa_cons pe_int (pa_cons pe_int pa_nil)))) pa_nil))) (pa_cons pe_int pa_nil))))
        (pss_cons (ps_set (i := 2) nd rfl (Or.inl rfl) (pe_call F_law_twigs (hr.mono (by omega)) rfl g_law_twigs k_law_twigs b_law_twigs .nil pass0 (pa_cons (pv 0) (pa_cons (pe_call F_law_pick (hr.mono (by omega)) rfl g_law_pick k_law_pick b_law_pick .nil pass0 (pa_cons (pv 0) (pa_cons (pe_tup (pa_cons pe_str (pa_cons pe_str (pa_cons pe_str (pa_cons pe_str pa_nil))))) pa_nil))) (pa_cons (pe_call F_law_take (hr.mono (by omega)) rfl g_law_take k_law_take b_law_take .nil pass0 (pa_cons (pv 0) (pa_cons pe_int pa_nil))) (pa_cons (pe_call F_law_pick (hr.mono (by omega)) rfl g_law_pick k_law_pick b_law_pick .nil pass0 (pa_cons (pv 0) (pa_cons (pe_tup (pa_cons pe_int (pa_cons pe_int (pa_cons pe_int pa_nil)))) pa_nil))) (pa_cons (pv 1) pa_nil)))))))
        (pss_cons (ps_par3 rfl nd (i := 3) (j := 4) (l := 5) rfl rfl rfl (by decide) (by decide) (by decide) rfl rfl rfl (pa_cons (pe_call F_law_said (hr.mono (by omega)) rfl g_law_said k_law_said b_law_said .nil pass0 (pa_cons (pv 2) pa_nil)) (pa_cons (pe_join pe_str (pe_call F_law_signs (hr.mono (by omega)) rfl g_law_signs k_law_signs b_law_signs .nil pass0 (pa_cons (pv 2) pa_nil))) (pa_cons (pe_call F_law_nest (hr.mono (by omega)) rfl g_law_nest k_law_nest b_law_nest .nil pass0 (pa_cons (pv 2) pa_nil)) pa_nil))) rfl)
        (pss_cons (ps_set (i := 6) nd rfl (Or.inl rfl) (pe_lst (pa_cons (pv 4) (pa_cons (pe_callTy call_tuple_of (by rfl) T.b_tuple (by decide +kernel) (pa_cons (pe_call F_law_acts (hr.mono (by omega)) rfl g_law_acts k_law_acts b_law_acts .nil pass0 (pa_cons (pv 2) pa_nil)) pa_nil)) (pa_cons (pe_cmpR op_gt (pv 5) pe_int (nomark _)) (pa_cons (pe_cmpR op_lt (pv 5) pe_int (nomark _)) (pa_cons (pe_call F_law_often (hr.mono (by omega)) rfl g_law_often k_law_often b_law_often .nil pass0 (pa_cons (pv 2) pa_nil)) pa_nil)))))))
        (pss_cons (ps_for (passes_of rfl) rfl (pi_range1 rfl T.b_range (pa_cons pe_int pa_nil)) (pg_name (i := 7) nd rfl (Or.inl rfl)) (pss_one (ps_if (pt_cmpR op_ne (pe_callB (Rl.call_reprL (K := K) rfl hS hG hr.units) (by rfl) T.b_repr (by decide +kernel) (pa_cons (pe_call F_law_called (hr.mono (by omega)) rfl g_law_called k_law_called b_law_called .nil pass0 (pa_cons (pv 7) (pa_cons (pv 3) pa_nil))) pa_nil)) (pe_callB (Rl.call_reprL (K := K) rfl hS hG hr.units) (by rfl) T.b_repr (by decide +kernel) (pa_cons (pe_lst (pa_cons pe_str (pa_cons (pe_ix (r := rIxL K) ix_list (pv 6) (pv 7) (fun _ _ => rfl)) (pa_cons (pe_ix (r := rIxL K) ix_list (pv 6) (pv 7) (fun _ _ => rfl)) pa_nil)))) pa_nil)) (nomark _)) (pss_one (ps_ret pe_bl)) pss_nil)))
        (pss_cons (ps_set (i := 8) nd rfl (Or.inl rfl) (pe_call F_law_bent (hr.mono (by omega)) rfl g_law_bent k_law_bent b_law_bent .nil pass0 (pa_cons (pv 0) (pa_cons (pv 3) pa_nil))))
        (pss_cons (ps_for (passes_of rfl) rfl (pi_tup (pe_tup (pa_cons (pv 8) (pa_cons (pe_call F_law_bent (hr.mono (by omega)) rfl g_law_bent k_law_bent b_law_bent .nil pass0 (pa_cons (pv 0) (pa_cons (pv 8) pa_nil))) (pa_cons (pe_call F_law_odd (hr.mono (by omega)) rfl g_law_odd k_law_odd b_law_odd .nil pass0 (pa_cons (pv 0) pa_nil)) pa_nil))))) (pg_name (i := 9) nd rfl (Or.inl rfl)) (pss_cons (ps_set (i := 10) nd rfl (Or.inl rfl) (pe_call F_law_take (hr.mono (by omega)) rfl g_law_take k_law_take b_law_take .nil pass0 (pa_cons (pv 0) (pa_cons pe_int pa_nil))))
        (pss_one (ps_if (PW.pt (pw_or (pt_not (pt_val (pe_callB call_isi (by rfl) T.b_isinstance (by decide +kernel) (pa_cons (pv 9) (pa_cons (pe_bltn (v := .ty "str") rfl T.b_str (by decide +kernel) rfl) pa_nil))))) (pw_or1 (pt_cmpR op_isN (pe_call F_law_read (hr.mono (by omega)) rfl g_law_read k_law_read b_law_read .nil pass0 (pa_cons (pv 9) pa_nil)) pe_non (nomark _))))) (pss_one (ps_if (pt_cmpR op_ne (pe_callB (Rl.call_reprL (K := K) rfl hS hG hr.units) (by rfl) T.b_repr (by decide +kernel) (pa_cons (pe_call F_law_called (hr.mono (by omega)) rfl g_law_called k_law_called b_law_called .nil pass0 (pa_cons (pv 10) (pa_cons (pv 9) pa_nil))) pa_nil)) (pe_callB (Rl.call_reprL (K := K) rfl hS hG hr.units) (by rfl) T.b_repr (by decide +kernel) (pa_cons (pe_lst (pa_cons pe_str (pa_cons (pv 9) (pa_cons pe_bl pa_nil)))) pa_nil)) (nomark _)) (pss_one (ps_ret pe_bl)) pss_nil)) pss_nil))))
        (pss_one (ps_ret pe_bl))))))))), ?_⟩
    refine sq fun U hU => ?_
    walk_at "rd"
    refine ⟨by decide, fun p2 hp2 => ?_⟩
    have s2 : Same H (upd H p2 (.tup [.int 3, .int 8, .int 30])) := same_new hp2
    refine pick_ints (ns := [3, 8, 30]) (hw.but s2) upd_same (by decide) (by decide) fun rm H3 b3 w3 hrm => ?_
    replace b3 : But u H H3 := (But.same s2).trans b3
    obtain ⟨rm0, rm1⟩ : 0 ≤ rm ∧ rm ≤ 30 := by
      simp only [List.mem_cons, List.not_mem_nil, or_false] at hrm
      rcases hrm with rfl | rfl | rfl <;> exact ⟨by decide, by decide⟩
    walk_at "rd"
    refine ⟨by decide, fun r hr' => hU _ _ ?_⟩
    clear hU s2 hp2 hrm
    have s4 : Same H3 (upd H3 r (.lst [.int rm, .int 2])) := same_new hr'
    have w4 := w3.but s4
    have e4 : (upd H3 r (HO.lst [.int rm, .int 2])) r = some (.lst [.int rm, .int 2]) := upd_same
    have b4 : But2 u r H3 (upd H3 r (.lst [.int rm, .int 2])) := But2.of (But.same s4)
    have ru : r ≠ u := w3.ne hr'
    generalize upd H3 r (HO.lst [V.int rm, V.int 2]) = H4 at w4 e4 b4 ⊢
    clear s4
    refine sq fun U hU => ?_
    walk_at "rd"
    refine ⟨by decide, fun p5 hp5 => ?_⟩
    have s5 := same_new (o := .tup [.str "x", .str "xy", .str "abc", .str "vwxyz"]) hp5
    refine ⟨u, .ref p5, _, rfl, w4.but s5, (fun q => w4.ne hp5 (by cases q; rfl)), .tup upd_same, (by decide : 1 ≤ 4), (by decide : 4 ≤ 1000), fun y H5 b5 w5 hy => ?_⟩
    obtain ⟨z, rfl, hz⟩ : ∃ z : Str, y = .str z ∧ Sg z := by
      simp only [List.mem_cons, List.not_mem_nil, or_false] at hy
      rcases hy with rfl | rfl | rfl | rfl
      · exact ⟨_, rfl, .inl rfl⟩
      · exact ⟨_, rfl, .inr (.inl rfl)⟩
      · exact ⟨_, rfl, .inr (.inr (.inl rfl))⟩
      · exact ⟨_, rfl, .inr (.inr (.inr rfl))⟩
    replace b5 := (But.same (u := u) s5).trans b5
    clear hy s5 hp5
    walk_at "rd"
    refine ⟨u, 5, rfl, w5, by decide, by decide, fun oft H6 b6 w6 o0 o1 => ?_⟩
    walk_at "rd"
    refine ⟨by decide, fun p7 hp7 => ?_⟩
    have s7 := same_new (o := .tup [.int 1, .int 2, .int 4]) hp7
    refine pick_ints (ns := [1, 2, 4]) (w6.but s7) upd_same (by decide) (by decide) fun dn H7 b7 w7 hdn => ?_
    obtain ⟨n, rfl, hn⟩ : ∃ n : Nat, dn = (n : Int) ∧ n ≤ 4 := by
      simp only [List.mem_cons, List.not_mem_nil, or_false] at hdn
      rcases hdn with rfl | rfl | rfl
      · exact ⟨1, rfl, by decide⟩
      · exact ⟨2, rfl, by decide⟩
      · exact ⟨4, rfl, by decide⟩
    have b47 : But u H4 H7 := b5.trans (b6.trans ((But.same s7).trans b7))
    clear hdn s7 hp7 b5 b6 b7 w5 w6
    walk_at "rd"
    refine ⟨n, hn, u, r, z, oft, rm, 2, rfl, w7, b47 _ _ ru e4, rm0, ru, hz, o0, by omega, fun x d H8 a6 q6 b8 w8 e8 a60 hc6 hx hd1 hd2 ht => hU _ _ ?_⟩
    clear hU
    obtain ⟨t4, c4⟩ := tree_four hn ht
    have hb : But u H H8 := fun b o nb e => by
      have e3 := b3 b o nb e
      have nr := ne_of_none e3 hr'
      exact b8 b o nb nr (b47 b o nb (b4 b o nb nr e3))
    have hx8 : Dq K H8 x d := hx.up newp_sub
    have c30 : cntOf (cntSt 4) d ≤ 30 := by rw [c4]; omega
    clear b3 b4 b47 b8 hx hd1 hd2 ht c4 hc6 a60 e8 e4 w4 w7 hr'
    have tb : Bt (treeTextOf (stText 4) d) 2224 := (tk_bt (tree_tok (st_tok 4) t4)).mono (by
      have := Nat.mul_le_mul_left (64 + 2 * 4 + 2) c30
      omega)
    have pt := prog_text t4 c30
    refine sq fun U hU => ?_
    walk_at "rd"
    refine ⟨x, d, rfl, hx8, t4, by omega, fun H9 s9 => ?_⟩
    have e0 : (Str.ofString "").length = 0 := by decide
    refine ⟨⟨_, rfl⟩, x, d, rfl, hx8.up s9, t4, by omega, fun ql H10 s10 l10 => ⟨ql, rfl, letL (treeL (stL 4) d), .inl (SqL.of l10), ?_, x, d, rfl, (hx8.up s9).up s10, t4, fun H11 s11 => hU _ _ ?_⟩⟩
    · have h2 := letL_sum (treeL (stL 4) d)
      rw [e0, Nat.mul_zero]
      omega
    clear hU
    have hx11 := ((hx8.up s9).up s10).up s11
    have b11 := hb.trans (But.same (u := u) (s9.trans (s10.trans s11)))
    have w11 := w8.but (s9.trans (s10.trans s11))
    have el : Txt.join (Str.ofString "") (letL (treeL (stL 4) d)) = lettersOf d := rfl
    rw [el]
    clear hb w8 hx8 s9 s10 s11 l10
    refine sq fun U hU => ?_
    walk_at "rd"
    refine ⟨x, d, H11, rfl, Same.refl _, hx11, t4, by omega, fun pa H12 as na s12 ea Da => ⟨pa, rfl, as, .inl ⟨SqL.of ea, fun pt' hpt => ?_⟩⟩⟩
    have s13 := same_new (o := .tup as) hpt
    have Dt : Dq K (upd H12 pt' (.tup as)) (.ref pt') (.tuple (treeL (stD 4) d)) := .tup upd_same ((Da.up s12).up s13)
    have s23 := s12.trans s13
    generalize upd H12 pt' (.tup as) = H13 at Dt s23 ⊢
    walk_at "rd"
    refine ⟨x, d, rfl, hx11.up s23, t4, fun H14 s14 => ⟨by omega, fun pd hpd => hU _ _ ?_⟩⟩
    clear hU
    have ei1 : decide ((0 : Int) < ((treeN (stN 4) d : Nat) : Int)) = decide (0 < treeN (stN 4) d) := by rw [decide_eq_decide]; omega
    have ei2 : decide (((treeN (stN 4) d : Nat) : Int) < 2) = decide (treeN (stN 4) d < 2) := by rw [decide_eq_decide]; omega
    rw [ei1, ei2]
    have s15 := s14.trans (same_new (o := .lst [.str (lettersOf d), .ref pt', .bl (decide (0 < treeN (stN 4) d)), .bl (decide (treeN (stN 4) d < 2)), .int (cntOf (cntSt 4) d : Nat)]) hpd)
    have ed : (upd H14 pd (HO.lst [.str (lettersOf d), .ref pt', .bl (decide (0 < treeN (stN 4) d)), .bl (decide (treeN (stN 4) d < 2)), .int (cntOf (cntSt 4) d : Nat)])) pd = some (.lst [.str (lettersOf d), .ref pt', .bl (decide (0 < treeN (stN 4) d)), .bl (decide (treeN (stN 4) d < 2)), .int (cntOf (cntSt 4) d : Nat)]) := upd_same
    replace Dt := Dt.up s15
    have b15 := b11.trans (But.same (u := u) (s23.trans s15))
    have w15 := w11.but (s23.trans s15)
    generalize (upd H14 pd (HO.lst [.str (lettersOf d), .ref pt', .bl (decide (0 < treeN (stN 4) d)), .bl (decide (treeN (stN 4) d < 2)), .int (cntOf (cntSt 4) d : Nat)])) = H15 at ed Dt b15 w15 ⊢
    clear s14 s15 s23 hpd hpt s13 s12 Da ea na b11 w11
    have hdue : ∀ i : Nat, i < 5 → ∃ v, [V.str (lettersOf d), .ref pt', .bl (decide (0 < treeN (stN 4) d)), .bl (decide (treeN (stN 4) d < 2)), .int (cntOf (cntSt 4) d : Nat)][i]? = some v ∧ Dq K H15 v (told i d) := fun i hi => by
      match i, hi with
      | 0, _ => exact ⟨_, rfl, .str _ ((letters_bt d).sm (by decide))⟩
      | 1, _ => exact ⟨_, rfl, Dt⟩
      | 2, _ => exact ⟨_, rfl, .bl _⟩
      | 3, _ => exact ⟨_, rfl, .bl _⟩
      | 4, _ => exact ⟨_, rfl, .int _ (by omega)⟩
    have po : progOfD (.str (treeTextOf (stText 4) d)) = some d := pt
    have tsm := tb.sm (by decide)
    have hst : ∀ H, Dq K H (.str (treeTextOf (stText 4) d)) (.str (treeTextOf (stText 4) d)) := fun H => .str _ tsm
    generalize treeTextOf (stText 4) d = txt at tb po tsm hst ⊢
    have st : smS "told" = true := by decide +kernel
    have sr : smS "refused" = true := by decide +kernel
    refine sq fun U hU => ?_
    walk_at "rd"
    refine ⟨by decide, by decide, ?_⟩
    refine for_r (rkP H15 [some (.ref u), some (.ref r), some x, some (.str txt), some (.str (lettersOf d)), some (.int (treeN (stN 4) d : Nat)), some (.ref pd)]) ⟨Same.refl _, _, _, _, _, rfl⟩ ?_ ?_
    · rintro i σ H16 hi ⟨hs, v1, v2, v3, v4, rfl⟩
      obtain ⟨v, hv, hD⟩ := hdue i (by omega)
      obtain ⟨w1, w2⟩ := told_size (k := (i : Int)) t4 c30
      walk_at "rd"
      have ei : (0 : Int) + (i : Int) = (i : Int) := by omega
      rw [ei]
      refine ⟨(i : Int), .str txt, .str txt, rfl, hst _, by omega, by omega, fun l H17 xs s17 hl hxs => ⟨l, rfl, xs, hl, _, hxs, ?_, ?_, ?_⟩⟩
      · unfold calledD
        rw [po]
        simp only [PyData.depthAll, PyData.depth]
        omega
      · unfold calledD
        rw [po]
        show wtAll [.str "told", told i d, told i d] ≤ 1000000
        simp only [wtAll, wt]
        have : (Str.ofString "told").length = 4 := by decide
        omega
      · walk_at "rd"
        refine ⟨_, SqL.of (s17 _ _ (hs _ _ ed)), _, atI_nn (by omega) hv, _, SqL.of (s17 _ _ (hs _ _ ed)), _, atI_nn (by omega) hv, by omega, fun p8 hp8 => ?_⟩
        have s8 := same_new (o := .lst [.str "told", v, v]) hp8
        have hD8 := ((hD.up hs).up s17).up s8
        refine ⟨_, upd_same, [.str "told", told i d, told i d], .cons (.str _ st) (.cons hD8 (.cons hD8 .nil)), ?_, ?_, ?_⟩
        · simp only [PyData.depthAll, PyData.depth]
          omega
        · simp only [wtAll, wt]
          have : (Str.ofString "told").length = 4 := by decide
          omega
        · have ec : calledD i (.str txt) = [.str "told", told i d, told i d] := by unfold calledD; rw [po]
          rw [ec]
          walk_at "rd"
          exact ⟨hs.trans (s17.trans s8), _, _, _, _, rfl⟩
    · rintro σ H16 ⟨hs, v1, v2, v3, v4, rfl⟩
      refine hU _ _ ?_
      clear hU
      have b16 := b15.trans (But.same (u := u) hs)
      have w16 := w15.but hs
      refine sq fun U hU => ?_
      walk_at "rd"
      refine ⟨u, txt, 2224, rfl, w16, tb, by decide, fun t1 H17 b17 w17 bt1 => hU _ _ ?_⟩
      clear hU
      refine sq fun U hU => ?_
      walk_at "rd"
      refine ⟨u, t1, 4478, rfl, w17, bt1, by decide, fun t2 H18 b18 w18 bt2 => ⟨u, rfl, w18, fun xo dd H19 b19 w19 hxo ho1 ho2 ho3 => ⟨by omega, fun q hq => ?_⟩⟩⟩
      have s20 : Same H19 (upd H19 q (.tup [.str t1, .str t2, xo])) := same_new hq
      have e20 : (upd H19 q (HO.tup [.str t1, .str t2, xo])) q = some (.tup [.str t1, .str t2, xo]) := upd_same
      have qu : q ≠ u := w19.ne hq
      have w20 := w19.but s20
      have b20 := b16.trans (b17.trans (b18.trans (b19.trans (But.same s20))))
      have hxo' := hxo.up s20
      generalize upd H19 q (HO.tup [V.str t1, V.str t2, xo]) = H20 at e20 w20 b20 hxo' ⊢
      clear s20 hq b15 w15 b16 w16 b17 w17 b18 w18 b19 w19
      have hall : ∀ (i : Nat) (y : V), [V.str t1, V.str t2, xo][i]? = some y → ∃ d' : PyData, (∀ H', But u H20 H' → Dq K H' y d') ∧ d'.depth ≤ 3 ∧ wt d' ≤ 200000 ∧ ((∃ s, y = .str s ∧ d' = .str s ∧ smS s = true) ∨ progOfD d' = none) := by
        intro i y hy
        match i, hy with
        | 0, hy =>
          cases hy
          have sm1 := bt1.sm (by decide)
          have l1 := bt1.l
          exact ⟨.str t1, fun _ _ => .str _ sm1, by simp [PyData.depth], by rw [wt]; omega, .inl ⟨_, rfl, rfl, sm1⟩⟩
        | 1, hy =>
          cases hy
          have sm1 := bt2.sm (by decide)
          have l1 := bt2.l
          exact ⟨.str t2, fun _ _ => .str _ sm1, by simp [PyData.depth], by rw [wt]; omega, .inl ⟨_, rfl, rfl, sm1⟩⟩
        | 2, hy =>
          cases hy
          exact ⟨dd, fun H' b => dq_but b w20 hxo', ho1, by omega, .inr ho3⟩
      refine ⟨⟨_, SqT.of e20⟩, ?_⟩
      refine for_t (xs := [V.str t1, V.str t2, xo]) (reP H20 u [some (.ref u), some (.ref r), some x, some (.str txt), some (.str (lettersOf d)), some (.int (treeN (stN 4) d : Nat)), some (.ref pd), v1, some (.str t1)]) ⟨But.refl, w20, _, _, rfl⟩ (fun i σ H' _ hP => SqT.of (hP.1 _ _ qu e20)) ?_ ?_
      · rintro j y σ H21 hy ⟨b21, w21, v5, v6, rfl⟩
        obtain ⟨d', hD', hd1, hd2, hcase⟩ := hall j y hy
        simp only [gName_, List.set_cons_succ, List.set_cons_zero]
        refine sq fun V2 hV => ?_
        walk_at "rd"
        refine ⟨u, 5, rfl, w21, by decide, by decide, fun br H22 b22 w22 br0 br1 => hV _ _ ?_⟩
        clear hV
        replace b22 := b21.trans b22
        walk_at "rd"
        refine isi_str (hD' _ b22) ?_
        walk_at "rd"
        have ec : progOfD d' = none → calledD br d' = [.str "refused", d', .bool true] := fun hn => by unfold calledD; rw [hn]
        have z1 : PyData.depthAll [.str "refused", d', .bool true] ≤ 49 := by
          simp only [PyData.depthAll, PyData.depth]
          omega
        have z2 : wtAll [.str "refused", d', .bool true] ≤ 1000000 := by
          simp only [wtAll, wt]
          have : (Str.ofString "refused").length = 7 := by decide
          omega
        rcases hcase with ⟨sy, rfl, rfl, smy⟩ | hn
        · rw [if_neg (show ¬ isStr (.str sy) = false by simp [isStr])]
          refine ⟨sy, rfl, smy, fun xr H23 s23 hxr => ?_⟩
          dsimp only
          have b23 := b22.trans (But.same (u := u) s23)
          have w23 := w22.but s23
          have en := ov_isN (d := .str sy) hxr
          cases hn : progOfD (.str sy) with
          | none =>
            rw [hn] at en
            rw [if_pos (of_decide_eq_true en)]
            refine ⟨br, .str sy, .str sy, rfl, hD' _ b23, br0, br1, fun l H24 xs s24 hl hxs => ?_⟩
            rw [ec hn] at hxs
            refine ⟨l, rfl, xs, hl, _, hxs, z1, z2, by omega, fun p hp => ?_⟩
            have s25 := same_new (o := .lst [.str "refused", .str sy, .bl true]) hp
            have b25 := b23.trans (But.same (u := u) (s24.trans s25))
            refine ⟨_, upd_same, [.str "refused", .str sy, .bool true], .cons (.str _ sr) (.cons (hD' _ b25) (.cons (.bl _) .nil)), z1, z2, ?_⟩
            rw [if_neg (by simp)]
            exact ⟨b25, w23.but (s24.trans s25), _, _, rfl⟩
          | some t' =>
            rw [hn] at en
            rw [if_neg (of_decide_eq_false en)]
            exact ⟨b23, w23, _, _, rfl⟩
        · have notS : isStr d' = false ∨ ∃ sy, d' = .str sy := by
            cases d' with
            | str sy => exact .inr ⟨_, rfl⟩
            | _ => exact .inl rfl
          rcases notS with hs' | ⟨sy, rfl⟩
          · rw [if_pos hs']
            refine ⟨br, y, d', rfl, hD' _ b22, br0, br1, fun l H24 xs s24 hl hxs => ?_⟩
            rw [ec hn] at hxs
            refine ⟨l, rfl, xs, hl, _, hxs, z1, z2, by omega, fun p hp => ?_⟩
            have s25 := same_new (o := .lst [.str "refused", y, .bl true]) hp
            have b25 := b22.trans (But.same (u := u) (s24.trans s25))
            refine ⟨_, upd_same, [.str "refused", d', .bool true], .cons (.str _ sr) (.cons (hD' _ b25) (.cons (.bl _) .nil)), z1, z2, ?_⟩
            rw [if_neg (by simp)]
            exact ⟨b25, w22.but (s24.trans s25), _, _, rfl⟩
          · rw [if_neg (show ¬ isStr (.str sy) = false by simp [isStr])]
            have hy' := hD' _ b22
            cases hy' with
            | str _ smy =>
              refine ⟨sy, rfl, smy, fun xr H23 s23 hxr => ?_⟩
              dsimp only
              have b23 := b22.trans (But.same (u := u) s23)
              have w23 := w22.but s23
              have en := ov_isN (d := .str sy) hxr
              rw [hn] at en
              rw [if_pos (of_decide_eq_true en)]
              refine ⟨br, .str sy, .str sy, rfl, hD' _ b23, br0, br1, fun l H24 xs s24 hl hxs => ?_⟩
              rw [ec hn] at hxs
              refine ⟨l, rfl, xs, hl, _, hxs, z1, z2, by omega, fun p hp => ?_⟩
              have s25 := same_new (o := .lst [.str "refused", .str sy, .bl true]) hp
              have b25 := b23.trans (But.same (u := u) (s24.trans s25))
              refine ⟨_, upd_same, [.str "refused", .str sy, .bool true], .cons (.str _ sr) (.cons (hD' _ b25) (.cons (.bl _) .nil)), z1, z2, ?_⟩
              rw [if_neg (by simp)]
              exact ⟨b25, w23.but (s24.trans s25), _, _, rfl⟩
      · rintro σ H21 ⟨b21, w21, v5, v6, rfl⟩
        refine hU _ _ ?_
        walk_at "rd"
        exact k _ (b20.trans b21) w21
theorem sc_law : FnScope ["_law_script", "_law_turn"] ["_law_script"] (defScope (top 62)) := ⟨rfl, rfl, rfl, by decide +kernel, rfl, by decide +kernel, by decide +kernel⟩
def spLaw (K : PySem.W.Frag) : Sp := fun vs H Q _ => ∃ (a : Addr) (ns : List Int), vs = [.ref a] ∧ SqL K H a (ns.map V.int) ∧ ns.length ≤ 63 ∧ ∀ H', Q (.bl true) H'
def lwP (H : Hp) (D : Addr) (i : Nat) (H' : Hp) : Prop := Same H H' ∧ H' D = some (.lst ((List.replicate i true).map V.bl))
theorem ok_law (T : Tx mg) {f : Addr} {fd : FuncData} (F : FD K "law" (top 62) f fd) {f1 f2 : Addr} {fd1 fd2 : FuncData} (C1 : CalG P w K mg base CX0 30 "_law_right" ["_law_well_here"] spG f1 fd1)
    (C2 : Cal P w K mg base CX0 1 "_law_well" ["_law_script", "_law_turn"] (spWell K) f2 fd2) : Ga.FnG P w K mg base CX0 31 f fd ["_law_script"] (spLaw K) := by
  obtain ⟨g_law_right, k_law_right, b_law_right, F_law_right⟩ := C1
  obtain ⟨g_law_well, k_law_well, b_law_well, F_law_well⟩ := C2
  refine Ga.FnG.mk' F sc_law (fun vs H Q E h => ?_) (fun cdv A outer s' H vs Q E hG hr h => ?_)
  · obtain ⟨_, _, rfl, _⟩ := h
    rfl
  · obtain ⟨a, ns, rfl, ha, hn, k⟩ := h
    have nd := sc_law.nd
    refine ⟨_, (pss_one (ps_ret (pe_callB (cr_all rfl) (by rfl) T.b_all (by decide +kernel) (pa_cons (pe_lc (own := [("_law_turn", 1)]) rfl nd (pi_range1 rfl T.b_range (pa_cons (pe_callB (call_max2 rfl) (by rfl) T.b_max (by decide +kernel) (pa_cons pe_int (pa_cons (pe_callB (call_min2 rfl) (by rfl) T.b_min (by decide +kernel) (pa_cons (pe_callB call_len_seq (by rfl) T.b_len PySem.boot_len (pa_cons (pv 0) pa_nil)) (pa_cons pe_int pa_nil))) pa_nil))) pa_nil)) (blkOk_by (N := ["_law_script", "_law_turn"]) (sc := defScope (top 62)) (by decide +kernel)) (fun _ _ _ _ _ => (pg_name (i := 1) nd rfl (Or.inl rfl))) (fun _ _ _ _ _ => pts_nil) (fun _ _ _ _ _ => (Ga.pe_callG F_law_right hG (hr.mono (by omega)) rfl g_law_right k_law_right b_law_right .nil pass0 (pa_cons (pe_call F_law_well (hr.mono (by omega)) rfl g_law_well k_law_well b_law_well .nil pass0 (pa_cons (pv 0) (pa_cons (pv 1) pa_nil))) pa_nil)))) pa_nil)))), ?_⟩
    walk_at "rd"
    refine ⟨_, .inl ha, ?_⟩
    have en : ∃ n : Int, n = (if (if 3 < ((ns.map V.int).length : Int) then 3 else ((ns.map V.int).length : Int)) > 2 then (if 3 < ((ns.map V.int).length : Int) then 3 else ((ns.map V.int).length : Int)) else 2) ∧ 2 ≤ n ∧ n ≤ 3 := ⟨_, rfl, by split <;> omega, by split <;> split <;> omega⟩
    obtain ⟨n, e, n2, n3⟩ := en
    rw [← e]
    refine ⟨by omega, by omega, lc_r (lwP H) fun D hD => ⟨⟨same_new hD, upd_same⟩, ?_, ?_⟩⟩
    · rintro i H' hi ⟨hs, hL⟩
      unfold Lturn
      walk_at "rd"
      refine ⟨a, ns, _, rfl, hs.seq ha, hn, by omega, by omega, fun u H1 s1 u0 w1 => ⟨u, rfl, w1, fun H2 b2 w2 => ?_⟩⟩
      have s2 : Same H' H2 := fun b o e => b2 b o (ne_of_none e u0) (s1 b o e)
      refine ⟨_, s2 _ _ hL, ?_, fun b o e => ?_, ?_⟩
      · rw [List.length_map, List.length_replicate]
        refine Nat.lt_of_le_of_lt (show i ≤ 3 by omega) (by rw [sizeLine_eq]; decide)
      · rw [upd_ne (ne_of_none e hD)]
        exact s2 b o (hs b o e)
      · rw [upd_same, List.replicate_succ', List.map_append]; rfl
    · rintro H' ⟨hs, hL⟩
      refine ⟨D, _, rfl, SqL.of hL, ?_⟩
      rw [show (List.replicate n.toNat true).all id = true from by simp]
      exact k _
end
end K38

set_option Elab.async false
set_option linter.all false
set_option maxRecDepth 100000
set_option maxHeartbeats 0
namespace K38H
open PySem PySem.Spec PyProof.Rows L2 Rd Dt Dq Pk K38
def d0 : He.DefD := ⟨("InvalidProgram", some "__init__"), "__init__", "InvalidProgram.__init__", defArgs (inClass (top 2) 0), defBody (inClass (top 2) 0), defScope (inClass (top 2) 0), [], []⟩
def d1 : He.DefD := ⟨("is_letter", none), "is_letter", "is_letter", defArgs (top 5), defBody (top 5), defScope (top 5), [], []⟩
def d2 : He.DefD := ⟨("is_goal", none), "is_goal", "is_goal", defArgs (top 10), defBody (top 10), defScope (top 10), [], []⟩
def d3 : He.DefD := ⟨("Words", some "__init__"), "__init__", "Words.__init__", defArgs (inClass (top 11) 0), defBody (inClass (top 11) 0), defScope (inClass (top 11) 0), [], []⟩
def d4 : He.DefD := ⟨("Words", some "peek"), "peek", "Words.peek", defArgs (inClass (top 11) 1), defBody (inClass (top 11) 1), defScope (inClass (top 11) 1), [], []⟩
def d5 : He.DefD := ⟨("Words", some "take"), "take", "Words.take", defArgs (inClass (top 11) 2), defBody (inClass (top 11) 2), defScope (inClass (top 11) 2), [], []⟩
def d6 : He.DefD := ⟨("Words", some "is_over"), "is_over", "Words.is_over", defArgs (inClass (top 11) 3), defBody (inClass (top 11) 3), defScope (inClass (top 11) 3), [], []⟩
def d7 : He.DefD := ⟨("split_words", none), "split_words", "split_words", defArgs (top 12), defBody (top 12), defScope (top 12), [], []⟩
def d8 : He.DefD := ⟨("read_comparison", none), "read_comparison", "read_comparison", defArgs (top 13), defBody (top 13), defScope (top 13), [], []⟩
def d9 : He.DefD := ⟨("read_test", none), "read_test", "read_test", defArgs (top 14), defBody (top 14), defScope (top 14), [], []⟩
def d10 : He.DefD := ⟨("read_next_or_tie", none), "read_next_or_tie", "read_next_or_tie", defArgs (top 15), defBody (top 15), defScope (top 15), [], []⟩
def d11 : He.DefD := ⟨("read_block", none), "read_block", "read_block", defArgs (top 16), defBody (top 16), defScope (top 16), [], []⟩
def d12 : He.DefD := ⟨("read_if", none), "read_if", "read_if", defArgs (top 17), defBody (top 17), defScope (top 17), [], []⟩
def d13 : He.DefD := ⟨("read_while", none), "read_while", "read_while", defArgs (top 18), defBody (top 18), defScope (top 18), [], []⟩
def d14 : He.DefD := ⟨("read_statement", none), "read_statement", "read_statement", defArgs (top 19), defBody (top 19), defScope (top 19), [], []⟩
def d15 : He.DefD := ⟨("read_rows", none), "read_rows", "read_rows", defArgs (top 20), defBody (top 20), defScope (top 20), [], []⟩
def d16 : He.DefD := ⟨("count_statements", none), "count_statements", "count_statements", defArgs (top 21), defBody (top 21), defScope (top 21), [], []⟩
def d17 : He.DefD := ⟨("tree_of", none), "tree_of", "tree_of", defArgs (top 22), defBody (top 22), defScope (top 22), [], []⟩
def d18 : He.DefD := ⟨("program_tree", none), "program_tree", "program_tree", defArgs (top 24), defBody (top 24), defScope (top 24), [], []⟩
def d19 : He.DefD := ⟨("test_letters", none), "test_letters", "test_letters", defArgs (top 25), defBody (top 25), defScope (top 25), [], []⟩
def d20 : He.DefD := ⟨("tree_letters", none), "tree_letters", "tree_letters", defArgs (top 26), defBody (top 26), defScope (top 26), [], []⟩
def d21 : He.DefD := ⟨("tree_deeds", none), "tree_deeds", "tree_deeds", defArgs (top 27), defBody (top 27), defScope (top 27), [], []⟩
def d22 : He.DefD := ⟨("loops_depth", none), "loops_depth", "loops_depth", defArgs (top 28), defBody (top 28), defScope (top 28), [], []⟩
def d23 : He.DefD := ⟨("program_letters", none), "program_letters", "program_letters", defArgs (top 29), defBody (top 29), defScope (top 29), [], []⟩
def d24 : He.DefD := ⟨("deeds_of", none), "deeds_of", "deeds_of", defArgs (top 30), defBody (top 30), defScope (top 30), [], []⟩
def d25 : He.DefD := ⟨("has_loop", none), "has_loop", "has_loop", defArgs (top 31), defBody (top 31), defScope (top 31), [], []⟩
def d26 : He.DefD := ⟨("is_plain", none), "is_plain", "is_plain", defArgs (top 32), defBody (top 32), defScope (top 32), [], []⟩
def d27 : He.DefD := ⟨("statements_number", none), "statements_number", "statements_number", defArgs (top 33), defBody (top 33), defScope (top 33), [], []⟩
def d28 : He.DefD := ⟨("_law_well", none), "_law_well", "_law_well", defArgs (top 35), defBody (top 35), defScope (top 35), [], []⟩
def d29 : He.DefD := ⟨("_law_take", none), "_law_take", "_law_take", defArgs (top 36), defBody (top 36), defScope (top 36), [], []⟩
def d30 : He.DefD := ⟨("_law_pick", none), "_law_pick", "_law_pick", defArgs (top 37), defBody (top 37), defScope (top 37), [], []⟩
def d31 : He.DefD := ⟨("_law_signs", none), "_law_signs", "_law_signs", defArgs (top 38), defBody (top 38), defScope (top 38), [], []⟩
def d32 : He.DefD := ⟨("_law_one_act", none), "_law_one_act", "_law_one_act", defArgs (top 39), defBody (top 39), defScope (top 39), [], []⟩
def d33 : He.DefD := ⟨("_law_quiz", none), "_law_quiz", "_law_quiz", defArgs (top 40), defBody (top 40), defScope (top 40), [], []⟩
def d34 : He.DefD := ⟨("_law_twigs", none), "_law_twigs", "_law_twigs", defArgs (top 41), defBody (top 41), defScope (top 41), [], []⟩
def d35 : He.DefD := ⟨("_law_act_said", none), "_law_act_said", "_law_act_said", defArgs (top 42), defBody (top 42), defScope (top 42), [], []⟩
def d36 : He.DefD := ⟨("_law_quiz_said", none), "_law_quiz_said", "_law_quiz_said", defArgs (top 43), defBody (top 43), defScope (top 43), [], []⟩
def d37 : He.DefD := ⟨("_law_said", none), "_law_said", "_law_said", defArgs (top 44), defBody (top 44), defScope (top 44), [], []⟩
def d38 : He.DefD := ⟨("_law_ahead_word", none), "_law_ahead_word", "_law_ahead_word", defArgs (top 45), defBody (top 45), defScope (top 45), [], []⟩
def d39 : He.DefD := ⟨("_law_next_word", none), "_law_next_word", "_law_next_word", defArgs (top 46), defBody (top 46), defScope (top 46), [], []⟩
def d40 : He.DefD := ⟨("_law_is_sign", none), "_law_is_sign", "_law_is_sign", defArgs (top 47), defBody (top 47), defScope (top 47), [], []⟩
def d41 : He.DefD := ⟨("_law_is_goal", none), "_law_is_goal", "_law_is_goal", defArgs (top 48), defBody (top 48), defScope (top 48), [], []⟩
def d42 : He.DefD := ⟨("_law_read_quiz", none), "_law_read_quiz", "_law_read_quiz", defArgs (top 49), defBody (top 49), defScope (top 49), [], []⟩
def d43 : He.DefD := ⟨("_law_read_twigs", none), "_law_read_twigs", "_law_read_twigs", defArgs (top 50), defBody (top 50), defScope (top 50), [], []⟩
def d44 : He.DefD := ⟨("_law_read_twig", none), "_law_read_twig", "_law_read_twig", defArgs (top 51), defBody (top 51), defScope (top 51), [], []⟩
def d45 : He.DefD := ⟨("_law_read_braced", none), "_law_read_braced", "_law_read_braced", defArgs (top 52), defBody (top 52), defScope (top 52), [], []⟩
def d46 : He.DefD := ⟨("_law_tokens", none), "_law_tokens", "_law_tokens", defArgs (top 53), defBody (top 53), defScope (top 53), [], []⟩
def d47 : He.DefD := ⟨("_law_read", none), "_law_read", "_law_read", defArgs (top 54), defBody (top 54), defScope (top 54), [], []⟩
def d48 : He.DefD := ⟨("_law_bent", none), "_law_bent", "_law_bent", defArgs (top 55), defBody (top 55), defScope (top 55), [], []⟩
def d49 : He.DefD := ⟨("_law_odd", none), "_law_odd", "_law_odd", defArgs (top 56), defBody (top 56), defScope (top 56), [], []⟩
def d50 : He.DefD := ⟨("_law_acts", none), "_law_acts", "_law_acts", defArgs (top 57), defBody (top 57), defScope (top 57), [], []⟩
def d51 : He.DefD := ⟨("_law_nest", none), "_law_nest", "_law_nest", defArgs (top 58), defBody (top 58), defScope (top 58), [], []⟩
def d52 : He.DefD := ⟨("_law_often", none), "_law_often", "_law_often", defArgs (top 59), defBody (top 59), defScope (top 59), [], []⟩
def d53 : He.DefD := ⟨("_law_called", none), "_law_called", "_law_called", defArgs (top 60), defBody (top 60), defScope (top 60), [], []⟩
def d54 : He.DefD := ⟨("_law_right", none), "_law_right", "_law_right", defArgs (top 61), defBody (top 61), defScope (top 61), [], []⟩
def d55 : He.DefD := ⟨("law", none), "law", "law", defArgs (top 62), defBody (top 62), defScope (top 62), [], []⟩
def fn : List He.DefD := [d0, d1, d2, d3, d4, d5, d6, d7, d8, d9, d10, d11, d12, d13, d14, d15, d16, d17, d18, d19, d20, d21, d22, d23, d24, d25, d26, d27, d28, d29, d30, d31, d32, d33, d34, d35, d36, d37, d38, d39, d40, d41, d42, d43, d44, d45, d46, d47, d48, d49, d50, d51, d52, d53, d54, d55]
def fa : List He.Fa := [.glo "InvalidProgram", .glo "is_letter", .glo "is_goal", .glo "Words", .glo "split_words", .glo "read_comparison", .glo "read_test", .glo "read_next_or_tie", .glo "read_block", .glo "read_if", .glo "read_while", .glo "read_statement", .glo "read_rows", .glo "count_statements", .glo "tree_of", .glo "program_tree", .glo "test_letters", .glo "tree_letters", .glo "tree_deeds", .glo "loops_depth", .glo "program_letters", .glo "deeds_of", .glo "has_loop", .glo "is_plain", .glo "statements_number", .glo "_law_well", .glo "_law_take", .glo "_law_pick", .glo "_law_signs", .glo "_law_one_act", .glo "_law_quiz", .glo "_law_twigs", .glo "_law_act_said", .glo "_law_quiz_said", .glo "_law_said", .glo "_law_ahead_word", .glo "_law_next_word", .glo "_law_is_sign", .glo "_law_is_goal", .glo "_law_read_quiz", .glo "_law_read_twigs", .glo "_law_read_twig", .glo "_law_read_braced", .glo "_law_tokens", .glo "_law_read", .glo "_law_bent", .glo "_law_odd", .glo "_law_acts", .glo "_law_nest", .glo "_law_often", .glo "_law_called", .glo "_law_right", .glo "law", .glo "ArrowError", .free "len", .free "int", .free "isinstance", .free "abs", .free "divmod", .free "range", .free "max", .free "min", .free "repr", .free "all", .free "list", .free "tuple", .free "str", .free "sum", .free "sorted", .int "MOST_BRACES" (4), .int "MOST_STATEMENTS" (30), .int "MOST_COMPARISONS" (3), .str "LETTERS" abc, .cls "Words", .noat "Words" "words", .noat "Words" "at", .mkr "Words", .meth "Words" "peek", .meth "Words" "take", .meth "Words" "is_over"]
def ex (K : PySem.W.Frag) : Bool := Sm.sysB K && (Exx.erB K "InvalidProgram" "given" && decide (PySem.W.kitOne K (.ref (He.ga K "InvalidProgram")) (.ref (He.ga K "ArrowError")) = some true))
abbrev R : PySem.W.OpenRow := PySem.W.OpenLaw.row PySem.Challenge.rw_arrowcells_k38_what_stands_in_a_program
abbrev hk : PySem.W.Hook := Sm.hookS 6 fa fn ex
def ob (s : PySem.W.SharedT) : Ga.AlM := Sm.obsS 6 fa fn ex (HandSHeadRun.getT s)
theorem ob_eq (s : PySem.W.SharedT) : ob s = hk.obs s.abs := Sm.obsS_eq (HandSHeadRun.getT_eq s)
abbrev nm : List PySem.Str := ("ArrowError" : PySem.Str) :: ("InvalidProgram" : PySem.Str) :: ("LETTERS" : PySem.Str) :: ("MOST_BRACES" : PySem.Str) :: ("MOST_STATEMENTS" : PySem.Str) :: ("MOST_COMPARISONS" : PySem.Str) :: ("Words" : PySem.Str) :: ("is_letter" : PySem.Str) :: ("is_goal" : PySem.Str) :: ("split_words" : PySem.Str) :: ("read_comparison" : PySem.Str) :: ("read_test" : PySem.Str) :: ("read_next_or_tie" : PySem.Str) :: ("read_block" : PySem.Str) :: ("read_if" : PySem.Str) :: ("read_while" : PySem.Str) :: ("read_statement" : PySem.Str) :: ("read_rows" : PySem.Str) :: ("count_statements" : PySem.Str) :: ("tree_of" : PySem.Str) :: ("program_tree" : PySem.Str) :: ("test_letters" : PySem.Str) :: ("tree_letters" : PySem.Str) :: ("tree_deeds" : PySem.Str) :: ("loops_depth" : PySem.Str) :: ("program_letters" : PySem.Str) :: ("deeds_of" : PySem.Str) :: ("has_loop" : PySem.Str) :: ("is_plain" : PySem.Str) :: ("statements_number" : PySem.Str) :: ("_law_well" : PySem.Str) :: ("_law_take" : PySem.Str) :: ("_law_pick" : PySem.Str) :: ("_law_signs" : PySem.Str) :: ("_law_one_act" : PySem.Str) :: ("_law_quiz" : PySem.Str) :: ("_law_twigs" : PySem.Str) :: ("_law_act_said" : PySem.Str) :: ("_law_quiz_said" : PySem.Str) :: ("_law_said" : PySem.Str) :: ("_law_ahead_word" : PySem.Str) :: ("_law_next_word" : PySem.Str) :: ("_law_is_sign" : PySem.Str) :: ("_law_is_goal" : PySem.Str) :: ("_law_read_quiz" : PySem.Str) :: ("_law_read_twigs" : PySem.Str) :: ("_law_read_twig" : PySem.Str) :: ("_law_read_braced" : PySem.Str) :: ("_law_tokens" : PySem.Str) :: ("_law_read" : PySem.Str) :: ("_law_bent" : PySem.Str) :: ("_law_odd" : PySem.Str) :: ("_law_acts" : PySem.Str) :: ("_law_nest" : PySem.Str) :: ("_law_often" : PySem.Str) :: ("_law_called" : PySem.Str) :: ("_law_right" : PySem.Str) :: []
theorem run (w : World) : HandSHeadRun.RunEq R (PySem.W.view R.prog [62]) hk ob 5000 nm w := by
  intro os
  kernel_rfl
theorem facts {P : Program} {w : World} {K : PySem.W.Frag} {h : Heap} {mg : Str → Option Value} {f : Addr} (X : K.In h) (G : h.Ns mainGlobals mg) (hfa : mg ("law" : Str) = some (.ref f)) (c : He.SaysD fa fn K) (xx : ex K = true) :
    ∃ fd : FuncData, (∀ (s : Shared) (v : Value), BindsTo s fd ⟨[v], []⟩ [("_law_script", v)]) ∧ ∀ base : Heap, K.In base → base.Ns mainGlobals mg → Ga.FnG P w K mg base CX0 31 f fd ["_law_script"] (spLaw K) := by
  obtain ⟨fd_InvalidProgram___init__, F_InvalidProgram___init__⟩ := c.def_ 0 (d := d0) rfl
  obtain ⟨fd_is_letter, F_is_letter⟩ := c.def_ 1 (d := d1) rfl
  obtain ⟨fd_is_goal, F_is_goal⟩ := c.def_ 2 (d := d2) rfl
  obtain ⟨fd_Words___init__, F_Words___init__⟩ := c.def_ 3 (d := d3) rfl
  obtain ⟨fd_Words_peek, F_Words_peek⟩ := c.def_ 4 (d := d4) rfl
  obtain ⟨fd_Words_take, F_Words_take⟩ := c.def_ 5 (d := d5) rfl
  obtain ⟨fd_Words_is_over, F_Words_is_over⟩ := c.def_ 6 (d := d6) rfl
  obtain ⟨fd_split_words, F_split_words⟩ := c.def_ 7 (d := d7) rfl
  obtain ⟨fd_read_comparison, F_read_comparison⟩ := c.def_ 8 (d := d8) rfl
  obtain ⟨fd_read_test, F_read_test⟩ := c.def_ 9 (d := d9) rfl
  obtain ⟨fd_read_next_or_tie, F_read_next_or_tie⟩ := c.def_ 10 (d := d10) rfl
  obtain ⟨fd_read_block, F_read_block⟩ := c.def_ 11 (d := d11) rfl
  obtain ⟨fd_read_if, F_read_if⟩ := c.def_ 12 (d := d12) rfl
  obtain ⟨fd_read_while, F_read_while⟩ := c.def_ 13 (d := d13) rfl
  obtain ⟨fd_read_statement, F_read_statement⟩ := c.def_ 14 (d := d14) rfl
  obtain ⟨fd_read_rows, F_read_rows⟩ := c.def_ 15 (d := d15) rfl
  obtain ⟨fd_count_statements, F_count_statements⟩ := c.def_ 16 (d := d16) rfl
  obtain ⟨fd_tree_of, F_tree_of⟩ := c.def_ 17 (d := d17) rfl
  obtain ⟨fd_program_tree, F_program_tree⟩ := c.def_ 18 (d := d18) rfl
  obtain ⟨fd_test_letters, F_test_letters⟩ := c.def_ 19 (d := d19) rfl
  obtain ⟨fd_tree_letters, F_tree_letters⟩ := c.def_ 20 (d := d20) rfl
  obtain ⟨fd_tree_deeds, F_tree_deeds⟩ := c.def_ 21 (d := d21) rfl
  obtain ⟨fd_loops_depth, F_loops_depth⟩ := c.def_ 22 (d := d22) rfl
  obtain ⟨fd_program_letters, F_program_letters⟩ := c.def_ 23 (d := d23) rfl
  obtain ⟨fd_deeds_of, F_deeds_of⟩ := c.def_ 24 (d := d24) rfl
  obtain ⟨fd_has_loop, F_has_loop⟩ := c.def_ 25 (d := d25) rfl
  obtain ⟨fd_is_plain, F_is_plain⟩ := c.def_ 26 (d := d26) rfl
  obtain ⟨fd_statements_number, F_statements_number⟩ := c.def_ 27 (d := d27) rfl
  obtain ⟨fd__law_well, F__law_well⟩ := c.def_ 28 (d := d28) rfl
  obtain ⟨fd__law_take, F__law_take⟩ := c.def_ 29 (d := d29) rfl
  obtain ⟨fd__law_pick, F__law_pick⟩ := c.def_ 30 (d := d30) rfl
  obtain ⟨fd__law_signs, F__law_signs⟩ := c.def_ 31 (d := d31) rfl
  obtain ⟨fd__law_one_act, F__law_one_act⟩ := c.def_ 32 (d := d32) rfl
  obtain ⟨fd__law_quiz, F__law_quiz⟩ := c.def_ 33 (d := d33) rfl
  obtain ⟨fd__law_twigs, F__law_twigs⟩ := c.def_ 34 (d := d34) rfl
  obtain ⟨fd__law_act_said, F__law_act_said⟩ := c.def_ 35 (d := d35) rfl
  obtain ⟨fd__law_quiz_said, F__law_quiz_said⟩ := c.def_ 36 (d := d36) rfl
  obtain ⟨fd__law_said, F__law_said⟩ := c.def_ 37 (d := d37) rfl
  obtain ⟨fd__law_ahead_word, F__law_ahead_word⟩ := c.def_ 38 (d := d38) rfl
  obtain ⟨fd__law_next_word, F__law_next_word⟩ := c.def_ 39 (d := d39) rfl
  obtain ⟨fd__law_is_sign, F__law_is_sign⟩ := c.def_ 40 (d := d40) rfl
  obtain ⟨fd__law_is_goal, F__law_is_goal⟩ := c.def_ 41 (d := d41) rfl
  obtain ⟨fd__law_read_quiz, F__law_read_quiz⟩ := c.def_ 42 (d := d42) rfl
  obtain ⟨fd__law_read_twigs, F__law_read_twigs⟩ := c.def_ 43 (d := d43) rfl
  obtain ⟨fd__law_read_twig, F__law_read_twig⟩ := c.def_ 44 (d := d44) rfl
  obtain ⟨fd__law_read_braced, F__law_read_braced⟩ := c.def_ 45 (d := d45) rfl
  obtain ⟨fd__law_tokens, F__law_tokens⟩ := c.def_ 46 (d := d46) rfl
  obtain ⟨fd__law_read, F__law_read⟩ := c.def_ 47 (d := d47) rfl
  obtain ⟨fd__law_bent, F__law_bent⟩ := c.def_ 48 (d := d48) rfl
  obtain ⟨fd__law_odd, F__law_odd⟩ := c.def_ 49 (d := d49) rfl
  obtain ⟨fd__law_acts, F__law_acts⟩ := c.def_ 50 (d := d50) rfl
  obtain ⟨fd__law_nest, F__law_nest⟩ := c.def_ 51 (d := d51) rfl
  obtain ⟨fd__law_often, F__law_often⟩ := c.def_ 52 (d := d52) rfl
  obtain ⟨fd__law_called, F__law_called⟩ := c.def_ 53 (d := d53) rfl
  obtain ⟨fd__law_right, F__law_right⟩ := c.def_ 54 (d := d54) rfl
  obtain ⟨fd_law, F_law⟩ := c.def_ 55 (d := d55) rfl
  have g_InvalidProgram := He.glo_ok X G (c.fact 0 (f := .glo "InvalidProgram") rfl)
  have g_is_letter := He.glo_ok X G (c.fact 1 (f := .glo "is_letter") rfl)
  have g_is_goal := He.glo_ok X G (c.fact 2 (f := .glo "is_goal") rfl)
  have g_Words := He.glo_ok X G (c.fact 3 (f := .glo "Words") rfl)
  have g_split_words := He.glo_ok X G (c.fact 4 (f := .glo "split_words") rfl)
  have g_read_comparison := He.glo_ok X G (c.fact 5 (f := .glo "read_comparison") rfl)
  have g_read_test := He.glo_ok X G (c.fact 6 (f := .glo "read_test") rfl)
  have g_read_next_or_tie := He.glo_ok X G (c.fact 7 (f := .glo "read_next_or_tie") rfl)
  have g_read_block := He.glo_ok X G (c.fact 8 (f := .glo "read_block") rfl)
  have g_read_if := He.glo_ok X G (c.fact 9 (f := .glo "read_if") rfl)
  have g_read_while := He.glo_ok X G (c.fact 10 (f := .glo "read_while") rfl)
  have g_read_statement := He.glo_ok X G (c.fact 11 (f := .glo "read_statement") rfl)
  have g_read_rows := He.glo_ok X G (c.fact 12 (f := .glo "read_rows") rfl)
  have g_count_statements := He.glo_ok X G (c.fact 13 (f := .glo "count_statements") rfl)
  have g_tree_of := He.glo_ok X G (c.fact 14 (f := .glo "tree_of") rfl)
  have g_program_tree := He.glo_ok X G (c.fact 15 (f := .glo "program_tree") rfl)
  have g_test_letters := He.glo_ok X G (c.fact 16 (f := .glo "test_letters") rfl)
  have g_tree_letters := He.glo_ok X G (c.fact 17 (f := .glo "tree_letters") rfl)
  have g_tree_deeds := He.glo_ok X G (c.fact 18 (f := .glo "tree_deeds") rfl)
  have g_loops_depth := He.glo_ok X G (c.fact 19 (f := .glo "loops_depth") rfl)
  have g_program_letters := He.glo_ok X G (c.fact 20 (f := .glo "program_letters") rfl)
  have g_deeds_of := He.glo_ok X G (c.fact 21 (f := .glo "deeds_of") rfl)
  have g_has_loop := He.glo_ok X G (c.fact 22 (f := .glo "has_loop") rfl)
  have g_is_plain := He.glo_ok X G (c.fact 23 (f := .glo "is_plain") rfl)
  have g_statements_number := He.glo_ok X G (c.fact 24 (f := .glo "statements_number") rfl)
  have g__law_well := He.glo_ok X G (c.fact 25 (f := .glo "_law_well") rfl)
  have g__law_take := He.glo_ok X G (c.fact 26 (f := .glo "_law_take") rfl)
  have g__law_pick := He.glo_ok X G (c.fact 27 (f := .glo "_law_pick") rfl)
  have g__law_signs := He.glo_ok X G (c.fact 28 (f := .glo "_law_signs") rfl)
  have g__law_one_act := He.glo_ok X G (c.fact 29 (f := .glo "_law_one_act") rfl)
  have g__law_quiz := He.glo_ok X G (c.fact 30 (f := .glo "_law_quiz") rfl)
  have g__law_twigs := He.glo_ok X G (c.fact 31 (f := .glo "_law_twigs") rfl)
  have g__law_act_said := He.glo_ok X G (c.fact 32 (f := .glo "_law_act_said") rfl)
  have g__law_quiz_said := He.glo_ok X G (c.fact 33 (f := .glo "_law_quiz_said") rfl)
  have g__law_said := He.glo_ok X G (c.fact 34 (f := .glo "_law_said") rfl)
  have g__law_ahead_word := He.glo_ok X G (c.fact 35 (f := .glo "_law_ahead_word") rfl)
  have g__law_next_word := He.glo_ok X G (c.fact 36 (f := .glo "_law_next_word") rfl)
  have g__law_is_sign := He.glo_ok X G (c.fact 37 (f := .glo "_law_is_sign") rfl)
  have g__law_is_goal := He.glo_ok X G (c.fact 38 (f := .glo "_law_is_goal") rfl)
  have g__law_read_quiz := He.glo_ok X G (c.fact 39 (f := .glo "_law_read_quiz") rfl)
  have g__law_read_twigs := He.glo_ok X G (c.fact 40 (f := .glo "_law_read_twigs") rfl)
  have g__law_read_twig := He.glo_ok X G (c.fact 41 (f := .glo "_law_read_twig") rfl)
  have g__law_read_braced := He.glo_ok X G (c.fact 42 (f := .glo "_law_read_braced") rfl)
  have g__law_tokens := He.glo_ok X G (c.fact 43 (f := .glo "_law_tokens") rfl)
  have g__law_read := He.glo_ok X G (c.fact 44 (f := .glo "_law_read") rfl)
  have g__law_bent := He.glo_ok X G (c.fact 45 (f := .glo "_law_bent") rfl)
  have g__law_odd := He.glo_ok X G (c.fact 46 (f := .glo "_law_odd") rfl)
  have g__law_acts := He.glo_ok X G (c.fact 47 (f := .glo "_law_acts") rfl)
  have g__law_nest := He.glo_ok X G (c.fact 48 (f := .glo "_law_nest") rfl)
  have g__law_often := He.glo_ok X G (c.fact 49 (f := .glo "_law_often") rfl)
  have g__law_called := He.glo_ok X G (c.fact 50 (f := .glo "_law_called") rfl)
  have g__law_right := He.glo_ok X G (c.fact 51 (f := .glo "_law_right") rfl)
  have g_law := He.glo_ok X G (c.fact 52 (f := .glo "law") rfl)
  have g_ArrowError := He.glo_ok X G (c.fact 53 (f := .glo "ArrowError") rfl)
  have b_len := He.free_ok X G (c.fact 54 (f := .free "len") rfl)
  have b_int := He.free_ok X G (c.fact 55 (f := .free "int") rfl)
  have b_isinstance := He.free_ok X G (c.fact 56 (f := .free "isinstance") rfl)
  have b_abs := He.free_ok X G (c.fact 57 (f := .free "abs") rfl)
  have b_divmod := He.free_ok X G (c.fact 58 (f := .free "divmod") rfl)
  have b_range := He.free_ok X G (c.fact 59 (f := .free "range") rfl)
  have b_max := He.free_ok X G (c.fact 60 (f := .free "max") rfl)
  have b_min := He.free_ok X G (c.fact 61 (f := .free "min") rfl)
  have b_repr := He.free_ok X G (c.fact 62 (f := .free "repr") rfl)
  have b_all := He.free_ok X G (c.fact 63 (f := .free "all") rfl)
  have b_list := He.free_ok X G (c.fact 64 (f := .free "list") rfl)
  have b_tuple := He.free_ok X G (c.fact 65 (f := .free "tuple") rfl)
  have b_str := He.free_ok X G (c.fact 66 (f := .free "str") rfl)
  have b_sum := He.free_ok X G (c.fact 67 (f := .free "sum") rfl)
  have b_sorted := He.free_ok X G (c.fact 68 (f := .free "sorted") rfl)
  have i_MOST_BRACES := He.int_ok X G (c.fact 69 (f := .int "MOST_BRACES" (4)) rfl)
  have i_MOST_STATEMENTS := He.int_ok X G (c.fact 70 (f := .int "MOST_STATEMENTS" (30)) rfl)
  have i_MOST_COMPARISONS := He.int_ok X G (c.fact 71 (f := .int "MOST_COMPARISONS" (3)) rfl)
  have i_LETTERS := He.str_ok X G (c.fact 72 (f := .str "LETTERS" abc) rfl)
  have z_cls := He.cls_ok (c.fact 73 (f := .cls "Words") rfl)
  have z_w := He.noat_ok (c.fact 74 (f := .noat "Words" "words") rfl)
  have z_a := He.noat_ok (c.fact 75 (f := .noat "Words" "at") rfl)
  have z_mk := He.mkr_ok (c.fact 76 (f := .mkr "Words") rfl)
  have z_peek := He.meth_ok (c.fact 77 (f := .meth "Words" "peek") rfl)
  have z_take := He.meth_ok (c.fact 78 (f := .meth "Words" "take") rfl)
  have z_over := He.meth_ok (c.fact 79 (f := .meth "Words" "is_over") rfl)
  have k_InvalidProgram___init__ : Binds K fd_InvalidProgram___init__ ["self", "given"] [] := F_InvalidProgram___init__.bindsN fun _ _ _ _ _ _ us hl => match us, hl with | [_, _], _ => rfl
  have k_is_letter : Binds K fd_is_letter ["value"] [] := F_is_letter.bindsN fun _ _ _ _ _ _ us hl => match us, hl with | [_], _ => rfl
  have k_is_goal : Binds K fd_is_goal ["value"] [] := F_is_goal.bindsN fun _ _ _ _ _ _ us hl => match us, hl with | [_], _ => rfl
  have k_Words___init__ : Binds K fd_Words___init__ ["self", "words"] [] := F_Words___init__.bindsN fun _ _ _ _ _ _ us hl => match us, hl with | [_, _], _ => rfl
  have k_Words_peek : Binds K fd_Words_peek ["self"] [] := F_Words_peek.bindsN fun _ _ _ _ _ _ us hl => match us, hl with | [_], _ => rfl
  have k_Words_take : Binds K fd_Words_take ["self"] [] := F_Words_take.bindsN fun _ _ _ _ _ _ us hl => match us, hl with | [_], _ => rfl
  have k_Words_is_over : Binds K fd_Words_is_over ["self"] [] := F_Words_is_over.bindsN fun _ _ _ _ _ _ us hl => match us, hl with | [_], _ => rfl
  have k_split_words : Binds K fd_split_words ["text"] [] := F_split_words.bindsN fun _ _ _ _ _ _ us hl => match us, hl with | [_], _ => rfl
  have k_read_comparison : Binds K fd_read_comparison ["words"] [] := F_read_comparison.bindsN fun _ _ _ _ _ _ us hl => match us, hl with | [_], _ => rfl
  have k_read_test : Binds K fd_read_test ["words"] [] := F_read_test.bindsN fun _ _ _ _ _ _ us hl => match us, hl with | [_], _ => rfl
  have k_read_next_or_tie : Binds K fd_read_next_or_tie ["words"] [] := F_read_next_or_tie.bindsN fun _ _ _ _ _ _ us hl => match us, hl with | [_], _ => rfl
  have k_read_block : Binds K fd_read_block ["words", "depth"] [] := F_read_block.bindsN fun _ _ _ _ _ _ us hl => match us, hl with | [_, _], _ => rfl
  have k_read_if : Binds K fd_read_if ["words", "depth"] [] := F_read_if.bindsN fun _ _ _ _ _ _ us hl => match us, hl with | [_, _], _ => rfl
  have k_read_while : Binds K fd_read_while ["words", "depth"] [] := F_read_while.bindsN fun _ _ _ _ _ _ us hl => match us, hl with | [_, _], _ => rfl
  have k_read_statement : Binds K fd_read_statement ["words", "depth"] [] := F_read_statement.bindsN fun _ _ _ _ _ _ us hl => match us, hl with | [_, _], _ => rfl
  have k_read_rows : Binds K fd_read_rows ["words", "depth"] [] := F_read_rows.bindsN fun _ _ _ _ _ _ us hl => match us, hl with | [_, _], _ => rfl
  have k_count_statements : Binds K fd_count_statements ["tree"] [] := F_count_statements.bindsN fun _ _ _ _ _ _ us hl => match us, hl with | [_], _ => rfl
  have k_tree_of : Binds K fd_tree_of ["value"] [] := F_tree_of.bindsN fun _ _ _ _ _ _ us hl => match us, hl with | [_], _ => rfl
  have k_program_tree : Binds K fd_program_tree ["program"] [] := F_program_tree.bindsN fun _ _ _ _ _ _ us hl => match us, hl with | [_], _ => rfl
  have k_test_letters : Binds K fd_test_letters ["tree"] [] := F_test_letters.bindsN fun _ _ _ _ _ _ us hl => match us, hl with | [_], _ => rfl
  have k_tree_letters : Binds K fd_tree_letters ["tree"] [] := F_tree_letters.bindsN fun _ _ _ _ _ _ us hl => match us, hl with | [_], _ => rfl
  have k_tree_deeds : Binds K fd_tree_deeds ["tree"] [] := F_tree_deeds.bindsN fun _ _ _ _ _ _ us hl => match us, hl with | [_], _ => rfl
  have k_loops_depth : Binds K fd_loops_depth ["tree"] [] := F_loops_depth.bindsN fun _ _ _ _ _ _ us hl => match us, hl with | [_], _ => rfl
  have k_program_letters : Binds K fd_program_letters ["program"] [] := F_program_letters.bindsN fun _ _ _ _ _ _ us hl => match us, hl with | [_], _ => rfl
  have w_program_letters : KW K fd_program_letters ["program"] := kbn0 F_program_letters _ (fun l => l) (fun r => r) fun _ _ _ _ _ _ us hl => match us, hl with | [_], _ => rfl
  have k_deeds_of : Binds K fd_deeds_of ["program"] [] := F_deeds_of.bindsN fun _ _ _ _ _ _ us hl => match us, hl with | [_], _ => rfl
  have w_deeds_of : KW K fd_deeds_of ["program"] := kbn0 F_deeds_of _ (fun l => l) (fun r => r) fun _ _ _ _ _ _ us hl => match us, hl with | [_], _ => rfl
  have k_has_loop : Binds K fd_has_loop ["program"] [] := F_has_loop.bindsN fun _ _ _ _ _ _ us hl => match us, hl with | [_], _ => rfl
  have w_has_loop : KW K fd_has_loop ["program"] := kbn0 F_has_loop _ (fun l => l) (fun r => r) fun _ _ _ _ _ _ us hl => match us, hl with | [_], _ => rfl
  have k_is_plain : Binds K fd_is_plain ["program"] [] := F_is_plain.bindsN fun _ _ _ _ _ _ us hl => match us, hl with | [_], _ => rfl
  have w_is_plain : KW K fd_is_plain ["program"] := kbn0 F_is_plain _ (fun l => l) (fun r => r) fun _ _ _ _ _ _ us hl => match us, hl with | [_], _ => rfl
  have k_statements_number : Binds K fd_statements_number ["program"] [] := F_statements_number.bindsN fun _ _ _ _ _ _ us hl => match us, hl with | [_], _ => rfl
  have w_statements_number : KW K fd_statements_number ["program"] := kbn0 F_statements_number _ (fun l => l) (fun r => r) fun _ _ _ _ _ _ us hl => match us, hl with | [_], _ => rfl
  have k__law_well : Binds K fd__law_well ["_law_script", "_law_turn"] [] := F__law_well.bindsN fun _ _ _ _ _ _ us hl => match us, hl with | [_, _], _ => rfl
  have k__law_take : Binds K fd__law_take ["_law_well_here", "_law_limit"] [] := F__law_take.bindsN fun _ _ _ _ _ _ us hl => match us, hl with | [_, _], _ => rfl
  have k__law_pick : Binds K fd__law_pick ["_law_well_here", "_law_some"] [] := F__law_pick.bindsN fun _ _ _ _ _ _ us hl => match us, hl with | [_, _], _ => rfl
  have k__law_signs : Binds K fd__law_signs ["_law_twigs_here"] [] := F__law_signs.bindsN fun _ _ _ _ _ _ us hl => match us, hl with | [_], _ => rfl
  have k__law_one_act : Binds K fd__law_one_act ["_law_well_here", "_law_signs_here"] [] := F__law_one_act.bindsN fun _ _ _ _ _ _ us hl => match us, hl with | [_, _], _ => rfl
  have k__law_quiz : Binds K fd__law_quiz ["_law_well_here", "_law_signs_here"] [] := F__law_quiz.bindsN fun _ _ _ _ _ _ us hl => match us, hl with | [_, _], _ => rfl
  have k__law_twigs : Binds K fd__law_twigs ["_law_well_here", "_law_signs_here", "_law_often_here", "_law_deep", "_law_room"] [] := F__law_twigs.bindsN fun _ _ _ _ _ _ us hl => match us, hl with | [_, _, _, _, _], _ => rfl
  have k__law_act_said : Binds K fd__law_act_said ["_law_act"] [] := F__law_act_said.bindsN fun _ _ _ _ _ _ us hl => match us, hl with | [_], _ => rfl
  have k__law_quiz_said : Binds K fd__law_quiz_said ["_law_quiz_here"] [] := F__law_quiz_said.bindsN fun _ _ _ _ _ _ us hl => match us, hl with | [_], _ => rfl
  have k__law_said : Binds K fd__law_said ["_law_twigs_here"] [] := F__law_said.bindsN fun _ _ _ _ _ _ us hl => match us, hl with | [_], _ => rfl
  have k__law_ahead_word : Binds K fd__law_ahead_word ["_law_reader"] [] := F__law_ahead_word.bindsN fun _ _ _ _ _ _ us hl => match us, hl with | [_], _ => rfl
  have k__law_next_word : Binds K fd__law_next_word ["_law_reader"] [] := F__law_next_word.bindsN fun _ _ _ _ _ _ us hl => match us, hl with | [_], _ => rfl
  have k__law_is_sign : Binds K fd__law_is_sign ["_law_token"] [] := F__law_is_sign.bindsN fun _ _ _ _ _ _ us hl => match us, hl with | [_], _ => rfl
  have k__law_is_goal : Binds K fd__law_is_goal ["_law_token"] [] := F__law_is_goal.bindsN fun _ _ _ _ _ _ us hl => match us, hl with | [_], _ => rfl
  have k__law_read_quiz : Binds K fd__law_read_quiz ["_law_reader"] [] := F__law_read_quiz.bindsN fun _ _ _ _ _ _ us hl => match us, hl with | [_], _ => rfl
  have k__law_read_twigs : Binds K fd__law_read_twigs ["_law_reader", "_law_deep"] [] := F__law_read_twigs.bindsN fun _ _ _ _ _ _ us hl => match us, hl with | [_, _], _ => rfl
  have k__law_read_twig : Binds K fd__law_read_twig ["_law_reader", "_law_deep"] [] := F__law_read_twig.bindsN fun _ _ _ _ _ _ us hl => match us, hl with | [_, _], _ => rfl
  have k__law_read_braced : Binds K fd__law_read_braced ["_law_reader", "_law_deep", "_law_token"] [] := F__law_read_braced.bindsN fun _ _ _ _ _ _ us hl => match us, hl with | [_, _, _], _ => rfl
  have k__law_tokens : Binds K fd__law_tokens ["_law_said_here"] [] := F__law_tokens.bindsN fun _ _ _ _ _ _ us hl => match us, hl with | [_], _ => rfl
  have k__law_read : Binds K fd__law_read ["_law_said_here"] [] := F__law_read.bindsN fun _ _ _ _ _ _ us hl => match us, hl with | [_], _ => rfl
  have k__law_bent : Binds K fd__law_bent ["_law_well_here", "_law_said_here"] [] := F__law_bent.bindsN fun _ _ _ _ _ _ us hl => match us, hl with | [_, _], _ => rfl
  have k__law_odd : Binds K fd__law_odd ["_law_well_here"] [] := F__law_odd.bindsN fun _ _ _ _ _ _ us hl => match us, hl with | [_], _ => rfl
  have k__law_acts : Binds K fd__law_acts ["_law_twigs_here"] [] := F__law_acts.bindsN fun _ _ _ _ _ _ us hl => match us, hl with | [_], _ => rfl
  have k__law_nest : Binds K fd__law_nest ["_law_twigs_here"] [] := F__law_nest.bindsN fun _ _ _ _ _ _ us hl => match us, hl with | [_], _ => rfl
  have k__law_often : Binds K fd__law_often ["_law_twigs_here"] [] := F__law_often.bindsN fun _ _ _ _ _ _ us hl => match us, hl with | [_], _ => rfl
  have k__law_called : Binds K fd__law_called ["_law_branch", "_law_said_here"] [] := F__law_called.bindsN fun _ _ _ _ _ _ us hl => match us, hl with | [_, _], _ => rfl
  have k__law_right : Binds K fd__law_right ["_law_well_here"] [] := F__law_right.bindsN fun _ _ _ _ _ _ us hl => match us, hl with | [_], _ => rfl
  have k_law : Binds K fd_law ["_law_script"] [] := F_law.bindsN fun _ _ _ _ _ _ us hl => match us, hl with | [_], _ => rfl
  have e_law := hfa.symm.trans g_law
  cases e_law
  have bA := FunD.bindsA (ps := ["_law_script"]) F_law fun _ _ _ _ _ _ us hl => match us, hl with | [_], _ => rfl
  simp only [ex, Bool.and_eq_true, decide_eq_true_eq] at xx
  obtain ⟨x1, x2, x3⟩ := xx
  have T : Tx mg := ⟨b_len, b_int, b_isinstance, b_abs, b_divmod, b_range, b_max, b_min, b_repr, b_all, b_list, b_tuple, b_str, b_sum, i_LETTERS, i_MOST_BRACES, i_MOST_STATEMENTS, i_MOST_COMPARISONS⟩
  have S := Sm.sysB_ok x1
  obtain ⟨e1, e2, e3, e4, e5, e6, e7⟩ := Exx.erB_ok x2
  have Rr : ErI K mg (He.ga K "InvalidProgram") (He.ma K (He.ga K "InvalidProgram") "__init__") fd_InvalidProgram___init__ := ⟨g_InvalidProgram, e1, e2, e3, e4, by decide, by decide, ⟨_, _, _, _, _, _, _, F_InvalidProgram___init__, ⟨rfl, rfl, rfl, by decide +kernel, rfl, by decide +kernel, by decide +kernel⟩⟩, k_InvalidProgram___init__⟩
  have B : WdB K (He.ga K "Words") := ⟨z_cls, z_w, z_a⟩
  have Gp := fun (base : Heap) => (ok_peek T B F_Words_peek : FnOk P w K mg base CX0 1 _ _ ["self"] (spPeek (He.ga K "Words")))
  have Wp := fun (base : Heap) => (⟨z_cls, z_peek, k_Words_peek, Gp base⟩ : WdP P w K mg base (He.ga K "Words") _ _)
  have Wd := fun (base : Heap) => (⟨z_cls, z_w, z_a, g_Words, z_mk, z_peek, z_take, z_over, k_Words___init__, k_Words_peek, k_Words_take, k_Words_is_over, ok_init B F_Words___init__, Gp base, ok_takeW T B (Wp base) F_Words_take, ok_over T B F_Words_is_over⟩ : WdT P w K mg base (He.ga K "Words") _ _ _ _ _ _ _ _)
  have C_is_letter := fun (base : Heap) => (⟨g_is_letter, F_is_letter.kp, k_is_letter, ok_letter T F_is_letter⟩ : Cal P w K mg base CX0 1 "is_letter" _ (spData isLetter K) _ _)
  have C__law_is_sign := fun (base : Heap) => (⟨g__law_is_sign, F__law_is_sign.kp, k__law_is_sign, ok_sign T F__law_is_sign⟩ : Cal P w K mg base CX0 1 "_law_is_sign" _ (spData isLetter K) _ _)
  have C_is_goal := fun (base : Heap) => (⟨g_is_goal, F_is_goal.kp, k_is_goal, ok_goal T F_is_goal (C_is_letter base)⟩ : Cal P w K mg base CX0 2 "is_goal" _ (spData isGoal K) _ _)
  have C__law_is_goal := fun (base : Heap) => (⟨g__law_is_goal, F__law_is_goal.kp, k__law_is_goal, ok_goal2 T F__law_is_goal (C__law_is_sign base)⟩ : Cal P w K mg base CX0 2 "_law_is_goal" _ (spData isGoal K) _ _)
  have C_split_words := fun (base : Heap) => (⟨g_split_words, F_split_words.kp, k_split_words, ok_split T F_split_words⟩ : Cal P w K mg base CX0 1 "split_words" _ spSplit _ _)
  have C_read_comparison := fun (base : Heap) => (⟨g_read_comparison, F_read_comparison.kp, k_read_comparison, ok_rc T (Wd base) F_read_comparison (C_is_letter base) (C_is_goal base)⟩ : Cal P w K mg base CX0 3 "read_comparison" _ (spCompG K (He.ga K "Words")) _ _)
  have C_read_test := fun (base : Heap) => (⟨g_read_test, F_read_test.kp, k_read_test, ok_rt T (Wd base) F_read_test (C_read_comparison base)⟩ : Cal P w K mg base CX0 4 "read_test" _ (spTestG K (He.ga K "Words")) _ _)
  have C_read_next_or_tie := fun (base : Heap) => (⟨g_read_next_or_tie, F_read_next_or_tie.kp, k_read_next_or_tie, ok_nt T (Wd base) F_read_next_or_tie (C_is_letter base) (C_is_goal base)⟩ : Cal P w K mg base CX0 3 "read_next_or_tie" _ (spRd K (He.ga K "Words") refDeed [] fun ts => ts.headD "" ≠ "drop") _ _)
  have C_rr0 := fun (base : Heap) => (⟨g_read_rows, F_read_rows.kp, k_read_rows, fn_false⟩ : Cal P w K mg base CX0 4 "read_rows" _ (spRowP K (He.ga K "Words") 0) _ _)
  have C_rb0 := fun (base : Heap) => (⟨g_read_block, F_read_block.kp, k_read_block, ok_rb T (Wd base) 0 (by decide) F_read_block (C_rr0 base)⟩ : Cal P w K mg base CX0 5 "read_block" _ (spBlk K (He.ga K "Words") 0) _ _)
  have C_ri0 := fun (base : Heap) => (⟨g_read_if, F_read_if.kp, k_read_if, ok_ri T (Wd base) 0 F_read_if (C_read_test base) (C_rb0 base)⟩ : Cal P w K mg base CX0 6 "read_if" _ (spIf K (He.ga K "Words") 0) _ _)
  have C_rw0 := fun (base : Heap) => (⟨g_read_while, F_read_while.kp, k_read_while, ok_rw T (Wd base) 0 F_read_while (C_read_test base) (C_rb0 base)⟩ : Cal P w K mg base CX0 6 "read_while" _ (spWh K (He.ga K "Words") 0) _ _)
  have C_rs0 := fun (base : Heap) => (⟨g_read_statement, F_read_statement.kp, k_read_statement, ok_rs T (Wd base) 0 F_read_statement (C_is_letter base) (C_read_next_or_tie base) (C_ri0 base) (C_rw0 base)⟩ : Cal P w K mg base CX0 7 "read_statement" _ (spStm K (He.ga K "Words") 0) _ _)
  have C_rr1 := fun (base : Heap) => (⟨g_read_rows, F_read_rows.kp, k_read_rows, ok_rr T (Wd base) 0 F_read_rows (C_rs0 base)⟩ : Cal P w K mg base CX0 8 "read_rows" _ (spRow K (He.ga K "Words") 0) _ _)
  have C_rb1 := fun (base : Heap) => (⟨g_read_block, F_read_block.kp, k_read_block, ok_rb T (Wd base) 1 (by decide) F_read_block (C_rr1 base)⟩ : Cal P w K mg base CX0 9 "read_block" _ (spBlk K (He.ga K "Words") 1) _ _)
  have C_ri1 := fun (base : Heap) => (⟨g_read_if, F_read_if.kp, k_read_if, ok_ri T (Wd base) 1 F_read_if (C_read_test base) (C_rb1 base)⟩ : Cal P w K mg base CX0 10 "read_if" _ (spIf K (He.ga K "Words") 1) _ _)
  have C_rw1 := fun (base : Heap) => (⟨g_read_while, F_read_while.kp, k_read_while, ok_rw T (Wd base) 1 F_read_while (C_read_test base) (C_rb1 base)⟩ : Cal P w K mg base CX0 10 "read_while" _ (spWh K (He.ga K "Words") 1) _ _)
  have C_rs1 := fun (base : Heap) => (⟨g_read_statement, F_read_statement.kp, k_read_statement, ok_rs T (Wd base) 1 F_read_statement (C_is_letter base) (C_read_next_or_tie base) (C_ri1 base) (C_rw1 base)⟩ : Cal P w K mg base CX0 11 "read_statement" _ (spStm K (He.ga K "Words") 1) _ _)
  have C_rr2 := fun (base : Heap) => (⟨g_read_rows, F_read_rows.kp, k_read_rows, ok_rr T (Wd base) 1 F_read_rows (C_rs1 base)⟩ : Cal P w K mg base CX0 12 "read_rows" _ (spRow K (He.ga K "Words") 1) _ _)
  have C_rb2 := fun (base : Heap) => (⟨g_read_block, F_read_block.kp, k_read_block, ok_rb T (Wd base) 2 (by decide) F_read_block (C_rr2 base)⟩ : Cal P w K mg base CX0 13 "read_block" _ (spBlk K (He.ga K "Words") 2) _ _)
  have C_ri2 := fun (base : Heap) => (⟨g_read_if, F_read_if.kp, k_read_if, ok_ri T (Wd base) 2 F_read_if (C_read_test base) (C_rb2 base)⟩ : Cal P w K mg base CX0 14 "read_if" _ (spIf K (He.ga K "Words") 2) _ _)
  have C_rw2 := fun (base : Heap) => (⟨g_read_while, F_read_while.kp, k_read_while, ok_rw T (Wd base) 2 F_read_while (C_read_test base) (C_rb2 base)⟩ : Cal P w K mg base CX0 14 "read_while" _ (spWh K (He.ga K "Words") 2) _ _)
  have C_rs2 := fun (base : Heap) => (⟨g_read_statement, F_read_statement.kp, k_read_statement, ok_rs T (Wd base) 2 F_read_statement (C_is_letter base) (C_read_next_or_tie base) (C_ri2 base) (C_rw2 base)⟩ : Cal P w K mg base CX0 15 "read_statement" _ (spStm K (He.ga K "Words") 2) _ _)
  have C_rr3 := fun (base : Heap) => (⟨g_read_rows, F_read_rows.kp, k_read_rows, ok_rr T (Wd base) 2 F_read_rows (C_rs2 base)⟩ : Cal P w K mg base CX0 16 "read_rows" _ (spRow K (He.ga K "Words") 2) _ _)
  have C_rb3 := fun (base : Heap) => (⟨g_read_block, F_read_block.kp, k_read_block, ok_rb T (Wd base) 3 (by decide) F_read_block (C_rr3 base)⟩ : Cal P w K mg base CX0 17 "read_block" _ (spBlk K (He.ga K "Words") 3) _ _)
  have C_ri3 := fun (base : Heap) => (⟨g_read_if, F_read_if.kp, k_read_if, ok_ri T (Wd base) 3 F_read_if (C_read_test base) (C_rb3 base)⟩ : Cal P w K mg base CX0 18 "read_if" _ (spIf K (He.ga K "Words") 3) _ _)
  have C_rw3 := fun (base : Heap) => (⟨g_read_while, F_read_while.kp, k_read_while, ok_rw T (Wd base) 3 F_read_while (C_read_test base) (C_rb3 base)⟩ : Cal P w K mg base CX0 18 "read_while" _ (spWh K (He.ga K "Words") 3) _ _)
  have C_rs3 := fun (base : Heap) => (⟨g_read_statement, F_read_statement.kp, k_read_statement, ok_rs T (Wd base) 3 F_read_statement (C_is_letter base) (C_read_next_or_tie base) (C_ri3 base) (C_rw3 base)⟩ : Cal P w K mg base CX0 19 "read_statement" _ (spStm K (He.ga K "Words") 3) _ _)
  have C_rr4 := fun (base : Heap) => (⟨g_read_rows, F_read_rows.kp, k_read_rows, ok_rr T (Wd base) 3 F_read_rows (C_rs3 base)⟩ : Cal P w K mg base CX0 20 "read_rows" _ (spRow K (He.ga K "Words") 3) _ _)
  have C_rb4 := fun (base : Heap) => (⟨g_read_block, F_read_block.kp, k_read_block, ok_rb T (Wd base) 4 (by decide) F_read_block (C_rr4 base)⟩ : Cal P w K mg base CX0 21 "read_block" _ (spBlk K (He.ga K "Words") 4) _ _)
  have C_ri4 := fun (base : Heap) => (⟨g_read_if, F_read_if.kp, k_read_if, ok_ri T (Wd base) 4 F_read_if (C_read_test base) (C_rb4 base)⟩ : Cal P w K mg base CX0 22 "read_if" _ (spIf K (He.ga K "Words") 4) _ _)
  have C_rw4 := fun (base : Heap) => (⟨g_read_while, F_read_while.kp, k_read_while, ok_rw T (Wd base) 4 F_read_while (C_read_test base) (C_rb4 base)⟩ : Cal P w K mg base CX0 22 "read_while" _ (spWh K (He.ga K "Words") 4) _ _)
  have C_rs4 := fun (base : Heap) => (⟨g_read_statement, F_read_statement.kp, k_read_statement, ok_rs T (Wd base) 4 F_read_statement (C_is_letter base) (C_read_next_or_tie base) (C_ri4 base) (C_rw4 base)⟩ : Cal P w K mg base CX0 23 "read_statement" _ (spStm K (He.ga K "Words") 4) _ _)
  have C_rr5 := fun (base : Heap) => (⟨g_read_rows, F_read_rows.kp, k_read_rows, ok_rr T (Wd base) 4 F_read_rows (C_rs4 base)⟩ : Cal P w K mg base CX0 24 "read_rows" _ (spRow K (He.ga K "Words") 4) _ _)
  have C_cn0 := fun (base : Heap) => (⟨g_count_statements, F_count_statements.kp, k_count_statements, fn_false⟩ : Cal P w K mg base CX0 0 "count_statements" _ (spCntP K 0) _ _)
  have C_cn1 := fun (base : Heap) => (⟨g_count_statements, F_count_statements.kp, k_count_statements, ok_cnt T 0 F_count_statements (C_cn0 base)⟩ : Cal P w K mg base CX0 1 "count_statements" _ (spCnt K 0) _ _)
  have C_cn2 := fun (base : Heap) => (⟨g_count_statements, F_count_statements.kp, k_count_statements, ok_cnt T 1 F_count_statements (C_cn1 base)⟩ : Cal P w K mg base CX0 2 "count_statements" _ (spCnt K 1) _ _)
  have C_cn3 := fun (base : Heap) => (⟨g_count_statements, F_count_statements.kp, k_count_statements, ok_cnt T 2 F_count_statements (C_cn2 base)⟩ : Cal P w K mg base CX0 3 "count_statements" _ (spCnt K 2) _ _)
  have C_cn4 := fun (base : Heap) => (⟨g_count_statements, F_count_statements.kp, k_count_statements, ok_cnt T 3 F_count_statements (C_cn3 base)⟩ : Cal P w K mg base CX0 4 "count_statements" _ (spCnt K 3) _ _)
  have C_cn5 := fun (base : Heap) => (⟨g_count_statements, F_count_statements.kp, k_count_statements, ok_cnt T 4 F_count_statements (C_cn4 base)⟩ : Cal P w K mg base CX0 5 "count_statements" _ (spCnt K 4) _ _)
  have C_tree_of := fun (base : Heap) => (⟨g_tree_of, F_tree_of.kp, k_tree_of, ok_to T (Wd base) F_tree_of (C_split_words base) (C_rr5 base) (C_cn5 base)⟩ : Cal P w K mg base CX0 25 "tree_of" _ (spTreeOf K) _ _)
  have C_program_tree := fun (base : Heap) => (⟨g_program_tree, F_program_tree.kp, k_program_tree, ok_tt Rr F_program_tree (C_tree_of base)⟩ : Cal P w K mg base (L2.CX P w) 26 "program_tree" _ (spTT K (He.ga K "InvalidProgram")) _ _)
  have C__law_take := fun (base : Heap) => (⟨g__law_take, F__law_take.kp, k__law_take, ok_take T F__law_take⟩ : Cal P w K mg base CX0 1 "_law_take" _ spTake _ _)
  have C__law_pick := fun (base : Heap) => (⟨g__law_pick, F__law_pick.kp, k__law_pick, ok_pick T F__law_pick (C__law_take base)⟩ : Cal P w K mg base CX0 2 "_law_pick" _ spPick _ _)
  have C__law_well := fun (base : Heap) => (⟨g__law_well, F__law_well.kp, k__law_well, ok_well T F__law_well⟩ : Cal P w K mg base CX0 1 "_law_well" _ (spWell K) _ _)
  have C__law_one_act := fun (base : Heap) => (⟨g__law_one_act, F__law_one_act.kp, k__law_one_act, ok_oa T F__law_one_act (C__law_take base) (C__law_pick base)⟩ : Cal P w K mg base CX0 3 "_law_one_act" _ (spAct K) _ _)
  have C__law_quiz := fun (base : Heap) => (⟨g__law_quiz, F__law_quiz.kp, k__law_quiz, ok_qz T F__law_quiz (C__law_take base) (C__law_pick base)⟩ : Cal P w K mg base CX0 3 "_law_quiz" _ (spQuiz K) _ _)
  have C_dtu := fun (base : Heap) => twigs_u (P := P) (w := w) (base := base) (twigs_all T F__law_twigs g__law_twigs k__law_twigs (C__law_take base) (C__law_one_act base) (C__law_quiz base))
  have C__law_act_said := fun (base : Heap) => (⟨g__law_act_said, F__law_act_said.kp, k__law_act_said, ok_as T F__law_act_said⟩ : Cal P w K mg base CX0 1 "_law_act_said" _ (spText isDeed deedText K) _ _)
  have C__law_quiz_said := fun (base : Heap) => (⟨g__law_quiz_said, F__law_quiz_said.kp, k__law_quiz_said, ok_qs T F__law_quiz_said⟩ : Cal P w K mg base CX0 1 "_law_quiz_said" _ (spText isTest testText K) _ _)
  have C_sd0 := fun (base : Heap) => (⟨g__law_said, F__law_said.kp, k__law_said, fn_false⟩ : Cal P w K mg base CX0 1 "_law_said" _ (spTTP K 0) _ _)
  have C_sd1 := fun (base : Heap) => (⟨g__law_said, F__law_said.kp, k__law_said, ok_said T 0 (by decide) F__law_said (C__law_act_said base) (C__law_quiz_said base) (C_sd0 base)⟩ : Cal P w K mg base CX0 2 "_law_said" _ (spTTx K 0) _ _)
  have C_sd2 := fun (base : Heap) => (⟨g__law_said, F__law_said.kp, k__law_said, ok_said T 1 (by decide) F__law_said (C__law_act_said base) (C__law_quiz_said base) (C_sd1 base)⟩ : Cal P w K mg base CX0 3 "_law_said" _ (spTTx K 1) _ _)
  have C_sd3 := fun (base : Heap) => (⟨g__law_said, F__law_said.kp, k__law_said, ok_said T 2 (by decide) F__law_said (C__law_act_said base) (C__law_quiz_said base) (C_sd2 base)⟩ : Cal P w K mg base CX0 4 "_law_said" _ (spTTx K 2) _ _)
  have C_sd4 := fun (base : Heap) => (⟨g__law_said, F__law_said.kp, k__law_said, ok_said T 3 (by decide) F__law_said (C__law_act_said base) (C__law_quiz_said base) (C_sd3 base)⟩ : Cal P w K mg base CX0 5 "_law_said" _ (spTTx K 3) _ _)
  have C_sd5 := fun (base : Heap) => (⟨g__law_said, F__law_said.kp, k__law_said, ok_said T 4 (by decide) F__law_said (C__law_act_said base) (C__law_quiz_said base) (C_sd4 base)⟩ : Cal P w K mg base CX0 6 "_law_said" _ (spTTx K 4) _ _)
  have C__law_ahead_word := fun (base : Heap) => (⟨g__law_ahead_word, F__law_ahead_word.kp, k__law_ahead_word, ok_ah T F__law_ahead_word⟩ : Cal P w K mg base CX0 1 "_law_ahead_word" _ spAhead _ _)
  have C__law_next_word := fun (base : Heap) => (⟨g__law_next_word, F__law_next_word.kp, k__law_next_word, ok_nx T F__law_next_word (C__law_ahead_word base)⟩ : Cal P w K mg base CX0 2 "_law_next_word" _ spNext _ _)
  have C__law_read_quiz := fun (base : Heap) => (⟨g__law_read_quiz, F__law_read_quiz.kp, k__law_read_quiz, ok_rq T F__law_read_quiz (C__law_ahead_word base) (C__law_next_word base) (C__law_is_sign base) (C__law_is_goal base)⟩ : Cal P w K mg base CX0 3 "_law_read_quiz" _ (spLQ K) _ _)
  have C_lb0 := fun (base : Heap) => (⟨g__law_read_braced, F__law_read_braced.kp, k__law_read_braced, fn_false⟩ : Cal P w K mg base CX0 3 "_law_read_braced" _ (spBrP K 0) _ _)
  have C_lt0 := fun (base : Heap) => (⟨g__law_read_twig, F__law_read_twig.kp, k__law_read_twig, ok_tw T 0 F__law_read_twig (C__law_next_word base) (C__law_is_sign base) (C__law_is_goal base) (C_lb0 base)⟩ : Cal P w K mg base CX0 4 "_law_read_twig" _ (spTwig K 0) _ _)
  have C_ls0 := fun (base : Heap) => (⟨g__law_read_twigs, F__law_read_twigs.kp, k__law_read_twigs, ok_ts T 0 F__law_read_twigs (C__law_ahead_word base) (C_lt0 base)⟩ : Cal P w K mg base CX0 5 "_law_read_twigs" _ (spTwigs K 0) _ _)
  have C_lb1 := fun (base : Heap) => (⟨g__law_read_braced, F__law_read_braced.kp, k__law_read_braced, ok_br T 0 F__law_read_braced (C__law_ahead_word base) (C__law_next_word base) (C__law_read_quiz base) (C_ls0 base)⟩ : Cal P w K mg base CX0 6 "_law_read_braced" _ (spBr K 1) _ _)
  have C_lt1 := fun (base : Heap) => (⟨g__law_read_twig, F__law_read_twig.kp, k__law_read_twig, ok_tw T 1 F__law_read_twig (C__law_next_word base) (C__law_is_sign base) (C__law_is_goal base) (C_lb1 base)⟩ : Cal P w K mg base CX0 7 "_law_read_twig" _ (spTwig K 1) _ _)
  have C_ls1 := fun (base : Heap) => (⟨g__law_read_twigs, F__law_read_twigs.kp, k__law_read_twigs, ok_ts T 1 F__law_read_twigs (C__law_ahead_word base) (C_lt1 base)⟩ : Cal P w K mg base CX0 8 "_law_read_twigs" _ (spTwigs K 1) _ _)
  have C_lb2 := fun (base : Heap) => (⟨g__law_read_braced, F__law_read_braced.kp, k__law_read_braced, ok_br T 1 F__law_read_braced (C__law_ahead_word base) (C__law_next_word base) (C__law_read_quiz base) (C_ls1 base)⟩ : Cal P w K mg base CX0 9 "_law_read_braced" _ (spBr K 2) _ _)
  have C_lt2 := fun (base : Heap) => (⟨g__law_read_twig, F__law_read_twig.kp, k__law_read_twig, ok_tw T 2 F__law_read_twig (C__law_next_word base) (C__law_is_sign base) (C__law_is_goal base) (C_lb2 base)⟩ : Cal P w K mg base CX0 10 "_law_read_twig" _ (spTwig K 2) _ _)
  have C_ls2 := fun (base : Heap) => (⟨g__law_read_twigs, F__law_read_twigs.kp, k__law_read_twigs, ok_ts T 2 F__law_read_twigs (C__law_ahead_word base) (C_lt2 base)⟩ : Cal P w K mg base CX0 11 "_law_read_twigs" _ (spTwigs K 2) _ _)
  have C_lb3 := fun (base : Heap) => (⟨g__law_read_braced, F__law_read_braced.kp, k__law_read_braced, ok_br T 2 F__law_read_braced (C__law_ahead_word base) (C__law_next_word base) (C__law_read_quiz base) (C_ls2 base)⟩ : Cal P w K mg base CX0 12 "_law_read_braced" _ (spBr K 3) _ _)
  have C_lt3 := fun (base : Heap) => (⟨g__law_read_twig, F__law_read_twig.kp, k__law_read_twig, ok_tw T 3 F__law_read_twig (C__law_next_word base) (C__law_is_sign base) (C__law_is_goal base) (C_lb3 base)⟩ : Cal P w K mg base CX0 13 "_law_read_twig" _ (spTwig K 3) _ _)
  have C_ls3 := fun (base : Heap) => (⟨g__law_read_twigs, F__law_read_twigs.kp, k__law_read_twigs, ok_ts T 3 F__law_read_twigs (C__law_ahead_word base) (C_lt3 base)⟩ : Cal P w K mg base CX0 14 "_law_read_twigs" _ (spTwigs K 3) _ _)
  have C_lb4 := fun (base : Heap) => (⟨g__law_read_braced, F__law_read_braced.kp, k__law_read_braced, ok_br T 3 F__law_read_braced (C__law_ahead_word base) (C__law_next_word base) (C__law_read_quiz base) (C_ls3 base)⟩ : Cal P w K mg base CX0 15 "_law_read_braced" _ (spBr K 4) _ _)
  have C_lt4 := fun (base : Heap) => (⟨g__law_read_twig, F__law_read_twig.kp, k__law_read_twig, ok_tw T 4 F__law_read_twig (C__law_next_word base) (C__law_is_sign base) (C__law_is_goal base) (C_lb4 base)⟩ : Cal P w K mg base CX0 16 "_law_read_twig" _ (spTwig K 4) _ _)
  have C_ls4 := fun (base : Heap) => (⟨g__law_read_twigs, F__law_read_twigs.kp, k__law_read_twigs, ok_ts T 4 F__law_read_twigs (C__law_ahead_word base) (C_lt4 base)⟩ : Cal P w K mg base CX0 17 "_law_read_twigs" _ (spTwigs K 4) _ _)
  have C__law_tokens := fun (base : Heap) => (⟨g__law_tokens, F__law_tokens.kp, k__law_tokens, ok_tk T F__law_tokens⟩ : Cal P w K mg base CX0 1 "_law_tokens" _ spToks _ _)
  have C__law_read := fun (base : Heap) => lev_up (k' := 26) (by decide) (⟨g__law_read, F__law_read.kp, k__law_read, ok_rd (k := 16) T F__law_read (C__law_tokens base) (C_ls4 base)⟩ : Cal P w K mg base CX0 18 "_law_read" _ (spRead K) _ _)
  have C_test_letters := fun (base : Heap) => (⟨g_test_letters, F_test_letters.kp, k_test_letters, ok_tl T b_sorted F_test_letters⟩ : Cal P w K mg base CX0 1 "test_letters" _ (spTL K) _ _)
  have C_tl0 := fun (base : Heap) => (⟨g_tree_letters, F_tree_letters.kp, k_tree_letters, fn_false⟩ : Cal P w K mg base CX0 1 "tree_letters" _ (spTrLP K 0) _ _)
  have C_td0 := fun (base : Heap) => (⟨g_tree_deeds, F_tree_deeds.kp, k_tree_deeds, fn_false⟩ : Cal P w K mg base CX0 0 "tree_deeds" _ (spTDP K 0) _ _)
  have C_ld0 := fun (base : Heap) => (⟨g_loops_depth, F_loops_depth.kp, k_loops_depth, fn_false⟩ : Cal P w K mg base CX0 0 "loops_depth" _ (spLDP K 0) _ _)
  have C_of0 := fun (base : Heap) => (⟨g__law_often, F__law_often.kp, k__law_often, fn_false⟩ : Cal P w K mg base CX0 0 "_law_often" _ (spCntP K 0) _ _)
  have C_ne0 := fun (base : Heap) => (⟨g__law_nest, F__law_nest.kp, k__law_nest, fn_false⟩ : Cal P w K mg base CX0 0 "_law_nest" _ (spLDP K 0) _ _)
  have C_ac0 := fun (base : Heap) => (⟨g__law_acts, F__law_acts.kp, k__law_acts, fn_false⟩ : Cal P w K mg base CX0 0 "_law_acts" _ (spTDP K 0) _ _)
  have C_sg0 := fun (base : Heap) => (⟨g__law_signs, F__law_signs.kp, k__law_signs, fn_false⟩ : Cal P w K mg base CX0 0 "_law_signs" _ (spSgP K 0) _ _)
  have C_tl1 := fun (base : Heap) => (⟨g_tree_letters, F_tree_letters.kp, k_tree_letters, ok_trl T b_sorted 0 F_tree_letters (C_test_letters base) (C_tl0 base)⟩ : Cal P w K mg base CX0 2 "tree_letters" _ (spTrL K 0) _ _)
  have C_td1 := fun (base : Heap) => (⟨g_tree_deeds, F_tree_deeds.kp, k_tree_deeds, ok_td T 0 F_tree_deeds (C_td0 base)⟩ : Cal P w K mg base CX0 1 "tree_deeds" _ (spTD K 0) _ _)
  have C_ld1 := fun (base : Heap) => (⟨g_loops_depth, F_loops_depth.kp, k_loops_depth, ok_ld T 0 F_loops_depth (C_ld0 base)⟩ : Cal P w K mg base CX0 1 "loops_depth" _ (spLD K 0) _ _)
  have C_of1 := fun (base : Heap) => (⟨g__law_often, F__law_often.kp, k__law_often, ok_of T 0 F__law_often (C_of0 base)⟩ : Cal P w K mg base CX0 1 "_law_often" _ (spCnt K 0) _ _)
  have C_ne1 := fun (base : Heap) => (⟨g__law_nest, F__law_nest.kp, k__law_nest, ok_ne T 0 F__law_nest (C_ne0 base)⟩ : Cal P w K mg base CX0 1 "_law_nest" _ (spLD K 0) _ _)
  have C_ac1 := fun (base : Heap) => (⟨g__law_acts, F__law_acts.kp, k__law_acts, ok_ac T 0 F__law_acts (C_ac0 base)⟩ : Cal P w K mg base CX0 1 "_law_acts" _ (spTD K 0) _ _)
  have C_sg1 := fun (base : Heap) => (⟨g__law_signs, F__law_signs.kp, k__law_signs, ok_sg T 0 F__law_signs (C_sg0 base)⟩ : Cal P w K mg base CX0 1 "_law_signs" _ (spSg K 0) _ _)
  have C_tl2 := fun (base : Heap) => (⟨g_tree_letters, F_tree_letters.kp, k_tree_letters, ok_trl T b_sorted 1 F_tree_letters (C_test_letters base) (C_tl1 base)⟩ : Cal P w K mg base CX0 3 "tree_letters" _ (spTrL K 1) _ _)
  have C_td2 := fun (base : Heap) => (⟨g_tree_deeds, F_tree_deeds.kp, k_tree_deeds, ok_td T 1 F_tree_deeds (C_td1 base)⟩ : Cal P w K mg base CX0 2 "tree_deeds" _ (spTD K 1) _ _)
  have C_ld2 := fun (base : Heap) => (⟨g_loops_depth, F_loops_depth.kp, k_loops_depth, ok_ld T 1 F_loops_depth (C_ld1 base)⟩ : Cal P w K mg base CX0 2 "loops_depth" _ (spLD K 1) _ _)
  have C_of2 := fun (base : Heap) => (⟨g__law_often, F__law_often.kp, k__law_often, ok_of T 1 F__law_often (C_of1 base)⟩ : Cal P w K mg base CX0 2 "_law_often" _ (spCnt K 1) _ _)
  have C_ne2 := fun (base : Heap) => (⟨g__law_nest, F__law_nest.kp, k__law_nest, ok_ne T 1 F__law_nest (C_ne1 base)⟩ : Cal P w K mg base CX0 2 "_law_nest" _ (spLD K 1) _ _)
  have C_ac2 := fun (base : Heap) => (⟨g__law_acts, F__law_acts.kp, k__law_acts, ok_ac T 1 F__law_acts (C_ac1 base)⟩ : Cal P w K mg base CX0 2 "_law_acts" _ (spTD K 1) _ _)
  have C_sg2 := fun (base : Heap) => (⟨g__law_signs, F__law_signs.kp, k__law_signs, ok_sg T 1 F__law_signs (C_sg1 base)⟩ : Cal P w K mg base CX0 2 "_law_signs" _ (spSg K 1) _ _)
  have C_tl3 := fun (base : Heap) => (⟨g_tree_letters, F_tree_letters.kp, k_tree_letters, ok_trl T b_sorted 2 F_tree_letters (C_test_letters base) (C_tl2 base)⟩ : Cal P w K mg base CX0 4 "tree_letters" _ (spTrL K 2) _ _)
  have C_td3 := fun (base : Heap) => (⟨g_tree_deeds, F_tree_deeds.kp, k_tree_deeds, ok_td T 2 F_tree_deeds (C_td2 base)⟩ : Cal P w K mg base CX0 3 "tree_deeds" _ (spTD K 2) _ _)
  have C_ld3 := fun (base : Heap) => (⟨g_loops_depth, F_loops_depth.kp, k_loops_depth, ok_ld T 2 F_loops_depth (C_ld2 base)⟩ : Cal P w K mg base CX0 3 "loops_depth" _ (spLD K 2) _ _)
  have C_of3 := fun (base : Heap) => (⟨g__law_often, F__law_often.kp, k__law_often, ok_of T 2 F__law_often (C_of2 base)⟩ : Cal P w K mg base CX0 3 "_law_often" _ (spCnt K 2) _ _)
  have C_ne3 := fun (base : Heap) => (⟨g__law_nest, F__law_nest.kp, k__law_nest, ok_ne T 2 F__law_nest (C_ne2 base)⟩ : Cal P w K mg base CX0 3 "_law_nest" _ (spLD K 2) _ _)
  have C_ac3 := fun (base : Heap) => (⟨g__law_acts, F__law_acts.kp, k__law_acts, ok_ac T 2 F__law_acts (C_ac2 base)⟩ : Cal P w K mg base CX0 3 "_law_acts" _ (spTD K 2) _ _)
  have C_sg3 := fun (base : Heap) => (⟨g__law_signs, F__law_signs.kp, k__law_signs, ok_sg T 2 F__law_signs (C_sg2 base)⟩ : Cal P w K mg base CX0 3 "_law_signs" _ (spSg K 2) _ _)
  have C_tl4 := fun (base : Heap) => (⟨g_tree_letters, F_tree_letters.kp, k_tree_letters, ok_trl T b_sorted 3 F_tree_letters (C_test_letters base) (C_tl3 base)⟩ : Cal P w K mg base CX0 5 "tree_letters" _ (spTrL K 3) _ _)
  have C_td4 := fun (base : Heap) => (⟨g_tree_deeds, F_tree_deeds.kp, k_tree_deeds, ok_td T 3 F_tree_deeds (C_td3 base)⟩ : Cal P w K mg base CX0 4 "tree_deeds" _ (spTD K 3) _ _)
  have C_ld4 := fun (base : Heap) => (⟨g_loops_depth, F_loops_depth.kp, k_loops_depth, ok_ld T 3 F_loops_depth (C_ld3 base)⟩ : Cal P w K mg base CX0 4 "loops_depth" _ (spLD K 3) _ _)
  have C_of4 := fun (base : Heap) => (⟨g__law_often, F__law_often.kp, k__law_often, ok_of T 3 F__law_often (C_of3 base)⟩ : Cal P w K mg base CX0 4 "_law_often" _ (spCnt K 3) _ _)
  have C_ne4 := fun (base : Heap) => (⟨g__law_nest, F__law_nest.kp, k__law_nest, ok_ne T 3 F__law_nest (C_ne3 base)⟩ : Cal P w K mg base CX0 4 "_law_nest" _ (spLD K 3) _ _)
  have C_ac4 := fun (base : Heap) => (⟨g__law_acts, F__law_acts.kp, k__law_acts, ok_ac T 3 F__law_acts (C_ac3 base)⟩ : Cal P w K mg base CX0 4 "_law_acts" _ (spTD K 3) _ _)
  have C_sg4 := fun (base : Heap) => (⟨g__law_signs, F__law_signs.kp, k__law_signs, ok_sg T 3 F__law_signs (C_sg3 base)⟩ : Cal P w K mg base CX0 4 "_law_signs" _ (spSg K 3) _ _)
  have C_tl5 := fun (base : Heap) => (⟨g_tree_letters, F_tree_letters.kp, k_tree_letters, ok_trl T b_sorted 4 F_tree_letters (C_test_letters base) (C_tl4 base)⟩ : Cal P w K mg base CX0 6 "tree_letters" _ (spTrL K 4) _ _)
  have C_td5 := fun (base : Heap) => (⟨g_tree_deeds, F_tree_deeds.kp, k_tree_deeds, ok_td T 4 F_tree_deeds (C_td4 base)⟩ : Cal P w K mg base CX0 5 "tree_deeds" _ (spTD K 4) _ _)
  have C_ld5 := fun (base : Heap) => (⟨g_loops_depth, F_loops_depth.kp, k_loops_depth, ok_ld T 4 F_loops_depth (C_ld4 base)⟩ : Cal P w K mg base CX0 5 "loops_depth" _ (spLD K 4) _ _)
  have C_of5 := fun (base : Heap) => (⟨g__law_often, F__law_often.kp, k__law_often, ok_of T 4 F__law_often (C_of4 base)⟩ : Cal P w K mg base CX0 5 "_law_often" _ (spCnt K 4) _ _)
  have C_ne5 := fun (base : Heap) => (⟨g__law_nest, F__law_nest.kp, k__law_nest, ok_ne T 4 F__law_nest (C_ne4 base)⟩ : Cal P w K mg base CX0 5 "_law_nest" _ (spLD K 4) _ _)
  have C_ac5 := fun (base : Heap) => (⟨g__law_acts, F__law_acts.kp, k__law_acts, ok_ac T 4 F__law_acts (C_ac4 base)⟩ : Cal P w K mg base CX0 5 "_law_acts" _ (spTD K 4) _ _)
  have C_sg5 := fun (base : Heap) => (⟨g__law_signs, F__law_signs.kp, k__law_signs, ok_sg T 4 F__law_signs (C_sg4 base)⟩ : Cal P w K mg base CX0 5 "_law_signs" _ (spSg K 4) _ _)
  have C_program_letters := fun (base : Heap) => (⟨g_program_letters, F_program_letters.kp, k_program_letters, ok_pl T F_program_letters (C_program_tree base) (C_tl5 base)⟩ : Cal P w K mg base (L2.CX P w) 27 "program_letters" _ (spTold K (He.ga K "InvalidProgram") (rStr lettersOf)) _ _)
  have C_deeds_of := fun (base : Heap) => (⟨g_deeds_of, F_deeds_of.kp, k_deeds_of, ok_do T F_deeds_of (C_program_tree base) (lev_up (by decide) (C_td5 base))⟩ : Cal P w K mg base (L2.CX P w) 27 "deeds_of" _ (spTold K (He.ga K "InvalidProgram") (rDeeds K)) _ _)
  have C_has_loop := fun (base : Heap) => (⟨g_has_loop, F_has_loop.kp, k_has_loop, ok_hl T F_has_loop (C_program_tree base) (lev_up (by decide) (C_ld5 base))⟩ : Cal P w K mg base (L2.CX P w) 27 "has_loop" _ (spTold K (He.ga K "InvalidProgram") (rBl fun e => decide (0 < treeN (stN 4) e))) _ _)
  have C_is_plain := fun (base : Heap) => (⟨g_is_plain, F_is_plain.kp, k_is_plain, ok_ip T F_is_plain (C_program_tree base) (lev_up (by decide) (C_ld5 base))⟩ : Cal P w K mg base (L2.CX P w) 27 "is_plain" _ (spTold K (He.ga K "InvalidProgram") (rBl fun e => decide (treeN (stN 4) e < 2))) _ _)
  have C_statements_number := fun (base : Heap) => (⟨g_statements_number, F_statements_number.kp, k_statements_number, ok_sn T F_statements_number (C_program_tree base) (lev_up (by decide) (C_cn5 base))⟩ : Cal P w K mg base (L2.CX P w) 27 "statements_number" _ (spTold K (He.ga K "InvalidProgram") (rInt (cntOf (cntSt 4)))) _ _)
  have C__law_called := fun (base : Heap) => (⟨g__law_called, F__law_called.kp, k__law_called, ok_cl T Rr e5 e6 e7 g_ArrowError x3 F__law_called (C_program_letters base) w_program_letters (C_deeds_of base) w_deeds_of (C_has_loop base) w_has_loop (C_is_plain base) w_is_plain (C_statements_number base) w_statements_number⟩ : Cal P w K mg base CX0 28 "_law_called" _ (spCalled K) _ _)
  have C__law_bent := fun (base : Heap) => (⟨g__law_bent, F__law_bent.kp, k__law_bent, ok_bent T F__law_bent (C__law_take base) (C__law_pick base)⟩ : Cal P w K mg base CX0 3 "_law_bent" _ (spBent K) _ _)
  have C__law_odd := fun (base : Heap) => (⟨g__law_odd, F__law_odd.kp, k__law_odd, ok_odd T F__law_odd (C__law_pick base)⟩ : Cal P w K mg base CX0 3 "_law_odd" _ (spOdd K) _ _)
  have C__law_right := fun (base : Heap) => (⟨g__law_right, F__law_right.kp, k__law_right, ok_right T S F__law_right (C__law_take base) (C__law_pick base) (C_dtu base) (C_sd5 base) (C_sg5 base) (C_ne5 base) (C_ac5 base) (C_of5 base) (C__law_called base) (C__law_bent base) (C__law_odd base) (C__law_read base)⟩ : CalG P w K mg base CX0 30 "_law_right" _ spG _ _)
  exact ⟨fd_law, fun s v => bA s [v] rfl, fun base _ _ => ok_law T F_law (C__law_right base) (C__law_well base)⟩
end K38H
open PySem PySem.W PySem.Calls PyProof.Rows
theorem PySem.Challenge.cw_arrowcells_k38_what_stands_in_a_program_holds : PySem.Challenge.rw_arrowcells_k38_what_stands_in_a_program.Holds := by
  w_on; o_law
  refine HandSHeadRun.head_any (r := OpenLaw.row PySem.Challenge.rw_arrowcells_k38_what_stands_in_a_program) (q := view (OpenLaw.row PySem.Challenge.rw_arrowcells_k38_what_stands_in_a_program).prog [62]) (H := K38H.hk) (ob := K38H.ob) (M := 5000) (loose := K38H.nm) (d := HandSHeadRun.topDef (OpenLaw.row PySem.Challenge.rw_arrowcells_k38_what_stands_in_a_program).prog 62) (kwd := []) K38H.ob_eq
    (by kernel_rfl) (fun s => by kernel_rfl) K38H.run (by kernel_rfl) (by kernel_rfl) (by kernel_rfl) (by rfl) (by first | assumption | decide +kernel) (by decide +kernel) ⟨rfl, rfl, rfl, rfl, rfl, by decide +kernel⟩ ?hw ?hc
  case hw => w_witness2
  case hc =>
    refine Ga.walk_G (l := PySem.Challenge.rw_arrowcells_k38_what_stands_in_a_program) (n := 63) (k := 31) (x := "_law_script") (CX := fun _ => L2.CX0) rfl (by decide) (by kernel_rfl) ⟨rfl, by decide, by decide⟩ ?F (fun _ _ _ _ _ z => z)
    intro w mg fa h Y G hmg0
    obtain ⟨K, KX, c, cx⟩ := Y
    have hmg : mg ("law" : PySem.Str) = some (.ref fa) := by
      have e : (HandSHeadRun.topDef (OpenLaw.row PySem.Challenge.rw_arrowcells_k38_what_stands_in_a_program).prog 62).name = ("law" : PySem.Str) := by kernel_rfl
      rw [← e]
      exact hmg0
    obtain ⟨fd, hb, hF⟩ := K38H.facts (P := (PySem.Challenge.rw_arrowcells_k38_what_stands_in_a_program).prog) (w := w) KX G hmg c cx
    exact ⟨K, fd, K38.spLaw K, KX, hb, fun H a ns hl _ hS => ⟨a, ns, rfl, hS, hl, fun _ => rfl⟩, hF⟩

