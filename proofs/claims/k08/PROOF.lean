import PyProof.Rows.All
import Wide.All
import OpenK.AllK
import Wide.FinOn
import KE.KStateDown
import HandS.RaiseMore
import HandS.SortInts
import HandS.Base
import HandS.Call
import HandS.List
import HandS.TupAny
import HandS.Comp
import HandS.Ends
import HandS.EndBits
import HandS.Exc
import HandS.ExcOwn
import HandS.ExcIs
import HandS.ExcInit
import HandS.ExcBuiltin
import HandS.TryOnly
import HandS.TryMany
import HandS.Words
import HandS.WordsList
import HandS.WordsExc
import HandS.Defaults
import HandS.Dict
import HandS.Iter
import HandS.Text
import HandS.More
import HandS.Head0
import HandS.Head1
import HandS.Head2
import HandS.HeadEnd
import HandS.HeadHook1
import HandS.HeadHook2
import HandS.HeadHook3
import HandS.HeadHook4
import HandS.Wide
import HandS.WideMore
import HandS.WideBits
import HandS.IsInst
import HandS.Small
import HandS.Conv
import HandS.Deep
import HandS.Zip
import HandS.StrMore
import HandS.SortOrd
import HandS.SortRule
import KE.GoesComp
import HandS.DictTup
import HandS.TupLen
import HandS.WordsDict
import KE.KDictKeyed
import KE.KEqNest
import KE.KDictSum
import HandS.Conv
import KE.KDictItemsList
import KE.KDictDisplayH
import HandS.TupLe
import PyProof.FString5
import HandS.SortKw
import KE.DataMinMax
import PySem.Challenge.RW_onelook_k08_formulas_made
set_option Elab.async false
set_option linter.all false
set_option maxRecDepth 100000
set_option maxHeartbeats 4000000
namespace Ol
open PySem PySem.Spec PyProof.Rows L2
/-! ### facts of the top -/
/-- a module's constant -/
structure GCon (K : PySem.W.Frag) (mg : Str → Option Value) (x : Str) (v : V) : Prop where
  ex : ∃ u, mg x = some u ∧ RelV v u
theorem gcon_int {K : PySem.W.Frag} {mg : Str → Option Value} {x : Str} {i : Int} (h : ∃ t, mg x = some (.int i t)) : GCon K mg x (.int i) := by
  obtain ⟨t, h⟩ := h
  exact ⟨_, h, t, rfl⟩
theorem gcon_str {K : PySem.W.Frag} {mg : Str → Option Value} {x z : Str} (h : ∃ t, mg x = some (.str z t)) : GCon K mg x (.str z) := by
  obtain ⟨t, h⟩ := h
  exact ⟨_, h, t, rfl⟩
theorem gcon_ref {K : PySem.W.Frag} {mg : Str → Option Value} {x : Str} {a : Addr} (h : mg x = some (.ref a)) : GCon K mg x (.ref a) := ⟨_, h, rfl⟩
theorem pe_con {X : Cx} {x : Str} {v : V} {pos : Pos} (h : GCon X.K X.mg x v) (hg : Gl X x) (hd : (x == ("__debug__" : Str)) = false := by decide) : PE X (.Name x pos) (tC v) := by
  obtain ⟨u, h1, h2⟩ := h.ex
  exact pe_glob hg h1 h2 hd
/-- an own exception class -/
def excCB (K : PySem.W.Frag) (D : Addr) : Bool :=
  decide (PySem.W.findIn K (.ref D) "__getattribute__" = some (some (.builtin "BaseException.__getattribute__"))) && (decide (PySem.W.findIn K (.ref D) "__getattr__" = some none) &&
  (decide (PySem.W.subIn K (.ref D) (.type "BaseException") = some true) && (PySem.W.hasDictIn K D && (decide (PySem.W.findIn K (.ref D) "__class__" = some (some (.builtin "object.__class__"))) &&
  (decide (PySem.W.specialIn K (.builtin "object.__class__") "__get__" = some (some (.builtin "getset_descriptor.__get__"))) && (decide (PySem.W.takesIn K (.builtin "object.__class__") = some true) && decide (PySem.W.mroIn K D (.type "object") = some true)))))))
theorem excCB_ok {K : PySem.W.Frag} {D : Addr} (h : excCB K D = true) : ExcC K D := by
  unfold excCB at h
  simp only [Bool.and_eq_true, decide_eq_true_eq] at h
  obtain ⟨h1, h2, h3, h4, h5, h6, h7, h8⟩ := h
  exact ⟨h1, h2, h3, h4, h5, h6, h7, h8⟩
structure XCls (K : PySem.W.Frag) (mg : Str → Option Value) (x : Str) : Prop where
  g : mg x = some (.ref (He.ga K x))
  e : PySem.W.excIn K (He.ga K x) He.veBase "ValueError.__new__" = true ∧ PySem.W.keepIn K (.ref (He.ga K x)) = true ∧ PySem.W.subIn K (.ref (He.ga K x)) (.type "BaseException") = some true ∧ PySem.W.typeIn K (.ref (He.ga K x)) = some (.type "type")
  c : ExcC K (He.ga K x)
theorem pe_clsv {X : Cx} {K : PySem.W.Frag} {mg : Str → Option Value} {x : Str} {pos : Pos} (h : XCls K mg x) (hg : Gl X x) (hm : X.mg = mg := by rfl) (hd : (x == ("__debug__" : Str)) = false := by decide) : PE X (.Name x pos) (tC (.ref (He.ga K x))) := pe_glob hg (by rw [hm]; exact h.g) rfl hd
theorem pmk_x {X : Cx} {x m : Str} {j : Nat} {p p2 pos : Pos} (h : XCls X.K X.mg x) (hg : Gl X x) (hdb : (x == ("__debug__" : Str)) = false := by decide) :
    PMk X (.Call (.Name x p) [.Constant (.str m) j p2] [] pos) (fun _ H Q => Q (.ref (He.ga X.K x)) none H) :=
  pmk_own PySem.F.excBase_ValueError h.e.1 h.g h.e.2.1 (raises_own h.e.2.2.1 h.e.2.2.2) hg hdb
/-! ### a def with its promise -/
structure Def (P : Program) (w : World) (K : PySem.W.Frag) (mg : Str → Option Value) (base : Heap) (k : Nat) (x : Str) (ps : List Str) (sp : Sp) : Prop where
  g : mg x = some (.ref (He.ga K x))
  kp : PySem.W.keepIn K (.ref (He.ga K x)) = true
  ok : ∃ fd, FnOk P w K mg base (L2.CX P w) k (He.ga K x) fd ps sp ∧ Binds K fd ps [] ∧ (∃ oc od sl, K.lookup (He.ga K x) = some ⟨oc, od, .func fd, sl⟩) ∧ ∀ (s : Shared) (us : List Value), us.length = ps.length → BindsTo s fd ⟨us, []⟩ (ps.zip us)
theorem def_of {P : Program} {w : World} {K : PySem.W.Frag} {mg : Str → Option Value} {base : Heap} {k : Nat} {x nm qual : Str} {N ps : List Str} {sp : Sp} {a : Arguments} {body : List Stmt} {scope : Scope}
    (hg : mg x = some (.ref (He.ga K x))) (F : ∃ fd, FunD K nm qual a body scope [] [] (He.ga K x) fd) (S : FnScope N ps scope)
    (hb : ∀ (kV doc pm : Value) (an : Option Addr) (cdv ct : Value) (us : List Value), us.length = ps.length → bindArgs (PySem.W.fnOf nm qual a body scope .none kV doc pm an cdv ct) ⟨us, []⟩ = pure (ps.zip us))
    (len : ∀ vs H Q E, sp vs H Q E → vs.length = ps.length)
    (hbody : ∀ (cdv : Value) (A : Around) (outer : List Env) (s : Shared) (H : Hp) (vs : List V) (Q : VK) (E : XK), Room k (A.deeper (envOfC qual scope s.heap.objs.size (He.ga K x) cdv)) → sp vs H Q E →
      ∃ t, PSs (cxOf (L2.CX P w) P w K mg base N qual scope (He.ga K x) cdv A outer s H E) body t ∧ t ⟨fun _ H' => Q .non H', Q, fun _ _ => False, fun _ _ => False⟩ (start N vs) H) : Def P w K mg base (k + 1) x ps sp := by
  obtain ⟨fd, F⟩ := F
  refine ⟨hg, F.kp, fd, F.ok S len hbody, F.bindsN hb, ?_, F.bindsA hb⟩
  obtain ⟨oc, od, _, _, _, _, _, _, _, osl, _, lk, _⟩ := F.ex
  exact ⟨oc, od, osl, lk⟩
theorem pe_dcall {X : Cx} {k : Nat} {x : Str} {ps : List Str} {sp : Sp} {E : XK} {e : Expr} {es : List Expr} {t : TA} {p pos : Pos} (D : Def X.prog X.w X.K X.mg X.base k x ps sp) (hr : Room k X.A) (hg : Gl X x) (hx : Passes (L2.CX X.prog X.w) X E)
    (ha : PA X (e :: es) t) (hdb : (x == ("__debug__" : Str)) = false := by decide) (he : starEach (e :: es) X.env = (false, eval e X.env) :: starEach es X.env := by rfl) (hpl : ∀ q : Pos, (backTo q (starEach es X.env)).any (·.1) = false := by intro _; rfl) :
    PE X (.Call (.Name x p) (e :: es) [] pos) (tCall sp [] E t) := by
  obtain ⟨fd, F, B, _⟩ := D.ok
  exact pe_call F hr hg D.g D.kp B .nil hx ha hdb he (hpl _)
theorem pe_dcall0 {X : Cx} {k : Nat} {x : Str} {sp : Sp} {E : XK} {p pos : Pos} (D : Def X.prog X.w X.K X.mg X.base k x [] sp) (hr : Room k X.A) (hg : Gl X x) (hx : Passes (L2.CX X.prog X.w) X E)
    (hdb : (x == ("__debug__" : Str)) = false := by decide) : PE X (.Call (.Name x p) [] [] pos) (tCall sp [] E tNil) := by
  obtain ⟨fd, F, B, _⟩ := D.ok
  exact pe_call0 F hr hg D.g D.kp B .nil hx hdb
theorem pe_dcallS {X : Cx} {k : Nat} {x : Str} {ps : List Str} {sp : Sp} {E : L2.St → XK} {e : Expr} {es : List Expr} {t : TA} {p pos : Pos} (D : Def X.prog X.w X.K X.mg X.base k x ps sp) (hr : Room k X.A) (hg : Gl X x) (hx : ∀ σ, PassesAt (L2.CX X.prog X.w) X σ (E σ))
    (ha : PA X (e :: es) t) (hdb : (x == ("__debug__" : Str)) = false := by decide) (he : starEach (e :: es) X.env = (false, eval e X.env) :: starEach es X.env := by rfl) (hpl : ∀ q : Pos, (backTo q (starEach es X.env)).any (·.1) = false := by intro _; rfl) :
    PE X (.Call (.Name x p) (e :: es) [] pos) (tCallS sp E t) := by
  obtain ⟨fd, F, B, _⟩ := D.ok
  exact pe_callS F hr hg D.g D.kp B hx ha hdb he (hpl _)
/-! ### the end of a law -/
def spLawB (K : PySem.W.Frag) : Sp := fun vs H Q _ => ∃ (a : Addr) (ns : List Int), vs = [.ref a] ∧ SqL K H a (ns.map V.int) ∧ ns.length ≤ 63 ∧ (∀ z ∈ ns, Builtin.Int.intBits z ≤ 1048576) ∧ ∀ H', Q (.bl true) H'
theorem walk_ofEB {l : PySem.W.OpenLaw} {n k : Nat} {q : Program} {loose : List Str} {XP : (Str → Option Value) → Heap → Prop} {YP : World → Heap → Prop} {d : DefRec} {x : Str}
    (hn : l.most = some n) (hn2 : n ≤ sizeLine) (hdf : d.params.defaults = []) (hr : Room k callerA)
    (F : ∀ (w : World) (mg : Str → Option Value) (fa : Addr) (h : Heap), YP w h → h.Ns mainGlobals mg → mg d.name = some (.ref fa) →
      ∃ (K : PySem.W.Frag) (fd : FuncData) (sp : Sp), K.In h ∧ (∀ (s : Shared) (u : Value), BindsTo s fd ⟨[u], []⟩ [(x, u)]) ∧
        (∀ (H : Hp) (a : Addr) (ns : List Int), ns.length ≤ n → (∀ z ∈ ns, Builtin.Int.intBits z ≤ 1048576) → SqL K H a (ns.map V.int) → sp [.ref a] H (fun v _ => v = .bl true) fun _ _ _ => False) ∧
        ∀ base : Heap, K.In base → base.Ns mainGlobals mg → FnOk l.prog w K mg base (L2.CX l.prog w) k fa fd [x] sp) :
    PySem.W.WalkO q loose XP YP l.row.toRowW d [] (fun f vs => PySem.call f vs) := by
  refine Att.attach_callB hn hdf fun w s0 s1 mg mb fa o pm cd doc a vs ns G Y ho hd hcd hmg hobj hints hlen hbits hg => ?_
  obtain ⟨K, fd, sp, KX, hb, hsp, hF⟩ := F w mg fa _ Y G.T.g hmg
  refine law_call KX G.T.g G.T.b G.T.builtins G.T.nolimit hg hobj hints (Nat.le_trans hlen hn2) hr hF hb (fun H hO hS => hsp H a ns hlen hbits hS) fun H e s' hc => ?_
  obtain ⟨_, _, _, _, _, _, _, _, _, _, _, _, z⟩ := hc
  exact z
theorem law_end {P : Program} {w : World} {K : PySem.W.Frag} {h : Heap} {mg : Str → Option Value} {k : Nat} {fa : Addr} (KX : K.In h) (hfa : mg ("law" : Str) = some (.ref fa)) (g : mg ("law" : Str) = some (.ref (He.ga K "law")))
    (D : ∀ base : Heap, K.In base → base.Ns mainGlobals mg → Def P w K mg base k "law" ["script"] (spLawB K)) (G : h.Ns mainGlobals mg) :
    ∃ (K : PySem.W.Frag) (fd : FuncData) (sp : Sp), K.In h ∧ (∀ (s : Shared) (u : Value), BindsTo s fd ⟨[u], []⟩ [("script", u)]) ∧
        (∀ (H : Hp) (a : Addr) (ns : List Int), ns.length ≤ 63 → (∀ z ∈ ns, Builtin.Int.intBits z ≤ 1048576) → SqL K H a (ns.map V.int) → sp [.ref a] H (fun v _ => v = .bl true) fun _ _ _ => False) ∧
        ∀ base : Heap, K.In base → base.Ns mainGlobals mg → FnOk P w K mg base (L2.CX P w) k fa fd ["script"] sp := by
  have e : fa = He.ga K "law" := by
    have z := hfa.symm.trans g
    injection z with z
    injection z
  subst e
  obtain ⟨fd, F, B, ⟨_, _, _, l1⟩, A⟩ := (D h KX G).ok
  refine ⟨K, fd, spLawB K, KX, fun s u => A s [u] rfl, fun H a ns hl hb hS => ⟨a, ns, rfl, hS, hl, hb, fun _ => rfl⟩, fun base hK hN => ?_⟩
  obtain ⟨fd2, F2, _, ⟨_, _, _, l2⟩, _⟩ := (D base hK hN).ok
  have e2 : fd2 = fd := by
    have z := l1.symm.trans l2
    injection z with z
    injection z with _ _ z _
    injection z with z
    exact z.symm
  exact e2 ▸ F2
end Ol
namespace Ol
open PySem PySem.Spec PyProof.Rows L2
/-! ### lengths -/
theorem ofS_len (s : String) : (Str.ofString s).length = s.length := by
  have e := congrArg List.length (PyProof.Rows.signs_ofString s)
  rw [List.length_map, String.length_toList] at e
  exact e
theorem sz_le {n : Nat} (h : n ≤ 16777216) : n ≤ sizeLine := by rw [sizeLine_eq]; exact h
theorem sz_lt {n : Nat} (h : n < 16777216) : n < sizeLine := by rw [sizeLine_eq]; exact h
theorem at_ex {α : Type} {xs : List α} {i : Int} (h0 : 0 ≤ i) (h1 : i < (xs.length : Int)) : ∃ v, xs[i.toNat]? = some v ∧ atI xs i = some v := by
  obtain ⟨n, rfl⟩ := Int.eq_ofNat_of_zero_le h0
  have hi : n < xs.length := by omega
  exact ⟨xs[n], List.getElem?_eq_getElem hi, atI_nat (List.getElem?_eq_getElem hi)⟩
theorem at_nat {α : Type} {xs : List α} {i : Nat} {v : α} (h : xs[i]? = some v) : atI xs (i : Int) = some v := atI_nat h
theorem int_at {ns : List Int} {i : Nat} {x : V} (h : (ns.map V.int)[i]? = some x) : ∃ z, x = V.int z := by
  rw [List.getElem?_map] at h
  cases e : ns[i]? with
  | none => rw [e] at h; cases h
  | some z => rw [e] at h; exact ⟨z, (Option.some.inj h).symm⟩
/-! ### rules that join -/
def rOr (r1 r2 : R2) : R2 := fun x y H Q => r1 x y H Q ∨ r2 x y H Q
theorem op_or2 {X : Cx} {f : Value → Value → Sem Value} {r1 r2 : R2} (h1 : OpR X f r1) (h2 : OpR X f r2) : OpR X f (rOr r1 r2) := fun pins s σ H x y v u Q I rx ry q =>
  q.elim (h1 pins s σ H x y v u Q I rx ry) (h2 pins s σ H x y v u Q I rx ry)
theorem call_or2 {X : Cx} {f : Value} {r1 r2 : List V → Hp → VK → Prop} (h1 : CallR X f r1) (h2 : CallR X f r2) : CallR X f (fun xs H Q => r1 xs H Q ∨ r2 xs H Q) := fun pins s σ H xs us Q I r q =>
  q.elim (h1 pins s σ H xs us Q I r) (h2 pins s σ H xs us Q I r)
/-- list + list, wherever they stand -/
def rCatL (K : PySem.W.Frag) : R2 := fun x y H Q => ∃ l b xs zs, x = .ref l ∧ y = .ref b ∧ SqL K H l xs ∧ SqL K H b zs ∧ xs.length + zs.length ≤ sizeLine ∧ ∀ p, H p = none → Q (.ref p) (upd H p (.lst (xs ++ zs)))
theorem op_catL {X : Cx} : OpR X (binaryOp .Add) (rCatL X.K) := by
  intro pins s σ H x y v u Q I rx ry h
  obtain ⟨l, b, xs, zs, rfl, rfl, hH, hB, hz, q⟩ := h
  cases rx
  cases ry
  obtain ⟨its, r, ⟨⟨cls, dd, data, sl⟩, n, ho, hc, hdd, hd⟩, _⟩ := I.list hH
  obtain ⟨its2, r2, ⟨⟨cls2, dd2, data2, sl2⟩, n2, ho2, hc2, hdd2, hd2⟩, _⟩ := I.list hB
  simp only at hc hd hc2 hd2
  subst hc hd hc2 hd2
  have e : its.toArray ++ its2.toArray = (its ++ its2).toArray := by simp
  have l1 := r.length
  have l2 := r2.length
  refine concat_meets ⟨_, ho, rfl⟩ ⟨_, ho2, rfl⟩ noFill_list_add seq_list_add PySem.F.slot_list_add PySem.F.entry_list_add (PySem.F.args_list_add_2 _ _) (list_addW l b its.toArray its2.toArray n n2 dd dd2 sl sl2 (by simpa [← l1, ← l2] using hz)) ⟨ho, ho2, ?_⟩
  rw [e]
  exact ⟨.ref _, _, I.lnew (t' := s.toks) (r.append r2) (by rw [List.length_append]; omega), rfl, q _ I.fresh⟩
def rStrCat : R2 := fun x y H Q => ∃ i j, x = .str i ∧ y = .str j ∧ i.length + j.length ≤ sizeLine ∧ Q (.str (i ++ j)) H
def rAddU (K : PySem.W.Frag) : R2 := rOr (rI0 fun i j => .int (i + j)) (rOr rStrCat (rOr (rCatL K) (rCatA K)))
theorem op_addU {X : Cx} {K : PySem.W.Frag} (hK : X.K = K := by rfl) : OpR X (binaryOp .Add) (rAddU K) := hK ▸ op_or2 op_add (op_or2 op_add_str (op_or2 op_catL op_catA))
/-- == of scalars, of nested data -/
def rEqU (K : PySem.W.Frag) : R2 := rOr rEq (rEqD K)
def rNeU (K : PySem.W.Frag) : R2 := rOr rNe (rNeD K)
theorem op_eqU {X : Cx} {K : PySem.W.Frag} (hu : X.A.units + 64 < cLine) (hK : X.K = K := by rfl) : OpR X (compareOp .Eq) (rEqU K) := hK ▸ op_or2 op_eq (op_eqD hu)
theorem op_neU {X : Cx} {K : PySem.W.Frag} (hu : X.A.units + 64 < cLine) (hK : X.K = K := by rfl) : OpR X (compareOp .NotEq) (rNeU K) := hK ▸ op_or2 op_ne (op_neD hu)
/-! ### the layer's rules, the written part told -/
theorem pg_seq {X : Cx} {K : PySem.W.Frag} {pos : Pos} {es : List Expr} {k : Nat} {t : TGs} {n : Nat} (hK : X.K = K) (hc : X.calm = true) (h : PGs X es t)
    (hn : (assignEach es X.env).length = n := by rfl) (hst : (assignEach es X.env).findIdx? (·.1) = none := by rfl) : PG X (.Tuple es k pos) (gTup K n t) := hK ▸ pg_tup hc h hn hst
theorem ix_seqK {X : Cx} {K : PySem.W.Frag} (hK : X.K = K := by rfl) : IxR X (rIx K) := hK ▸ ix_seq
theorem pi_listK {X : Cx} {K : PySem.W.Frag} {tg l : Expr} {tl : TE} (hl : PE X l tl) (hK : X.K = K := by rfl) : PI X tg l (iList K tl) := hK ▸ pi_list hl
theorem pi_tupK {X : Cx} {K : PySem.W.Frag} {tg l : Expr} {tl : TE} (hl : PE X l tl) (hK : X.K = K := by rfl) : PI X tg l (iTup K tl) := hK ▸ pi_tup hl
theorem sl_listK {X : Cx} {K : PySem.W.Frag} (hK : X.K = K := by rfl) : SlR X (rSlL K) := hK ▸ sl_list
theorem sl_tupK {X : Cx} {K : PySem.W.Frag} (hK : X.K = K := by rfl) : SlR X (rSlA K) := hK ▸ sl_tupA
theorem sl_strK {X : Cx} {K : PySem.W.Frag} (hK : X.K = K := by rfl) : SlR X rSlS := sl_str
theorem op_inK {X : Cx} {K : PySem.W.Frag} (hK : X.K = K := by rfl) : OpR X (compareOp .In) (rIn K false) := hK ▸ op_in_seq
theorem op_notInK {X : Cx} {K : PySem.W.Frag} (hK : X.K = K := by rfl) : OpR X (compareOp .NotIn) (rIn K true) := hK ▸ op_notIn_seq
theorem call_isiK {X : Cx} {K : PySem.W.Frag} (hK : X.K = K := by rfl) : CallR X (.builtin "isinstance") (rIsi K) := hK ▸ call_isi
theorem pt_truthK {X : Cx} {K : PySem.W.Frag} {a : Expr} {ta : TE} (ha : PE X a ta) (he : ∀ whole, isTrue a X.env whole = (do let v ← whole; standAt a.pos; holding [v] (truthy v))) (hK : X.K = K := by rfl) :
    PT X a (fun σ H Q => ta σ H fun x H' => ∃ k, TruV K x H' k ∧ Q k H') := hK ▸ pt_truth ha he
theorem pe_bmK {X : Cx} {K : PySem.W.Frag} {T name id : String} {r : V → List V → Hp → VK → Prop} {o e : Expr} {es : List Expr} {to : TE} {t : TA} {apos cpos : Pos} (hK : X.K = K) (pa : PlainAttrs T) (slot : Slot T name id) (hty : typeOf (.builtin id) = pure (.type "method_descriptor")) (hm : MtR X id r) (ho : PE X o to) (ha : PA X (e :: es) t)
    (hbase : attributeBase o name X.env (eval o X.env) = eval o X.env := by rfl)
    (hfew : ((backTo cpos (starEach (e :: es) X.env)).all (fun x => !x.1) && (backToKw cpos (keywordEach [] X.env)).all (fun x => x.1.isSome)
      && decide ((e :: es).length + ([] : List Keyword).length + (if ([] : List Keyword).isEmpty then 0 else 1) < 30)) = true := by rfl)
    (hline : (apos.endLine == cpos.line) = true := by rfl) (hs : starEach (e :: es) X.env = (false, eval e X.env) :: starEach es X.env := by rfl) (hplain : (backTo cpos (starEach es X.env)).any (·.1) = false := by rfl) :
    PE X (.Call (.Attribute o name apos) (e :: es) [] cpos) (tBM K T r to t) := hK ▸ pe_bm pa slot hty hm ho ha hbase hfew hline hs hplain
theorem pe_bm0K {X : Cx} {K : PySem.W.Frag} {T name id : String} {r : V → List V → Hp → VK → Prop} {o : Expr} {to : TE} {apos cpos : Pos} (hK : X.K = K) (pa : PlainAttrs T) (slot : Slot T name id) (hty : typeOf (.builtin id) = pure (.type "method_descriptor")) (hm : MtR X id r) (ho : PE X o to)
    (hbase : attributeBase o name X.env (eval o X.env) = eval o X.env := by rfl) (hline : (apos.endLine == cpos.line) = true := by rfl) : PE X (.Call (.Attribute o name apos) [] [] cpos) (tBM0 K T r to) := hK ▸ pe_bm0 pa slot hty hm ho hbase hline

/-! ### steps -/
section
variable {K : PySem.W.Frag} {σ : L2.St} {H H' : Hp} {Q rt : VK} {nx bk ct : L2.St → Hp → Prop} {ta tb te : TE} {QT : Bool → Hp → Prop} {QA : List V → Hp → Prop} {r : R2}
theorem s_seq {t u : TS} (h : t ⟨u ⟨nx, rt, bk, ct⟩, rt, bk, ct⟩ σ H) : tSeq t u ⟨nx, rt, bk, ct⟩ σ H := h
theorem s_asgN {i : Nat} (h : te σ H fun x H1 => nx (σ.set i (some x)) H1) : tAsg te (gName i) ⟨nx, rt, bk, ct⟩ σ H := h
theorem s_asg {g : TG} (h : te σ H fun x H1 => g x σ H1 nx) : tAsg te g ⟨nx, rt, bk, ct⟩ σ H := h
theorem s_ret (h : te σ H rt) : tRet te ⟨nx, rt, bk, ct⟩ σ H := h
theorem s_retN (h : rt .non H) : tRetN ⟨nx, rt, bk, ct⟩ σ H := h
theorem s_drop (h : te σ H fun _ H1 => nx σ H1) : tDrop te ⟨nx, rt, bk, ct⟩ σ H := h
theorem s_if {c : TT} {t u : TS} (h : c σ H fun b H1 => if b = true then t ⟨nx, rt, bk, ct⟩ σ H1 else u ⟨nx, rt, bk, ct⟩ σ H1) : tIfS c t u ⟨nx, rt, bk, ct⟩ σ H := h
theorem s_next (h : nx σ H) : tNext ⟨nx, rt, bk, ct⟩ σ H := h
theorem s_brk (h : bk σ H) : tBreak ⟨nx, rt, bk, ct⟩ σ H := h
theorem s_cont (h : ct σ H) : tCont ⟨nx, rt, bk, ct⟩ σ H := h
theorem s_nx (h : nx σ H) : Ends.nx ⟨nx, rt, bk, ct⟩ σ H := h
theorem s_bk (h : bk σ H) : Ends.bk ⟨nx, rt, bk, ct⟩ σ H := h
theorem s_ct (h : ct σ H) : Ends.ct ⟨nx, rt, bk, ct⟩ σ H := h
theorem s_rt {v : V} (h : rt v H) : Ends.rt ⟨nx, rt, bk, ct⟩ v H := h
theorem s_gname {i : Nat} {v : V} {q : L2.St → Hp → Prop} (h : q (σ.set i (some v)) H) : gName i v σ H q := h
theorem s_gtup {n : Nat} {t : TGs} {p : Addr} {xs : List V} {q : L2.St → Hp → Prop} (h : SqT K H p xs) (hn : xs.length = n) (h2 : t xs σ H q) : gTup K n t (.ref p) σ H q := ⟨p, xs, rfl, h, hn, h2⟩
theorem s_gcons {t : TG} {u : TGs} {v : V} {l : List V} {q : L2.St → Hp → Prop} (h : t v σ H fun s2 H2 => u l s2 H2 q) : gCons t u (v :: l) σ H q := ⟨v, l, rfl, h⟩
theorem s_gnil {q : L2.St → Hp → Prop} (h : q σ H) : gNil [] σ H q := ⟨rfl, h⟩
theorem s_gsub {to ti : TE} {ts : TSet} {v : V} {q : L2.St → Hp → Prop} (h : to σ H fun o H1 => ti σ H1 fun i H2 => ts o i v H2 fun H3 => q σ H3) : gSub to ti ts v σ H q := h
theorem s_setL {p : Addr} {i : Int} {v : V} {xs : List V} {j : Nat} {q : Hp → Prop} (h : H p = some (.lst xs)) (e : ixN xs.length i = some j) (h2 : q (upd H p (.lst (xs.set j v)))) : rSetL (.ref p) (.int i) v H q := ⟨p, xs, i, j, rfl, rfl, h, e, h2⟩
theorem s_test (h : te σ H fun x H1 => ∃ k, x = .bl k ∧ QT k H1) : tTest te σ H QT := h
theorem s_tB (h : te σ H fun x H1 => ∃ k, x = .bl k ∧ QT k H1) : tB te σ H QT := h
theorem s_isbl {b : Bool} (h : QT b H) : ∃ k, V.bl b = .bl k ∧ QT k H := ⟨b, rfl, h⟩
theorem s_and {t u : TT} (h : t σ H fun c H1 => if c = true then u σ H1 QT else QT false H1) : tAnd t u σ H QT := h
theorem s_or {t u : TT} (h : t σ H fun c H1 => if c = true then QT true H1 else u σ H1 QT) : tOr t u σ H QT := h
theorem s_not {t : TT} (h : t σ H fun c H1 => QT (!c) H1) : tNot t σ H QT := h
theorem s_andV (h : ta σ H fun x H1 => ∃ c, x = .bl c ∧ if c = true then tb σ H1 Q else Q (.bl false) H1) : tAndV ta tb σ H Q := h
theorem s_orV (h : ta σ H fun x H1 => ∃ c, x = .bl c ∧ if c = true then Q (.bl true) H1 else tb σ H1 Q) : tOrV ta tb σ H Q := h
theorem s_notV (h : ta σ H fun x H1 => ∃ c, x = .bl c ∧ Q (.bl (!c)) H1) : tNotV ta σ H Q := h
theorem s_isblP {b : Bool} {A B : Hp → Prop} (h : if b = true then A H else B H) : ∃ k, V.bl b = .bl k ∧ (if k = true then A H else B H) := ⟨b, rfl, h⟩
theorem s_ifE {t : TT} (h : t σ H fun c H1 => if c = true then ta σ H1 Q else tb σ H1 Q) : tIf t ta tb σ H Q := h
theorem s_var {i : Nat} {v : V} (e : σ[i]? = some (some v)) (h : Q v H) : tVar i σ H Q := ⟨v, e, h⟩
theorem s_c {v : V} (h : Q v H) : tC v σ H Q := h
theorem s_op (h : ta σ H fun x H1 => tb σ H1 fun y H2 => r x y H2 Q) : tOp r ta tb σ H Q := h
theorem s_un {u : V → Hp → VK → Prop} (h : ta σ H fun x H1 => u x H1 Q) : tUn u ta σ H Q := h
theorem s_cons {tr : TA} (h : ta σ H fun x H1 => tr σ H1 fun xs H2 => QA (x :: xs) H2) : tCons ta tr σ H QA := h
theorem s_nil (h : QA [] H) : tNil σ H QA := h
theorem s_cb {u : List V → Hp → VK → Prop} {t : TA} (h : t σ H fun vs H1 => u vs H1 Q) : tCB u t σ H Q := h
theorem s_call {sp : Sp} {E : XK} {t : TA} (h : t σ H fun vs H1 => sp (vs ++ []) H1 Q E) : tCall sp [] E t σ H Q := h
theorem s_callS {sp : Sp} {E : L2.St → XK} {t : TA} (h : t σ H fun vs H1 => sp vs H1 Q (E σ)) : tCallS sp E t σ H Q := h
theorem s_tup {t : TA} (h : t σ H fun xs H1 => xs.length ≤ sizeLine ∧ ∀ p, H1 p = none → Q (.ref p) (upd H1 p (.tup xs))) : tTup t σ H Q := h
theorem s_lst {t : TA} (h : t σ H fun xs H1 => xs.length ≤ sizeLine ∧ ∀ p, H1 p = none → Q (.ref p) (upd H1 p (.lst xs))) : tLst t σ H Q := h
theorem s_bm {T : String} {u : V → List V → Hp → VK → Prop} {t : TA} (h : te σ H fun x H1 => tyV K T x H1 ∧ t σ H1 fun xs H2 => u x xs H2 Q) : tBM K T u te t σ H Q := h
theorem s_bm0 {T : String} {u : V → List V → Hp → VK → Prop} (h : te σ H fun x H1 => tyV K T x H1 ∧ u x [] H1 Q) : tBM0 K T u te σ H Q := h
theorem s_rI0 {g : Int → Int → V} {i j : Int} (h : Q (g i j) H) : rI0 g (.int i) (.int j) H Q := ⟨i, j, rfl, rfl, h⟩
theorem s_rI {C : Int → Int → Prop} {g : Int → Int → V} {i j : Int} (c : C i j) (h : Q (g i j) H) : rI C g (.int i) (.int j) H Q := ⟨i, j, rfl, rfl, c, h⟩
theorem s_rU {g : Int → V} {i : Int} (h : Q (g i) H) : rU g (.int i) H Q := ⟨i, rfl, h⟩
theorem s_addI {i j : Int} (h : Q (.int (i + j)) H) : rAddU K (.int i) (.int j) H Q := .inl ⟨i, j, rfl, rfl, h⟩
theorem s_addS {i j : Str} (e : i.length + j.length ≤ sizeLine) (h : Q (.str (i ++ j)) H) : rAddU K (.str i) (.str j) H Q := .inr (.inl ⟨i, j, rfl, rfl, e, h⟩)
theorem s_addL {l b : Addr} {xs zs : List V} (h1 : SqL K H l xs) (h2 : SqL K H b zs) (e : xs.length + zs.length ≤ sizeLine) (h : ∀ p, H p = none → Q (.ref p) (upd H p (.lst (xs ++ zs)))) : rAddU K (.ref l) (.ref b) H Q := .inr (.inr (.inl ⟨l, b, xs, zs, rfl, rfl, h1, h2, e, h⟩))
theorem s_eqS {x y : V} (c : scal x y = true) (h : Q (.bl (decide (x = y))) H) : rEqU K x y H Q := .inl ⟨c, h⟩
theorem s_neS {x y : V} (c : scal x y = true) (h : Q (.bl (!decide (x = y))) H) : rNeU K x y H Q := .inl ⟨c, h⟩
theorem s_eqD {x y : V} {d e : PyData} (c : Dp K H x d) (c2 : Dp K H y e) (z : SeqAt.shaped d = true) (z2 : SeqAt.shaped e = true) (h : Q (.bl (PyData.eqv d e)) H) : rEqU K x y H Q := .inr ⟨d, e, c, c2, z, z2, h⟩
theorem s_neD {x y : V} {d e : PyData} (c : Dp K H x d) (c2 : Dp K H y e) (z : SeqAt.shaped d = true) (z2 : SeqAt.shaped e = true) (h : Q (.bl (!PyData.eqv d e)) H) : rNeU K x y H Q := .inr ⟨d, e, c, c2, z, z2, h⟩
theorem s_isN {x : V} (h : Q (.bl (decide (x = .non))) H) : (fun (x y : V) (H : Hp) (Q : VK) => y = .non ∧ Q (.bl (decide (x = .non))) H) x .non H Q := ⟨rfl, h⟩
theorem s_ixL {p : Addr} {xs : List V} {i : Int} {v : V} (h : SqL K H p xs) (e : atI xs i = some v) (q : Q v H) : rIx K (.ref p) (.int i) H Q := .inl ⟨p, xs, i, v, rfl, rfl, h, e, q⟩
theorem s_ixT {p : Addr} {xs : List V} {i : Int} {v : V} (h : SqT K H p xs) (e : atI xs i = some v) (q : Q v H) : rIx K (.ref p) (.int i) H Q := .inr (.inl ⟨p, xs, i, v, rfl, rfl, h, e, q⟩)
theorem s_ixS {z : Str} {i : Int} {c : Nat} (l : z.length ≤ sizeLine) (e : atI z.cps.toList i = some c) (q : Q (.str ⟨#[c]⟩) H) : rIx K (.str z) (.int i) H Q := .inr (.inr ⟨z, i, c, rfl, rfl, l, e, q⟩)
theorem s_append {l : Addr} {xs : List V} {y : V} (h : H l = some (.lst xs)) (e : xs.length < sizeLine) (q : Q .non (upd H l (.lst (xs ++ [y])))) : rAppend (.ref l) [y] H Q := ⟨l, xs, y, rfl, rfl, h, e, q⟩
theorem s_iteD {p : Prop} [Decidable p] {A B : Prop} (h1 : p → A) (h2 : ¬ p → B) : if decide p = true then A else B := by
  by_cases h : p
  · rw [decide_eq_true h]; exact h1 h
  · rw [decide_eq_false h]; exact h2 h
theorem s_iteN {p : Prop} [Decidable p] {A B : Prop} (h1 : ¬ p → A) (h2 : p → B) : if (!decide p) = true then A else B := by
  by_cases h : p
  · rw [decide_eq_true h]; exact h2 h
  · rw [decide_eq_false h]; exact h1 h
theorem s_iteB {b : Bool} {A B : Prop} (h1 : b = true → A) (h2 : b = false → B) : if b = true then A else B := by
  cases b
  · exact h2 rfl
  · exact h1 rfl
theorem s_yes {b : Bool} {A B : Prop} (e : b = true) (h : A) : if b = true then A else B := by
  rw [e]; exact h
theorem s_no {b : Bool} {A B : Prop} (e : b = false) (h : B) : if b = true then A else B := by
  rw [e]; exact h
theorem hf_new {q p : Addr} {o o2 : HO} (hq : H q = none) (h : H p = some o) : (upd H q o2) p = some o := by
  rw [upd_ne (ne_of_none h hq)]; exact h
theorem hf_ne {q p : Addr} {o o2 : HO} (hq : p ≠ q) (h : H p = some o) : (upd H q o2) p = some o := by
  rw [upd_ne hq]; exact h
theorem sl_of {p : Addr} {xs : List V} (h : H p = some (.lst xs)) : SqL K H p xs := .inl (.inl h)
theorem st_of {p : Addr} {xs : List V} (h : H p = some (.tup xs)) : SqT K H p xs := .inl (.inl h)
theorem Same.new {p : Addr} {o : HO} (h : H p = none) : Same H (upd H p o) := fun b x e => by
  rw [upd_ne (ne_of_none e h)]; exact e
/-- what H does not know may change -/
theorem Same.mut {p : Addr} {o : HO} (e : Same H H') (h : H p = none) : Same H (upd H' p o) := fun a u ha => by
  rw [upd_ne (ne_of_none ha h)]; exact e a u ha
theorem Same.tup {a : Addr} {xs : List V} (e : Same H H') (h : SqT K H a xs) : SqT K H' a xs := by
  rcases h with (h | ⟨o, h⟩) | h
  · exact .inl (.inl (e _ _ h))
  · exact .inl (.inr ⟨o, e _ _ h⟩)
  · exact .inr h
end
/-! ### named readings of the layer's rules -/
def rIsNo : R2 := fun x y H Q => y = .non ∧ Q (.bl (decide (x = .non))) H
def rNotNo : R2 := fun x y H Q => y = .non ∧ Q (.bl (!decide (x = .non))) H
theorem op_isNo {X : Cx} : OpR X (compareOp .Is) rIsNo := op_isN
theorem op_notNo {X : Cx} : OpR X (compareOp .IsNot) rNotNo := op_notN
def rStrI : List V → Hp → VK → Prop := fun xs H Q => ∃ i, xs = [.int i] ∧ i.natAbs.log2 < 1920 ∧ Q (.str (toString i)) H
theorem call_strI {X : Cx} : CallR X (.type "str") rStrI := call_str_int
def rAbsI : List V → Hp → VK → Prop := fun xs H Q => ∃ i, xs = [.int i] ∧ Q (.int (if i < 0 then -i else i)) H
theorem call_absI {X : Cx} : CallR X (.builtin "abs") rAbsI := call_abs
def rLenU (K : PySem.W.Frag) : List V → Hp → VK → Prop := fun xs H Q => ∃ x n, xs = [x] ∧ LenV K x H n ∧ Q (.int n) H
theorem call_lenU {X : Cx} {K : PySem.W.Frag} (hK : X.K = K := by rfl) : CallR X (.builtin "len") (rLenU K) := hK ▸ call_len
def rJoinU (K : PySem.W.Frag) : V → List V → Hp → VK → Prop := fun x xs H Q => ∃ a p, ∃ ys : List Str, x = .str a ∧ xs = [.ref p] ∧ (SqL K H p (ys.map V.str) ∨ SqT K H p (ys.map V.str)) ∧ (ys.map (·.length)).sum + ys.length * a.length ≤ 16777216 ∧ Q (.str (Txt.join a ys)) H
theorem mt_joinU {X : Cx} {K : PySem.W.Frag} (hK : X.K = K := by rfl) : MtR X "str.join" (rJoinU K) := hK ▸ mt_join
section
variable {K : PySem.W.Frag} {σ : L2.St} {H H' : Hp} {Q : VK}
theorem s_isNo {x : V} (h : Q (.bl (decide (x = .non))) H) : rIsNo x .non H Q := ⟨rfl, h⟩
theorem s_notNo {x : V} (h : Q (.bl (!decide (x = .non))) H) : rNotNo x .non H Q := ⟨rfl, h⟩
theorem s_strI {i : Int} (e : i.natAbs.log2 < 1920) (h : Q (.str (toString i)) H) : rStrI [.int i] H Q := ⟨i, rfl, e, h⟩
theorem s_absI {i : Int} (h : Q (.int (if i < 0 then -i else i)) H) : rAbsI [.int i] H Q := ⟨i, rfl, h⟩
theorem s_lenS {z : Str} (e : z.length ≤ sizeLine) (h : Q (.int (z.length : Nat)) H) : rLenU K [.str z] H Q := ⟨_, _, rfl, ⟨e, rfl⟩, h⟩
theorem s_lenL {p : Addr} {xs : List V} (e : SqL K H p xs) (h : Q (.int (xs.length : Nat)) H) : rLenU K [.ref p] H Q := ⟨_, _, rfl, .inl ⟨xs, e, rfl⟩, h⟩
theorem s_lenT {p : Addr} {xs : List V} (e : SqT K H p xs) (h : Q (.int (xs.length : Nat)) H) : rLenU K [.ref p] H Q := ⟨_, _, rfl, .inr ⟨xs, e, rfl⟩, h⟩
theorem s_joinL {a : Str} {p : Addr} {ys : List Str} (e : SqL K H p (ys.map V.str)) (l : (ys.map (·.length)).sum + ys.length * a.length ≤ 16777216) (h : Q (.str (Txt.join a ys)) H) : rJoinU K (.str a) [.ref p] H Q := ⟨a, p, ys, rfl, rfl, .inl e, l, h⟩
theorem s_joinT {a : Str} {p : Addr} {ys : List Str} (e : SqT K H p (ys.map V.str)) (l : (ys.map (·.length)).sum + ys.length * a.length ≤ 16777216) (h : Q (.str (Txt.join a ys)) H) : rJoinU K (.str a) [.ref p] H Q := ⟨a, p, ys, rfl, rfl, .inr e, l, h⟩
theorem s_tyS {z : Str} {A : Prop} (h : A) : tyV K "str" (.str z) H ∧ A := ⟨rfl, h⟩
theorem s_tyL {p : Addr} {xs : List V} {A : Prop} (e : SqL K H p xs) (h : A) : tyV K "list" (.ref p) H ∧ A := ⟨.inl ⟨rfl, _, e⟩, h⟩
/-- isinstance -/
theorem s_isi {x c : V} {t u : Value} {b : Bool} (k : ClsV c u) (ty : TyX K H x t) (e : PySem.W.kitOne K t u = some b) (h : Q (.bl b) H) : rIsi K [x, c] H Q := ⟨x, c, t, u, b, rfl, k, ty, e, h⟩
end
/-! ### steps found by the head of the reading -/
class Step (G : Prop) (G2 : outParam Prop) : Prop where
  go : G2 → G
/-- slot i of a frame -/
class Slot (s : L2.St) (i : Nat) (v : outParam V) : Prop where
  e : s[i]? = some (some v)
instance slot0 {v : V} {s : L2.St} : Slot (some v :: s) 0 v := ⟨rfl⟩
instance slotS {v : V} {s : L2.St} {a : Option V} {i : Nat} [h : Slot s i v] : Slot (a :: s) (i + 1) v := ⟨by rw [List.getElem?_cons_succ]; exact h.e⟩
class SetS (s : L2.St) (i : Nat) (f : outParam (V → L2.St)) : Prop where
  e : ∀ v, s.set i (some v) = f v
instance set0 {a : Option V} {s : L2.St} : SetS (a :: s) 0 (fun v => some v :: s) := ⟨fun _ => rfl⟩
instance setS {s : L2.St} {a : Option V} {i : Nat} {f : V → L2.St} [h : SetS s i f] : SetS (a :: s) (i + 1) (fun v => a :: f v) := ⟨fun v => by rw [List.set_cons_succ, h.e]⟩
class WipeS (s : L2.St) (vs : List Nat) (t : outParam L2.St) : Prop where
  e : wipe s vs = t
class NoneS (s : L2.St) (i : Nat) (t : outParam L2.St) : Prop where
  e : s.set i none = t
instance none0 {a : Option V} {s : L2.St} : NoneS (a :: s) 0 (none :: s) := ⟨rfl⟩
instance noneS {s t : L2.St} {a : Option V} {i : Nat} [h : NoneS s i t] : NoneS (a :: s) (i + 1) (a :: t) := ⟨by rw [List.set_cons_succ, h.e]⟩
instance wipe0 {s : L2.St} : WipeS s [] s := ⟨rfl⟩
instance wipe1 {s t u : L2.St} {v : Nat} {vs : List Nat} [h : WipeS s vs t] [k : NoneS t v u] : WipeS s (v :: vs) u := ⟨by show (wipe s vs).set v none = u; rw [h.e, k.e]⟩
/-! ### loops -/
section
variable {K : PySem.W.Frag} {σ : L2.St} {H H' : Hp} {Q rt : VK} {nx bk ct : L2.St → Hp → Prop} {ta tb te : TE}
/-- the turns of a for -/
def ForW (g : TG) (tb : TS) (D : Ends) (J : It) (σ : L2.St) (H1 : Hp) : Prop := ∃ W : Nat → Nat → L2.St → Hp → Prop, (∃ m, W 0 m σ H1) ∧ ∀ i m σ H, W i m σ H →
  (J.stop i H ∧ D.nx σ H) ∨ (J.go i H ∧ ∃ N : L2.St → Hp → Prop, (∀ σ' H', N σ' H' → ∃ m', m' < m ∧ W (i + 1) m' σ' H') ∧ ∀ x H', J.yld i H x H' → g x σ H' fun σ2 H2 => tb { D with nx := N, ct := N, bk := D.nx } σ2 H2)
theorem s_for {wi : TI} {g : TG} {t : TS} (h : wi σ H fun J H1 => ForW g t ⟨nx, rt, bk, ct⟩ J σ H1) : tFor wi g t ⟨nx, rt, bk, ct⟩ σ H := h
theorem s_iRng1 {ta : TA} {R : It → Hp → Prop} (h : ta σ H fun vs H1 => ∃ j : Int, vs = [.int j] ∧ -(2 ^ 62) ≤ j ∧ j < 2 ^ 62 ∧ R (Itr 0 j.toNat) H1) : iRng1 ta σ H R := h
theorem s_iRng2 {ta : TA} {R : It → Hp → Prop} (h : ta σ H fun vs H1 => ∃ i j : Int, vs = [.int i, .int j] ∧ (-(2 ^ 62) ≤ i ∧ i < 2 ^ 62 ∧ -(2 ^ 62) ≤ j ∧ j < 2 ^ 62) ∧ R (Itr i (j - i).toNat) H1) : iRng2 ta σ H R := h
theorem s_rng1 {j : Int} {g : TG} {t : TS} {D : Ends} (h1 : -(2 ^ 62) ≤ j) (h2 : j < 2 ^ 62) (h : ForW g t D (Itr 0 j.toNat) σ H) : ∃ k : Int, [V.int j] = [V.int k] ∧ -(2 ^ 62) ≤ k ∧ k < 2 ^ 62 ∧ ForW g t D (Itr 0 k.toNat) σ H := ⟨j, rfl, h1, h2, h⟩
theorem s_rng2 {i j : Int} {g : TG} {t : TS} {D : Ends} (h1 : -(2 ^ 62) ≤ i ∧ i < 2 ^ 62 ∧ -(2 ^ 62) ≤ j ∧ j < 2 ^ 62) (h : ForW g t D (Itr i (j - i).toNat) σ H) : ∃ a b : Int, [V.int i, V.int j] = [V.int a, V.int b] ∧ (-(2 ^ 62) ≤ a ∧ a < 2 ^ 62 ∧ -(2 ^ 62) ≤ b ∧ b < 2 ^ 62) ∧ ForW g t D (Itr a (b - a).toNat) σ H := ⟨i, j, rfl, h1, h⟩
theorem s_iList {R : It → Hp → Prop} (h : te σ H fun x H1 => ∃ a, x = .ref a ∧ (∃ xs, SqL K H1 a xs) ∧ R (Itl K a) H1) : iList K te σ H R := h
theorem s_iTup {R : It → Hp → Prop} (h : te σ H fun x H1 => ∃ a, x = .ref a ∧ (∃ xs, SqT K H1 a xs) ∧ R (Itt K a) H1) : iTup K te σ H R := h
theorem s_lst1 {p : Addr} {xs : List V} {g : TG} {t : TS} {D : Ends} (h1 : SqL K H p xs) (h : ForW g t D (Itl K p) σ H) : ∃ a, V.ref p = .ref a ∧ (∃ xs, SqL K H a xs) ∧ ForW g t D (Itl K a) σ H := ⟨p, rfl, ⟨xs, h1⟩, h⟩
theorem s_tup1 {p : Addr} {xs : List V} {g : TG} {t : TS} {D : Ends} (h1 : SqT K H p xs) (h : ForW g t D (Itt K p) σ H) : ∃ a, V.ref p = .ref a ∧ (∃ xs, SqT K H a xs) ∧ ForW g t D (Itt K a) σ H := ⟨p, rfl, ⟨xs, h1⟩, h⟩
theorem s_forR {lo : Int} {n : Nat} {g : TG} {t : TS} (Pv : Nat → L2.St → Hp → Prop) (h0 : Pv 0 σ H)
    (hs : ∀ i σ H, i < n → Pv i σ H → g (.int (lo + i)) σ H fun σ2 H2 => t ⟨Pv (i + 1), rt, nx, Pv (i + 1)⟩ σ2 H2) (hd : ∀ σ H, Pv n σ H → nx σ H) : ForW g t ⟨nx, rt, bk, ct⟩ (Itr lo n) σ H := for_range (D := ⟨nx, rt, bk, ct⟩) Pv h0 hs hd
theorem s_forR0 {n : Nat} {g : TG} {t : TS} (Pv : Nat → L2.St → Hp → Prop) (h0 : Pv 0 σ H)
    (hs : ∀ i σ H, i < n → Pv i σ H → g (.int (i : Nat)) σ H fun σ2 H2 => t ⟨Pv (i + 1), rt, nx, Pv (i + 1)⟩ σ2 H2) (hd : ∀ σ H, Pv n σ H → nx σ H) : ForW g t ⟨nx, rt, bk, ct⟩ (Itr 0 n) σ H :=
  s_forR Pv h0 (fun i σ H hi p => by rw [Int.zero_add]; exact hs i σ H hi p) hd
theorem s_forL {a : Addr} {xs : List V} {g : TG} {t : TS} (Pv : Nat → L2.St → Hp → Prop) (h0 : Pv 0 σ H) (hl : ∀ i σ H, i ≤ xs.length → Pv i σ H → SqL K H a xs)
    (hs : ∀ i x σ H, xs[i]? = some x → Pv i σ H → g x σ H fun σ2 H2 => t ⟨Pv (i + 1), rt, nx, Pv (i + 1)⟩ σ2 H2) (hd : ∀ σ H, Pv xs.length σ H → nx σ H) : ForW g t ⟨nx, rt, bk, ct⟩ (Itl K a) σ H := for_list (D := ⟨nx, rt, bk, ct⟩) Pv h0 hl hs hd
theorem s_forT {a : Addr} {xs : List V} {g : TG} {t : TS} (Pv : Nat → L2.St → Hp → Prop) (h0 : Pv 0 σ H) (hl : ∀ i σ H, i ≤ xs.length → Pv i σ H → SqT K H a xs)
    (hs : ∀ i x σ H, xs[i]? = some x → Pv i σ H → g x σ H fun σ2 H2 => t ⟨Pv (i + 1), rt, nx, Pv (i + 1)⟩ σ2 H2) (hd : ∀ σ H, Pv xs.length σ H → nx σ H) : ForW g t ⟨nx, rt, bk, ct⟩ (Itt K a) σ H := for_tup (D := ⟨nx, rt, bk, ct⟩) Pv h0 hl hs hd
/-- the turns of a comprehension -/
def LcW (g : TG) (tt : TT) (te : TE) (vs : List Nat) (σ : L2.St) (Q : VK) (J : It) (H1 : Hp) : Prop := ∀ D, H1 D = none → ∃ W : Nat → Nat → Hp → Prop, (∃ m, W 0 m (upd H1 D (.lst []))) ∧ ∀ i m H, W i m H →
  (J.stop i H ∧ Q (.ref D) H) ∨ (J.go i H ∧ ∃ Nx : Hp → Prop, (∀ H', Nx H' → ∃ m', m' < m ∧ W (i + 1) m' H') ∧ ∀ x H', J.yld i H x H' → g x (wipe σ vs) H' fun σ2 H2 => wipe σ2 vs = wipe σ vs ∧ tt σ2 H2 fun b H3 =>
    if b = true then te σ2 H3 fun y H4 => ∃ acc, H4 D = some (.lst acc) ∧ acc.length < sizeLine ∧ Nx (upd H4 D (.lst (acc ++ [y]))) else Nx H3)
theorem s_lc {wi : TI} {g : TG} {tt : TT} {vs : List Nat} (h : wi σ H (LcW g tt te vs σ Q)) : tLc wi g tt te vs σ H Q := h
theorem s_rng1c {j : Int} {g : TG} {tt : TT} {vs : List Nat} (h1 : -(2 ^ 62) ≤ j) (h2 : j < 2 ^ 62) (h : LcW g tt te vs σ Q (Itr 0 j.toNat) H) : ∃ k : Int, [V.int j] = [V.int k] ∧ -(2 ^ 62) ≤ k ∧ k < 2 ^ 62 ∧ LcW g tt te vs σ Q (Itr 0 k.toNat) H := ⟨j, rfl, h1, h2, h⟩
theorem s_rng2c {i j : Int} {g : TG} {tt : TT} {vs : List Nat} (h1 : -(2 ^ 62) ≤ i ∧ i < 2 ^ 62 ∧ -(2 ^ 62) ≤ j ∧ j < 2 ^ 62) (h : LcW g tt te vs σ Q (Itr i (j - i).toNat) H) : ∃ a b : Int, [V.int i, V.int j] = [V.int a, V.int b] ∧ (-(2 ^ 62) ≤ a ∧ a < 2 ^ 62 ∧ -(2 ^ 62) ≤ b ∧ b < 2 ^ 62) ∧ LcW g tt te vs σ Q (Itr a (b - a).toNat) H := ⟨i, j, rfl, h1, h⟩
theorem s_lst1c {p : Addr} {xs : List V} {g : TG} {tt : TT} {vs : List Nat} (h1 : SqL K H p xs) (h : LcW g tt te vs σ Q (Itl K p) H) : ∃ a, V.ref p = .ref a ∧ (∃ xs, SqL K H a xs) ∧ LcW g tt te vs σ Q (Itl K a) H := ⟨p, rfl, ⟨xs, h1⟩, h⟩
theorem s_tup1c {p : Addr} {xs : List V} {g : TG} {tt : TT} {vs : List Nat} (h1 : SqT K H p xs) (h : LcW g tt te vs σ Q (Itt K p) H) : ∃ a, V.ref p = .ref a ∧ (∃ xs, SqT K H a xs) ∧ LcW g tt te vs σ Q (Itt K a) H := ⟨p, rfl, ⟨xs, h1⟩, h⟩
theorem s_sz {n : Nat} {A : Prop} (h : n ≤ sizeLine) (a : A) : n ≤ sizeLine ∧ A := ⟨h, a⟩
theorem s_lcR0 {n : Nat} {g : TG} {tt : TT} {vs : List Nat} {τ : L2.St} [hw : WipeS σ vs τ] (Pv : Addr → Nat → Hp → Prop) (h0 : ∀ D, H D = none → Pv D 0 (upd H D (.lst [])))
    (hs : ∀ D i H1, H D = none → i < n → Pv D i H1 → g (.int (i : Nat)) τ H1 fun σ2 H2 => wipe σ2 vs = τ ∧ tt σ2 H2 fun b H3 =>
      if b = true then te σ2 H3 fun y H4 => ∃ acc, H4 D = some (.lst acc) ∧ acc.length < sizeLine ∧ Pv D (i + 1) (upd H4 D (.lst (acc ++ [y]))) else Pv D (i + 1) H3) (hd : ∀ D H1, H D = none → Pv D n H1 → Q (.ref D) H1) :
    LcW g tt te vs σ Q (Itr 0 n) H := by
  have e := hw.e
  subst e
  exact fun D hD => lc_range (lo := 0) (n := n) (Pv D) (h0 D hD) (fun i H1 hi p => by rw [Int.zero_add]; exact hs D i H1 hD hi p) fun H1 => hd D H1 hD
theorem s_lcL {a : Addr} {xs : List V} {g : TG} {tt : TT} {vs : List Nat} {τ : L2.St} [hw : WipeS σ vs τ] (Pv : Addr → Nat → Hp → Prop) (h0 : ∀ D, H D = none → Pv D 0 (upd H D (.lst []))) (hl : ∀ D i H1, H D = none → i ≤ xs.length → Pv D i H1 → SqL K H1 a xs)
    (hs : ∀ D i x H1, H D = none → xs[i]? = some x → Pv D i H1 → g x τ H1 fun σ2 H2 => wipe σ2 vs = τ ∧ tt σ2 H2 fun b H3 =>
      if b = true then te σ2 H3 fun y H4 => ∃ acc, H4 D = some (.lst acc) ∧ acc.length < sizeLine ∧ Pv D (i + 1) (upd H4 D (.lst (acc ++ [y]))) else Pv D (i + 1) H3) (hd : ∀ D H1, H D = none → Pv D xs.length H1 → Q (.ref D) H1) :
    LcW g tt te vs σ Q (Itl K a) H := by
  have e := hw.e
  subst e
  exact fun D hD => lc_list (K := K) (a := a) (xs := xs) (Pv D) (h0 D hD) (fun i H1 => hl D i H1 hD) (fun i x H1 => hs D i x H1 hD) fun H1 => hd D H1 hD
theorem s_lcT {a : Addr} {xs : List V} {g : TG} {tt : TT} {vs : List Nat} {τ : L2.St} [hw : WipeS σ vs τ] (Pv : Addr → Nat → Hp → Prop) (h0 : ∀ D, H D = none → Pv D 0 (upd H D (.lst []))) (hl : ∀ D i H1, H D = none → i ≤ xs.length → Pv D i H1 → SqT K H1 a xs)
    (hs : ∀ D i x H1, H D = none → xs[i]? = some x → Pv D i H1 → g x τ H1 fun σ2 H2 => wipe σ2 vs = τ ∧ tt σ2 H2 fun b H3 =>
      if b = true then te σ2 H3 fun y H4 => ∃ acc, H4 D = some (.lst acc) ∧ acc.length < sizeLine ∧ Pv D (i + 1) (upd H4 D (.lst (acc ++ [y]))) else Pv D (i + 1) H3) (hd : ∀ D H1, H D = none → Pv D xs.length H1 → Q (.ref D) H1) :
    LcW g tt te vs σ Q (Itt K a) H := by
  have e := hw.e
  subst e
  exact fun D hD => lc_tup (K := K) (a := a) (xs := xs) (Pv D) (h0 D hD) (fun i H1 => hl D i H1 hD) (fun i x H1 => hs D i x H1 hD) fun H1 => hd D H1 hD
theorem s_acc {D : Addr} {acc : List V} {y : V} {R : Hp → Prop} (h : H D = some (.lst acc)) (l : acc.length < sizeLine) (q : R (upd H D (.lst (acc ++ [y])))) : ∃ acc, H D = some (.lst acc) ∧ acc.length < sizeLine ∧ R (upd H D (.lst (acc ++ [y]))) := ⟨acc, h, l, q⟩
theorem s_tyes {QT : Bool → Hp → Prop} (h : QT true H) : tYes σ H QT := h
theorem s_wipe {A B : Prop} (e : A) (h : B) : A ∧ B := ⟨e, h⟩
/-- all but p -/
def But (p : Addr) (H H' : Hp) : Prop := ∀ b o, b ≠ p → H b = some o → H' b = some o
theorem But.refl {p : Addr} : But p H H := fun _ _ _ h => h
theorem But.trans {p : Addr} {H1 : Hp} (a : But p H H1) (b : But p H1 H') : But p H H' := fun c o n h => b c o n (a c o n h)
theorem But.same {p : Addr} (e : Same H H') : But p H H' := fun b o _ h => e b o h
theorem But.upd {p : Addr} {o : HO} : But p H (upd H p o) := fun b x n e => by
  rw [upd_ne n]; exact e
theorem But.new {p q : Addr} {o : HO} (h : H q = none) : But p H (L2.upd H q o) := But.same (Same.new h)
/-- p and what H does not know may change -/
theorem But.mut {p q : Addr} {o : HO} (b : But p H H') (h : H q = none) : But p H (L2.upd H' q o) := fun x y n e => by
  rw [upd_ne (ne_of_none e h)]; exact b x y n e
theorem But.put {p : Addr} {o : HO} (b : But p H H') : But p H (L2.upd H' p o) := fun x y n e => by
  rw [upd_ne n]; exact b x y n e
/-- what p was not in, may change -/
theorem But.toSame {p : Addr} {H1 : Hp} (a : Same H H1) (n : H p = none) (b : But p H1 H') : Same H H' := fun c o e => b c o (ne_of_none e n) (a c o e)
end
section
variable {K : PySem.W.Frag} {σ τ : L2.St} {H H' : Hp} {Q rt : VK} {nx bk ct : L2.St → Hp → Prop} {ta tb te : TE} {QT : Bool → Hp → Prop} {QA : List V → Hp → Prop} {r : R2}
instance {t u : TS} : Step (tSeq t u ⟨nx, rt, bk, ct⟩ σ H) (t ⟨u ⟨nx, rt, bk, ct⟩, rt, bk, ct⟩ σ H) := ⟨id⟩
instance (priority := 2000) {i : Nat} {f : V → L2.St} [h : SetS σ i f] : Step (tAsg te (gName i) ⟨nx, rt, bk, ct⟩ σ H) (te σ H fun x H1 => nx (f x) H1) := ⟨fun q => by
  have e : (fun x H1 => nx (f x) H1) = fun x H1 => gName i x σ H1 nx := by
    funext x H1
    show nx (f x) H1 = nx (σ.set i (some x)) H1
    rw [h.e]
  show te σ H (fun x H1 => gName i x σ H1 nx)
  rw [← e]
  exact q⟩
instance {g : TG} : Step (tAsg te g ⟨nx, rt, bk, ct⟩ σ H) (te σ H fun x H1 => g x σ H1 nx) := ⟨id⟩
instance : Step (tRet te ⟨nx, rt, bk, ct⟩ σ H) (te σ H rt) := ⟨id⟩
instance : Step (tRetN ⟨nx, rt, bk, ct⟩ σ H) (rt .non H) := ⟨id⟩
instance : Step (tDrop te ⟨nx, rt, bk, ct⟩ σ H) (te σ H fun _ H1 => nx σ H1) := ⟨id⟩
instance {c : TT} {t u : TS} : Step (tIfS c t u ⟨nx, rt, bk, ct⟩ σ H) (c σ H fun b H1 => if b = true then t ⟨nx, rt, bk, ct⟩ σ H1 else u ⟨nx, rt, bk, ct⟩ σ H1) := ⟨id⟩
instance : Step (tNext ⟨nx, rt, bk, ct⟩ σ H) (nx σ H) := ⟨id⟩
instance : Step (tBreak ⟨nx, rt, bk, ct⟩ σ H) (bk σ H) := ⟨id⟩
instance : Step (tCont ⟨nx, rt, bk, ct⟩ σ H) (ct σ H) := ⟨id⟩
instance : Step (Ends.nx ⟨nx, rt, bk, ct⟩ σ H) (nx σ H) := ⟨id⟩
instance : Step (Ends.bk ⟨nx, rt, bk, ct⟩ σ H) (bk σ H) := ⟨id⟩
instance : Step (Ends.ct ⟨nx, rt, bk, ct⟩ σ H) (ct σ H) := ⟨id⟩
instance {v : V} : Step (Ends.rt ⟨nx, rt, bk, ct⟩ v H) (rt v H) := ⟨id⟩
instance {i : Nat} {v : V} {q : L2.St → Hp → Prop} {f : V → L2.St} [h : SetS σ i f] : Step (gName i v σ H q) (q (f v) H) := ⟨fun z => by
  show q (σ.set i (some v)) H
  rw [h.e]
  exact z⟩
instance {t : TG} {u : TGs} {v : V} {l : List V} {q : L2.St → Hp → Prop} : Step (gCons t u (v :: l) σ H q) (t v σ H fun s2 H2 => u l s2 H2 q) := ⟨s_gcons⟩
instance {q : L2.St → Hp → Prop} : Step (gNil [] σ H q) (q σ H) := ⟨s_gnil⟩
instance {to ti : TE} {ts : TSet} {v : V} {q : L2.St → Hp → Prop} : Step (gSub to ti ts v σ H q) (to σ H fun o H1 => ti σ H1 fun i H2 => ts o i v H2 fun H3 => q σ H3) := ⟨id⟩
instance : Step (tTest te σ H QT) (te σ H fun x H1 => ∃ k, x = .bl k ∧ QT k H1) := ⟨id⟩
instance : Step (tB te σ H QT) (te σ H fun x H1 => ∃ k, x = .bl k ∧ QT k H1) := ⟨id⟩
instance {b : Bool} {F : Bool → Prop} : Step (∃ k, V.bl b = .bl k ∧ F k) (F b) := ⟨fun h => ⟨b, rfl, h⟩⟩
instance {t u : TT} : Step (tAnd t u σ H QT) (t σ H fun c H1 => if c = true then u σ H1 QT else QT false H1) := ⟨id⟩
instance {t u : TT} : Step (tOr t u σ H QT) (t σ H fun c H1 => if c = true then QT true H1 else u σ H1 QT) := ⟨id⟩
instance {t : TT} : Step (tNot t σ H QT) (t σ H fun c H1 => QT (!c) H1) := ⟨id⟩
instance {r' : R2} {tc : TE} : Step (tChain r r' ta tb tc σ H Q) (ta σ H fun x H1 => tb σ H1 fun y H2 => r x y H2 fun z H3 => ∃ k, z = .bl k ∧ if k = true then tc σ H3 fun w H4 => r' y w H4 Q else Q (.bl false) H3) := ⟨id⟩
instance : Step (tAndV ta tb σ H Q) (ta σ H fun x H1 => ∃ c, x = .bl c ∧ if c = true then tb σ H1 Q else Q (.bl false) H1) := ⟨id⟩
instance : Step (tOrV ta tb σ H Q) (ta σ H fun x H1 => ∃ c, x = .bl c ∧ if c = true then Q (.bl true) H1 else tb σ H1 Q) := ⟨id⟩
instance : Step (tNotV ta σ H Q) (ta σ H fun x H1 => ∃ c, x = .bl c ∧ Q (.bl (!c)) H1) := ⟨id⟩
instance {t : TT} : Step (tIf t ta tb σ H Q) (t σ H fun c H1 => if c = true then ta σ H1 Q else tb σ H1 Q) := ⟨id⟩
instance {i : Nat} {v : V} [h : Slot σ i v] : Step (tVar i σ H Q) (Q v H) := ⟨fun q => ⟨v, h.e, q⟩⟩
instance {v : V} : Step (tC v σ H Q) (Q v H) := ⟨id⟩
instance : Step (tOp r ta tb σ H Q) (ta σ H fun x H1 => tb σ H1 fun y H2 => r x y H2 Q) := ⟨id⟩
instance {u : V → Hp → VK → Prop} : Step (tUn u ta σ H Q) (ta σ H fun x H1 => u x H1 Q) := ⟨id⟩
instance {tr : TA} : Step (tCons ta tr σ H QA) (ta σ H fun x H1 => tr σ H1 fun xs H2 => QA (x :: xs) H2) := ⟨id⟩
instance : Step (tNil σ H QA) (QA [] H) := ⟨id⟩
instance {u : List V → Hp → VK → Prop} {t : TA} : Step (tCB u t σ H Q) (t σ H fun vs H1 => u vs H1 Q) := ⟨id⟩
instance {sp : Sp} {E : XK} {t : TA} : Step (tCall sp [] E t σ H Q) (t σ H fun vs H1 => sp vs H1 Q E) := ⟨fun h => by
  have e : (fun (vs : List V) (H1 : Hp) => sp (vs ++ []) H1 Q E) = fun vs H1 => sp vs H1 Q E := by
    funext vs H1
    rw [List.append_nil]
  show t σ H (fun vs H1 => sp (vs ++ []) H1 Q E)
  rw [e]
  exact h⟩
instance {sp : Sp} {E : L2.St → XK} {t : TA} : Step (tCallS sp E t σ H Q) (t σ H fun vs H1 => sp vs H1 Q (E σ)) := ⟨id⟩
instance {t : TA} : Step (tTup t σ H Q) (t σ H fun xs H1 => xs.length ≤ sizeLine ∧ ∀ p, H1 p = none → Q (.ref p) (upd H1 p (.tup xs))) := ⟨id⟩
instance {t : TA} : Step (tLst t σ H Q) (t σ H fun xs H1 => xs.length ≤ sizeLine ∧ ∀ p, H1 p = none → Q (.ref p) (upd H1 p (.lst xs))) := ⟨id⟩
instance {T : String} {u : V → List V → Hp → VK → Prop} {t : TA} : Step (tBM K T u te t σ H Q) (te σ H fun x H1 => tyV K T x H1 ∧ t σ H1 fun xs H2 => u x xs H2 Q) := ⟨id⟩
instance {T : String} {u : V → List V → Hp → VK → Prop} : Step (tBM0 K T u te σ H Q) (te σ H fun x H1 => tyV K T x H1 ∧ u x [] H1 Q) := ⟨id⟩
instance {g : Int → Int → V} {i j : Int} : Step (rI0 g (.int i) (.int j) H Q) (Q (g i j) H) := ⟨s_rI0⟩
instance {C : Int → Int → Prop} {g : Int → Int → V} {i j : Int} : Step (rI C g (.int i) (.int j) H Q) (C i j ∧ Q (g i j) H) := ⟨fun h => s_rI h.1 h.2⟩
instance {g : Int → V} {i : Int} : Step (rU g (.int i) H Q) (Q (g i) H) := ⟨s_rU⟩
instance {i j : Int} : Step (rAddU K (.int i) (.int j) H Q) (Q (.int (i + j)) H) := ⟨s_addI⟩
instance {i j : Str} : Step (rAddU K (.str i) (.str j) H Q) (i.length + j.length ≤ sizeLine ∧ Q (.str (i ++ j)) H) := ⟨fun h => s_addS h.1 h.2⟩
instance {i j : Int} : Step (rEqU K (.int i) (.int j) H Q) (Q (.bl (decide (i = j))) H) := ⟨fun h => s_eqS rfl (by
  have e : decide (V.int i = V.int j) = decide (i = j) := by by_cases z : i = j <;> simp [z]
  rw [e]; exact h)⟩
instance {i j : Str} : Step (rEqU K (.str i) (.str j) H Q) (Q (.bl (decide (i = j))) H) := ⟨fun h => s_eqS rfl (by
  have e : decide (V.str i = V.str j) = decide (i = j) := by by_cases z : i = j <;> simp [z]
  rw [e]; exact h)⟩
instance {i j : Int} : Step (rNeU K (.int i) (.int j) H Q) (Q (.bl (!decide (i = j))) H) := ⟨fun h => s_neS rfl (by
  have e : decide (V.int i = V.int j) = decide (i = j) := by by_cases z : i = j <;> simp [z]
  rw [e]; exact h)⟩
instance {i j : Str} : Step (rNeU K (.str i) (.str j) H Q) (Q (.bl (!decide (i = j))) H) := ⟨fun h => s_neS rfl (by
  have e : decide (V.str i = V.str j) = decide (i = j) := by by_cases z : i = j <;> simp [z]
  rw [e]; exact h)⟩
instance {i j : Bool} : Step (rEqU K (.bl i) (.bl j) H Q) (Q (.bl (decide (i = j))) H) := ⟨fun h => s_eqS rfl (by
  have e : decide (V.bl i = V.bl j) = decide (i = j) := by by_cases z : i = j <;> simp [z]
  rw [e]; exact h)⟩
instance {i j : Bool} : Step (rNeU K (.bl i) (.bl j) H Q) (Q (.bl (!decide (i = j))) H) := ⟨fun h => s_neS rfl (by
  have e : decide (V.bl i = V.bl j) = decide (i = j) := by by_cases z : i = j <;> simp [z]
  rw [e]; exact h)⟩
instance {x : V} : Step (rIsNo x .non H Q) (Q (.bl (decide (x = .non))) H) := ⟨s_isNo⟩
instance {x : V} : Step (rNotNo x .non H Q) (Q (.bl (!decide (x = .non))) H) := ⟨s_notNo⟩
instance {i : Int} : Step (rStrI [.int i] H Q) (i.natAbs.log2 < 1920 ∧ Q (.str (toString i)) H) := ⟨fun h => s_strI h.1 h.2⟩
instance {i : Int} : Step (rAbsI [.int i] H Q) (Q (.int (if i < 0 then -i else i)) H) := ⟨s_absI⟩
instance {z : Str} {A : Prop} : Step (tyV K "str" (.str z) H ∧ A) A := ⟨s_tyS⟩
instance {z : Str} : Step (rLenU K [.str z] H Q) (z.length ≤ sizeLine ∧ Q (.int (z.length : Nat)) H) := ⟨fun h => s_lenS h.1 h.2⟩
instance {wi : TI} {g : TG} {t : TS} : Step (tFor wi g t ⟨nx, rt, bk, ct⟩ σ H) (wi σ H fun J H1 => ForW g t ⟨nx, rt, bk, ct⟩ J σ H1) := ⟨id⟩
instance {ta : TA} {R : It → Hp → Prop} : Step (iRng1 ta σ H R) (ta σ H fun vs H1 => ∃ j : Int, vs = [.int j] ∧ -(2 ^ 62) ≤ j ∧ j < 2 ^ 62 ∧ R (Itr 0 j.toNat) H1) := ⟨id⟩
instance {ta : TA} {R : It → Hp → Prop} : Step (iRng2 ta σ H R) (ta σ H fun vs H1 => ∃ i j : Int, vs = [.int i, .int j] ∧ (-(2 ^ 62) ≤ i ∧ i < 2 ^ 62 ∧ -(2 ^ 62) ≤ j ∧ j < 2 ^ 62) ∧ R (Itr i (j - i).toNat) H1) := ⟨id⟩
instance {j : Int} {g : TG} {t : TS} {D : Ends} : Step (∃ k : Int, [V.int j] = [V.int k] ∧ -(2 ^ 62) ≤ k ∧ k < 2 ^ 62 ∧ ForW g t D (Itr 0 k.toNat) σ H) (-(2 ^ 62) ≤ j ∧ j < 2 ^ 62 ∧ ForW g t D (Itr 0 j.toNat) σ H) := ⟨fun h => s_rng1 h.1 h.2.1 h.2.2⟩
instance {i j : Int} {g : TG} {t : TS} {D : Ends} : Step (∃ a b : Int, [V.int i, V.int j] = [V.int a, V.int b] ∧ (-(2 ^ 62) ≤ a ∧ a < 2 ^ 62 ∧ -(2 ^ 62) ≤ b ∧ b < 2 ^ 62) ∧ ForW g t D (Itr a (b - a).toNat) σ H) ((-(2 ^ 62) ≤ i ∧ i < 2 ^ 62 ∧ -(2 ^ 62) ≤ j ∧ j < 2 ^ 62) ∧ ForW g t D (Itr i (j - i).toNat) σ H) := ⟨fun h => s_rng2 h.1 h.2⟩
instance {j : Int} {g : TG} {tt : TT} {vs : List Nat} : Step (∃ k : Int, [V.int j] = [V.int k] ∧ -(2 ^ 62) ≤ k ∧ k < 2 ^ 62 ∧ LcW g tt te vs σ Q (Itr 0 k.toNat) H) (-(2 ^ 62) ≤ j ∧ j < 2 ^ 62 ∧ LcW g tt te vs σ Q (Itr 0 j.toNat) H) := ⟨fun h => s_rng1c h.1 h.2.1 h.2.2⟩
instance {i j : Int} {g : TG} {tt : TT} {vs : List Nat} : Step (∃ a b : Int, [V.int i, V.int j] = [V.int a, V.int b] ∧ (-(2 ^ 62) ≤ a ∧ a < 2 ^ 62 ∧ -(2 ^ 62) ≤ b ∧ b < 2 ^ 62) ∧ LcW g tt te vs σ Q (Itr a (b - a).toNat) H) ((-(2 ^ 62) ≤ i ∧ i < 2 ^ 62 ∧ -(2 ^ 62) ≤ j ∧ j < 2 ^ 62) ∧ LcW g tt te vs σ Q (Itr i (j - i).toNat) H) := ⟨fun h => s_rng2c h.1 h.2⟩
instance {R : It → Hp → Prop} : Step (iList K te σ H R) (te σ H fun x H1 => ∃ a, x = .ref a ∧ (∃ xs, SqL K H1 a xs) ∧ R (Itl K a) H1) := ⟨id⟩
instance {R : It → Hp → Prop} : Step (iTup K te σ H R) (te σ H fun x H1 => ∃ a, x = .ref a ∧ (∃ xs, SqT K H1 a xs) ∧ R (Itt K a) H1) := ⟨id⟩
instance {wi : TI} {g : TG} {tt : TT} {vs : List Nat} : Step (tLc wi g tt te vs σ H Q) (wi σ H (LcW g tt te vs σ Q)) := ⟨id⟩
instance : Step (tYes σ H QT) (QT true H) := ⟨id⟩
instance {A B : Prop} : Step (if true = true then A else B) A := ⟨iteT⟩
instance {A B : Prop} : Step (if false = true then A else B) B := ⟨iteF⟩
instance {A B : Prop} : Step (if (!true) = true then A else B) B := ⟨iteF⟩
instance {A B : Prop} : Step (if (!false) = true then A else B) A := ⟨iteT⟩
instance {g : TG} {tt : TT} {x : Str} {i : Nat} {J : It} : Step (LcW g tt te (List.map (fun x => x.snd) [(x, i)]) σ Q J H) (LcW g tt te [i] σ Q J H) := ⟨id⟩
instance {g : TG} {tt : TT} {x y : Str} {i j : Nat} {J : It} : Step (LcW g tt te (List.map (fun x => x.snd) [(x, i), (y, j)]) σ Q J H) (LcW g tt te [i, j] σ Q J H) := ⟨id⟩
/-- which built-in class is under which -/
class Kit (a b : String) (r : outParam Bool) : Prop where
  e : kitB a b = some r
instance : Kit "NoneType" "str" false := ⟨by decide +kernel⟩
instance : Kit "NoneType" "int" false := ⟨by decide +kernel⟩
instance : Kit "NoneType" "tuple" false := ⟨by decide +kernel⟩
instance : Kit "NoneType" "list" false := ⟨by decide +kernel⟩
instance : Kit "NoneType" "bool" false := ⟨by decide +kernel⟩
instance : Kit "NoneType" "dict" false := ⟨by decide +kernel⟩
instance : Kit "bool" "str" false := ⟨by decide +kernel⟩
instance : Kit "bool" "int" true := ⟨by decide +kernel⟩
instance : Kit "bool" "tuple" false := ⟨by decide +kernel⟩
instance : Kit "bool" "list" false := ⟨by decide +kernel⟩
instance : Kit "bool" "bool" true := ⟨by decide +kernel⟩
instance : Kit "bool" "dict" false := ⟨by decide +kernel⟩
instance : Kit "int" "str" false := ⟨by decide +kernel⟩
instance : Kit "int" "int" true := ⟨by decide +kernel⟩
instance : Kit "int" "tuple" false := ⟨by decide +kernel⟩
instance : Kit "int" "list" false := ⟨by decide +kernel⟩
instance : Kit "int" "bool" false := ⟨by decide +kernel⟩
instance : Kit "int" "dict" false := ⟨by decide +kernel⟩
instance : Kit "str" "str" true := ⟨by decide +kernel⟩
instance : Kit "str" "int" false := ⟨by decide +kernel⟩
instance : Kit "str" "tuple" false := ⟨by decide +kernel⟩
instance : Kit "str" "list" false := ⟨by decide +kernel⟩
instance : Kit "str" "bool" false := ⟨by decide +kernel⟩
instance : Kit "str" "dict" false := ⟨by decide +kernel⟩
instance : Kit "tuple" "str" false := ⟨by decide +kernel⟩
instance : Kit "tuple" "int" false := ⟨by decide +kernel⟩
instance : Kit "tuple" "tuple" true := ⟨by decide +kernel⟩
instance : Kit "tuple" "list" false := ⟨by decide +kernel⟩
instance : Kit "tuple" "bool" false := ⟨by decide +kernel⟩
instance : Kit "tuple" "dict" false := ⟨by decide +kernel⟩
instance : Kit "list" "str" false := ⟨by decide +kernel⟩
instance : Kit "list" "int" false := ⟨by decide +kernel⟩
instance : Kit "list" "tuple" false := ⟨by decide +kernel⟩
instance : Kit "list" "list" true := ⟨by decide +kernel⟩
instance : Kit "list" "bool" false := ⟨by decide +kernel⟩
instance : Kit "list" "dict" false := ⟨by decide +kernel⟩
instance : Kit "dict" "str" false := ⟨by decide +kernel⟩
instance : Kit "dict" "int" false := ⟨by decide +kernel⟩
instance : Kit "dict" "tuple" false := ⟨by decide +kernel⟩
instance : Kit "dict" "list" false := ⟨by decide +kernel⟩
instance : Kit "dict" "bool" false := ⟨by decide +kernel⟩
instance : Kit "dict" "dict" true := ⟨by decide +kernel⟩
theorem s_isiT {x : V} {a b : String} {r : Bool} [k : Kit a b r] (ty : TyOf K H x (.type a)) (h : Q (.bl r) H) : rIsi K [x, .ty b] H Q := s_isi (.ty b) (.base ty) (kit_ty k.e) h
instance {b : String} {r : Bool} [k : Kit "NoneType" b r] : Step (rIsi K [.non, .ty b] H Q) (Q (.bl r) H) := ⟨s_isiT .non⟩
instance {i : Int} {b : String} {r : Bool} [k : Kit "int" b r] : Step (rIsi K [.int i, .ty b] H Q) (Q (.bl r) H) := ⟨s_isiT (.int i)⟩
instance {i : Bool} {b : String} {r : Bool} [k : Kit "bool" b r] : Step (rIsi K [.bl i, .ty b] H Q) (Q (.bl r) H) := ⟨s_isiT (.bl i)⟩
instance {i : Str} {b : String} {r : Bool} [k : Kit "str" b r] : Step (rIsi K [.str i, .ty b] H Q) (Q (.bl r) H) := ⟨s_isiT (.str i)⟩
theorem s_isiTup {p : Addr} {xs : List V} {b : String} {r : Bool} [k : Kit "tuple" b r] (e : H p = some (.tup xs)) (h : Q (.bl r) H) : rIsi K [.ref p, .ty b] H Q := s_isiT (.tup e) h
theorem s_isiLst {p : Addr} {xs : List V} {b : String} {r : Bool} [k : Kit "list" b r] (e : H p = some (.lst xs)) (h : Q (.bl r) H) : rIsi K [.ref p, .ty b] H Q := s_isiT (.lst e) h
end
end Ol
namespace Ol
open PySem PySem.Spec PyProof.Rows L2
/-! ### more rules by names -/
/-- // and % by any divisor but nought -/
def CDivA (_ j : Int) : Prop := j ≠ 0 ∧ j.natAbs.log2 < 9000
theorem op_fdivA {X : Cx} : OpR X (binaryOp .FloorDiv) (rI CDivA fun i j => .int (i.fdiv j)) := opI fun _ _ _ _ _ _ _ hc q => floordiv_int hc.1 q (.inl (PyProof.noPylong_of_log2 hc.2))
def rDivmodA : List V → Hp → VK → Prop := fun xs H Q => ∃ i j, xs = [.int i, .int j] ∧ CDivA i j ∧ ∀ p, H p = none → Q (.ref p) (upd H p (.tup [.int (i.fdiv j), .int (i.fmod j)]))
theorem call_divmodA {X : Cx} : CallR X (.builtin "divmod") rDivmodA := by
  intro pins s σ H xs us Q I r h
  obtain ⟨i, j, rfl, ⟨h1, h2⟩, q⟩ := h
  have hn : H s.heap.objs.size = none := I.hok.fresh (Nat.le_refl _)
  cases r with
  | cons r1 r2 =>
    cases r2 with
    | cons r2 r3 =>
      cases r3
      obtain ⟨t, rfl⟩ := r1
      obtain ⟨t', rfl⟩ := r2
      refine divmod_int h1 ?_ (.inl (PyProof.noPylong_of_log2 h2))
      refine ⟨.ref s.heap.objs.size, _, ?_, rfl, q _ hn⟩
      refine I.laid (fun b o e => Heap.get?_push_of_some _ e) (Nat.le_refl _) ⟨by simp only [List.length_cons, List.length_nil]; rw [sizeLine_eq]; decide, [.int (i.fdiv j) s.toks, .int (i.fmod j) (s.toks + 1)], .cons ⟨_, rfl⟩ (.cons ⟨_, rfl⟩ .nil), ?_⟩
      exact ⟨_, Heap.get?_push_size s.heap rfl, rfl, 0, rfl⟩
/-- a text times a number -/
def repS (x : Str) (n : Nat) : Str := ⟨(List.replicate n x.cps).foldl (· ++ ·) #[]⟩
theorem rep_size (a : Array Nat) : ∀ (n : Nat) (b : Array Nat), ((List.replicate n a).foldl (· ++ ·) b).size = b.size + n * a.size
  | 0, b => by simp
  | n + 1, b => by
    rw [List.replicate_succ, List.foldl_cons, rep_size a n, Array.size_append, Nat.succ_mul]
    omega
theorem repS_len (z : Str) (n : Nat) : (repS z n).length = n * z.length := by
  have h := rep_size z.cps n #[]
  show ((List.replicate n z.cps).foldl (· ++ ·) #[]).size = n * z.cps.size
  rw [h]
  simp
def rMulS : R2 := fun x y H Q => ∃ z n, x = .str z ∧ y = .int n ∧ 2 ≤ n ∧ 0 < z.length ∧ z.length * n.toNat ≤ 1000000 ∧ Q (.str (repS z n.toNat)) H
theorem op_mulS {X : Cx} : OpR X (binaryOp .Mult) rMulS := by
  intro pins s σ H x y v u Q I rx ry h
  obtain ⟨z, n, rfl, rfl, h2, hz, hl, q⟩ := h
  obtain ⟨t, rfl⟩ := rx
  obtain ⟨t2, rfl⟩ := ry
  have hn : n ≤ 1000000 := by
    have h3 : 1 * n.toNat ≤ z.length * n.toNat := Nat.mul_le_mul_right _ hz
    omega
  have hm : (z.length : Int) ≤ 1000000 := by
    have h3 : z.length * 1 ≤ z.length * n.toNat := Nat.mul_le_mul_left _ (by omega)
    omega
  refine PySem.P.mul_str (by
      have a1 : ¬ n < -(2 ^ 63 : Int) := by omega
      have a2 : ¬ n ≥ (2 ^ 63 : Int) := by omega
      rw [decide_eq_false a1, decide_eq_false a2]; rfl) (fun _ _ => ?_) (fun _ _ => ?_) ?_
  · have h5 : (2 ^ 63 - 1 : Int) / n ≥ 1000001 := by
      refine (Int.le_ediv_iff_mul_le (by omega)).mpr ?_
      omega
    omega
  · have h6 : ¬ z.length * n.toNat > 16777216 := by omega
    exact decide_eq_false (show ¬ z.length * n.toNat > sizeLine by rw [sizeLine_eq]; omega)
  · rw [if_neg (show ¬ n < 1 by omega), if_neg (by
      have h7 : (n == 1) = false := by
        rw [beq_eq_false_iff_ne]; omega
      have h8 : (z.length == 0) = false := by
        rw [beq_eq_false_iff_ne]; omega
      rw [h7, h8]; exact Bool.false_ne_true)]
    refine ⟨?_, .str _, H, I.tok _, ⟨_, rfl⟩, q⟩
    have h9 := repS_len z n.toNat
    rw [Nat.mul_comm] at h9
    show (repS z n.toNat).length ≤ 16777216
    omega
def rMulU : R2 := rOr (rI CMulW fun i j => .int (i * j)) (rOr rMulS rRep)
theorem op_mulU {X : Cx} : OpR X (binaryOp .Mult) rMulU := op_or2 op_mulW (op_or2 op_mulS op_rep)
def rStrU : List V → Hp → VK → Prop := fun xs H Q => rStrI xs H Q ∨ ∃ a, xs = [.str a] ∧ Q (.str a) H
theorem call_strU {X : Cx} : CallR X (.type "str") rStrU := call_or2 call_strI SkE.call_str_str
def rIntU : List V → Hp → VK → Prop := fun xs H Q => ((∃ i, xs = [.int i] ∧ Q (.int i) H) ∨ ∃ k, xs = [.bl k] ∧ Q (.int (if k then 1 else 0)) H) ∨ ∃ a n, xs = [.str a] ∧ PySem.intText? a = some n ∧ a.length ≤ 640 ∧ Q (.int n) H
theorem call_intU {X : Cx} : CallR X (.type "int") rIntU := call_or2 call_int1 call_int_str
def rMax2 : List V → Hp → VK → Prop := fun xs H Q => ∃ i j, xs = [.int i, .int j] ∧ Q (.int (if j > i then j else i)) H
def rMin2 : List V → Hp → VK → Prop := fun xs H Q => ∃ i j, xs = [.int i, .int j] ∧ Q (.int (if j < i then j else i)) H
theorem call_maxP {X : Cx} (hc : X.calm = true := by rfl) : CallR X (.builtin "max") rMax2 := call_max2 hc
theorem call_minP {X : Cx} (hc : X.calm = true := by rfl) : CallR X (.builtin "min") rMin2 := call_min2 hc
theorem call_maxL {X : Cx} {K : PySem.W.Frag} (hc : X.calm = true := by rfl) (hK : X.K = K := by rfl) : CallR X (.builtin "max") (rMax K) := hK ▸ cr_max hc
theorem call_minL {X : Cx} {K : PySem.W.Frag} (hc : X.calm = true := by rfl) (hK : X.K = K := by rfl) : CallR X (.builtin "min") (rMin K) := hK ▸ cr_min hc
theorem call_sumL {X : Cx} {K : PySem.W.Frag} (hc : X.calm = true := by rfl) (hK : X.K = K := by rfl) : CallR X (.builtin "sum") (rSum K) := hK ▸ cr_sum hc
theorem call_sortedL {X : Cx} {K : PySem.W.Frag} (hK : X.K = K := by rfl) : CallR X (.builtin "sorted") (rSortedI K) := hK ▸ cr_sortedI
theorem call_allL {X : Cx} {K : PySem.W.Frag} (hc : X.calm = true := by rfl) (hK : X.K = K := by rfl) : CallR X (.builtin "all") (rAll K) := hK ▸ cr_all hc
theorem call_anyL {X : Cx} {K : PySem.W.Frag} (hc : X.calm = true := by rfl) (hK : X.K = K := by rfl) : CallR X (.builtin "any") (rAny K) := hK ▸ cr_any hc
def rListOf (K : PySem.W.Frag) : List V → Hp → VK → Prop := fun xs H Q => ∃ p ys, xs = [.ref p] ∧ (SqL K H p ys ∨ SqT K H p ys) ∧ ∀ l, H l = none → Q (.ref l) (upd H l (.lst ys))
theorem call_listL {X : Cx} {K : PySem.W.Frag} (hK : X.K = K := by rfl) : CallR X (.type "list") (rListOf K) := hK ▸ call_list_of
def rLtU : R2 := rOr (rI0 fun i j => .bl (decide (i < j))) fun x y H Q => ∃ i j, x = .str i ∧ y = .str j ∧ Q (.bl (decide (i.cps.toList < j.cps.toList))) H
theorem op_ltU {X : Cx} : OpR X (compareOp .Lt) rLtU := op_or2 op_lt op_lt_str
section
variable {K : PySem.W.Frag} {σ : L2.St} {H H' : Hp} {Q : VK}
instance {i j : Int} : Step (rMulU (.int i) (.int j) H Q) (CMulW i j ∧ Q (.int (i * j)) H) := ⟨fun h => .inl ⟨i, j, rfl, rfl, h.1, h.2⟩⟩
instance {z : Str} {n : Int} : Step (rMulU (.str z) (.int n) H Q) ((2 ≤ n ∧ 0 < z.length ∧ z.length * n.toNat ≤ 1000000) ∧ Q (.str (repS z n.toNat)) H) := ⟨fun h => .inr (.inl ⟨z, n, rfl, rfl, h.1.1, h.1.2.1, h.1.2.2, h.2⟩)⟩
theorem s_mulL {p : Addr} {xs : List V} {k : Int} (h : H p = some (.lst xs)) (e : -(2 ^ 63) ≤ k ∧ k < 2 ^ 63 ∧ xs.length * k.toNat ≤ sizeLine) (q : ∀ p, H p = none → Q (.ref p) (upd H p (.lst (List.replicate k.toNat xs).flatten))) : rMulU (.ref p) (.int k) H Q :=
  .inr (.inr ⟨p, k, xs, rfl, rfl, h, e.1, e.2.1, e.2.2, q⟩)
instance {i : Int} : Step (rStrU [.int i] H Q) (i.natAbs.log2 < 1920 ∧ Q (.str (toString i)) H) := ⟨fun h => .inl (s_strI h.1 h.2)⟩
instance {z : Str} : Step (rStrU [.str z] H Q) (Q (.str z) H) := ⟨fun h => .inr ⟨z, rfl, h⟩⟩
instance {i : Int} : Step (rIntU [.int i] H Q) (Q (.int i) H) := ⟨fun h => .inl (.inl ⟨i, rfl, h⟩)⟩
instance {k : Bool} : Step (rIntU [.bl k] H Q) (Q (.int (if k then 1 else 0)) H) := ⟨fun h => .inl (.inr ⟨k, rfl, h⟩)⟩
theorem s_intS {a : Str} {n : Int} (e : PySem.intText? a = some n) (l : a.length ≤ 640) (h : Q (.int n) H) : rIntU [.str a] H Q := .inr ⟨a, n, rfl, e, l, h⟩
instance {i j : Int} : Step (rDivmodA [.int i, .int j] H Q) (CDivA i j ∧ ∀ p, H p = none → Q (.ref p) (upd H p (.tup [.int (i.fdiv j), .int (i.fmod j)]))) := ⟨fun h => ⟨i, j, rfl, h.1, h.2⟩⟩
instance {i j : Int} : Step (rMax2 [.int i, .int j] H Q) (Q (.int (if j > i then j else i)) H) := ⟨fun h => ⟨i, j, rfl, h⟩⟩
instance {i j : Int} : Step (rMin2 [.int i, .int j] H Q) (Q (.int (if j < i then j else i)) H) := ⟨fun h => ⟨i, j, rfl, h⟩⟩
instance {i j : Int} : Step (rLtU (.int i) (.int j) H Q) (Q (.bl (decide (i < j))) H) := ⟨fun h => .inl ⟨i, j, rfl, rfl, h⟩⟩
instance {i j : Str} : Step (rLtU (.str i) (.str j) H Q) (Q (.bl (decide (i.cps.toList < j.cps.toList))) H) := ⟨fun h => .inr ⟨i, j, rfl, rfl, h⟩⟩
theorem s_listL {p : Addr} {xs : List V} (h : SqL K H p xs) (q : ∀ l, H l = none → Q (.ref l) (upd H l (.lst xs))) : rListOf K [.ref p] H Q := ⟨p, xs, rfl, .inl h, q⟩
theorem s_listT {p : Addr} {xs : List V} (h : SqT K H p xs) (q : ∀ l, H l = none → Q (.ref l) (upd H l (.lst xs))) : rListOf K [.ref p] H Q := ⟨p, xs, rfl, .inr h, q⟩
theorem s_sumL {p : Addr} {ns : List Int} (h : SqL K H p (ns.map V.int)) (q : Q (.int ns.sum) H) : rSum K [.ref p] H Q := ⟨p, ns, rfl, h, q⟩
theorem s_sortedL {p : Addr} {ns : List Int} (h : SqL K H p (ns.map V.int)) (q : ∀ (ns' : List Int) (p : Addr), ns'.Perm ns → ns'.Pairwise (· ≤ ·) → H p = none → Q (.ref p) (upd H p (.lst (ns'.map V.int)))) : rSortedI K [.ref p] H Q := ⟨p, ns, rfl, h, q⟩
theorem s_minL {p : Addr} {ns : List Int} (h : SqL K H p (ns.map V.int)) (l : 0 < ns.length) (q : ∀ m, m ∈ ns → (∀ y, y ∈ ns → m ≤ y) → Q (.int m) H) : rMin K [.ref p] H Q := ⟨p, ns, rfl, h, l, q⟩
theorem s_maxL {p : Addr} {ns : List Int} (h : SqL K H p (ns.map V.int)) (l : 0 < ns.length) (q : ∀ m, m ∈ ns → (∀ y, y ∈ ns → y ≤ m) → Q (.int m) H) : rMax K [.ref p] H Q := ⟨p, ns, rfl, h, l, q⟩
/-! slices -/
instance {r : V → Option Int → Option Int → Hp → VK → Prop} {te : TE} {tl th : TO} : Step (tSl r te tl th σ H Q) (te σ H fun x H1 => tl σ H1 fun l H2 => th σ H2 fun u H3 => r x l u H3 Q) := ⟨id⟩
instance {R : Option Int → Hp → Prop} : Step (tNoPart σ H R) (R none H) := ⟨id⟩
instance {t : TE} {R : Option Int → Hp → Prop} : Step (tPart t σ H R) (t σ H fun x H1 => ∃ i, x = .int i ∧ R (some i) H1) := ⟨id⟩
instance {i : Int} {F : Int → Prop} : Step (∃ j, V.int i = .int j ∧ F j) (F i) := ⟨fun h => ⟨i, rfl, h⟩⟩
instance {z : Str} {lo hi : Option Int} : Step (rSlS (.str z) lo hi H Q) (z.length ≤ sizeLine ∧ Q (.str (cutS z lo hi)) H) := ⟨fun h => ⟨z, rfl, h.1, h.2⟩⟩
theorem s_slL {p : Addr} {xs : List V} {lo hi : Option Int} (h : SqL K H p xs) (q : ∀ p, H p = none → Q (.ref p) (upd H p (.lst (cutV xs lo hi)))) : rSlL K (.ref p) lo hi H Q := ⟨p, xs, rfl, h, q⟩
/-! truth -/
instance {b : Bool} {F : Bool → Prop} : Step (∃ k, TruV K (.bl b) H k ∧ F k) (F b) := ⟨fun h => ⟨b, rfl, h⟩⟩
instance {F : Bool → Prop} : Step (∃ k, TruV K .non H k ∧ F k) (F false) := ⟨fun h => ⟨false, rfl, h⟩⟩
/-! in, not in -/
theorem s_inL {neg : Bool} {p : Addr} {xs : List V} {x : V} (h : SqL K H p xs) (hx : flatV x = true) (ha : xs.all flatV = true) (q : Q (.bl (if neg then !inV x xs else inV x xs)) H) : rIn K neg x (.ref p) H Q := ⟨p, xs, rfl, .inl h, hx, ha, q⟩
theorem s_inT {neg : Bool} {p : Addr} {xs : List V} {x : V} (h : SqT K H p xs) (hx : flatV x = true) (ha : xs.all flatV = true) (q : Q (.bl (if neg then !inV x xs else inV x xs)) H) : rIn K neg x (.ref p) H Q := ⟨p, xs, rfl, .inr h, hx, ha, q⟩
/-! what kind a sequence is, wherever it stands -/
theorem ty_sqT {p : Addr} {xs : List V} (h : SqT K H p xs) : TyX K H (.ref p) (.type "tuple") := by
  rcases h with (h | ⟨o, h⟩) | ⟨o, _, _, h, c, _⟩
  · exact .base (.tup h)
  · exact .fTuple h
  · exact .kTuple h c
theorem ty_sqL {p : Addr} {xs : List V} (h : SqL K H p xs) : TyX K H (.ref p) (.type "list") := by
  rcases h with (h | ⟨o, h⟩) | ⟨o, _, _, h, c, _⟩
  · exact .base (.lst h)
  · exact .base (.frz h)
  · exact .kList h c
theorem s_isiSqT {p : Addr} {xs : List V} {b : String} {r : Bool} [k : Kit "tuple" b r] (e : SqT K H p xs) (h : Q (.bl r) H) : rIsi K [.ref p, .ty b] H Q := s_isi (.ty b) (ty_sqT e) (kit_ty k.e) h
theorem s_isiSqL {p : Addr} {xs : List V} {b : String} {r : Bool} [k : Kit "list" b r] (e : SqL K H p xs) (h : Q (.bl r) H) : rIsi K [.ref p, .ty b] H Q := s_isi (.ty b) (ty_sqL e) (kit_ty k.e) h
/-! ### exceptions -/
end
def tRaiseX (W : WX) (C : Value) : TS := fun _ σ H => W C none σ H
theorem ps_raiseX {X : Cx} {W : WX} {x m : Str} {j : Nat} {p p2 pos pos2 : Pos} (hc : X.calm = true) (tk : Takes X W) (h : XCls X.K X.mg x) (hg : Gl X x) (hdb : (x == ("__debug__" : Str)) = false := by decide) :
    PS X (.Raise (some (.Call (.Name x p) [.Constant (.str m) j p2] [] pos)) none pos2) (tRaiseX W (.ref (He.ga X.K x))) := ps_raise hc tk (pmk_x h hg hdb)
def tTry (K : PySem.W.Frag) (c : Value) (i : Nat) (ts : Addr → Value → Option Addr → TS) (Wout : WX) (tb : WX → TS) : TS := fun D σ H => tb (wAs K c i ts Wout D) D σ H
theorem ps_tryX {X : Cx} {x n : Str} {c : Value} {i : Nat} {body suite : List Stmt} {b₀ : Stmt} {np pos pos' : Pos} {tb : WX → TS} {ts : Addr → Value → Option Addr → TS} {Wout : WX} (hs : X.stack = X.env :: X.outer) (hf : X.env.frame = some X.env.locals) (hN : X.N.Nodup) (hi : X.N[i]? = some n) (hln : X.env.kindOf n = some .local) (hc : Names X x c) (tk : Takes X Wout)
    (hb : ∀ (W : WX) (pn : List (Addr × Obj)) (xe : Value → Shared → Prop), Takes (X.tr pn xe) W → PassesOwn (model X.prog X.w) X.A X.env xe → PSs (X.tr pn xe) body (tb W))
    (hsu : ∀ (a : Addr) (oe : Obj) (cls : Value) (d : Option Addr) (pn : List (Addr × Obj)), Zc cls d oe → (∃ vs, oe.data = .fields vs) → PSs (X.suite a ((a, oe) :: pn)) (b₀ :: suite) (ts a cls d)) :
    PS X (.Try body [.ExceptHandler (some (.Name x np)) (some n) (b₀ :: suite) pos'] [] [] pos) (tTry X.K c i ts Wout tb) := ps_try_as hs hf hN hi hln hc tk hb hsu
def ClrNx (nx : L2.St → Hp → Prop) (i : Nat) : L2.St → Hp → Prop := fun σ H => nx (σ.set i none) H
def rIsEg (K : PySem.W.Frag) (cls : Value) (d : Option Addr) (a : Addr) : List V → Hp → VK → Prop := fun xs H Q => ∃ D, cls = .ref D ∧ d = none ∧ ExcC K D ∧ rIsE K D a xs H Q
theorem call_isEg {X : Cx} {K : PySem.W.Frag} {a : Addr} {cls : Value} {d : Option Addr} {oe : Obj} {pn : List (Addr × Obj)} (hz : Zc cls d oe) (hf : ∃ vs, oe.data = .fields vs) (hK : X.K = K := by rfl) : CallR (X.suite a ((a, oe) :: pn)) (.builtin "isinstance") (rIsEg K cls d a) := by
  subst hK
  intro pins s σ H xs us Q I r h
  obtain ⟨D, rfl, rfl, c, h⟩ := h
  exact call_isE c hz hf pins s σ H xs us Q I r h
section
variable {K : PySem.W.Frag} {σ : L2.St} {H H' : Hp} {Q rt : VK} {nx bk ct : L2.St → Hp → Prop}
instance {W : WX} {C : Value} {D : Ends} : Step (tRaiseX W C D σ H) (W C none σ H) := ⟨id⟩
instance {c : Value} {i : Nat} {ts : Addr → Value → Option Addr → TS} {Wout : WX} {tb : WX → TS} {D : Ends} : Step (tTry K c i ts Wout tb D σ H) (tb (wAs K c i ts Wout D) D σ H) := ⟨id⟩
instance {i : Nat} {τ : L2.St} [h : NoneS σ i τ] : Step (ClrNx nx i σ H) (nx τ H) := ⟨fun q => by
  show nx (σ.set i none) H
  rw [h.e]
  exact q⟩
theorem s_catch {c cls : Value} {d : Option Addr} {i : Nat} {f : V → L2.St} {ts : Addr → Value → Option Addr → TS} {Wout : WX} [hs : SetS σ i f] (h : PySem.W.exmOne K cls c = some true)
    (q : ∀ a, H a = none → ts a cls d ⟨ClrNx nx i, rt, ClrNx bk i, ClrNx ct i⟩ (f (.ref a)) H) : WE (wAs K c i ts Wout ⟨nx, rt, bk, ct⟩) σ cls d H :=
  ⟨true, h, fun _ a ha => by
    rw [hs.e]
    exact q a ha, fun h => by cases h⟩
theorem s_isEc {a D C : Addr} {b : Bool} (hc : ExcC K D) (h : PySem.W.kitOne K (.ref D) (.ref C) = some b) (q : Q (.bl b) H) : rIsEg K (.ref D) none a [.ref a, .ref C] H Q :=
  ⟨D, rfl, rfl, hc, .ref C, .ref C, b, rfl, fun u r => by cases r; rfl, h, q⟩
theorem s_isEt {a D : Addr} {n : String} {b : Bool} (hc : ExcC K D) (h : PySem.W.kitOne K (.ref D) (.type n) = some b) (q : Q (.bl b) H) : rIsEg K (.ref D) none a [.ref a, .ty n] H Q :=
  ⟨D, rfl, rfl, hc, .ty n, .type n, b, rfl, fun u r => by cases r; rfl, h, q⟩
end
end Ol

namespace Ol
open PySem PySem.Spec PyProof.Rows L2
/-! ## plain values, their image in the heap -/
inductive D where
  | non | bl (b : Bool) | int (i : Int) | str (x : Str) | tup (xs : List D) | lst (xs : List D) | dT (kvs : List (List Key × D)) | dK (kvs : List (Key × D)) | ty (n : String) | ex (x : String)
abbrev Env := List (Option D)
inductive Res (α : Type) where
  | ok (a : α) (ρ : Env) | exc (x : String) (ρ : Env) | bad
def Res.bind {α β : Type} (r : Res α) (f : α → Env → Res β) : Res β := match r with
  | .ok a ρ => f a ρ
  | .exc x ρ => .exc x ρ
  | .bad => .bad
@[simp] theorem Res.bind_ok {α β : Type} {a : α} {ρ : Env} {f : α → Env → Res β} : (Res.ok a ρ).bind f = f a ρ := id rfl
@[simp] theorem Res.bind_exc {α β : Type} {x : String} {ρ : Env} {f : α → Env → Res β} : (Res.exc x ρ : Res α).bind f = .exc x ρ := id rfl
@[simp] theorem Res.bind_bad {α β : Type} {f : α → Env → Res β} : (Res.bad : Res α).bind f = .bad := id rfl
/-- a list that stands in the written part -/
def LK (K : PySem.W.Frag) (a : Addr) (xs : List V) : Prop := ∃ (o : Obj) (its : Array Value) (n : Nat), K.lookup a = some o ∧ o.cls = .type "list" ∧ o.dict = none ∧ o.data = .seq its n ∧ its.size ≤ sizeLine ∧ Vals xs its.toList
/-- a tuple of the top: its first thing is a text, or its last one none -/
def constV (xs : List V) : Bool := (match xs.head? with
  | some (.str _) => true
  | _ => false) || (match xs.getLast? with
  | some .non => true
  | _ => false)
/-- a tuple: one that is tracked, or one of the top -/
def TupR (K : PySem.W.Frag) (H : Hp) (a : Addr) (xs : List V) : Prop := H a = some (.tup xs) ∨ (constV xs = true ∧ ∀ H' : Hp, SqT K H' a xs)
theorem TupR.sq {K : PySem.W.Frag} {H : Hp} {a : Addr} {xs : List V} (h : TupR K H a xs) : SqT K H a xs := h.elim (fun h => .inl (.inl h)) fun h => h.2 H
mutual
inductive Rep (K : PySem.W.Frag) (H : Hp) : V → D → List Addr → Prop
  | non : Rep K H .non .non []
  | bl (b : Bool) : Rep K H (.bl b) (.bl b) []
  | int (i : Int) : Rep K H (.int i) (.int i) []
  | str (x : Str) : Rep K H (.str x) (.str x) []
  | ty (n : String) : Rep K H (.ty n) (.ty n) []
  | ex (a : Addr) (x : String) : Rep K H (.ref a) (.ex x) []
  | tup {a : Addr} {xs : List V} {ds : List D} {S : List Addr} : TupR K H a xs → Reps K H xs ds S → Rep K H (.ref a) (.tup ds) S
  | lst {a : Addr} {xs : List V} {ds : List D} {S : List Addr} : Rd H a (.lst xs) → Reps K H xs ds S → Rep K H (.ref a) (.lst ds) (a :: S)
  | lstK {a : Addr} {xs : List V} {ds : List D} {S : List Addr} : LK K a xs → Reps K H xs ds S → Rep K H (.ref a) (.lst ds) S
  | dT {a : Addr} {kvs : List (List Key × V)} {ds : List (List Key × D)} {S : List Addr} : Rd H a (.dT kvs) → RepT K H kvs ds S → Rep K H (.ref a) (.dT ds) (a :: S)
  | dK {a : Addr} {kvs : List (Key × V)} {ds : List (Key × D)} {S : List Addr} : Rd H a (.dK kvs) → RepK K H kvs ds S → Rep K H (.ref a) (.dK ds) (a :: S)
inductive Reps (K : PySem.W.Frag) (H : Hp) : List V → List D → List Addr → Prop
  | nil : Reps K H [] [] []
  | cons {v : V} {vs : List V} {d : D} {ds : List D} {S S2 : List Addr} : Rep K H v d S → Reps K H vs ds S2 → Reps K H (v :: vs) (d :: ds) (S ++ S2)
inductive RepT (K : PySem.W.Frag) (H : Hp) : List (List Key × V) → List (List Key × D) → List Addr → Prop
  | nil : RepT K H [] [] []
  | cons {k : List Key} {v : V} {vs : List (List Key × V)} {d : D} {ds : List (List Key × D)} {S S2 : List Addr} : Rep K H v d S → RepT K H vs ds S2 → RepT K H ((k, v) :: vs) ((k, d) :: ds) (S ++ S2)
inductive RepK (K : PySem.W.Frag) (H : Hp) : List (Key × V) → List (Key × D) → List Addr → Prop
  | nil : RepK K H [] [] []
  | cons {k : Key} {v : V} {vs : List (Key × V)} {d : D} {ds : List (Key × D)} {S S2 : List Addr} : Rep K H v d S → RepK K H vs ds S2 → RepK K H ((k, v) :: vs) ((k, d) :: ds) (S ++ S2)
end
/-- tuples stay -/
def Tk (H H' : Hp) : Prop := ∀ a xs, H a = some (.tup xs) → H' a = some (.tup xs)
theorem Tk.refl {H : Hp} : Tk H H := fun _ _ h => h
theorem Tk.trans {H H1 H2 : Hp} (a : Tk H H1) (b : Tk H1 H2) : Tk H H2 := fun p xs h => b p xs (a p xs h)
theorem Tk.same {H H1 : Hp} (e : Same H H1) : Tk H H1 := fun _ _ h => e _ _ h
theorem Tk.sq {K : PySem.W.Frag} {H H1 : Hp} {a : Addr} {xs : List V} (e : Tk H H1) (h : TupR K H a xs) : TupR K H1 a xs := h.elim (fun h => .inl (e _ _ h)) .inr
section
variable {K : PySem.W.Frag} {H H' : Hp}
theorem rd_keep {a : Addr} {u : HO} (e : ∀ o, H a = some o → H' a = some o) (h : Rd H a u) : Rd H' a u := h.elim (fun h => .inl (e _ h)) fun ⟨o, h⟩ => .inr ⟨o, e _ h⟩
mutual
theorem Rep.mono (t : Tk H H') : ∀ {d : D} {v : V} {S : List Addr}, Rep K H v d S → (∀ a ∈ S, ∀ o, H a = some o → H' a = some o) → Rep K H' v d S
  | .non, _, _, h, _ => by cases h; exact .non
  | .bl _, _, _, h, _ => by cases h; exact .bl _
  | .int _, _, _, h, _ => by cases h; exact .int _
  | .str _, _, _, h, _ => by cases h; exact .str _
  | .ty _, _, _, h, _ => by cases h; exact .ty _
  | .ex _, _, _, h, _ => by cases h; exact .ex _ _
  | .tup _, _, _, h, e => by
    cases h with
    | tup h1 h2 => exact .tup (t.sq h1) (Reps.mono t h2 e)
  | .lst _, _, _, h, e => by
    cases h with
    | lst h1 h2 => exact .lst (rd_keep (e _ List.mem_cons_self) h1) (Reps.mono t h2 fun a ha => e a (List.mem_cons_of_mem _ ha))
    | lstK h1 h2 => exact .lstK h1 (Reps.mono t h2 e)
  | .dT _, _, _, h, e => by
    cases h with
    | dT h1 h2 => exact .dT (rd_keep (e _ List.mem_cons_self) h1) (RepT.mono t h2 fun a ha => e a (List.mem_cons_of_mem _ ha))
  | .dK _, _, _, h, e => by
    cases h with
    | dK h1 h2 => exact .dK (rd_keep (e _ List.mem_cons_self) h1) (RepK.mono t h2 fun a ha => e a (List.mem_cons_of_mem _ ha))
theorem Reps.mono (t : Tk H H') : ∀ {ds : List D} {vs : List V} {S : List Addr}, Reps K H vs ds S → (∀ a ∈ S, ∀ o, H a = some o → H' a = some o) → Reps K H' vs ds S
  | [], _, _, h, _ => by cases h; exact .nil
  | _ :: _, _, _, h, e => by
    cases h with
    | cons h1 h2 => exact .cons (Rep.mono t h1 fun a ha => e a (List.mem_append_left _ ha)) (Reps.mono t h2 fun a ha => e a (List.mem_append_right _ ha))
theorem RepT.mono (t : Tk H H') : ∀ {ds : List (List Key × D)} {vs : List (List Key × V)} {S : List Addr}, RepT K H vs ds S → (∀ a ∈ S, ∀ o, H a = some o → H' a = some o) → RepT K H' vs ds S
  | [], _, _, h, _ => by cases h; exact .nil
  | (_, _) :: _, _, _, h, e => by
    cases h with
    | cons h1 h2 => exact .cons (Rep.mono t h1 fun a ha => e a (List.mem_append_left _ ha)) (RepT.mono t h2 fun a ha => e a (List.mem_append_right _ ha))
theorem RepK.mono (t : Tk H H') : ∀ {ds : List (Key × D)} {vs : List (Key × V)} {S : List Addr}, RepK K H vs ds S → (∀ a ∈ S, ∀ o, H a = some o → H' a = some o) → RepK K H' vs ds S
  | [], _, _, h, _ => by cases h; exact .nil
  | (_, _) :: _, _, _, h, e => by
    cases h with
    | cons h1 h2 => exact .cons (Rep.mono t h1 fun a ha => e a (List.mem_append_left _ ha)) (RepK.mono t h2 fun a ha => e a (List.mem_append_right _ ha))
end
theorem Rep.same {d : D} {v : V} {S : List Addr} (e : Same H H') (h : Rep K H v d S) : Rep K H' v d S := h.mono (Tk.same e) fun a _ o q => e a o q
theorem Rep.tk {d : D} {v : V} (e : Tk H H') (h : Rep K H v d []) : Rep K H' v d [] := h.mono e fun _ z => by cases z
theorem Reps.same {d : List D} {v : List V} {S : List Addr} (e : Same H H') (h : Reps K H v d S) : Reps K H' v d S := h.mono (Tk.same e) fun a _ o q => e a o q
theorem Reps.tk {d : List D} {v : List V} (e : Tk H H') (h : Reps K H v d []) : Reps K H' v d [] := h.mono e fun _ z => by cases z
mutual
/-- what a footprint names stands in the heap -/
theorem Rep.dom : ∀ {d : D} {v : V} {S : List Addr}, Rep K H v d S → ∀ a ∈ S, H a ≠ none
  | .non, _, _, h => by cases h; exact fun _ z => by cases z
  | .bl _, _, _, h => by cases h; exact fun _ z => by cases z
  | .int _, _, _, h => by cases h; exact fun _ z => by cases z
  | .str _, _, _, h => by cases h; exact fun _ z => by cases z
  | .ty _, _, _, h => by cases h; exact fun _ z => by cases z
  | .ex _, _, _, h => by cases h; exact fun _ z => by cases z
  | .tup _, _, _, h => by
    cases h with
    | tup h1 h2 => exact Reps.dom h2
  | .lst _, _, _, h => by
    cases h with
    | lst h1 h2 =>
      intro a ha
      rcases List.mem_cons.mp ha with rfl | ha
      · rcases h1 with h1 | ⟨o, h1⟩ <;> rw [h1] <;> simp
      · exact Reps.dom h2 a ha
    | lstK h1 h2 => exact Reps.dom h2
  | .dT _, _, _, h => by
    cases h with
    | dT h1 h2 =>
      intro a ha
      rcases List.mem_cons.mp ha with rfl | ha
      · rcases h1 with h1 | ⟨o, h1⟩ <;> rw [h1] <;> simp
      · exact RepT.dom h2 a ha
  | .dK _, _, _, h => by
    cases h with
    | dK h1 h2 =>
      intro a ha
      rcases List.mem_cons.mp ha with rfl | ha
      · rcases h1 with h1 | ⟨o, h1⟩ <;> rw [h1] <;> simp
      · exact RepK.dom h2 a ha
theorem Reps.dom : ∀ {ds : List D} {vs : List V} {S : List Addr}, Reps K H vs ds S → ∀ a ∈ S, H a ≠ none
  | [], _, _, h => by cases h; exact fun _ z => by cases z
  | _ :: _, _, _, h => by
    cases h with
    | cons h1 h2 => exact fun a ha => (List.mem_append.mp ha).elim (Rep.dom h1 a) (Reps.dom h2 a)
theorem RepT.dom : ∀ {ds : List (List Key × D)} {vs : List (List Key × V)} {S : List Addr}, RepT K H vs ds S → ∀ a ∈ S, H a ≠ none
  | [], _, _, h => by cases h; exact fun _ z => by cases z
  | (_, _) :: _, _, _, h => by
    cases h with
    | cons h1 h2 => exact fun a ha => (List.mem_append.mp ha).elim (Rep.dom h1 a) (RepT.dom h2 a)
theorem RepK.dom : ∀ {ds : List (Key × D)} {vs : List (Key × V)} {S : List Addr}, RepK K H vs ds S → ∀ a ∈ S, H a ≠ none
  | [], _, _, h => by cases h; exact fun _ z => by cases z
  | (_, _) :: _, _, _, h => by
    cases h with
    | cons h1 h2 => exact fun a ha => (List.mem_append.mp ha).elim (Rep.dom h1 a) (RepK.dom h2 a)
end
end
/-! nothing in it that may be written -/
mutual
def imm : D → Bool
  | .non | .bl _ | .int _ | .str _ | .ty _ | .ex _ => true
  | .tup xs => imms xs
  | .lst _ | .dT _ | .dK _ => false
def imms : List D → Bool
  | [] => true
  | x :: xs => imm x && imms xs
end
section
variable {K : PySem.W.Frag} {H H' : Hp}
mutual
theorem Rep.im : ∀ {d : D} {v : V} {S : List Addr}, Rep K H v d S → imm d = true → S = []
  | .non, _, _, h, _ => by cases h; rfl
  | .bl _, _, _, h, _ => by cases h; rfl
  | .int _, _, _, h, _ => by cases h; rfl
  | .str _, _, _, h, _ => by cases h; rfl
  | .ty _, _, _, h, _ => by cases h; rfl
  | .ex _, _, _, h, _ => by cases h; rfl
  | .tup ds, _, _, h, e => by
    cases h with
    | tup h1 h2 => exact Reps.im h2 (by rw [imm] at e; exact e)
  | .lst _, _, _, _, e => by rw [imm] at e; cases e
  | .dT _, _, _, _, e => by rw [imm] at e; cases e
  | .dK _, _, _, _, e => by rw [imm] at e; cases e
theorem Reps.im : ∀ {ds : List D} {vs : List V} {S : List Addr}, Reps K H vs ds S → imms ds = true → S = []
  | [], _, _, h, _ => by cases h; rfl
  | d :: ds, _, _, h, e => by
    cases h with
    | cons h1 h2 =>
      rw [imms, Bool.and_eq_true] at e
      rw [Rep.im h1 e.1, Reps.im h2 e.2]
      rfl
end
theorem Reps.length : ∀ {ds : List D} {vs : List V} {S : List Addr}, Reps K H vs ds S → vs.length = ds.length
  | [], _, _, h => by cases h; rfl
  | d :: ds, _, _, h => by
    cases h with
    | cons h1 h2 => simp [Reps.length h2]
theorem Reps.get : ∀ {ds : List D} {vs : List V} {S : List Addr} {i : Nat} {d : D}, Reps K H vs ds S → ds[i]? = some d → ∃ v T, vs[i]? = some v ∧ Rep K H v d T ∧ ∀ a ∈ T, a ∈ S
  | [], _, _, i, _, h, e => by simp at e
  | d :: ds, _, _, 0, _, h, e => by
    cases h with
    | cons h1 h2 =>
      simp at e
      subst e
      exact ⟨_, _, rfl, h1, fun a ha => List.mem_append_left _ ha⟩
  | d :: ds, _, _, i + 1, _, h, e => by
    cases h with
    | cons h1 h2 =>
      obtain ⟨v, T, q1, q2, q3⟩ := Reps.get (i := i) h2 (by simpa using e)
      exact ⟨v, T, by simpa using q1, q2, fun a ha => List.mem_append_right _ (q3 a ha)⟩
theorem Reps.append : ∀ {ds es : List D} {vs ws : List V} {S T : List Addr}, Reps K H vs ds S → Reps K H ws es T → Reps K H (vs ++ ws) (ds ++ es) (S ++ T)
  | [], _, _, _, _, _, h, h2 => by cases h; exact h2
  | d :: ds, _, _, _, _, _, h, h2 => by
    cases h with
    | cons a b =>
      rw [List.append_assoc]
      exact .cons a (Reps.append b h2)
theorem Reps.one {d : D} {v : V} {S : List Addr} (h : Rep K H v d S) : Reps K H [v] [d] S := by
  have := Reps.cons h .nil
  rwa [List.append_nil] at this
end
/-! ## the frame: what a def may change -/
structure Frm (W : Addr → Prop) (H H' : Hp) : Prop where
  keep : ∀ a o, ¬ W a → H a = some o → H' a = some o
  dom : ∀ a, H' a = none → H a = none
  tup : Tk H H'
theorem Frm.refl {W : Addr → Prop} {H : Hp} : Frm W H H := ⟨fun _ _ _ h => h, fun _ h => h, Tk.refl⟩
theorem Frm.trans {W : Addr → Prop} {H H1 H2 : Hp} (a : Frm W H H1) (b : Frm W H1 H2) : Frm W H H2 := ⟨fun p o n h => b.keep p o n (a.keep p o n h), fun p h => a.dom p (b.dom p h), a.tup.trans b.tup⟩
theorem Frm.same {W : Addr → Prop} {H H1 : Hp} (e : Same H H1) : Frm W H H1 := ⟨fun p o _ h => e p o h, fun p h => (by
  cases q : H p with
  | none => rfl
  | some o => rw [e p o q] at h; cases h), Tk.same e⟩
/-- the heap grows, tuples stay -/
structure Grw (H H' : Hp) : Prop where
  tk : Tk H H'
  dom : ∀ a, H' a = none → H a = none
theorem Grw.refl {H : Hp} : Grw H H := ⟨Tk.refl, fun _ h => h⟩
theorem Grw.trans {H H1 H2 : Hp} (a : Grw H H1) (b : Grw H1 H2) : Grw H H2 := ⟨a.tk.trans b.tk, fun p h => a.dom p (b.dom p h)⟩
theorem Frm.grw {W : Addr → Prop} {H H1 : Hp} (f : Frm W H H1) : Grw H H1 := ⟨f.tup, f.dom⟩
theorem Grw.same {H H1 : Hp} (e : Same H H1) : Grw H H1 := (Frm.same (W := fun _ => False) e).grw
/-- not locked -/
def NF (H : Hp) (a : Addr) : Prop := ∀ o u, H a ≠ some (.frz o u)
/-- a list or a dict that may be written -/
def Top (K : PySem.W.Frag) (H : Hp) (v : V) (d : D) (S : List Addr) : Prop := match d with
  | .lst ds => ∃ (p : Addr) (xs : List V) (S' : List Addr), v = .ref p ∧ S = p :: S' ∧ H p = some (.lst xs) ∧ Reps K H xs ds S'
  | .dT ds => ∃ (p : Addr) (xs : List (List Key × V)) (S' : List Addr), v = .ref p ∧ S = p :: S' ∧ H p = some (.dT xs) ∧ RepT K H xs ds S'
  | .dK ds => ∃ (p : Addr) (xs : List (Key × V)) (S' : List Addr), v = .ref p ∧ S = p :: S' ∧ H p = some (.dK xs) ∧ RepK K H xs ds S'
  | _ => True
theorem Top.imm {K : PySem.W.Frag} {H : Hp} {v : V} {d : D} {S : List Addr} (h : imm d = true) : Top K H v d S := by
  cases d with
  | lst _ => cases h
  | dT _ => cases h
  | dK _ => cases h
  | _ => exact trivial
theorem Top.mono {K : PySem.W.Frag} {H H' : Hp} {v : V} {d : D} {S : List Addr} (t : Tk H H') (h : Top K H v d S) (k : ∀ a ∈ S, ∀ o, H a = some o → H' a = some o) : Top K H' v d S := by
  cases d with
  | lst _ =>
    obtain ⟨p, xs, S', rfl, rfl, h1, h2⟩ := h
    exact ⟨p, xs, S', rfl, rfl, k p List.mem_cons_self _ h1, h2.mono t fun a ha => k a (List.mem_cons_of_mem _ ha)⟩
  | dT _ =>
    obtain ⟨p, xs, S', rfl, rfl, h1, h2⟩ := h
    exact ⟨p, xs, S', rfl, rfl, k p List.mem_cons_self _ h1, h2.mono t fun a ha => k a (List.mem_cons_of_mem _ ha)⟩
  | dK _ =>
    obtain ⟨p, xs, S', rfl, rfl, h1, h2⟩ := h
    exact ⟨p, xs, S', rfl, rfl, k p List.mem_cons_self _ h1, h2.mono t fun a ha => k a (List.mem_cons_of_mem _ ha)⟩
  | _ => exact trivial
theorem Top.same {K : PySem.W.Frag} {H H' : Hp} {v : V} {d : D} {S : List Addr} (e : Same H H') (h : Top K H v d S) : Top K H' v d S := h.mono (Tk.same e) fun a _ o q => e a o q
structure C0 where
  K : PySem.W.Frag
  /-- 0: shared; 1: this def's own; 2: handed in to be written -/
  O : Nat → Nat
  B : Hp
  /-- slots that keep their address -/
  ios : List Nat
  ioa : Nat → Addr
  fr : Bool
  /-- slots whose thing is locked: their footprint stays -/
  lks : List Nat
  lkt : Nat → List Addr
/-- a slot's thing -/
def RepO (K : PySem.W.Frag) (H : Hp) (v : Option V) (o : Option D) (S : List Addr) : Prop := match o with
  | none => S = []
  | some d => ∃ x, v = some x ∧ Rep K H x d S
structure SIT (c : C0) (H0 : Hp) (W Al : Addr → Prop) (T : Nat → List Addr) (σ : L2.St) (H : Hp) (ρ : Env) : Prop where
  frm : Frm W H0 H
  base : ∀ a, H a = none → c.B a = none
  len : σ.length = ρ.length
  rep : ∀ i, RepO c.K H (σ[i]?).join (ρ[i]?).join (T i)
  dis : ∀ i j, c.O j ≠ 0 → i ≠ j → ∀ a ∈ T i, a ∉ T j
  nod : ∀ j, c.O j ≠ 0 → (T j).Nodup
  all : ∀ i, i ∉ c.lks → ∀ a ∈ T i, H0 a = none ∨ Al a
  own : ∀ j, c.O j ≠ 0 → ∀ a ∈ T j, (H0 a = none ∨ W a) ∧ NF H a
  top : ∀ j, c.O j ≠ 0 → ∀ v d, σ[j]? = some (some v) → (ρ[j]?).join = some d → Top c.K H v d (T j)
  loc : ∀ j, c.O j = 1 → ∀ a ∈ T j, c.B a = none
  io : ∀ i ∈ c.ios, σ[i]? = some (some (.ref (c.ioa i)))
  io2 : ∀ j, c.O j = 2 → ∀ ds, ρ[j]? = some (some ds) → ∃ es, ds = .lst es ∧ imms es = true
  lk : ∀ i ∈ c.lks, (i ∈ c.ios ∧ c.O i = 0) ∧ T i = c.lkt i
/-- what is wanted of an exception -/
abbrev WXC := WX
/-- S is new -/
structure Nw (H H' : Hp) (S : List Addr) : Prop where
  nod : S.Nodup
  new : ∀ a ∈ S, H a = none
  nf : ∀ a ∈ S, NF H' a
theorem Nw.nil {H H' : Hp} : Nw H H' [] := ⟨List.nodup_nil, fun _ z => (by cases z), fun _ z => (by cases z)⟩
structure NewA (H H' : Hp) (T : Nat → List Addr) (S : List Addr) : Prop where
  nw : Nw H H' S
  dis : ∀ i, ∀ a ∈ S, a ∉ T i
theorem NewA.nil {H H' : Hp} {T : Nat → List Addr} : NewA H H' T [] := ⟨Nw.nil, fun _ _ z => (by cases z)⟩
structure New (K : PySem.W.Frag) (H H' : Hp) (T : Nat → List Addr) (v : V) (d : D) (S : List Addr) : Prop where
  nw : Nw H H' S
  top : Top K H' v d S
  dis : ∀ i, ∀ a ∈ S, a ∉ T i
theorem New.nil {K : PySem.W.Frag} {H H' : Hp} {T : Nat → List Addr} {v : V} {d : D} (h : imm d = true) : New K H H' T v d [] := ⟨Nw.nil, Top.imm h, fun _ _ z => (by cases z)⟩
def SE (c : C0) (W : WX) (te : TE) (e : Env → Res D) (pu fr : Bool) : Prop :=
  ∀ (H0 : Hp) (Wd Al : Addr → Prop) (T : Nat → List Addr) (σ : L2.St) (H : Hp) (ρ : Env) (Q : VK), SIT c H0 Wd Al T σ H ρ →
    (match e ρ with
      | .ok d ρ' => ∀ v H' T' S, SIT c H0 Wd Al T' σ H' ρ' → Rep c.K H' v d S → Grw H H' → (∀ i, ∀ a ∈ T' i, a ∈ T i ∨ H a = none) → (pu = true → ρ' = ρ ∧ Same H H' ∧ T' = T) → (fr = true → New c.K H H' T' v d S) → Q v H'
      | .exc x ρ' => ∀ H' T', SIT c H0 Wd Al T' σ H' ρ' → W (.ref (He.ga c.K x)) none σ H'
      | .bad => False) → te σ H Q
inductive Out where
  | nx (ρ : Env) | ret (d : D) (ρ : Env) | brk (ρ : Env) | ct (ρ : Env) | exc (x : String) (ρ : Env) | bad
end Ol
namespace Ol
open PySem PySem.Spec PyProof.Rows L2
section
variable {c : C0} {H0 : Hp} {Wd Al : Addr → Prop} {T : Nat → List Addr} {σ : L2.St} {H H' : Hp} {ρ : Env}
theorem SIT.doms (I : SIT c H0 Wd Al T σ H ρ) : ∀ i, ∀ a ∈ T i, H a ≠ none := fun i a ha => by
  have r := I.rep i
  cases e : (ρ[i]?).join with
  | none =>
    rw [e] at r
    rw [show T i = [] from r] at ha
    cases ha
  | some d =>
    rw [e] at r
    obtain ⟨x, _, r⟩ := r
    exact r.dom a ha
theorem Rep.sam {K : PySem.W.Frag} {d : D} {v : V} {S : List Addr} (e : Same H H') (h : Rep K H v d S) : Rep K H' v d S := h.same e
theorem RepO.same {K : PySem.W.Frag} {v : Option V} {d : Option D} {S : List Addr} (e : Same H H') (h : RepO K H v d S) : RepO K H' v d S := by
  cases d with
  | none => exact h
  | some d => obtain ⟨x, e1, r⟩ := h; exact ⟨x, e1, r.same e⟩
theorem NF.same {a : Addr} (h : NF H a) (e : Same H H') (n : H a ≠ none) : NF H' a := fun o u k => by
  cases q : H a with
  | none => exact n q
  | some z =>
    have := e a z q
    rw [k] at this
    cases this
    exact h o u q
theorem SIT.same (I : SIT c H0 Wd Al T σ H ρ) (e : Same H H') : SIT c H0 Wd Al T σ H' ρ where
  frm := I.frm.trans (Frm.same e)
  base := fun a h => I.base a ((Grw.same e).dom a h)
  len := I.len
  rep := fun i => (I.rep i).same e
  dis := I.dis
  nod := I.nod
  all := I.all
  own := fun j hj a ha => ⟨(I.own j hj a ha).1, (I.own j hj a ha).2.same e (I.doms j a ha)⟩
  top := fun j hj v d e1 e2 => (I.top j hj v d e1 e2).same e
  loc := I.loc
  io := I.io
  io2 := I.io2
  lk := I.lk
theorem SIT.slot (I : SIT c H0 Wd Al T σ H ρ) {i : Nat} {d : D} (h : (ρ[i]?).join = some d) : ∃ v, σ[i]? = some (some v) ∧ Rep c.K H v d (T i) := by
  have r := I.rep i
  rw [h] at r
  obtain ⟨x, e, r⟩ := r
  refine ⟨x, ?_, r⟩
  cases q : σ[i]? with
  | none => rw [q] at e; cases e
  | some o => rw [q] at e; exact congrArg some e
end
/-! ## expressions -/
def eV (i : Nat) : Env → Res D := fun ρ => match (ρ[i]?).join with
  | some d => .ok d ρ
  | none => .bad
def eC (d : D) : Env → Res D := fun ρ => .ok d ρ
section
variable {c : C0} {W : WX} {ta tb te : TE} {a b e : Env → Res D} {pa pb fa fb pu fr : Bool}
theorem se_var (i : Nat) : SE c W (tVar i) (eV i) true false := fun H0 Wd Al T σ H ρ Q I h => by
  unfold eV at h
  cases e : (ρ[i]?).join with
  | none => rw [e] at h; exact h.elim
  | some d =>
    rw [e] at h
    obtain ⟨v, hv, r⟩ := I.slot e
    exact ⟨v, hv, h v H T _ I r Grw.refl (fun _ _ z => .inl z) (fun _ => ⟨rfl, Same.refl _, rfl⟩) fun z => by cases z⟩
theorem se_c {v : V} {d : D} (r : ∀ H, Rep c.K H v d []) (im : imm d = true := by rfl) : SE c W (tC v) (eC d) true true := fun H0 Wd Al T σ H ρ Q I h =>
  h v H T [] I (r H) Grw.refl (fun _ _ z => .inl z) (fun _ => ⟨rfl, Same.refl _, rfl⟩) fun _ => New.nil im
theorem se_int {i : Int} : SE c W (tC (.int i)) (eC (.int i)) true true := se_c fun _ => .int i
theorem se_str {i : Str} : SE c W (tC (.str i)) (eC (.str i)) true true := se_c fun _ => .str i
theorem se_bl {i : Bool} : SE c W (tC (.bl i)) (eC (.bl i)) true true := se_c fun _ => .bl i
theorem se_non : SE c W (tC .non) (eC .non) true true := se_c fun _ => .non
theorem SE.weak (h : SE c W te e pu fr) : SE c W te e false fr := fun H0 Wd Al T σ H ρ Q I q => h H0 Wd Al T σ H ρ Q I (by
  cases z : e ρ with
  | bad => rw [z] at q; exact q
  | exc x ρ' => rw [z] at q; exact q
  | ok d ρ' => rw [z] at q; exact fun v H' T' S i r g nw _ f => q v H' T' S i r g nw (fun z => by cases z) f)
theorem SE.old (h : SE c W te e pu fr) : SE c W te e pu false := fun H0 Wd Al T σ H ρ Q I q => h H0 Wd Al T σ H ρ Q I (by
  cases z : e ρ with
  | bad => rw [z] at q; exact q
  | exc x ρ' => rw [z] at q; exact q
  | ok d ρ' => rw [z] at q; exact fun v H' T' S i r g nw p _ => q v H' T' S i r g nw p fun z => by cases z)
/-- looked at: nothing in it that may be written -/
def eChk (e : Env → Res D) : Env → Res D := fun ρ => (e ρ).bind fun d ρ' => if imm d = true then .ok d ρ' else .bad
theorem se_chk (h : SE c W te e pu fr) : SE c W te (eChk e) pu true := fun H0 Wd Al T σ H ρ Q I q => h H0 Wd Al T σ H ρ Q I (by
  unfold eChk at q
  cases z : e ρ with
  | bad => rw [z] at q; exact q
  | exc x ρ' => rw [z] at q; exact q
  | ok d ρ' =>
    rw [z] at q
    intro v H' T' S i r g nw p f
    rw [Res.bind_ok] at q
    cases im : imm d with
    | false => rw [im] at q; exact q.elim
    | true =>
      rw [im, if_pos rfl] at q
      have e0 := r.im im
      subst e0
      exact q v H' T' [] i r g nw p fun _ => New.nil im)
/-! a rule of two values -/
def OpS (K : PySem.W.Frag) (r : R2) (f : D → D → Option D) (fr : Bool) : Prop :=
  ∀ (H : Hp) (x y : V) (d e z : D) (S S2 : List Addr) (Q : VK), Rep K H x d S → Rep K H y e S2 → f d e = some z → (∀ v H' U, Rep K H' v z U → Same H H' → (fr = true → Nw H H' U ∧ Top K H' v z U) → Q v H') → r x y H Q
def optR (o : Option D) (ρ : Env) : Res D := match o with
  | some d => .ok d ρ
  | none => .bad
def eBin (chk : Bool) (f : D → D → Option D) (a b : Env → Res D) : Env → Res D := fun ρ => (a ρ).bind fun x ρ1 => if (chk && !imm x) = true then .bad else (b ρ1).bind fun y ρ2 => optR (f x y) ρ2
theorem se_two {R : V → V → Hp → VK → Prop} {f : D → D → Option D} {chk : Bool} (ho : OpS c.K R f fr) (ha : SE c W ta a pa fa) (hb : SE c W tb b pb fb) (hc : (chk || pb) = true) :
    SE c W (fun σ H Q => ta σ H fun x H1 => tb σ H1 fun y H2 => R x y H2 Q) (eBin chk f a b) (pa && pb) fr := fun H0 Wd Al T σ H ρ Q I q => ha H0 Wd Al T σ H ρ _ I (by
  unfold eBin at q
  cases z : a ρ with
  | bad => rw [z] at q; exact q
  | exc x ρ' => rw [z] at q; exact q
  | ok d ρ1 =>
    rw [z, Res.bind_ok] at q
    intro v H1 T1 S I1 r1 g1 nw1 p1 f1
    by_cases hk : (chk && !imm d) = true
    · rw [if_pos hk] at q; exact q.elim
    · rw [if_neg hk] at q
      refine hb H0 Wd Al T1 σ H1 ρ1 _ I1 ?_
      cases z2 : b ρ1 with
      | bad => rw [z2] at q; exact q
      | exc x ρ' => rw [z2] at q; exact q
      | ok e ρ2 =>
        rw [z2, Res.bind_ok] at q
        intro u H2 T2 S2 I2 r2 g2 nw2 p2 f2
        unfold optR at q
        cases z3 : f d e with
        | none => rw [z3] at q; exact q.elim
        | some w =>
          rw [z3] at q
          have r1' : Rep c.K H2 v d S := by
            cases hpb : pb with
            | true => exact r1.same (p2 hpb).2.1
            | false =>
              rw [hpb, Bool.or_false] at hc
              subst hc
              have im : imm d = true := by simpa using hk
              have e0 := r1.im im
              subst e0
              exact r1.tk g2.tk
          refine ho H2 v u d e w S S2 Q r1' r2 z3 fun y H3 U r3 s3 f3 => ?_
          refine q y H3 T2 U (I2.same s3) r3 ((g1.trans g2).trans (Grw.same s3)) (fun i a ha => ?_) (fun hp => ?_) fun hf => ?_
          · rcases nw2 i a ha with k | k
            · exact nw1 i a k
            · exact .inr (g1.dom a k)
          · rw [Bool.and_eq_true] at hp
            obtain ⟨e1, s1, t1⟩ := p1 hp.1
            obtain ⟨e2, s2, t2⟩ := p2 hp.2
            exact ⟨e2.trans e1, (s1.trans s2).trans s3, t2.trans t1⟩
          · obtain ⟨⟨n, nn, nf⟩, tp⟩ := f3 hf
            exact ⟨⟨n, fun a ha => g1.dom a (g2.dom a (nn a ha)), nf⟩, tp, fun i a ha k => I2.doms i a k (nn a ha)⟩)
theorem se_op {R : R2} {f : D → D → Option D} {chk : Bool} (ho : OpS c.K R f fr) (ha : SE c W ta a pa fa) (hb : SE c W tb b pb fb) (hc : (chk || pb) = true) : SE c W (tOp R ta tb) (eBin chk f a b) (pa && pb) fr := se_two ho ha hb hc
/-! a rule of one value -/
def UnS (K : PySem.W.Frag) (R : V → Hp → VK → Prop) (f : D → Option D) (fr : Bool) : Prop :=
  ∀ (H : Hp) (x : V) (d z : D) (S : List Addr) (Q : VK), Rep K H x d S → f d = some z → (∀ v H' U, Rep K H' v z U → Same H H' → (fr = true → Nw H H' U ∧ Top K H' v z U) → Q v H') → R x H Q
def eUn (f : D → Option D) (a : Env → Res D) : Env → Res D := fun ρ => (a ρ).bind fun x ρ1 => optR (f x) ρ1
theorem se_one {R : V → Hp → VK → Prop} {f : D → Option D} (ho : UnS c.K R f fr) (ha : SE c W ta a pa fa) :
    SE c W (fun σ H Q => ta σ H fun x H1 => R x H1 Q) (eUn f a) pa fr := fun H0 Wd Al T σ H ρ Q I q => ha H0 Wd Al T σ H ρ _ I (by
  unfold eUn at q
  cases z : a ρ with
  | bad => rw [z] at q; exact q
  | exc x ρ' => rw [z] at q; exact q
  | ok d ρ1 =>
    rw [z, Res.bind_ok] at q
    intro v H1 T1 S I1 r1 g1 nw1 p1 f1
    unfold optR at q
    cases z3 : f d with
    | none => rw [z3] at q; exact q.elim
    | some w =>
      rw [z3] at q
      refine ho H1 v d w S Q r1 z3 fun y H3 U r3 s3 f3 => ?_
      refine q y H3 T1 U (I1.same s3) r3 (g1.trans (Grw.same s3)) nw1 (fun hp => ?_) fun hf => ?_
      · obtain ⟨e1, s1, t1⟩ := p1 hp
        exact ⟨e1, s1.trans s3, t1⟩
      · obtain ⟨⟨n, nn, nf⟩, tp⟩ := f3 hf
        exact ⟨⟨n, fun a ha => g1.dom a (nn a ha), nf⟩, tp, fun i a ha k => I1.doms i a k (nn a ha)⟩)
theorem se_un {R : V → Hp → VK → Prop} {f : D → Option D} (ho : UnS c.K R f fr) (ha : SE c W ta a pa fa) : SE c W (tUn R ta) (eUn f a) pa fr := se_one (R := R) ho ha
end
/-! arguments -/
def SA (c : C0) (W : WX) (ta : TA) (a : Env → Res (List D)) (pu fr : Bool) : Prop :=
  ∀ (H0 : Hp) (Wd Al : Addr → Prop) (T : Nat → List Addr) (σ : L2.St) (H : Hp) (ρ : Env) (Q : List V → Hp → Prop), SIT c H0 Wd Al T σ H ρ →
    (match a ρ with
      | .ok ds ρ' => ∀ vs H' T' S, SIT c H0 Wd Al T' σ H' ρ' → Reps c.K H' vs ds S → Grw H H' → (∀ i, ∀ a ∈ T' i, a ∈ T i ∨ H a = none) → (pu = true → ρ' = ρ ∧ Same H H' ∧ T' = T) → (fr = true → NewA H H' T' S) → Q vs H'
      | .exc x ρ' => ∀ H' T', SIT c H0 Wd Al T' σ H' ρ' → W (.ref (He.ga c.K x)) none σ H'
      | .bad => False) → ta σ H Q
def aNil : Env → Res (List D) := fun ρ => .ok [] ρ
def aCons (chk : Bool) (a : Env → Res D) (as : Env → Res (List D)) : Env → Res (List D) := fun ρ => (a ρ).bind fun x ρ1 => if (chk && !imm x) = true then .bad else (as ρ1).bind fun xs ρ2 => .ok (x :: xs) ρ2
/-- a list that is handed in to be written -/
def aIo (i : Nat) (as : Env → Res (List D)) : Env → Res (List D) := fun ρ => match (ρ[i]?).join with
  | none => .bad
  | some _ => (as ρ).bind fun xs ρ2 => match (ρ2[i]?).join with
    | none => .bad
    | some x => .ok (x :: xs) ρ2
section
variable {c : C0} {W : WX} {ta tb te : TE} {tt : TA} {a b e : Env → Res D} {as : Env → Res (List D)} {pa pb fa fb pu fr : Bool}
theorem sa_nil : SA c W tNil aNil true true := fun H0 Wd Al T σ H ρ Q I h => h [] H T [] I .nil Grw.refl (fun _ _ z => .inl z) (fun _ => ⟨rfl, Same.refl _, rfl⟩) fun _ => NewA.nil
theorem sa_cons {chk : Bool} (ha : SE c W ta a pa fa) (hb : SA c W tt as pb fb) (hc : (chk || pb) = true) : SA c W (tCons ta tt) (aCons chk a as) (pa && pb) (fa && fb) := fun H0 Wd Al T σ H ρ Q I q => ha H0 Wd Al T σ H ρ _ I (by
  unfold aCons at q
  cases z : a ρ with
  | bad => rw [z] at q; exact q
  | exc x ρ' => rw [z] at q; exact q
  | ok d ρ1 =>
    rw [z, Res.bind_ok] at q
    intro v H1 T1 S I1 r1 g1 nw1 p1 f1
    by_cases hk : (chk && !imm d) = true
    · rw [if_pos hk] at q; exact q.elim
    · rw [if_neg hk] at q
      refine hb H0 Wd Al T1 σ H1 ρ1 _ I1 ?_
      cases z2 : as ρ1 with
      | bad => rw [z2] at q; exact q
      | exc x ρ' => rw [z2] at q; exact q
      | ok es ρ2 =>
        rw [z2, Res.bind_ok] at q
        intro us H2 T2 S2 I2 r2 g2 nw2 p2 f2
        have r1' : Rep c.K H2 v d S ∧ ((∀ a ∈ S, NF H1 a) → ∀ a ∈ S, NF H2 a) := by
          cases hpb : pb with
          | true => exact ⟨r1.same (p2 hpb).2.1, fun h a ha => (h a ha).same (p2 hpb).2.1 (r1.dom a ha)⟩
          | false =>
            rw [hpb, Bool.or_false] at hc
            subst hc
            have im : imm d = true := by simpa using hk
            have e0 := r1.im im
            subst e0
            exact ⟨r1.tk g2.tk, fun _ _ z => (by cases z)⟩
        obtain ⟨r1', nf1⟩ := r1'
        refine q (v :: us) H2 T2 (S ++ S2) I2 (.cons r1' r2) (g1.trans g2) (fun i a ha => ?_) (fun hp => ?_) fun hf => ?_
        · rcases nw2 i a ha with k | k
          · exact nw1 i a k
          · exact .inr (g1.dom a k)
        · rw [Bool.and_eq_true] at hp
          obtain ⟨e1, s1, t1⟩ := p1 hp.1
          obtain ⟨e2, s2, t2⟩ := p2 hp.2
          exact ⟨e2.trans e1, s1.trans s2, t2.trans t1⟩
        · rw [Bool.and_eq_true] at hf
          obtain ⟨⟨n1, m1, k1⟩, _, d1⟩ := f1 hf.1
          obtain ⟨⟨n2, m2, k2⟩, d2⟩ := f2 hf.2
          refine ⟨⟨List.nodup_append.mpr ⟨n1, n2, fun a ha b hb e => ?_⟩, fun a ha => ?_, fun a ha => ?_⟩, fun i a ha k => ?_⟩
          · subst e
            exact r1.dom a ha (m2 a hb)
          · exact (List.mem_append.mp ha).elim (m1 a) fun k => g1.dom a (m2 a k)
          · exact (List.mem_append.mp ha).elim (nf1 k1 a) (k2 a)
          · rcases List.mem_append.mp ha with ha | ha
            · rcases nw2 i a k with z | z
              · exact d1 i a ha z
              · exact r1.dom a ha z
            · exact d2 i a ha k)
theorem sa_io (i : Nat) (hb : SA c W tt as pb fb) : SA c W (tCons (tVar i) tt) (aIo i as) pb false := fun H0 Wd Al T σ H ρ Q I q => by
  unfold aIo at q
  cases e : (ρ[i]?).join with
  | none => rw [e] at q; exact q.elim
  | some d0 =>
    rw [e] at q
    obtain ⟨v, hv, r⟩ := I.slot e
    refine ⟨v, hv, hb H0 Wd Al T σ H ρ _ I ?_⟩
    cases z2 : as ρ with
    | bad => rw [z2] at q; exact q
    | exc x ρ' => rw [z2] at q; exact q
    | ok es ρ2 =>
      rw [z2, Res.bind_ok] at q
      intro us H2 T2 S2 I2 r2 g2 nw2 p2 f2
      cases e2 : (ρ2[i]?).join with
      | none => rw [e2] at q; exact q.elim
      | some d =>
        rw [e2] at q
        obtain ⟨v2, hv2, r3⟩ := I2.slot e2
        have ev : v2 = v := by rw [hv] at hv2; exact (Option.some.inj (Option.some.inj hv2)).symm
        subst ev
        exact q (v2 :: us) H2 T2 (T2 i ++ S2) I2 (.cons r3 r2) g2 nw2 p2 fun z => by cases z
/-! displays -/
def eTup (as : Env → Res (List D)) : Env → Res D := fun ρ => (as ρ).bind fun xs ρ1 => if xs.length ≤ 1000 then .ok (.tup xs) ρ1 else .bad
def eLst (as : Env → Res (List D)) : Env → Res D := fun ρ => (as ρ).bind fun xs ρ1 => if xs.length ≤ 1000 then .ok (.lst xs) ρ1 else .bad
theorem se_tup (ha : SA c W tt as pa fa) : SE c W (tTup tt) (eTup as) pa fa := fun H0 Wd Al T σ H ρ Q I q => ha H0 Wd Al T σ H ρ _ I (by
  unfold eTup at q
  cases z : as ρ with
  | bad => rw [z] at q; exact q
  | exc x ρ' => rw [z] at q; exact q
  | ok ds ρ1 =>
    rw [z, Res.bind_ok] at q
    intro vs H1 T1 S I1 r1 g1 nw1 p1 f1
    by_cases hl : ds.length ≤ 1000
    · rw [if_pos hl] at q
      refine ⟨sz_le (by rw [r1.length]; omega), fun p hp => ?_⟩
      have s := Same.new (o := HO.tup vs) hp
      refine q (.ref p) _ T1 S (I1.same s) (.tup (.inl upd_same) (r1.same s)) (g1.trans (Grw.same s)) nw1 (fun hpu => ?_) fun hf => ?_
      · obtain ⟨e1, s1, t1⟩ := p1 hpu
        exact ⟨e1, s1.trans s, t1⟩
      · obtain ⟨⟨n1, m1, k1⟩, d1⟩ := f1 hf
        exact ⟨⟨n1, m1, fun a ha => (k1 a ha).same s (r1.dom a ha)⟩, trivial, d1⟩
    · rw [if_neg hl] at q; exact q.elim)
theorem se_lst (ha : SA c W tt as pa fa) : SE c W (tLst tt) (eLst as) pa fa := fun H0 Wd Al T σ H ρ Q I q => ha H0 Wd Al T σ H ρ _ I (by
  unfold eLst at q
  cases z : as ρ with
  | bad => rw [z] at q; exact q
  | exc x ρ' => rw [z] at q; exact q
  | ok ds ρ1 =>
    rw [z, Res.bind_ok] at q
    intro vs H1 T1 S I1 r1 g1 nw1 p1 f1
    by_cases hl : ds.length ≤ 1000
    · rw [if_pos hl] at q
      refine ⟨sz_le (by rw [r1.length]; omega), fun p hp => ?_⟩
      have s := Same.new (o := HO.lst vs) hp
      refine q (.ref p) _ T1 (p :: S) (I1.same s) (.lst (.inl upd_same) (r1.same s)) (g1.trans (Grw.same s)) nw1 (fun hpu => ?_) fun hf => ?_
      · obtain ⟨e1, s1, t1⟩ := p1 hpu
        exact ⟨e1, s1.trans s, t1⟩
      · obtain ⟨⟨n1, m1, k1⟩, d1⟩ := f1 hf
        refine ⟨⟨List.nodup_cons.mpr ⟨fun k => r1.dom p k hp, n1⟩, fun a ha => ?_, fun a ha => ?_⟩, ⟨p, vs, S, rfl, rfl, upd_same, r1.same s⟩, fun i a ha k => ?_⟩
        · rcases List.mem_cons.mp ha with rfl | ha
          · exact g1.dom _ hp
          · exact m1 a ha
        · rcases List.mem_cons.mp ha with rfl | ha
          · intro o u k
            rw [upd_same] at k
            cases k
          · exact (k1 a ha).same s (r1.dom a ha)
        · rcases List.mem_cons.mp ha with rfl | ha
          · exact I1.doms i _ k hp
          · exact d1 i a ha k
    · rw [if_neg hl] at q; exact q.elim)
end
end Ol
namespace Ol
open PySem PySem.Spec PyProof.Rows L2
/-! ## operators over plain values -/
@[simp] theorem imm_non : imm .non = true := id rfl
@[simp] theorem imm_bl {b : Bool} : imm (.bl b) = true := id rfl
@[simp] theorem imm_int {b : Int} : imm (.int b) = true := id rfl
@[simp] theorem imm_str {b : Str} : imm (.str b) = true := id rfl
@[simp] theorem imm_ty {b : String} : imm (.ty b) = true := id rfl
@[simp] theorem imm_ex {b : String} : imm (.ex b) = true := id rfl
@[simp] theorem imm_tup {b : List D} : imm (.tup b) = imms b := by rw [imm]
@[simp] theorem imm_lst {b : List D} : imm (.lst b) = false := by rw [imm]
@[simp] theorem imm_dT {b : List (List Key × D)} : imm (.dT b) = false := by rw [imm]
@[simp] theorem imm_dK {b : List (Key × D)} : imm (.dK b) = false := by rw [imm]
@[simp] theorem imms_nil : imms [] = true := id rfl
@[simp] theorem imms_cons {x : D} {xs : List D} : imms (x :: xs) = (imm x && imms xs) := id rfl
theorem imms_all : ∀ {xs : List D}, imms xs = xs.all imm
  | [] => rfl
  | x :: xs => by rw [imms, List.all_cons, imms_all]
@[simp] theorem imms_append {xs ys : List D} : imms (xs ++ ys) = (imms xs && imms ys) := by rw [imms_all, imms_all, imms_all, List.all_append]
theorem imms_map {α : Type} {f : α → D} (h : ∀ a, imm (f a) = true) (xs : List α) : imms (xs.map f) = true := by
  rw [imms_all, List.all_map, List.all_eq_true]
  exact fun a _ => h a
theorem imms_of {xs : List D} (h : ∀ x ∈ xs, imm x = true) : imms xs = true := by rw [imms_all, List.all_eq_true]; exact h
theorem imms_mem {xs : List D} (h : imms xs = true) {x : D} (m : x ∈ xs) : imm x = true := by rw [imms_all, List.all_eq_true] at h; exact h x m
/-- not too great to be multiplied -/
def sm (i : Int) : Bool := decide (i.natAbs < 2 ^ 20000)
theorem sm_of {i : Int} (n : Nat) (h : i.natAbs < 2 ^ n) (l : n ≤ 20000) : sm i = true := decide_eq_true (Nat.lt_of_lt_of_le h (Nat.pow_le_pow_right (by decide) l))
def small (i : Int) : Bool := decide (i.natAbs < 2 ^ 1900)
theorem small_of {i : Int} (n : Nat) (h : i.natAbs < 2 ^ n) (l : n ≤ 1900) : small i = true := decide_eq_true (Nat.lt_of_lt_of_le h (Nat.pow_le_pow_right (by decide) l))
section
variable {K : PySem.W.Frag} {H : Hp}
theorem rep_int {v : V} {i : Int} {S : List Addr} (h : Rep K H v (.int i) S) : v = .int i ∧ S = [] := by cases h; exact ⟨rfl, rfl⟩
theorem rep_str {v : V} {i : Str} {S : List Addr} (h : Rep K H v (.str i) S) : v = .str i ∧ S = [] := by cases h; exact ⟨rfl, rfl⟩
theorem rep_bl {v : V} {i : Bool} {S : List Addr} (h : Rep K H v (.bl i) S) : v = .bl i ∧ S = [] := by cases h; exact ⟨rfl, rfl⟩
theorem rep_non {v : V} {S : List Addr} (h : Rep K H v .non S) : v = .non ∧ S = [] := by cases h; exact ⟨rfl, rfl⟩
theorem rep_tup {v : V} {ds : List D} {S : List Addr} (h : Rep K H v (.tup ds) S) : ∃ a xs, v = .ref a ∧ SqT K H a xs ∧ Reps K H xs ds S := by
  cases h with
  | tup h1 h2 => exact ⟨_, _, rfl, h1.sq, h2⟩
theorem rep_tupR {v : V} {ds : List D} {S : List Addr} (h : Rep K H v (.tup ds) S) : ∃ a xs, v = .ref a ∧ TupR K H a xs ∧ Reps K H xs ds S := by
  cases h with
  | tup h1 h2 => exact ⟨_, _, rfl, h1, h2⟩
theorem rep_lst {v : V} {ds : List D} {S : List Addr} (h : Rep K H v (.lst ds) S) : ∃ a xs S', v = .ref a ∧ SqL K H a xs ∧ Reps K H xs ds S' ∧ ((S = a :: S' ∧ Rd H a (.lst xs)) ∨ (S = S' ∧ LK K a xs)) := by
  cases h with
  | lst h1 h2 => exact ⟨_, _, _, rfl, .inl h1, h2, .inl ⟨rfl, h1⟩⟩
  | lstK h1 h2 => exact ⟨_, _, _, rfl, .inr h1, h2, .inr ⟨rfl, h1⟩⟩
/-! scalars are told at once -/
def PureR (r : R2) (f : D → D → Option D) : Prop := ∀ (K : PySem.W.Frag) (H : Hp) (x y : V) (d e z : D) (S S2 : List Addr) (Q : VK), Rep K H x d S → Rep K H y e S2 → f d e = some z → ∃ v, imm z = true ∧ (∀ H', Rep K H' v z []) ∧ (Q v H → r x y H Q)
theorem ops_pure {r : R2} {f : D → D → Option D} (h : PureR r f) : OpS K r f true := fun H x y d e z S S2 Q r1 r2 e1 q => by
  obtain ⟨v, im, hv, k⟩ := h K H x y d e z S S2 Q r1 r2 e1
  exact k (q v H [] (hv H) (Same.refl _) fun _ => ⟨Nw.nil, Top.imm im⟩)
theorem ops_pureK {r : R2} {f : D → D → Option D} (h : ∀ (H : Hp) (x y : V) (d e z : D) (S S2 : List Addr) (Q : VK), Rep K H x d S → Rep K H y e S2 → f d e = some z → ∃ v, imm z = true ∧ (∀ H', Rep K H' v z []) ∧ (Q v H → r x y H Q)) : OpS K r f true := fun H x y d e z S S2 Q r1 r2 e1 q => by
  obtain ⟨v, im, hv, k⟩ := h H x y d e z S S2 Q r1 r2 e1
  exact k (q v H [] (hv H) (Same.refl _) fun _ => ⟨Nw.nil, Top.imm im⟩)
theorem ops_or {r r2 : R2} {f g : D → D → Option D} {fr : Bool} (h : OpS K r f fr) (h2 : OpS K r2 g fr) : OpS K (rOr r r2) (fun x y => (f x y).or (g x y)) fr := fun H x y d e z S S2 Q a b e1 q => by
  have e1 : (f d e).or (g d e) = some z := e1
  cases z1 : f d e with
  | some w =>
    rw [z1] at e1
    exact .inl (h H x y d e z S S2 Q a b (by rw [z1]; exact e1) q)
  | none =>
    rw [z1] at e1
    exact .inr (h2 H x y d e z S S2 Q a b e1 q)
end
def addD : D → D → Option D
  | .int i, .int j => some (.int (i + j))
  | .str i, .str j => if i.length + j.length ≤ 16777216 then some (.str (i ++ j)) else none
  | .lst xs, .lst ys => if xs.length + ys.length ≤ 16777216 ∧ imms xs = true ∧ imms ys = true then some (.lst (xs ++ ys)) else none
  | .tup xs, .tup ys => if xs.length + ys.length ≤ 16777216 ∧ imms xs = true ∧ imms ys = true then some (.tup (xs ++ ys)) else none
  | _, _ => none
theorem ops_add {K : PySem.W.Frag} : OpS K (rAddU K) addD true := fun H x y d e z S S2 Q r1 r2 e1 q => by
  unfold addD at e1
  split at e1
  · obtain ⟨rfl, rfl⟩ := rep_int r1
    obtain ⟨rfl, rfl⟩ := rep_int r2
    cases e1
    exact s_addI (q _ H [] (.int _) (Same.refl _) fun _ => ⟨Nw.nil, Top.imm rfl⟩)
  · obtain ⟨rfl, rfl⟩ := rep_str r1
    obtain ⟨rfl, rfl⟩ := rep_str r2
    split at e1
    · rename_i h
      cases e1
      exact s_addS (sz_le h) (q _ H [] (.str _) (Same.refl _) fun _ => ⟨Nw.nil, Top.imm rfl⟩)
    · cases e1
  · obtain ⟨a, xs, S1', rfl, h1, h2, _⟩ := rep_lst r1
    obtain ⟨b, ys, S2', rfl, h3, h4, _⟩ := rep_lst r2
    split at e1
    · rename_i h
      cases e1
      obtain ⟨hl, i1, i2⟩ := h
      have e3 := h2.im i1
      have e4 := h4.im i2
      subst e3 e4
      refine s_addL h1 h3 (sz_le (by rw [h2.length, h4.length]; exact hl)) fun p hp => ?_
      have s := Same.new (o := HO.lst (xs ++ ys)) hp
      have hh := (h2.append h4).same s
      exact q _ _ [p] (.lst (.inl upd_same) hh) s fun _ => ⟨⟨by simp, fun a ha => (by simp at ha; subst ha; exact hp), fun a ha => (by simp at ha; subst ha; intro o u k; rw [upd_same] at k; cases k)⟩, p, xs ++ ys, [], rfl, rfl, upd_same, hh⟩
    · cases e1
  · obtain ⟨a, xs, rfl, h1, h2⟩ := rep_tupR r1
    obtain ⟨b, ys, rfl, h3, h4⟩ := rep_tupR r2
    split at e1
    · rename_i h
      cases e1
      obtain ⟨hl, i1, i2⟩ := h
      have e3 := h2.im i1
      have e4 := h4.im i2
      subst e3 e4
      refine .inr (.inr (.inr ⟨a, b, xs, ys, rfl, rfl, h1.sq, h3.sq, sz_le (by rw [h2.length, h4.length]; exact hl), fun e => ?_, fun e e' => ?_, fun e e' p hp => ?_⟩))
      · subst e
        refine q _ H [] ?_ (Same.refl _) fun _ => ⟨Nw.nil, trivial⟩
        have := (h2.append h4)
        exact .tup h3 this
      · subst e'
        refine q _ H [] ?_ (Same.refl _) fun _ => ⟨Nw.nil, trivial⟩
        have := (h2.append h4)
        rw [List.append_nil] at this
        exact .tup h1 this
      · have s := Same.new (o := HO.tup (xs ++ ys)) hp
        have hh := (h2.append h4).same s
        exact q _ _ [] (.tup (.inl upd_same) hh) s fun _ => ⟨Nw.nil, trivial⟩
    · cases e1
  · cases e1
def intD (f : Int → Int → Option D) : D → D → Option D
  | .int i, .int j => f i j
  | _, _ => none
def subD : D → D → Option D
  | .int i, .int j => some (.int (i - j))
  | _, _ => none
theorem ops_sub {K : PySem.W.Frag} : OpS K (rI0 fun i j => .int (i - j)) subD true := ops_pure fun K H x y d e z S S2 Q r1 r2 e1 => by
  unfold subD at e1
  split at e1
  · obtain ⟨rfl, rfl⟩ := rep_int r1
    obtain ⟨rfl, rfl⟩ := rep_int r2
    cases e1
    exact ⟨_, rfl, fun _ => .int _, fun q => s_rI0 q⟩
  · cases e1
def mulD : D → D → Option D
  | .int i, .int j => if sm i = true ∧ sm j = true then some (.int (i * j)) else none
  | .str s, .int n => if 2 ≤ n ∧ 0 < s.length ∧ s.length * n.toNat ≤ 1000000 then some (.str (repS s n.toNat)) else none
  | _, _ => none
def divD : D → D → Option D
  | .int i, .int j => if 0 < j ∧ small j = true then some (.int (i / j)) else if j ≠ 0 ∧ small j = true then some (.int (i.fdiv j)) else none
  | _, _ => none
theorem cdivA_of {i j : Int} (h : j ≠ 0) (s : small j = true) : CDivA i j := by
  refine ⟨h, ?_⟩
  have h2 : j.natAbs < 2 ^ 1900 := of_decide_eq_true s
  have := PySem.Flt.log2_lt_of (by decide) h2
  omega
theorem ops_div {K : PySem.W.Frag} : OpS K (rI CDivA fun i j => .int (i.fdiv j)) divD true := ops_pure fun K H x y d e z S S2 Q r1 r2 e1 => by
  unfold divD at e1
  split at e1
  · obtain ⟨rfl, rfl⟩ := rep_int r1
    obtain ⟨rfl, rfl⟩ := rep_int r2
    split at e1
    · rename_i h
      cases e1
      exact ⟨_, rfl, fun _ => .int _, fun q => s_rI (cdivA_of (by omega) h.2) (by rw [Int.fdiv_eq_ediv_of_nonneg _ (by omega)]; exact q)⟩
    · split at e1
      · rename_i h
        cases e1
        exact ⟨_, rfl, fun _ => .int _, fun q => s_rI (cdivA_of h.1 h.2) q⟩
      · cases e1
  · cases e1
theorem ops_mul {K : PySem.W.Frag} : OpS K rMulU mulD true := ops_pure fun K H x y d e z S S2 Q r1 r2 e1 => by
  unfold mulD at e1
  split at e1
  · obtain ⟨rfl, rfl⟩ := rep_int r1
    obtain ⟨rfl, rfl⟩ := rep_int r2
    split at e1
    · rename_i h
      cases e1
      exact ⟨_, rfl, fun _ => .int _, fun q => .inl (s_rI (wide_mul (of_decide_eq_true h.1) (of_decide_eq_true h.2) (by decide) (by decide) (by decide)) q)⟩
    · cases e1
  · obtain ⟨rfl, rfl⟩ := rep_str r1
    obtain ⟨rfl, rfl⟩ := rep_int r2
    split at e1
    · rename_i h
      cases e1
      exact ⟨_, rfl, fun _ => .str _, fun q => .inr (.inl ⟨_, _, rfl, rfl, h.1, h.2.1, h.2.2, q⟩)⟩
    · cases e1
  · cases e1
def modD : D → D → Option D
  | .int i, .int j => if 0 < j then some (.int (i % j)) else if j ≠ 0 then some (.int (i.fmod j)) else none
  | _, _ => none
theorem ops_mod {K : PySem.W.Frag} : OpS K (rI (fun _ j => j ≠ 0) fun i j => .int (i.fmod j)) modD true := ops_pure fun K H x y d e z S S2 Q r1 r2 e1 => by
  unfold modD at e1
  split at e1
  · obtain ⟨rfl, rfl⟩ := rep_int r1
    obtain ⟨rfl, rfl⟩ := rep_int r2
    split at e1
    · rename_i h
      cases e1
      exact ⟨_, rfl, fun _ => .int _, fun q => s_rI (show _ ≠ _ by omega) (by rw [Int.fmod_eq_emod_of_nonneg _ (by omega)]; exact q)⟩
    · split at e1
      · rename_i h
        cases e1
        exact ⟨_, rfl, fun _ => .int _, fun q => s_rI h q⟩
      · cases e1
  · cases e1
def powD : D → D → Option D
  | .int i, .int j => if (0 ≤ j ∧ j ≤ 1000) ∧ (-(2 ^ 64) < i ∧ i < 2 ^ 64) then some (.int (i ^ j.toNat)) else none
  | _, _ => none
theorem ops_pow {K : PySem.W.Frag} : OpS K (rI CPow fun i j => .int (i ^ j.toNat)) powD true := ops_pure fun K H x y d e z S S2 Q r1 r2 e1 => by
  unfold powD at e1
  split at e1
  · obtain ⟨rfl, rfl⟩ := rep_int r1
    obtain ⟨rfl, rfl⟩ := rep_int r2
    split at e1
    · rename_i h
      cases e1
      exact ⟨_, rfl, fun _ => .int _, fun q => s_rI ⟨h.1.1, by omega, by omega⟩ q⟩
    · cases e1
  · cases e1
/-! comparisons -/
mutual
def pd : D → PyData
  | .non => .none
  | .bl b => .bool b
  | .int i => .int i
  | .str x => .str x
  | .tup xs => .tuple (pds xs)
  | .lst xs => .list (pds xs)
  | .dT _ => .dict []
  | .ty _ => .dict []
  | .ex _ => .dict []
  | .dK _ => .dict []
def pds : List D → List PyData
  | [] => []
  | x :: xs => pd x :: pds xs
end
theorem pds_map : ∀ {xs : List D}, pds xs = xs.map pd
  | [] => rfl
  | x :: xs => by rw [pds, List.map_cons, pds_map]
section
variable {K : PySem.W.Frag} {H : Hp}
mutual
theorem Rep.dp : ∀ {d : D} {v : V} {S : List Addr}, Rep K H v d S → (pd d).canLay0 = true → Dp K H v (pd d)
  | .non, _, _, h, _ => by cases h; rw [pd]; exact .non
  | .bl _, _, _, h, _ => by cases h; rw [pd]; exact .bl _
  | .int _, _, _, h, _ => by cases h; rw [pd]; exact .int _
  | .str _, _, _, h, _ => by cases h; rw [pd]; exact .str _
  | .tup _, _, _, h, e => by
    rw [pd] at e ⊢
    rw [PyData.canLay0] at e
    cases h with
    | tup h1 h2 => exact .tup h1.sq (Reps.dp h2 e)
  | .lst _, _, _, h, e => by
    rw [pd] at e ⊢
    rw [PyData.canLay0] at e
    cases h with
    | lst h1 h2 => exact .lst (.inl h1) (Reps.dp h2 e)
    | lstK h1 h2 => exact .lst (.inr h1) (Reps.dp h2 e)
  | .dT _, _, _, h, e => by rw [pd, PyData.canLay0] at e; cases e
  | .ty _, _, _, h, e => by rw [pd, PyData.canLay0] at e; cases e
  | .ex _, _, _, h, e => by rw [pd, PyData.canLay0] at e; cases e
  | .dK _, _, _, h, e => by rw [pd, PyData.canLay0] at e; cases e
theorem Reps.dp : ∀ {ds : List D} {vs : List V} {S : List Addr}, Reps K H vs ds S → PyData.canLayAll0 (pds ds) = true → DpAll K H vs (pds ds)
  | [], _, _, h, _ => by cases h; rw [pds]; exact .nil
  | d :: ds, _, _, h, e => by
    rw [pds] at e ⊢
    rw [PyData.canLayAll0, Bool.and_eq_true] at e
    cases h with
    | cons h1 h2 => exact .cons (Rep.dp h1 e.1) (Reps.dp h2 e.2)
end
end
/-- may be compared -/
def shp (d : D) : Bool := SeqAt.shaped (pd d)
@[simp] theorem shp_non : shp .non = true := by decide
@[simp] theorem shp_bl {b : Bool} : shp (.bl b) = true := by cases b <;> decide
@[simp] theorem shp_int {i : Int} : shp (.int i) = true := by simp [shp, pd, SeqAt.shaped, PyData.canLay0, PyData.depth]
def eqv (d e : D) : Bool := PyData.eqv (pd d) (pd e)
def eqD : D → D → Option D
  | .int i, .int j => some (.bl (decide (i = j)))
  | .str i, .str j => some (.bl (decide (i = j)))
  | .bl i, .bl j => some (.bl (decide (i = j)))
  | .non, .non => some (.bl true)
  | .non, .int _ => some (.bl false)
  | .non, .str _ => some (.bl false)
  | .int _, .non => some (.bl false)
  | .str _, .non => some (.bl false)
  | d, e => if shp d = true ∧ shp e = true then some (.bl (eqv d e)) else none
def neD : D → D → Option D
  | .int i, .int j => some (.bl (!decide (i = j)))
  | .str i, .str j => some (.bl (!decide (i = j)))
  | .bl i, .bl j => some (.bl (!decide (i = j)))
  | .non, .non => some (.bl false)
  | .non, .int _ => some (.bl true)
  | .non, .str _ => some (.bl true)
  | .int _, .non => some (.bl true)
  | .str _, .non => some (.bl true)
  | d, e => if shp d = true ∧ shp e = true then some (.bl (!eqv d e)) else none
theorem shp_lay {d : D} (h : shp d = true) : (pd d).canLay0 = true := (Bool.and_eq_true_iff.mp h).1
theorem dec_v {α : Type} [DecidableEq α] {f : α → V} (h : ∀ x y, f x = f y → x = y) (x y : α) : decide (f x = f y) = decide (x = y) := by
  by_cases e : x = y
  · subst e; simp
  · rw [decide_eq_false e, decide_eq_false fun z => e (h _ _ z)]
theorem ops_eq {K : PySem.W.Frag} : OpS K (rEqU K) eqD true := ops_pureK fun H x y d e z S S2 Q r1 r2 e1 => by
  unfold eqD at e1
  split at e1
  · obtain ⟨rfl, rfl⟩ := rep_int r1
    obtain ⟨rfl, rfl⟩ := rep_int r2
    cases e1
    exact ⟨_, rfl, fun _ => .bl _, fun q => Step.go q⟩
  · obtain ⟨rfl, rfl⟩ := rep_str r1
    obtain ⟨rfl, rfl⟩ := rep_str r2
    cases e1
    exact ⟨_, rfl, fun _ => .bl _, fun q => Step.go q⟩
  · obtain ⟨rfl, rfl⟩ := rep_bl r1
    obtain ⟨rfl, rfl⟩ := rep_bl r2
    cases e1
    exact ⟨_, rfl, fun _ => .bl _, fun q => Step.go q⟩
  · obtain ⟨rfl, rfl⟩ := rep_non r1
    obtain ⟨rfl, rfl⟩ := rep_non r2
    cases e1
    exact ⟨_, rfl, fun _ => .bl _, fun q => s_eqS rfl q⟩
  · obtain ⟨rfl, rfl⟩ := rep_non r1
    obtain ⟨rfl, rfl⟩ := rep_int r2
    cases e1
    exact ⟨_, rfl, fun _ => .bl _, fun q => s_eqS rfl q⟩
  · obtain ⟨rfl, rfl⟩ := rep_non r1
    obtain ⟨rfl, rfl⟩ := rep_str r2
    cases e1
    exact ⟨_, rfl, fun _ => .bl _, fun q => s_eqS rfl q⟩
  · obtain ⟨rfl, rfl⟩ := rep_int r1
    obtain ⟨rfl, rfl⟩ := rep_non r2
    cases e1
    exact ⟨_, rfl, fun _ => .bl _, fun q => s_eqS rfl q⟩
  · obtain ⟨rfl, rfl⟩ := rep_str r1
    obtain ⟨rfl, rfl⟩ := rep_non r2
    cases e1
    exact ⟨_, rfl, fun _ => .bl _, fun q => s_eqS rfl q⟩
  · split at e1
    · rename_i h
      cases e1
      exact ⟨_, rfl, fun _ => .bl _, fun q => s_eqD (r1.dp (shp_lay h.1)) (r2.dp (shp_lay h.2)) h.1 h.2 q⟩
    · cases e1
theorem ops_ne {K : PySem.W.Frag} : OpS K (rNeU K) neD true := ops_pureK fun H x y d e z S S2 Q r1 r2 e1 => by
  unfold neD at e1
  split at e1
  · obtain ⟨rfl, rfl⟩ := rep_int r1
    obtain ⟨rfl, rfl⟩ := rep_int r2
    cases e1
    exact ⟨_, rfl, fun _ => .bl _, fun q => Step.go q⟩
  · obtain ⟨rfl, rfl⟩ := rep_str r1
    obtain ⟨rfl, rfl⟩ := rep_str r2
    cases e1
    exact ⟨_, rfl, fun _ => .bl _, fun q => Step.go q⟩
  · obtain ⟨rfl, rfl⟩ := rep_bl r1
    obtain ⟨rfl, rfl⟩ := rep_bl r2
    cases e1
    exact ⟨_, rfl, fun _ => .bl _, fun q => Step.go q⟩
  · obtain ⟨rfl, rfl⟩ := rep_non r1
    obtain ⟨rfl, rfl⟩ := rep_non r2
    cases e1
    exact ⟨_, rfl, fun _ => .bl _, fun q => s_neS rfl q⟩
  · obtain ⟨rfl, rfl⟩ := rep_non r1
    obtain ⟨rfl, rfl⟩ := rep_int r2
    cases e1
    exact ⟨_, rfl, fun _ => .bl _, fun q => s_neS rfl q⟩
  · obtain ⟨rfl, rfl⟩ := rep_non r1
    obtain ⟨rfl, rfl⟩ := rep_str r2
    cases e1
    exact ⟨_, rfl, fun _ => .bl _, fun q => s_neS rfl q⟩
  · obtain ⟨rfl, rfl⟩ := rep_int r1
    obtain ⟨rfl, rfl⟩ := rep_non r2
    cases e1
    exact ⟨_, rfl, fun _ => .bl _, fun q => s_neS rfl q⟩
  · obtain ⟨rfl, rfl⟩ := rep_str r1
    obtain ⟨rfl, rfl⟩ := rep_non r2
    cases e1
    exact ⟨_, rfl, fun _ => .bl _, fun q => s_neS rfl q⟩
  · split at e1
    · rename_i h
      cases e1
      exact ⟨_, rfl, fun _ => .bl _, fun q => s_neD (r1.dp (shp_lay h.1)) (r2.dp (shp_lay h.2)) h.1 h.2 q⟩
    · cases e1
def ltD : D → D → Option D
  | .int i, .int j => some (.bl (decide (i < j)))
  | .str i, .str j => some (.bl (decide (i.cps.toList < j.cps.toList)))
  | _, _ => none
theorem ops_lt {K : PySem.W.Frag} : OpS K rLtU ltD true := ops_pure fun K H x y d e z S S2 Q r1 r2 e1 => by
  unfold ltD at e1
  split at e1
  · obtain ⟨rfl, rfl⟩ := rep_int r1
    obtain ⟨rfl, rfl⟩ := rep_int r2
    cases e1
    exact ⟨_, rfl, fun _ => .bl _, fun q => Step.go q⟩
  · obtain ⟨rfl, rfl⟩ := rep_str r1
    obtain ⟨rfl, rfl⟩ := rep_str r2
    cases e1
    exact ⟨_, rfl, fun _ => .bl _, fun q => Step.go q⟩
  · cases e1
def rStrB (f : Str → Str → Bool) : R2 := fun x y H Q => ∃ i j, x = .str i ∧ y = .str j ∧ Q (.bl (f i j)) H
def rLeU : R2 := rOr (rI0 fun i j => .bl (decide (i ≤ j))) (rStrB fun i j => !decide (j.cps.toList < i.cps.toList))
def rGtU : R2 := rOr (rI0 fun i j => .bl (decide (j < i))) (rStrB fun i j => decide (j.cps.toList < i.cps.toList))
def rGeU : R2 := rOr (rI0 fun i j => .bl (decide (j ≤ i))) (rStrB fun i j => !decide (i.cps.toList < j.cps.toList))
theorem op_leU {X : Cx} : OpR X (compareOp .LtE) rLeU := op_or2 op_le op_le_str
theorem op_gtU {X : Cx} : OpR X (compareOp .Gt) rGtU := op_or2 op_gt op_gt_str
theorem op_geU {X : Cx} : OpR X (compareOp .GtE) rGeU := op_or2 op_ge op_ge_str
def leD : D → D → Option D
  | .int i, .int j => some (.bl (decide (i ≤ j)))
  | .str i, .str j => some (.bl (!decide (j.cps.toList < i.cps.toList)))
  | _, _ => none
def gtD : D → D → Option D
  | .int i, .int j => some (.bl (decide (j < i)))
  | .str i, .str j => some (.bl (decide (j.cps.toList < i.cps.toList)))
  | _, _ => none
def geD : D → D → Option D
  | .int i, .int j => some (.bl (decide (j ≤ i)))
  | .str i, .str j => some (.bl (!decide (i.cps.toList < j.cps.toList)))
  | _, _ => none
theorem ops_cmpU {K : PySem.W.Frag} {f : Int → Int → Bool} {g : Str → Str → Bool} {h : D → D → Option D} (hi : ∀ i j, h (.int i) (.int j) = some (.bl (f i j))) (hs : ∀ i j, h (.str i) (.str j) = some (.bl (g i j)))
    (ho : ∀ x y z, h x y = some z → (∃ i j, x = .int i ∧ y = .int j) ∨ ∃ i j, x = .str i ∧ y = .str j) : OpS K (rOr (rI0 fun i j => .bl (f i j)) (rStrB g)) h true := ops_pure fun K H x y d e z S S2 Q r1 r2 e1 => by
  rcases ho _ _ _ e1 with ⟨i, j, rfl, rfl⟩ | ⟨i, j, rfl, rfl⟩
  · obtain ⟨rfl, rfl⟩ := rep_int r1
    obtain ⟨rfl, rfl⟩ := rep_int r2
    rw [hi] at e1
    cases e1
    exact ⟨_, rfl, fun _ => .bl _, fun q => .inl (s_rI0 q)⟩
  · obtain ⟨rfl, rfl⟩ := rep_str r1
    obtain ⟨rfl, rfl⟩ := rep_str r2
    rw [hs] at e1
    cases e1
    exact ⟨_, rfl, fun _ => .bl _, fun q => .inr ⟨_, _, rfl, rfl, q⟩⟩
theorem ops_le {K : PySem.W.Frag} : OpS K rLeU leD true := ops_cmpU (fun _ _ => rfl) (fun _ _ => rfl) fun x y z h => by
  unfold leD at h
  split at h
  · exact .inl ⟨_, _, rfl, rfl⟩
  · exact .inr ⟨_, _, rfl, rfl⟩
  · cases h
theorem ops_gt {K : PySem.W.Frag} : OpS K rGtU gtD true := ops_cmpU (fun _ _ => rfl) (fun _ _ => rfl) fun x y z h => by
  unfold gtD at h
  split at h
  · exact .inl ⟨_, _, rfl, rfl⟩
  · exact .inr ⟨_, _, rfl, rfl⟩
  · cases h
theorem ops_ge {K : PySem.W.Frag} : OpS K rGeU geD true := ops_cmpU (fun _ _ => rfl) (fun _ _ => rfl) fun x y z h => by
  unfold geD at h
  split at h
  · exact .inl ⟨_, _, rfl, rfl⟩
  · exact .inr ⟨_, _, rfl, rfl⟩
  · cases h
@[simp] def isNo : D → Bool
  | .non => true
  | _ => false
def isD : D → D → Option D
  | d, .non => some (.bl (isNo d))
  | _, _ => none
def notD : D → D → Option D
  | d, .non => some (.bl (!isNo d))
  | _, _ => none
theorem Rep.isNo {K : PySem.W.Frag} {H : Hp} {v : V} {d : D} {S : List Addr} (h : Rep K H v d S) : decide (v = .non) = Ol.isNo d := by
  cases h <;> simp
theorem ops_is {K : PySem.W.Frag} : OpS K rIsNo isD true := ops_pure fun K H x y d e z S S2 Q r1 r2 e1 => by
  unfold isD at e1
  split at e1
  · obtain ⟨rfl, rfl⟩ := rep_non r2
    cases e1
    exact ⟨_, rfl, fun _ => .bl _, fun q => s_isNo (by rw [r1.isNo]; exact q)⟩
  · cases e1
theorem ops_isnot {K : PySem.W.Frag} : OpS K rNotNo notD true := ops_pure fun K H x y d e z S S2 Q r1 r2 e1 => by
  unfold notD at e1
  split at e1
  · obtain ⟨rfl, rfl⟩ := rep_non r2
    cases e1
    exact ⟨_, rfl, fun _ => .bl _, fun q => s_notNo (by rw [r1.isNo]; exact q)⟩
  · cases e1
/-! subscripts, lengths -/
def ixD : D → D → Option D
  | .lst xs, .int i => atI xs i
  | .tup xs, .int i => atI xs i
  | .str z, .int i => if z.length ≤ 16777216 then (atI z.cps.toList i).map fun c => .str ⟨#[c]⟩ else none
  | _, _ => none
theorem at_reps {K : PySem.W.Frag} {H : Hp} {xs : List V} {ds : List D} {S : List Addr} {i : Int} {d : D} (r : Reps K H xs ds S) (h : atI ds i = some d) : ∃ v T, atI xs i = some v ∧ Rep K H v d T := by
  unfold atI at h ⊢
  rw [r.length]
  cases e : ixN ds.length i with
  | none => rw [e] at h; cases h
  | some j =>
    rw [e] at h
    obtain ⟨v, T, h1, h2, _⟩ := r.get h
    exact ⟨v, T, h1, h2⟩
theorem ops_ix {K : PySem.W.Frag} : OpS K (rIx K) ixD false := fun H x y d e z S S2 Q r1 r2 e1 q => by
  unfold ixD at e1
  split at e1
  · obtain ⟨a, xs, S1, rfl, h1, h2, _⟩ := rep_lst r1
    obtain ⟨rfl, rfl⟩ := rep_int r2
    obtain ⟨v, T, hv, r⟩ := at_reps h2 e1
    exact s_ixL h1 hv (q v H T r (Same.refl _) fun z => by cases z)
  · obtain ⟨a, xs, rfl, h1, h2⟩ := rep_tup r1
    obtain ⟨rfl, rfl⟩ := rep_int r2
    obtain ⟨v, T, hv, r⟩ := at_reps h2 e1
    exact s_ixT h1 hv (q v H T r (Same.refl _) fun z => by cases z)
  · obtain ⟨rfl, rfl⟩ := rep_str r1
    obtain ⟨rfl, rfl⟩ := rep_int r2
    split at e1
    · rename_i z' i hl
      cases e2 : atI z'.cps.toList i with
      | none => rw [e2] at e1; cases e1
      | some k =>
        rw [e2] at e1
        cases e1
        exact s_ixS (sz_le hl) e2 (q _ H [] (.str _) (Same.refl _) fun z => by cases z)
    · cases e1
  · cases e1
end Ol
namespace Ol
open PySem PySem.Spec PyProof.Rows L2
/-! ## tests -/
def ST (c : C0) (W : WX) (tt : TT) (b : Env → Res Bool) (pu : Bool) : Prop :=
  ∀ (H0 : Hp) (Wd Al : Addr → Prop) (T : Nat → List Addr) (σ : L2.St) (H : Hp) (ρ : Env) (Q : Bool → Hp → Prop), SIT c H0 Wd Al T σ H ρ →
    (match b ρ with
      | .ok k ρ' => ∀ H' T', SIT c H0 Wd Al T' σ H' ρ' → Grw H H' → (∀ i, ∀ a ∈ T' i, a ∈ T i ∨ H a = none) → (pu = true → ρ' = ρ ∧ Same H H' ∧ T' = T) → Q k H'
      | .exc x ρ' => ∀ H' T', SIT c H0 Wd Al T' σ H' ρ' → W (.ref (He.ga c.K x)) none σ H'
      | .bad => False) → tt σ H Q
def bT (e : Env → Res D) : Env → Res Bool := fun ρ => (e ρ).bind fun d ρ1 => match d with
  | .bl k => .ok k ρ1
  | _ => .bad
def truD : D → Option Bool
  | .non => some false
  | .bl b => some b
  | .int i => some (i != 0)
  | .str y => if y.length ≤ 16777216 then some ((y.length : Int) != 0) else none
  | .lst xs => some (!xs.isEmpty)
  | .tup xs => some (!xs.isEmpty)
  | _ => none
def bTru (e : Env → Res D) : Env → Res Bool := fun ρ => (e ρ).bind fun d ρ1 => match truD d with
  | some k => .ok k ρ1
  | none => .bad
def bAnd (a b : Env → Res Bool) : Env → Res Bool := fun ρ => (a ρ).bind fun x ρ1 => if x = true then b ρ1 else .ok false ρ1
def bOr (a b : Env → Res Bool) : Env → Res Bool := fun ρ => (a ρ).bind fun x ρ1 => if x = true then .ok true ρ1 else b ρ1
def bNot (a : Env → Res Bool) : Env → Res Bool := fun ρ => (a ρ).bind fun x ρ1 => .ok (!x) ρ1
def eAnd (a b : Env → Res D) : Env → Res D := fun ρ => (a ρ).bind fun x ρ1 => match x with
  | .bl true => b ρ1
  | .bl false => .ok (.bl false) ρ1
  | _ => .bad
def eOr (a b : Env → Res D) : Env → Res D := fun ρ => (a ρ).bind fun x ρ1 => match x with
  | .bl true => .ok (.bl true) ρ1
  | .bl false => b ρ1
  | _ => .bad
def eNot (a : Env → Res D) : Env → Res D := fun ρ => (a ρ).bind fun x ρ1 => match x with
  | .bl b => .ok (.bl (!b)) ρ1
  | _ => .bad
def eIf (t : Env → Res Bool) (a b : Env → Res D) : Env → Res D := fun ρ => (t ρ).bind fun x ρ1 => if x = true then a ρ1 else b ρ1
def eChain (f g : D → D → Option D) (a b e : Env → Res D) : Env → Res D := fun ρ => (a ρ).bind fun x ρ1 => (b ρ1).bind fun y ρ2 => match f x y with
  | some (.bl true) => (e ρ2).bind fun w ρ3 => optR (g y w) ρ3
  | some (.bl false) => .ok (.bl false) ρ2
  | _ => .bad
section
variable {c : C0} {W : WX} {ta tb te : TE} {tt tu : TT} {a b e : Env → Res D} {ba bb : Env → Res Bool} {pa pb pe fa fb fe pu fr : Bool}
theorem st_test (h : SE c W te e pu fr) : ST c W (tTest te) (bT e) pu := fun H0 Wd Al T σ H ρ Q I q => h H0 Wd Al T σ H ρ _ I (by
  unfold bT at q
  cases z : e ρ with
  | bad => rw [z] at q; exact q
  | exc x ρ' => rw [z] at q; exact q
  | ok d ρ' =>
    rw [z, Res.bind_ok] at q
    intro v H' T' S i r g nw p f
    cases d with
    | bl k =>
      obtain ⟨rfl, rfl⟩ := rep_bl r
      exact ⟨k, rfl, q H' T' i g nw p⟩
    | _ => exact q.elim)
theorem st_tB (h : SE c W te e pu fr) : ST c W (tB te) (bT e) pu := st_test h
theorem st_tru (h : SE c W te e pu fr) : ST c W (fun σ H Q => te σ H fun x H' => ∃ k, TruV c.K x H' k ∧ Q k H') (bTru e) pu := fun H0 Wd Al T σ H ρ Q I q => h H0 Wd Al T σ H ρ _ I (by
  unfold bTru at q
  cases z : e ρ with
  | bad => rw [z] at q; exact q
  | exc x ρ' => rw [z] at q; exact q
  | ok d ρ' =>
    rw [z, Res.bind_ok] at q
    intro v H' T' S i r g nw p f
    cases z2 : truD d with
    | none => rw [z2] at q; exact q.elim
    | some k =>
      rw [z2] at q
      refine ⟨k, ?_, q H' T' i g nw p⟩
      cases d with
      | non => obtain ⟨rfl, rfl⟩ := rep_non r; cases z2; rfl
      | bl b => obtain ⟨rfl, rfl⟩ := rep_bl r; cases z2; rfl
      | int b => obtain ⟨rfl, rfl⟩ := rep_int r; cases z2; rfl
      | str b =>
        obtain ⟨rfl, rfl⟩ := rep_str r
        have z2 : (if b.length ≤ 16777216 then some ((b.length : Int) != 0) else none) = some k := z2
        split at z2
        · rename_i hl
          cases z2
          exact ⟨sz_le hl, rfl⟩
        · cases z2
      | lst b =>
        obtain ⟨a, xs, S1, rfl, h1, h2, _⟩ := rep_lst r
        cases z2
        refine .inl ⟨xs, h1, ?_⟩
        have := h2.length
        cases xs <;> cases b <;> simp_all
      | tup b =>
        obtain ⟨a, xs, rfl, h1, h2⟩ := rep_tup r
        cases z2
        refine .inr (.inl ⟨xs, h1, ?_⟩)
        have := h2.length
        cases xs <;> cases b <;> simp_all
      | _ => cases z2)
theorem st_seq {R : Bool → TT} {k : Bool → Env → Res Bool} (ha : ST c W tt ba pa) (hb : ∀ x, ST c W (R x) (k x) pb) : ST c W (fun σ H Q => tt σ H fun x H1 => R x σ H1 Q) (fun ρ => (ba ρ).bind k) (pa && pb) := fun H0 Wd Al T σ H ρ Q I q => ha H0 Wd Al T σ H ρ _ I (by
  dsimp only at q
  cases z : ba ρ with
  | bad => rw [z] at q; exact q
  | exc x ρ' => rw [z] at q; exact q
  | ok x ρ1 =>
    rw [z, Res.bind_ok] at q
    intro H1 T1 I1 g1 nw1 p1
    refine hb x H0 Wd Al T1 σ H1 ρ1 _ I1 ?_
    cases z2 : k x ρ1 with
    | bad => rw [z2] at q; exact q
    | exc x ρ' => rw [z2] at q; exact q
    | ok y ρ2 =>
      rw [z2] at q
      intro H2 T2 I2 g2 nw2 p2
      refine q H2 T2 I2 (g1.trans g2) (fun i a ha => ?_) fun hp => ?_
      · rcases nw2 i a ha with k | k
        · exact nw1 i a k
        · exact .inr (g1.dom a k)
      · rw [Bool.and_eq_true] at hp
        obtain ⟨e1, s1, t1⟩ := p1 hp.1
        obtain ⟨e2, s2, t2⟩ := p2 hp.2
        exact ⟨e2.trans e1, s1.trans s2, t2.trans t1⟩)
theorem st_const {k : Bool} {p : Bool} : ST c W (fun _ H Q => Q k H) (fun ρ => .ok k ρ) p := fun H0 Wd Al T σ H ρ Q I q => q H T I Grw.refl (fun _ _ z => .inl z) fun _ => ⟨rfl, Same.refl _, rfl⟩
theorem st_and (ha : ST c W tt ba pa) (hb : ST c W tu bb pb) : ST c W (tAnd tt tu) (bAnd ba bb) (pa && pb) := by
  refine st_seq (R := fun x σ H Q => if x = true then tu σ H Q else Q false H) (k := fun x ρ1 => if x = true then bb ρ1 else .ok false ρ1) ha fun x => ?_
  cases x
  · exact st_const
  · exact hb
theorem st_or (ha : ST c W tt ba pa) (hb : ST c W tu bb pb) : ST c W (tOr tt tu) (bOr ba bb) (pa && pb) := by
  refine st_seq (R := fun x σ H Q => if x = true then Q true H else tu σ H Q) (k := fun x ρ1 => if x = true then .ok true ρ1 else bb ρ1) ha fun x => ?_
  cases x
  · exact hb
  · exact st_const
theorem st_not (ha : ST c W tt ba pa) : ST c W (tNot tt) (bNot ba) pa := by
  have := st_seq (R := fun x σ H Q => Q (!x) H) (k := fun x ρ1 => .ok (!x) ρ1) (pb := true) ha fun x => st_const
  rw [Bool.and_true] at this
  exact this
/-- an expression behind a test -/
theorem se_tst {R : Bool → TE} {k : Bool → Env → Res D} (ha : ST c W tt ba pa) (hb : ∀ x, SE c W (R x) (k x) pb fr) : SE c W (fun σ H Q => tt σ H fun x H1 => R x σ H1 Q) (fun ρ => (ba ρ).bind k) (pa && pb) fr := fun H0 Wd Al T σ H ρ Q I q => ha H0 Wd Al T σ H ρ _ I (by
  dsimp only at q
  cases z : ba ρ with
  | bad => rw [z] at q; exact q
  | exc x ρ' => rw [z] at q; exact q
  | ok x ρ1 =>
    rw [z, Res.bind_ok] at q
    intro H1 T1 I1 g1 nw1 p1
    refine hb x H0 Wd Al T1 σ H1 ρ1 _ I1 ?_
    cases z2 : k x ρ1 with
    | bad => rw [z2] at q; exact q
    | exc x ρ' => rw [z2] at q; exact q
    | ok y ρ2 =>
      rw [z2] at q
      intro v H2 T2 S I2 r g2 nw2 p2 f2
      refine q v H2 T2 S I2 r (g1.trans g2) (fun i a ha => ?_) (fun hp => ?_) fun hf => ?_
      · rcases nw2 i a ha with k | k
        · exact nw1 i a k
        · exact .inr (g1.dom a k)
      · rw [Bool.and_eq_true] at hp
        obtain ⟨e1, s1, t1⟩ := p1 hp.1
        obtain ⟨e2, s2, t2⟩ := p2 hp.2
        exact ⟨e2.trans e1, s1.trans s2, t2.trans t1⟩
      · obtain ⟨⟨n, m, k⟩, tp, d⟩ := f2 hf
        exact ⟨⟨n, fun a ha => g1.dom a (m a ha), k⟩, tp, d⟩)
theorem se_ite (ht : ST c W tt ba pa) (ha : SE c W ta a pb fr) (hb : SE c W tb b pb fr) : SE c W (tIf tt ta tb) (eIf ba a b) (pa && pb) fr := by
  refine se_tst (R := fun x σ H Q => if x = true then ta σ H Q else tb σ H Q) (k := fun x ρ1 => if x = true then a ρ1 else b ρ1) ht fun x => ?_
  cases x
  · exact hb
  · exact ha
theorem se_k {v : V} {d : D} (r : ∀ H, Rep c.K H v d []) (im : imm d = true := by rfl) {p f : Bool} : SE c W (fun _ H Q => Q v H) (fun ρ => .ok d ρ) p f := fun H0 Wd Al T σ H ρ Q I h =>
  h v H T [] I (r H) Grw.refl (fun _ _ z => .inl z) (fun _ => ⟨rfl, Same.refl _, rfl⟩) fun _ => New.nil im
theorem se_andV (ha : SE c W ta a pa fa) (hb : SE c W tb b pb fr) : SE c W (tAndV ta tb) (eAnd a b) (pa && pb) fr := by
  have := se_tst (R := fun x σ H Q => if x = true then tb σ H Q else Q (.bl false) H) (k := fun x ρ1 => if x = true then b ρ1 else .ok (.bl false) ρ1) (st_test ha) (pb := pb) (fr := fr) fun x => by
    cases x
    · exact se_k fun _ => .bl _
    · exact hb
  have e : eAnd a b = fun ρ => (bT a ρ).bind fun x ρ1 => if x = true then b ρ1 else .ok (.bl false) ρ1 := by
    funext ρ
    unfold eAnd bT
    cases a ρ with
    | bad => rfl
    | exc x ρ' => rfl
    | ok d ρ' =>
      cases d with
      | bl k => cases k <;> rfl
      | _ => rfl
  rw [e]
  exact this
theorem se_orV (ha : SE c W ta a pa fa) (hb : SE c W tb b pb fr) : SE c W (tOrV ta tb) (eOr a b) (pa && pb) fr := by
  have := se_tst (R := fun x σ H Q => if x = true then Q (.bl true) H else tb σ H Q) (k := fun x ρ1 => if x = true then .ok (.bl true) ρ1 else b ρ1) (st_test ha) (pb := pb) (fr := fr) fun x => by
    cases x
    · exact hb
    · exact se_k fun _ => .bl _
  have e : eOr a b = fun ρ => (bT a ρ).bind fun x ρ1 => if x = true then .ok (.bl true) ρ1 else b ρ1 := by
    funext ρ
    unfold eOr bT
    cases a ρ with
    | bad => rfl
    | exc x ρ' => rfl
    | ok d ρ' =>
      cases d with
      | bl k => cases k <;> rfl
      | _ => rfl
  rw [e]
  exact this
theorem se_notV (ha : SE c W ta a pa fa) : SE c W (tNotV ta) (eNot a) pa true := by
  have := se_tst (R := fun x σ H Q => Q (.bl (!x)) H) (k := fun x ρ1 => .ok (.bl (!x)) ρ1) (st_test ha) (pb := true) (fr := true) fun x => se_k fun _ => .bl _
  have e : eNot a = fun ρ => (bT a ρ).bind fun x ρ1 => .ok (.bl (!x)) ρ1 := by
    funext ρ
    unfold eNot bT
    cases a ρ with
    | bad => rfl
    | exc x ρ' => rfl
    | ok d ρ' => cases d <;> rfl
  rw [e]
  rw [Bool.and_true] at this
  exact this
theorem se_chain {r r' : R2} {f g : D → D → Option D} {f1 : Bool} (ho : OpS c.K r f f1) (ho' : OpS c.K r' g true) (ha : SE c W ta a true fa) (hb : SE c W tb b true fb) (hc : SE c W te e true fe) : SE c W (tChain r r' ta tb te) (eChain f g a b e) true true := fun H0 Wd Al T σ H ρ Q I q => ha H0 Wd Al T σ H ρ _ I (by
  unfold eChain at q
  cases z : a ρ with
  | bad => rw [z] at q; exact q
  | exc x ρ' => rw [z] at q; exact q
  | ok d ρ1 =>
    rw [z, Res.bind_ok] at q
    intro v H1 T1 S I1 r1 g1 nw1 p1 f1
    refine hb H0 Wd Al T1 σ H1 ρ1 _ I1 ?_
    cases z2 : b ρ1 with
    | bad => rw [z2] at q; exact q
    | exc x ρ' => rw [z2] at q; exact q
    | ok d2 ρ2 =>
      rw [z2, Res.bind_ok] at q
      intro u H2 T2 S2 I2 r2 g2 nw2 p2 f2
      obtain ⟨e1, s1, t1⟩ := p1 rfl
      obtain ⟨e2, s2, t2⟩ := p2 rfl
      subst e1 e2 t1 t2
      cases z3 : f d d2 with
      | none => rw [z3] at q; exact q.elim
      | some w =>
        rw [z3] at q
        refine ho H2 v u d d2 w S S2 _ (r1.same s2) r2 z3 fun y H3 U r3 s3 f3 => ?_
        cases w with
        | bl k =>
          obtain ⟨rfl, rfl⟩ := rep_bl r3
          refine ⟨k, rfl, ?_⟩
          cases k with
          | false => exact q _ H3 T2 [] (I2.same s3) (.bl _) ((g1.trans g2).trans (Grw.same s3)) (fun _ _ z => .inl z) (fun _ => ⟨rfl, (s1.trans s2).trans s3, rfl⟩) fun _ => New.nil rfl
          | true =>
            refine hc H0 Wd Al T2 σ H3 ρ2 _ (I2.same s3) ?_
            cases z4 : e ρ2 with
            | bad => rw [z4] at q; exact q
            | exc x ρ' => rw [z4] at q; exact q
            | ok d4 ρ4 =>
              rw [z4] at q
              intro w4 H4 T4 S4 I4 r4 g4 nw4 p4 f4
              obtain ⟨e4, s4, t4⟩ := p4 rfl
              subst e4 t4
              have q : match optR (g d2 d4) ρ4 with
                | .ok d ρ' => ∀ v H' T' S, SIT c H0 Wd Al T' σ H' ρ' → Rep c.K H' v d S → Grw H H' → (∀ i, ∀ a ∈ T' i, a ∈ T4 i ∨ H a = none) → (true = true → ρ' = ρ4 ∧ Same H H' ∧ T' = T4) → (true = true → New c.K H H' T' v d S) → Q v H'
                | .exc x ρ' => ∀ H' T', SIT c H0 Wd Al T' σ H' ρ' → W (.ref (He.ga c.K x)) none σ H'
                | .bad => False := q
              cases z5 : g d2 d4 with
              | none => rw [z5] at q; exact q.elim
              | some w5 =>
                rw [z5] at q
                refine ho' H4 u w4 d2 d4 w5 S2 S4 _ ((r2.same s3).same s4) r4 z5 fun y5 H5 U5 r5 s5 f5 => ?_
                have ss := (((s1.trans s2).trans s3).trans s4).trans s5
                refine q y5 H5 T4 U5 (I4.same s5) r5 (Grw.same ss) (fun _ _ z => .inl z) (fun _ => ⟨rfl, ss, rfl⟩) fun _ => ?_
                obtain ⟨⟨n, m, k⟩, tp⟩ := f5 rfl
                exact ⟨⟨n, fun a ha => (((g1.trans g2).trans (Grw.same s3)).trans g4).dom a (m a ha), k⟩, tp, fun i a ha k => I4.doms i a k (m a ha)⟩
        | _ => exact q.elim)
end
/-! built-ins -/
def CallS (K : PySem.W.Frag) (r : List V → Hp → VK → Prop) (f : List D → Option D) (fr : Bool) : Prop :=
  ∀ (H : Hp) (vs : List V) (ds : List D) (z : D) (S : List Addr) (Q : VK), Reps K H vs ds S → f ds = some z → (∀ v H' U, Rep K H' v z U → Same H H' → (fr = true → Nw H H' U ∧ Top K H' v z U) → Q v H') → r vs H Q
def eCb (f : List D → Option D) (as : Env → Res (List D)) : Env → Res D := fun ρ => (as ρ).bind fun xs ρ1 => optR (f xs) ρ1
section
variable {c : C0} {W : WX} {ta te : TE} {tt : TA} {a e : Env → Res D} {as : Env → Res (List D)} {pa fa fr : Bool}
theorem se_args {R : List V → Hp → VK → Prop} {f : List D → Option D} (ho : CallS c.K R f fr) (ha : SA c W tt as pa fa) : SE c W (fun σ H Q => tt σ H fun x H1 => R x H1 Q) (eCb f as) pa fr := fun H0 Wd Al T σ H ρ Q I q => ha H0 Wd Al T σ H ρ _ I (by
  unfold eCb at q
  cases z : as ρ with
  | bad => rw [z] at q; exact q
  | exc x ρ' => rw [z] at q; exact q
  | ok d ρ1 =>
    rw [z, Res.bind_ok] at q
    intro v H1 T1 S I1 r1 g1 nw1 p1 f1
    unfold optR at q
    cases z3 : f d with
    | none => rw [z3] at q; exact q.elim
    | some w =>
      rw [z3] at q
      refine ho H1 v d w S Q r1 z3 fun y H3 U r3 s3 f3 => ?_
      refine q y H3 T1 U (I1.same s3) r3 (g1.trans (Grw.same s3)) nw1 (fun hp => ?_) fun hf => ?_
      · obtain ⟨e1, s1, t1⟩ := p1 hp
        exact ⟨e1, s1.trans s3, t1⟩
      · obtain ⟨⟨n, nn, nf⟩, tp⟩ := f3 hf
        exact ⟨⟨n, fun a ha => g1.dom a (nn a ha), nf⟩, tp, fun i a ha k => I1.doms i a k (nn a ha)⟩)
theorem se_cb {R : List V → Hp → VK → Prop} {f : List D → Option D} (ho : CallS c.K R f fr) (ha : SA c W tt as pa fa) : SE c W (tCB R tt) (eCb f as) pa fr := se_args (R := R) ho ha
end
section
variable {K : PySem.W.Frag} {H : Hp}
theorem reps1 {vs : List V} {d : D} {S : List Addr} (h : Reps K H vs [d] S) : ∃ v, vs = [v] ∧ Rep K H v d S := by
  cases h with
  | cons a b => cases b; rw [List.append_nil]; exact ⟨_, rfl, a⟩
theorem reps2 {vs : List V} {d e : D} {S : List Addr} (h : Reps K H vs [d, e] S) : ∃ v u S1 S2, vs = [v, u] ∧ Rep K H v d S1 ∧ Rep K H u e S2 := by
  cases h with
  | cons a b =>
    obtain ⟨u, rfl, r⟩ := reps1 b
    exact ⟨_, _, _, _, rfl, a, r⟩
end
def kindD : D → String
  | .non => "NoneType"
  | .bl _ => "bool"
  | .int _ => "int"
  | .str _ => "str"
  | .tup _ => "tuple"
  | .lst _ => "list"
  | .dT _ => "dict"
  | .dK _ => "dict"
  | .ty _ => "type"
  | .ex _ => "exc"
@[simp] theorem kind_non : kindD .non = "NoneType" := id rfl
@[simp] theorem kind_bl {b} : kindD (.bl b) = "bool" := id rfl
@[simp] theorem kind_int {b} : kindD (.int b) = "int" := id rfl
@[simp] theorem kind_str {b} : kindD (.str b) = "str" := id rfl
@[simp] theorem kind_tup {b} : kindD (.tup b) = "tuple" := id rfl
@[simp] theorem kind_lst {b} : kindD (.lst b) = "list" := id rfl
@[simp] theorem kind_dT {b} : kindD (.dT b) = "dict" := id rfl
@[simp] theorem kind_dK {b} : kindD (.dK b) = "dict" := id rfl
@[simp] theorem kit_NoneType_bool : kitB "NoneType" "bool" = some false := by decide +kernel
@[simp] theorem kit_NoneType_int : kitB "NoneType" "int" = some false := by decide +kernel
@[simp] theorem kit_NoneType_str : kitB "NoneType" "str" = some false := by decide +kernel
@[simp] theorem kit_NoneType_tuple : kitB "NoneType" "tuple" = some false := by decide +kernel
@[simp] theorem kit_NoneType_list : kitB "NoneType" "list" = some false := by decide +kernel
@[simp] theorem kit_NoneType_dict : kitB "NoneType" "dict" = some false := by decide +kernel
@[simp] theorem kit_bool_bool : kitB "bool" "bool" = some true := by decide +kernel
@[simp] theorem kit_bool_int : kitB "bool" "int" = some true := by decide +kernel
@[simp] theorem kit_bool_str : kitB "bool" "str" = some false := by decide +kernel
@[simp] theorem kit_bool_tuple : kitB "bool" "tuple" = some false := by decide +kernel
@[simp] theorem kit_bool_list : kitB "bool" "list" = some false := by decide +kernel
@[simp] theorem kit_bool_dict : kitB "bool" "dict" = some false := by decide +kernel
@[simp] theorem kit_int_bool : kitB "int" "bool" = some false := by decide +kernel
@[simp] theorem kit_int_int : kitB "int" "int" = some true := by decide +kernel
@[simp] theorem kit_int_str : kitB "int" "str" = some false := by decide +kernel
@[simp] theorem kit_int_tuple : kitB "int" "tuple" = some false := by decide +kernel
@[simp] theorem kit_int_list : kitB "int" "list" = some false := by decide +kernel
@[simp] theorem kit_int_dict : kitB "int" "dict" = some false := by decide +kernel
@[simp] theorem kit_str_bool : kitB "str" "bool" = some false := by decide +kernel
@[simp] theorem kit_str_int : kitB "str" "int" = some false := by decide +kernel
@[simp] theorem kit_str_str : kitB "str" "str" = some true := by decide +kernel
@[simp] theorem kit_str_tuple : kitB "str" "tuple" = some false := by decide +kernel
@[simp] theorem kit_str_list : kitB "str" "list" = some false := by decide +kernel
@[simp] theorem kit_str_dict : kitB "str" "dict" = some false := by decide +kernel
@[simp] theorem kit_tuple_bool : kitB "tuple" "bool" = some false := by decide +kernel
@[simp] theorem kit_tuple_int : kitB "tuple" "int" = some false := by decide +kernel
@[simp] theorem kit_tuple_str : kitB "tuple" "str" = some false := by decide +kernel
@[simp] theorem kit_tuple_tuple : kitB "tuple" "tuple" = some true := by decide +kernel
@[simp] theorem kit_tuple_list : kitB "tuple" "list" = some false := by decide +kernel
@[simp] theorem kit_tuple_dict : kitB "tuple" "dict" = some false := by decide +kernel
@[simp] theorem kit_list_bool : kitB "list" "bool" = some false := by decide +kernel
@[simp] theorem kit_list_int : kitB "list" "int" = some false := by decide +kernel
@[simp] theorem kit_list_str : kitB "list" "str" = some false := by decide +kernel
@[simp] theorem kit_list_tuple : kitB "list" "tuple" = some false := by decide +kernel
@[simp] theorem kit_list_list : kitB "list" "list" = some true := by decide +kernel
@[simp] theorem kit_list_dict : kitB "list" "dict" = some false := by decide +kernel
@[simp] theorem kit_dict_bool : kitB "dict" "bool" = some false := by decide +kernel
@[simp] theorem kit_dict_int : kitB "dict" "int" = some false := by decide +kernel
@[simp] theorem kit_dict_str : kitB "dict" "str" = some false := by decide +kernel
@[simp] theorem kit_dict_tuple : kitB "dict" "tuple" = some false := by decide +kernel
@[simp] theorem kit_dict_list : kitB "dict" "list" = some false := by decide +kernel
@[simp] theorem kit_dict_dict : kitB "dict" "dict" = some true := by decide +kernel
def isiD : List D → Option D
  | [d, .ty n] => (match d with
    | .ty _ => none
    | .dT _ => none
    | .dK _ => none
    | .ex _ => none
    | d => (kitB (kindD d) n).map D.bl)
  | _ => none
theorem calls_isi {K : PySem.W.Frag} : CallS K (rIsi K) isiD true := fun H vs ds z S Q r e q => by
  unfold isiD at e
  split at e
  · rename_i d n
    obtain ⟨v, u, S1, S2, rfl, h1, h2⟩ := reps2 r
    cases h2
    have fin : ∀ {k : Bool}, z = .bl k → Q (.bl k) H := fun {k} e => by
      subst e
      exact q _ H [] (.bl _) (Same.refl _) fun _ => ⟨Nw.nil, trivial⟩
    split at e
    · cases e
    · cases e
    · cases e
    · cases e
    · cases e2 : kitB (kindD d) n with
      | none => rw [e2] at e; cases e
      | some k =>
        rw [e2] at e
        cases e
        refine s_isi (.ty n) (t := .type (kindD d)) (u := .type n) (b := k) ?_ (kit_ty e2) (fin rfl)
        cases h1 with
        | non => exact .base .non
        | bl b => exact .base (.bl b)
        | int b => exact .base (.int b)
        | str b => exact .base (.str b)
        | ty b => simp_all
        | ex a b => simp_all
        | tup h _ => exact ty_sqT h.sq
        | lst h _ => exact ty_sqL (.inl h)
        | lstK h _ => exact ty_sqL (.inr h)
        | dT h _ => simp_all
        | dK h _ => simp_all
  · cases e
def lenD : List D → Option D
  | [.lst xs] => some (.int (xs.length : Nat))
  | [.tup xs] => some (.int (xs.length : Nat))
  | [.str x] => if x.length ≤ 16777216 then some (.int (x.length : Nat)) else none
  | _ => none
theorem calls_len {K : PySem.W.Frag} : CallS K (rLenU K) lenD true := fun H vs ds z S Q r e q => by
  unfold lenD at e
  split at e
  · obtain ⟨v, rfl, h⟩ := reps1 r
    obtain ⟨a, xs, S1, rfl, h1, h2, _⟩ := rep_lst h
    cases e
    exact s_lenL h1 (by rw [h2.length]; exact q _ H [] (.int _) (Same.refl _) fun _ => ⟨Nw.nil, trivial⟩)
  · obtain ⟨v, rfl, h⟩ := reps1 r
    obtain ⟨a, xs, rfl, h1, h2⟩ := rep_tup h
    cases e
    exact s_lenT h1 (by rw [h2.length]; exact q _ H [] (.int _) (Same.refl _) fun _ => ⟨Nw.nil, trivial⟩)
  · obtain ⟨v, rfl, h⟩ := reps1 r
    obtain ⟨rfl, rfl⟩ := rep_str h
    split at e
    · rename_i hl
      cases e
      exact s_lenS (sz_le hl) (q _ H [] (.int _) (Same.refl _) fun _ => ⟨Nw.nil, trivial⟩)
    · cases e
  · cases e
def strD : List D → Option D
  | [.int i] => if small i = true then some (.str (toString i)) else none
  | [.str i] => some (.str i)
  | _ => none
theorem calls_str {K : PySem.W.Frag} : CallS K rStrU strD true := fun H vs ds z S Q r e q => by
  unfold strD at e
  split at e
  · obtain ⟨v, rfl, h⟩ := reps1 r
    obtain ⟨rfl, rfl⟩ := rep_int h
    split at e
    · rename_i hl
      cases e
      have h2 : _ < 2 ^ 1900 := of_decide_eq_true hl
      have := PySem.Flt.log2_lt_of (by decide) h2
      exact .inl (s_strI (by omega) (q _ H [] (.str _) (Same.refl _) fun _ => ⟨Nw.nil, trivial⟩))
    · cases e
  · obtain ⟨v, rfl, h⟩ := reps1 r
    obtain ⟨rfl, rfl⟩ := rep_str h
    cases e
    exact .inr ⟨_, rfl, q _ H [] (.str _) (Same.refl _) fun _ => ⟨Nw.nil, trivial⟩⟩
  · cases e
def intD1 : List D → Option D
  | [.int i] => some (.int i)
  | [.bl k] => some (.int (if k = true then 1 else 0))
  | [.str a] => if a.length ≤ 640 then (PySem.intText? a).map D.int else none
  | _ => none
theorem calls_int {K : PySem.W.Frag} : CallS K rIntU intD1 true := fun H vs ds z S Q r e q => by
  unfold intD1 at e
  split at e
  · obtain ⟨v, rfl, h⟩ := reps1 r
    obtain ⟨rfl, rfl⟩ := rep_int h
    cases e
    exact .inl (.inl ⟨_, rfl, q _ H [] (.int _) (Same.refl _) fun _ => ⟨Nw.nil, trivial⟩⟩)
  · obtain ⟨v, rfl, h⟩ := reps1 r
    obtain ⟨rfl, rfl⟩ := rep_bl h
    cases e
    exact .inl (.inr ⟨_, rfl, q _ H [] (.int _) (Same.refl _) fun _ => ⟨Nw.nil, trivial⟩⟩)
  · obtain ⟨v, rfl, h⟩ := reps1 r
    obtain ⟨rfl, rfl⟩ := rep_str h
    split at e
    · rename_i a hl
      cases e2 : PySem.intText? a with
      | none => rw [e2] at e; cases e
      | some n =>
        rw [e2] at e
        cases e
        exact .inr ⟨_, _, rfl, e2, hl, q _ H [] (.int _) (Same.refl _) fun _ => ⟨Nw.nil, trivial⟩⟩
    · cases e
  · cases e
end Ol
namespace Ol
open PySem PySem.Spec PyProof.Rows L2
/-! ## statements -/
section
variable {c : C0} {H0 : Hp} {Wd Al : Addr → Prop} {T : Nat → List Addr} {σ : L2.St} {H H' : Hp} {ρ : Env}
theorem join_set_self {α : Type} {l : List (Option α)} {i : Nat} {a : Option α} (h : i < l.length) : ((l.set i a)[i]?).join = a := by
  rw [List.getElem?_set_self h]
  cases a <;> rfl
/-- a slot is filled anew -/
theorem SIT.putR (I : SIT c H0 Wd Al T σ H ρ) {i : Nat} {v : V} {d : D} {S : List Addr} (r : Rep c.K H v d S) (h1 : c.O i ≠ 0 → ((S.Nodup ∧ ∀ a ∈ S, c.B a = none ∧ (H0 a = none ∨ Wd a) ∧ NF H a) ∧ ∀ k, ∀ a ∈ S, a ∉ T k) ∧ Top c.K H v d S) (di : ∀ j, c.O j ≠ 0 → ∀ a ∈ S, a ∉ T j)
    (al : ∀ a ∈ S, H0 a = none ∨ Al a) (h2 : c.O i ≠ 2) (hi : c.ios.contains i = false) : ∃ T', SIT c H0 Wd Al T' (σ.set i (some v)) H (ρ.set i (some d)) ∧ (∀ k, ∀ a ∈ T' k, a ∈ T k ∨ a ∈ S) ∧ ∀ k, k ≠ i → T' k = T k := by
  have hio : i ∉ c.ios := fun z => by
    rw [List.contains_iff_mem.mpr z] at hi
    cases hi
  by_cases hl : i < ρ.length
  · refine ⟨fun k => if k = i then S else T k, ⟨I.frm, I.base, by rw [List.length_set, List.length_set]; exact I.len, fun k => ?_, fun k j hj hk a ha => ?_, fun j hj => ?_, fun k kl a ha => ?_, fun j hj a ha => ?_, fun j hj u du eu ed => ?_, fun j hj a ha => ?_, fun p hp => ?_, fun j hj ds e => ?_, fun k hk => ⟨(I.lk k hk).1, (if_neg (fun e : k = i => hio (e ▸ (I.lk k hk).1.1))).trans (I.lk k hk).2⟩⟩, fun k a ha => ?_, fun k hk => if_neg hk⟩
    · by_cases e : k = i
      · subst e
        rw [if_pos rfl, join_set_self hl, join_set_self (by rw [I.len]; exact hl)]
        exact ⟨v, rfl, r⟩
      · rw [if_neg e, List.getElem?_set_ne (Ne.symm e), List.getElem?_set_ne (Ne.symm e)]
        exact I.rep k
    · by_cases e : k = i
      · subst e
        rw [if_pos rfl] at ha
        rw [if_neg (Ne.symm hk)]
        exact di j hj a ha
      · rw [if_neg e] at ha
        by_cases e2 : j = i
        · subst e2
          rw [if_pos rfl]
          exact fun z => (h1 hj).1.2 k a z ha
        · rw [if_neg e2]
          exact I.dis k j hj hk a ha
    · by_cases e : j = i
      · subst e
        rw [if_pos rfl]
        exact (h1 hj).1.1.1
      · rw [if_neg e]
        exact I.nod j hj
    · by_cases e : k = i
      · subst e
        rw [if_pos rfl] at ha
        exact al a ha
      · rw [if_neg e] at ha
        exact I.all k kl a ha
    · by_cases e : j = i
      · subst e
        rw [if_pos rfl] at ha
        obtain ⟨_, q1, q2⟩ := (h1 hj).1.1.2 a ha
        exact ⟨q1, q2⟩
      · rw [if_neg e] at ha
        exact I.own j hj a ha
    · by_cases e : j = i
      · subst e
        rw [if_pos rfl]
        rw [join_set_self hl] at ed
        rw [List.getElem?_set_self (by rw [I.len]; exact hl)] at eu
        cases ed
        cases eu
        exact (h1 hj).2
      · rw [if_neg e]
        rw [List.getElem?_set_ne (Ne.symm e)] at ed eu
        exact I.top j hj u du eu ed
    · by_cases e : j = i
      · subst e
        rw [if_pos rfl] at ha
        exact ((h1 (by omega)).1.1.2 a ha).1
      · rw [if_neg e] at ha
        exact I.loc j hj a ha
    · rw [List.getElem?_set_ne (fun e : i = p => hio (by rw [e]; exact hp))]
      exact I.io p hp
    · have e3 : j ≠ i := fun z => h2 (z ▸ hj)
      rw [List.getElem?_set_ne (Ne.symm e3)] at e
      exact I.io2 j hj ds e
    · dsimp only at ha
      by_cases e : k = i
      · rw [if_pos e] at ha; exact .inr ha
      · rw [if_neg e] at ha; exact .inl ha
  · refine ⟨T, ?_, fun _ _ z => .inl z, fun _ _ => rfl⟩
    rw [List.set_eq_of_length_le (by rw [I.len]; omega), List.set_eq_of_length_le (by omega)]
    exact I
theorem SIT.put {H1 : Hp} (I : SIT c H0 Wd Al T σ H ρ) (hd : ∀ a, H1 a = none → c.B a = none ∧ H0 a = none) {i : Nat} {v : V} {d : D} {S : List Addr} (r : Rep c.K H v d S) (n : New c.K H1 H T v d S) (h2 : c.O i ≠ 2) (hi : c.ios.contains i = false) :
    ∃ T', SIT c H0 Wd Al T' (σ.set i (some v)) H (ρ.set i (some d)) ∧ (∀ k, ∀ a ∈ T' k, a ∈ T k ∨ a ∈ S) ∧ ∀ k, k ≠ i → T' k = T k :=
  I.putR r (fun _ => ⟨⟨⟨n.nw.nod, fun a ha => ⟨(hd a (n.nw.new a ha)).1, .inl (hd a (n.nw.new a ha)).2, n.nw.nf a ha⟩⟩, fun k a ha => n.dis k a ha⟩, n.top⟩) (fun j _ a ha => n.dis j a ha) (fun a ha => .inl (hd a (n.nw.new a ha)).2) h2 hi
theorem SIT.newB (I : SIT c H0 Wd Al T σ H ρ) : ∀ a, H a = none → c.B a = none ∧ H0 a = none := fun a h => ⟨I.base a h, I.frm.dom a h⟩
/-- a slot is forgotten -/
theorem SIT.drop (I : SIT c H0 Wd Al T σ H ρ) (i : Nat) (hio : i ∉ c.lks) : ∃ T', SIT c H0 Wd Al T' σ H (ρ.set i none) ∧ (∀ k, k ≠ i → T' k = T k) ∧ (i < ρ.length → T' i = []) := by
  by_cases hl : i < ρ.length
  · refine ⟨fun k => if k = i then [] else T k, ⟨I.frm, I.base, by rw [List.length_set]; exact I.len, fun k => ?_, fun k j hj hk a ha => ?_, fun j hj => ?_, fun k kl a ha => ?_, fun j hj a ha => ?_, fun j hj u du eu ed => ?_, fun j hj a ha => ?_, I.io, fun j hj ds e => ?_, fun k hk => ⟨(I.lk k hk).1, (if_neg (fun e : k = i => hio (e ▸ hk))).trans (I.lk k hk).2⟩⟩, fun k hk => if_neg hk, fun _ => if_pos rfl⟩
    · by_cases e : k = i
      · subst e
        rw [if_pos rfl, join_set_self hl]
        rfl
      · rw [if_neg e, List.getElem?_set_ne (Ne.symm e)]
        exact I.rep k
    · by_cases e : k = i
      · subst e
        rw [if_pos rfl] at ha
        cases ha
      · rw [if_neg e] at ha
        by_cases e2 : j = i
        · subst e2
          rw [if_pos rfl]
          exact fun z => by cases z
        · rw [if_neg e2]
          exact I.dis k j hj hk a ha
    · by_cases e : j = i
      · subst e; rw [if_pos rfl]; exact List.nodup_nil
      · rw [if_neg e]
        exact I.nod j hj
    · by_cases e : k = i
      · subst e; rw [if_pos rfl] at ha; cases ha
      · rw [if_neg e] at ha; exact I.all k kl a ha
    · by_cases e : j = i
      · subst e; rw [if_pos rfl] at ha; cases ha
      · rw [if_neg e] at ha; exact I.own j hj a ha
    · by_cases e : j = i
      · subst e
        rw [join_set_self hl] at ed
        cases ed
      · rw [if_neg e]
        rw [List.getElem?_set_ne (Ne.symm e)] at ed
        exact I.top j hj u du eu ed
    · by_cases e : j = i
      · subst e; rw [if_pos rfl] at ha; cases ha
      · rw [if_neg e] at ha; exact I.loc j hj a ha
    · by_cases e3 : j = i
      · subst e3
        rw [List.getElem?_set_self hl] at e
        cases e
      · rw [List.getElem?_set_ne (Ne.symm e3)] at e
        exact I.io2 j hj ds e
  · refine ⟨T, ?_, fun _ _ => rfl, fun z => absurd z hl⟩
    rw [List.set_eq_of_length_le (by omega)]
    exact I
end
def Good (c : C0) (W : WX) (H0 : Hp) (Wd Al : Addr → Prop) (nx : L2.St → Hp → Prop) (rt : VK) (bk ct : L2.St → Hp → Prop) (o : Out) : Prop := match o with
  | .nx ρ' => ∀ σ' H' T', SIT c H0 Wd Al T' σ' H' ρ' → nx σ' H'
  | .ret d ρ' => ∀ v σ' H' T' S, SIT c H0 Wd Al T' σ' H' ρ' → Rep c.K H' v d S → (c.fr = true → Nw c.B H' S ∧ Top c.K H' v d S) → rt v H'
  | .brk ρ' => ∀ σ' H' T', SIT c H0 Wd Al T' σ' H' ρ' → bk σ' H'
  | .ct ρ' => ∀ σ' H' T', SIT c H0 Wd Al T' σ' H' ρ' → ct σ' H'
  | .exc x ρ' => ∀ σ' H' T', SIT c H0 Wd Al T' σ' H' ρ' → W (.ref (He.ga c.K x)) none σ' H'
  | .bad => False
def SS (c : C0) (W : WX) (t : TS) (s : Env → Out) : Prop :=
  ∀ (H0 : Hp) (Wd Al : Addr → Prop) (T : Nat → List Addr) (σ : L2.St) (H : Hp) (ρ : Env) (nx : L2.St → Hp → Prop) (rt : VK) (bk ct : L2.St → Hp → Prop), SIT c H0 Wd Al T σ H ρ → Good c W H0 Wd Al nx rt bk ct (s ρ) → t ⟨nx, rt, bk, ct⟩ σ H
/-- behind an expression -/
def Res.then (r : Res D) (f : D → Env → Out) : Out := match r with
  | .ok d ρ => f d ρ
  | .exc x ρ => .exc x ρ
  | .bad => .bad
def Res.thenB (r : Res Bool) (f : Bool → Env → Out) : Out := match r with
  | .ok d ρ => f d ρ
  | .exc x ρ => .exc x ρ
  | .bad => .bad
def sSeq (s u : Env → Out) : Env → Out := fun ρ => match s ρ with
  | .nx ρ1 => u ρ1
  | o => o
def sAsg (i : Nat) (e : Env → Res D) : Env → Out := fun ρ => (e ρ).then fun d ρ1 => .nx (ρ1.set i (some d))
def sRet (e : Env → Res D) : Env → Out := fun ρ => (e ρ).then fun d ρ1 => .ret d ρ1
def sDrop (e : Env → Res D) : Env → Out := fun ρ => (e ρ).then fun _ ρ1 => .nx ρ1
def sRetN : Env → Out := fun ρ => .ret .non ρ
def sNext : Env → Out := fun ρ => .nx ρ
def sBrk : Env → Out := fun ρ => .brk ρ
def sCt : Env → Out := fun ρ => .ct ρ
def sIf (b : Env → Res Bool) (s u : Env → Out) : Env → Out := fun ρ => (b ρ).thenB fun k ρ1 => if k = true then s ρ1 else u ρ1
def sRaise (x : String) : Env → Out := fun ρ => .exc x ρ
section
variable {c : C0} {W : WX} {te : TE} {tt : TT} {t u : TS} {e : Env → Res D} {b : Env → Res Bool} {s s2 : Env → Out} {pu fr : Bool}
theorem ss_seq (h : SS c W t s) (h2 : SS c W u s2) : SS c W (tSeq t u) (sSeq s s2) := fun H0 Wd Al T σ H ρ nx rt bk ct I q => by
  show t ⟨u ⟨nx, rt, bk, ct⟩, rt, bk, ct⟩ σ H
  refine h H0 Wd Al T σ H ρ _ _ _ _ I ?_
  unfold sSeq at q
  cases z : s ρ with
  | nx ρ1 =>
    rw [z] at q
    exact fun σ' H' T' I' => h2 H0 Wd Al T' σ' H' ρ1 _ _ _ _ I' q
  | ret d ρ1 => rw [z] at q; exact q
  | brk ρ1 => rw [z] at q; exact q
  | ct ρ1 => rw [z] at q; exact q
  | exc x ρ1 => rw [z] at q; exact q
  | bad => rw [z] at q; exact q
theorem ss_then {f : D → Env → Out} {k : V → TS} (he : SE c W te e pu fr)
    (hk : ∀ (H0 : Hp) (Wd Al : Addr → Prop) (T : Nat → List Addr) (σ : L2.St) (H1 H : Hp) (ρ : Env) (d : D) (v : V) (S : List Addr) (nx : L2.St → Hp → Prop) (rt : VK) (bk ct : L2.St → Hp → Prop), SIT c H0 Wd Al T σ H ρ → Rep c.K H v d S → (∀ a, H1 a = none → c.B a = none ∧ H0 a = none) → (fr = true → New c.K H1 H T v d S) → Good c W H0 Wd Al nx rt bk ct (f d ρ) → k v ⟨nx, rt, bk, ct⟩ σ H) :
    SS c W (fun D σ H => te σ H fun v H1 => k v D σ H1) (fun ρ => (e ρ).then f) := fun H0 Wd Al T σ H ρ nx rt bk ct I q => he H0 Wd Al T σ H ρ _ I (by
  dsimp only [Res.then] at q
  cases z : e ρ with
  | bad => rw [z] at q; exact q
  | exc x ρ' => rw [z] at q; exact fun H' T' I' => q σ H' T' I'
  | ok d ρ' =>
    rw [z] at q
    exact fun v H' T' S I' r g nw p f1 => hk H0 Wd Al T' σ H H' ρ' d v S nx rt bk ct I' r I.newB f1 q)
theorem ss_asg (i : Nat) (he : SE c W te e pu true) (h2 : Nat.beq (c.O i) 2 = false := by rfl) (hi : c.ios.contains i = false := by rfl) : SS c W (tAsg te (gName i)) (sAsg i e) :=
  ss_then (k := fun v D σ H => D.nx (σ.set i (some v)) H) he fun H0 Wd Al T σ H1 H ρ d v S nx rt bk ct I r hb n q => by
    obtain ⟨T', I', _⟩ := I.put hb r (n rfl) (Nat.ne_of_beq_eq_false h2) hi
    exact q _ _ _ I'
theorem ss_ret (he : SE c W te e pu true) : SS c W (tRet te) (sRet e) :=
  ss_then (k := fun v D σ H => D.rt v H) he fun H0 Wd Al T σ H1 H ρ d v S nx rt bk ct I r hb n q => q v σ H T S I r fun _ => ⟨⟨(n rfl).nw.nod, fun a ha => (hb a ((n rfl).nw.new a ha)).1, (n rfl).nw.nf⟩, (n rfl).top⟩
theorem ss_retS (hf : c.fr = false) (he : SE c W te e pu fr) : SS c W (tRet te) (sRet e) :=
  ss_then (k := fun v D σ H => D.rt v H) he fun H0 Wd Al T σ H1 H ρ d v S nx rt bk ct I r hb n q => q v σ H T S I r fun z => by rw [hf] at z; cases z
theorem ss_retO (i : Nat) (h : c.O i = 1 := by rfl) : SS c W (tRet (tVar i)) (sRet (eV i)) := fun H0 Wd Al T σ H ρ nx rt bk ct I q => by
  unfold sRet eV at q
  dsimp only [Res.then] at q
  cases e : (ρ[i]?).join with
  | none => rw [e] at q; exact q.elim
  | some d =>
    rw [e] at q
    obtain ⟨v, hv, r⟩ := I.slot e
    exact ⟨v, hv, q v σ H T (T i) I r fun _ => ⟨⟨I.nod i (by omega), I.loc i h, fun a ha => (I.own i (by omega) a ha).2⟩, I.top i (by omega) v d hv e⟩⟩
theorem ss_drop (he : SE c W te e pu fr) : SS c W (tDrop te) (sDrop e) :=
  ss_then (k := fun v D σ H => D.nx σ H) he fun H0 Wd Al T σ H1 H ρ d v S nx rt bk ct I r hb n q => q σ H T I
theorem ss_retN : SS c W tRetN sRetN := fun H0 Wd Al T σ H ρ nx rt bk ct I q => q .non σ H T [] I .non fun _ => ⟨Nw.nil, trivial⟩
theorem ss_next : SS c W tNext sNext := fun H0 Wd Al T σ H ρ nx rt bk ct I q => q σ H T I
theorem ss_brk : SS c W tBreak sBrk := fun H0 Wd Al T σ H ρ nx rt bk ct I q => q σ H T I
theorem ss_ct : SS c W tCont sCt := fun H0 Wd Al T σ H ρ nx rt bk ct I q => q σ H T I
theorem ss_raise {x : String} : SS c W (tRaiseX W (.ref (He.ga c.K x))) (sRaise x) := fun H0 Wd Al T σ H ρ nx rt bk ct I q => q σ H T I
theorem ss_if (hb : ST c W tt b pu) (h : SS c W t s) (h2 : SS c W u s2) : SS c W (tIfS tt t u) (sIf b s s2) := fun H0 Wd Al T σ H ρ nx rt bk ct I q => hb H0 Wd Al T σ H ρ _ I (by
  unfold sIf at q
  dsimp only [Res.thenB] at q
  cases z : b ρ with
  | bad => rw [z] at q; exact q
  | exc x ρ' => rw [z] at q; exact fun H' T' I' => q σ H' T' I'
  | ok k ρ' =>
    rw [z] at q
    intro H' T' I' g nw p
    cases k with
    | true => exact h H0 Wd Al T' σ H' ρ' _ _ _ _ I' q
    | false => exact h2 H0 Wd Al T' σ H' ρ' _ _ _ _ I' q)
end
end Ol
namespace Ol
open PySem PySem.Spec PyProof.Rows L2
/-! ## what is walked -/
def WKr (K : PySem.W.Frag) (F : Hp → Hp → Prop) (ok : Addr → Prop) (H : Hp) (J : It) (ds : List D) : Prop :=
  ∀ (H2 : Hp) (i : Nat), F H H2 → (∀ d, ds[i]? = some d → J.go i H2 ∧ ∀ x H3, J.yld i H2 x H3 → H3 = H2 ∧ ∃ S, Rep K H2 x d S ∧ ∀ a ∈ S, ok a) ∧ (ds[i]? = none → J.stop i H2)
abbrev Wo (c : C0) (T : Nat → List Addr) : Addr → Prop := fun a => ∃ j, c.O j ≠ 0 ∧ a ∈ T j
def SIt (c : C0) (W : WX) (wi : TI) (it : Env → Res (List D)) (pu de : Bool) : Prop :=
  ∀ (H0 : Hp) (Wd Al : Addr → Prop) (T : Nat → List Addr) (σ : L2.St) (H : Hp) (ρ : Env) (R : It → Hp → Prop), SIT c H0 Wd Al T σ H ρ →
    (match it ρ with
      | .ok ds ρ' => ∀ J H' T', SIT c H0 Wd Al T' σ H' ρ' → Grw H H' → (∀ i, ∀ a ∈ T' i, a ∈ T i ∨ H a = none) → (pu = true → ρ' = ρ ∧ Same H H' ∧ T' = T) → WKr c.K Same (fun a => H' a ≠ none) H' J ds →
          (de = true → WKr c.K (Frm (Wo c T')) (fun a => H' a ≠ none ∧ (∀ j, c.O j ≠ 0 → a ∉ T' j) ∧ (H0 a = none ∨ Al a)) H' J ds) → R J H'
      | .exc x ρ' => ∀ H' T', SIT c H0 Wd Al T' σ H' ρ' → W (.ref (He.ga c.K x)) none σ H'
      | .bad => False) → wi σ H R
/-- a list, a tuple, a text -/
def iAny (K : PySem.W.Frag) (te : TE) : TI := fun σ H R => te σ H fun x H1 => (∃ a, x = .ref a ∧ (∃ xs, SqL K H1 a xs) ∧ R (Itl K a) H1) ∨ (∃ a, x = .ref a ∧ (∃ xs, SqT K H1 a xs) ∧ R (Itt K a) H1) ∨ ∃ z, x = .str z ∧ R (Its z) H1
theorem pi_any {X : Cx} {tg e : Expr} {te : TE} {K : PySem.W.Frag} (he : PE X e te) (hK : X.K = K := by rfl) : PI X tg e (iAny K te) := by
  subst hK
  refine ⟨fun pins s σ H R I h => ?_⟩
  refine thn (he.run pins s σ H _ I h) fun v s1 ⟨x, H1, I1, r1, q1⟩ => ?_
  rcases q1 with ⟨a, rfl, ⟨xs, hq⟩, q⟩ | ⟨a, rfl, ⟨xs, hq⟩, q⟩ | ⟨x, rfl, q⟩
  · cases r1
    obtain ⟨its, rv, p, hz⟩ := I1.list hq
    refine wpAny_pyIter_list p.isList ?_
    refine ⟨s1.heap.objs.size, [s1.heap.objs.size], _, _, H1, rfl, I1.kept (t' := s1.toks) fun b o e => Heap.get?_push_of_some _ e, turn_list a _, ⟨_, Heap.get?_push_size _ rfl, rfl, rfl⟩, fun b hb => ?_, q⟩
    have e : b = s1.heap.objs.size := by simpa using hb
    subst e
    exact I1.fpOk (Nat.le_refl _) (I1.hok.fresh (Nat.le_refl _))
  · cases r1
    obtain ⟨its, rv, p, hz⟩ := I1.tuple hq
    refine wpAny_pyIter_tuple (show s1.heap.IsTuple a its.toArray from p) ?_
    refine ⟨s1.heap.objs.size, [s1.heap.objs.size], _, _, H1, rfl, I1.kept (t' := s1.toks) fun b o e => Heap.get?_push_of_some _ e, turn_tuple a _, ⟨_, Heap.get?_push_size _ rfl, rfl, rfl⟩, fun b hb => ?_, q⟩
    have e : b = s1.heap.objs.size := by simpa using hb
    subst e
    exact I1.fpOk (Nat.le_refl _) (I1.hok.fresh (Nat.le_refl _))
  · obtain ⟨t, rfl⟩ := r1
    cases ha : x.cps.all (· < 128)
    · exact wpAny_pyIter_wide ha (pi_one (tk := s1.toks) I1 _ (turn_str _ x t "str_iterator" (.inr rfl)) ⟨_, Heap.get?_push_size _ rfl, rfl, rfl⟩ q)
    · exact wpAny_pyIter_ascii ha (pi_one (tk := s1.toks) I1 _ (turn_str _ x t "str_ascii_iterator" (.inl rfl)) ⟨_, Heap.get?_push_size _ rfl, rfl, rfl⟩ q)
def itemsD : D → Option (List D)
  | .lst xs => some xs
  | .tup xs => some xs
  | .str z => some (z.cps.toList.map fun c => .str ⟨#[c]⟩)
  | _ => none
@[simp] theorem items_lst {xs} : itemsD (.lst xs) = some xs := id rfl
@[simp] theorem items_tup {xs} : itemsD (.tup xs) = some xs := id rfl
@[simp] theorem items_str {z} : itemsD (.str z) = some (z.cps.toList.map fun c => .str ⟨#[c]⟩) := id rfl
def itE (e : Env → Res D) : Env → Res (List D) := fun ρ => (e ρ).bind fun d ρ1 => match itemsD d with
  | some xs => .ok xs ρ1
  | none => .bad
theorem walk_lst {K : PySem.W.Frag} {H : Hp} {a : Addr} {xs : List V} {ds : List D} {S : List Addr} {F : Hp → Hp → Prop} {ok : Addr → Prop} (h : Rd H a (.lst xs)) (r : Reps K H xs ds S) (hF : ∀ H2, F H H2 → Tk H H2 ∧ ∀ b ∈ a :: S, ∀ o, H b = some o → H2 b = some o) (hok : ∀ b ∈ S, ok b) : WKr K F ok H (Itl K a) ds := fun H2 i f => by
  obtain ⟨t, k⟩ := hF H2 f
  have h2 : SqL K H2 a xs := .inl (rd_keep (k a List.mem_cons_self) h)
  have r2 := r.mono t fun b hb => k b (List.mem_cons_of_mem _ hb)
  refine ⟨fun d hd => ?_, fun hd => ⟨xs, h2, ?_⟩⟩
  · obtain ⟨v, U, hv, rv, hU⟩ := r2.get hd
    refine ⟨⟨xs, v, h2, hv⟩, fun x H3 y => ⟨y.1, U, ?_, fun b hb => hok b (hU b hb)⟩⟩
    have := y.2 xs h2
    rw [hv] at this
    cases this
    exact rv
  · rw [r.length]
    exact List.getElem?_eq_none_iff.mp hd
theorem walk_lstK {K : PySem.W.Frag} {H : Hp} {a : Addr} {xs : List V} {ds : List D} {S : List Addr} {F : Hp → Hp → Prop} {ok : Addr → Prop} (h : LK K a xs) (r : Reps K H xs ds S) (hF : ∀ H2, F H H2 → Tk H H2 ∧ ∀ b ∈ S, ∀ o, H b = some o → H2 b = some o) (hok : ∀ b ∈ S, ok b) : WKr K F ok H (Itl K a) ds := fun H2 i f => by
  obtain ⟨t, k⟩ := hF H2 f
  have h2 : SqL K H2 a xs := .inr h
  have r2 := r.mono t fun b hb => k b hb
  refine ⟨fun d hd => ?_, fun hd => ⟨xs, h2, ?_⟩⟩
  · obtain ⟨v, U, hv, rv, hU⟩ := r2.get hd
    refine ⟨⟨xs, v, h2, hv⟩, fun x H3 y => ⟨y.1, U, ?_, fun b hb => hok b (hU b hb)⟩⟩
    have := y.2 xs h2
    rw [hv] at this
    cases this
    exact rv
  · rw [r.length]
    exact List.getElem?_eq_none_iff.mp hd
theorem walk_tup {K : PySem.W.Frag} {H : Hp} {a : Addr} {xs : List V} {ds : List D} {S : List Addr} {F : Hp → Hp → Prop} {ok : Addr → Prop} (h : TupR K H a xs) (r : Reps K H xs ds S) (hF : ∀ H2, F H H2 → Tk H H2 ∧ ∀ b ∈ S, ∀ o, H b = some o → H2 b = some o) (hok : ∀ b ∈ S, ok b) : WKr K F ok H (Itt K a) ds := fun H2 i f => by
  obtain ⟨t, k⟩ := hF H2 f
  have h2 : SqT K H2 a xs := (t.sq h).sq
  have r2 := r.mono t fun b hb => k b hb
  refine ⟨fun d hd => ?_, fun hd => ⟨xs, h2, ?_⟩⟩
  · obtain ⟨v, U, hv, rv, hU⟩ := r2.get hd
    refine ⟨⟨xs, v, h2, hv⟩, fun x H3 y => ⟨y.1, U, ?_, fun b hb => hok b (hU b hb)⟩⟩
    have := y.2 xs h2
    rw [hv] at this
    cases this
    exact rv
  · rw [r.length]
    exact List.getElem?_eq_none_iff.mp hd
theorem walk_str {K : PySem.W.Frag} {H : Hp} {z : Str} {F : Hp → Hp → Prop} {ok : Addr → Prop} : WKr K F ok H (Its z) (z.cps.toList.map fun c => .str ⟨#[c]⟩) := fun H2 i f => by
  refine ⟨fun d hd => ?_, fun hd => ?_⟩
  · rw [List.getElem?_map] at hd
    cases e : z.cps.toList[i]? with
    | none => rw [e] at hd; cases hd
    | some k =>
      rw [e] at hd
      cases hd
      have hi := (List.getElem?_eq_some_iff.mp e).1
      refine ⟨show i < z.cps.size by simpa using hi, fun x H3 y => ⟨y.1, [], ?_, fun _ z => by cases z⟩⟩
      obtain ⟨_, c, hc, rfl⟩ := y
      have e2 : z.cps.toList[i]? = some c := by simpa using hc
      rw [e] at e2
      cases e2
      exact .str _
  · have := List.getElem?_eq_none_iff.mp hd
    show z.cps.size ≤ i
    simpa using this
theorem walk_rng {K : PySem.W.Frag} {H : Hp} {lo : Int} {n : Nat} {F : Hp → Hp → Prop} {ok : Addr → Prop} : WKr K F ok H (Itr lo n) ((List.range n).map fun k => .int (lo + (k : Nat))) := fun H2 i f => by
  refine ⟨fun d hd => ?_, fun hd => ?_⟩
  · rw [List.getElem?_map] at hd
    by_cases hi : i < n
    · rw [List.getElem?_range hi] at hd
      cases hd
      exact ⟨hi, fun x H3 y => ⟨y.1, [], y.2 ▸ .int _, fun _ z => by cases z⟩⟩
    · rw [List.getElem?_eq_none (by simp; omega)] at hd
      cases hd
  · have := List.getElem?_eq_none_iff.mp hd
    show n ≤ i
    simpa using this
section
variable {c : C0} {W : WX} {te : TE} {tt : TA} {e : Env → Res D} {as : Env → Res (List D)} {pu fr : Bool}
theorem si_gen {de : Bool} (he : SE c W te e pu fr) (hd : ∀ (H0 : Hp) (Wd Al : Addr → Prop) (T : Nat → List Addr) (σ : L2.St) (H : Hp) (ρ : Env) (d : D) (v : V) (H1 : Hp) (S : List Addr), SIT c H0 Wd Al T σ H ρ → (∀ a, H1 a = none → c.B a = none ∧ H0 a = none) → (fr = true → New c.K H1 H T v d S) → de = true → ∀ a ∈ S, (∀ j, c.O j ≠ 0 → a ∉ T j) ∧ (H0 a = none ∨ Al a)) :
    SIt c W (iAny c.K te) (itE e) pu de := fun H0 Wd Al T σ H ρ R I q => he H0 Wd Al T σ H ρ _ I (by
  unfold itE at q
  cases z : e ρ with
  | bad => rw [z] at q; exact q
  | exc x ρ' => rw [z] at q; exact q
  | ok d ρ' =>
    rw [z, Res.bind_ok] at q
    intro v H' T' S I' r g nw p f1
    have hd' := fun h => hd H0 Wd Al T' σ H' ρ' d v H S I' I.newB f1 h
    cases z2 : itemsD d with
    | none => rw [z2] at q; exact q.elim
    | some xs =>
      rw [z2] at q
      have key : ∀ (S' : List Addr), (∀ a ∈ S', a ∈ S) → de = true → (∀ H2, Frm (Wo c T') H' H2 → Tk H' H2 ∧ ∀ b ∈ S', ∀ o, H' b = some o → H2 b = some o) := fun S' hS hde H2 fr => ⟨fr.tup, fun b hb o ho => fr.keep b o (fun ⟨j, hj, hm⟩ => (hd' hde b (hS b hb)).1 j hj hm) ho⟩
      have key2 : ∀ (S' : List Addr), (∀ H2, Same H' H2 → Tk H' H2 ∧ ∀ b ∈ S', ∀ o, H' b = some o → H2 b = some o) := fun S' H2 s => ⟨Tk.same s, fun b _ o ho => s b o ho⟩
      cases d with
      | lst ds =>
        cases z2
        obtain ⟨a, ys, S1, rfl, h0, h2, hh⟩ := rep_lst r
        rcases hh with ⟨rfl, h1⟩ | ⟨rfl, h1⟩
        · exact .inl ⟨a, rfl, ⟨ys, h0⟩, q _ H' T' I' g nw p (walk_lst h1 h2 (key2 _) fun b hb => h2.dom b hb) fun hde => walk_lst h1 h2 (key _ (fun _ z => z) hde) fun b hb => ⟨h2.dom b hb, hd' hde b (List.mem_cons_of_mem _ hb)⟩⟩
        · exact .inl ⟨a, rfl, ⟨ys, h0⟩, q _ H' T' I' g nw p (walk_lstK h1 h2 (key2 _) fun b hb => h2.dom b hb) fun hde => walk_lstK h1 h2 (key _ (fun _ z => z) hde) fun b hb => ⟨h2.dom b hb, hd' hde b hb⟩⟩
      | tup ds =>
        cases z2
        obtain ⟨a, ys, rfl, h1, h2⟩ := rep_tupR r
        exact .inr (.inl ⟨a, rfl, ⟨ys, h1.sq⟩, q _ H' T' I' g nw p (walk_tup h1 h2 (key2 _) fun b hb => h2.dom b hb) fun hde => walk_tup h1 h2 (key _ (fun _ z => z) hde) fun b hb => ⟨h2.dom b hb, hd' hde b hb⟩⟩)
      | str y =>
        cases z2
        obtain ⟨rfl, rfl⟩ := rep_str r
        exact .inr (.inr ⟨y, rfl, q _ H' T' I' g nw p walk_str fun _ => walk_str⟩)
      | _ => cases z2)
theorem si_new (he : SE c W te e pu true) : SIt c W (iAny c.K te) (itE e) pu true := si_gen he fun H0 Wd Al T σ H ρ d v H1 S I hb n _ a ha => ⟨fun j _ => (n rfl).dis j a ha, .inl (hb a ((n rfl).nw.new a ha)).2⟩
/-- whatever it is, to be read only (a comprehension) -/
theorem si_any (he : SE c W te e pu fr) : SIt c W (iAny c.K te) (itE e) pu false := si_gen he fun H0 Wd Al T σ H ρ d v H1 S I hb n h => by cases h
theorem si_var (i : Nat) (h : c.O i = 0 := by rfl) (hlk : c.lks.contains i = false := by rfl) : SIt c W (iAny c.K (tVar i)) (itE (eV i)) true true := fun H0 Wd Al T σ H ρ R I q => by
  unfold itE eV at q
  cases z : (ρ[i]?).join with
  | none => rw [z] at q; exact q.elim
  | some d =>
    rw [z] at q
    rw [Res.bind_ok] at q
    obtain ⟨v, hv, r⟩ := I.slot z
    refine ⟨v, hv, ?_⟩
    cases z2 : itemsD d with
    | none => rw [z2] at q; exact q.elim
    | some xs =>
      rw [z2] at q
      have al : ∀ a ∈ T i, (∀ j, c.O j ≠ 0 → a ∉ T j) ∧ (H0 a = none ∨ Al a) := fun a ha => ⟨fun j hj => I.dis i j hj (fun e => hj (e ▸ h)) a ha, I.all i (fun z => by rw [List.contains_iff_mem.mpr z] at hlk; cases hlk) a ha⟩
      have key : ∀ (S' : List Addr), (∀ a ∈ S', a ∈ T i) → (∀ H2, Frm (Wo c T) H H2 → Tk H H2 ∧ ∀ b ∈ S', ∀ o, H b = some o → H2 b = some o) := fun S' hS H2 fr => ⟨fr.tup, fun b hb o ho => fr.keep b o (fun ⟨j, hj, hm⟩ => (al b (hS b hb)).1 j hj hm) ho⟩
      have key2 : ∀ (S' : List Addr), (∀ H2, Same H H2 → Tk H H2 ∧ ∀ b ∈ S', ∀ o, H b = some o → H2 b = some o) := fun S' H2 s => ⟨Tk.same s, fun b _ o ho => s b o ho⟩
      have nw : ∀ k, ∀ a ∈ T k, a ∈ T k ∨ H a = none := fun k a ha => .inl ha
      cases d with
      | lst ds =>
        cases z2
        obtain ⟨a, ys, S1, rfl, h0, h2, hh⟩ := rep_lst r
        rcases hh with ⟨e1, h1⟩ | ⟨e1, h1⟩
        case' inr => exact .inl ⟨a, rfl, ⟨ys, h0⟩, q _ H T I Grw.refl nw (fun _ => ⟨rfl, Same.refl _, rfl⟩) (walk_lstK h1 h2 (key2 _) fun b hb => h2.dom b hb) fun _ => walk_lstK h1 h2 (key _ fun b hb => by rw [e1]; exact hb) fun b hb => ⟨h2.dom b hb, al b (by rw [e1]; exact hb)⟩⟩
        refine .inl ⟨a, rfl, ⟨ys, h0⟩, q _ H T I Grw.refl nw (fun _ => ⟨rfl, Same.refl _, rfl⟩) (walk_lst h1 h2 (key2 _) fun b hb => h2.dom b hb) fun _ => walk_lst h1 h2 (key _ fun b hb => by rw [e1]; exact hb) fun b hb => ⟨h2.dom b hb, al b (by rw [e1]; exact List.mem_cons_of_mem _ hb)⟩⟩
      | tup ds =>
        cases z2
        obtain ⟨a, ys, rfl, h1, h2⟩ := rep_tupR r
        exact .inr (.inl ⟨a, rfl, ⟨ys, h1.sq⟩, q _ H T I Grw.refl nw (fun _ => ⟨rfl, Same.refl _, rfl⟩) (walk_tup h1 h2 (key2 _) fun b hb => h2.dom b hb) fun _ => walk_tup h1 h2 (key _ fun b hb => hb) fun b hb => ⟨h2.dom b hb, al b hb⟩⟩)
      | str y =>
        cases z2
        obtain ⟨rfl, _⟩ := rep_str r
        exact .inr (.inr ⟨y, rfl, q _ H T I Grw.refl nw (fun _ => ⟨rfl, Same.refl _, rfl⟩) walk_str fun _ => walk_str⟩)
      | _ => cases z2
/-! range -/
end
def rng1D : List D → Option (List D)
  | [.int j] => if -(2 ^ 62) ≤ j ∧ j < 2 ^ 62 then some ((List.range j.toNat).map fun k => .int (0 + (k : Nat))) else none
  | _ => none
def rng2D : List D → Option (List D)
  | [.int i, .int j] => if (-(2 ^ 62) ≤ i ∧ i < 2 ^ 62) ∧ -(2 ^ 62) ≤ j ∧ j < 2 ^ 62 then some ((List.range (j - i).toNat).map fun k => .int (i + (k : Nat))) else none
  | _ => none
def itO (f : List D → Option (List D)) (as : Env → Res (List D)) : Env → Res (List D) := fun ρ => (as ρ).bind fun d ρ1 => match f d with
  | some xs => .ok xs ρ1
  | none => .bad
section
variable {c : C0} {W : WX} {te : TE} {tt : TA} {e : Env → Res D} {as : Env → Res (List D)} {pu fr : Bool}
theorem si_args {wR : List V → Hp → (It → Hp → Prop) → Prop} {f : List D → Option (List D)} (hw : ∀ H vs ds S xs (R : It → Hp → Prop), Reps c.K H vs ds S → f ds = some xs → (∀ J, (∀ F ok, WKr c.K F ok H J xs) → R J H) → wR vs H R) (ha : SA c W tt as pu fr) :
    SIt c W (fun σ H R => tt σ H fun vs H1 => wR vs H1 R) (itO f as) pu true := fun H0 Wd Al T σ H ρ R I q => ha H0 Wd Al T σ H ρ _ I (by
  unfold itO at q
  cases z : as ρ with
  | bad => rw [z] at q; exact q
  | exc x ρ' => rw [z] at q; exact q
  | ok d ρ' =>
    rw [z, Res.bind_ok] at q
    intro vs H' T' S I' r g nw p f1
    cases z2 : f d with
    | none => rw [z2] at q; exact q.elim
    | some xs =>
      rw [z2] at q
      exact hw H' vs d S xs R r z2 fun J k => q J H' T' I' g nw p (k _ _) fun _ => k _ _)
theorem si_rng1 (ha : SA c W tt as pu fr) : SIt c W (iRng1 tt) (itO rng1D as) pu true := si_args (wR := fun vs H1 R => ∃ j : Int, vs = [.int j] ∧ -(2 ^ 62) ≤ j ∧ j < 2 ^ 62 ∧ R (Itr 0 j.toNat) H1) (fun H vs ds S xs R r e q => by
  unfold rng1D at e
  split at e
  · obtain ⟨v, rfl, h⟩ := reps1 r
    obtain ⟨rfl, rfl⟩ := rep_int h
    split at e
    · rename_i hj
      cases e
      exact ⟨_, rfl, hj.1, hj.2, q _ fun _ _ => walk_rng⟩
    · cases e
  · cases e) ha
theorem si_rng2 (ha : SA c W tt as pu fr) : SIt c W (iRng2 tt) (itO rng2D as) pu true := si_args (wR := fun vs H1 R => ∃ i j : Int, vs = [.int i, .int j] ∧ (-(2 ^ 62) ≤ i ∧ i < 2 ^ 62 ∧ -(2 ^ 62) ≤ j ∧ j < 2 ^ 62) ∧ R (Itr i (j - i).toNat) H1) (fun H vs ds S xs R r e q => by
  unfold rng2D at e
  split at e
  · obtain ⟨v, u, S1, S2, rfl, h, h'⟩ := reps2 r
    obtain ⟨rfl, rfl⟩ := rep_int h
    obtain ⟨rfl, rfl⟩ := rep_int h'
    split at e
    · rename_i hj
      cases e
      exact ⟨_, _, rfl, ⟨hj.1.1, hj.1.2, hj.2.1, hj.2.2⟩, q _ fun _ _ => walk_rng⟩
    · cases e
  · cases e) ha
end
/-! targets -/
theorem wipe_set (σ : L2.St) (a : Option V) : ∀ (vs : List Nat) (i : Nat), i ∈ vs → wipe (σ.set i a) vs = wipe σ vs
  | [], _, h => by cases h
  | w :: vs, i, h => by
    show (wipe (σ.set i a) vs).set w none = (wipe σ vs).set w none
    by_cases hi : i ∈ vs
    · rw [wipe_set σ a vs i hi]
    · have e : i = w := by
        rcases List.mem_cons.mp h with h | h
        · exact h
        · exact absurd h hi
      subst e
      have : ∀ (us : List Nat) (τ : L2.St), i ∉ us → wipe (τ.set i a) us = (wipe τ us).set i a := by
        intro us
        induction us with
        | nil => intro τ _; rfl
        | cons u us ih =>
          intro τ hn
          have h1 : i ≠ u := fun e => hn (by rw [e]; exact List.mem_cons_self)
          show (wipe (τ.set i a) us).set u none = ((wipe τ us).set u none).set i a
          rw [ih τ fun z => hn (List.mem_cons_of_mem _ z), List.set_comm _ _ h1]
      rw [this vs σ hi, List.set_set]
def SG (c : C0) (tg : TG) (g : D → Env → Option Env) (sl : List Nat) : Prop :=
  ∀ (H0 : Hp) (Wd Al : Addr → Prop) (T : Nat → List Addr) (σ : L2.St) (H : Hp) (ρ ρ' : Env) (d : D) (v : V) (S : List Addr) (q : L2.St → Hp → Prop), SIT c H0 Wd Al T σ H ρ → Rep c.K H v d S → (∀ j, c.O j ≠ 0 → ∀ a ∈ S, a ∉ T j) → (∀ a ∈ S, H0 a = none ∨ Al a) → g d ρ = some ρ' →
    (∀ σ' T', SIT c H0 Wd Al T' σ' H ρ' → (∀ vs, (∀ i ∈ sl, i ∈ vs) → wipe σ' vs = wipe σ vs) → (∀ k, k ∉ sl → T' k = T k) → q σ' H) → tg v σ H q
def gNm (i : Nat) : D → Env → Option Env := fun d ρ => some (ρ.set i (some d))
theorem sg_name {c : C0} (i : Nat) (h : c.O i = 0 := by rfl) (hi : c.ios.contains i = false := by rfl) : SG c (gName i) (gNm i) [i] := fun H0 Wd Al T σ H ρ ρ' d v S q I r di al e k => by
  cases e
  obtain ⟨T', I', _, hk⟩ := I.putR (i := i) r (fun z => absurd h z) di al (by omega) hi
  exact k _ T' I' (fun vs h => wipe_set _ _ vs i (h i List.mem_cons_self)) fun j hj => hk j fun e => hj (by rw [e]; exact List.mem_cons_self)
def SGs (c : C0) (tg : TGs) (g : List D → Env → Option Env) (sl : List Nat) : Prop :=
  ∀ (H0 : Hp) (Wd Al : Addr → Prop) (T : Nat → List Addr) (σ : L2.St) (H : Hp) (ρ ρ' : Env) (ds : List D) (vs : List V) (S : List Addr) (q : L2.St → Hp → Prop), SIT c H0 Wd Al T σ H ρ → Reps c.K H vs ds S → S.Nodup → (∀ j, c.O j ≠ 0 → ∀ a ∈ S, a ∉ T j) → (∀ a ∈ S, H0 a = none ∨ Al a) → (∀ a ∈ S, c.B a = none ∧ H0 a = none ∧ NF H a) → (∀ j, ∀ a ∈ S, a ∉ T j) → g ds ρ = some ρ' →
    (∀ σ' T', SIT c H0 Wd Al T' σ' H ρ' → (∀ vs, (∀ i ∈ sl, i ∈ vs) → wipe σ' vs = wipe σ vs) → (∀ k, k ∉ sl → T' k = T k) → q σ' H) → tg vs σ H q
def gNils : List D → Env → Option Env
  | [], ρ => some ρ
  | _, _ => none
def gConss (i : Nat) (g : List D → Env → Option Env) : List D → Env → Option Env
  | d :: ds, ρ => g ds (ρ.set i (some d))
  | _, _ => none
theorem sgs_nil {c : C0} : SGs c gNil gNils [] := fun H0 Wd Al T σ H ρ ρ' ds vs S q I r n di al b dj e k => by
  cases r with
  | nil => cases e; exact ⟨rfl, k σ T I (fun _ _ => rfl) fun _ _ => rfl⟩
  | cons _ _ => cases e
theorem sgs_cons {c : C0} {tg : TGs} {g : List D → Env → Option Env} {sl : List Nat} (i : Nat) (hg : SGs c tg g sl) (h2 : c.O i = 0 := by rfl) (hi : c.ios.contains i = false := by rfl) : SGs c (gCons (gName i) tg) (gConss i g) (i :: sl) := fun H0 Wd Al T σ H ρ ρ' ds vs S q I r n di al b dj e k => by
  cases r with
  | nil => cases e
  | @cons v vs d ds S1 S2 r1 r2 =>
    obtain ⟨n1, n2, n3⟩ := List.nodup_append.mp n
    have m1 : ∀ a ∈ S1, a ∈ S1 ++ S2 := fun a ha => List.mem_append_left _ ha
    have m2 : ∀ a ∈ S2, a ∈ S1 ++ S2 := fun a ha => List.mem_append_right _ ha
    obtain ⟨T', I', hT, hk⟩ := I.putR (i := i) r1 (fun z => absurd h2 z) (fun j hj a ha => di j hj a (m1 a ha)) (fun a ha => al a (m1 a ha)) (by omega) hi
    refine ⟨v, vs, rfl, ?_⟩
    have off : ∀ j, ∀ a ∈ S2, a ∉ T' j := fun j a ha z => by
      rcases hT j a z with z | z
      · exact dj j a (m2 a ha) z
      · exact n3 a z a ha rfl
    exact hg H0 Wd Al T' _ H _ ρ' ds vs S2 q I' r2 n2 (fun j _ a ha => off j a ha) (fun a ha => al a (m2 a ha)) (fun a ha => b a (m2 a ha)) off e fun σ' T2 I2 hw h2 => k σ' T2 I2 (fun us h => (hw us fun i hi => h i (List.mem_cons_of_mem _ hi)).trans (wipe_set _ _ us i (h i List.mem_cons_self))) fun j hj => (h2 j fun z => hj (List.mem_cons_of_mem _ z)).trans (hk j fun e => hj (by rw [e]; exact List.mem_cons_self))
/-- a tuple unpacked -/
def sUnp (e : Env → Res D) (g : List D → Env → Option Env) : Env → Out := fun ρ => (e ρ).then fun d ρ1 => match d with
  | .tup ds => (match g ds ρ1 with
    | some ρ2 => .nx ρ2
    | none => .bad)
  | _ => .bad
theorem ss_unp {c : C0} {W : WX} {te : TE} {e : Env → Res D} {pu : Bool} {n : Nat} {tg : TGs} {g : List D → Env → Option Env} {sl : List Nat} (he : SE c W te e pu true) (hg : SGs c tg g sl) (hn : ∀ ds ρ ρ', g ds ρ = some ρ' → ds.length = n) : SS c W (tAsg te (gTup c.K n tg)) (sUnp e g) :=
  ss_then (k := fun v D σ H => gTup c.K n tg v σ H D.nx) he fun H0 Wd Al T σ H1 H ρ d v S nx rt bk ct I r hb nn q => by
    cases d with
    | tup ds =>
      obtain ⟨a, xs, rfl, h1, h2⟩ := rep_tup r
      dsimp only at q
      cases z : g ds ρ with
      | none => rw [z] at q; exact q.elim
      | some ρ2 =>
        rw [z] at q
        have nw := nn rfl
        exact ⟨a, xs, rfl, h1, by rw [h2.length]; exact hn _ _ _ z, hg H0 Wd Al T σ H ρ ρ2 ds xs S _ I h2 nw.nw.nod (fun j _ a ha => nw.dis j a ha) (fun a ha => .inl (hb a (nw.nw.new a ha)).2) (fun a ha => ⟨(hb a (nw.nw.new a ha)).1, (hb a (nw.nw.new a ha)).2, nw.nw.nf a ha⟩) (fun j a ha => nw.dis j a ha) z fun σ' T' I' _ _ => q σ' H T' I'⟩
    | _ => exact q.elim
/-- a tuple unpacked by a for: its items nothing that may be written -/
def gTp (g : List D → Env → Option Env) : D → Env → Option Env := fun d ρ => match d with
  | .tup ds => if imms ds = true then g ds ρ else none
  | _ => none
theorem sg_tup {c : C0} {n : Nat} {tg : TGs} {g : List D → Env → Option Env} {sl : List Nat} (hg : SGs c tg g sl) (hn : ∀ ds ρ ρ', g ds ρ = some ρ' → ds.length = n) : SG c (gTup c.K n tg) (gTp g) sl := fun H0 Wd Al T σ H ρ ρ' d v S q I r di al e k => by
  unfold gTp at e
  split at e
  · split at e
    · rename_i im
      obtain ⟨a, xs, rfl, h1, h2⟩ := rep_tup r
      have e0 := h2.im im
      subst e0
      exact ⟨a, xs, rfl, h1, by rw [h2.length]; exact hn _ _ _ e, hg H0 Wd Al T σ H ρ ρ' _ xs [] q I h2 List.nodup_nil (fun _ _ _ z => (by cases z)) (fun _ z => (by cases z)) (fun _ z => (by cases z)) (fun _ _ z => (by cases z)) e k⟩
    · cases e
  · cases e
end Ol
namespace Ol
open PySem PySem.Spec PyProof.Rows L2
/-! ## loops -/
def forL (g : D → Env → Option Env) (body : Env → Out) : List D → Env → Out
  | [], ρ => .nx ρ
  | x :: xs, ρ => match g x ρ with
    | none => .bad
    | some ρ1 => match body ρ1 with
      | .nx ρ2 => forL g body xs ρ2
      | .ct ρ2 => forL g body xs ρ2
      | .brk ρ2 => .nx ρ2
      | .ret d ρ2 => .ret d ρ2
      | .exc x ρ2 => .exc x ρ2
      | .bad => .bad
def sFor (it : Env → Res (List D)) (g : D → Env → Option Env) (body : Env → Out) : Env → Out := fun ρ => match it ρ with
  | .ok xs ρ1 => forL g body xs ρ1
  | .exc x ρ1 => .exc x ρ1
  | .bad => .bad
section
variable {c : C0} {H0 : Hp} {Wd Al : Addr → Prop} {T T' : Nat → List Addr} {σ σ' : L2.St} {H H' : Hp} {ρ ρ' : Env}
theorem SIT.rebase (I : SIT c H0 Wd Al T σ H ρ) : SIT c H (Wo c T) (fun a => H0 a = none ∨ Al a) T σ H ρ :=
  ⟨Frm.refl, I.base, I.len, I.rep, I.dis, I.nod, fun i il a ha => .inr (I.all i il a ha), fun j hj a ha => ⟨.inr ⟨j, hj, ha⟩, (I.own j hj a ha).2⟩, I.top, I.loc, I.io, I.io2, I.lk⟩
theorem SIT.unbase (I : SIT c H0 Wd Al T σ H ρ) (J : SIT c H (Wo c T) (fun a => H0 a = none ∨ Al a) T' σ' H' ρ') : SIT c H0 Wd Al T' σ' H' ρ' := by
  have w : ∀ a, Wo c T a → H0 a = none ∨ Wd a := fun a ⟨j, hj, ha⟩ => (I.own j hj a ha).1
  refine ⟨⟨fun a o n h => J.frm.keep a o (fun z => ?_) (I.frm.keep a o n h), fun a h => I.frm.dom a (J.frm.dom a h), I.frm.tup.trans J.frm.tup⟩, J.base, J.len, J.rep, J.dis, J.nod, fun i il a ha => ?_, fun j hj a ha => ⟨?_, (J.own j hj a ha).2⟩, J.top, J.loc, J.io, J.io2, J.lk⟩
  · rcases w a z with q | q
    · rw [h] at q; cases q
    · exact n q
  · rcases J.all i il a ha with q | q
    · exact .inl (I.frm.dom a q)
    · exact q
  · rcases (J.own j hj a ha).1 with q | q
    · exact .inl (I.frm.dom a q)
    · exact w a q
end
theorem ss_for {c : C0} {W : WX} {wi : TI} {it : Env → Res (List D)} {pu : Bool} {tg : TG} {g : D → Env → Option Env} {sl : List Nat} {tb : TS} {body : Env → Out} (hi : SIt c W wi it pu true) (hg : SG c tg g sl) (hb : SS c W tb body) : SS c W (tFor wi tg tb) (sFor it g body) := fun H0 Wd Al T σ H ρ nx rt bk ct I q => hi H0 Wd Al T σ H ρ _ I (by
  unfold sFor at q
  cases z : it ρ with
  | bad => rw [z] at q; exact q
  | exc x ρ' => rw [z] at q; exact fun H' T' I' => q σ H' T' I'
  | ok xs ρ1 =>
    rw [z] at q
    intro J H1 T1 I1 g1 nw p w1 w2
    have w := w2 rfl
    refine ⟨fun i m σ H => m = xs.length - i ∧ i ≤ xs.length ∧ ∃ T ρ, SIT c H1 (Wo c T1) (fun a => H0 a = none ∨ Al a) T σ H ρ ∧ Good c W H0 Wd Al nx rt bk ct (forL g body (xs.drop i) ρ), ⟨_, rfl, Nat.zero_le _, T1, ρ1, I1.rebase, q⟩, ?_⟩
    rintro i m σ2 H2 ⟨rfl, hle, T2, ρ2, I2, gd⟩
    obtain ⟨w3, w4⟩ := w H2 i I2.frm
    cases e : xs[i]? with
    | none =>
      refine .inl ⟨w4 e, ?_⟩
      rw [List.drop_eq_nil_of_le (List.getElem?_eq_none_iff.mp e)] at gd
      exact gd σ2 H2 T2 (I1.unbase I2)
    | some d =>
      obtain ⟨hlt, hd⟩ := List.getElem?_eq_some_iff.mp e
      obtain ⟨go, yl⟩ := w3 d e
      refine .inr ⟨go, fun σ H => ∃ T ρ, SIT c H1 (Wo c T1) (fun a => H0 a = none ∨ Al a) T σ H ρ ∧ Good c W H0 Wd Al nx rt bk ct (forL g body (xs.drop (i + 1)) ρ), fun σ' H' n => ⟨xs.length - (i + 1), by omega, rfl, hlt, n⟩, fun x H3 y => ?_⟩
      obtain ⟨rfl, S, rx, ok⟩ := yl x H3 y
      rw [List.drop_eq_getElem_cons hlt, hd] at gd
      unfold forL at gd
      cases z2 : g d ρ2 with
      | none => rw [z2] at gd; exact gd.elim
      | some ρ3 =>
        rw [z2] at gd
        dsimp only at gd
        refine hg H1 (Wo c T1) _ T2 σ2 H3 ρ2 ρ3 d x S _ I2 rx (fun j hj a ha k => ?_) (fun a ha => .inr (ok a ha).2.2) z2 fun σ4 T4 I4 _ _ => ?_
        · rcases (I2.own j hj a k).1 with z | ⟨l, hl, z⟩
          · exact (ok a ha).1 z
          · exact (ok a ha).2.1 l hl z
        · refine hb H1 (Wo c T1) _ T4 σ4 H3 ρ3 _ _ _ _ I4 ?_
          cases z5 : body ρ3 with
          | nx ρ5 => rw [z5] at gd; exact fun σ' H' T' I' => ⟨T', ρ5, I', gd⟩
          | ct ρ5 => rw [z5] at gd; exact fun σ' H' T' I' => ⟨T', ρ5, I', gd⟩
          | brk ρ5 => rw [z5] at gd; exact fun σ' H' T' I' => gd σ' H' T' (I1.unbase I')
          | ret d5 ρ5 => rw [z5] at gd; exact fun v σ' H' T' S I' => gd v σ' H' T' S (I1.unbase I')
          | exc x ρ5 => rw [z5] at gd; exact fun σ' H' T' I' => gd σ' H' T' (I1.unbase I')
          | bad => rw [z5] at gd; exact gd)
def whF (b : Env → Res Bool) (body : Env → Out) : Nat → Env → Out
  | 0, _ => .bad
  | n + 1, ρ => match b ρ with
    | .ok true ρ1 => (match body ρ1 with
      | .nx ρ2 => whF b body n ρ2
      | .ct ρ2 => whF b body n ρ2
      | .brk ρ2 => .nx ρ2
      | .ret d ρ2 => .ret d ρ2
      | .exc x ρ2 => .exc x ρ2
      | .bad => .bad)
    | .ok false ρ1 => .nx ρ1
    | .exc x ρ1 => .exc x ρ1
    | .bad => .bad
def sWh (n : Nat) (b : Env → Res Bool) (body : Env → Out) : Env → Out := whF b body n
theorem ss_while {c : C0} {W : WX} {tt : TT} {b : Env → Res Bool} {pu : Bool} {tb : TS} {body : Env → Out} (n : Nat) (ht : ST c W tt b pu) (hb : SS c W tb body) : SS c W (tWhile tt tb) (sWh n b body) := fun H0 Wd Al T σ H ρ nx rt bk ct I q => by
  refine ⟨fun m σ H => ∃ T ρ, SIT c H0 Wd Al T σ H ρ ∧ Good c W H0 Wd Al nx rt bk ct (whF b body m ρ), ⟨n, T, ρ, I, q⟩, ?_⟩
  rintro m σ2 H2 ⟨T2, ρ2, I2, gd⟩
  cases m with
  | zero => exact gd.elim
  | succ m =>
    unfold whF at gd
    refine ht H0 Wd Al T2 σ2 H2 ρ2 _ I2 ?_
    cases z : b ρ2 with
    | bad => rw [z] at gd; exact gd
    | exc x ρ' => rw [z] at gd; exact fun H' T' I' => gd σ2 H' T' I'
    | ok k ρ3 =>
      rw [z] at gd
      intro H3 T3 I3 g3 nw3 p3
      cases k with
      | false => exact gd σ2 H3 T3 I3
      | true =>
        dsimp only at gd
        refine ⟨fun σ H => ∃ T ρ, SIT c H0 Wd Al T σ H ρ ∧ Good c W H0 Wd Al nx rt bk ct (whF b body m ρ), fun σ' H' k => ⟨m, Nat.lt_succ_self m, k⟩, ?_⟩
        refine hb H0 Wd Al T3 σ2 H3 ρ3 _ _ _ _ I3 ?_
        cases z5 : body ρ3 with
        | nx ρ5 => rw [z5] at gd; exact fun σ' H' T' I' => ⟨T', ρ5, I', gd⟩
        | ct ρ5 => rw [z5] at gd; exact fun σ' H' T' I' => ⟨T', ρ5, I', gd⟩
        | brk ρ5 => rw [z5] at gd; exact gd
        | ret d5 ρ5 => rw [z5] at gd; exact gd
        | exc x ρ5 => rw [z5] at gd; exact gd
        | bad => rw [z5] at gd; exact gd
/-! ## list comprehensions -/
def wipeE (ρ : Env) : List Nat → Env
  | [] => ρ
  | v :: vs => (wipeE ρ vs).set v none
@[simp] theorem wipeE_nil {ρ : Env} : wipeE ρ [] = ρ := id rfl
@[simp] theorem wipeE_cons {ρ : Env} {v vs} : wipeE ρ (v :: vs) = (wipeE ρ vs).set v none := id rfl
theorem SIT.wipe {c : C0} {H0 : Hp} {Wd Al : Addr → Prop} {σ : L2.St} {H : Hp} {ρ : Env} : ∀ (vs : List Nat) {T : Nat → List Addr}, SIT c H0 Wd Al T σ H ρ → (∀ i ∈ vs, c.ios.contains i = false) → ∃ T', SIT c H0 Wd Al T' (L2.wipe σ vs) H (wipeE ρ vs) ∧ ∀ k, ∀ a ∈ T' k, a ∈ T k
  | [], T, I, _ => ⟨T, I, fun _ _ z => z⟩
  | v :: vs, T, I, h => by
    obtain ⟨T1, I1, h1⟩ := SIT.wipe vs I fun i hi => h i (List.mem_cons_of_mem _ hi)
    have hv := h v List.mem_cons_self
    obtain ⟨T2, I2, k1, k2⟩ := I1.drop v (fun z => by rw [List.contains_iff_mem.mpr (I1.lk v z).1.1] at hv; cases hv)
    refine ⟨T2, ⟨I2.frm, I2.base, by show ((L2.wipe σ vs).set v none).length = _; rw [List.length_set]; exact I2.len, fun i => ?_, I2.dis, I2.nod, I2.all, I2.own, fun j hj u du eu ed => ?_, I2.loc, fun p hp => ?_, I2.io2, I2.lk⟩, fun k a ha => ?_⟩
    · have r := I2.rep i
      by_cases e : i = v
      · subst e
        have e2 : ((wipeE ρ (i :: vs))[i]?).join = none := by
          show (((wipeE ρ vs).set i none)[i]?).join = none
          by_cases hl : i < (wipeE ρ vs).length
          · exact join_set_self hl
          · rw [List.getElem?_eq_none (by rw [List.length_set]; omega)]; rfl
        rw [show ((wipeE ρ (i :: vs))[i]?).join = none from e2]
        rw [show (((wipeE ρ vs).set i none)[i]?).join = none from e2] at r
        exact r
      · show RepO c.K H (((L2.wipe σ vs).set v none)[i]?).join _ _
        rw [List.getElem?_set_ne (Ne.symm e)]
        exact r
    · by_cases e : j = v
      · subst e
        have e2 : ((wipeE ρ (j :: vs))[j]?).join = none := by
          show (((wipeE ρ vs).set j none)[j]?).join = none
          by_cases hl : j < (wipeE ρ vs).length
          · exact join_set_self hl
          · rw [List.getElem?_eq_none (by rw [List.length_set]; omega)]; rfl
        rw [e2] at ed
        cases ed
      · have eu : ((L2.wipe σ vs).set v none)[j]? = some (some u) := eu
        rw [List.getElem?_set_ne (Ne.symm e)] at eu
        exact I2.top j hj u du eu ed
    · show ((L2.wipe σ vs).set v none)[p]? = _
      have : v ≠ p := fun e => by
        rw [e, List.contains_iff_mem.mpr hp] at hv
        cases hv
      rw [List.getElem?_set_ne this]
      exact I2.io p hp
    · by_cases e : k = v
      · by_cases hl : v < (wipeE ρ vs).length
        · rw [e, k2 hl] at ha
          cases ha
        · have r := I2.rep k
          subst e
          rw [show (((wipeE ρ vs).set k none)[k]?).join = none by rw [List.getElem?_eq_none (by rw [List.length_set]; omega)]; rfl] at r
          rw [show T2 k = [] from r] at ha
          cases ha
      · rw [k1 k e] at ha
        exact h1 k a ha
theorem wipe_wipe (σ : L2.St) (vs : List Nat) : L2.wipe (L2.wipe σ vs) vs = L2.wipe σ vs := by
  have : ∀ (us : List Nat) (τ : L2.St), (∀ u ∈ us, u ∈ vs) → L2.wipe (L2.wipe τ us) vs = L2.wipe τ vs := by
    intro us
    induction us with
    | nil => intro τ _; rfl
    | cons u us ih =>
      intro τ h
      show L2.wipe ((L2.wipe τ us).set u none) vs = _
      rw [wipe_set _ _ vs u (h u List.mem_cons_self)]
      exact ih τ fun w hw => h w (List.mem_cons_of_mem _ hw)
  exact this vs σ fun _ h => h
/-- pure -/
def compL (chk : Bool) (g : D → Env → Option Env) (t : Env → Res Bool) (e : Env → Res D) (ρ : Env) : List D → Option (List D)
  | [] => some []
  | x :: xs => if (chk && !imm x) = true then none else match g x ρ with
    | none => none
    | some ρ1 => match t ρ1 with
      | .ok true _ => (match e ρ1 with
        | .ok y _ => (compL chk g t e ρ xs).map (y :: ·)
        | _ => none)
      | .ok false _ => compL chk g t e ρ xs
      | _ => none
def eComp (it : Env → Res (List D)) (vs : List Nat) (chk : Bool) (g : D → Env → Option Env) (t : Env → Res Bool) (e : Env → Res D) : Env → Res D := fun ρ => (it ρ).bind fun xs ρ1 => if xs.length < 16777216 then match compL chk g t e (wipeE ρ1 vs) xs with
  | some ys => .ok (.lst ys) ρ1
  | none => .bad
  else .bad
abbrev W0 : WX := fun _ _ _ _ => False
theorem comp_core {c : C0} {wi : TI} {it : Env → Res (List D)} {pu de chk : Bool} {tg : TG} {g : D → Env → Option Env} {sl vs : List Nat} {tt : TT} {t : Env → Res Bool} {te : TE} {e : Env → Res D} {H0 : Hp} {Wd Al : Addr → Prop} {T : Nat → List Addr} {σ : L2.St} {H : Hp} {ρ : Env} {Q : VK} {Wx : String → Env → Prop}
    (hi : ∀ R : It → Hp → Prop, (match it ρ with
      | .ok ds ρ' => ∀ J H' T', SIT c H0 Wd Al T' σ H' ρ' → Grw H H' → (∀ i, ∀ a ∈ T' i, a ∈ T i ∨ H a = none) → (pu = true → ρ' = ρ ∧ Same H H' ∧ T' = T) → WKr c.K Same (fun a => H' a ≠ none) H' J ds →
          (de = true → WKr c.K (Frm (Wo c T')) (fun a => H' a ≠ none ∧ (∀ j, c.O j ≠ 0 → a ∉ T' j) ∧ (H0 a = none ∨ Al a)) H' J ds) → R J H'
      | .exc x ρ' => Wx x ρ'
      | .bad => False) → wi σ H R) (hde : (de || chk) = true) (hg : SG c tg g sl) (hsl : sl = vs) (ht : ST c W0 tt t true) (he : SE c W0 te e true true) (hio : ∀ i ∈ vs, c.ios.contains i = false)
    (q : match eComp it vs chk g t e ρ with
      | .ok d ρ' => ∀ v H' T' S, SIT c H0 Wd Al T' σ H' ρ' → Rep c.K H' v d S → Grw H H' → (∀ i, ∀ a ∈ T' i, a ∈ T i ∨ H a = none) → (pu = true → ρ' = ρ ∧ Same H H' ∧ T' = T) → (true = true → New c.K H H' T' v d S) → Q v H'
      | .exc x ρ' => Wx x ρ'
      | .bad => False) : tLc wi tg tt te vs σ H Q := hi _ (by
  subst hsl
  unfold eComp at q
  cases z : it ρ with
  | bad => rw [z] at q; exact q
  | exc x ρ' => rw [z] at q; exact q
  | ok xs ρ1 =>
    rw [z, Res.bind_ok] at q
    intro J H1 T1 I1 g1 nw p w1 w2
    by_cases hlen : xs.length < 16777216
    · rw [if_pos hlen] at q
      cases zc : compL chk g t e (wipeE ρ1 sl) xs with
      | none => rw [zc] at q; exact q.elim
      | some ys =>
        rw [zc] at q
        intro D hD
        refine ⟨fun i m H => m = xs.length - i ∧ i ≤ xs.length ∧ Same H1 H ∧ ∃ acc done rest S, H D = some (.lst acc) ∧ acc.length ≤ i ∧ Reps c.K H acc done S ∧ compL chk g t e (wipeE ρ1 sl) (xs.drop i) = some rest ∧ ys = done ++ rest ∧ S.Nodup ∧ (∀ a ∈ S, H1 a = none ∧ NF H a) ∧ D ∉ S,
          ⟨_, rfl, Nat.zero_le _, Same.new hD, [], [], ys, [], upd_same, Nat.le_refl _, .nil, zc, rfl, List.nodup_nil, fun _ z => (by cases z), fun z => by cases z⟩, ?_⟩
        rintro i m H2 ⟨rfl, hle, s2, acc, done, rest, S, hD2, hal, ra, hc, hy, nS, fS, nD⟩
        obtain ⟨w3, w4⟩ := w1 H2 i s2
        cases ex : xs[i]? with
        | none =>
          refine .inl ⟨w4 ex, ?_⟩
          rw [List.drop_eq_nil_of_le (List.getElem?_eq_none_iff.mp ex)] at hc
          cases hc
          rw [List.append_nil] at hy
          subst hy
          refine q _ H2 T1 (D :: S) (I1.same s2) (.lst (.inl hD2) ra) (g1.trans (Grw.same s2)) nw (fun hp => ?_) fun _ => ⟨⟨List.nodup_cons.mpr ⟨nD, nS⟩, fun a ha => ?_, fun a ha => ?_⟩, ⟨D, acc, S, rfl, rfl, hD2, ra⟩, fun k a ha z => ?_⟩
          · obtain ⟨e1, s1, t1⟩ := p hp
            exact ⟨e1, s1.trans s2, t1⟩
          · rcases List.mem_cons.mp ha with rfl | ha
            · exact g1.dom _ hD
            · exact g1.dom _ (fS a ha).1
          · rcases List.mem_cons.mp ha with rfl | ha
            · intro o u k; rw [hD2] at k; cases k
            · exact (fS a ha).2
          · rcases List.mem_cons.mp ha with rfl | ha
            · exact I1.doms k _ z hD
            · exact I1.doms k a z (fS a ha).1
        | some d =>
          obtain ⟨hlt, hd⟩ := List.getElem?_eq_some_iff.mp ex
          have wk : J.go i H2 ∧ ∀ x H3, J.yld i H2 x H3 → H3 = H2 ∧ ∃ S, Rep c.K H2 x d S ∧ (de = true → (∀ j, c.O j ≠ 0 → ∀ a ∈ S, a ∉ T1 j) ∧ ∀ a ∈ S, H0 a = none ∨ Al a) := by
            cases de with
            | false =>
              obtain ⟨a, b⟩ := w3 d ex
              refine ⟨a, fun x H3 y => ?_⟩
              obtain ⟨e, S, r, _⟩ := b x H3 y
              exact ⟨e, S, r, fun z => by cases z⟩
            | true =>
              obtain ⟨a, b⟩ := (w2 rfl H2 i ⟨fun a o _ h => s2 a o h, (Grw.same s2).dom, Tk.same s2⟩).1 d ex
              refine ⟨a, fun x H3 y => ?_⟩
              obtain ⟨e, S, r, ok⟩ := b x H3 y
              exact ⟨e, S, r, fun _ => ⟨fun j hj a ha => (ok a ha).2.1 j hj, fun a ha => (ok a ha).2.2⟩⟩
          obtain ⟨go, yl⟩ := wk
          rw [List.drop_eq_getElem_cons hlt, hd] at hc
          unfold compL at hc
          by_cases hk : (chk && !imm d) = true
          · rw [if_pos hk] at hc; cases hc
          rw [if_neg hk] at hc
          refine .inr ⟨go, fun H => i + 1 ≤ xs.length ∧ Same H1 H ∧ ∃ acc done rest S, H D = some (.lst acc) ∧ acc.length ≤ i + 1 ∧ Reps c.K H acc done S ∧ compL chk g t e (wipeE ρ1 sl) (xs.drop (i + 1)) = some rest ∧ ys = done ++ rest ∧ S.Nodup ∧ (∀ a ∈ S, H1 a = none ∧ NF H a) ∧ D ∉ S,
            fun H' n => ⟨xs.length - (i + 1), by omega, rfl, n⟩, fun x H3 y => ?_⟩
          obtain ⟨e3, Sx, rx, okx⟩ := yl x H3 y
          subst e3
          have Sx0 : (∀ j, c.O j ≠ 0 → ∀ a ∈ Sx, a ∉ T1 j) ∧ ∀ a ∈ Sx, H0 a = none ∨ Al a := by
            cases de with
            | true => exact okx rfl
            | false =>
              have hk2 : chk = true := by simpa using hde
              subst hk2
              have im : imm d = true := by simpa using hk
              have e0 := rx.im im
              subst e0
              exact ⟨fun _ _ _ z => (by cases z), fun _ z => (by cases z)⟩
          obtain ⟨Tw, Iw, hw⟩ := (I1.same s2).wipe sl hio
          cases z2 : g d (wipeE ρ1 sl) with
          | none => rw [z2] at hc; cases hc
          | some ρ3 =>
            rw [z2] at hc
            dsimp only at hc
            refine hg H0 Wd Al Tw _ H3 _ ρ3 d x Sx _ Iw rx (fun j hj a ha z => Sx0.1 j hj a ha (hw j a z)) Sx0.2 z2 fun σ4 T4 I4 hσ _ => ⟨?_, ?_⟩
            · rw [hσ sl fun _ h => h, wipe_wipe]
            · refine ht H0 Wd Al T4 σ4 H3 ρ3 _ I4 ?_
              cases z4 : t ρ3 with
              | bad => rw [z4] at hc; cases hc
              | exc x ρ' => rw [z4] at hc; cases hc
              | ok k ρ5 =>
                rw [z4] at hc
                intro H5 T5 I5 g5 nw5 p5
                obtain ⟨e5, s5, t5⟩ := p5 rfl
                subst e5 t5
                cases k with
                | false =>
                  rw [if_neg Bool.false_ne_true]
                  exact ⟨hlt, s2.trans s5, acc, done, rest, S, s5 _ _ hD2, by omega, ra.same s5, hc, hy, nS, fun a ha => ⟨(fS a ha).1, (fS a ha).2.same s5 (ra.dom a ha)⟩, nD⟩
                | true =>
                  rw [if_pos rfl]
                  refine he H0 Wd Al T5 σ4 H5 ρ5 _ I5 ?_
                  dsimp only at hc
                  cases z6 : e ρ5 with
                  | bad => rw [z6] at hc; cases hc
                  | exc x ρ' => rw [z6] at hc; cases hc
                  | ok y6 ρ6 =>
                    rw [z6] at hc
                    intro yv H6 T6 Sy I6 ry g6 nw6 p6 f6
                    obtain ⟨e6, s6, t6⟩ := p6 rfl
                    obtain ⟨⟨ny, my, ky⟩, _, dy⟩ := f6 rfl
                    have s26 := s5.trans s6
                    have hD6 := s26 _ _ hD2
                    refine ⟨acc, hD6, sz_lt (by omega), ?_⟩
                    dsimp only at hc
                    cases zr : compL chk g t e (wipeE ρ1 sl) (xs.drop (i + 1)) with
                    | none => rw [zr] at hc; cases hc
                    | some rest' =>
                      rw [zr] at hc
                      cases hc
                      have ne : ∀ a, H6 a ≠ none → a ≠ D → ∀ o, H6 a = some o → (upd H6 D (.lst (acc ++ [yv]))) a = some o := fun a _ n o h => by rw [upd_ne n]; exact h
                      have tk : Tk H6 (upd H6 D (.lst (acc ++ [yv]))) := fun a us h => by
                        have n : a ≠ D := fun e => by
                          subst e
                          rw [hD6] at h; cases h
                        rw [upd_ne n]; exact h
                      have yD : D ∉ Sy := fun h => by
                        have := g5.dom D (my D h)
                        rw [hD2] at this
                        cases this
                      have r1 := (ra.same s26).mono tk fun a ha o h => by
                        rw [upd_ne (fun e : a = D => nD (by rw [← e]; exact ha))]; exact h
                      have r2 := ry.mono tk fun a ha o h => by
                        rw [upd_ne (fun e : a = D => yD (by rw [← e]; exact ha))]; exact h
                      refine ⟨hlt, Same.mut (s2.trans s26) hD, acc ++ [yv], done ++ [y6], rest', S ++ Sy, upd_same, by simp; omega, r1.append (Reps.one r2), rfl, by rw [hy]; simp, List.nodup_append.mpr ⟨nS, ny, fun a ha b hb e => ?_⟩, fun a ha => ?_, fun h => ?_⟩
                      · subst e
                        exact (ra.same s5).dom a ha (my a hb)
                      · rcases List.mem_append.mp ha with ha | ha
                        · refine ⟨(fS a ha).1, fun o u k => ?_⟩
                          rw [upd_ne (fun e : a = D => nD (by rw [← e]; exact ha))] at k
                          exact (fS a ha).2.same s26 (ra.dom a ha) o u k
                        · refine ⟨(Grw.same (s2.trans s5)).dom a (my a ha), fun o u k => ?_⟩
                          rw [upd_ne (fun e : a = D => yD (by rw [← e]; exact ha))] at k
                          exact ky a ha o u k
                      · exact (List.mem_append.mp h).elim nD yD
    · rw [if_neg hlen] at q; exact q.elim)
theorem se_comp {c : C0} {W : WX} {wi : TI} {it : Env → Res (List D)} {pu de chk : Bool} {tg : TG} {g : D → Env → Option Env} {sl vs : List Nat} {tt : TT} {t : Env → Res Bool} {te : TE} {e : Env → Res D} (hi : SIt c W wi it pu de) (hde : (de || chk) = true) (hg : SG c tg g sl) (hsl : sl = vs) (ht : ST c W0 tt t true) (he : SE c W0 te e true true)
    (hio : ∀ i ∈ vs, c.ios.contains i = false) : SE c W (tLc wi tg tt te vs) (eComp it vs chk g t e) pu true := fun H0 Wd Al T σ H ρ Q I q => comp_core (Wx := fun x ρ' => ∀ H' T', SIT c H0 Wd Al T' σ H' ρ' → W (.ref (He.ga c.K x)) none σ H') (fun R h => hi H0 Wd Al T σ H ρ R I h) hde hg hsl ht he hio q
end Ol
namespace Ol
open PySem PySem.Spec PyProof.Rows L2
/-! ## defs -/
/-- the lists that are handed in to be written -/
def ioOk (K : PySem.W.Frag) (H : Hp) (io : List Nat) (vs : List V) (ds : List D) : Prop :=
  io ≠ [] → (∀ k d, ds[k]? = some d → k ∉ io → imm d = true) ∧ (∀ k ∈ io, ∃ (p : Addr) (es : List D) (xs : List V), vs[k]? = some (.ref p) ∧ ds[k]? = some (.lst es) ∧ imms es = true ∧ H p = some (.lst xs) ∧ Reps K H xs es []) ∧ ∀ k ∈ io, ∀ l ∈ io, k ≠ l → vs[k]? ≠ vs[l]?
def ioW (io : List Nat) (vs : List V) (a : Addr) : Prop := ∃ k ∈ io, vs[k]? = some (.ref a)
def outsOk (K : PySem.W.Frag) (H : Hp) (io : List Nat) (vs : List V) (o : Env) : Prop :=
  ∀ (j k : Nat), io[j]? = some k → ∃ (p : Addr) (es : List D) (xs : List V), vs[k]? = some (.ref p) ∧ o[j]? = some (some (.lst es)) ∧ imms es = true ∧ H p = some (.lst xs) ∧ Reps K H xs es []
def spF (K : PySem.W.Frag) (n : Nat) (io : List Nat) (fr : Bool) (f : List D → Res D) : Sp := fun vs H Q E =>
  ∃ (ds : List D) (S : List Addr), vs.length = n ∧ Reps K H vs ds S ∧ ioOk K H io vs ds ∧
    match f ds with
    | .ok r o => ∀ v H' U, Frm (ioW io vs) H H' → Rep K H' v r U → (fr = true → Nw H H' U ∧ Top K H' v r U) → outsOk K H' io vs o → Q v H'
    | .exc x o => ∀ H', Frm (ioW io vs) H H' → outsOk K H' io vs o → E (.ref (He.ga K x)) none H'
    | .bad => False
/-- a call that writes nothing of what it gets -/
def eCall (n : Nat) (f : List D → Res D) (as : Env → Res (List D)) : Env → Res D := fun ρ => (as ρ).bind fun ds ρ1 => if ds.length = n then match f ds with
  | .ok r _ => .ok r ρ1
  | .exc x _ => .exc x ρ1
  | .bad => .bad
  else .bad
theorem frm_none {io : List Nat} {vs : List V} {H H' : Hp} (e : io = []) (f : Frm (ioW io vs) H H') : Same H H' := fun a o h => f.keep a o (fun ⟨k, hk, _⟩ => by rw [e] at hk; cases hk) h
section
variable {c : C0} {W : WX} {tt : TA} {as : Env → Res (List D)} {pu fa fr : Bool} {n : Nat} {f : List D → Res D}
theorem se_callG {E : L2.St → XK} (hW : ∀ cls d σ H, W cls d σ H → E σ cls d H) (ha : SA c W tt as pu fa) : SE c W (fun σ H Q => tt σ H fun vs H1 => spF c.K n [] fr f vs H1 Q (E σ)) (eCall n f as) pu fr := fun H0 Wd Al T σ H ρ Q I q => ha H0 Wd Al T σ H ρ _ I (by
  unfold eCall at q
  cases z : as ρ with
  | bad => rw [z] at q; exact q
  | exc x ρ' => rw [z] at q; exact q
  | ok ds ρ1 =>
    rw [z, Res.bind_ok] at q
    intro vs H1 T1 S I1 r1 g1 nw1 p1 f1
    by_cases hl : ds.length = n
    · rw [if_pos hl] at q
      refine ⟨ds, S, by rw [r1.length]; exact hl, r1, fun z => absurd rfl z, ?_⟩
      cases z2 : f ds with
      | bad => rw [z2] at q; exact q
      | exc x o =>
        rw [z2] at q
        exact fun H' fm _ => hW _ _ _ _ (q H' T1 (I1.same (frm_none rfl fm)))
      | ok r o =>
        rw [z2] at q
        intro v H' U fm rv fv _
        have s := frm_none rfl fm
        refine q v H' T1 U (I1.same s) rv (g1.trans (Grw.same s)) nw1 (fun hp => ?_) fun hf => ?_
        · obtain ⟨e1, s1, t1⟩ := p1 hp
          exact ⟨e1, s1.trans s, t1⟩
        · obtain ⟨⟨m1, m2, m3⟩, tp⟩ := fv hf
          exact ⟨⟨m1, fun a ha => g1.dom a (m2 a ha), m3⟩, tp, fun i a ha k => I1.doms i a k (m2 a ha)⟩
    · rw [if_neg hl] at q; exact q.elim)
theorem se_call {E : XK} (ha : SA c (fun cls d _ H => E cls d H) tt as pu fa) : SE c (fun cls d _ H => E cls d H) (tCall (spF c.K n [] fr f) [] E tt) (eCall n f as) pu fr := by
  have := se_callG (fr := fr) (n := n) (f := f) (E := fun _ => E) (fun _ _ _ _ h => h) ha
  have e : tCall (spF c.K n [] fr f) [] E tt = fun σ H Q => tt σ H fun vs H1 => spF c.K n [] fr f vs H1 Q E := by
    funext σ H Q
    unfold tCall
    simp only [List.append_nil]
  rw [e]
  exact this
theorem se_callS (ha : SA c W tt as pu fa) : SE c W (tCallS (spF c.K n [] fr f) (WE W) tt) (eCall n f as) pu fr := se_callG (E := WE W) (fun _ _ _ _ h => h) ha
/-- nothing may be raised -/
theorem se_call0 (ha : SA c W0 tt as pu fa) : SE c W0 (tCall (spF c.K n [] fr f) [] E0 tt) (eCall n f as) pu fr := by
  have := se_callG (W := W0) (fr := fr) (n := n) (f := f) (E := fun _ => E0) (fun _ _ _ _ h => h.elim) ha
  have e : tCall (spF c.K n [] fr f) [] E0 tt = fun σ H Q => tt σ H fun vs H1 => spF c.K n [] fr f vs H1 Q E0 := by
    funext σ H Q
    unfold tCall
    simp only [List.append_nil]
  rw [e]
  exact this
end
/-! a def's body -/
@[simp] def ioAll (io : List Nat) (ρ : Env) : Bool := io.all fun k => ((ρ[k]?).join).isSome
def outF (io : List Nat) (o : Out) : Res D := match o with
  | .ret d ρ => if ioAll io ρ = true then .ok d (io.map fun k => (ρ[k]?).join) else .bad
  | .nx ρ => if ioAll io ρ = true then .ok .non (io.map fun k => (ρ[k]?).join) else .bad
  | .exc x ρ => if ioAll io ρ = true then .exc x (io.map fun k => (ρ[k]?).join) else .bad
  | _ => .bad
/-- n parameters, m more names -/
def runF (m : Nat) (io : List Nat) (body : Env → Out) : List D → Res D := fun ds => outF io (body (ds.map some ++ List.replicate m none))
theorem Reps.split {K : PySem.W.Frag} {H : Hp} : ∀ {ds : List D} {vs : List V} {S : List Addr}, Reps K H vs ds S → ∃ T : Nat → List Addr, ∀ i, RepO K H (vs[i]?) (ds[i]?) (T i) ∧ ∀ a ∈ T i, a ∈ S
  | [], _, _, h => by
    cases h
    exact ⟨fun _ => [], fun i => ⟨by simp [RepO], fun _ z => by cases z⟩⟩
  | d :: ds, _, _, h => by
    cases h with
    | @cons v vs _ _ S1 S2 h1 h2 =>
      obtain ⟨T, hT⟩ := Reps.split h2
      refine ⟨fun i => match i with
        | 0 => S1
        | i + 1 => T i, fun i => ?_⟩
      cases i with
      | zero => exact ⟨⟨v, rfl, h1⟩, fun a ha => List.mem_append_left _ ha⟩
      | succ i =>
        obtain ⟨r, m⟩ := hT i
        refine ⟨?_, fun a ha => List.mem_append_right _ (m a ha)⟩
        simp only [List.getElem?_cons_succ]
        exact r
theorem join_map {α : Type} (l : List α) (m i : Nat) : ((l.map some ++ List.replicate m none)[i]?).join = l[i]? := by
  by_cases h : i < l.length
  · rw [List.getElem?_append_left (by simpa using h), List.getElem?_map]
    cases l[i]? <;> rfl
  · rw [List.getElem?_append_right (by simpa using h)]
    rw [List.getElem?_eq_none (l := l) (by omega), List.getElem?_replicate]
    split <;> rfl
theorem start_eq {N : List Str} {vs : List V} {n m : Nat} (h : vs.length = n) (hN : N.length = n + m) : L2.start N vs = vs.map some ++ List.replicate m none := by
  unfold L2.start
  rw [h, hN, Nat.add_sub_cancel_left]
/-- the body of a def keeps the promise -/
theorem sim_def {c : C0} {E : XK} {t : TS} {body : Env → Out} {n m : Nat} {io : List Nat} {N : List Str} {H : Hp} {vs : List V} {Q : VK} {f : List D → Res D}
    (hs : SS c (fun cls d _ H => E cls d H) t body) (hc : c.B = H) (hio : c.ios = io) (hioa : ∀ k p, k ∈ io → vs[k]? = some (.ref p) → c.ioa k = p) (hO : ∀ k, k < n → k ∉ io → c.O k = 0) (hO2 : ∀ k, c.O k = 2 ↔ k ∈ io) (hN : N.length = n + m) (hlt : ∀ k ∈ io, k < n) (hlk : c.lks = [])
    (hf : f = runF m io body) (h : spF c.K n io c.fr f vs H Q E) : t ⟨fun _ H' => Q .non H', Q, fun _ _ => False, fun _ _ => False⟩ (L2.start N vs) H := by
  obtain ⟨ds, S, hl, r, hi, h⟩ := h
  subst hf hc hio
  rw [start_eq hl hN]
  obtain ⟨T, hT⟩ : ∃ T : Nat → List Addr, (∀ i, RepO c.K c.B (vs[i]?) (ds[i]?) (T i)) ∧ ∀ k ∈ c.ios, ∀ p, vs[k]? = some (.ref p) → T k = [p] := by
    obtain ⟨T, hT⟩ := r.split
    refine ⟨fun k => if k ∈ c.ios then (match vs[k]? with
      | some (.ref p) => [p]
      | _ => []) else T k, fun i => ?_, fun k hk p e => ?_⟩
    · dsimp only
      by_cases hk : i ∈ c.ios
      · rw [if_pos hk]
        obtain ⟨_, h2, _⟩ := hi (fun z => by rw [z] at hk; cases hk)
        obtain ⟨p, es, xs, e1, e2, im, e3, e4⟩ := h2 i hk
        rw [e1, e2]
        exact ⟨_, rfl, .lst (.inl e3) e4⟩
      · rw [if_neg hk]
        exact (hT i).1
    · dsimp only
      rw [if_pos hk, e]
  have hlen : ds.length = n := by rw [← r.length]; exact hl
  have atio : ∀ k ∈ c.ios, ∃ (p : Addr) (es : List D) (xs : List V), vs[k]? = some (.ref p) ∧ ds[k]? = some (.lst es) ∧ imms es = true ∧ c.B p = some (.lst xs) ∧ T k = [p] ∧ Reps c.K c.B xs es [] := fun k hk => by
    obtain ⟨_, h2, _⟩ := hi (fun z => by rw [z] at hk; cases hk)
    obtain ⟨p, es, xs, e1, e2, im, e3, e4⟩ := h2 k hk
    exact ⟨p, es, xs, e1, e2, im, e3, hT.2 k hk p e1, e4⟩
  have tn : ∀ k, n ≤ k → T k = [] := fun k hk => by
    have q := hT.1 k
    rw [List.getElem?_eq_none (l := ds) (by omega)] at q
    exact q
  have t0 : c.ios ≠ [] → ∀ k, k ∉ c.ios → T k = [] := fun hne k hk => by
    obtain ⟨h1, _, _⟩ := hi hne
    have q := hT.1 k
    cases e : ds[k]? with
    | none => rw [e] at q; exact q
    | some d =>
      rw [e] at q
      obtain ⟨x, _, q⟩ := q
      exact q.im (h1 k d e hk)
  have Oio : ∀ j, c.O j ≠ 0 → j ∈ c.ios ∨ (n ≤ j ∧ T j = []) := fun j hj => by
    by_cases hm : j ∈ c.ios
    · exact .inl hm
    · by_cases hn : j < n
      · exact absurd (hO j hn hm) hj
      · exact .inr ⟨by omega, tn j (by omega)⟩
  have I : SIT c c.B (ioW c.ios vs) (fun _ => True) T (vs.map some ++ List.replicate m none) c.B (ds.map some ++ List.replicate m none) := by
    refine ⟨Frm.refl, fun _ h => h, by simp [r.length], fun i => ?_, fun i j hj hij a ha hb => ?_, fun j hj => ?_, fun _ _ _ _ => .inr trivial, fun j hj a ha => ?_, fun j hj u du eu ed => ?_, fun j hj a ha => ?_, fun k hk => ?_, fun j hj d e => ?_, fun k hk => by rw [hlk] at hk; cases hk⟩
    · rw [join_map, join_map]
      exact hT.1 i
    · rcases Oio j hj with hm | ⟨_, e⟩
      · obtain ⟨p, es, xs, e1, e2, im, e3, e4, e9⟩ := atio j hm
        rw [e4] at hb
        have : a = p := by simpa using hb
        subst this
        by_cases hm2 : i ∈ c.ios
        · obtain ⟨p', _, _, e1', _, _, _, e4', _⟩ := atio i hm2
          rw [e4'] at ha
          have : a = p' := by simpa using ha
          subst this
          exact (hi (fun z => by rw [z] at hm; cases hm)).2.2 i hm2 j hm hij (e1'.trans e1.symm)
        · rw [t0 (fun z => by rw [z] at hm; cases hm) i hm2] at ha
          cases ha
      · rw [e] at hb; cases hb
    · rcases Oio j hj with hm | ⟨_, e⟩
      · obtain ⟨p, _, _, _, _, _, _, e4, _⟩ := atio j hm
        rw [e4]; simp
      · rw [e]; exact List.nodup_nil
    · rcases Oio j hj with hm | ⟨_, e⟩
      · obtain ⟨p, es, xs, e1, e2, im, e3, e4, e9⟩ := atio j hm
        rw [e4] at ha
        have : a = p := by simpa using ha
        subst this
        exact ⟨.inr ⟨j, hm, e1⟩, fun o u k => by rw [e3] at k; cases k⟩
      · rw [e] at ha; cases ha
    · rcases Oio j hj with hm | ⟨hn, e⟩
      · obtain ⟨p, es, xs, e1, e2, im, e3, e4, e9⟩ := atio j hm
        rw [join_map, e2] at ed
        cases ed
        have hk2 : j < vs.length := by rw [hl]; exact hlt j hm
        rw [List.getElem?_append_left (by simpa using hk2), List.getElem?_map, e1] at eu
        cases eu
        exact ⟨p, xs, [], rfl, e4, e3, e9⟩
      · rw [join_map, List.getElem?_eq_none (by omega)] at ed
        cases ed
    · rcases Oio j (by omega) with hm | ⟨_, e⟩
      · rw [(hO2 j).mpr hm] at hj; cases hj
      · rw [e] at ha; cases ha
    · obtain ⟨p, es, xs, e1, _⟩ := atio k hk
      rw [hioa k p hk e1]
      have hk2 : k < vs.length := by rw [hl]; exact hlt k hk
      rw [List.getElem?_append_left (by simpa using hk2), List.getElem?_map, e1]
      rfl
    · have hm := (hO2 j).mp hj
      obtain ⟨p, es, xs, _, e2, im, _⟩ := atio j hm
      have hk2 : j < ds.length := by rw [hlen]; exact hlt j hm
      rw [List.getElem?_append_left (by simpa using hk2), List.getElem?_map, e2] at e
      cases e
      exact ⟨es, rfl, im⟩
  have outs : ∀ {ρ' : Env} {σ' : L2.St} {H' : Hp} {T' : Nat → List Addr}, SIT c c.B (ioW c.ios vs) (fun _ => True) T' σ' H' ρ' → ioAll c.ios ρ' = true → outsOk c.K H' c.ios vs (c.ios.map fun k => (ρ'[k]?).join) := by
    intro ρ' σ' H' T' I' hd j k e
    have hk : k ∈ c.ios := List.mem_of_getElem? e
    obtain ⟨p, es, xs, e1, e2, im, e3, e4, e9⟩ := atio k hk
    have hd2 := List.all_eq_true.mp hd k hk
    obtain ⟨d, hd⟩ := Option.isSome_iff_exists.mp hd2
    obtain ⟨v, hv, rv⟩ := I'.slot hd
    have := I'.io k hk
    rw [hioa k p hk e1] at this
    rw [this] at hv
    cases hv
    have hd' : ρ'[k]? = some (some d) := by
      cases z : ρ'[k]? with
      | none => rw [z] at hd; cases hd
      | some o => rw [z] at hd; exact congrArg some hd
    obtain ⟨es', rfl, im'⟩ := I'.io2 k ((hO2 k).mpr hk) d hd'
    obtain ⟨a, xs', S', e5, e6, h3, h2⟩ := I'.top k (by rw [(hO2 k).mpr hk]; decide) _ _ this hd
    cases e5
    have e0 := h2.im im'
    subst e0
    exact ⟨p, es', xs', e1, by rw [List.getElem?_map, e]; exact congrArg some hd, im', h3, h2⟩
  refine hs c.B (ioW c.ios vs) (fun _ => True) T _ c.B _ _ _ _ _ I ?_
  unfold runF at h
  cases z : body (ds.map some ++ List.replicate m none) with
  | nx ρ' =>
    rw [z] at h
    dsimp only [outF] at h
    by_cases ha : ioAll c.ios ρ' = true
    · rw [if_pos ha] at h
      exact fun σ' H' T' I' => h .non H' [] I'.frm .non (fun _ => ⟨Nw.nil, trivial⟩) (outs I' ha)
    · rw [if_neg ha] at h; exact h.elim
  | ret d ρ' =>
    rw [z] at h
    dsimp only [outF] at h
    by_cases ha : ioAll c.ios ρ' = true
    · rw [if_pos ha] at h
      exact fun v σ' H' T' S I' rv fv => h v H' S I'.frm rv fv (outs I' ha)
    · rw [if_neg ha] at h; exact h.elim
  | brk ρ' => rw [z] at h; exact h.elim
  | ct ρ' => rw [z] at h; exact h.elim
  | exc x ρ' =>
    rw [z] at h
    dsimp only [outF] at h
    by_cases ha : ioAll c.ios ρ' = true
    · rw [if_pos ha] at h
      exact fun σ' H' T' I' => h H' I'.frm (outs I' ha)
    · rw [if_neg ha] at h; exact h.elim
  | bad => rw [z] at h; exact h.elim
end Ol
namespace Ol
open PySem PySem.Spec PyProof.Rows L2
/-! ## calls that write what they get -/
/-- where a list comes from that is handed in to be written: a slot, or it is new -/
abbrev IoL := List (Nat × Option Nat)
def IoP (c : C0) (σ : L2.St) (ρ : Env) (H H' : Hp) (T : Nat → List Addr) (vs : List V) (ds : List D) (io : IoL) : Prop := ∀ p ∈ io, match p.2 with
  | some j => ∃ v d, σ[j]? = some (some v) ∧ vs[p.1]? = some v ∧ (ρ[j]?).join = some d ∧ ds[p.1]? = some d
  | none => ∃ (l : Addr) (es : List D) (xs : List V) (S : List Addr), vs[p.1]? = some (.ref l) ∧ ds[p.1]? = some (.lst es) ∧ H' l = some (.lst xs) ∧ Reps c.K H' xs es S ∧ H l = none ∧ (∀ i, l ∉ T i) ∧ ∀ q ∈ io, q ≠ p → q.2 = none → vs[q.1]? ≠ some (.ref l)
def shiftIo (io : IoL) : IoL := io.map fun p => (p.1 + 1, p.2)
def SAX (c : C0) (W : WX) (ta : TA) (a : Env → Res (List D)) (io : IoL) (pu : Bool) : Prop :=
  ∀ (H0 : Hp) (Wd Al : Addr → Prop) (T : Nat → List Addr) (σ : L2.St) (H : Hp) (ρ : Env) (Q : List V → Hp → Prop), SIT c H0 Wd Al T σ H ρ →
    (match a ρ with
      | .ok ds ρ' => ∀ vs H' T' S, SIT c H0 Wd Al T' σ H' ρ' → Reps c.K H' vs ds S → Grw H H' → (∀ i, ∀ a ∈ T' i, a ∈ T i ∨ H a = none) → (pu = true → ρ' = ρ ∧ Same H H' ∧ T' = T) → IoP c σ ρ' H H' T' vs ds io → Q vs H'
      | .exc x ρ' => ∀ H' T', SIT c H0 Wd Al T' σ H' ρ' → W (.ref (He.ga c.K x)) none σ H'
      | .bad => False) → ta σ H Q
section
variable {c : C0} {W : WX} {ta tb te : TE} {tt : TA} {a b e : Env → Res D} {as : Env → Res (List D)} {pa pb fa fb pu fr : Bool} {io : IoL}
theorem sax_nil : SAX c W tNil aNil [] true := fun H0 Wd Al T σ H ρ Q I h => h [] H T [] I .nil Grw.refl (fun _ _ z => .inl z) (fun _ => ⟨rfl, Same.refl _, rfl⟩) fun _ z => by cases z
theorem IoP.shift {σ : L2.St} {ρ : Env} {H H1 H' : Hp} {T : Nat → List Addr} {vs : List V} {ds : List D} {v : V} {d : D} (g : ∀ a, H1 a = none → H a = none) (h : IoP c σ ρ H1 H' T vs ds io) : IoP c σ ρ H H' T (v :: vs) (d :: ds) (shiftIo io) := fun p hp => by
  obtain ⟨q, hq, e⟩ := List.mem_map.mp hp
  subst e
  have hh := h q hq
  obtain ⟨k, o⟩ := q
  cases o with
  | some j => exact hh
  | none =>
    obtain ⟨l, es, xs, S, h1, h2, h3, h4, h6, h7, h5⟩ := hh
    refine ⟨l, es, xs, S, h1, h2, h3, h4, g l h6, h7, fun q' hq' ne hn => ?_⟩
    obtain ⟨q2, hq2, e2⟩ := List.mem_map.mp hq'
    subst e2
    exact h5 q2 hq2 (fun z => ne (by rw [z])) hn
theorem sax_cons {chk : Bool} (ha : SE c W ta a pa fa) (hb : SAX c W tt as io pb) (hc : (chk || pb) = true) : SAX c W (tCons ta tt) (aCons chk a as) (shiftIo io) (pa && pb) := fun H0 Wd Al T σ H ρ Q I q => ha H0 Wd Al T σ H ρ _ I (by
  unfold aCons at q
  cases z : a ρ with
  | bad => rw [z] at q; exact q
  | exc x ρ' => rw [z] at q; exact q
  | ok d ρ1 =>
    rw [z, Res.bind_ok] at q
    intro v H1 T1 S I1 r1 g1 nw1 p1 f1
    by_cases hk : (chk && !imm d) = true
    · rw [if_pos hk] at q; exact q.elim
    · rw [if_neg hk] at q
      refine hb H0 Wd Al T1 σ H1 ρ1 _ I1 ?_
      cases z2 : as ρ1 with
      | bad => rw [z2] at q; exact q
      | exc x ρ' => rw [z2] at q; exact q
      | ok es ρ2 =>
        rw [z2, Res.bind_ok] at q
        intro us H2 T2 S2 I2 r2 g2 nw2 p2 f2
        have r1' : Rep c.K H2 v d S := by
          cases hpb : pb with
          | true => exact r1.same (p2 hpb).2.1
          | false =>
            rw [hpb, Bool.or_false] at hc
            subst hc
            have im : imm d = true := by simpa using hk
            have e0 := r1.im im
            subst e0
            exact r1.tk g2.tk
        refine q (v :: us) H2 T2 (S ++ S2) I2 (.cons r1' r2) (g1.trans g2) (fun i a ha => ?_) (fun hp => ?_) (f2.shift fun a h => g1.dom a h)
        · rcases nw2 i a ha with k | k
          · exact nw1 i a k
          · exact .inr (g1.dom a k)
        · rw [Bool.and_eq_true] at hp
          obtain ⟨e1, s1, t1⟩ := p1 hp.1
          obtain ⟨e2, s2, t2⟩ := p2 hp.2
          exact ⟨e2.trans e1, s1.trans s2, t2.trans t1⟩)
/-- a slot's list, handed in to be written -/
theorem sax_io (i : Nat) (hb : SAX c W tt as io pb) : SAX c W (tCons (tVar i) tt) (aIo i as) ((0, some i) :: shiftIo io) pb := fun H0 Wd Al T σ H ρ Q I q => by
  unfold aIo at q
  cases e : (ρ[i]?).join with
  | none => rw [e] at q; exact q.elim
  | some d0 =>
    rw [e] at q
    obtain ⟨v, hv, r⟩ := I.slot e
    refine ⟨v, hv, hb H0 Wd Al T σ H ρ _ I ?_⟩
    cases z2 : as ρ with
    | bad => rw [z2] at q; exact q
    | exc x ρ' => rw [z2] at q; exact q
    | ok es ρ2 =>
      rw [z2, Res.bind_ok] at q
      intro us H2 T2 S2 I2 r2 g2 nw2 p2 f2
      cases e2 : (ρ2[i]?).join with
      | none => rw [e2] at q; exact q.elim
      | some d =>
        rw [e2] at q
        obtain ⟨v2, hv2, r3⟩ := I2.slot e2
        have ev : v2 = v := by rw [hv] at hv2; exact (Option.some.inj (Option.some.inj hv2)).symm
        subst ev
        refine q (v2 :: us) H2 T2 (T2 i ++ S2) I2 (.cons r3 r2) g2 nw2 p2 fun p hp => ?_
        rcases List.mem_cons.mp hp with rfl | hp
        · exact ⟨v2, d, hv2, rfl, e2, rfl⟩
        · have sh := f2.shift (H := H) (v := v2) (d := d) (fun _ h => h) p hp
          obtain ⟨q', hq', ee⟩ := List.mem_map.mp hp
          subst ee
          obtain ⟨k, o⟩ := q'
          cases o with
          | some j => exact sh
          | none =>
            obtain ⟨l, es, xs, S, h1, h2, h3, h4, h6, h7, h5⟩ := sh
            refine ⟨l, es, xs, S, h1, h2, h3, h4, h6, h7, fun q2 hq2 ne hn => ?_⟩
            rcases List.mem_cons.mp hq2 with rfl | hq2
            · cases hn
            · exact h5 q2 hq2 ne hn
end
/-- a new list, handed in to be written -/
def aNew (a : Env → Res D) (as : Env → Res (List D)) : Env → Res (List D) := fun ρ => (a ρ).bind fun x ρ1 => match x with
  | .lst es => (as ρ1).bind fun xs ρ2 => .ok (.lst es :: xs) ρ2
  | _ => .bad
section
variable {c : C0} {W : WX} {ta tb te : TE} {tt : TA} {a b e : Env → Res D} {as : Env → Res (List D)} {pa pb fa fb pu fr : Bool} {io : IoL}
theorem sax_new (ha : SE c W ta a pa true) (hb : SAX c W tt as io true) : SAX c W (tCons ta tt) (aNew a as) ((0, none) :: shiftIo io) pa := fun H0 Wd Al T σ H ρ Q I q => ha H0 Wd Al T σ H ρ _ I (by
  unfold aNew at q
  cases z : a ρ with
  | bad => rw [z] at q; exact q
  | exc x ρ' => rw [z] at q; exact q
  | ok d ρ1 =>
    rw [z, Res.bind_ok] at q
    intro v H1 T1 S I1 r1 g1 nw1 p1 f1
    cases d with
    | lst d =>
      dsimp only at q
      refine hb H0 Wd Al T1 σ H1 ρ1 _ I1 ?_
      cases z2 : as ρ1 with
      | bad => rw [z2] at q; exact q
      | exc x ρ' => rw [z2] at q; exact q
      | ok es ρ2 =>
        rw [z2, Res.bind_ok] at q
        intro us H2 T2 S2 I2 r2 g2 nw2 p2 f2
        obtain ⟨e2, s2, t2⟩ := p2 rfl
        obtain ⟨nwS, ⟨l, xs, S', rfl, rfl, h1, h2⟩, dj⟩ := f1 rfl
        subst e2 t2
        refine q (.ref l :: us) H2 T2 ((l :: S') ++ S2) I2 (.cons (r1.same s2) r2) (g1.trans g2) nw1 (fun hp => ?_) fun p hp => ?_
        · obtain ⟨e1, s1, t1⟩ := p1 hp
          exact ⟨e1, s1.trans s2, t1⟩
        · rcases List.mem_cons.mp hp with rfl | hp
          · refine ⟨l, d, xs, S', rfl, rfl, s2 _ _ h1, h2.same s2, nwS.new l List.mem_cons_self, fun i => dj i l List.mem_cons_self, fun q' hq' ne hn => ?_⟩
            rcases List.mem_cons.mp hq' with rfl | hq'
            · exact absurd rfl ne
            · obtain ⟨q2, hq2, e2⟩ := List.mem_map.mp hq'
              subst e2
              have := f2 q2 hq2
              rw [show q2.2 = none from hn] at this
              obtain ⟨l2, _, _, _, k1, _, _, _, k6, _⟩ := this
              show us[q2.1]? ≠ _
              rw [k1]
              intro z
              cases z
              rw [h1] at k6
              cases k6
          · have sh := f2.shift (H := H) (v := V.ref l) (d := .lst d) (fun a h => g1.dom a h) p hp
            obtain ⟨q', hq', ee⟩ := List.mem_map.mp hp
            subst ee
            have f3 := f2 q' hq'
            obtain ⟨k, o⟩ := q'
            cases o with
            | some j => exact sh
            | none =>
              obtain ⟨l3, _, _, _, k1, _, _, _, k6, _⟩ := f3
              obtain ⟨l2, es2, xs2, S3, k1', k2, k3, k4, k5, k7, k8⟩ := sh
              have k9 : us[k]? = some (V.ref l2) := k1'
              have e9 : l3 = l2 := by
                have := k1.symm.trans k9
                simpa using this
              subst e9
              refine ⟨l3, es2, xs2, S3, k1', k2, k3, k4, k5, k7, fun q2 hq2 ne hn => ?_⟩
              rcases List.mem_cons.mp hq2 with rfl | hq2
              · intro z
                cases z
                rw [h1] at k6
                cases k6
              · exact k8 q2 hq2 ne hn
    | _ => exact q.elim)
end
/-- what is to be written is a list of things that may not be written; all else may not be written at all -/
def ioChk (io : List Nat) (ds : List D) : Bool := (List.range ds.length).all fun k => if io.contains k = true then (match ds[k]? with
  | some (.lst es) => imms es
  | _ => false) else (match ds[k]? with
  | some d => imm d
  | none => true)
def setOuts : IoL → Env → Env → Env
  | (_, some j) :: r, o :: os, ρ => setOuts r os (ρ.set j o)
  | (_, none) :: r, _ :: os, ρ => setOuts r os ρ
  | _, _, ρ => ρ
@[simp] theorem setOuts_nil {os ρ} : setOuts [] os ρ = ρ := by cases os <;> rfl
@[simp] theorem setOuts_some {k j r o os ρ} : setOuts ((k, some j) :: r) (o :: os) ρ = setOuts r os (ρ.set j o) := id rfl
@[simp] theorem setOuts_none {k r o os ρ} : setOuts ((k, none) :: r) (o :: os) ρ = setOuts r os ρ := id rfl
def eCallIo (n : Nat) (io : IoL) (f : List D → Res D) (as : Env → Res (List D)) : Env → Res D := fun ρ => (as ρ).bind fun ds ρ1 => if ds.length = n ∧ ioChk (io.map (·.1)) ds = true then match f ds with
  | .ok r o => .ok r (setOuts io o ρ1)
  | .exc x o => .exc x (setOuts io o ρ1)
  | .bad => .bad
  else .bad
theorem setOuts_len : ∀ (io : IoL) (os ρ : Env), (setOuts io os ρ).length = ρ.length
  | [], os, ρ => by rw [setOuts_nil]
  | (_, some j) :: r, [], ρ => rfl
  | (_, none) :: r, [], ρ => rfl
  | (_, some j) :: r, o :: os, ρ => by rw [setOuts_some, setOuts_len r, List.length_set]
  | (_, none) :: r, o :: os, ρ => by rw [setOuts_none, setOuts_len r]
theorem setOuts_ne {i : Nat} : ∀ (io : IoL) (os ρ : Env), (∀ p ∈ io, p.2 ≠ some i) → (setOuts io os ρ)[i]? = ρ[i]?
  | [], os, ρ, _ => by rw [setOuts_nil]
  | (_, some j) :: r, [], ρ, _ => rfl
  | (_, none) :: r, [], ρ, _ => rfl
  | (k, some j) :: r, o :: os, ρ, h => by
    rw [setOuts_some, setOuts_ne r os _ fun p hp => h p (List.mem_cons_of_mem _ hp), List.getElem?_set_ne]
    exact fun e => h (k, some j) List.mem_cons_self (congrArg some e)
  | (_, none) :: r, o :: os, ρ, h => by rw [setOuts_none, setOuts_ne r os _ fun p hp => h p (List.mem_cons_of_mem _ hp)]
theorem setOuts_at {j : Nat} : ∀ (io : IoL) (os ρ : Env) (n k : Nat) (o : Option D), (io.filterMap (·.2)).Nodup → io[n]? = some (k, some j) → os[n]? = some o → j < ρ.length → (setOuts io os ρ)[j]? = some o
  | [], _, _, _, _, _, _, e, _, _ => by cases e
  | _ :: _, [], _, _, _, _, _, _, e, _ => by simp at e
  | (k0, some i) :: r, o0 :: os, ρ, 0, k, o, nd, e, e2, hj => by
    simp at e e2
    obtain ⟨rfl, rfl⟩ := e
    subst e2
    rw [setOuts_some, setOuts_ne r os]
    · exact List.getElem?_set_self hj
    · intro p hp z
      rw [List.filterMap_cons] at nd
      exact (List.nodup_cons.mp nd).1 (List.mem_filterMap.mpr ⟨p, hp, z⟩)
  | (k0, none) :: r, o0 :: os, ρ, 0, k, o, nd, e, e2, hj => by simp at e
  | (k0, some i) :: r, o0 :: os, ρ, n + 1, k, o, nd, e, e2, hj => by
    rw [List.filterMap_cons] at nd
    rw [setOuts_some]
    exact setOuts_at r os _ n k o (List.nodup_cons.mp nd).2 (by simpa using e) (by simpa using e2) (by rw [List.length_set]; exact hj)
  | (k0, none) :: r, o0 :: os, ρ, n + 1, k, o, nd, e, e2, hj => by
    rw [List.filterMap_cons] at nd
    rw [setOuts_none]
    exact setOuts_at r os _ n k o nd (by simpa using e) (by simpa using e2) hj
/-- the lists at some slots have other items now -/
theorem SIT.outs {c : C0} {H0 : Hp} {Wd Al : Addr → Prop} {σ : L2.St} {H H' : Hp} {T : Nat → List Addr} {ρ : Env} {io : IoL} {os : Env} {Ws : Addr → Prop} (I : SIT c H0 Wd Al T σ H ρ) (fm : Frm Ws H H') (nd : (io.filterMap (·.2)).Nodup)
    (hw : ∀ a, Ws a → (∃ p ∈ io, ∃ j, p.2 = some j ∧ T j = [a]) ∨ (H0 a = none ∧ ∀ i, a ∉ T i))
    (ho : ∀ (n k j : Nat), io[n]? = some (k, some j) → c.O j ≠ 0 ∧ ∃ (p : Addr) (es : List D) (xs : List V), σ[j]? = some (some (.ref p)) ∧ T j = [p] ∧ os[n]? = some (some (.lst es)) ∧ imms es = true ∧ H' p = some (.lst xs) ∧ Reps c.K H' xs es []) : SIT c H0 Wd Al T σ H' (setOuts io os ρ) := by
  -- the slots of io
  have cs : ∀ i, (∃ n k, io[n]? = some (k, some i)) ∨ ∀ p ∈ io, p.2 ≠ some i := fun i => by
    by_cases h : ∃ p ∈ io, p.2 = some i
    · obtain ⟨⟨k, o⟩, hp, e⟩ := h
      obtain ⟨n, hn⟩ := List.getElem?_of_mem hp
      exact .inl ⟨n, k, by rw [hn]; exact congrArg some (Prod.ext rfl e)⟩
    · exact .inr fun p hp z => h ⟨p, hp, z⟩
  have slot : ∀ (i n k : Nat), io[n]? = some (k, some i) → c.O i ≠ 0 ∧ ∃ (p : Addr) (es : List D) (xs : List V), σ[i]? = some (some (.ref p)) ∧ T i = [p] ∧ (setOuts io os ρ)[i]? = some (some (.lst es)) ∧ imms es = true ∧ H' p = some (.lst xs) ∧ Reps c.K H' xs es [] := fun i n k e => by
    obtain ⟨h0, p, es, xs, e1, e2, e3, im, e4, e5⟩ := ho n k i e
    have hi : i < ρ.length := by rw [← I.len]; exact (List.getElem?_eq_some_iff.mp e1).1
    exact ⟨h0, p, es, xs, e1, e2, setOuts_at io os ρ n k _ nd e e3 hi, im, e4, e5⟩
  have keepT : ∀ i, (∀ p ∈ io, p.2 ≠ some i) → ∀ a ∈ T i, ∀ o, H a = some o → H' a = some o := fun i hi a ha o e => fm.keep a o (fun w => by
    rcases hw a w with ⟨p, hp, j, ej, et⟩ | h
    · obtain ⟨n, hn⟩ := List.getElem?_of_mem hp
      obtain ⟨k, o'⟩ := p
      have ej : o' = some j := ej
      subst ej
      obtain ⟨h0, _⟩ := ho n k j hn
      exact I.dis i j h0 (fun z => hi _ hp (congrArg some z.symm)) a ha (by rw [et]; exact List.mem_cons_self)
    · exact h.2 i ha) e
  refine ⟨⟨fun a o n h => fm.keep a o (fun w => ?_) (I.frm.keep a o n h), fun a h => I.frm.dom a (fm.dom a h), I.frm.tup.trans fm.tup⟩, fun a h => I.base a (fm.dom a h), by rw [setOuts_len]; exact I.len, fun i => ?_, I.dis, I.nod, I.all, fun j hj a ha => ⟨(I.own j hj a ha).1, ?_⟩, fun j hj v d ev ed => ?_, I.loc, I.io, fun j hj d ed => ?_, I.lk⟩
  · rcases hw a w with ⟨p, hp, j, ej, et⟩ | hh
    · obtain ⟨n', hn⟩ := List.getElem?_of_mem hp
      obtain ⟨k, o'⟩ := p
      have ej : o' = some j := ej
      subst ej
      obtain ⟨h0, _⟩ := ho n' k j hn
      rcases (I.own j h0 a (by rw [et]; exact List.mem_cons_self)).1 with z | z
      · rw [h] at z; cases z
      · exact n z
    · rw [hh.1] at h; cases h
  · rcases cs i with ⟨n, k, e⟩ | hi
    · obtain ⟨h0, p, es, xs, e1, e2, e3, im, e4, e5⟩ := slot i n k e
      rw [e1, e3, e2]
      exact ⟨_, rfl, .lst (.inl e4) e5⟩
    · rw [setOuts_ne io os ρ hi]
      have r := I.rep i
      cases e : (ρ[i]?).join with
      | none => rw [e] at r; exact r
      | some d =>
        rw [e] at r
        obtain ⟨x, ex, r⟩ := r
        exact ⟨x, ex, r.mono fm.tup (keepT i hi)⟩
  · rcases cs j with ⟨n, k, e⟩ | hi
    · obtain ⟨h0, p, es, xs, e1, e2, e3, im, e4, e5⟩ := slot j n k e
      rw [e2] at ha
      have : a = p := by simpa using ha
      subst this
      intro o u z
      rw [e4] at z
      cases z
    · intro o u z
      cases q : H a with
      | none => exact I.doms j a ha q
      | some w =>
        rw [keepT j hi a ha w q] at z
        cases z
        exact (I.own j hj a ha).2 o u q
  · rcases cs j with ⟨n, k, e⟩ | hi
    · obtain ⟨h0, p, es, xs, e1, e2, e3, im, e4, e5⟩ := slot j n k e
      rw [e3] at ed
      cases ed
      rw [e1] at ev
      cases ev
      exact ⟨p, xs, [], rfl, e2, e4, e5⟩
    · rw [setOuts_ne io os ρ hi] at ed
      exact (I.top j hj v d ev ed).mono fm.tup (keepT j hi)
  · rcases cs j with ⟨n, k, e⟩ | hi
    · obtain ⟨h0, p, es, xs, e1, e2, e3, im, e4, e5⟩ := slot j n k e
      rw [e3] at ed
      cases ed
      exact ⟨es, rfl, im⟩
    · rw [setOuts_ne io os ρ hi] at ed
      exact I.io2 j hj d ed
theorem ioChk_io {io : List Nat} {ds : List D} (h : ioChk io ds = true) {k : Nat} (hk : k ∈ io) (hl : k < ds.length) : ∃ es, ds[k]? = some (.lst es) ∧ imms es = true := by
  have := List.all_eq_true.mp h k (List.mem_range.mpr hl)
  rw [if_pos (List.contains_iff_mem.mpr hk)] at this
  split at this
  · exact ⟨_, by assumption, this⟩
  · cases this
theorem ioChk_im {io : List Nat} {ds : List D} (h : ioChk io ds = true) {k : Nat} {d : D} (hk : k ∉ io) (e : ds[k]? = some d) : imm d = true := by
  have := List.all_eq_true.mp h k (List.mem_range.mpr (List.getElem?_eq_some_iff.mp e).1)
  rw [if_neg (fun z => hk (List.contains_iff_mem.mp z)), e] at this
  exact this
section
variable {c : C0} {W : WX} {tt : TA} {as : Env → Res (List D)} {pu fr : Bool} {n : Nat} {f : List D → Res D} {io : IoL}
theorem se_callIoG {E : L2.St → XK} (hW : ∀ cls d σ H, W cls d σ H → E σ cls d H) (ha : SAX c W tt as io pu) (nd : (io.filterMap (·.2)).Nodup) (hO : ∀ p ∈ io, ∀ j, p.2 = some j → c.O j ≠ 0) (hk : ∀ p ∈ io, p.1 < n) (hinj : ∀ p ∈ io, ∀ q ∈ io, p.1 = q.1 → p = q) :
    SE c W (fun σ H Q => tt σ H fun vs H1 => spF c.K n (io.map (·.1)) fr f vs H1 Q (E σ)) (eCallIo n io f as) false fr := fun H0 Wd Al T σ H ρ Q I q => ha H0 Wd Al T σ H ρ _ I (by
  unfold eCallIo at q
  cases z : as ρ with
  | bad => rw [z] at q; exact q
  | exc x ρ' => rw [z] at q; exact q
  | ok ds ρ1 =>
    rw [z, Res.bind_ok] at q
    intro vs H1 T1 S I1 r1 g1 nw1 p1 iop
    by_cases hl : ds.length = n ∧ ioChk (io.map (·.1)) ds = true
    · rw [if_pos hl] at q
      obtain ⟨hl, hchk⟩ := hl
      -- each written list
      have at_ : ∀ p ∈ io, ∃ (l : Addr) (es : List D) (xs : List V), vs[p.1]? = some (.ref l) ∧ ds[p.1]? = some (.lst es) ∧ imms es = true ∧ H1 l = some (.lst xs) ∧ Reps c.K H1 xs es [] ∧
          (∀ j, p.2 = some j → T1 j = [l] ∧ σ[j]? = some (some (.ref l))) ∧ (p.2 = none → H0 l = none ∧ H l = none ∧ ∀ i, l ∉ T1 i) := fun p hp => by
        obtain ⟨es, e1, im⟩ := ioChk_io hchk (List.mem_map_of_mem hp) (by rw [hl]; exact hk p hp)
        have h := iop p hp
        cases o : p.2 with
        | some j =>
          rw [o] at h
          obtain ⟨v, d, h1, h2, h3, h4⟩ := h
          rw [e1] at h4
          cases h4
          obtain ⟨l, xs, S', rfl, e5, e6, e7⟩ := I1.top j (hO p hp j o) _ _ h1 h3
          have e0 := e7.im im
          subst e0
          exact ⟨l, es, xs, h2, e1, im, e6, e7, fun j' ej => (by cases ej; exact ⟨e5, h1⟩), fun z => by cases z⟩
        | none =>
          rw [o] at h
          obtain ⟨l, es', xs, S', h1, h2, h3, h4, h5, h6, _⟩ := h
          rw [e1] at h2
          cases h2
          have e0 := h4.im im
          subst e0
          exact ⟨l, es, xs, h1, e1, im, h3, h4, fun j' ej => (by cases ej), fun _ => ⟨I.frm.dom l h5, h5, h6⟩⟩
      have io2 : ioOk c.K H1 (io.map (·.1)) vs ds := fun _ => by
        refine ⟨fun k d e hk' => ioChk_im hchk hk' e, fun k hk' => ?_, fun k hk' l hl' ne => ?_⟩
        · obtain ⟨p, hp, rfl⟩ := List.mem_map.mp hk'
          obtain ⟨l, es, xs, h1, h2, h3, h4, h5, _⟩ := at_ p hp
          exact ⟨l, es, xs, h1, h2, h3, h4, h5⟩
        · obtain ⟨p, hp, rfl⟩ := List.mem_map.mp hk'
          obtain ⟨p', hp', rfl⟩ := List.mem_map.mp hl'
          obtain ⟨l, es, xs, h1, h2, h3, h4, h5, h6, h7⟩ := at_ p hp
          obtain ⟨l', es', xs', h1', h2', h3', h4', h5', h6', h7'⟩ := at_ p' hp'
          rw [h1, h1']
          intro z
          cases z
          cases o : p.2 with
          | some j =>
            obtain ⟨t1, _⟩ := h6 j o
            cases o' : p'.2 with
            | some j' =>
              obtain ⟨t2, _⟩ := h6' j' o'
              by_cases ej : j = j'
              · subst ej
                -- one slot twice
                obtain ⟨n1, hn1⟩ := List.getElem?_of_mem hp
                obtain ⟨n2, hn2⟩ := List.getElem?_of_mem hp'
                have : p = p' := by
                  have key : ∀ (l : IoL), (l.filterMap (·.2)).Nodup → ∀ a ∈ l, ∀ b ∈ l, a.2 = some j → b.2 = some j → a = b := by
                    intro l
                    induction l with
                    | nil => intro _ a ha; cases ha
                    | cons x l ih =>
                      intro nd a ha b hb ea eb
                      rw [List.filterMap_cons] at nd
                      rcases List.mem_cons.mp ha with rfl | ha2
                      · rcases List.mem_cons.mp hb with rfl | hb2
                        · rfl
                        · rw [ea] at nd
                          exact ((List.nodup_cons.mp nd).1 (List.mem_filterMap.mpr ⟨b, hb2, eb⟩)).elim
                      · rcases List.mem_cons.mp hb with rfl | hb2
                        · rw [eb] at nd
                          exact ((List.nodup_cons.mp nd).1 (List.mem_filterMap.mpr ⟨a, ha2, ea⟩)).elim
                        · refine ih ?_ a ha2 b hb2 ea eb
                          split at nd
                          · exact nd
                          · exact (List.nodup_cons.mp nd).2
                  exact key io nd p hp p' hp' o o'
                exact ne (by rw [this])
              · exact I1.dis j j' (hO p' hp' j' o') ej l (by rw [t1]; exact List.mem_cons_self) (by rw [t2]; exact List.mem_cons_self)
            | none => exact (h7' o').2.2 j (by rw [t1]; exact List.mem_cons_self)
          | none =>
            cases o' : p'.2 with
            | some j' =>
              obtain ⟨t2, _⟩ := h6' j' o'
              exact (h7 o).2.2 j' (by rw [t2]; exact List.mem_cons_self)
            | none =>
              have h := iop p hp
              rw [o] at h
              obtain ⟨l2, _, _, _, k1, _, _, _, _, _, k7⟩ := h
              rw [h1] at k1
              cases k1
              exact k7 p' hp' (fun z => ne (by rw [z])) o' h1'
      refine ⟨ds, S, by rw [r1.length]; exact hl, r1, io2, ?_⟩
      have Wc : ∀ a, ioW (io.map (·.1)) vs a → (∃ p ∈ io, ∃ j, p.2 = some j ∧ T1 j = [a]) ∨ (H0 a = none ∧ ∀ i, a ∉ T1 i) := fun a ⟨k, hk', e⟩ => by
        obtain ⟨p, hp, rfl⟩ := List.mem_map.mp hk'
        obtain ⟨l, es, xs, h1, h2, h3, h4, h5, h6, h7⟩ := at_ p hp
        rw [e] at h1
        cases h1
        cases o : p.2 with
        | some j => exact .inl ⟨p, hp, j, o, (h6 j o).1⟩
        | none => exact .inr ⟨(h7 o).1, (h7 o).2.2⟩
      have Ho : ∀ {H' : Hp} {os : Env}, outsOk c.K H' (io.map (·.1)) vs os → ∀ (n k j : Nat), io[n]? = some (k, some j) → c.O j ≠ 0 ∧ ∃ (p : Addr) (es : List D) (xs : List V), σ[j]? = some (some (.ref p)) ∧ T1 j = [p] ∧ os[n]? = some (some (.lst es)) ∧ imms es = true ∧ H' p = some (.lst xs) ∧ Reps c.K H' xs es [] := by
        intro H' os h n' k j e
        have hp := List.mem_of_getElem? e
        refine ⟨hO _ hp j rfl, ?_⟩
        obtain ⟨l, es, xs, h1, _, _, _, _, h6, _⟩ := at_ _ hp
        obtain ⟨l2, es2, xs2, k1, k2, k3, k4, k5⟩ := h n' k (by rw [List.getElem?_map, e]; rfl)
        rw [h1] at k1
        cases k1
        exact ⟨l, es2, xs2, (h6 j rfl).2, (h6 j rfl).1, k2, k3, k4, k5⟩
      cases z2 : f ds with
      | bad => rw [z2] at q; exact q
      | exc x o =>
        rw [z2] at q
        exact fun H' fm oo => hW _ _ _ _ (q H' T1 (I1.outs fm nd Wc (Ho oo)))
      | ok r o =>
        rw [z2] at q
        intro v H' U fm rv fv oo
        refine q v H' T1 U (I1.outs fm nd Wc (Ho oo)) rv (g1.trans fm.grw) nw1 (fun hp => by cases hp) fun hf => ?_
        obtain ⟨⟨m1, m2, m3⟩, tp⟩ := fv hf
        exact ⟨⟨m1, fun a ha => g1.dom a (m2 a ha), m3⟩, tp, fun i a ha k => I1.doms i a k (m2 a ha)⟩
    · rw [if_neg hl] at q; exact q.elim)
/-- static facts about what is handed in -/
def ioB (O : Nat → Nat) (n : Nat) (io : IoL) : Bool := decide ((io.filterMap (·.2)).Nodup) && (io.all fun p => (match p.2 with
  | some j => !Nat.beq (O j) 0
  | none => true) && Nat.blt p.1 n) && decide ((io.map (·.1)).Nodup)
theorem ioB_ok {O : Nat → Nat} {n : Nat} {io : IoL} (h : ioB O n io = true) : (io.filterMap (·.2)).Nodup ∧ (∀ p ∈ io, ∀ j, p.2 = some j → O j ≠ 0) ∧ (∀ p ∈ io, p.1 < n) ∧ ∀ p ∈ io, ∀ q ∈ io, p.1 = q.1 → p = q := by
  unfold ioB at h
  simp only [Bool.and_eq_true, decide_eq_true_eq, List.all_eq_true] at h
  obtain ⟨⟨h1, h2⟩, h3⟩ := h
  refine ⟨h1, fun p hp j e => ?_, fun p hp => Nat.blt_eq.mp (h2 p hp).2, fun p hp q hq e => ?_⟩
  · have := (h2 p hp).1
    rw [e] at this
    intro z
    have this : (!(O j).beq 0) = true := this
    rw [z] at this
    cases this
  · have key : ∀ (l : IoL), (l.map (·.1)).Nodup → ∀ a ∈ l, ∀ b ∈ l, a.1 = b.1 → a = b := by
      intro l
      induction l with
      | nil => intro _ a ha; cases ha
      | cons x l ih =>
        intro nd a ha b hb e
        rw [List.map_cons] at nd
        obtain ⟨n1, n2⟩ := List.nodup_cons.mp nd
        rcases List.mem_cons.mp ha with rfl | ha2
        · rcases List.mem_cons.mp hb with rfl | hb2
          · rfl
          · exact (n1 (List.mem_map.mpr ⟨b, hb2, e.symm⟩)).elim
        · rcases List.mem_cons.mp hb with rfl | hb2
          · exact (n1 (List.mem_map.mpr ⟨a, ha2, e⟩)).elim
          · exact ih n2 a ha2 b hb2 e
    exact key io h3 p hp q hq e
theorem se_callIo {E : XK} {ks : List Nat} (ha : SAX c (fun cls d _ H => E cls d H) tt as io pu) (hb : ioB c.O n io = true) (hks : io.map (·.1) = ks) : SE c (fun cls d _ H => E cls d H) (tCall (spF c.K n ks fr f) [] E tt) (eCallIo n io f as) false fr := by
  obtain ⟨h1, h2, h3, h4⟩ := ioB_ok hb
  subst hks
  have := se_callIoG (fr := fr) (f := f) (E := fun _ => E) (fun _ _ _ _ h => h) ha h1 h2 h3 h4
  have e : tCall (spF c.K n (io.map (·.1)) fr f) [] E tt = fun σ H Q => tt σ H fun vs H1 => spF c.K n (io.map (·.1)) fr f vs H1 Q E := by
    funext σ H Q
    unfold tCall
    simp only [List.append_nil]
  rw [e]
  exact this
theorem se_callIo0 {ks : List Nat} (ha : SAX c W0 tt as io pu) (hb : ioB c.O n io = true) (hks : io.map (·.1) = ks) : SE c W0 (tCall (spF c.K n ks fr f) [] E0 tt) (eCallIo n io f as) false fr := by
  obtain ⟨h1, h2, h3, h4⟩ := ioB_ok hb
  subst hks
  have := se_callIoG (W := W0) (fr := fr) (f := f) (E := fun _ => E0) (fun _ _ _ _ h => h.elim) ha h1 h2 h3 h4
  have e : tCall (spF c.K n (io.map (·.1)) fr f) [] E0 tt = fun σ H Q => tt σ H fun vs H1 => spF c.K n (io.map (·.1)) fr f vs H1 Q E0 := by
    funext σ H Q
    unfold tCall
    simp only [List.append_nil]
  rw [e]
  exact this
theorem se_callIoS {ks : List Nat} (ha : SAX c W tt as io pu) (hb : ioB c.O n io = true) (hks : io.map (·.1) = ks) : SE c W (tCallS (spF c.K n ks fr f) (WE W) tt) (eCallIo n io f as) false fr := by
  obtain ⟨h1, h2, h3, h4⟩ := ioB_ok hb
  subst hks
  exact se_callIoG (E := WE W) (fun _ _ _ _ h => h) ha h1 h2 h3 h4
end
end Ol
namespace Ol
open PySem PySem.Spec PyProof.Rows L2
/-! ## what is written -/
section
variable {c : C0} {H0 : Hp} {Wd Al : Addr → Prop} {T : Nat → List Addr} {σ : L2.St} {H : Hp} {ρ : Env}
/-- a list (a dict) at a slot of one's own is written -/
theorem SIT.mut (I : SIT c H0 Wd Al T σ H ρ) {i : Nat} {p : Addr} {d' : D} {S0 S' : List Addr} {o : HO} (hO : c.O i ≠ 0) (hs : σ[i]? = some (some (.ref p))) (hT : T i = p :: S0) (hp : ∀ xs, ¬ Rd H p (.tup xs)) (hr : Rep c.K (upd H p o) (.ref p) d' (p :: S')) (ht : Top c.K (upd H p o) (.ref p) d' (p :: S')) (ho : ∀ u w, o ≠ .frz u w)
    (nS : S'.Nodup) (pS : p ∉ S') (src : ∀ a ∈ S', a ∈ S0 ∨ ((∀ k, a ∉ T k) ∧ H0 a = none ∧ c.B a = none ∧ NF H a)) (h2 : c.O i = 2 → ∃ es, d' = .lst es ∧ imms es = true) :
    ∃ T', SIT c H0 Wd Al T' σ (upd H p o) (ρ.set i (some d')) := by
  have pT : ∀ k, k ≠ i → p ∉ T k := fun k hk h => I.dis k i hO hk p h (by rw [hT]; exact List.mem_cons_self)
  have tk : Tk H (upd H p o) := fun a xs h => by rw [upd_ne (fun z => hp xs (by rw [← z]; exact .inl h))]; exact h
  have hl : i < ρ.length := by rw [← I.len]; exact (List.getElem?_eq_some_iff.mp hs).1
  have keep : ∀ k, k ≠ i → ∀ a ∈ T k, ∀ w, H a = some w → (upd H p o) a = some w := fun k hk a ha w e => by
    rw [upd_ne (fun z => pT k hk (by rw [← z]; exact ha))]; exact e
  have own0 := I.own i hO
  rw [hT] at own0
  have nod0 := I.nod i hO
  rw [hT] at nod0
  refine ⟨fun k => if k = i then p :: S' else T k, ⟨⟨fun a w n e => ?_, fun a e => ?_, I.frm.tup.trans tk⟩, fun a e => ?_, by rw [List.length_set]; exact I.len, fun k => ?_, fun k j hj hk a ha => ?_, fun j hj => ?_, fun k kl a ha => ?_, fun j hj a ha => ?_, fun j hj u du eu ed => ?_, fun j hj a ha => ?_, I.io, fun j hj d e => ?_, fun k hk => ⟨(I.lk k hk).1, (if_neg (fun e : k = i => hO (e ▸ (I.lk k hk).1.2))).trans (I.lk k hk).2⟩⟩⟩
  · have e1 := I.frm.keep a w n e
    have : a ≠ p := fun z => by
      subst z
      rcases (own0 a List.mem_cons_self).1 with z | z
      · rw [z] at e; cases e
      · exact n z
    rw [upd_ne this]; exact e1
  · by_cases z : a = p
    · rw [z, upd_same] at e; cases e
    · rw [upd_ne z] at e; exact I.frm.dom a e
  · by_cases z : a = p
    · rw [z, upd_same] at e; cases e
    · rw [upd_ne z] at e; exact I.base a e
  · by_cases e : k = i
    · subst e
      rw [if_pos rfl, join_set_self hl, hs]
      exact ⟨_, rfl, hr⟩
    · rw [if_neg e, List.getElem?_set_ne (Ne.symm e)]
      have r := I.rep k
      cases z : (ρ[k]?).join with
      | none => rw [z] at r; exact r
      | some d =>
        rw [z] at r
        obtain ⟨x, ex, r⟩ := r
        exact ⟨x, ex, r.mono tk (keep k e)⟩
  · have inI : ∀ a ∈ p :: S', ∀ k, k ≠ i → a ∉ T k := fun a ha k hk h => by
      rcases List.mem_cons.mp ha with rfl | ha
      · exact pT k hk h
      · rcases src a ha with s | s
        · exact I.dis k i hO hk a h (by rw [hT]; exact List.mem_cons_of_mem _ s)
        · exact s.1 k h
    by_cases e : k = i
    · rw [if_pos e] at ha
      rw [if_neg (fun z => hk (e.trans z.symm))]
      exact inI a ha j (fun z => hk (e.trans z.symm))
    · rw [if_neg e] at ha
      by_cases e2 : j = i
      · rw [if_pos e2]
        exact fun z => inI a z k e ha
      · rw [if_neg e2]
        exact I.dis k j hj hk a ha
  · by_cases e : j = i
    · rw [if_pos e]; exact List.nodup_cons.mpr ⟨pS, nS⟩
    · rw [if_neg e]; exact I.nod j hj
  · by_cases e : k = i
    · rw [if_pos e] at ha
      rcases List.mem_cons.mp ha with rfl | ha
      · exact I.all i (fun z => hO (I.lk i z).1.2) a (by rw [hT]; exact List.mem_cons_self)
      · rcases src a ha with s | s
        · exact I.all i (fun z => hO (I.lk i z).1.2) a (by rw [hT]; exact List.mem_cons_of_mem _ s)
        · exact .inl s.2.1
    · rw [if_neg e] at ha; exact I.all k kl a ha
  · have nf : ∀ a, NF H a → a ≠ p → NF (upd H p o) a := fun a h n u w z => by rw [upd_ne n] at z; exact h u w z
    by_cases e : j = i
    · rw [if_pos e] at ha
      rcases List.mem_cons.mp ha with rfl | ha
      · exact ⟨(own0 a List.mem_cons_self).1, fun u w z => by rw [upd_same] at z; cases z; exact ho _ _ rfl⟩
      · have na : a ≠ p := fun z => pS (by rw [← z]; exact ha)
        rcases src a ha with s | s
        · have := own0 a (List.mem_cons_of_mem _ s)
          exact ⟨this.1, nf a this.2 na⟩
        · exact ⟨.inl s.2.1, nf a s.2.2.2 na⟩
    · rw [if_neg e] at ha
      exact ⟨(I.own j hj a ha).1, nf a (I.own j hj a ha).2 fun z => pT j e (by rw [← z]; exact ha)⟩
  · by_cases e : j = i
    · subst e
      rw [if_pos rfl]
      rw [join_set_self hl] at ed
      rw [hs] at eu
      cases ed
      cases eu
      exact ht
    · rw [if_neg e]
      rw [List.getElem?_set_ne (Ne.symm e)] at ed
      exact (I.top j hj u du eu ed).mono tk (keep j e)
  · by_cases e : j = i
    · subst e
      rw [if_pos rfl] at ha
      rcases List.mem_cons.mp ha with rfl | ha
      · exact I.loc j hj a (by rw [hT]; exact List.mem_cons_self)
      · rcases src a ha with s | s
        · exact I.loc j hj a (by rw [hT]; exact List.mem_cons_of_mem _ s)
        · exact s.2.2.1
    · rw [if_neg e] at ha; exact I.loc j hj a ha
  · by_cases e3 : j = i
    · subst e3
      rw [List.getElem?_set_self hl] at e
      cases e
      exact h2 hj
    · rw [List.getElem?_set_ne (Ne.symm e3)] at e
      exact I.io2 j hj d e
theorem not_tup {H : Hp} {p : Addr} {xs : List V} (h : H p = some (.lst xs)) : ∀ ys, ¬ Rd H p (.tup ys) := fun ys r => by
  rcases r with r | ⟨o, r⟩ <;> (rw [h] at r; cases r)
end
/-! append -/
def sAppend (i : Nat) (e : Env → Res D) : Env → Out := fun ρ => match (ρ[i]?).join with
  | some (.lst _) => (e ρ).then fun d ρ1 => (match (ρ1[i]?).join with
    | some (.lst ds) => if ds.length < 16777216 then .nx (ρ1.set i (some (.lst (ds ++ [d])))) else .bad
    | _ => .bad)
  | _ => .bad
section
variable {c : C0} {W : WX} {te ti : TE} {e ix : Env → Res D} {pu fr : Bool}
theorem ss_appendG (i : Nat) (he : SE c W te e pu true) (hO : c.O i ≠ 0) (h2 : c.O i = 2 → ∀ ρ d ρ', e ρ = .ok d ρ' → imm d = true) : SS c W (tDrop (tBM c.K "list" rAppend (tVar i) (tCons te tNil))) (sAppend i e) := fun H0 Wd Al T σ H ρ nx rt bk ct I q => by
  unfold sAppend at q
  cases z0 : (ρ[i]?).join with
  | none => rw [z0] at q; exact q.elim
  | some d0 =>
    rw [z0] at q
    cases d0 with
    | lst d0 =>
      dsimp only at q
      obtain ⟨v0, hv0, r0⟩ := I.slot z0
      obtain ⟨p, xs, S', rfl, hT, h1, h3⟩ := I.top i hO _ _ hv0 z0
      refine ⟨.ref p, hv0, .inl ⟨rfl, _, .inl (.inl h1)⟩, ?_⟩
      refine he H0 Wd Al T σ H ρ _ I ?_
      dsimp only [Res.then] at q
      cases z : e ρ with
      | bad => rw [z] at q; exact q
      | exc x ρ' => rw [z] at q; exact fun H' T' I' => q σ H' T' I'
      | ok d ρ1 =>
        rw [z] at q
        intro v H1 T1 S I1 r1 g1 nw p1 f1
        dsimp only at q
        cases z1 : (ρ1[i]?).join with
        | none => rw [z1] at q; exact q.elim
        | some d1 =>
          rw [z1] at q
          cases d1 with
          | lst d1 =>
            dsimp only at q
            by_cases hl : d1.length < 16777216
            · rw [if_pos hl] at q
              obtain ⟨p2, xs2, S2, e5, hT2, h4, h5⟩ := I1.top i hO _ _ hv0 z1
              cases e5
              obtain ⟨⟨nS, nN, nF⟩, _, dj⟩ := f1 rfl
              have own := I1.nod i hO
              rw [hT2] at own
              obtain ⟨n1, n2⟩ := List.nodup_cons.mp own
              have pS : p ∉ S := fun h => dj i p h (by rw [hT2]; exact List.mem_cons_self)
              have tk : Tk H1 (upd H1 p (.lst (xs2 ++ [v]))) := fun a us h => by rw [upd_ne (fun z => not_tup h4 us (by rw [← z]; exact .inl h))]; exact h
              have rr : Reps c.K (upd H1 p (.lst (xs2 ++ [v]))) (xs2 ++ [v]) (d1 ++ [d]) (S2 ++ S) := (h5.mono tk fun a ha w e => by rw [upd_ne (fun z => n1 (by rw [← z]; exact ha))]; exact e).append (Reps.one (r1.mono tk fun a ha w e => by rw [upd_ne (fun z => pS (by rw [← z]; exact ha))]; exact e))
              obtain ⟨T', I'⟩ := I1.mut (d' := .lst (d1 ++ [d])) (S' := S2 ++ S) (o := .lst (xs2 ++ [v])) hO hv0 hT2 (not_tup h4) (.lst (.inl upd_same) rr) ⟨p, _, _, rfl, rfl, upd_same, rr⟩ (fun u w z => by cases z)
                (List.nodup_append.mpr ⟨n2, nS, fun a ha b hb e => dj i b hb (by rw [hT2, ← e]; exact List.mem_cons_of_mem _ ha)⟩) (fun h => (List.mem_append.mp h).elim n1 pS)
                (fun a ha => (List.mem_append.mp ha).elim .inl fun h => .inr ⟨fun k => dj k a h, (I.newB a (nN a h)).2, (I.newB a (nN a h)).1, nF a h⟩)
                (fun ho => ⟨_, rfl, by
                  have e9 : ρ1[i]? = some (some (.lst d1)) := by
                    cases z9 : ρ1[i]? with
                    | none => rw [z9] at z1; cases z1
                    | some w => rw [z9] at z1; exact congrArg some z1
                  obtain ⟨es, e7, im⟩ := I1.io2 i ho _ e9
                  cases e7
                  rw [imms_append, im, imms_cons, h2 ho ρ d ρ1 z, imms_nil]
                  rfl⟩)
              exact ⟨p, xs2, v, rfl, rfl, h4, sz_lt (by rw [h5.length]; exact hl), q σ _ T' I'⟩
            · rw [if_neg hl] at q; exact q.elim
          | _ => exact q.elim
    | _ => exact q.elim
theorem ss_append (i : Nat) (he : SE c W te e pu true) (h : c.O i = 1 := by rfl) : SS c W (tDrop (tBM c.K "list" rAppend (tVar i) (tCons te tNil))) (sAppend i e) := ss_appendG i he (by omega) fun z => by omega
theorem chk_imm {e : Env → Res D} {ρ ρ' : Env} {d : D} (h : eChk e ρ = .ok d ρ') : imm d = true := by
  unfold eChk at h
  cases z : e ρ with
  | bad => rw [z] at h; cases h
  | exc x ρ' => rw [z] at h; cases h
  | ok d' ρ1 =>
    rw [z, Res.bind_ok] at h
    by_cases hi : imm d' = true
    · rw [if_pos hi] at h
      cases h
      exact hi
    · rw [if_neg hi] at h; cases h
theorem ss_append2 (i : Nat) (he : SE c W te (eChk e) pu true) (h : c.O i = 2 := by rfl) : SS c W (tDrop (tBM c.K "list" rAppend (tVar i) (tCons te tNil))) (sAppend i (eChk e)) := ss_appendG i he (by omega) fun _ _ _ _ z => chk_imm z
/-! xs[k] = e -/
end
def sSetL (i : Nat) (e ix : Env → Res D) : Env → Out := fun ρ => (e ρ).then fun d ρ1 => match (ρ1[i]?).join with
  | some (.lst ds) => (ix ρ1).then fun k ρ2 => (match k with
    | .int k => (match ixN ds.length k with
      | some j => if imms ds = true then .nx (ρ1.set i (some (.lst (ds.set j d)))) else .bad
      | none => .bad)
    | _ => .bad)
  | _ => .bad
theorem Reps.set {K : PySem.W.Frag} {H : Hp} {d : D} {v : V} (r : Rep K H v d []) : ∀ {ds : List D} {xs : List V} (j : Nat), Reps K H xs ds [] → Reps K H (xs.set j v) (ds.set j d) [] := by
  intro ds
  induction ds with
  | nil => intro xs j h; cases h; exact .nil
  | cons e ds ih =>
    intro xs j h
    have key : ∀ S, Reps K H xs (e :: ds) S → S = [] → ∃ x xs', xs = x :: xs' ∧ Rep K H x e [] ∧ Reps K H xs' ds [] := by
      intro S h hS
      cases h with
      | @cons v0 vs0 _ _ S1 S2 a b =>
        obtain ⟨rfl, rfl⟩ := List.append_eq_nil_iff.mp hS
        exact ⟨_, _, rfl, a, b⟩
    obtain ⟨x, xs', rfl, a, b⟩ := key [] h rfl
    cases j with
    | zero => exact .cons r b
    | succ j => exact .cons a (ih j b)
section
variable {c : C0} {W : WX} {te ti : TE} {e ix : Env → Res D} {pu fr : Bool}
theorem imms_set {d : D} (h : imm d = true) : ∀ {ds : List D} {j : Nat}, imms ds = true → imms (ds.set j d) = true
  | [], _, _ => rfl
  | x :: xs, 0, q => by
    rw [imms_cons, Bool.and_eq_true] at q
    rw [List.set_cons_zero, imms_cons, h, q.2]; rfl
  | x :: xs, j + 1, q => by
    rw [imms_cons, Bool.and_eq_true] at q
    rw [List.set_cons_succ, imms_cons, q.1, imms_set h q.2]; rfl
theorem ss_setL {fi : Bool} (i : Nat) (he : SE c W te (eChk e) pu true) (hx : SE c W ti ix true fi) (hO : Nat.beq (c.O i) 0 = false := by rfl) : SS c W (tAsg te (gSub (tVar i) ti rSetL)) (sSetL i (eChk e) ix) :=
  fun H0 Wd Al T σ H ρ nx rt bk ct I q => he H0 Wd Al T σ H ρ _ I (by
  have hO := Nat.ne_of_beq_eq_false hO
  unfold sSetL at q
  dsimp only [Res.then] at q
  cases z : eChk e ρ with
  | bad => rw [z] at q; exact q
  | exc x ρ' => rw [z] at q; exact fun H' T' I' => q σ H' T' I'
  | ok d ρ1 =>
    rw [z] at q
    intro v H1 T1 S I1 r1 g1 nw p1 f1
    have im := chk_imm z
    have eS := r1.im im
    subst eS
    dsimp only at q
    cases z1 : (ρ1[i]?).join with
    | none => rw [z1] at q; exact q.elim
    | some d1 =>
      rw [z1] at q
      cases d1 with
      | lst d1 =>
        dsimp only at q
        obtain ⟨v0, hv0, r0⟩ := I1.slot z1
        obtain ⟨p, xs, S', rfl, hT, h1, h3⟩ := I1.top i hO _ _ hv0 z1
        refine ⟨.ref p, hv0, ?_⟩
        refine hx H0 Wd Al T1 σ H1 ρ1 _ I1 ?_
        cases z2 : ix ρ1 with
        | bad => rw [z2] at q; exact q
        | exc x ρ' => rw [z2] at q; exact fun H' T' I' => q σ H' T' I'
        | ok k ρ2 =>
          rw [z2] at q
          intro kv H2 T2 S2 I2 r2 g2 nw2 p2 f2
          obtain ⟨e2, s2, t2⟩ := p2 rfl
          subst e2 t2
          dsimp only at q
          cases k with
          | int k =>
            obtain ⟨rfl, _⟩ := rep_int r2
            dsimp only at q
            cases z3 : ixN d1.length k with
            | none => rw [z3] at q; exact q.elim
            | some j =>
              rw [z3] at q
              dsimp only at q
              by_cases im1 : imms d1 = true
              · rw [if_pos im1] at q
                have e0 := h3.im im1
                subst e0
                have h1' := s2 _ _ h1
                have tk : Tk H2 (upd H2 p (.lst (xs.set j v))) := fun a us h => by rw [upd_ne (fun z => not_tup h1' us (by rw [← z]; exact .inl h))]; exact h
                have rr : Reps c.K (upd H2 p (.lst (xs.set j v))) (xs.set j v) (d1.set j d) [] := Reps.set ((r1.same s2).tk tk) j ((h3.same s2).tk tk)
                obtain ⟨T', I'⟩ := I2.mut (d' := .lst (d1.set j d)) (S' := []) (o := .lst (xs.set j v)) hO hv0 hT (not_tup h1') (.lst (.inl upd_same) rr) ⟨p, _, _, rfl, rfl, upd_same, rr⟩ (fun u w z => by cases z)
                  List.nodup_nil (fun h => by cases h) (fun a ha => by cases ha) (fun _ => ⟨_, rfl, imms_set im im1⟩)
                exact ⟨p, xs, k, j, rfl, rfl, h1', by rw [h3.length]; exact z3, q σ _ T' I'⟩
              · rw [if_neg im1] at q; exact q.elim
          | _ => exact q.elim
      | _ => exact q.elim)
end
end Ol
namespace Ol
open PySem PySem.Spec PyProof.Rows L2
/-! ## more rules -/
def negD : D → Option D
  | .int i => some (.int (-i))
  | _ => none
theorem uns_neg {K : PySem.W.Frag} : UnS K (rU fun i => .int (-i)) negD true := fun H x d z S Q r e q => by
  unfold negD at e
  split at e
  · obtain ⟨rfl, rfl⟩ := rep_int r
    cases e
    exact ⟨_, rfl, q _ H [] (.int _) (Same.refl _) fun _ => ⟨Nw.nil, trivial⟩⟩
  · cases e
/-! in, not in -/
def flatD : D → Bool
  | .non | .bl _ | .int _ | .str _ => true
  | _ => false
def toF : D → V
  | .bl b => .bl b
  | .int i => .int i
  | .str x => .str x
  | _ => .non
def eqF : D → D → Bool
  | .non, .non => true
  | .bl a, .bl b => a == b
  | .bl a, .int b => (if a = true then 1 else 0) == b
  | .int a, .bl b => a == (if b = true then 1 else 0)
  | .int a, .int b => a == b
  | .str a, .str b => a == b
  | _, _ => false
theorem Rep.flat {K : PySem.W.Frag} {H : Hp} {v : V} {d : D} {S : List Addr} (h : Rep K H v d S) (f : flatD d = true) : v = toF d ∧ flatV v = true := by
  cases h with
  | non => exact ⟨rfl, rfl⟩
  | bl b => exact ⟨rfl, rfl⟩
  | int b => exact ⟨rfl, rfl⟩
  | str b => exact ⟨rfl, rfl⟩
  | _ => cases f
theorem eqF_eq {d e : D} (h : flatD d = true) (h2 : flatD e = true) : eqV (toF d) (toF e) = eqF d e := by
  cases d <;> first | (cases h; done) | skip
  all_goals cases e <;> first | (cases h2; done) | rfl
theorem Reps.flat {K : PySem.W.Frag} {H : Hp} : ∀ {ds : List D} {vs : List V} {S : List Addr}, Reps K H vs ds S → ds.all flatD = true → vs = ds.map toF ∧ vs.all flatV = true
  | [], _, _, h, _ => by cases h; exact ⟨rfl, rfl⟩
  | d :: ds, _, _, h, f => by
    rw [List.all_cons, Bool.and_eq_true] at f
    cases h with
    | cons a b =>
      obtain ⟨e1, e2⟩ := a.flat f.1
      obtain ⟨e3, e4⟩ := Reps.flat b f.2
      exact ⟨by rw [e1, e3]; rfl, by rw [List.all_cons, e2, e4]; rfl⟩
theorem inV_flat {x : D} : ∀ {ds : List D}, flatD x = true → ds.all flatD = true → inV (toF x) (ds.map toF) = ds.any fun y => eqF y x
  | [], _, _ => rfl
  | d :: ds, h, f => by
    rw [List.all_cons, Bool.and_eq_true] at f
    have ih := inV_flat (ds := ds) h f.2
    unfold inV at ih ⊢
    rw [List.map_cons, List.any_cons, List.any_cons, ih, eqF_eq f.1 h]
def strIn (s z : Str) : Bool := match s.cps.toList with
  | [c] => decide (c ∈ z.cps.toList)
  | _ => !(Builtin.Str.occurrences z s 0 z.length 1).isEmpty
@[simp] theorem strIn_one {c : Nat} {z : Str} : strIn ⟨#[c]⟩ z = decide (c ∈ z.cps.toList) := id rfl
def inB : D → D → Option Bool
  | .str s, .str z => some (strIn s z)
  | x, .lst ys => if flatD x = true ∧ ys.all flatD = true then some (ys.any fun y => eqF y x) else if shp x = true ∧ shp (.lst ys) = true then some (ys.any fun y => eqv y x) else none
  | x, .tup ys => if flatD x = true ∧ ys.all flatD = true then some (ys.any fun y => eqF y x) else none
  | _, _ => none
@[simp] theorem inB_str {s z} : inB (.str s) (.str z) = some (strIn s z) := id rfl
theorem inB_lst {x ys} : inB x (.lst ys) = if flatD x = true ∧ ys.all flatD = true then some (ys.any fun y => eqF y x) else if shp x = true ∧ shp (.lst ys) = true then some (ys.any fun y => eqv y x) else none := by cases x <;> rfl
theorem inB_tup {x ys} : inB x (.tup ys) = if flatD x = true ∧ ys.all flatD = true then some (ys.any fun y => eqF y x) else none := by cases x <;> rfl
def inD (x y : D) : Option D := (inB x y).map .bl
def ninD (x y : D) : Option D := (inB x y).map fun b => .bl (!b)
def rInS (neg : Bool) : R2 := fun x y H Q => (∃ (c : Nat) (z : Str), x = .str ⟨#[c]⟩ ∧ y = .str z ∧ Q (.bl (if neg = true then !decide (c ∈ z.cps.toList) else decide (c ∈ z.cps.toList))) H) ∨ ∃ i j, x = .str i ∧ y = .str j ∧ Q (.bl (if neg = true then !(!(Builtin.Str.occurrences j i 0 j.length 1).isEmpty) else !(Builtin.Str.occurrences j i 0 j.length 1).isEmpty)) H
def rInDn (K : PySem.W.Frag) (neg : Bool) : R2 := fun x y H Q => ∃ d ds, Dp K H x d ∧ Dp K H y (.list ds) ∧ SeqAt.shaped d = true ∧ SeqAt.shaped (.list ds) = true ∧ Q (.bl (if neg = true then !(ds.any fun z => PyData.eqv z d) else ds.any fun z => PyData.eqv z d)) H
def rInU (K : PySem.W.Frag) (neg : Bool) : R2 := rOr (rInS neg) (rOr (rIn K neg) (rInDn K neg))
theorem op_inU {X : Cx} {K : PySem.W.Frag} (hu : X.A.units + 65 < cLine) (hK : X.K = K := by rfl) : OpR X (compareOp .In) (rInU K false) :=
  op_or2 (op_or2 op_in_sign op_in_str) (op_or2 (op_inK hK) (hK ▸ op_inD hu))
theorem op_ninU {X : Cx} {K : PySem.W.Frag} (hu : X.A.units + 65 < cLine) (hK : X.K = K := by rfl) : OpR X (compareOp .NotIn) (rInU K true) :=
  op_or2 (op_or2 op_notIn_sign op_notIn_str) (op_or2 (op_notInK hK) (hK ▸ op_notInD hu))
theorem inB_ok {K : PySem.W.Frag} {neg : Bool} {H : Hp} {x y : V} {d e : D} {b : Bool} {S S2 : List Addr} {Q : VK} (r1 : Rep K H x d S) (r2 : Rep K H y e S2) (h : inB d e = some b) (q : Q (.bl (if neg = true then !b else b)) H) : rInU K neg x y H Q := by
  have nd : ∀ {p : Addr} {xs : List V} {ys : List D} {S : List Addr}, (SqL K H p xs ∨ SqT K H p xs) → Reps K H xs ys S → y = .ref p → flatD d = true → ys.all flatD = true → b = (ys.any fun y => eqF y d) → rInU K neg x y H Q := fun hp hr ey f1 f2 eb => by
    subst ey eb
    obtain ⟨e1, e2⟩ := r1.flat f1
    obtain ⟨e3, e4⟩ := hr.flat f2
    refine .inr (.inl ⟨_, _, rfl, hp, e2, e4, ?_⟩)
    rw [e1, e3, inV_flat f1 f2]
    exact q
  cases e with
  | str z =>
    cases d with
    | str s =>
      obtain ⟨rfl, rfl⟩ := rep_str r1
      obtain ⟨rfl, rfl⟩ := rep_str r2
      rw [inB_str] at h
      cases h
      obtain ⟨⟨l⟩⟩ := s
      match l with
      | [c] => exact .inl (.inl ⟨c, z, rfl, rfl, q⟩)
      | [] => exact .inl (.inr ⟨_, _, rfl, rfl, q⟩)
      | a :: b :: l => exact .inl (.inr ⟨_, _, rfl, rfl, q⟩)
    | _ => cases h
  | lst ys =>
    rw [inB_lst] at h
    obtain ⟨p, xs, S3, rfl, h0, hr, _⟩ := rep_lst r2
    split at h
    · rename_i f
      cases h
      exact nd (.inl h0) hr rfl f.1 f.2 rfl
    · split at h
      · rename_i f
        cases h
        refine .inr (.inr ⟨pd d, pds ys, r1.dp (shp_lay f.1), ?_, f.1, ?_, ?_⟩)
        · have := r2.dp (shp_lay f.2)
          rw [pd] at this
          exact this
        · have := f.2
          unfold shp at this
          rw [pd] at this
          exact this
        · rw [pds_map, List.any_map]
          exact q
      · cases h
  | tup ys =>
    rw [inB_tup] at h
    obtain ⟨p, xs, rfl, h0, hr⟩ := rep_tup r2
    split at h
    · rename_i f
      cases h
      exact nd (.inr h0) hr rfl f.1 f.2 rfl
    · cases h
  | _ => cases d <;> cases h
theorem ops_in {K : PySem.W.Frag} : OpS K (rInU K false) inD true := fun H x y d e z S S2 Q r1 r2 h q => by
  unfold inD at h
  cases hb : inB d e with
  | none => rw [hb] at h; cases h
  | some b =>
    rw [hb] at h
    cases h
    exact inB_ok r1 r2 hb (q _ H [] (.bl _) (Same.refl _) fun _ => ⟨Nw.nil, trivial⟩)
theorem ops_nin {K : PySem.W.Frag} : OpS K (rInU K true) ninD true := fun H x y d e z S S2 Q r1 r2 h q => by
  unfold ninD at h
  cases hb : inB d e with
  | none => rw [hb] at h; cases h
  | some b =>
    rw [hb] at h
    cases h
    exact inB_ok r1 r2 hb (q _ H [] (.bl _) (Same.refl _) fun _ => ⟨Nw.nil, trivial⟩)
/-! slices -/
def cutL {α : Type} (xs : List α) (lo hi : Option Int) : List α := (xs.drop (HT.sIx xs.length 0 lo)).take (HT.sIx xs.length xs.length hi - HT.sIx xs.length 0 lo)
theorem Reps.cut {K : PySem.W.Frag} {H : Hp} {ds : List D} {xs : List V} (lo hi : Option Int) (h : Reps K H xs ds []) : Reps K H (cutV xs lo hi) (cutL ds lo hi) [] := by
  have drop : ∀ (n : Nat) {ds : List D} {xs : List V}, Reps K H xs ds [] → Reps K H (xs.drop n) (ds.drop n) [] := by
    intro n
    induction n with
    | zero => intro ds xs h; exact h
    | succ n ih =>
      intro ds xs h
      cases ds with
      | nil => cases h; exact .nil
      | cons d ds =>
        have key : ∀ S, Reps K H xs (d :: ds) S → S = [] → ∃ x xs', xs = x :: xs' ∧ Reps K H xs' ds [] := by
          intro S h hS
          cases h with
          | @cons v0 vs0 _ _ S1 S2 a b =>
            obtain ⟨rfl, rfl⟩ := List.append_eq_nil_iff.mp hS
            exact ⟨_, _, rfl, b⟩
        obtain ⟨x, xs', rfl, b⟩ := key [] h rfl
        exact ih b
  have take : ∀ (n : Nat) {ds : List D} {xs : List V}, Reps K H xs ds [] → Reps K H (xs.take n) (ds.take n) [] := by
    intro n
    induction n with
    | zero => intro ds xs h; simp only [List.take_zero]; exact .nil
    | succ n ih =>
      intro ds xs h
      cases ds with
      | nil => cases h; exact .nil
      | cons d ds =>
        have key : ∀ S, Reps K H xs (d :: ds) S → S = [] → ∃ x xs', xs = x :: xs' ∧ Rep K H x d [] ∧ Reps K H xs' ds [] := by
          intro S h hS
          cases h with
          | @cons v0 vs0 _ _ S1 S2 a b =>
            obtain ⟨rfl, rfl⟩ := List.append_eq_nil_iff.mp hS
            exact ⟨_, _, rfl, a, b⟩
        obtain ⟨x, xs', rfl, a, b⟩ := key [] h rfl
        exact .cons a (ih b)
  unfold cutV cutL
  rw [h.length]
  exact take _ (drop _ h)
def rSlU (K : PySem.W.Frag) : V → Option Int → Option Int → Hp → VK → Prop := fun x lo hi H Q => rSlS x lo hi H Q ∨ rSlA K x lo hi H Q ∨ rSlL K x lo hi H Q
theorem sl_U {X : Cx} {K : PySem.W.Frag} (hK : X.K = K := by rfl) : SlR X (rSlU K) := SlR.or sl_str (SlR.or (sl_tupK hK) (sl_listK hK))
def sliceD (d : D) (lo hi : Option Int) : Option D := match d with
  | .str z => if z.length ≤ 16777216 then some (.str (cutS z lo hi)) else none
  | .tup xs => if imms xs = true then some (.tup (cutL xs lo hi)) else none
  | .lst xs => if imms xs = true then some (.lst (cutL xs lo hi)) else none
  | _ => none
@[simp] theorem slice_str {z lo hi} : sliceD (.str z) lo hi = if z.length ≤ 16777216 then some (.str (cutS z lo hi)) else none := id rfl
theorem slice_tup {xs lo hi} : sliceD (.tup xs) lo hi = if imms xs = true then some (.tup (cutL xs lo hi)) else none := rfl
theorem slice_lst {xs lo hi} : sliceD (.lst xs) lo hi = if imms xs = true then some (.lst (cutL xs lo hi)) else none := rfl
def pNone : Env → Res (Option Int) := fun ρ => .ok none ρ
def pSome (e : Env → Res D) : Env → Res (Option Int) := fun ρ => (e ρ).bind fun d ρ1 => match d with
  | .int i => .ok (some i) ρ1
  | _ => .bad
def SO (c : C0) (W : WX) (tp : TO) (p : Env → Res (Option Int)) : Prop :=
  ∀ (H0 : Hp) (Wd Al : Addr → Prop) (T : Nat → List Addr) (σ : L2.St) (H : Hp) (ρ : Env) (Q : Option Int → Hp → Prop), SIT c H0 Wd Al T σ H ρ →
    (match p ρ with
      | .ok o ρ' => ∀ H', SIT c H0 Wd Al T σ H' ρ → ρ' = ρ → Same H H' → Q o H'
      | .exc x ρ' => ∀ H' T', SIT c H0 Wd Al T' σ H' ρ' → W (.ref (He.ga c.K x)) none σ H'
      | .bad => False) → tp σ H Q
section
variable {c : C0} {W : WX} {te : TE} {tl th : TO} {e : Env → Res D} {l h : Env → Res (Option Int)} {pu fr : Bool}
theorem so_none : SO c W tNoPart pNone := fun H0 Wd Al T σ H ρ Q I q => q H I rfl (Same.refl _)
theorem so_some (he : SE c W te e true fr) : SO c W (tPart te) (pSome e) := fun H0 Wd Al T σ H ρ Q I q => he H0 Wd Al T σ H ρ _ I (by
  unfold pSome at q
  cases z : e ρ with
  | bad => rw [z] at q; exact q
  | exc x ρ' => rw [z] at q; exact q
  | ok d ρ1 =>
    rw [z, Res.bind_ok] at q
    intro v H1 T1 S I1 r1 g1 nw1 p1 f1
    obtain ⟨e1, s1, t1⟩ := p1 rfl
    subst e1 t1
    cases d with
    | int i =>
      obtain ⟨rfl, _⟩ := rep_int r1
      exact ⟨i, rfl, q H1 I1 rfl s1⟩
    | _ => exact q.elim)
def eSl (e : Env → Res D) (l h : Env → Res (Option Int)) : Env → Res D := fun ρ => (e ρ).bind fun d ρ1 => (l ρ1).bind fun lo ρ2 => (h ρ2).bind fun hi ρ3 => optR (sliceD d lo hi) ρ3
theorem se_slice (he : SE c W te e pu fr) (hl : SO c W tl l) (hh : SO c W th h) : SE c W (tSl (rSlU c.K) te tl th) (eSl e l h) pu true := fun H0 Wd Al T σ H ρ Q I q => he H0 Wd Al T σ H ρ _ I (by
  unfold eSl at q
  cases z : e ρ with
  | bad => rw [z] at q; exact q
  | exc x ρ' => rw [z] at q; exact q
  | ok d ρ1 =>
    rw [z, Res.bind_ok] at q
    intro v H1 T1 S I1 r1 g1 nw1 p1 f1
    refine hl H0 Wd Al T1 σ H1 ρ1 _ I1 ?_
    cases z2 : l ρ1 with
    | bad => rw [z2] at q; exact q
    | exc x ρ' => rw [z2] at q; exact q
    | ok lo ρ2 =>
      rw [z2, Res.bind_ok] at q
      intro H2 I2 e2 s2
      subst e2
      refine hh H0 Wd Al T1 σ H2 ρ2 _ I2 ?_
      cases z3 : h ρ2 with
      | bad => rw [z3] at q; exact q
      | exc x ρ' => rw [z3] at q; exact q
      | ok hi ρ3 =>
        rw [z3, Res.bind_ok] at q
        intro H3 I3 e3 s3
        subst e3
        unfold optR at q
        cases z4 : sliceD d lo hi with
        | none => rw [z4] at q; exact q.elim
        | some w =>
          rw [z4] at q
          have ss := s2.trans s3
          have fin : ∀ {x : V} {H4 : Hp} {U : List Addr}, Rep c.K H4 x w U → Same H3 H4 → Nw H3 H4 U → Top c.K H4 x w U → Q x H4 := fun {x H4 U} r s n tp =>
            q x H4 T1 U (I3.same s) r ((g1.trans (Grw.same ss)).trans (Grw.same s)) nw1 (fun hp => by
              obtain ⟨e1, s1, t1⟩ := p1 hp
              exact ⟨e1, (s1.trans ss).trans s, t1⟩) fun _ => ⟨⟨n.nod, fun a ha => g1.dom a ((Grw.same ss).dom a (n.new a ha)), n.nf⟩, tp, fun i a ha k => I3.doms i a k (n.new a ha)⟩
          cases d with
          | str y =>
            obtain ⟨rfl, _⟩ := rep_str r1
            rw [slice_str] at z4
            split at z4
            · rename_i hy
              cases z4
              exact .inl ⟨y, rfl, sz_le hy, fin (.str _) (Same.refl _) Nw.nil trivial⟩
            · cases z4
          | tup ds =>
            rw [slice_tup] at z4
            split at z4
            · rename_i im
              cases z4
              obtain ⟨a, xs, rfl, h1, h2⟩ := rep_tupR (r1.same ss)
              have e0 := h2.im im
              subst e0
              refine .inr (.inl ⟨a, xs, rfl, h1.sq, fun hw => ?_, fun _ p hp => ?_⟩)
              · refine fin (.tup (S := []) h1 ?_) (Same.refl _) Nw.nil trivial
                have := h2.cut lo hi
                have e : cutV xs lo hi = xs := by unfold cutV; rw [hw.1, hw.2]; simp
                rw [e] at this
                exact this
              · have s := Same.new (o := HO.tup (cutV xs lo hi)) hp
                exact fin (.tup (.inl upd_same) ((h2.cut lo hi).same s)) s Nw.nil trivial
            · cases z4
          | lst ds =>
            rw [slice_lst] at z4
            split at z4
            · rename_i im
              cases z4
              obtain ⟨a, xs, S', rfl, h1, h2, _⟩ := rep_lst (r1.same ss)
              have e0 := h2.im im
              subst e0
              refine .inr (.inr ⟨a, xs, rfl, h1, fun p hp => ?_⟩)
              have s := Same.new (o := HO.lst (cutV xs lo hi)) hp
              have rr := (h2.cut lo hi).same s
              exact fin (.lst (.inl upd_same) rr) s ⟨by simp, fun b hb => (by simp at hb; subst hb; exact hp), fun b hb => (by simp at hb; subst hb; intro o u k; rw [upd_same] at k; cases k)⟩ ⟨p, _, [], rfl, rfl, upd_same, rr⟩
            · cases z4
          | _ => cases z4)
end
/-! built-ins -/
theorem fresh_lst {K : PySem.W.Frag} {H : Hp} {xs : List V} {ds : List D} {Q : VK} (r : Reps K H xs ds []) (q : ∀ v H' U, Rep K H' v (.lst ds) U → Same H H' → (true = true → Nw H H' U ∧ Top K H' v (.lst ds) U) → Q v H') : ∀ p, H p = none → Q (.ref p) (upd H p (.lst xs)) := fun p hp => by
  have s := Same.new (o := HO.lst xs) hp
  have rr := r.same s
  exact q _ _ [p] (.lst (.inl upd_same) rr) s fun _ => ⟨⟨by simp, fun b hb => (by simp at hb; subst hb; exact hp), fun b hb => (by simp at hb; subst hb; intro o u k; rw [upd_same] at k; cases k)⟩, p, _, [], rfl, rfl, upd_same, rr⟩
def tupleD : List D → Option D
  | [.lst xs] => if imms xs = true then some (.tup xs) else none
  | [.tup xs] => if imms xs = true then some (.tup xs) else none
  | _ => none
def rTupleU (K : PySem.W.Frag) : List V → Hp → VK → Prop := fun xs H Q => ∃ p ys, xs = [.ref p] ∧ ((SqL K H p ys ∧ ∀ l, H l = none → Q (.ref l) (upd H l (.tup ys))) ∨ (SqT K H p ys ∧ Q (.ref p) H))
theorem call_tupleU {X : Cx} {K : PySem.W.Frag} (hK : X.K = K := by rfl) : CallR X (.type "tuple") (rTupleU K) := hK ▸ call_tuple_of
theorem calls_tuple {K : PySem.W.Frag} : CallS K (rTupleU K) tupleD true := fun H vs ds z S Q r e q => by
  unfold tupleD at e
  split at e
  · obtain ⟨v, rfl, h⟩ := reps1 r
    split at e
    · rename_i im
      cases e
      obtain ⟨a, xs, S1, rfl, h1, h2, _⟩ := rep_lst h
      have e0 := h2.im im
      subst e0
      refine ⟨a, xs, rfl, .inl ⟨h1, fun l hl => ?_⟩⟩
      have s := Same.new (o := HO.tup xs) hl
      exact q _ _ [] (.tup (.inl upd_same) (h2.same s)) s fun _ => ⟨Nw.nil, trivial⟩
    · cases e
  · obtain ⟨v, rfl, h⟩ := reps1 r
    split at e
    · rename_i im
      cases e
      obtain ⟨a, xs, rfl, h1, h2⟩ := rep_tupR h
      have e0 := h2.im im
      subst e0
      exact ⟨a, xs, rfl, .inr ⟨h1.sq, q _ H [] (.tup h1 h2) (Same.refl _) fun _ => ⟨Nw.nil, trivial⟩⟩⟩
    · cases e
  · cases e
def listD : List D → Option D
  | [.lst xs] => if imms xs = true then some (.lst xs) else none
  | [.tup xs] => if imms xs = true then some (.lst xs) else none
  | _ => none
theorem calls_list {K : PySem.W.Frag} : CallS K (rListOf K) listD true := fun H vs ds z S Q r e q => by
  unfold listD at e
  split at e
  · obtain ⟨v, rfl, h⟩ := reps1 r
    split at e
    · rename_i im
      cases e
      obtain ⟨a, xs, S1, rfl, h1, h2, _⟩ := rep_lst h
      have e0 := h2.im im
      subst e0
      exact s_listL h1 (fresh_lst h2 q)
    · cases e
  · obtain ⟨v, rfl, h⟩ := reps1 r
    split at e
    · rename_i im
      cases e
      obtain ⟨a, xs, rfl, h1, h2⟩ := rep_tup h
      have e0 := h2.im im
      subst e0
      exact s_listT h1 (fresh_lst h2 q)
    · cases e
  · cases e
def absD : List D → Option D
  | [.int i] => some (.int (if i < 0 then -i else i))
  | _ => none
theorem calls_abs {K : PySem.W.Frag} : CallS K rAbsI absD true := fun H vs ds z S Q r e q => by
  unfold absD at e
  split at e
  · obtain ⟨v, rfl, h⟩ := reps1 r
    obtain ⟨rfl, rfl⟩ := rep_int h
    cases e
    exact s_absI (q _ H [] (.int _) (Same.refl _) fun _ => ⟨Nw.nil, trivial⟩)
  · cases e
def intsOf : List D → Option (List Int)
  | [] => some []
  | .int i :: r => (intsOf r).map (i :: ·)
  | _ => none
@[simp] theorem intsOf_nil : intsOf [] = some [] := id rfl
@[simp] theorem intsOf_cons {i r} : intsOf (.int i :: r) = (intsOf r).map (i :: ·) := id rfl
@[simp] theorem intsOf_map : ∀ {ns : List Int}, intsOf (ns.map D.int) = some ns
  | [] => rfl
  | n :: ns => by rw [List.map_cons, intsOf_cons, intsOf_map]; rfl
theorem intsOf_eq : ∀ {ds : List D} {ns : List Int}, intsOf ds = some ns → ds = ns.map D.int
  | [], _, h => by cases h; rfl
  | .int i :: r, ns, h => by
    rw [intsOf_cons] at h
    cases e : intsOf r with
    | none => rw [e] at h; cases h
    | some ms => rw [e] at h; cases h; rw [intsOf_eq e]; rfl
  | .non :: _, _, h => by cases h
  | .bl _ :: _, _, h => by cases h
  | .str _ :: _, _, h => by cases h
  | .tup _ :: _, _, h => by cases h
  | .lst _ :: _, _, h => by cases h
  | .dT _ :: _, _, h => by cases h
  | .dK _ :: _, _, h => by cases h
  | .ty _ :: _, _, h => by cases h
  | .ex _ :: _, _, h => by cases h
theorem Reps.intsOf {K : PySem.W.Frag} {H : Hp} : ∀ {ns : List Int} {vs : List V} {S : List Addr}, Reps K H vs (ns.map D.int) S → vs = ns.map V.int
  | [], _, _, h => by cases h; rfl
  | n :: ns, _, _, h => by
    rw [List.map_cons] at h
    cases h with
    | cons a b =>
      obtain ⟨rfl, _⟩ := rep_int a
      rw [Reps.intsOf b]; rfl
def sumD : List D → Option D
  | [.lst xs] => (intsOf xs).map fun ns => .int ns.sum
  | _ => none
theorem calls_sum {K : PySem.W.Frag} : CallS K (rSum K) sumD true := fun H vs ds z S Q r e q => by
  unfold sumD at e
  split at e
  · rename_i xs
    obtain ⟨v, rfl, h⟩ := reps1 r
    cases z2 : intsOf xs with
    | none => rw [z2] at e; cases e
    | some ns =>
      rw [z2] at e
      cases e
      obtain ⟨a, ys, S1, rfl, h1, h2, _⟩ := rep_lst h
      rw [intsOf_eq z2] at h2
      rw [h2.intsOf] at h1
      exact s_sumL h1 (q _ H [] (.int _) (Same.refl _) fun _ => ⟨Nw.nil, trivial⟩)
  · cases e
def bls : List D → Option (List Bool)
  | [] => some []
  | .bl i :: r => (bls r).map (i :: ·)
  | _ => none
@[simp] theorem bls_nil : bls [] = some [] := id rfl
@[simp] theorem bls_cons {i r} : bls (.bl i :: r) = (bls r).map (i :: ·) := id rfl
@[simp] theorem bls_map : ∀ {ns : List Bool}, bls (ns.map D.bl) = some ns
  | [] => rfl
  | n :: ns => by rw [List.map_cons, bls_cons, bls_map]; rfl
theorem bls_eq : ∀ {ds : List D} {ns : List Bool}, bls ds = some ns → ds = ns.map D.bl
  | [], _, h => by cases h; rfl
  | .bl i :: r, ns, h => by
    rw [bls_cons] at h
    cases e : bls r with
    | none => rw [e] at h; cases h
    | some ms => rw [e] at h; cases h; rw [bls_eq e]; rfl
  | .non :: _, _, h => by cases h
  | .int _ :: _, _, h => by cases h
  | .str _ :: _, _, h => by cases h
  | .tup _ :: _, _, h => by cases h
  | .lst _ :: _, _, h => by cases h
  | .dT _ :: _, _, h => by cases h
  | .dK _ :: _, _, h => by cases h
  | .ty _ :: _, _, h => by cases h
  | .ex _ :: _, _, h => by cases h
theorem Reps.bls {K : PySem.W.Frag} {H : Hp} : ∀ {ns : List Bool} {vs : List V} {S : List Addr}, Reps K H vs (ns.map D.bl) S → vs = ns.map V.bl
  | [], _, _, h => by cases h; rfl
  | n :: ns, _, _, h => by
    rw [List.map_cons] at h
    cases h with
    | cons a b =>
      obtain ⟨rfl, _⟩ := rep_bl a
      rw [Reps.bls b]; rfl
def allD : List D → Option D
  | [.lst xs] => (bls xs).map fun ns => .bl (ns.all id)
  | _ => none
def anyD : List D → Option D
  | [.lst xs] => (bls xs).map fun ns => .bl (ns.any id)
  | _ => none
theorem calls_all {K : PySem.W.Frag} : CallS K (rAll K) allD true := fun H vs ds z S Q r e q => by
  unfold allD at e
  split at e
  · rename_i xs
    obtain ⟨v, rfl, h⟩ := reps1 r
    cases z2 : bls xs with
    | none => rw [z2] at e; cases e
    | some ns =>
      rw [z2] at e
      cases e
      obtain ⟨a, ys, S1, rfl, h1, h2, _⟩ := rep_lst h
      rw [bls_eq z2] at h2
      rw [h2.bls] at h1
      exact ⟨a, ns, rfl, h1, q _ H [] (.bl _) (Same.refl _) fun _ => ⟨Nw.nil, trivial⟩⟩
  · cases e
theorem calls_any {K : PySem.W.Frag} : CallS K (rAny K) anyD true := fun H vs ds z S Q r e q => by
  unfold anyD at e
  split at e
  · rename_i xs
    obtain ⟨v, rfl, h⟩ := reps1 r
    cases z2 : bls xs with
    | none => rw [z2] at e; cases e
    | some ns =>
      rw [z2] at e
      cases e
      obtain ⟨a, ys, S1, rfl, h1, h2, _⟩ := rep_lst h
      rw [bls_eq z2] at h2
      rw [h2.bls] at h1
      exact ⟨a, ns, rfl, h1, q _ H [] (.bl _) (Same.refl _) fun _ => ⟨Nw.nil, trivial⟩⟩
  · cases e
def call_ordR : List V → Hp → VK → Prop := fun xs H Q => ∃ x, xs = [.str x] ∧ x.length = 1 ∧ Q (.int (x.cps.getD 0 0 : Nat)) H
theorem call_ordU {X : Cx} : CallR X (.builtin "ord") call_ordR := call_ord
def ordD : List D → Option D
  | [.str x] => if x.length = 1 then some (.int (x.cps.getD 0 0 : Nat)) else none
  | _ => none
theorem calls_ord {K : PySem.W.Frag} : CallS K call_ordR ordD true := fun H vs ds z S Q r e q => by
  unfold ordD at e
  split at e
  · obtain ⟨v, rfl, h⟩ := reps1 r
    obtain ⟨rfl, rfl⟩ := rep_str h
    split at e
    · rename_i hl
      cases e
      exact ⟨_, rfl, hl, q _ H [] (.int _) (Same.refl _) fun _ => ⟨Nw.nil, trivial⟩⟩
    · cases e
  · cases e
end Ol
namespace Ol
open PySem PySem.Spec PyProof.Rows L2
/-! ## methods of texts -/
def MetS (K : PySem.W.Frag) (T : String) (R : V → List V → Hp → VK → Prop) (f : D → List D → Option D) (fr : Bool) : Prop :=
  (∀ H x d S, Rep K H x d S → kindD d = T → tyV K T x H) ∧ ∀ (H : Hp) (x : V) (d : D) (vs : List V) (ds : List D) (z : D) (S S2 : List Addr) (Q : VK), Rep K H x d S → Reps K H vs ds S2 → f d ds = some z → (∀ v H' U, Rep K H' v z U → Same H H' → (fr = true → Nw H H' U ∧ Top K H' v z U) → Q v H') → R x vs H Q
def eM (T : String) (f : D → List D → Option D) (a : Env → Res D) (as : Env → Res (List D)) : Env → Res D := fun ρ => (a ρ).bind fun x ρ1 => if kindD x = T then (as ρ1).bind fun xs ρ2 => optR (f x xs) ρ2 else .bad
section
variable {c : C0} {W : WX} {te : TE} {tt : TA} {a : Env → Res D} {as : Env → Res (List D)} {pa pb fa fb fr : Bool}
theorem se_metG {T : String} {R : L2.St → V → List V → Hp → VK → Prop} {f : D → List D → Option D} (hm : ∀ σ, MetS c.K T (R σ) f fr) (ha : SE c W te a pa fa) (hb : SA c W tt as pb fb) (hp : pb = true ∨ T = "str") :
    SE c W (fun σ H Q => te σ H fun x H1 => tyV c.K T x H1 ∧ tt σ H1 fun xs H2 => R σ x xs H2 Q) (eM T f a as) (pa && pb) fr := fun H0 Wd Al T0 σ H ρ Q I q => ha H0 Wd Al T0 σ H ρ _ I (by
  unfold eM at q
  cases z : a ρ with
  | bad => rw [z] at q; exact q
  | exc x ρ' => rw [z] at q; exact q
  | ok d ρ1 =>
    rw [z, Res.bind_ok] at q
    intro v H1 T1 S I1 r1 g1 nw1 p1 f1
    by_cases hk : kindD d = T
    · rw [if_pos hk] at q
      refine ⟨(hm σ).1 H1 v d S r1 hk, hb H0 Wd Al T1 σ H1 ρ1 _ I1 ?_⟩
      cases z2 : as ρ1 with
      | bad => rw [z2] at q; exact q
      | exc x ρ' => rw [z2] at q; exact q
      | ok es ρ2 =>
        rw [z2, Res.bind_ok] at q
        intro us H2 T2 S2 I2 r2 g2 nw2 p2 f2
        have r1' : Rep c.K H2 v d S := by
          rcases hp with hp | hp
          · exact r1.same (p2 hp).2.1
          · subst hp
            cases d with
            | str x =>
              obtain ⟨rfl, rfl⟩ := rep_str r1
              exact .str x
            | _ => simp [kindD] at hk
        unfold optR at q
        cases z3 : f d es with
        | none => rw [z3] at q; exact q.elim
        | some w =>
          rw [z3] at q
          refine (hm σ).2 H2 v d us es w S S2 Q r1' r2 z3 fun y H3 U r3 s3 f3 => ?_
          refine q y H3 T2 U (I2.same s3) r3 ((g1.trans g2).trans (Grw.same s3)) (fun i a ha => ?_) (fun hp => ?_) fun hf => ?_
          · rcases nw2 i a ha with k | k
            · exact nw1 i a k
            · exact .inr (g1.dom a k)
          · rw [Bool.and_eq_true] at hp
            obtain ⟨e1, s1, t1⟩ := p1 hp.1
            obtain ⟨e2, s2, t2⟩ := p2 hp.2
            exact ⟨e2.trans e1, (s1.trans s2).trans s3, t2.trans t1⟩
          · obtain ⟨⟨n, nn, nf⟩, tp⟩ := f3 hf
            exact ⟨⟨n, fun a ha => g1.dom a (g2.dom a (nn a ha)), nf⟩, tp, fun i a ha k => I2.doms i a k (nn a ha)⟩
    · rw [if_neg hk] at q; exact q.elim)
theorem se_m {T : String} {R : V → List V → Hp → VK → Prop} {f : D → List D → Option D} (hm : MetS c.K T R f fr) (ha : SE c W te a pa fa) (hb : SA c W tt as pb fb) (hp : pb = true ∨ T = "str" := by first | exact .inl rfl | exact .inr rfl) : SE c W (tBM c.K T R te tt) (eM T f a as) (pa && pb) fr := se_metG (R := fun _ => R) (fun _ => hm) ha hb hp
theorem se_mS {T : String} {R : L2.St → V → List V → Hp → VK → Prop} {f : D → List D → Option D} (hm : ∀ σ, MetS c.K T (R σ) f fr) (ha : SE c W te a pa fa) (hb : SA c W tt as pb fb) (hp : pb = true ∨ T = "str" := by first | exact .inl rfl | exact .inr rfl) : SE c W (tBMS c.K T R te tt) (eM T f a as) (pa && pb) fr := se_metG hm ha hb hp
def eM0 (T : String) (f : D → Option D) (a : Env → Res D) : Env → Res D := fun ρ => (a ρ).bind fun x ρ1 => if kindD x = T then optR (f x) ρ1 else .bad
end
theorem tyStr {K : PySem.W.Frag} : ∀ H x d S, Rep K H x d S → kindD d = "str" → tyV K "str" x H := fun H x d S r h => by
  cases d with
  | str s => obtain ⟨rfl, _⟩ := rep_str r; rfl
  | _ => simp [kindD] at h
theorem tyList {K : PySem.W.Frag} : ∀ H x d S, Rep K H x d S → kindD d = "list" → tyV K "list" x H := fun H x d S r h => by
  cases d with
  | lst s => obtain ⟨a, xs, S', rfl, h1, _⟩ := rep_lst r; exact .inl ⟨rfl, _, h1⟩
  | _ => simp [kindD] at h
def strsOf : List D → Option (List Str)
  | [] => some []
  | .str i :: r => (strsOf r).map (i :: ·)
  | _ => none
@[simp] theorem strsOf_nil : strsOf [] = some [] := id rfl
@[simp] theorem strsOf_cons {i r} : strsOf (.str i :: r) = (strsOf r).map (i :: ·) := id rfl
@[simp] theorem strsOf_map : ∀ {ns : List Str}, strsOf (ns.map D.str) = some ns
  | [] => rfl
  | n :: ns => by rw [List.map_cons, strsOf_cons, strsOf_map]; rfl
theorem strsOf_eq : ∀ {ds : List D} {ns : List Str}, strsOf ds = some ns → ds = ns.map D.str
  | [], _, h => by cases h; rfl
  | .str i :: r, ns, h => by
    rw [strsOf_cons] at h
    cases e : strsOf r with
    | none => rw [e] at h; cases h
    | some ms => rw [e] at h; cases h; rw [strsOf_eq e]; rfl
  | .non :: _, _, h => by cases h
  | .bl _ :: _, _, h => by cases h
  | .int _ :: _, _, h => by cases h
  | .tup _ :: _, _, h => by cases h
  | .lst _ :: _, _, h => by cases h
  | .dT _ :: _, _, h => by cases h
  | .dK _ :: _, _, h => by cases h
  | .ty _ :: _, _, h => by cases h
  | .ex _ :: _, _, h => by cases h
theorem Reps.strsOf {K : PySem.W.Frag} {H : Hp} : ∀ {ns : List Str} {vs : List V} {S : List Addr}, Reps K H vs (ns.map D.str) S → vs = ns.map V.str
  | [], _, _, h => by cases h; rfl
  | n :: ns, _, _, h => by
    rw [List.map_cons] at h
    cases h with
    | cons a b =>
      obtain ⟨rfl, _⟩ := rep_str a
      rw [Reps.strsOf b]; rfl
theorem reps_strs {K : PySem.W.Frag} {H : Hp} : ∀ (ns : List Str), Reps K H (ns.map V.str) (ns.map D.str) []
  | [] => .nil
  | n :: ns => .cons (S := []) (.str n) (reps_strs ns)
theorem reps_ints {K : PySem.W.Frag} {H : Hp} : ∀ (ns : List Int), Reps K H (ns.map V.int) (ns.map D.int) []
  | [] => .nil
  | n :: ns => .cons (S := []) (.int n) (reps_ints ns)
def joinD : D → List D → Option D
  | .str a, [.lst xs] => (strsOf xs).bind fun ys => if (ys.map (·.length)).sum + ys.length * a.length ≤ 16777216 then some (.str (Txt.join a ys)) else none
  | _, _ => none
theorem mts_join {K : PySem.W.Frag} : MetS K "str" (rJoinU K) joinD true := ⟨tyStr, fun H x d vs ds z S S2 Q r1 r2 e q => by
  unfold joinD at e
  split at e
  · rename_i a xs
    obtain ⟨rfl, _⟩ := rep_str r1
    obtain ⟨v, rfl, h⟩ := reps1 r2
    cases z2 : strsOf xs with
    | none => rw [z2] at e; cases e
    | some ys =>
      rw [z2] at e
      have e : (if (ys.map (·.length)).sum + ys.length * a.length ≤ 16777216 then some (D.str (Txt.join a ys)) else none) = some z := e
      split at e
      · rename_i hl
        cases e
        obtain ⟨p, us, S1, rfl, h1, h2, _⟩ := rep_lst h
        rw [strsOf_eq z2] at h2
        rw [h2.strsOf] at h1
        exact s_joinL h1 hl (q _ H [] (.str _) (Same.refl _) fun _ => ⟨Nw.nil, trivial⟩)
      · cases e
  · cases e⟩
def rSplitU : V → List V → Hp → VK → Prop := fun x xs H Q => ∃ a b, x = .str a ∧ xs = [.str b] ∧ (b.length == 0) = false ∧ a.length + 2 ≤ sizeLine ∧ rNewStrs (Txt.split a b) H Q
theorem mt_splitU {X : Cx} : MtR X "str.split" rSplitU := mt_split
def splitD : D → List D → Option D
  | .str a, [.str b] => if 0 < b.length ∧ a.length + 2 ≤ 16777216 then some (.lst ((Txt.split a b).map D.str)) else none
  | _, _ => none
theorem mts_split {K : PySem.W.Frag} : MetS K "str" rSplitU splitD true := ⟨tyStr, fun H x d vs ds z S S2 Q r1 r2 e q => by
  unfold splitD at e
  split at e
  · obtain ⟨rfl, _⟩ := rep_str r1
    obtain ⟨v, rfl, h⟩ := reps1 r2
    obtain ⟨rfl, _⟩ := rep_str h
    split at e
    · rename_i hl
      cases e
      exact ⟨_, _, rfl, rfl, by simp; omega, sz_le hl.2, fresh_lst (reps_strs _) q⟩
    · cases e
  · cases e⟩
def strIndexD : D → List D → Option D
  | .str a, [.str b] => (Txt.index0 a b).map fun k => .int (k : Nat)
  | _, _ => none
theorem mts_strIndex {K : PySem.W.Frag} {W : WX} : ∀ σ, MetS K "str" (rIndexX W σ) strIndexD true := fun σ => ⟨tyStr, fun H x d vs ds z S S2 Q r1 r2 e q => by
  unfold strIndexD at e
  split at e
  · rename_i a b
    obtain ⟨rfl, _⟩ := rep_str r1
    obtain ⟨v, rfl, h⟩ := reps1 r2
    obtain ⟨rfl, _⟩ := rep_str h
    cases z2 : Txt.index0 a b with
    | none => rw [z2] at e; cases e
    | some k =>
      rw [z2] at e
      cases e
      exact ⟨a, b, rfl, rfl, fun k' e' => (by rw [z2] at e'; cases e'; exact q _ H [] (.int _) (Same.refl _) fun _ => ⟨Nw.nil, trivial⟩), fun e' => by rw [z2] at e'; cases e'⟩
  · cases e⟩
theorem pe_bmSK {X : Cx} {K : PySem.W.Frag} {T name id : String} {r : L2.St → V → List V → Hp → VK → Prop} {o e : Expr} {es : List Expr} {to : TE} {t : TA} {apos cpos : Pos} (hK : X.K = K) (pa : PlainAttrs T) (slot : PySem.Slot T name id) (hty : typeOf (.builtin id) = pure (.type "method_descriptor")) (hm : MtS X id r) (ho : PE X o to) (ha : PA X (e :: es) t)
    (hbase : attributeBase o name X.env (eval o X.env) = eval o X.env := by rfl)
    (hfew : ((backTo cpos (starEach (e :: es) X.env)).all (fun x => !x.1) && (backToKw cpos (keywordEach [] X.env)).all (fun x => x.1.isSome)
      && decide ((e :: es).length + ([] : List Keyword).length + (if ([] : List Keyword).isEmpty then 0 else 1) < 30)) = true := by rfl)
    (hline : (apos.endLine == cpos.line) = true := by rfl) (hs : starEach (e :: es) X.env = (false, eval e X.env) :: starEach es X.env := by rfl) (hplain : (backTo cpos (starEach es X.env)).any (·.1) = false := by rfl) :
    PE X (.Call (.Attribute o name apos) (e :: es) [] cpos) (tBMS K T r to t) := hK ▸ pe_bmS pa slot hty hm ho ha hbase hfew hline hs hplain
/-! ## two names at once -/
def sPar (i j : Nat) (as : Env → Res (List D)) : Env → Out := fun ρ => match as ρ with
  | .ok ds ρ1 => (match ds with
    | [d, e] => .nx ((ρ1.set i (some d)).set j (some e))
    | _ => .bad)
  | .exc x ρ1 => .exc x ρ1
  | .bad => .bad
theorem ss_par {c : C0} {W : WX} {tt : TA} {as : Env → Res (List D)} {pu : Bool} (i j : Nat) (ha : SA c W tt as pu true) (h1 : c.O i = 0 := by rfl) (h2 : c.O j = 0 := by rfl) (hi : c.ios.contains i = false := by rfl) (hj : c.ios.contains j = false := by rfl) : SS c W (tPar i j tt) (sPar i j as) := fun H0 Wd Al T σ H ρ nx rt bk ct I q => ha H0 Wd Al T σ H ρ _ I (by
  unfold sPar at q
  cases z : as ρ with
  | bad => rw [z] at q; exact q
  | exc x ρ' => rw [z] at q; exact fun H' T' I' => q σ H' T' I'
  | ok ds ρ1 =>
    rw [z] at q
    dsimp only at q
    intro vs H1 T1 S I1 r1 g1 nw p f1
    split at q
    · rename_i d e
      obtain ⟨nw1, dj⟩ := f1 rfl
      have hb := I.newB
      cases r1 with
      | @cons v vs _ _ S1 S2 r1 r2 =>
        cases r2 with
        | @cons u us _ _ S2 S3 r2 r3 =>
          cases r3
          rw [List.append_nil] at nw1 dj
          have m1 : ∀ a ∈ S1, a ∈ S1 ++ S2 := fun a ha => List.mem_append_left _ ha
          have m2 : ∀ a ∈ S2, a ∈ S1 ++ S2 := fun a ha => List.mem_append_right _ ha
          obtain ⟨T2, I2, hT, _⟩ := I1.putR (i := i) r1 (fun z => absurd h1 z) (fun k _ a ha => dj k a (m1 a ha)) (fun a ha => .inl (hb a (nw1.new a (m1 a ha))).2) (by omega) hi
          obtain ⟨_, _, n3⟩ := List.nodup_append.mp nw1.nod
          obtain ⟨T3, I3, _⟩ := I2.putR (i := j) r2 (fun z => absurd h2 z) (fun k hk a ha z => by
            rcases hT k a z with z | z
            · exact dj k a (m2 a ha) z
            · exact n3 a z a ha rfl) (fun a ha => .inl (hb a (nw1.new a (m2 a ha))).2) (by omega) hj
          exact ⟨v, u, rfl, q _ _ _ I3⟩
    · exact q.elim)
/-! ## a for over one's own list -/
def sForO (i : Nat) (g : D → Env → Option Env) (body : Env → Out) : Env → Out := fun ρ => match (ρ[i]?).join with
  | some (.lst ds) => if imms ds = true then (match forL g body ds (ρ.set i none) with
    | .nx ρ' => .nx (ρ'.set i (some (.lst ds)))
    | .ret d ρ' => .ret d (ρ'.set i (some (.lst ds)))
    | .exc x ρ' => .exc x (ρ'.set i (some (.lst ds)))
    | _ => .bad) else .bad
  | _ => .bad
theorem SIT.rebaseG {c : C0} {H0 : Hp} {Wd Al : Addr → Prop} {σ : L2.St} {H : Hp} {ρ : Env} {T : Nat → List Addr} (I : SIT c H0 Wd Al T σ H ρ) (Al1 : Addr → Prop) (h : ∀ i, i ∉ c.lks → ∀ a ∈ T i, Al1 a) : SIT c H (Wo c T) Al1 T σ H ρ :=
  ⟨Frm.refl, I.base, I.len, I.rep, I.dis, I.nod, fun i il a ha => .inr (h i il a ha), fun j hj a ha => ⟨.inr ⟨j, hj, ha⟩, (I.own j hj a ha).2⟩, I.top, I.loc, I.io, I.io2, I.lk⟩
theorem SIT.unbaseG {c : C0} {H0 : Hp} {Wd Al Al1 W1 : Addr → Prop} {σ' : L2.St} {H H' : Hp} {ρ' : Env} {T' : Nat → List Addr} (fm : Frm Wd H0 H) (w : ∀ a, W1 a → H0 a = none ∨ Wd a) (al : ∀ a, Al1 a → H0 a = none ∨ Al a) (J : SIT c H W1 Al1 T' σ' H' ρ') : SIT c H0 Wd Al T' σ' H' ρ' := by
  refine ⟨⟨fun a o n h => J.frm.keep a o (fun z => ?_) (fm.keep a o n h), fun a h => fm.dom a (J.frm.dom a h), fm.tup.trans J.frm.tup⟩, J.base, J.len, J.rep, J.dis, J.nod, fun i il a ha => ?_, fun j hj a ha => ⟨?_, (J.own j hj a ha).2⟩, J.top, J.loc, J.io, J.io2, J.lk⟩
  · rcases w a z with q | q
    · rw [h] at q; cases q
    · exact n q
  · rcases J.all i il a ha with q | q
    · exact .inl (fm.dom a q)
    · exact al a q
  · rcases (J.own j hj a ha).1 with q | q
    · exact .inl (fm.dom a q)
    · exact w a q
/-- one more slot keeps its address -/
def C0.pin (c : C0) (i : Nat) (p : Addr) : C0 := ⟨c.K, c.O, c.B, i :: c.ios, fun k => if k = i then p else c.ioa k, c.fr, c.lks, c.lkt⟩
theorem SIT.pin {c : C0} {H0 : Hp} {Wd Al : Addr → Prop} {σ : L2.St} {H : Hp} {ρ : Env} {T : Nat → List Addr} {i : Nat} {p : Addr} (I : SIT c H0 Wd Al T σ H ρ) (h : σ[i]? = some (some (.ref p))) : SIT (c.pin i p) H0 Wd Al T σ H ρ :=
  ⟨I.frm, I.base, I.len, I.rep, I.dis, I.nod, I.all, I.own, I.top, I.loc, fun k hk => by
    show σ[k]? = some (some (.ref (if k = i then p else c.ioa k)))
    by_cases e : k = i
    · rw [if_pos e, e]; exact h
    · rw [if_neg e]
      rcases List.mem_cons.mp hk with z | z
      · exact absurd z e
      · exact I.io k z, I.io2, fun k hk => ⟨⟨List.mem_cons_of_mem _ (I.lk k hk).1.1, (I.lk k hk).1.2⟩, (I.lk k hk).2⟩⟩
theorem SIT.unpin {c : C0} {H0 : Hp} {Wd Al : Addr → Prop} {σ : L2.St} {H : Hp} {ρ : Env} {T : Nat → List Addr} {i : Nat} {p : Addr} (hi : i ∉ c.ios) (hl : i ∉ c.lks) (I : SIT (c.pin i p) H0 Wd Al T σ H ρ) : SIT c H0 Wd Al T σ H ρ ∧ σ[i]? = some (some (.ref p)) :=
  ⟨⟨I.frm, I.base, I.len, I.rep, I.dis, I.nod, I.all, I.own, I.top, I.loc, fun k hk => by
    have h := I.io k (List.mem_cons_of_mem _ hk)
    have h : σ[k]? = some (some (.ref (if k = i then p else c.ioa k))) := h
    rw [if_neg (fun e => hi (by rw [← e]; exact hk))] at h
    exact h, I.io2, fun k hk => ⟨⟨(List.mem_cons.mp (I.lk k hk).1.1).resolve_left (fun e => hl (e ▸ hk)), (I.lk k hk).1.2⟩, (I.lk k hk).2⟩⟩, by
    have h := I.io i List.mem_cons_self
    have h : σ[i]? = some (some (.ref (if i = i then p else c.ioa i))) := h
    rw [if_pos rfl] at h
    exact h⟩
theorem ss_forO {c : C0} {W : WX} {tg : TG} {g : D → Env → Option Env} {sl : List Nat} {tb : TS} {body : Env → Out} (i : Nat) (hg : ∀ p, SG (c.pin i p) tg g sl) (hb : ∀ p, SS (c.pin i p) W tb body) (hO : c.O i = 1 := by rfl) (hi : c.ios.contains i = false := by rfl) : SS c W (tFor (iAny c.K (tVar i)) tg tb) (sForO i g body) := fun H0 Wd Al T σ H ρ nx rt bk ct I q => by
  have hio : i ∉ c.ios := fun z => by
    rw [List.contains_iff_mem.mpr z] at hi
    cases hi
  unfold sForO at q
  cases z : (ρ[i]?).join with
  | none => rw [z] at q; exact q.elim
  | some d =>
    rw [z] at q
    cases d with
    | lst ds =>
      dsimp only at q
      by_cases im : imms ds = true
      · rw [if_pos im] at q
        obtain ⟨v, hv, _⟩ := I.slot z
        obtain ⟨p, xs, S', rfl, hT, h1, h2⟩ := I.top i (by omega) _ _ hv z
        have e0 := h2.im im
        subst e0
        refine ⟨.ref p, hv, .inl ⟨p, rfl, ⟨xs, .inl (.inl h1)⟩, ?_⟩⟩
        -- the slot forgotten, the rest by a base of its own
        obtain ⟨T1, I1, k1, k2⟩ := I.drop i (fun z => hio (I.lk _ z).1.1)
        have hl : i < ρ.length := by rw [← I.len]; exact (List.getElem?_eq_some_iff.mp hv).1
        have k2 := k2 hl
        have pT1 : ∀ k, p ∉ T1 k := fun k h => by
          by_cases e : k = i
          · rw [e, k2] at h; cases h
          · rw [k1 k e] at h
            exact I.dis k i (by omega) e p h (by rw [hT]; exact List.mem_cons_self)
        have Ib := (I1.rebaseG (fun a => a ≠ p ∧ (H0 a = none ∨ Al a)) fun k kl a ha => ⟨fun e => pT1 k (by rw [← e]; exact ha), I1.all k kl a ha⟩).pin (i := i) (p := p) hv
        have wo : ∀ a, Wo c T1 a → H0 a = none ∨ Wd a := fun a ⟨j, hj, ha⟩ => (I1.own j hj a ha).1
        have pw : ¬ Wo c T1 p := fun ⟨j, _, h⟩ => pT1 j h
        -- the way back
        have back : ∀ {T2 : Nat → List Addr} {σ' : L2.St} {H' : Hp} {ρ' : Env}, SIT (c.pin i p) H (Wo c T1) (fun a => a ≠ p ∧ (H0 a = none ∨ Al a)) T2 σ' H' ρ' → ∃ T3, SIT c H0 Wd Al T3 σ' H' (ρ'.set i (some (.lst ds))) := by
          intro T2 σ' H' ρ' J
          obtain ⟨J1, hs⟩ := J.unpin hio (fun z => hio (I.lk _ z).1.1)
          have hp' : H' p = some (.lst xs) := J.frm.keep p _ pw h1
          have pT2 : ∀ k, p ∉ T2 k := fun k h => by
            by_cases kl : k ∈ c.lks
            · rw [(J1.lk k kl).2, ← (I1.lk k kl).2] at h
              exact pT1 k h
            · rcases J1.all k kl p h with z | z
              · rw [h1] at z; cases z
              · exact z.1 rfl
          have J2 := SIT.unbaseG I.frm wo (fun a h => h.2) J1
          have rr : Reps c.K H' xs ds [] := h2.tk J.frm.tup
          obtain ⟨T3, I3, _, _⟩ := J2.putR (i := i) (v := .ref p) (d := .lst ds) (S := [p]) (.lst (.inl hp') rr)
            (fun _ => ⟨⟨⟨by simp, fun a ha => by
              have e : a = p := by simpa using ha
              subst e
              refine ⟨I.loc i hO a (by rw [hT]; exact List.mem_cons_self), (I.own i (by omega) a (by rw [hT]; exact List.mem_cons_self)).1, fun o u k => by rw [hp'] at k; cases k⟩⟩, fun k a ha => by
              have e : a = p := by simpa using ha
              subst e
              exact pT2 k⟩, p, xs, [], rfl, rfl, hp', rr⟩)
            (fun j _ a ha => by
              have e : a = p := by simpa using ha
              subst e
              exact pT2 j) (fun a ha => by
              have e : a = p := by simpa using ha
              subst e
              exact I.all i (fun z => hio (I.lk _ z).1.1) a (by rw [hT]; exact List.mem_cons_self)) (by omega) hi
          refine ⟨T3, ?_⟩
          have es : σ'.set i (some (.ref p)) = σ' := by
            apply List.ext_getElem?
            intro k
            by_cases e : k = i
            · subst e
              rw [hs, List.getElem?_set_self (List.getElem?_eq_some_iff.mp hs).1]
            · rw [List.getElem?_set_ne (Ne.symm e)]
          rw [es] at I3
          exact I3
        have goodB : Good (c.pin i p) W H (Wo c T1) (fun a => a ≠ p ∧ (H0 a = none ∨ Al a)) nx rt (fun _ _ => False) (fun _ _ => False) (forL g body ds (ρ.set i none)) := by
          cases zf : forL g body ds (ρ.set i none) with
          | nx ρ' =>
            rw [zf] at q
            exact fun σ' H' T' J => by
              obtain ⟨T3, I3⟩ := back J
              exact q σ' H' T3 I3
          | ret d ρ' =>
            rw [zf] at q
            exact fun v σ' H' T' S J r f => by
              obtain ⟨T3, I3⟩ := back J
              exact q v σ' H' T3 S I3 r f
          | exc x ρ' =>
            rw [zf] at q
            exact fun σ' H' T' J => by
              obtain ⟨T3, I3⟩ := back J
              exact q σ' H' T3 I3
          | brk ρ' => rw [zf] at q; exact q.elim
          | ct ρ' => rw [zf] at q; exact q.elim
          | bad => rw [zf] at q; exact q.elim
        -- turn by turn
        refine ⟨fun n m σ H' => m = ds.length - n ∧ n ≤ ds.length ∧ ∃ T2 ρ2, SIT (c.pin i p) H (Wo c T1) (fun a => a ≠ p ∧ (H0 a = none ∨ Al a)) T2 σ H' ρ2 ∧ Good (c.pin i p) W H (Wo c T1) (fun a => a ≠ p ∧ (H0 a = none ∨ Al a)) nx rt (fun _ _ => False) (fun _ _ => False) (forL g body (ds.drop n) ρ2),
          ⟨_, rfl, Nat.zero_le _, T1, _, Ib, goodB⟩, ?_⟩
        rintro n m σ2 H2 ⟨rfl, hle, T2, ρ2, I2, gd⟩
        have hp2 : H2 p = some (.lst xs) := I2.frm.keep p _ pw h1
        have rr2 : Reps c.K H2 xs ds [] := h2.tk I2.frm.tup
        cases e : ds[n]? with
        | none =>
          refine .inl ⟨⟨xs, .inl (.inl hp2), by rw [rr2.length]; exact List.getElem?_eq_none_iff.mp e⟩, ?_⟩
          rw [List.drop_eq_nil_of_le (List.getElem?_eq_none_iff.mp e)] at gd
          exact gd σ2 H2 T2 I2
        | some d =>
          obtain ⟨hlt, hd⟩ := List.getElem?_eq_some_iff.mp e
          obtain ⟨v, U, hv2, rv, hU⟩ := rr2.get e
          have eU : U = [] := List.eq_nil_iff_forall_not_mem.mpr fun a ha => by cases hU a ha
          subst eU
          refine .inr ⟨⟨xs, v, .inl (.inl hp2), hv2⟩, fun σ H' => ∃ T2 ρ2, SIT (c.pin i p) H (Wo c T1) (fun a => a ≠ p ∧ (H0 a = none ∨ Al a)) T2 σ H' ρ2 ∧ Good (c.pin i p) W H (Wo c T1) (fun a => a ≠ p ∧ (H0 a = none ∨ Al a)) nx rt (fun _ _ => False) (fun _ _ => False) (forL g body (ds.drop (n + 1)) ρ2),
            fun σ' H' nn => ⟨ds.length - (n + 1), by omega, rfl, hlt, nn⟩, fun x H3 y => ?_⟩
          obtain ⟨rfl, y2⟩ := y
          have ex := y2 xs (.inl (.inl hp2))
          rw [hv2] at ex
          cases ex
          rw [List.drop_eq_getElem_cons hlt, hd] at gd
          unfold forL at gd
          cases z2 : g d ρ2 with
          | none => rw [z2] at gd; exact gd.elim
          | some ρ3 =>
            rw [z2] at gd
            dsimp only at gd
            refine hg p H (Wo c T1) _ T2 σ2 H3 ρ2 ρ3 d v [] _ I2 rv (fun _ _ _ z => by cases z) (fun _ z => by cases z) z2 fun σ4 T4 I4 _ _ => ?_
            refine hb p H (Wo c T1) _ T4 σ4 H3 ρ3 _ _ _ _ I4 ?_
            cases z5 : body ρ3 with
            | nx ρ5 => rw [z5] at gd; exact fun σ' H' T' I' => ⟨T', ρ5, I', gd⟩
            | ct ρ5 => rw [z5] at gd; exact fun σ' H' T' I' => ⟨T', ρ5, I', gd⟩
            | brk ρ5 => rw [z5] at gd; exact gd
            | ret d5 ρ5 => rw [z5] at gd; exact gd
            | exc x ρ5 => rw [z5] at gd; exact gd
            | bad => rw [z5] at gd; exact gd
      · rw [if_neg im] at q; exact q.elim
    | _ => exact q.elim
/-! ## ends -/
theorem hu65 {k : Nat} {A : Around} (r : Room k A) : A.units + 65 < cLine := by have := r.un; omega

theorem spF_len {K : PySem.W.Frag} {n : Nat} {io : List Nat} {fr : Bool} {f : List D → Res D} {vs : List V} {H : Hp} {Q : VK} {E : XK} (h : spF K n io fr f vs H Q E) : vs.length = n := let ⟨_, _, h, _⟩ := h; h
theorem spF_bad {K : PySem.W.Frag} {n : Nat} {io : List Nat} {fr : Bool} {vs : List V} {H : Hp} {Q : VK} {E : XK} (h : spF K n io fr (fun _ => .bad) vs H Q E) : False := let ⟨_, _, _, _, _, h⟩ := h; h
theorem def_none {P : Program} {w : World} {K : PySem.W.Frag} {mg : Str → Option Value} {base : Heap} {x nm qual : Str} {ps : List Str} {a : Arguments} {body : List Stmt} {scope : Scope} {n : Nat} {io : List Nat} {fr : Bool}
    (hg : mg x = some (.ref (He.ga K x))) (F : ∃ fd, FunD K nm qual a body scope [] [] (He.ga K x) fd)
    (hb : ∀ (kV doc pm : Value) (an : Option Addr) (cdv ct : Value) (us : List Value), us.length = ps.length → bindArgs (PySem.W.fnOf nm qual a body scope .none kV doc pm an cdv ct) ⟨us, []⟩ = pure (ps.zip us)) (hn : ps.length = n) :
    Def P w K mg base 0 x ps (spF K n io fr fun _ => .bad) := by
  obtain ⟨fd, F⟩ := F
  refine ⟨hg, F.kp, fd, ⟨fun vs H Q E h => by rw [hn]; exact spF_len h, fun A outer s H args us vs Q E hr he hbd hv h => (spF_bad h).elim⟩, F.bindsN hb, ?_, F.bindsA hb⟩
  obtain ⟨oc, od, _, _, _, _, _, _, _, osl, _, lk, _⟩ := F.ex
  exact ⟨oc, od, osl, lk⟩
theorem O_low {l : List Nat} {n : Nat} {io : List Nat} (h : ((List.range n).all fun k => io.contains k || Nat.beq (l.getD k 0) 0) = true) : ∀ k, k < n → k ∉ io → (fun i => l.getD i 0) k = 0 := fun k hk hn => by
  have := List.all_eq_true.mp h k (List.mem_range.mpr hk)
  rw [Bool.or_eq_true] at this
  rcases this with z | z
  · exact absurd (List.contains_iff_mem.mp z) hn
  · exact Nat.eq_of_beq_eq_true z
theorem O_two {l : List Nat} {io : List Nat} (h : (((List.range l.length).all fun k => Nat.beq (l.getD k 0) 2 == io.contains k) && io.all fun k => Nat.blt k l.length) = true) : ∀ k, (fun i => l.getD i 0) k = 2 ↔ k ∈ io := fun k => by
  rw [Bool.and_eq_true] at h
  obtain ⟨h1, h2⟩ := h
  by_cases hk : k < l.length
  · have := List.all_eq_true.mp h1 k (List.mem_range.mpr hk)
    have e := eq_of_beq this
    constructor
    · intro z
      have z : l.getD k 0 = 2 := z
      rw [z] at e
      exact List.contains_iff_mem.mp e.symm
    · intro z
      rw [List.contains_iff_mem.mpr z] at e
      exact Nat.eq_of_beq_eq_true e
  · constructor
    · intro z
      have z : l.getD k 0 = 2 := z
      rw [List.getD_eq_getElem?_getD, List.getElem?_eq_none (by omega)] at z
      cases z
    · intro z
      have := List.all_eq_true.mp h2 k z
      exact absurd (Nat.blt_eq.mp this) hk
theorem gs_len1 {i : Nat} : ∀ ds ρ ρ', gConss i gNils ds ρ = some ρ' → ds.length = 1
  | [_], _, _, _ => rfl
  | [], _, _, h => by cases h
  | _ :: _ :: _, _, _, h => by cases h
theorem gs_len2 {i j : Nat} : ∀ ds ρ ρ', gConss i (gConss j gNils) ds ρ = some ρ' → ds.length = 2
  | [_, _], _, _, _ => rfl
  | [], _, _, h => by cases h
  | [_], _, _, h => by cases h
  | _ :: _ :: _ :: _, _, _, h => by cases h
theorem gs_len3 {i j k : Nat} : ∀ ds ρ ρ', gConss i (gConss j (gConss k gNils)) ds ρ = some ρ' → ds.length = 3
  | [_, _, _], _, _, _ => rfl
  | [], _, _, h => by cases h
  | [_], _, _, h => by cases h
  | [_, _], _, _, h => by cases h
  | _ :: _ :: _ :: _ :: _, _, _, h => by cases h
theorem gs_len4 {i j k l : Nat} : ∀ ds ρ ρ', gConss i (gConss j (gConss k (gConss l gNils))) ds ρ = some ρ' → ds.length = 4
  | [_, _, _, _], _, _, _ => rfl
  | [], _, _, h => by cases h
  | [_], _, _, h => by cases h
  | [_, _], _, _, h => by cases h
  | [_, _, _], _, _, h => by cases h
  | _ :: _ :: _ :: _ :: _ :: _, _, _, h => by cases h
/-- the law's own def -/
theorem Def.imp {P : Program} {w : World} {K : PySem.W.Frag} {mg : Str → Option Value} {base : Heap} {k : Nat} {x : Str} {ps : List Str} {sp sp' : Sp} (D : Def P w K mg base k x ps sp) (h : ∀ vs H Q E, sp' vs H Q E → sp vs H Q E) : Def P w K mg base k x ps sp' := by
  obtain ⟨g, kp, fd, F, r⟩ := D
  exact ⟨g, kp, fd, F.imp h, r⟩
theorem law_of {P : Program} {w : World} {K : PySem.W.Frag} {mg : Str → Option Value} {base : Heap} {k : Nat} {f : List D → Res D} (DD : Def P w K mg base k "law" ["script"] (spF K 1 [] true f))
    (h : ∀ ns : List Int, ns.length ≤ 63 → (∀ z ∈ ns, Builtin.Int.intBits z ≤ 1048576) → f [.lst (ns.map D.int)] = .ok (.bl true) []) : Def P w K mg base k "law" ["script"] (spLawB K) := by
  refine DD.imp fun vs H Q E hh => ?_
  obtain ⟨a, ns, rfl, hs, hl, hb, q⟩ := hh
  have rr : ∃ S, Rep K H (.ref a) (.lst (ns.map D.int)) S := by
    rcases hs with hs | hs
    · exact ⟨_, .lst hs (reps_ints ns)⟩
    · exact ⟨_, .lstK hs (reps_ints ns)⟩
  obtain ⟨S, rr⟩ := rr
  refine ⟨_, S, rfl, Reps.one rr, fun z => absurd rfl z, ?_⟩
  rw [h ns hl hb]
  intro v H' U fm rv _ _
  obtain ⟨rfl, _⟩ := rep_bl rv
  exact q H'
end Ol
namespace Ol
open PySem PySem.Spec PyProof.Rows L2
theorem hioB {c : C0} {vs : List Nat} (h : vs.all (fun i => !c.ios.contains i) = true) : ∀ i ∈ vs, c.ios.contains i = false := fun i hi => by
  have := List.all_eq_true.mp h i hi
  simpa using this
/-! ## a list comprehension whose items' making writes -/
def compI (chk : Bool) (g : D → Env → Option Env) (t : Env → Res Bool) (e : Env → Res D) (vs : List Nat) : Env → List D → Res (List D)
  | ρ, [] => .ok [] ρ
  | ρ, x :: xs => if (chk && !imm x) = true then .bad else match g x (wipeE ρ vs) with
    | none => .bad
    | some ρ1 => match t ρ1 with
      | .ok true ρ2 => (match e ρ2 with
        | .ok y ρ3 => if imm y = true then (compI chk g t e vs (wipeE ρ3 vs) xs).bind fun ys ρ4 => .ok (y :: ys) ρ4 else .bad
        | _ => .bad)
      | .ok false ρ2 => compI chk g t e vs (wipeE ρ2 vs) xs
      | _ => .bad
def eCompI (it : Env → Res (List D)) (vs : List Nat) (chk : Bool) (g : D → Env → Option Env) (t : Env → Res Bool) (e : Env → Res D) : Env → Res D := fun ρ => (it ρ).bind fun xs ρ1 => if xs.length < 16777216 then match compI chk g t e vs ρ1 xs with
  | .ok ys ρ2 => .ok (.lst ys) (wipeE ρ2 vs)
  | _ => .bad
  else .bad
theorem compI_noexc {chk : Bool} {g : D → Env → Option Env} {t : Env → Res Bool} {e : Env → Res D} {vs : List Nat} : ∀ {xs : List D} {ρ : Env} {x : String} {ρ' : Env}, compI chk g t e vs ρ xs ≠ .exc x ρ'
  | [], _, _, _, h => by cases h
  | x :: xs, ρ, _, _, h => by
    unfold compI at h
    split at h
    · cases h
    · split at h
      · cases h
      · split at h
        · split at h
          · split at h
            · rename_i y ρ3 _ _
              cases z : compI chk g t e vs (wipeE ρ3 vs) xs with
              | bad => rw [z] at h; cases h
              | ok _ _ => rw [z] at h; cases h
              | exc x' ρ'' => exact compI_noexc z
            · cases h
          · cases h
        · exact compI_noexc h
        · cases h
theorem wipeE_none (ρ : Env) : ∀ (us : List Nat) (i : Nat), i ∈ us → ((wipeE ρ us)[i]?).join = none := by
  intro us i
  induction us with
  | nil => intro h; cases h
  | cons u us ih =>
    intro h
    by_cases e : i = u
    · subst e
      show (((wipeE ρ us).set i none)[i]?).join = none
      by_cases hl : i < (wipeE ρ us).length
      · exact join_set_self hl
      · rw [List.getElem?_eq_none (by rw [List.length_set]; omega)]; rfl
    · show (((wipeE ρ us).set u none)[i]?).join = none
      rw [List.getElem?_set_ne (Ne.symm e)]
      exact ih ((List.mem_cons.mp h).resolve_left e)
/-- slots' values may be forgotten at the plain side alone -/
theorem SIT.wipeR {c : C0} {H0 : Hp} {Wd Al : Addr → Prop} {σ : L2.St} {H : Hp} {ρ : Env} : ∀ (vs : List Nat) {T : Nat → List Addr}, SIT c H0 Wd Al T σ H ρ → (∀ i ∈ c.ios, i ∉ vs) → ∃ T', SIT c H0 Wd Al T' σ H (wipeE ρ vs) ∧ ∀ k, ∀ a ∈ T' k, a ∈ T k
  | [], T, I, _ => ⟨T, I, fun _ _ z => z⟩
  | v :: vs, T, I, hh => by
    obtain ⟨T1, I1, h1⟩ := SIT.wipeR vs I fun i hi z => hh i hi (List.mem_cons_of_mem _ z)
    obtain ⟨T2, I2, k1, k2⟩ := I1.drop v (fun z => hh v (I1.lk _ z).1.1 List.mem_cons_self)
    refine ⟨T2, I2, fun k a ha => ?_⟩
    by_cases e : k = v
    · by_cases hl : v < (wipeE ρ vs).length
      · rw [e, k2 hl] at ha
        cases ha
      · have r := I2.rep k
        subst e
        rw [show (((wipeE ρ vs).set k none)[k]?).join = none by rw [List.getElem?_eq_none (by rw [List.length_set]; omega)]; rfl] at r
        rw [show T2 k = [] from r] at ha
        cases ha
    · rw [k1 k e] at ha
      exact h1 k a ha
/-- back from the wiped slots: the plain side knows none of them -/
theorem SIT.unwipe {c : C0} {H0 : Hp} {Wd Al : Addr → Prop} {σ : L2.St} {σ2 : L2.St} {H : Hp} {ρ : Env} {vs : List Nat} {T : Nat → List Addr} (I : SIT c H0 Wd Al T σ2 H ρ) (hσ : L2.wipe σ2 vs = L2.wipe σ vs) (hl : σ.length = σ2.length) (hio : ∀ i ∈ c.ios, i ∉ vs) :
    ∃ T', SIT c H0 Wd Al T' σ H (wipeE ρ vs) ∧ ∀ k, ∀ a ∈ T' k, a ∈ T k := by
  obtain ⟨T', I', h⟩ := I.wipeR vs hio
  have at_ : ∀ (τ : L2.St) (us : List Nat) (i : Nat), i ∉ us → (L2.wipe τ us)[i]? = τ[i]? := by
    intro τ us i
    induction us with
    | nil => intro _; rfl
    | cons u us ih =>
      intro hn
      show ((L2.wipe τ us).set u none)[i]? = _
      rw [List.getElem?_set_ne (fun e => hn (by rw [e]; exact List.mem_cons_self)), ih fun z => hn (List.mem_cons_of_mem _ z)]
  have eq : ∀ i, i ∉ vs → σ[i]? = σ2[i]? := fun i hi => by rw [← at_ σ vs i hi, ← at_ σ2 vs i hi, hσ]
  have no : ∀ (us : List Nat) (i : Nat), i ∈ us → ((wipeE ρ us)[i]?).join = none := by
    intro us i
    induction us with
    | nil => intro h; cases h
    | cons u us ih =>
      intro h
      by_cases e : i = u
      · subst e
        show (((wipeE ρ us).set i none)[i]?).join = none
        by_cases hl : i < (wipeE ρ us).length
        · exact join_set_self hl
        · rw [List.getElem?_eq_none (by rw [List.length_set]; omega)]; rfl
      · show (((wipeE ρ us).set u none)[i]?).join = none
        rw [List.getElem?_set_ne (Ne.symm e)]
        exact ih ((List.mem_cons.mp h).resolve_left e)
  refine ⟨T', ⟨I'.frm, I'.base, by rw [hl]; exact I'.len, fun i => ?_, I'.dis, I'.nod, I'.all, I'.own, fun j hj v d ev ed => ?_, I'.loc, fun i hi => ?_, I'.io2, I'.lk⟩, h⟩
  · have r := I'.rep i
    by_cases hi : i ∈ vs
    · rw [no vs i hi] at r ⊢
      exact r
    · rw [eq i hi]
      exact r
  · by_cases hi : j ∈ vs
    · rw [no vs j hi] at ed; cases ed
    · rw [eq j hi] at ev
      exact I'.top j hj v d ev ed
  · rw [eq i (hio i hi)]
    exact I'.io i hi
theorem se_compI {c : C0} {W : WX} {wi : TI} {it : Env → Res (List D)} {pu pt pe fe chk : Bool} {tg : TG} {g : D → Env → Option Env} {sl vs : List Nat} {tt : TT} {t : Env → Res Bool} {te : TE} {e : Env → Res D} (hi : SIt c W wi it pu true) (hg : SG c tg g sl) (hsl : sl = vs) (ht : ST c W0 tt t pt) (he : SE c W0 te e pe fe)
    (hio : vs.all (fun i => !c.ios.contains i) = true) : SE c W (tLc wi tg tt te vs) (eCompI it vs chk g t e) false true := fun H0 Wd Al T σ H ρ Q I q => hi H0 Wd Al T σ H ρ _ I (by
  subst hsl
  have hio1 : ∀ i ∈ sl, c.ios.contains i = false := fun i h => by
    have := List.all_eq_true.mp hio i h
    simpa using this
  have hio2 : ∀ i ∈ c.ios, i ∉ sl := fun i h z => by
    have := hio1 i z
    rw [List.contains_iff_mem.mpr h] at this
    cases this
  unfold eCompI at q
  cases z : it ρ with
  | bad => rw [z] at q; exact q
  | exc x ρ' => rw [z] at q; exact q
  | ok xs ρ1 =>
    rw [z, Res.bind_ok] at q
    intro J H1 T1 I1 g1 nw p w1 w2
    have w := w2 rfl
    by_cases hlen : xs.length < 16777216
    · rw [if_pos hlen] at q
      cases zc : compI chk g t e sl ρ1 xs with
      | bad => rw [zc] at q; exact q.elim
      | exc x ρ' => exact absurd zc compI_noexc
      | ok ys ρe =>
        rw [zc] at q
        intro D hD
        have Is := I1.same (Same.new (o := HO.lst []) hD)
        have D1 : ∀ k, D ∉ T1 k := fun k h => I1.doms k D h hD
        -- the frame from H1 on
        have Ib : SIT c H1 (Wo c T1) (fun a => H0 a = none ∨ Al a) T1 σ (upd H1 D (.lst [])) ρ1 := I1.rebase.same (Same.new hD)
        refine ⟨fun i m H => m = xs.length - i ∧ i ≤ xs.length ∧ ∃ T ρ acc done rest, SIT c H1 (Wo c T1) (fun a => H0 a = none ∨ Al a) T σ H ρ ∧ (∀ k, D ∉ T k) ∧ (∀ k, ∀ a ∈ T k, a ∈ T1 k ∨ H1 a = none) ∧ H D = some (.lst acc) ∧ acc.length ≤ i ∧ Reps c.K H acc done [] ∧ compI chk g t e sl ρ (xs.drop i) = .ok rest ρe ∧ ys = done ++ rest,
          ⟨_, rfl, Nat.zero_le _, T1, ρ1, [], [], ys, Ib, D1, fun _ _ z => .inl z, upd_same, Nat.le_refl _, .nil, zc, rfl⟩, ?_⟩
        rintro i m H2 ⟨rfl, hle, T2, ρ2, acc, done, rest, I2, D2, n2, hD2, hal, ra, hc, hy⟩
        obtain ⟨w3, w4⟩ := w H2 i I2.frm
        cases ex : xs[i]? with
        | none =>
          refine .inl ⟨w4 ex, ?_⟩
          rw [List.drop_eq_nil_of_le (List.getElem?_eq_none_iff.mp ex)] at hc
          unfold compI at hc
          cases hc
          rw [List.append_nil] at hy
          subst hy
          obtain ⟨T3, I3, h3⟩ := (I1.unbase I2).wipeR sl hio2
          refine q _ H2 T3 [D] I3 (.lst (.inl hD2) ra) (g1.trans I2.frm.grw) (fun k a ha => ?_) (fun hp => by cases hp) fun _ => ⟨⟨by simp, fun a ha => (by simp at ha; subst ha; exact g1.dom _ hD), fun a ha => (by simp at ha; subst ha; intro o u k; rw [hD2] at k; cases k)⟩, ⟨D, acc, [], rfl, rfl, hD2, ra⟩, fun k a ha z => ?_⟩
          · rcases n2 k a (h3 k a ha) with z | z
            · exact nw k a z
            · exact .inr (g1.dom a z)
          · simp at ha
            subst ha
            exact D2 k (h3 k _ z)
        | some d =>
          obtain ⟨hlt, hd⟩ := List.getElem?_eq_some_iff.mp ex
          obtain ⟨go, yl⟩ := w3 d ex
          rw [List.drop_eq_getElem_cons hlt, hd] at hc
          unfold compI at hc
          by_cases hk : (chk && !imm d) = true
          · rw [if_pos hk] at hc; cases hc
          rw [if_neg hk] at hc
          refine .inr ⟨go, fun H => i + 1 ≤ xs.length ∧ ∃ T ρ acc done rest, SIT c H1 (Wo c T1) (fun a => H0 a = none ∨ Al a) T σ H ρ ∧ (∀ k, D ∉ T k) ∧ (∀ k, ∀ a ∈ T k, a ∈ T1 k ∨ H1 a = none) ∧ H D = some (.lst acc) ∧ acc.length ≤ i + 1 ∧ Reps c.K H acc done [] ∧ compI chk g t e sl ρ (xs.drop (i + 1)) = .ok rest ρe ∧ ys = done ++ rest,
            fun H' n => ⟨xs.length - (i + 1), by omega, rfl, n⟩, fun x H3 y => ?_⟩
          obtain ⟨e3, Sx, rx, okx⟩ := yl x H3 y
          subst e3
          -- a base of this turn's own
          have I2b := I2.rebase
          obtain ⟨Tw, Iw, hw⟩ := I2b.wipe sl hio1
          have DW : ¬ Wo c T2 D := fun ⟨j, _, h⟩ => D2 j h
          cases z2 : g d (wipeE ρ2 sl) with
          | none => rw [z2] at hc; cases hc
          | some ρ3 =>
            rw [z2] at hc
            dsimp only at hc
            refine hg H3 (Wo c T2) _ Tw _ H3 _ ρ3 d x Sx _ Iw rx (fun j hj a ha z => ?_) (fun a ha => .inr (.inr (okx a ha).2.2)) z2 fun σ4 T4 I4 hσ hT4 => ⟨?_, ?_⟩
            · rcases (I2.own j hj a (hw j a z)).1 with z | ⟨l, hl, z⟩
              · exact (okx a ha).1 z
              · exact (okx a ha).2.1 l hl z
            · rw [hσ sl fun _ h => h, wipe_wipe]
            · have lenσ : σ.length = σ4.length := by
                have e1 := congrArg List.length (hσ sl fun _ h => h)
                rw [wipe_length, wipe_length, wipe_length] at e1
                exact e1.symm
              -- the turn's end
              have fin : ∀ {H5 : Hp} {T5 : Nat → List Addr} {ρ5 : Env}, SIT c H3 (Wo c T2) (fun a => H1 a = none ∨ (H0 a = none ∨ Al a)) T5 σ4 H5 ρ5 → (∀ k, ∀ a ∈ T5 k, a ∈ T4 k ∨ H3 a = none) →
                  ∃ T6, SIT c H1 (Wo c T1) (fun a => H0 a = none ∨ Al a) T6 σ H5 (wipeE ρ5 sl) ∧ (∀ k, D ∉ T6 k) ∧ ∀ k, ∀ a ∈ T6 k, a ∈ T1 k ∨ H1 a = none := by
                intro H5 T5 ρ5 I5 n5
                obtain ⟨T6, I6, h6⟩ := I5.unwipe (σ := σ) (vs := sl) (by rw [hσ sl fun _ h => h, wipe_wipe]) lenσ hio2
                have src : ∀ k, ∀ a ∈ T6 k, a ∈ T2 k ∨ H3 a = none := fun k a ha => by
                  by_cases hkl : k ∈ sl
                  · have r := I6.rep k
                    rw [wipeE_none ρ5 sl k hkl] at r
                    rw [show T6 k = [] from r] at ha
                    cases ha
                  · rcases n5 k a (h6 k a ha) with z | z
                    · rw [hT4 k hkl] at z
                      exact .inl (hw k a z)
                    · exact .inr z
                refine ⟨T6, I2.unbase I6, fun k h => ?_, fun k a ha => ?_⟩
                · rcases src k D h with z | z
                  · exact D2 k z
                  · rw [hD2] at z; cases z
                · rcases src k a ha with z | z
                  · exact n2 k a z
                  · exact .inr (I2.frm.dom a z)
              refine ht H3 (Wo c T2) _ T4 σ4 H3 ρ3 _ I4 ?_
              cases z4 : t ρ3 with
              | bad => rw [z4] at hc; cases hc
              | exc x ρ' => rw [z4] at hc; cases hc
              | ok k ρ5 =>
                rw [z4] at hc
                intro H5 T5 I5 g5 nw5 p5
                have hD5 : H5 D = some (.lst acc) := I5.frm.keep D _ DW hD2
                cases k with
                | false =>
                  rw [if_neg Bool.false_ne_true]
                  dsimp only at hc
                  obtain ⟨T6, I6, a1, a2⟩ := fin I5 nw5
                  exact ⟨hlt, T6, _, acc, done, rest, I6, a1, a2, hD5, by omega, ra.tk g5.tk, hc, hy⟩
                | true =>
                  rw [if_pos rfl]
                  dsimp only at hc
                  refine he H3 (Wo c T2) _ T5 σ4 H5 ρ5 _ I5 ?_
                  cases z6 : e ρ5 with
                  | bad => rw [z6] at hc; cases hc
                  | exc x ρ' => rw [z6] at hc; cases hc
                  | ok y6 ρ6 =>
                    rw [z6] at hc
                    dsimp only at hc
                    intro yv H6 T6 Sy I6 ry g6 nw6 p6 f6
                    by_cases im : imm y6 = true
                    · rw [if_pos im] at hc
                      have e0 := ry.im im
                      subst e0
                      have hD6 : H6 D = some (.lst acc) := I6.frm.keep D _ DW hD2
                      refine ⟨acc, hD6, sz_lt (by omega), ?_⟩
                      cases zr : compI chk g t e sl (wipeE ρ6 sl) (xs.drop (i + 1)) with
                      | bad => rw [zr] at hc; cases hc
                      | exc x ρ' => rw [zr] at hc; cases hc
                      | ok rest' ρe' =>
                        rw [zr, Res.bind_ok] at hc
                        cases hc
                        obtain ⟨T7, I7, a1, a2⟩ := fin I6 fun k a ha => by
                          rcases nw6 k a ha with z | z
                          · exact nw5 k a z
                          · exact .inr (g5.dom a z)
                        -- the list itself grows
                        have tk : Tk H6 (upd H6 D (.lst (acc ++ [yv]))) := fun a us h => by
                          have n : a ≠ D := fun e => by
                            subst e
                            rw [hD6] at h; cases h
                          rw [upd_ne n]; exact h
                        have kp : ∀ k, ∀ a ∈ T7 k, ∀ o, H6 a = some o → (upd H6 D (.lst (acc ++ [yv]))) a = some o := fun k a ha o h => by
                          rw [upd_ne (fun e : a = D => a1 k (by rw [← e]; exact ha))]; exact h
                        have I8 : SIT c H1 (Wo c T1) (fun a => H0 a = none ∨ Al a) T7 σ (upd H6 D (.lst (acc ++ [yv]))) (wipeE ρ6 sl) := by
                          refine ⟨⟨fun a o n h => ?_, fun a h => ?_, I7.frm.tup.trans tk⟩, fun a h => ?_, I7.len, fun k => ?_, I7.dis, I7.nod, I7.all, fun j hj a ha => ⟨(I7.own j hj a ha).1, fun o u z => ?_⟩, fun j hj v d ev ed => (I7.top j hj v d ev ed).mono tk (kp j), I7.loc, I7.io, I7.io2, I7.lk⟩
                          · rw [upd_ne (fun e : a = D => by rw [e, hD] at h; cases h)]
                            exact I7.frm.keep a o n h
                          · by_cases e : a = D
                            · rw [e, upd_same] at h; cases h
                            · rw [upd_ne e] at h; exact I7.frm.dom a h
                          · by_cases e : a = D
                            · rw [e, upd_same] at h; cases h
                            · rw [upd_ne e] at h; exact I7.base a h
                          · have r := I7.rep k
                            cases e : ((wipeE ρ6 sl)[k]?).join with
                            | none => rw [e] at r; exact r
                            | some d =>
                              rw [e] at r
                              obtain ⟨x, ex, r⟩ := r
                              exact ⟨x, ex, r.mono tk (kp k)⟩
                          · rw [upd_ne (fun e : a = D => a1 j (by rw [← e]; exact ha))] at z
                            exact (I7.own j hj a ha).2 o u z
                        refine ⟨hlt, T7, _, acc ++ [yv], done ++ [y6], rest', I8, a1, a2, upd_same, by simp; omega, ?_, zr, by rw [hy]; simp⟩
                        exact ((ra.tk (g5.trans g6).tk).tk tk).append (Reps.one (ry.tk tk))
                    · rw [if_neg im] at hc; cases hc
    · rw [if_neg hlen] at q; exact q.elim)
end Ol
namespace Ol
open PySem PySem.Spec PyProof.Rows L2
/-! ## extend, min, max, range of three, try -/
def sExtend (i : Nat) (e : Env → Res D) : Env → Out := fun ρ => match (ρ[i]?).join with
  | some (.lst _) => (e ρ).then fun d ρ1 => (match (ρ1[i]?).join, d with
    | some (.lst ds), .lst es => if ds.length + es.length ≤ 16777216 then .nx (ρ1.set i (some (.lst (ds ++ es)))) else .bad
    | _, _ => .bad)
  | _ => .bad
/-- what is put behind has nothing in it that may be written -/
def sExtend2 (i : Nat) (e : Env → Res D) : Env → Out := fun ρ => match (ρ[i]?).join with
  | some (.lst _) => (e ρ).then fun d ρ1 => (match (ρ1[i]?).join, d with
    | some (.lst ds), .lst es => if ds.length + es.length ≤ 16777216 ∧ imms es = true then .nx (ρ1.set i (some (.lst (ds ++ es)))) else .bad
    | _, _ => .bad)
  | _ => .bad
section
variable {c : C0} {W : WX} {te ti : TE} {e ix : Env → Res D} {pu fr : Bool}
theorem ss_extendG {s : Env → Out} (i : Nat) (he : SE c W te e pu true) (hO : c.O i ≠ 0)
    (hs : ∀ ρ, s ρ ≠ .bad → ∃ d0, (ρ[i]?).join = some (.lst d0) ∧ (match e ρ with
      | .bad => False
      | .exc x ρ' => s ρ = .exc x ρ'
      | .ok d ρ1 => ∃ ds es, (ρ1[i]?).join = some (.lst ds) ∧ d = .lst es ∧ ds.length + es.length ≤ 16777216 ∧ (c.O i = 2 → imms es = true) ∧ s ρ = .nx (ρ1.set i (some (.lst (ds ++ es)))))) :
    SS c W (tDrop (tBM c.K "list" rExtend (tVar i) (tCons te tNil))) s := fun H0 Wd Al T σ H ρ nx rt bk ct I q => by
  have hb : s ρ ≠ .bad := fun z => by rw [z] at q; exact q
  obtain ⟨d0, z0, hs⟩ := hs ρ hb
  obtain ⟨v0, hv0, r0⟩ := I.slot z0
  obtain ⟨p, xs, S', rfl, hT, h1, h3⟩ := I.top i hO _ _ hv0 z0
  refine ⟨.ref p, hv0, .inl ⟨rfl, _, .inl (.inl h1)⟩, ?_⟩
  refine he H0 Wd Al T σ H ρ _ I ?_
  cases z : e ρ with
  | bad => rw [z] at hs; exact hs
  | exc x ρ' =>
    rw [z] at hs
    rw [show s ρ = .exc x ρ' from hs] at q
    exact fun H' T' I' => q σ H' T' I'
  | ok d ρ1 =>
    rw [z] at hs
    obtain ⟨d1, es, z1, rfl, hl, him, e9⟩ := hs
    rw [e9] at q
    intro v H1 T1 S I1 r1 g1 nw p1 f1
    obtain ⟨p2, xs2, S2, e5, hT2, h4, h5⟩ := I1.top i hO _ _ hv0 z1
    cases e5
    obtain ⟨⟨nS, nN, nF⟩, tp, dj⟩ := f1 rfl
    obtain ⟨b, zs, S3, rfl, rfl, hb4, hb5⟩ := tp
    have own := I1.nod i hO
    rw [hT2] at own
    obtain ⟨n1, n2⟩ := List.nodup_cons.mp own
    obtain ⟨_, nS3⟩ := List.nodup_cons.mp nS
    have pS : p ∉ b :: S3 := fun h => dj i p h (by rw [hT2]; exact List.mem_cons_self)
    have pS3 : p ∉ S3 := fun h => pS (List.mem_cons_of_mem _ h)
    have tk : Tk H1 (upd H1 p (.lst (xs2 ++ zs))) := fun a us h => by rw [upd_ne (fun z => not_tup h4 us (by rw [← z]; exact .inl h))]; exact h
    have rr : Reps c.K (upd H1 p (.lst (xs2 ++ zs))) (xs2 ++ zs) (d1 ++ es) (S2 ++ S3) := (h5.mono tk fun a ha w e => by rw [upd_ne (fun z => n1 (by rw [← z]; exact ha))]; exact e).append (hb5.mono tk fun a ha w e => by rw [upd_ne (fun z => pS3 (by rw [← z]; exact ha))]; exact e)
    obtain ⟨T', I'⟩ := I1.mut (d' := .lst (d1 ++ es)) (S' := S2 ++ S3) (o := .lst (xs2 ++ zs)) hO hv0 hT2 (not_tup h4) (.lst (.inl upd_same) rr) ⟨p, _, _, rfl, rfl, upd_same, rr⟩ (fun u w z => by cases z)
      (List.nodup_append.mpr ⟨n2, nS3, fun a ha b hb e => dj i b (List.mem_cons_of_mem _ hb) (by rw [hT2, ← e]; exact List.mem_cons_of_mem _ ha)⟩) (fun h => (List.mem_append.mp h).elim n1 pS3)
      (fun a ha => (List.mem_append.mp ha).elim .inl fun h => .inr ⟨fun k => dj k a (List.mem_cons_of_mem _ h), (I.newB a (nN a (List.mem_cons_of_mem _ h))).2, (I.newB a (nN a (List.mem_cons_of_mem _ h))).1, nF a (List.mem_cons_of_mem _ h)⟩)
      (fun ho => ⟨_, rfl, by
        have e9 : ρ1[i]? = some (some (.lst d1)) := by
          cases z9 : ρ1[i]? with
          | none => rw [z9] at z1; cases z1
          | some w => rw [z9] at z1; exact congrArg some z1
        obtain ⟨es', e7, im⟩ := I1.io2 i ho _ e9
        cases e7
        rw [imms_append, im, him ho]
        rfl⟩)
    exact ⟨p, b, xs2, zs, rfl, rfl, h4, hb4, sz_le (by rw [h5.length, hb5.length]; exact hl), q σ _ T' I'⟩
theorem ss_extend (i : Nat) (he : SE c W te e pu true) (h : c.O i = 1 := by rfl) : SS c W (tDrop (tBM c.K "list" rExtend (tVar i) (tCons te tNil))) (sExtend i e) := ss_extendG i he (by omega) fun ρ hb => by
  unfold sExtend at hb ⊢
  cases z0 : (ρ[i]?).join with
  | none => rw [z0] at hb; exact absurd rfl hb
  | some d0 =>
    rw [z0] at hb
    cases d0 with
    | lst d0 =>
      refine ⟨d0, rfl, ?_⟩
      dsimp only [Res.then] at hb ⊢
      cases z : e ρ with
      | bad => rw [z] at hb; exact absurd rfl hb
      | exc x ρ' => rfl
      | ok d ρ1 =>
        rw [z] at hb
        dsimp only at hb ⊢
        cases z1 : (ρ1[i]?).join with
        | none => rw [z1] at hb; exact absurd rfl hb
        | some d1 =>
          rw [z1] at hb
          cases d1 with
          | lst d1 =>
            cases d with
            | lst es =>
              dsimp only at hb ⊢
              by_cases hl : d1.length + es.length ≤ 16777216
              · exact ⟨d1, es, rfl, rfl, hl, fun z => by omega, if_pos hl⟩
              · rw [if_neg hl] at hb; exact absurd rfl hb
            | _ => exact absurd rfl hb
          | _ => exact absurd rfl hb
    | _ => exact absurd rfl hb
theorem ss_extend2 (i : Nat) (he : SE c W te e pu true) (h : c.O i = 2 := by rfl) : SS c W (tDrop (tBM c.K "list" rExtend (tVar i) (tCons te tNil))) (sExtend2 i e) := ss_extendG i he (by omega) fun ρ hb => by
  unfold sExtend2 at hb ⊢
  cases z0 : (ρ[i]?).join with
  | none => rw [z0] at hb; exact absurd rfl hb
  | some d0 =>
    rw [z0] at hb
    cases d0 with
    | lst d0 =>
      refine ⟨d0, rfl, ?_⟩
      dsimp only [Res.then] at hb ⊢
      cases z : e ρ with
      | bad => rw [z] at hb; exact absurd rfl hb
      | exc x ρ' => rfl
      | ok d ρ1 =>
        rw [z] at hb
        dsimp only at hb ⊢
        cases z1 : (ρ1[i]?).join with
        | none => rw [z1] at hb; exact absurd rfl hb
        | some d1 =>
          rw [z1] at hb
          cases d1 with
          | lst d1 =>
            cases d with
            | lst es =>
              dsimp only at hb ⊢
              by_cases hl : d1.length + es.length ≤ 16777216 ∧ imms es = true
              · exact ⟨d1, es, rfl, rfl, hl.1, fun _ => hl.2, if_pos hl⟩
              · rw [if_neg hl] at hb; exact absurd rfl hb
            | _ => exact absurd rfl hb
          | _ => exact absurd rfl hb
    | _ => exact absurd rfl hb
end
/-! min, max of a tuple -/
section
variable {prog : Program} {w : World} {A : Around} {E : Value → Shared → Prop} {s : Shared} {l : Addr} {xs : Array (Int × Tok)} {its : List Value} {ns : List Int}
theorem max_tup_raw (hh : A.handled = none) (hl : s.heap.IsTuple l its.toArray) (hi : IntsAre its ns) (hne : 0 < ns.length) {Q : Value → Shared → Prop}
    (h : ∀ h' tk M t', (∀ b o, s.heap.get? b = some o → h'.get? b = some o) → M ∈ ns → (∀ a, a ∈ ns → a ≤ M) → Q (.int M t') { s with heap := h', toks := tk }) : wpAny (model prog w) A (call (.builtin "max") [.ref l]) Q E s := by
  obtain ⟨xs, e⟩ := hi.allInts.items
  have hn : numsOf (intItems xs).toList = ns := by rw [← e]; exact hi.numsOf
  rw [nums_intItems] at hn
  subst hn
  rw [e] at hl
  have hsz : 0 < xs.size := by simpa using hne
  have hlt : l < s.heap.objs.size := by obtain ⟨_, e, _⟩ := hl; exact Heap.lt_size e
  refine call_max_walk (wpAny_pyIter_tuple hl ?_)
  refine ⟨_, _, _, _, _, _, _, rfl, Walks.tuple (A := A.in1) hh _ l (Nat.ne_of_lt hlt) (intItems xs), ⟨⟨_, Heap.get?_push_size _ rfl, rfl, rfl⟩, hl.push _⟩, fun b hb => ?_, by simpa [intItems] using hsz, CmpOf.ints_gt (numAt xs) (fun _ _ => intItems_at), fun v h' tk hP hk => ?_⟩
  · show b < (s.heap.push _).objs.size
    rw [Heap.size_push]
    rcases List.mem_cons.mp hb with e | hb
    · rw [e]; exact Nat.lt_succ_self _
    · rw [List.mem_singleton.mp hb]; exact Nat.lt_succ_of_lt hlt
  · have hP : (intItems xs)[argBest (fun i j => decide (numAt xs i > numAt xs j)) (xs.size - 1)]? = some v := by simpa [intItems] using hP
    obtain ⟨t, rfl⟩ := intItems_at hP
    obtain ⟨h1, h2⟩ := argBest_gt (numAt xs) (xs.size - 1)
    refine h h' tk _ t (fun b u e => hk b u (fun hmem => ?_) (Heap.get?_push_of_some _ e)) ?_ fun a ha => ?_
    · have e1 : b = s.heap.objs.size := List.mem_singleton.mp hmem
      have e2 := Heap.lt_size e
      rw [e1] at e2
      exact absurd e2 (Nat.lt_irrefl _)
    · rw [numAt_eq]; exact PySem.getD_mem (by rw [List.length_map, Array.length_toList]; omega)
    · obtain ⟨j, hj, rfl⟩ := mem_getD ha
      rw [List.length_map, Array.length_toList] at hj
      rw [← numAt_eq]; exact h2 j (by omega)
theorem min_tup_raw (hh : A.handled = none) (hl : s.heap.IsTuple l its.toArray) (hi : IntsAre its ns) (hne : 0 < ns.length) {Q : Value → Shared → Prop}
    (h : ∀ h' tk M t', (∀ b o, s.heap.get? b = some o → h'.get? b = some o) → M ∈ ns → (∀ a, a ∈ ns → M ≤ a) → Q (.int M t') { s with heap := h', toks := tk }) : wpAny (model prog w) A (call (.builtin "min") [.ref l]) Q E s := by
  obtain ⟨xs, e⟩ := hi.allInts.items
  have hn : numsOf (intItems xs).toList = ns := by rw [← e]; exact hi.numsOf
  rw [nums_intItems] at hn
  subst hn
  rw [e] at hl
  have hsz : 0 < xs.size := by simpa using hne
  have hlt : l < s.heap.objs.size := by obtain ⟨_, e, _⟩ := hl; exact Heap.lt_size e
  refine call_min_walk (wpAny_pyIter_tuple hl ?_)
  refine ⟨_, _, _, _, _, _, _, rfl, Walks.tuple (A := A.in1) hh _ l (Nat.ne_of_lt hlt) (intItems xs), ⟨⟨_, Heap.get?_push_size _ rfl, rfl, rfl⟩, hl.push _⟩, fun b hb => ?_, by simpa [intItems] using hsz, CmpOf.ints_lt (numAt xs) (fun _ _ => intItems_at), fun v h' tk hP hk => ?_⟩
  · show b < (s.heap.push _).objs.size
    rw [Heap.size_push]
    rcases List.mem_cons.mp hb with e | hb
    · rw [e]; exact Nat.lt_succ_self _
    · rw [List.mem_singleton.mp hb]; exact Nat.lt_succ_of_lt hlt
  · have hP : (intItems xs)[argBest (fun i j => decide (numAt xs i < numAt xs j)) (xs.size - 1)]? = some v := by simpa [intItems] using hP
    obtain ⟨t, rfl⟩ := intItems_at hP
    obtain ⟨h1, h2⟩ := argBest_lt (numAt xs) (xs.size - 1)
    refine h h' tk _ t (fun b u e => hk b u (fun hmem => ?_) (Heap.get?_push_of_some _ e)) ?_ fun a ha => ?_
    · have e1 : b = s.heap.objs.size := List.mem_singleton.mp hmem
      have e2 := Heap.lt_size e
      rw [e1] at e2
      exact absurd e2 (Nat.lt_irrefl _)
    · rw [numAt_eq]; exact PySem.getD_mem (by rw [List.length_map, Array.length_toList]; omega)
    · obtain ⟨j, hj, rfl⟩ := mem_getD ha
      rw [List.length_map, Array.length_toList] at hj
      rw [← numAt_eq]; exact h2 j (by omega)
end
def rMaxT (K : PySem.W.Frag) : List V → Hp → VK → Prop := fun vs H Q => ∃ (a : Addr) (ns : List Int), vs = [V.ref a] ∧ SqT K H a (ns.map V.int) ∧ 0 < ns.length ∧ ∀ m, m ∈ ns → (∀ y, y ∈ ns → y ≤ m) → Q (.int m) H
def rMinT (K : PySem.W.Frag) : List V → Hp → VK → Prop := fun vs H Q => ∃ (a : Addr) (ns : List Int), vs = [V.ref a] ∧ SqT K H a (ns.map V.int) ∧ 0 < ns.length ∧ ∀ m, m ∈ ns → (∀ y, y ∈ ns → m ≤ y) → Q (.int m) H
theorem cr_maxT {X : Cx} (hc : X.calm = true) : CallR X (.builtin "max") (rMaxT X.K) := by
  intro pins s σ H vs us Q I r h
  obtain ⟨a, ns, rfl, hs, hne, q⟩ := h
  obtain ⟨its, rv, hl, _⟩ := I.tuple hs
  rw [Vals.ref1 r]
  exact max_tup_raw (I.ok.hd hc) hl rv.ints hne fun h' tk m t' hk h1 h2 => ⟨.int _, H, I.kept hk, ⟨_, rfl⟩, q m h1 h2⟩
theorem cr_minT {X : Cx} (hc : X.calm = true) : CallR X (.builtin "min") (rMinT X.K) := by
  intro pins s σ H vs us Q I r h
  obtain ⟨a, ns, rfl, hs, hne, q⟩ := h
  obtain ⟨its, rv, hl, _⟩ := I.tuple hs
  rw [Vals.ref1 r]
  exact min_tup_raw (I.ok.hd hc) hl rv.ints hne fun h' tk m t' hk h1 h2 => ⟨.int _, H, I.kept hk, ⟨_, rfl⟩, q m h1 h2⟩
theorem call_maxT {X : Cx} {K : PySem.W.Frag} (hc : X.calm = true := by rfl) (hK : X.K = K := by rfl) : CallR X (.builtin "max") (rMaxT K) := hK ▸ cr_maxT hc
theorem call_minT {X : Cx} {K : PySem.W.Frag} (hc : X.calm = true := by rfl) (hK : X.K = K := by rfl) : CallR X (.builtin "min") (rMinT K) := hK ▸ cr_minT hc
/-! min, max -/
def rMinJ (K : PySem.W.Frag) : List V → Hp → VK → Prop := fun xs H Q => rMin2 xs H Q ∨ rMin K xs H Q ∨ rMinT K xs H Q
def rMaxJ (K : PySem.W.Frag) : List V → Hp → VK → Prop := fun xs H Q => rMax2 xs H Q ∨ rMax K xs H Q ∨ rMaxT K xs H Q
theorem call_minU {X : Cx} {K : PySem.W.Frag} (hc : X.calm = true := by rfl) (hK : X.K = K := by rfl) : CallR X (.builtin "min") (rMinJ K) := fun pins s σ H xs us Q I r h => h.elim (fun h => call_minP hc pins s σ H xs us Q I r h) (fun h => h.elim (fun h => call_minL hc hK pins s σ H xs us Q I r h) (fun h => call_minT hc hK pins s σ H xs us Q I r h))
theorem call_maxU {X : Cx} {K : PySem.W.Frag} (hc : X.calm = true := by rfl) (hK : X.K = K := by rfl) : CallR X (.builtin "max") (rMaxJ K) := fun pins s σ H xs us Q I r h => h.elim (fun h => call_maxP hc pins s σ H xs us Q I r h) (fun h => h.elim (fun h => call_maxL hc hK pins s σ H xs us Q I r h) (fun h => call_maxT hc hK pins s σ H xs us Q I r h))
def minL : List Int → Int
  | [] => 0
  | [n] => n
  | n :: m :: r => if n ≤ minL (m :: r) then n else minL (m :: r)
def maxL : List Int → Int
  | [] => 0
  | [n] => n
  | n :: m :: r => if maxL (m :: r) ≤ n then n else maxL (m :: r)
theorem minL_le : ∀ {ns : List Int} {y : Int}, y ∈ ns → minL ns ≤ y
  | [n], y, h => by rw [List.mem_singleton] at h; rw [h]; exact Int.le_refl _
  | n :: m :: r, y, h => by
    unfold minL
    rcases List.mem_cons.mp h with rfl | h
    · split <;> omega
    · have := minL_le (ns := m :: r) h
      split <;> omega
theorem le_maxL : ∀ {ns : List Int} {y : Int}, y ∈ ns → y ≤ maxL ns
  | [n], y, h => by rw [List.mem_singleton] at h; rw [h]; exact Int.le_refl _
  | n :: m :: r, y, h => by
    unfold maxL
    rcases List.mem_cons.mp h with rfl | h
    · split <;> omega
    · have := le_maxL (ns := m :: r) h
      split <;> omega
theorem minL_mem : ∀ {ns : List Int}, ns ≠ [] → minL ns ∈ ns
  | [], h => absurd rfl h
  | [n], _ => by exact List.mem_singleton.mpr rfl
  | n :: m :: r, _ => by
    have := minL_mem (ns := m :: r) (by simp)
    unfold minL
    split
    · exact List.mem_cons_self
    · exact List.mem_cons_of_mem _ this
theorem maxL_mem : ∀ {ns : List Int}, ns ≠ [] → maxL ns ∈ ns
  | [], h => absurd rfl h
  | [n], _ => by exact List.mem_singleton.mpr rfl
  | n :: m :: r, _ => by
    have := maxL_mem (ns := m :: r) (by simp)
    unfold maxL
    split
    · exact List.mem_cons_self
    · exact List.mem_cons_of_mem _ this
def minD : List D → Option D
  | [.int i, .int j] => some (.int (if j < i then j else i))
  | [.lst xs] => (match intsOf xs with
    | some (n :: ns) => some (.int (minL (n :: ns)))
    | _ => none)
  | [.tup xs] => (match intsOf xs with
    | some (n :: ns) => some (.int (minL (n :: ns)))
    | _ => none)
  | _ => none
def maxD : List D → Option D
  | [.int i, .int j] => some (.int (if j > i then j else i))
  | [.lst xs] => (match intsOf xs with
    | some (n :: ns) => some (.int (maxL (n :: ns)))
    | _ => none)
  | [.tup xs] => (match intsOf xs with
    | some (n :: ns) => some (.int (maxL (n :: ns)))
    | _ => none)
  | _ => none
theorem calls_min {K : PySem.W.Frag} : CallS K (rMinJ K) minD true := fun H vs ds z S Q r e q => by
  unfold minD at e
  split at e
  · obtain ⟨v, u, S1, S2, rfl, h, h'⟩ := reps2 r
    obtain ⟨rfl, rfl⟩ := rep_int h
    obtain ⟨rfl, rfl⟩ := rep_int h'
    cases e
    exact .inl ⟨_, _, rfl, q _ H [] (.int _) (Same.refl _) fun _ => ⟨Nw.nil, trivial⟩⟩
  · rename_i xs
    obtain ⟨v, rfl, h⟩ := reps1 r
    cases z2 : intsOf xs with
    | none => rw [z2] at e; cases e
    | some ns =>
      rw [z2] at e
      cases ns with
      | nil => cases e
      | cons n ns =>
        cases e
        obtain ⟨a, ys, S1, rfl, h1, h2, _⟩ := rep_lst h
        rw [intsOf_eq z2] at h2
        rw [h2.intsOf] at h1
        refine .inr (.inl ⟨a, n :: ns, rfl, h1, by simp, fun m hm hl => ?_⟩)
        have : m = minL (n :: ns) := by
          have a1 := minL_le hm
          have a2 := hl _ (minL_mem (ns := n :: ns) (by simp))
          omega
        rw [this]
        exact q _ H [] (.int _) (Same.refl _) fun _ => ⟨Nw.nil, trivial⟩
  · rename_i xs
    obtain ⟨v, rfl, h⟩ := reps1 r
    cases z2 : intsOf xs with
    | none => rw [z2] at e; cases e
    | some ns =>
      rw [z2] at e
      cases ns with
      | nil => cases e
      | cons n ns =>
        cases e
        obtain ⟨a, ys, rfl, h1, h2⟩ := rep_tup h
        rw [intsOf_eq z2] at h2
        rw [h2.intsOf] at h1
        refine .inr (.inr ⟨a, n :: ns, rfl, h1, by simp, fun m hm hl => ?_⟩)
        have : m = minL (n :: ns) := by
          have a1 := minL_le hm
          have a2 := hl _ (minL_mem (ns := n :: ns) (by simp))
          omega
        rw [this]
        exact q _ H [] (.int _) (Same.refl _) fun _ => ⟨Nw.nil, trivial⟩
  · cases e
theorem calls_max {K : PySem.W.Frag} : CallS K (rMaxJ K) maxD true := fun H vs ds z S Q r e q => by
  unfold maxD at e
  split at e
  · obtain ⟨v, u, S1, S2, rfl, h, h'⟩ := reps2 r
    obtain ⟨rfl, rfl⟩ := rep_int h
    obtain ⟨rfl, rfl⟩ := rep_int h'
    cases e
    exact .inl ⟨_, _, rfl, q _ H [] (.int _) (Same.refl _) fun _ => ⟨Nw.nil, trivial⟩⟩
  · rename_i xs
    obtain ⟨v, rfl, h⟩ := reps1 r
    cases z2 : intsOf xs with
    | none => rw [z2] at e; cases e
    | some ns =>
      rw [z2] at e
      cases ns with
      | nil => cases e
      | cons n ns =>
        cases e
        obtain ⟨a, ys, S1, rfl, h1, h2, _⟩ := rep_lst h
        rw [intsOf_eq z2] at h2
        rw [h2.intsOf] at h1
        refine .inr (.inl ⟨a, n :: ns, rfl, h1, by simp, fun m hm hl => ?_⟩)
        have : m = maxL (n :: ns) := by
          have a1 := le_maxL hm
          have a2 := hl _ (maxL_mem (ns := n :: ns) (by simp))
          omega
        rw [this]
        exact q _ H [] (.int _) (Same.refl _) fun _ => ⟨Nw.nil, trivial⟩
  · rename_i xs
    obtain ⟨v, rfl, h⟩ := reps1 r
    cases z2 : intsOf xs with
    | none => rw [z2] at e; cases e
    | some ns =>
      rw [z2] at e
      cases ns with
      | nil => cases e
      | cons n ns =>
        cases e
        obtain ⟨a, ys, rfl, h1, h2⟩ := rep_tup h
        rw [intsOf_eq z2] at h2
        rw [h2.intsOf] at h1
        refine .inr (.inr ⟨a, n :: ns, rfl, h1, by simp, fun m hm hl => ?_⟩)
        have : m = maxL (n :: ns) := by
          have a1 := le_maxL hm
          have a2 := hl _ (maxL_mem (ns := n :: ns) (by simp))
          omega
        rw [this]
        exact q _ H [] (.int _) (Same.refl _) fun _ => ⟨Nw.nil, trivial⟩
  · cases e
/-! range of three -/
def rng3D : List D → Option (List D)
  | [.int i, .int j, .int c] => if (0 ≤ i ∧ i < 2 ^ 30) ∧ (0 ≤ j ∧ j < 2 ^ 30) ∧ 0 < c ∧ c < 2 ^ 30 then some ((List.range (Builtin.Range.rangeSize i j c).toNat).map fun k => .int (i + (k : Nat) * c)) else none
  | _ => none
theorem walk_rngC {K : PySem.W.Frag} {H : Hp} {lo s : Int} {n : Nat} {F : Hp → Hp → Prop} {ok : Addr → Prop} : WKr K F ok H (Itc lo s n) ((List.range n).map fun k => .int (lo + (k : Nat) * s)) := fun H2 i f => by
  refine ⟨fun d hd => ?_, fun hd => ?_⟩
  · rw [List.getElem?_map] at hd
    by_cases hi : i < n
    · rw [List.getElem?_range hi] at hd
      cases hd
      exact ⟨hi, fun x H3 y => ⟨y.1, [], y.2 ▸ .int _, fun _ z => by cases z⟩⟩
    · rw [List.getElem?_eq_none (by simp; omega)] at hd
      cases hd
  · have := List.getElem?_eq_none_iff.mp hd
    show n ≤ i
    simpa using this
theorem reps3 {K : PySem.W.Frag} {H : Hp} {vs : List V} {d e f : D} {S : List Addr} (h : Reps K H vs [d, e, f] S) : ∃ v u w S1 S2 S3, vs = [v, u, w] ∧ Rep K H v d S1 ∧ Rep K H u e S2 ∧ Rep K H w f S3 := by
  cases h with
  | cons a b =>
    obtain ⟨u, w, _, _, rfl, r, r2⟩ := reps2 b
    exact ⟨_, _, _, _, _, _, rfl, a, r, r2⟩
theorem rgC {i j s : Int} (h : (0 ≤ i ∧ i < 2 ^ 30) ∧ (0 ≤ j ∧ j < 2 ^ 30) ∧ 0 < s ∧ s < 2 ^ 30) : RgC i j s (Builtin.Range.rangeSize i j s).toNat := by
  obtain ⟨⟨i0, i1⟩, ⟨j0, j1⟩, s0, s1⟩ := h
  have hn : 0 ≤ Builtin.Range.rangeSize i j s ∧ Builtin.Range.rangeSize i j s ≤ 2 ^ 30 := by
    unfold Builtin.Range.rangeSize
    rw [if_pos s0]
    split
    · have a1 : 0 ≤ (j - i - 1) / s := Int.ediv_nonneg (by omega) (by omega)
      have a2 : (j - i - 1) / s ≤ j - i - 1 := Int.ediv_le_self _ (by omega)
      omega
    · omega
  refine ⟨by omega, by omega, ?_, by omega⟩
  unfold Builtin.Range.small
  simp only [Builtin.Range.rangeFitsLong, Bool.and_eq_true, Bool.or_eq_true, decide_eq_true_eq, beq_iff_eq]
  have s2 : s > 0 := s0
  simp only [s2, if_true]
  refine ⟨⟨⟨⟨⟨?_, ?_⟩, ?_, ?_⟩, ?_, ?_⟩, ?_, ?_⟩, .inr ?_⟩
  all_goals try omega
  rw [decide_eq_true (by omega), decide_eq_true (by omega)]
  rfl
section
variable {c : C0} {W : WX} {te : TE} {tt : TA} {e : Env → Res D} {as : Env → Res (List D)} {pu fr : Bool}
theorem si_rng3 (ha : SA c W tt as pu fr) : SIt c W (iRng3 tt) (itO rng3D as) pu true := si_args (wR := fun vs H1 R => ∃ (i j s : Int) (n : Nat), vs = [.int i, .int j, .int s] ∧ RgC i j s n ∧ R (Itc i s n) H1) (fun H vs ds S xs R r e q => by
  unfold rng3D at e
  split at e
  · obtain ⟨v, u, w, S1, S2, S3, rfl, h, h', h''⟩ := reps3 r
    obtain ⟨rfl, rfl⟩ := rep_int h
    obtain ⟨rfl, rfl⟩ := rep_int h'
    obtain ⟨rfl, rfl⟩ := rep_int h''
    split at e
    · rename_i hj
      cases e
      exact ⟨_, _, _, _, rfl, rgC hj, q _ fun _ _ => walk_rngC⟩
    · cases e
  · cases e) ha
end
/-! try -/
def ExM (K : PySem.W.Frag) (C : Value) (m : List (String × Bool)) : Prop := ∀ x b, m.lookup x = some b → PySem.W.exmOne K (.ref (He.ga K x)) C = some b
theorem exm_nil {K : PySem.W.Frag} {C : Value} : ExM K C [] := fun x b h => by cases h
theorem exm_cons {K : PySem.W.Frag} {C : Value} {m : List (String × Bool)} {y : String} {k : Bool} (h : PySem.W.exmOne K (.ref (He.ga K y)) C = some k) (t : ExM K C m) : ExM K C ((y, k) :: m) := fun x b e => by
  rw [List.lookup_cons] at e
  by_cases hx : (x == y) = true
  · rw [hx] at e
    cases e
    rw [eq_of_beq hx]
    exact h
  · rw [Bool.not_eq_true] at hx
    rw [hx] at e
    exact t x b e
def Out.clr (i : Nat) : Out → Out
  | .nx ρ => .nx (ρ.set i none)
  | .brk ρ => .brk (ρ.set i none)
  | .ct ρ => .ct (ρ.set i none)
  | .ret d ρ => .ret d ρ
  | .exc _ _ => .bad
  | .bad => .bad
def Out.noX : Out → Out
  | .exc _ _ => .bad
  | o => o
def sTryAs (m : List (String × Bool)) (i : Nat) (b : Env → Out) (s : String → Env → Out) : Env → Out := fun ρ => match b ρ with
  | .exc x ρ1 => (match m.lookup x with
    | some true => if i < ρ1.length then (s x (ρ1.set i (some (.ex x)))).clr i else .bad
    | some false => .exc x ρ1
    | none => .bad)
  | o => o
def sTryOn (m : List (String × Bool)) (b : Env → Out) (s : Env → Out) : Env → Out := fun ρ => match b ρ with
  | .exc x ρ1 => (match m.lookup x with
    | some true => (s ρ1).noX
    | some false => .exc x ρ1
    | none => .bad)
  | o => o
section
variable {c : C0} {H0 : Hp} {Wd Al : Addr → Prop} {T : Nat → List Addr} {σ : L2.St} {H H' : Hp} {ρ : Env}
theorem SIT.reset (I : SIT c H0 Wd Al T σ H ρ) {i : Nat} (h : (ρ[i]?).join = none) (hi : i ∉ c.ios) (o : Option V) : SIT c H0 Wd Al T (σ.set i o) H ρ :=
  ⟨I.frm, I.base, by rw [List.length_set]; exact I.len, fun k => by
    by_cases e : i = k
    · subst e
      have := I.rep i
      rw [h] at this ⊢
      exact this
    · rw [List.getElem?_set_ne e]
      exact I.rep k, I.dis, I.nod, I.all, I.own, fun j hj v d e1 e2 => by
    by_cases e : i = j
    · subst e
      rw [h] at e2
      cases e2
    · rw [List.getElem?_set_ne e] at e1
      exact I.top j hj v d e1 e2, I.loc, fun k hk => by
    rw [List.getElem?_set_ne (fun e : i = k => hi (e ▸ hk))]
    exact I.io k hk, I.io2, I.lk⟩
theorem SIT.clr (I : SIT c H0 Wd Al T σ H ρ) {i : Nat} (hi : i ∉ c.ios) : ∃ T', SIT c H0 Wd Al T' (σ.set i none) H (ρ.set i none) := by
  obtain ⟨T', I', _⟩ := I.drop i (fun z => hi (I.lk _ z).1.1)
  refine ⟨T', I'.reset ?_ hi none⟩
  by_cases hl : i < ρ.length
  · exact join_set_self hl
  · rw [List.set_eq_of_length_le (by omega), List.getElem?_eq_none (by omega)]
    rfl
end
section
variable {c : C0} {W : WX} {C : Value} {m : List (String × Bool)} {tb : WX → TS} {sb : Env → Out}
theorem ss_tryAs {ts : Addr → Value → Option Addr → TS} {ssu : String → Env → Out} (i : Nat) (hm : ExM c.K C m) (hb : ∀ W', SS c W' (tb W') sb) (hs : ∀ (a : Addr) (x : String), m.lookup x = some true → SS (c.pin i a) W0 (ts a (.ref (He.ga c.K x)) none) (ssu x))
    (hO : Nat.beq (c.O i) 0 = true := by rfl) (hi : c.ios.contains i = false := by rfl) : SS c W (tTry c.K C i ts W tb) (sTryAs m i sb ssu) := fun H0 Wd Al T σ H ρ nx rt bk ct I q => by
  have hO := Nat.eq_of_beq_eq_true hO
  have hio : i ∉ c.ios := fun z => by rw [List.contains_iff_mem.mpr z] at hi; cases hi
  show tb (wAs c.K C i ts W ⟨nx, rt, bk, ct⟩) ⟨nx, rt, bk, ct⟩ σ H
  refine hb _ H0 Wd Al T σ H ρ nx rt bk ct I ?_
  unfold sTryAs at q
  cases z : sb ρ with
  | nx ρ1 => rw [z] at q; exact q
  | ret d ρ1 => rw [z] at q; exact q
  | brk ρ1 => rw [z] at q; exact q
  | ct ρ1 => rw [z] at q; exact q
  | bad => rw [z] at q; exact q
  | exc x ρ1 =>
    rw [z] at q
    dsimp only at q
    intro σ' H' T' I'
    cases z2 : m.lookup x with
    | none => rw [z2] at q; exact q.elim
    | some b =>
      rw [z2] at q
      refine ⟨b, hm x b z2, fun e a ha => ?_, fun e => ?_⟩
      · subst e
        dsimp only at q
        by_cases hl : i < ρ1.length
        · rw [if_pos hl] at q
          obtain ⟨T2, I2, _⟩ := I'.putR (i := i) (v := .ref a) (d := .ex x) (S := []) (.ex a x) (fun z => absurd hO z) (fun _ _ _ z => by cases z) (fun _ z => by cases z) (by omega) hi
          have I3 : SIT (c.pin i a) H0 Wd Al T2 (σ'.set i (some (.ref a))) H' (ρ1.set i (some (.ex x))) := ⟨I2.frm, I2.base, I2.len, I2.rep, I2.dis, I2.nod, I2.all, I2.own, I2.top, I2.loc, fun k hk => by
            rcases List.mem_cons.mp hk with rfl | hk
            · show _ = some (some (V.ref (if k = k then a else c.ioa k)))
              rw [if_pos rfl]
              exact List.getElem?_set_self (by rw [I'.len]; exact hl)
            · show _ = some (some (V.ref (if k = i then a else c.ioa k)))
              rw [if_neg (fun e : k = i => hio (e ▸ hk))]
              exact I2.io k hk, I2.io2, fun k hk => ⟨⟨List.mem_cons_of_mem _ (I2.lk k hk).1.1, (I2.lk k hk).1.2⟩, (I2.lk k hk).2⟩⟩
          refine hs a x z2 H0 Wd Al T2 _ H' _ (fun σ' H' => nx (σ'.set i none) H') rt (fun σ' H' => bk (σ'.set i none) H') (fun σ' H' => ct (σ'.set i none) H') I3 ?_
          cases z3 : ssu x (ρ1.set i (some (.ex x))) with
          | nx ρ3 =>
            rw [z3] at q
            intro σ4 H4 T4 I4
            obtain ⟨T5, I5⟩ := (I4.unpin hio (fun z => hio (I.lk _ z).1.1)).1.clr hio
            exact q _ _ _ I5
          | brk ρ3 =>
            rw [z3] at q
            intro σ4 H4 T4 I4
            obtain ⟨T5, I5⟩ := (I4.unpin hio (fun z => hio (I.lk _ z).1.1)).1.clr hio
            exact q _ _ _ I5
          | ct ρ3 =>
            rw [z3] at q
            intro σ4 H4 T4 I4
            obtain ⟨T5, I5⟩ := (I4.unpin hio (fun z => hio (I.lk _ z).1.1)).1.clr hio
            exact q _ _ _ I5
          | ret d ρ3 =>
            rw [z3] at q
            intro v σ4 H4 T4 S I4 r f
            exact q v σ4 H4 T4 S (I4.unpin hio (fun z => hio (I.lk _ z).1.1)).1 r f
          | exc y ρ3 => rw [z3] at q; exact q.elim
          | bad => rw [z3] at q; exact q.elim
        · rw [if_neg hl] at q; exact q.elim
      · subst e
        exact q σ' H' T' I'
theorem ss_tryOn {ts : Addr → Value → Option Addr → TS} {ssu : Env → Out} (hm : ExM c.K C m) (hb : ∀ W', SS c W' (tb W') sb) (hs : ∀ (a : Addr) (cls : Value) (d : Option Addr), SS c W0 (ts a cls d) ssu) :
    SS c W (fun D σ H => tb (wOnly c.K C ts W D) D σ H) (sTryOn m sb ssu) := fun H0 Wd Al T σ H ρ nx rt bk ct I q => by
  show tb (wOnly c.K C ts W ⟨nx, rt, bk, ct⟩) ⟨nx, rt, bk, ct⟩ σ H
  refine hb _ H0 Wd Al T σ H ρ nx rt bk ct I ?_
  unfold sTryOn at q
  cases z : sb ρ with
  | nx ρ1 => rw [z] at q; exact q
  | ret d ρ1 => rw [z] at q; exact q
  | brk ρ1 => rw [z] at q; exact q
  | ct ρ1 => rw [z] at q; exact q
  | bad => rw [z] at q; exact q
  | exc x ρ1 =>
    rw [z] at q
    dsimp only at q
    intro σ' H' T' I'
    cases z2 : m.lookup x with
    | none => rw [z2] at q; exact q.elim
    | some b =>
      rw [z2] at q
      refine ⟨b, hm x b z2, fun e a ha => ?_, fun e => ?_⟩
      · subst e
        dsimp only at q
        refine hs a _ _ H0 Wd Al T' σ' H' ρ1 nx rt bk ct I' ?_
        cases z3 : ssu ρ1 with
        | exc y ρ3 => rw [z3] at q; exact q.elim
        | _ => rw [z3] at q; exact q
      · subst e
        exact q σ' H' T' I'
end
/-! isinstance of what is caught -/
def IsM (K : PySem.W.Frag) (v : V) (m : List (String × Bool)) : Prop := ∀ x b, m.lookup x = some b → ∃ cv, ExcC K (He.ga K x) ∧ (∀ u, RelV v u → u = cv) ∧ PySem.W.kitOne K (.ref (He.ga K x)) cv = some b
theorem ism_nil {K : PySem.W.Frag} {v : V} : IsM K v [] := fun x b h => by cases h
theorem ism_cons {K : PySem.W.Frag} {v : V} {m : List (String × Bool)} {y : String} {k : Bool} {cv : Value} (hc : ExcC K (He.ga K y)) (h : PySem.W.kitOne K (.ref (He.ga K y)) cv = some k) (t : IsM K v m) (hv : ∀ u, RelV v u → u = cv) : IsM K v ((y, k) :: m) := fun x b e => by
  rw [List.lookup_cons] at e
  by_cases hx : (x == y) = true
  · rw [hx] at e
    cases e
    rw [eq_of_beq hx]
    exact ⟨cv, hc, hv, h⟩
  · rw [Bool.not_eq_true] at hx
    rw [hx] at e
    exact t x b e
theorem rel_cl {p : Addr} : ∀ u, RelV (.ref p) u → u = .ref p := fun u r => by cases r; rfl
theorem rel_ty {n : String} : ∀ u, RelV (.ty n) u → u = .type n := fun u r => by cases r; rfl
def eIsE (m : List (String × Bool)) (x : String) : Env → Res D := fun ρ => match m.lookup x with
  | some b => .ok (.bl b) ρ
  | none => .bad
theorem se_isE {c : C0} {W : WX} {m : List (String × Bool)} {a : Addr} {i : Nat} {x : String} {v : V} (hm : IsM c.K v m) : SE (c.pin i a) W (tCB (rIsEg c.K (.ref (He.ga c.K x)) none a) (tCons (tVar i) (tCons (tC v) tNil))) (eIsE m x) true true := fun H0 Wd Al T σ H ρ Q I q => by
  unfold eIsE at q
  cases z : m.lookup x with
  | none => rw [z] at q; exact q.elim
  | some b =>
    rw [z] at q
    obtain ⟨cv, e1, e2, e3⟩ := hm x b z
    have h := I.io i List.mem_cons_self
    rw [show (c.pin i a).ioa i = a from if_pos rfl] at h
    exact ⟨.ref a, h, He.ga c.K x, rfl, rfl, e1, v, cv, b, rfl, e2, e3, q (.bl b) H T [] I (.bl _) Grw.refl (fun _ _ z => .inl z) (fun _ => ⟨rfl, Same.refl _, rfl⟩) fun _ => ⟨Nw.nil, trivial, fun _ _ z => by cases z⟩⟩
end Ol
namespace Ol
open PySem PySem.Spec PyProof.Rows L2
/-! ## a text's slice whose ends write -/
def SOW (c : C0) (W : WX) (tp : TO) (p : Env → Res (Option Int)) : Prop :=
  ∀ (H0 : Hp) (Wd Al : Addr → Prop) (T : Nat → List Addr) (σ : L2.St) (H : Hp) (ρ : Env) (Q : Option Int → Hp → Prop), SIT c H0 Wd Al T σ H ρ →
    (match p ρ with
      | .ok o ρ' => ∀ H' T', SIT c H0 Wd Al T' σ H' ρ' → Grw H H' → (∀ i, ∀ a ∈ T' i, a ∈ T i ∨ H a = none) → Q o H'
      | .exc x ρ' => ∀ H' T', SIT c H0 Wd Al T' σ H' ρ' → W (.ref (He.ga c.K x)) none σ H'
      | .bad => False) → tp σ H Q
def eSlT (e : Env → Res D) (l h : Env → Res (Option Int)) : Env → Res D := fun ρ => (e ρ).bind fun d ρ1 => (l ρ1).bind fun lo ρ2 => (h ρ2).bind fun hi ρ3 => match d with
  | .str z => if z.length ≤ 16777216 then .ok (.str (cutS z lo hi)) ρ3 else .bad
  | _ => .bad
section
variable {c : C0} {W : WX} {te : TE} {tl th : TO} {e : Env → Res D} {l h : Env → Res (Option Int)} {pu fr : Bool}
theorem sow_none : SOW c W tNoPart pNone := fun H0 Wd Al T σ H ρ Q I q => q H T I Grw.refl fun _ _ z => .inl z
theorem sow_some (he : SE c W te e pu fr) : SOW c W (tPart te) (pSome e) := fun H0 Wd Al T σ H ρ Q I q => he H0 Wd Al T σ H ρ _ I (by
  unfold pSome at q
  cases z : e ρ with
  | bad => rw [z] at q; exact q
  | exc x ρ' => rw [z] at q; exact q
  | ok d ρ1 =>
    rw [z, Res.bind_ok] at q
    intro v H1 T1 S I1 r1 g1 nw1 p1 f1
    cases d with
    | int i =>
      obtain ⟨rfl, _⟩ := rep_int r1
      exact ⟨i, rfl, q H1 T1 I1 g1 nw1⟩
    | _ => exact q.elim)
theorem se_sliceT (he : SE c W te e pu fr) (hl : SOW c W tl l) (hh : SOW c W th h) : SE c W (tSl (rSlU c.K) te tl th) (eSlT e l h) false true := fun H0 Wd Al T σ H ρ Q I q => he H0 Wd Al T σ H ρ _ I (by
  unfold eSlT at q
  cases z : e ρ with
  | bad => rw [z] at q; exact q
  | exc x ρ' => rw [z] at q; exact q
  | ok d ρ1 =>
    rw [z, Res.bind_ok] at q
    intro v H1 T1 S I1 r1 g1 nw1 p1 f1
    refine hl H0 Wd Al T1 σ H1 ρ1 _ I1 ?_
    cases z2 : l ρ1 with
    | bad => rw [z2] at q; exact q
    | exc x ρ' => rw [z2] at q; exact q
    | ok lo ρ2 =>
      rw [z2, Res.bind_ok] at q
      intro H2 T2 I2 g2 nw2
      refine hh H0 Wd Al T2 σ H2 ρ2 _ I2 ?_
      cases z3 : h ρ2 with
      | bad => rw [z3] at q; exact q
      | exc x ρ' => rw [z3] at q; exact q
      | ok hi ρ3 =>
        rw [z3, Res.bind_ok] at q
        intro H3 T3 I3 g3 nw3
        cases d with
        | str y =>
          dsimp only at q
          by_cases hy : y.length ≤ 16777216
          · rw [if_pos hy] at q
            obtain ⟨rfl, _⟩ := rep_str r1
            refine .inl ⟨y, rfl, sz_le hy, q _ H3 T3 [] I3 (.str _) (g1.trans (g2.trans g3)) (fun i a ha => ?_) (fun hp => by cases hp) fun _ => New.nil rfl⟩
            rcases nw3 i a ha with k | k
            · rcases nw2 i a k with k | k
              · exact nw1 i a k
              · exact .inr (g1.dom a k)
            · exact .inr (g1.dom a (g2.dom a k))
          · rw [if_neg hy] at q; exact q.elim
        | _ => exact q.elim)
end
/-! what is new stays, whatever is reckoned behind it -/
section
variable {c : C0} {W : WX} {ta tb te : TE} {tt : TA} {a b e : Env → Res D} {as : Env → Res (List D)} {pa pb fa fb pu fr : Bool}
theorem se_fr (he : SE c W te e pu fr) {H0 : Hp} {Wd Al : Addr → Prop} {T : Nat → List Addr} {σ : L2.St} {H : Hp} {ρ : Env} {Q : VK} (I : SIT c H0 Wd Al T σ H ρ)
    (q : match e ρ with
      | .ok d ρ' => ∀ v H' T' S, SIT c H0 Wd Al T' σ H' ρ' → Rep c.K H' v d S → Grw H H' → (∀ i, ∀ a ∈ T' i, a ∈ T i ∨ H a = none) → (pu = true → ρ' = ρ ∧ Same H H' ∧ T' = T) → (fr = true → New c.K H H' T' v d S) → Frm (Wo c T) H H' → Q v H'
      | .exc x ρ' => ∀ H' T', SIT c H0 Wd Al T' σ H' ρ' → W (.ref (He.ga c.K x)) none σ H'
      | .bad => False) : te σ H Q := he H (Wo c T) _ T σ H ρ Q I.rebase (by
  cases z : e ρ with
  | bad => rw [z] at q; exact q
  | exc x ρ' => rw [z] at q; exact fun H' T' J => q H' T' (I.unbase J)
  | ok d ρ' => rw [z] at q; exact fun v H' T' S J r g nw p f => q v H' T' S (I.unbase J) r g nw p f J.frm)
theorem sa_fr (he : SA c W tt as pu fr) {H0 : Hp} {Wd Al : Addr → Prop} {T : Nat → List Addr} {σ : L2.St} {H : Hp} {ρ : Env} {Q : List V → Hp → Prop} (I : SIT c H0 Wd Al T σ H ρ)
    (q : match as ρ with
      | .ok d ρ' => ∀ v H' T' S, SIT c H0 Wd Al T' σ H' ρ' → Reps c.K H' v d S → Grw H H' → (∀ i, ∀ a ∈ T' i, a ∈ T i ∨ H a = none) → (pu = true → ρ' = ρ ∧ Same H H' ∧ T' = T) → (fr = true → NewA H H' T' S) → Frm (Wo c T) H H' → Q v H'
      | .exc x ρ' => ∀ H' T', SIT c H0 Wd Al T' σ H' ρ' → W (.ref (He.ga c.K x)) none σ H'
      | .bad => False) : tt σ H Q := he H (Wo c T) _ T σ H ρ Q I.rebase (by
  cases z : as ρ with
  | bad => rw [z] at q; exact q
  | exc x ρ' => rw [z] at q; exact fun H' T' J => q H' T' (I.unbase J)
  | ok d ρ' => rw [z] at q; exact fun v H' T' S J r g nw p f => q v H' T' S (I.unbase J) r g nw p f J.frm)
theorem se_opF {R : R2} {f : D → D → Option D} (ho : OpS c.K R f fr) (ha : SE c W ta a pa true) (hb : SE c W tb b pb fb) : SE c W (tOp R ta tb) (eBin false f a b) (pa && pb) fr := fun H0 Wd Al T σ H ρ Q I q => ha H0 Wd Al T σ H ρ _ I (by
  unfold eBin at q
  cases z : a ρ with
  | bad => rw [z] at q; exact q
  | exc x ρ' => rw [z] at q; exact q
  | ok d ρ1 =>
    rw [z, Res.bind_ok, if_neg (by simp)] at q
    intro v H1 T1 S I1 r1 g1 nw1 p1 f1
    refine se_fr hb I1 ?_
    cases z2 : b ρ1 with
    | bad => rw [z2] at q; exact q
    | exc x ρ' => rw [z2] at q; exact q
    | ok e ρ2 =>
      rw [z2, Res.bind_ok] at q
      intro u H2 T2 S2 I2 r2 g2 nw2 p2 f2 fm
      unfold optR at q
      cases z3 : f d e with
      | none => rw [z3] at q; exact q.elim
      | some w =>
        rw [z3] at q
        have r1' : Rep c.K H2 v d S := r1.mono g2.tk fun a ha o e => fm.keep a o (fun ⟨j, _, k⟩ => (f1 rfl).dis j a ha k) e
        refine ho H2 v u d e w S S2 Q r1' r2 z3 fun y H3 U r3 s3 f3 => ?_
        refine q y H3 T2 U (I2.same s3) r3 ((g1.trans g2).trans (Grw.same s3)) (fun i a ha => ?_) (fun hp => ?_) fun hf => ?_
        · rcases nw2 i a ha with k | k
          · exact nw1 i a k
          · exact .inr (g1.dom a k)
        · rw [Bool.and_eq_true] at hp
          obtain ⟨e1, s1, t1⟩ := p1 hp.1
          obtain ⟨e2, s2, t2⟩ := p2 hp.2
          exact ⟨e2.trans e1, (s1.trans s2).trans s3, t2.trans t1⟩
        · obtain ⟨⟨n, nn, nf⟩, tp⟩ := f3 hf
          exact ⟨⟨n, fun a ha => g1.dom a (g2.dom a (nn a ha)), nf⟩, tp, fun i a ha k => I2.doms i a k (nn a ha)⟩)
theorem sa_consF (ha : SE c W ta a pa true) (hb : SA c W tt as pb fb) : SA c W (tCons ta tt) (aCons false a as) (pa && pb) fb := fun H0 Wd Al T σ H ρ Q I q => ha H0 Wd Al T σ H ρ _ I (by
  unfold aCons at q
  cases z : a ρ with
  | bad => rw [z] at q; exact q
  | exc x ρ' => rw [z] at q; exact q
  | ok d ρ1 =>
    rw [z, Res.bind_ok, if_neg (by simp)] at q
    intro v H1 T1 S I1 r1 g1 nw1 p1 f1
    refine sa_fr hb I1 ?_
    cases z2 : as ρ1 with
    | bad => rw [z2] at q; exact q
    | exc x ρ' => rw [z2] at q; exact q
    | ok es ρ2 =>
      rw [z2, Res.bind_ok] at q
      intro us H2 T2 S2 I2 r2 g2 nw2 p2 f2 fm
      have kp : ∀ a ∈ S, ∀ o, H1 a = some o → H2 a = some o := fun a ha o e => fm.keep a o (fun ⟨j, _, k⟩ => (f1 rfl).dis j a ha k) e
      refine q (v :: us) H2 T2 (S ++ S2) I2 (.cons (r1.mono g2.tk kp) r2) (g1.trans g2) (fun i a ha => ?_) (fun hp => ?_) fun hf => ?_
      · rcases nw2 i a ha with k | k
        · exact nw1 i a k
        · exact .inr (g1.dom a k)
      · rw [Bool.and_eq_true] at hp
        obtain ⟨e1, s1, t1⟩ := p1 hp.1
        obtain ⟨e2, s2, t2⟩ := p2 hp.2
        exact ⟨e2.trans e1, s1.trans s2, t2.trans t1⟩
      · obtain ⟨⟨n1, m1, k1⟩, _, d1⟩ := f1 rfl
        obtain ⟨⟨n2, m2, k2⟩, d2⟩ := f2 hf
        refine ⟨⟨List.nodup_append.mpr ⟨n1, n2, fun a ha b hb e => ?_⟩, fun a ha => ?_, fun a ha => ?_⟩, fun i a ha k => ?_⟩
        · subst e
          exact r1.dom a ha (m2 a hb)
        · exact (List.mem_append.mp ha).elim (m1 a) fun k => g1.dom a (m2 a k)
        · rcases List.mem_append.mp ha with ha | ha
          · cases e : H1 a with
            | none => exact absurd e (r1.dom a ha)
            | some o =>
              intro o2 u2 z
              rw [kp a ha o e] at z
              cases z
              exact k1 a ha _ _ e
          · exact k2 a ha
        · rcases List.mem_append.mp ha with ha | ha
          · rcases nw2 i a k with z | z
            · exact d1 i a ha z
            · exact r1.dom a ha z
          · exact d2 i a ha k)
end
end Ol
namespace Ol
open PySem PySem.Spec PyProof.Rows L2
/-! ## count, index of a list of plain things; l[i] = v where i writes -/
def rCntF (K : PySem.W.Frag) : V → List V → Hp → VK → Prop := fun x xs H Q => ∃ (p : Addr) (ys : List V) (y : V), x = .ref p ∧ xs = [y] ∧ SqL K H p ys ∧ flatV y = true ∧ ys.all flatV = true ∧ Q (.int (ys.countP fun z => eqV z y : Nat)) H
theorem vals_count {y : V} : ∀ {ys : List V} {its : List Value}, Vals ys its → ys.all flatV = true → its.countP (eqU y) = ys.countP fun z => eqV z y
  | [], _, h, _ => by cases h; rfl
  | z :: ys, _, h, f => by
    rw [List.all_cons, Bool.and_eq_true] at f
    cases h with
    | cons a b =>
      rw [List.countP_cons, List.countP_cons, vals_count b f.2, eqU_of a f.1]
theorem mt_lcountF {X : Cx} {K : PySem.W.Frag} (hK : X.K = K := by rfl) : MtR X "list.count" (rCntF K) := by
  subst hK
  intro pins s σ H x xs v us Q I rx rxs h
  obtain ⟨p, ys, y, rfl, rfl, hs, fy, fys, q⟩ := h
  cases rx
  cases rxs with
  | cons ry rt =>
    rename_i uy ut
    cases rt
    obtain ⟨its, rv, ⟨⟨cls, dd, data, sl⟩, n, ho, hc, hdn, hd⟩, hlen⟩ := I.list hs
    simp only at hc hd
    subst hc hd
    refine call_meets PySem.F.slot_list_count ⟨_, ho, rfl⟩ PySem.F.entry_list_count (PySem.F.args_list_count_2 _ _)
      (SeqAt.list_countAt p its.toArray n dd sl uy (eqU y)) ⟨ho, fun u' hu' => mem_eqAt ry fy rv fys u' (by simpa using hu'), ?_⟩
    have ec : its.toArray.toList.countP (eqU y) = ys.countP fun z => eqV z y := vals_count rv fys
    refine ⟨.int (ys.countP fun z => eqV z y : Nat), H, I.tok _, ⟨s.toks, ?_⟩, q⟩
    show Value.int ((its.toArray.toList.countP (eqU y) : Nat) : Int) s.toks = Value.int ((ys.countP fun z => eqV z y : Nat) : Int) s.toks
    rw [ec]
theorem mt_lindexF {X : Cx} {K : PySem.W.Frag} (hK : X.K = K := by rfl) : MtR X "list.index" (rIndex K) := hK ▸ mt_index
theorem tyLst {K : PySem.W.Frag} : ∀ H x d S, Rep K H x d S → kindD d = "list" → tyV K "list" x H := fun H x d S r h => by
  cases d with
  | lst s => 
    obtain ⟨a, xs, S', rfl, h1, _⟩ := rep_lst r
    exact .inl ⟨rfl, _, h1⟩
  | _ => simp [kindD] at h
def countD : D → List D → Option D
  | .lst xs, [y] => if flatD y = true ∧ xs.all flatD = true then some (.int (xs.countP fun z => eqF z y : Nat)) else none
  | _, _ => none
def lIndexD : D → List D → Option D
  | .lst xs, [y] => if flatD y = true ∧ xs.all flatD = true then (xs.findIdx? fun z => eqF z y).map fun j => .int (j : Nat) else none
  | _, _ => none
theorem countP_flat {y : D} : ∀ {ds : List D}, flatD y = true → ds.all flatD = true → (ds.map toF).countP (fun z => eqV z (toF y)) = ds.countP fun z => eqF z y
  | [], _, _ => rfl
  | d :: ds, h, f => by
    rw [List.all_cons, Bool.and_eq_true] at f
    rw [List.map_cons, List.countP_cons, List.countP_cons, countP_flat h f.2, eqF_eq f.1 h]
theorem mts_count {K : PySem.W.Frag} : MetS K "list" (rCntF K) countD true := ⟨tyLst, fun H x d vs ds z S S2 Q r1 r2 e q => by
  unfold countD at e
  split at e
  · rename_i xs y
    split at e
    · rename_i f
      cases e
      obtain ⟨v, rfl, h⟩ := reps1 r2
      obtain ⟨e1, e2⟩ := h.flat f.1
      obtain ⟨a, ys, S', rfl, h1, h2, _⟩ := rep_lst r1
      obtain ⟨e3, e4⟩ := h2.flat f.2
      refine ⟨a, ys, v, rfl, rfl, h1, e2, e4, ?_⟩
      rw [e1, e3, countP_flat f.1 f.2]
      exact q _ H [] (.int _) (Same.refl _) fun _ => ⟨Nw.nil, trivial⟩
    · cases e
  · cases e⟩
theorem mts_lindex {K : PySem.W.Frag} : MetS K "list" (rIndex K) lIndexD true := ⟨tyLst, fun H x d vs ds z S S2 Q r1 r2 e q => by
  unfold lIndexD at e
  split at e
  · rename_i xs y
    split at e
    · rename_i f
      cases hj : xs.findIdx? fun z => eqF z y with
      | none => rw [hj] at e; cases e
      | some j =>
        rw [hj] at e
        cases e
        obtain ⟨v, rfl, h⟩ := reps1 r2
        obtain ⟨e1, e2⟩ := h.flat f.1
        obtain ⟨a, ys, S', rfl, h1, h2, _⟩ := rep_lst r1
        obtain ⟨e3, e4⟩ := h2.flat f.2
        obtain ⟨hl, hp, hn⟩ := List.findIdx?_eq_some_iff_getElem.mp hj
        have fl : ∀ (m : Nat) (hm : m < xs.length), flatD xs[m] = true := fun m hm => List.all_eq_true.mp f.2 _ (List.getElem_mem hm)
        refine ⟨a, ys, v, j, toF xs[j], rfl, rfl, h1, e2, e4, by rw [e3]; simp [hl], ?_, fun m z' hm hz => ?_, q _ H [] (.int _) (Same.refl _) fun _ => ⟨Nw.nil, trivial⟩⟩
        · rw [e1, eqF_eq (fl j hl) f.1]
          exact hp
        · have hml : m < xs.length := by omega
          rw [e3, List.getElem?_map, List.getElem?_eq_getElem hml] at hz
          cases hz
          rw [e1, eqF_eq (fl m hml) f.1]
          have := hn m hm
          simpa using this
    · cases e
  · cases e⟩
/-! xs[k] = e where k writes -/
def sSetLI (i : Nat) (e ix : Env → Res D) : Env → Out := fun ρ => (e ρ).then fun d ρ1 => match (ρ1[i]?).join with
  | some (.lst _) => (ix ρ1).then fun k ρ2 => (match k, (ρ2[i]?).join with
    | .int k, some (.lst ds) => (match ixN ds.length k with
      | some j => if imms ds = true then .nx (ρ2.set i (some (.lst (ds.set j d)))) else .bad
      | none => .bad)
    | _, _ => .bad)
  | _ => .bad
section
variable {c : C0} {W : WX} {te ti : TE} {e ix : Env → Res D} {pu pi fi : Bool}
theorem ss_setLI (i : Nat) (he : SE c W te (eChk e) pu true) (hx : SE c W ti ix pi fi) (hO : Nat.beq (c.O i) 0 = false := by rfl) : SS c W (tAsg te (gSub (tVar i) ti rSetL)) (sSetLI i (eChk e) ix) :=
  fun H0 Wd Al T σ H ρ nx rt bk ct I q => he H0 Wd Al T σ H ρ _ I (by
  have hO := Nat.ne_of_beq_eq_false hO
  unfold sSetLI at q
  dsimp only [Res.then] at q
  cases z : eChk e ρ with
  | bad => rw [z] at q; exact q
  | exc x ρ' => rw [z] at q; exact fun H' T' I' => q σ H' T' I'
  | ok d ρ1 =>
    rw [z] at q
    intro v H1 T1 S I1 r1 g1 nw p1 f1
    have im := chk_imm z
    have eS := r1.im im
    subst eS
    dsimp only at q
    cases z1 : (ρ1[i]?).join with
    | none => rw [z1] at q; exact q.elim
    | some d1 =>
      rw [z1] at q
      cases d1 with
      | lst d1 =>
        dsimp only at q
        obtain ⟨v0, hv0, r0⟩ := I1.slot z1
        obtain ⟨p, xs0, S0', rfl, hT0, h10, h30⟩ := I1.top i hO _ _ hv0 z1
        refine ⟨.ref p, hv0, ?_⟩
        refine hx H0 Wd Al T1 σ H1 ρ1 _ I1 ?_
        cases z2 : ix ρ1 with
        | bad => rw [z2] at q; exact q
        | exc x ρ' => rw [z2] at q; exact fun H' T' I' => q σ H' T' I'
        | ok k ρ2 =>
          rw [z2] at q
          intro kv H2 T2 S2 I2 r2 g2 nw2 p2 f2
          dsimp only at q
          cases k with
          | int k =>
            obtain ⟨rfl, _⟩ := rep_int r2
            cases z9 : (ρ2[i]?).join with
            | none => rw [z9] at q; exact q.elim
            | some d2 =>
              rw [z9] at q
              cases d2 with
              | lst d2 =>
                dsimp only at q
                obtain ⟨p', xs, S', ep, hT, h1, h3⟩ := I2.top i hO _ _ hv0 z9
                cases ep
                cases z3 : ixN d2.length k with
                | none => rw [z3] at q; exact q.elim
                | some j =>
                  rw [z3] at q
                  dsimp only at q
                  by_cases im1 : imms d2 = true
                  · rw [if_pos im1] at q
                    have e0 := h3.im im1
                    subst e0
                    have tk : Tk H2 (upd H2 p (.lst (xs.set j v))) := fun a us h => by rw [upd_ne (fun z => not_tup h1 us (by rw [← z]; exact .inl h))]; exact h
                    have rr : Reps c.K (upd H2 p (.lst (xs.set j v))) (xs.set j v) (d2.set j d) [] := Reps.set ((r1.tk g2.tk).tk tk) j (h3.tk tk)
                    obtain ⟨T', I'⟩ := I2.mut (d' := .lst (d2.set j d)) (S' := []) (o := .lst (xs.set j v)) hO hv0 hT (not_tup h1) (.lst (.inl upd_same) rr) ⟨p, _, _, rfl, rfl, upd_same, rr⟩ (fun u w z => by cases z)
                      List.nodup_nil (fun h => by cases h) (fun a ha => by cases ha) (fun _ => ⟨_, rfl, imms_set im im1⟩)
                    exact ⟨p, xs, k, j, rfl, rfl, h1, by rw [h3.length]; exact z3, q σ _ T' I'⟩
                  · rw [if_neg im1] at q; exact q.elim
              | _ => exact q.elim
          | _ => exact q.elim
      | _ => exact q.elim)
end
end Ol
namespace Ol
open PySem PySem.Spec PyProof.Rows L2
/-! ## a table of the top with text keys -/
def TabK (K : PySem.W.Frag) (w : World) (a : Addr) (kvs : List (Str × D)) : Prop :=
  ∃ es n, KDict K w a es n ∧ ∀ z : Str, ∃ r, PySem.W.nsIn K a z = some r ∧ match kvs.lookup z with
    | none => r = none
    | some d => flatD d = true ∧ ∃ u, r = some u ∧ RelV (toF d) u
def kvsB (K : PySem.W.Frag) (a : Addr) (kvs : List (Str × D)) : Bool := kvs.all fun q => flatD q.2 && (match PySem.W.nsIn K a q.1 with
  | some (some u) => He.relB (toF q.2) u
  | _ => false)
theorem lookup_memS {z : Str} {d : D} : ∀ {l : List (Str × D)}, l.lookup z = some d → (z, d) ∈ l
  | [], h => by cases h
  | (k, e) :: r, h => by
    rw [List.lookup_cons] at h
    by_cases hk : (z == k) = true
    · rw [hk] at h
      cases h
      rw [eq_of_beq hk]
      exact List.mem_cons_self
    · rw [Bool.not_eq_true] at hk
      rw [hk] at h
      exact List.mem_cons_of_mem _ (lookup_memS h)
theorem lookup_noneS {z : Str} : ∀ {l : List (Str × D)}, l.lookup z = none → z ∉ l.map (·.1)
  | [], _ => by simp
  | (k, e) :: r, h => by
    rw [List.lookup_cons] at h
    by_cases hk : (z == k) = true
    · rw [hk] at h
      cases h
    · rw [Bool.not_eq_true] at hk
      rw [hk] at h
      intro m
      rcases List.mem_cons.mp m with m | m
      · rw [m] at hk
        simp at hk
      · exact lookup_noneS h m
theorem keys_find {P : Params} {z : Str} : ∀ {l : List DictEntry} {ks : List Str}, l.map He.keyOf = He.keysIn P ks → z ∉ ks → l.find? (fun e => e.key.isStr z) = none ∧ (l.any fun e => e.refKey) = false
  | [], _, _, _ => ⟨rfl, rfl⟩
  | e :: r, [], h, _ => by cases h
  | e :: r, k :: ks, h, hz => by
    have h1 : He.keyOf e :: r.map He.keyOf = some (k, PyData.keyHash P k) :: He.keysIn P ks := h
    injection h1 with h2 h3
    obtain ⟨a, b⟩ := keys_find (z := z) h3 fun m => hz (List.mem_cons_of_mem _ m)
    have : e.key.isStr z = false ∧ e.refKey = false := by
      unfold He.keyOf at h2
      split at h2
      · rename_i x t q
        have h4 := Option.some.inj h2
        obtain ⟨h5, h6⟩ := Prod.mk.inj h4
        constructor
        · rw [q, PySem.W.isStr_of]
          have : x ≠ z := fun m => hz (by rw [← m, h5]; exact List.mem_cons_self)
          cases c : Value.isStrOf z (.str x t) with
          | false => rfl
          | true =>
            have e1 : Value.isStrOf x (.str x t) = true := by simp [Value.isStrOf]
            exact absurd (Value.isStrOf_inj _ x z e1 c) this
        · obtain ⟨hs, ky, vl⟩ := e
          subst q
          rfl
      · cases h2
    rw [List.find?_cons, this.1, List.any_cons, this.2]
    exact ⟨a, b⟩
theorem tabK_of {K : PySem.W.Frag} {w : World} {a : Addr} {kvs : List (Str × D)} (h : He.dicW K a = some (He.keysIn w.params (kvs.map (·.1)))) (hv : kvsB K a kvs = true) : TabK K w a kvs := by
  obtain ⟨es, n, D⟩ := He.dicW_ok h
  refine ⟨es, n, D, fun z => ?_⟩
  cases e : kvs.lookup z with
  | some d =>
    have m := List.all_eq_true.mp hv _ (lookup_memS e)
    rw [Bool.and_eq_true] at m
    obtain ⟨f, m⟩ := m
    dsimp only at m
    cases q : PySem.W.nsIn K a z with
    | none => rw [q] at m; cases m
    | some r =>
      rw [q] at m
      cases r with
      | none => cases m
      | some u => exact ⟨_, rfl, f, u, rfl, He.relB_ok m⟩
  | none =>
    refine ⟨none, ?_, rfl⟩
    have hk : es.toList.map He.keyOf = He.keysIn w.params (kvs.map (·.1)) := by
      unfold He.dicW at h
      rw [D.at_] at h
      dsimp only at h
      rw [D.low] at h
      exact Option.some.inj h
    obtain ⟨h1, h2⟩ := keys_find hk (lookup_noneS e)
    unfold PySem.W.nsIn
    rw [D.at_]
    dsimp only
    rw [h1]
    dsimp only
    rw [h2]
    rfl
def tabGet (kvs : List (Str × D)) : D → Option D
  | .str z => kvs.lookup z
  | _ => none
def tabIn (kvs : List (Str × D)) : D → Option D
  | .str z => some (.bl (kvs.lookup z).isSome)
  | _ => none
def tabNin (kvs : List (Str × D)) : D → Option D
  | .str z => some (.bl (!(kvs.lookup z).isSome))
  | _ => none
def rInTab (a : Addr) (kvs : List (Str × D)) (f : Bool → Bool) : R2 := fun x y H Q => ∃ z, x = .str z ∧ y = .ref a ∧ Q (.bl (f (kvs.lookup z).isSome)) H
theorem TabK.some_eq {K : PySem.W.Frag} {w : World} {a : Addr} {kvs : List (Str × D)} {z : Str} {r : Option Value} (h : match kvs.lookup z with
    | none => r = none
    | some d => flatD d = true ∧ ∃ u, r = some u ∧ RelV (toF d) u) : r.isSome = (kvs.lookup z).isSome := by
  cases e : kvs.lookup z with
  | none => rw [e] at h; rw [show r = none from h]; rfl
  | some d => rw [e] at h; obtain ⟨_, u, h, _⟩ := h; rw [h]; rfl
section
variable {X : Cx} {a : Addr} {kvs : List (Str × D)}
theorem op_in_tab {K : PySem.W.Frag} {w : World} (h : TabK K w a kvs) (hK : X.K = K := by rfl) (hw : X.w = w := by rfl) : OpR X (compareOp .In) (rInTab a kvs id) := by
  subst hK hw
  obtain ⟨es, n, D, t⟩ := h
  intro pins s σ H x y v u Q I rx ry q
  obtain ⟨z, rfl, rfl, q⟩ := q
  obtain ⟨r, e1, e2⟩ := t z
  exact op_in_kd D pins s σ H _ _ v u Q I rx ry ⟨z, r, rfl, rfl, e1, by rw [TabK.some_eq (K := X.K) (w := X.w) (a := a) e2]; exact q⟩
theorem op_nin_tab {K : PySem.W.Frag} {w : World} (h : TabK K w a kvs) (hK : X.K = K := by rfl) (hw : X.w = w := by rfl) : OpR X (compareOp .NotIn) (rInTab a kvs not) := by
  subst hK hw
  obtain ⟨es, n, D, t⟩ := h
  intro pins s σ H x y v u Q I rx ry q
  obtain ⟨z, rfl, rfl, q⟩ := q
  obtain ⟨r, e1, e2⟩ := t z
  exact op_notIn_kd D pins s σ H _ _ v u Q I rx ry ⟨z, r, rfl, rfl, e1, by rw [TabK.some_eq (K := X.K) (w := X.w) (a := a) e2]; exact q⟩
theorem ix_tab {K : PySem.W.Frag} {w : World} (hK : X.K = K := by rfl) (hw : X.w = w := by rfl) : IxR X (rIxD K w) := by
  subst hK hw
  exact ix_kdict
end
section
variable {c : C0} {W : WX} {te : TE} {e : Env → Res D} {pu fr : Bool} {w : World} {a : Addr} {kvs : List (Str × D)}
theorem flat_rep {K : PySem.W.Frag} {H : Hp} : ∀ {d : D}, flatD d = true → Rep K H (toF d) d []
  | .non, _ => .non
  | .bl _, _ => .bl _
  | .int _, _ => .int _
  | .str _, _ => .str _
theorem uns_tabGet (h : TabK c.K w a kvs) : UnS c.K (fun y H Q => rIxD c.K w (.ref a) y H Q) (tabGet kvs) true := fun H x d z S Q r e q => by
  unfold tabGet at e
  split at e
  · rename_i y
    obtain ⟨rfl, rfl⟩ := rep_str r
    obtain ⟨es, n, D, t⟩ := h
    obtain ⟨r0, e1, e2⟩ := t y
    rw [e] at e2
    obtain ⟨f, u, rfl, ru⟩ := e2
    exact ⟨a, y, toF z, rfl, rfl, ⟨es, n, u, D.at_, D.lit, e1, ru⟩, q _ H [] (flat_rep f) (Same.refl _) fun _ => ⟨Nw.nil, Top.imm (by cases z <;> first | rfl | cases f)⟩⟩
  · cases e
theorem se_ixTab (h : TabK c.K w a kvs) (he : SE c W te e pu fr) : SE c W (tOp (rIxD c.K w) (tC (.ref a)) te) (eUn (tabGet kvs) e) pu true := se_one (R := fun y H Q => rIxD c.K w (.ref a) y H Q) (uns_tabGet h) he
theorem uns_tabIn {K : PySem.W.Frag} : UnS K (fun x H Q => rInTab a kvs id x (.ref a) H Q) (tabIn kvs) true := fun H x d z S Q r e q => by
  unfold tabIn at e
  split at e
  · rename_i y
    obtain ⟨rfl, rfl⟩ := rep_str r
    cases e
    exact ⟨y, rfl, rfl, q _ H [] (.bl _) (Same.refl _) fun _ => ⟨Nw.nil, trivial⟩⟩
  · cases e
theorem uns_tabNin {K : PySem.W.Frag} : UnS K (fun x H Q => rInTab a kvs not x (.ref a) H Q) (tabNin kvs) true := fun H x d z S Q r e q => by
  unfold tabNin at e
  split at e
  · rename_i y
    obtain ⟨rfl, rfl⟩ := rep_str r
    cases e
    exact ⟨y, rfl, rfl, q _ H [] (.bl _) (Same.refl _) fun _ => ⟨Nw.nil, trivial⟩⟩
  · cases e
theorem se_inTab (he : SE c W te e pu fr) : SE c W (tOp (rInTab a kvs id) te (tC (.ref a))) (eUn (tabIn kvs) e) pu true := se_one (R := fun x H Q => rInTab a kvs id x (.ref a) H Q) uns_tabIn he
theorem se_ninTab (he : SE c W te e pu fr) : SE c W (tOp (rInTab a kvs not) te (tC (.ref a))) (eUn (tabNin kvs) e) pu true := se_one (R := fun x H Q => rInTab a kvs not x (.ref a) H Q) uns_tabNin he
end
/-! an item of a tuple of the top -/
theorem toF_reps {K : PySem.W.Frag} {H : Hp} : ∀ {ds : List D}, ds.all flatD = true → Reps K H (ds.map toF) ds []
  | [], _ => .nil
  | d :: ds, h => by
    rw [List.all_cons, Bool.and_eq_true] at h
    exact Reps.cons (S := []) (S2 := []) (flat_rep h.1) (toF_reps h.2)
theorem se_ixC {c : C0} {W : WX} {te : TE} {e : Env → Res D} {pu fr : Bool} {a : Addr} {xs : List V} {ds : List D} (h : ∀ H : Hp, SqT c.K H a xs) (he : SE c W te e pu fr) (hx : xs = ds.map toF := by rfl) (hf : ds.all flatD = true := by rfl) :
    SE c W (tOp (rIx c.K) (tC (.ref a)) te) (eUn (ixD (.tup ds)) e) pu true := se_one (R := fun y H Q => rIx c.K (.ref a) y H Q) (fun H x d z S Q r e q => by
  have e0 := e
  unfold ixD at e
  split at e
  · rename_i z'; cases z'
  · rename_i z'
    cases z'
    obtain ⟨rfl, rfl⟩ := rep_int r
    have h2 : Reps c.K H xs ds [] := by rw [hx]; exact toF_reps hf
    obtain ⟨v, T, hv, r⟩ := at_reps h2 e
    have im : imm z = true := by
      have : flatD z = true := by
        unfold atI at e
        obtain ⟨j, _, e⟩ := Option.bind_eq_some_iff.mp e
        exact List.all_eq_true.mp hf _ (List.mem_of_getElem? e)
      cases z <;> first | rfl | cases this
    have e1 := r.im im
    subst e1
    exact s_ixT (h H) hv (q v H [] r (Same.refl _) fun _ => ⟨Nw.nil, Top.imm im⟩)
  · rename_i z'; cases z'
  · cases e) he
end Ol
namespace Ol
open PySem PySem.Spec PyProof.Rows L2
/-! ## sorted: numbers, pairs of numbers -/
def leI (a b : Int) : Bool := decide (a ≤ b)
def leP (a b : Int × Int) : Bool := decide (a.1 < b.1 ∨ (a.1 = b.1 ∧ a.2 ≤ b.2))
theorem leP_iff {a b : Int × Int} : leP a b = true ↔ (a.1 < b.1 ∨ (a.1 = b.1 ∧ a.2 ≤ b.2)) := decide_eq_true_iff
theorem leP_tr (a b c : Int × Int) (h : leP a b = true) (h2 : leP b c = true) : leP a c = true := by
  rw [leP_iff] at *
  omega
theorem leP_to (a b : Int × Int) : (leP a b || leP b a) = true := by
  rw [Bool.or_eq_true, leP_iff, leP_iff]
  omega
theorem leP_an {a b : Int × Int} (h : leP a b = true) (h2 : leP b a = true) : a = b := by
  rw [leP_iff] at *
  obtain ⟨a1, a2⟩ := a
  obtain ⟨b1, b2⟩ := b
  simp only at *
  have : a1 = b1 ∧ a2 = b2 := by omega
  rw [this.1, this.2]
def sortI (ns : List Int) : List Int := ns.mergeSort leI
def sortP (ps : List (Int × Int)) : List (Int × Int) := ps.mergeSort leP
theorem sortP_eq {l m : List (Int × Int)} (p : l.Perm m) (h : l.Pairwise fun a b => leP a b = true) : l = sortP m :=
  List.Perm.eq_of_pairwise (fun _ _ _ _ => leP_an) h (List.pairwise_mergeSort leP_tr leP_to m) (p.trans (List.mergeSort_perm m leP).symm)
theorem sortI_eq {l m : List Int} (p : l.Perm m) (h : l.Pairwise (· ≤ ·)) : l = sortI m :=
  List.Perm.eq_of_pairwise (le := (· ≤ ·)) (fun _ _ _ _ a b => Int.le_antisymm a b) h ((List.pairwise_mergeSort (le := leI) (fun a b c h h2 => by simp only [leI, decide_eq_true_eq] at *; omega) (fun a b => by simp only [leI, Bool.or_eq_true, decide_eq_true_eq]; omega) m).imp fun h => by simpa only [leI, decide_eq_true_eq] using h)
    (p.trans (List.mergeSort_perm m leI).symm)
def prD (p : Int × Int) : D := .tup [.int p.1, .int p.2]
def pairsOf : List D → Option (List (Int × Int))
  | [] => some []
  | .tup [.int i, .int j] :: r => (pairsOf r).map ((i, j) :: ·)
  | _ => none
@[simp] theorem pairsOf_nil : pairsOf [] = some [] := id rfl
@[simp] theorem pairsOf_cons {i j : Int} {r : List D} : pairsOf (.tup [.int i, .int j] :: r) = (pairsOf r).map ((i, j) :: ·) := id rfl
@[simp] theorem pairsOf_map : ∀ {ps : List (Int × Int)}, pairsOf (ps.map prD) = some ps
  | [] => rfl
  | (i, j) :: ps => by rw [List.map_cons, prD, pairsOf_cons, pairsOf_map]; rfl
theorem pairsOf_eq {ds : List D} {ps : List (Int × Int)} (h : pairsOf ds = some ps) : ds = ps.map prD := by
  induction ds generalizing ps with
  | nil => cases h; rfl
  | cons d ds ih =>
    unfold pairsOf at h
    split at h
    · rename_i z
      cases z
    · rename_i i j r z
      cases z
      cases e : pairsOf ds with
      | none => rw [e] at h; cases h
      | some qs =>
        rw [e] at h
        cases h
        rw [ih e]
        rfl
    · cases h
def kP (H : Hp) : V → Int × Int
  | .ref t => (match H t with
    | some (.tup [.int i, .int j]) => (i, j)
    | _ => (0, 0))
  | _ => (0, 0)
theorem rep_pair {K : PySem.W.Frag} {H : Hp} {v : V} {i j : Int} {S : List Addr} (h : Rep K H v (.tup [.int i, .int j]) S) : ∃ t, v = .ref t ∧ H t = some (.tup [.int i, .int j]) ∧ S = [] := by
  obtain ⟨t, xs, rfl, h1, h2⟩ := rep_tupR h
  have e0 := h2.im (by simp [imms, imm])
  obtain ⟨v, u, S1, S2, rfl, r1, r2⟩ := reps2 h2
  obtain ⟨rfl, _⟩ := rep_int r1
  obtain ⟨rfl, _⟩ := rep_int r2
  rcases h1 with h1 | ⟨h1, _⟩
  · exact ⟨t, rfl, h1, e0⟩
  · simp [constV] at h1
theorem reps_pairs {K : PySem.W.Frag} {H : Hp} : ∀ {ps : List (Int × Int)} {vs : List V} {S : List Addr}, Reps K H vs (ps.map prD) S → (∀ x ∈ vs, ∃ t, x = .ref t ∧ H t = some (.tup [.int (kP H x).1, .int (kP H x).2])) ∧ vs.map (kP H) = ps
  | [], _, _, h => by
    cases h
    exact ⟨fun _ z => (by cases z), rfl⟩
  | (i, j) :: ps, _, _, h => by
    cases h with
    | cons a b =>
      obtain ⟨t, rfl, ht, _⟩ := rep_pair a
      obtain ⟨h1, h2⟩ := reps_pairs b
      have e : kP H (.ref t) = (i, j) := by
        unfold kP
        dsimp only
        rw [ht]
      refine ⟨fun x hx => ?_, by rw [List.map_cons, e, h2]⟩
      rcases List.mem_cons.mp hx with rfl | hx
      · exact ⟨t, rfl, by rw [e]; exact ht⟩
      · exact h1 x hx
theorem pairs_reps {K : PySem.W.Frag} {H H' : Hp} (s : Same H H') : ∀ {ys : List V}, (∀ x ∈ ys, ∃ t, x = .ref t ∧ H t = some (.tup [.int (kP H x).1, .int (kP H x).2])) → Reps K H' ys ((ys.map (kP H)).map prD) []
  | [], _ => .nil
  | y :: ys, h => by
    obtain ⟨t, e, ht⟩ := h y List.mem_cons_self
    have r : Rep K H' y (prD (kP H y)) [] := by
      have : Rep K H' (.ref t) (prD (kP H y)) [] := .tup (.inl (s _ _ ht)) (Reps.cons (S := []) (S2 := []) (.int _) (Reps.cons (S := []) (S2 := []) (.int _) .nil))
      rw [e]
      rw [e] at this
      exact this
    exact Reps.cons (S := []) (S2 := []) r (pairs_reps s fun x hx => h x (List.mem_cons_of_mem _ hx))
def sortedD : List D → Option D
  | [.lst xs] => (match intsOf xs with
    | some ns => some (.lst ((sortI ns).map D.int))
    | none => (match pairsOf xs with
      | some ps => some (.lst ((sortP ps).map prD))
      | none => none))
  | _ => none
def rSortedU (K : PySem.W.Frag) : List V → Hp → VK → Prop := fun vs H Q => rSortedI K vs H Q ∨ rSortedPO K vs H Q
theorem call_sortedU {X : Cx} {K : PySem.W.Frag} (hK : X.K = K := by rfl) : CallR X (.builtin "sorted") (rSortedU K) := by
  subst hK
  intro pins s σ H xs us Q I r h
  rcases h with h | h
  · exact cr_sortedI pins s σ H xs us Q I r h
  · exact cr_sortedPO pins s σ H xs us Q I r h
theorem calls_sorted {K : PySem.W.Frag} : CallS K (rSortedU K) sortedD true := fun H vs ds z S Q r e q => by
  unfold sortedD at e
  split at e
  · rename_i xs
    obtain ⟨v, rfl, h⟩ := reps1 r
    obtain ⟨a, ys, S1, rfl, h1, h2, _⟩ := rep_lst h
    have out : ∀ {zs : List V} {es : List D}, (∀ H', Same H H' → Reps K H' zs es []) → z = .lst es → ∀ p, H p = none → Q (.ref p) (upd H p (.lst zs)) := fun {zs es} hr ez p hp => by
      subst ez
      have s := Same.new (o := HO.lst zs) hp
      have rr := hr _ s
      exact q _ _ [p] (.lst (.inl upd_same) rr) s fun _ => ⟨⟨by simp, fun b hb => (by simp at hb; subst hb; exact hp), fun b hb => (by simp at hb; subst hb; intro o u k; rw [upd_same] at k; cases k)⟩, p, _, [], rfl, rfl, upd_same, rr⟩
    cases z2 : intsOf xs with
    | some ns =>
      rw [z2] at e
      cases e
      rw [intsOf_eq z2] at h2
      rw [h2.intsOf] at h1
      refine .inl ⟨a, ns, rfl, h1, fun ns' p hp hs hn => ?_⟩
      have e2 := sortI_eq hp hs
      exact out (es := (sortI ns).map D.int) (fun H' _ => by rw [e2]; exact reps_ints _) rfl p hn
    | none =>
      rw [z2] at e
      dsimp only at e
      cases z3 : pairsOf xs with
      | none => rw [z3] at e; cases e
      | some ps =>
        rw [z3] at e
        cases e
        rw [pairsOf_eq z3] at h2
        obtain ⟨g1, g2⟩ := reps_pairs h2
        refine .inr ⟨a, ys, kP H, rfl, h1, g1, fun zs p hs hp hn => ?_⟩
        have e2 : zs.map (kP H) = sortP ps := by
          refine sortP_eq (by rw [← g2]; exact hp.perm.map _) (List.pairwise_map.mpr (List.Pairwise.imp (fun {x y} h => ?_) hs))
          have h := SrtO.lexB_no.mp h
          rw [leP_iff]
          omega
        exact out (es := (sortP ps).map prD) (fun H' s => by rw [← e2]; exact pairs_reps s fun x hx => g1 x (hp.perm.mem_iff.mp hx)) rfl p hn
  · cases e
end Ol
namespace Ol
open PySem PySem.Spec PyProof.Rows L2
/-! ## a loop over an own list within one over the same -/
/-- a statement within a loop over the list at slot i, which stays -/
def SSP (c : C0) (i : Nat) (p : Addr) (ds : List D) (W : WX) (t : TS) (s : Env → Out) : Prop :=
  ∀ (H0 : Hp) (Wd Al : Addr → Prop) (T : Nat → List Addr) (σ : L2.St) (H : Hp) (ρ : Env) (nx : L2.St → Hp → Prop) (rt : VK) (bk ct : L2.St → Hp → Prop) (xs : List V), H0 p = some (.lst xs) → Reps c.K H0 xs ds [] → ¬ Wd p → ¬ Al p → SIT (c.pin i p) H0 Wd Al T σ H ρ → Good (c.pin i p) W H0 Wd Al nx rt bk ct (s ρ) → t ⟨nx, rt, bk, ct⟩ σ H
theorem sp_of {c : C0} {i : Nat} {p : Addr} {ds : List D} {W : WX} {t : TS} {s : Env → Out} (h : SS (c.pin i p) W t s) : SSP c i p ds W t s := fun H0 Wd Al T σ H ρ nx rt bk ct xs _ _ _ _ I q => h H0 Wd Al T σ H ρ nx rt bk ct I q
def sForOG (i : Nat) (g : D → Env → Option Env) (body : List D → Env → Out) : Env → Out := fun ρ => match (ρ[i]?).join with
  | some (.lst ds) => if imms ds = true then (match forL g (body ds) ds (ρ.set i none) with
    | .nx ρ' => .nx (ρ'.set i (some (.lst ds)))
    | .ret d ρ' => .ret d (ρ'.set i (some (.lst ds)))
    | .exc x ρ' => .exc x (ρ'.set i (some (.lst ds)))
    | _ => .bad) else .bad
  | _ => .bad
theorem ss_forOG {c : C0} {W : WX} {tg : TG} {g : D → Env → Option Env} {sl : List Nat} {tb : TS} {body : List D → Env → Out} (i : Nat) (hg : ∀ p, SG (c.pin i p) tg g sl) (hb : ∀ p ds, SSP c i p ds W tb (body ds)) (hO : c.O i = 1 := by rfl) (hi : c.ios.contains i = false := by rfl) : SS c W (tFor (iAny c.K (tVar i)) tg tb) (sForOG i g body) := fun H0 Wd Al T σ H ρ nx rt bk ct I q => by
  have hio : i ∉ c.ios := fun z => by
    rw [List.contains_iff_mem.mpr z] at hi
    cases hi
  unfold sForOG at q
  cases z : (ρ[i]?).join with
  | none => rw [z] at q; exact q.elim
  | some d =>
    rw [z] at q
    cases d with
    | lst ds =>
      dsimp only at q
      by_cases im : imms ds = true
      · rw [if_pos im] at q
        obtain ⟨v, hv, _⟩ := I.slot z
        obtain ⟨p, xs, S', rfl, hT, h1, h2⟩ := I.top i (by omega) _ _ hv z
        have e0 := h2.im im
        subst e0
        refine ⟨.ref p, hv, .inl ⟨p, rfl, ⟨xs, .inl (.inl h1)⟩, ?_⟩⟩
        -- the slot forgotten, the rest by a base of its own
        obtain ⟨T1, I1, k1, k2⟩ := I.drop i (fun z => hio (I.lk _ z).1.1)
        have hl : i < ρ.length := by rw [← I.len]; exact (List.getElem?_eq_some_iff.mp hv).1
        have k2 := k2 hl
        have pT1 : ∀ k, p ∉ T1 k := fun k h => by
          by_cases e : k = i
          · rw [e, k2] at h; cases h
          · rw [k1 k e] at h
            exact I.dis k i (by omega) e p h (by rw [hT]; exact List.mem_cons_self)
        have Ib := (I1.rebaseG (fun a => a ≠ p ∧ (H0 a = none ∨ Al a)) fun k kl a ha => ⟨fun e => pT1 k (by rw [← e]; exact ha), I1.all k kl a ha⟩).pin (i := i) (p := p) hv
        have wo : ∀ a, Wo c T1 a → H0 a = none ∨ Wd a := fun a ⟨j, hj, ha⟩ => (I1.own j hj a ha).1
        have pw : ¬ Wo c T1 p := fun ⟨j, _, h⟩ => pT1 j h
        -- the way back
        have back : ∀ {T2 : Nat → List Addr} {σ' : L2.St} {H' : Hp} {ρ' : Env}, SIT (c.pin i p) H (Wo c T1) (fun a => a ≠ p ∧ (H0 a = none ∨ Al a)) T2 σ' H' ρ' → ∃ T3, SIT c H0 Wd Al T3 σ' H' (ρ'.set i (some (.lst ds))) := by
          intro T2 σ' H' ρ' J
          obtain ⟨J1, hs⟩ := J.unpin hio (fun z => hio (I.lk _ z).1.1)
          have hp' : H' p = some (.lst xs) := J.frm.keep p _ pw h1
          have pT2 : ∀ k, p ∉ T2 k := fun k h => by
            by_cases kl : k ∈ c.lks
            · rw [(J1.lk k kl).2, ← (I1.lk k kl).2] at h
              exact pT1 k h
            · rcases J1.all k kl p h with z | z
              · rw [h1] at z; cases z
              · exact z.1 rfl
          have J2 := SIT.unbaseG I.frm wo (fun a h => h.2) J1
          have rr : Reps c.K H' xs ds [] := h2.tk J.frm.tup
          obtain ⟨T3, I3, _, _⟩ := J2.putR (i := i) (v := .ref p) (d := .lst ds) (S := [p]) (.lst (.inl hp') rr)
            (fun _ => ⟨⟨⟨by simp, fun a ha => by
              have e : a = p := by simpa using ha
              subst e
              refine ⟨I.loc i hO a (by rw [hT]; exact List.mem_cons_self), (I.own i (by omega) a (by rw [hT]; exact List.mem_cons_self)).1, fun o u k => by rw [hp'] at k; cases k⟩⟩, fun k a ha => by
              have e : a = p := by simpa using ha
              subst e
              exact pT2 k⟩, p, xs, [], rfl, rfl, hp', rr⟩)
            (fun j _ a ha => by
              have e : a = p := by simpa using ha
              subst e
              exact pT2 j) (fun a ha => by
              have e : a = p := by simpa using ha
              subst e
              exact I.all i (fun z => hio (I.lk _ z).1.1) a (by rw [hT]; exact List.mem_cons_self)) (by omega) hi
          refine ⟨T3, ?_⟩
          have es : σ'.set i (some (.ref p)) = σ' := by
            apply List.ext_getElem?
            intro k
            by_cases e : k = i
            · subst e
              rw [hs, List.getElem?_set_self (List.getElem?_eq_some_iff.mp hs).1]
            · rw [List.getElem?_set_ne (Ne.symm e)]
          rw [es] at I3
          exact I3
        have goodB : Good (c.pin i p) W H (Wo c T1) (fun a => a ≠ p ∧ (H0 a = none ∨ Al a)) nx rt (fun _ _ => False) (fun _ _ => False) (forL g (body ds) ds (ρ.set i none)) := by
          cases zf : forL g (body ds) ds (ρ.set i none) with
          | nx ρ' =>
            rw [zf] at q
            exact fun σ' H' T' J => by
              obtain ⟨T3, I3⟩ := back J
              exact q σ' H' T3 I3
          | ret d ρ' =>
            rw [zf] at q
            exact fun v σ' H' T' S J r f => by
              obtain ⟨T3, I3⟩ := back J
              exact q v σ' H' T3 S I3 r f
          | exc x ρ' =>
            rw [zf] at q
            exact fun σ' H' T' J => by
              obtain ⟨T3, I3⟩ := back J
              exact q σ' H' T3 I3
          | brk ρ' => rw [zf] at q; exact q.elim
          | ct ρ' => rw [zf] at q; exact q.elim
          | bad => rw [zf] at q; exact q.elim
        -- turn by turn
        refine ⟨fun n m σ H' => m = ds.length - n ∧ n ≤ ds.length ∧ ∃ T2 ρ2, SIT (c.pin i p) H (Wo c T1) (fun a => a ≠ p ∧ (H0 a = none ∨ Al a)) T2 σ H' ρ2 ∧ Good (c.pin i p) W H (Wo c T1) (fun a => a ≠ p ∧ (H0 a = none ∨ Al a)) nx rt (fun _ _ => False) (fun _ _ => False) (forL g (body ds) (ds.drop n) ρ2),
          ⟨_, rfl, Nat.zero_le _, T1, _, Ib, goodB⟩, ?_⟩
        rintro n m σ2 H2 ⟨rfl, hle, T2, ρ2, I2, gd⟩
        have hp2 : H2 p = some (.lst xs) := I2.frm.keep p _ pw h1
        have rr2 : Reps c.K H2 xs ds [] := h2.tk I2.frm.tup
        cases e : ds[n]? with
        | none =>
          refine .inl ⟨⟨xs, .inl (.inl hp2), by rw [rr2.length]; exact List.getElem?_eq_none_iff.mp e⟩, ?_⟩
          rw [List.drop_eq_nil_of_le (List.getElem?_eq_none_iff.mp e)] at gd
          exact gd σ2 H2 T2 I2
        | some d =>
          obtain ⟨hlt, hd⟩ := List.getElem?_eq_some_iff.mp e
          obtain ⟨v, U, hv2, rv, hU⟩ := rr2.get e
          have eU : U = [] := List.eq_nil_iff_forall_not_mem.mpr fun a ha => by cases hU a ha
          subst eU
          refine .inr ⟨⟨xs, v, .inl (.inl hp2), hv2⟩, fun σ H' => ∃ T2 ρ2, SIT (c.pin i p) H (Wo c T1) (fun a => a ≠ p ∧ (H0 a = none ∨ Al a)) T2 σ H' ρ2 ∧ Good (c.pin i p) W H (Wo c T1) (fun a => a ≠ p ∧ (H0 a = none ∨ Al a)) nx rt (fun _ _ => False) (fun _ _ => False) (forL g (body ds) (ds.drop (n + 1)) ρ2),
            fun σ' H' nn => ⟨ds.length - (n + 1), by omega, rfl, hlt, nn⟩, fun x H3 y => ?_⟩
          obtain ⟨rfl, y2⟩ := y
          have ex := y2 xs (.inl (.inl hp2))
          rw [hv2] at ex
          cases ex
          rw [List.drop_eq_getElem_cons hlt, hd] at gd
          unfold forL at gd
          cases z2 : g d ρ2 with
          | none => rw [z2] at gd; exact gd.elim
          | some ρ3 =>
            rw [z2] at gd
            dsimp only at gd
            refine hg p H (Wo c T1) _ T2 σ2 H3 ρ2 ρ3 d v [] _ I2 rv (fun _ _ _ z => by cases z) (fun _ z => by cases z) z2 fun σ4 T4 I4 _ _ => ?_
            refine hb p ds H (Wo c T1) _ T4 σ4 H3 ρ3 _ _ _ _ xs h1 h2 pw (fun z => z.1 rfl) I4 ?_
            cases z5 : body ds ρ3 with
            | nx ρ5 => rw [z5] at gd; exact fun σ' H' T' I' => ⟨T', ρ5, I', gd⟩
            | ct ρ5 => rw [z5] at gd; exact fun σ' H' T' I' => ⟨T', ρ5, I', gd⟩
            | brk ρ5 => rw [z5] at gd; exact gd
            | ret d5 ρ5 => rw [z5] at gd; exact gd
            | exc x ρ5 => rw [z5] at gd; exact gd
            | bad => rw [z5] at gd; exact gd
      · rw [if_neg im] at q; exact q.elim
    | _ => exact q.elim

/-- the loop within -/
def sForP (g : D → Env → Option Env) (body : Env → Out) (ds : List D) : Env → Out := fun ρ => forL g body ds ρ
theorem sp_for {c : C0} {i : Nat} {p : Addr} {ds : List D} {W : WX} {tg : TG} {g : D → Env → Option Env} {sl : List Nat} {tb : TS} {body : Env → Out} (hg : SG (c.pin i p) tg g sl) (hb : SS (c.pin i p) W tb body) : SSP c i p ds W (tFor (iAny c.K (tVar i)) tg tb) (sForP g body ds) := fun H0 Wd Al T σ H ρ nx rt bk ct xs h1 h2 pw pa I q => by
  have hs := I.io i List.mem_cons_self
  have hs : σ[i]? = some (some (.ref (if i = i then p else c.ioa i))) := hs
  rw [if_pos rfl] at hs
  have kp : ∀ {T2 σ2 H2 ρ2}, SIT (c.pin i p) H0 Wd Al T2 σ2 H2 ρ2 → H2 p = some (.lst xs) ∧ Reps c.K H2 xs ds [] := fun J => ⟨J.frm.keep p _ pw h1, h2.tk J.frm.tup⟩
  refine ⟨.ref p, hs, .inl ⟨p, rfl, ⟨xs, .inl (.inl (kp I).1)⟩, ?_⟩⟩
  refine ⟨fun n m σ H' => m = ds.length - n ∧ n ≤ ds.length ∧ ∃ T2 ρ2, SIT (c.pin i p) H0 Wd Al T2 σ H' ρ2 ∧ Good (c.pin i p) W H0 Wd Al nx rt bk ct (forL g body (ds.drop n) ρ2), ⟨_, rfl, Nat.zero_le _, T, _, I, q⟩, ?_⟩
  rintro n m σ2 H2 ⟨rfl, hle, T2, ρ2, I2, gd⟩
  obtain ⟨hp2, rr2⟩ := kp I2
  cases e : ds[n]? with
  | none =>
    refine .inl ⟨⟨xs, .inl (.inl hp2), by rw [rr2.length]; exact List.getElem?_eq_none_iff.mp e⟩, ?_⟩
    rw [List.drop_eq_nil_of_le (List.getElem?_eq_none_iff.mp e)] at gd
    exact gd σ2 H2 T2 I2
  | some d =>
    obtain ⟨hlt, hd⟩ := List.getElem?_eq_some_iff.mp e
    obtain ⟨v, U, hv2, rv, hU⟩ := rr2.get e
    have eU : U = [] := List.eq_nil_iff_forall_not_mem.mpr fun a ha => by cases hU a ha
    subst eU
    refine .inr ⟨⟨xs, v, .inl (.inl hp2), hv2⟩, fun σ H' => ∃ T2 ρ2, SIT (c.pin i p) H0 Wd Al T2 σ H' ρ2 ∧ Good (c.pin i p) W H0 Wd Al nx rt bk ct (forL g body (ds.drop (n + 1)) ρ2),
      fun σ' H' nn => ⟨ds.length - (n + 1), by omega, rfl, hlt, nn⟩, fun x H3 y => ?_⟩
    obtain ⟨rfl, y2⟩ := y
    have ex := y2 xs (.inl (.inl hp2))
    rw [hv2] at ex
    cases ex
    rw [List.drop_eq_getElem_cons hlt, hd] at gd
    unfold forL at gd
    cases z2 : g d ρ2 with
    | none => rw [z2] at gd; exact gd.elim
    | some ρ3 =>
      rw [z2] at gd
      dsimp only at gd
      refine hg H0 Wd Al T2 σ2 H3 ρ2 ρ3 d v [] _ I2 rv (fun _ _ _ z => by cases z) (fun _ z => by cases z) z2 fun σ4 T4 I4 _ _ => ?_
      refine hb H0 Wd Al T4 σ4 H3 ρ3 _ _ _ _ I4 ?_
      cases z5 : body ρ3 with
      | nx ρ5 => rw [z5] at gd; exact fun σ' H' T' I' => ⟨T', ρ5, I', gd⟩
      | ct ρ5 => rw [z5] at gd; exact fun σ' H' T' I' => ⟨T', ρ5, I', gd⟩
      | brk ρ5 => rw [z5] at gd; exact gd
      | ret d5 ρ5 => rw [z5] at gd; exact gd
      | exc x ρ5 => rw [z5] at gd; exact gd
      | bad => rw [z5] at gd; exact gd
end Ol
namespace Ol
open PySem PySem.Spec PyProof.Rows L2
/-! ## try, except x as n, and what stands behind it: the exception may be kept -/
/-- isinstance of what is kept: one class, or a tuple of classes -/
def rIsEk (K : PySem.W.Frag) (cls : Value) (d : Option Addr) (a : Addr) : List V → Hp → VK → Prop := fun xs H Q => ∃ D, cls = .ref D ∧ d = none ∧ ExcC K D ∧ ((∃ (c : V) (cv : Value) (b : Bool), xs = [.ref a, c] ∧ (∀ u, RelV c u → u = cv) ∧ PySem.W.kitOne K (.ref D) cv = some b ∧ Q (.bl b) H) ∨
  ∃ (tp : Addr) (cs : List V) (cvs : List Value) (b : Bool), xs = [.ref a, .ref tp] ∧ H tp = some (.tup cs) ∧ (∀ us, Vals cs us → us = cvs) ∧ PySem.W.kitAny K (.ref D) cvs = some b ∧ Q (.bl b) H)
theorem call_isEk {X : Cx} {K : PySem.W.Frag} {a : Addr} {cls : Value} {d : Option Addr} {oe : Obj} (hp : (a, oe) ∈ X.pn) (hz : Zc cls d oe) (hf : ∃ vs, oe.data = .fields vs) (hK : X.K = K := by rfl) : CallR X (.builtin "isinstance") (rIsEk K cls d a) := by
  subst hK
  intro pins s σ H xs us Q I r h
  obtain ⟨D, rfl, rfl, c, h⟩ := h
  obtain ⟨here, _⟩ := I.pin (a, oe) (List.mem_append_left _ hp)
  obtain ⟨vs, hv⟩ := hf
  have at_ : PySem.W.InstAt s.heap a oe D none := by
    obtain ⟨oc, od, dt, sl⟩ := oe
    obtain ⟨z1, z2⟩ := hz
    simp only at z1 z2 hv
    subst z1 z2 hv
    exact ⟨here, rfl, rfl, trivial⟩
  have kx := PySem.W.handS_kitx_exc (x := a) (ox := oe) c.hg c.hk c.hs c.hd c.ha c.hn c.ht c.hm
  rcases h with ⟨cv, w, b, rfl, hc, e, q⟩ | ⟨tp, cs, ws, b, rfl, ht, hc, e, q⟩
  · obtain ⟨u1, u2, rfl, r1, r2⟩ := vals2 r
    cases r1
    have := hc _ r2
    subst this
    exact PySem.W.kia_one kx I.kIn at_ e (fun z => nomatch z) fun tk => ⟨.bl b, H, I.tok tk, rfl, q⟩
  · obtain ⟨u1, u2, rfl, r1, r2⟩ := vals2 r
    cases r1
    cases (show u2 = Value.ref tp from r2)
    obtain ⟨_, its, rv, ob, g1, g2, n, g3⟩ := (show ObjOk X.prog X.w H s.heap tp (.tup cs) from I.hok tp _ ht)
    have := hc _ rv
    subst this
    obtain ⟨oc, od, dt, sl⟩ := ob
    simp only at g2 g3
    subst g2 g3
    exact PySem.W.kia_tup kx I.kIn at_ g1 e (fun z => nomatch z) fun tk => ⟨.bl b, H, I.tok tk, rfl, q⟩
def NoR : List V → Hp → VK → Prop := fun _ _ _ => False
theorem call_no {X : Cx} : CallR X (.builtin "isinstance") NoR := fun _ _ _ _ _ _ _ _ _ h => h.elim
/-- what the clause wishes of an exception of the body: the suite, then the rest -/
def wAsK (K : PySem.W.Frag) (c : Value) (i : Nat) (ts : Addr → Value → Option Addr → TS) (tr : (List V → Hp → VK → Prop) → TS) (Wout : WX) (D : Ends) : WX := fun cls d σ H =>
  ∃ b, PySem.W.exmOne K cls c = some b ∧ (b = true → ∀ a, H a = none → ts a cls d { nx := fun σ' H' => tr (rIsEk K cls d a) D (σ'.set i none) H', rt := D.rt, bk := fun σ' H' => D.bk (σ'.set i none) H', ct := fun σ' H' => D.ct (σ'.set i none) H' } (σ.set i (some (.ref a))) H) ∧
    (b = false → Wout cls d σ H)
def tTryK (K : PySem.W.Frag) (c : Value) (i : Nat) (ts : Addr → Value → Option Addr → TS) (tr : (List V → Hp → VK → Prop) → TS) (Wout : WX) (tb : WX → TS) : TS := fun D σ H => tb (wAsK K c i ts tr Wout D) { D with nx := fun σ' H' => tr NoR D σ' H' } σ H
section
variable {X : Cx} {x n : Str} {c : Value} {i : Nat} {body su rest : List Stmt} {b1 : Stmt} {p1 p2 p3 : Pos} {tb : WX → TS} {ts : Addr → Value → Option Addr → TS} {tr : (List V → Hp → VK → Prop) → TS} {Wout : WX}
theorem pinsOut {Y : Cx} {pins : List (Addr × Obj)} {σ : L2.St} {H : Hp} {s : Shared} {a : Addr} {oe : Obj} {l : List (Addr × Obj)} (S : Inv (Y.suite a ((a, oe) :: (Y.pn ++ pins))) l σ H s) (ok : Y.Ok) : Inv Y ((a, oe) :: pins) σ H s :=
  ⟨ok, S.os, S.bare, S.base, S.loc, S.cell, S.free, S.freeC, fun q hq => S.pin q (List.mem_append_left _ (by
    rcases List.mem_append.mp hq with h | h
    · exact List.mem_cons_of_mem _ (List.mem_append_left _ h)
    · rcases List.mem_cons.mp h with h | h
      · rw [h]; exact List.mem_cons_self
      · exact List.mem_cons_of_mem _ (List.mem_append_right _ h))), S.hok, S.len⟩
theorem pinIn {Y : Cx} {pins : List (Addr × Obj)} {σ : L2.St} {H : Hp} {s : Shared} {q0 : Addr × Obj} (I : Inv Y (q0 :: pins) σ H s) : Inv (Y.tr (q0 :: Y.pn) Y.xe) pins σ H s :=
  ⟨I.ok.toTry _ _, I.os, I.bare, I.base, I.loc, I.cell, I.free, I.freeC, fun q hq => I.pin q (by
    rcases List.mem_append.mp hq with h | h
    · rcases List.mem_cons.mp h with h | h
      · exact List.mem_append_right _ (by rw [h]; exact List.mem_cons_self)
      · exact List.mem_append_left _ h
    · exact List.mem_append_right _ (List.mem_cons_of_mem _ h)), I.hok, I.len⟩
theorem pinOff {Y : Cx} {pins : List (Addr × Obj)} {σ : L2.St} {H : Hp} {s : Shared} {q0 : Addr × Obj} (I : Inv (Y.tr (q0 :: Y.pn) Y.xe) pins σ H s) (ok : Y.Ok) : Inv Y pins σ H s :=
  ⟨ok, I.os, I.bare, I.base, I.loc, I.cell, I.free, I.freeC, fun q hq => I.pin q (by
    rcases List.mem_append.mp hq with h | h
    · exact List.mem_append_left _ (List.mem_cons_of_mem _ h)
    · exact List.mem_append_right _ h), I.hok, I.len⟩
theorem spPinOff {Y : Cx} {pins : List (Addr × Obj)} {D : Ends} {q0 : Addr × Obj} {f : Flow} {s : Shared} (ok : Y.Ok) (h : SP (Y.tr (q0 :: Y.pn) Y.xe) pins D f s) : SP Y pins D f s := by
  cases f with
  | next => obtain ⟨σ, H, I, q⟩ := h; exact ⟨σ, H, pinOff I ok, q⟩
  | brk => obtain ⟨σ, H, I, q⟩ := h; exact ⟨σ, H, pinOff I ok, q⟩
  | cont => obtain ⟨σ, H, I, q⟩ := h; exact ⟨σ, H, pinOff I ok, q⟩
  | ret u => obtain ⟨v, σ, H, I, r, q⟩ := h; exact ⟨v, σ, H, pinOff I ok, r, q⟩
theorem pss_tryK (hs : X.stack = X.env :: X.outer) (hf : X.env.frame = some X.env.locals) (hN : X.N.Nodup) (hi : X.N[i]? = some n) (hln : X.env.kindOf n = some .local) (hc : Names X x c) (tk : Takes X Wout)
    (hb : ∀ (W : WX) (pn : List (Addr × Obj)) (xe : Value → Shared → Prop), Takes (X.tr pn xe) W → PassesOwn (model X.prog X.w) X.A X.env xe → PSs (X.tr pn xe) body (tb W))
    (hsu : ∀ (a : Addr) (oe : Obj) (cls : Value) (d : Option Addr) (pn : List (Addr × Obj)), Zc cls d oe → (∃ vs, oe.data = .fields vs) → PSs (X.suite a ((a, oe) :: pn)) (b1 :: su) (ts a cls d))
    (hr : ∀ (pn : List (Addr × Obj)) (R : List V → Hp → VK → Prop), CallR (X.tr pn X.xe) (.builtin "isinstance") R → PSs (X.tr pn X.xe) rest (tr R)) :
    PSs X (.Try body [.ExceptHandler (some (.Name x p1)) (some n) (b1 :: su) p2] [] [] p3 :: rest) (tTryK X.K c i ts tr Wout tb) := by
  refine ⟨fun pins s0 σ0 H0 D I0 h0 => wpAny_execs_cons ?_⟩
  have okX := I0.ok
  have frX : X.A.frames = some (X.env :: X.outer) := okX.frames.trans (congrArg some hs)
  have go : ∀ {s' : Shared} {σ' : L2.St} {H' : Hp}, Inv X pins σ' H' s' → tr NoR D σ' H' → wpAny (model X.prog X.w) X.A (execs rest X.env) (SP X pins D) X.xe s' := fun {s' σ' H'} I' q => (hr X.pn NoR call_no).run pins s' σ' H' D I' q
  have goK : ∀ {s' : Shared} {σ' : L2.St} {H' : Hp} {a : Addr} {oe : Obj} {cls : Value} {d : Option Addr}, Zc cls d oe → (∃ vs, oe.data = .fields vs) → Inv X ((a, oe) :: pins) σ' H' s' → tr (rIsEk X.K cls d a) D σ' H' → wpAny (model X.prog X.w) X.A (execs rest X.env) (SP X pins D) X.xe s' :=
    fun {s' σ' H' a oe cls d} z f I' q => thn ((hr ((a, oe) :: X.pn) _ (call_isEk List.mem_cons_self z f)).run pins s' σ' H' D (pinIn I') q) fun _ _ w => spPinOff okX w
  generalize hPost : (fun (f : Flow) (s' : Shared) => match f with
    | .next => wpAny (model X.prog X.w) X.A (execs rest X.env) (SP X pins D) X.xe s'
    | f => SP X pins D f s') = Post
  have pN : ∀ {s' : Shared}, wpAny (model X.prog X.w) X.A (execs rest X.env) (SP X pins D) X.xe s' → Post .next s' := fun {s'} w => by rw [← hPost]; exact w
  have pB : ∀ {s' : Shared}, SP X pins D .brk s' → Post .brk s' := fun {s'} w => by rw [← hPost]; exact w
  have pC : ∀ {s' : Shared}, SP X pins D .cont s' → Post .cont s' := fun {s'} w => by rw [← hPost]; exact w
  have pR : ∀ {s' : Shared} {u : Value}, SP X pins D (.ret u) s' → Post (.ret u) s' := fun {s' u} w => by rw [← hPost]; exact w
  refine wpAny_Try_except (wpAny_mono ((hb (wAsK X.K c i ts tr Wout D) (X.pn ++ pins)
    (fun ev t1 => wpAny (model X.prog X.w) X.A (noteFrame ev X.env) (fun _ t2 => wpAny (model X.prog X.w) X.A (setFlight ev none) (fun _ t3 => wpAny (model X.prog X.w) X.A (handleBy ev X.env [.ExceptHandler (some (.Name x p1)) (some n) (b1 :: su) p2]) Post X.xe t3) X.xe t2) X.xe t1)
    (fun u t0 fly => ?_) PassesOwn.looking).run [] s0 σ0 H0 _ (I0.toTry _) h0) (fun fl t9 end9 => ?_) (fun _ _ w => w))
  · obtain ⟨a, B, sI, pinsI, σI, HI, cls, d, rfl, JI, nb, up, sky, na, eos, bare, b, hb1, hyes, hno⟩ := fly
    have JX : Inv X pins σI HI sI := JI.ofTry okX
    have skyX : Sky B (X.env :: X.outer) a (Zc cls d) X.env.locals t0.heap := hs ▸ sky
    refine Sky.land Zc.steady frX hf skyX fun hp1 fly1 up1 => ?_
    have J1 : Inv X pins σI HI { t0 with heap := hp1 } := JX.landed nb fly1.1 (up.trans up1) eos bare
    obtain ⟨o1, v1, ho1, hz1, hd1⟩ := fly1.there
    have nofr : a ∉ frs (X.env :: X.outer) := fun hm => by
      obtain ⟨_, o2, e2, hnf⟩ := fly1.2.2.1.mem hm
      rw [ho1] at e2
      cases e2
      exact hnf _ hd1
    have nL : a ≠ X.env.locals := fun z => nofr (List.mem_filterMap.mpr ⟨X.env, List.mem_cons_self, z ▸ hf⟩)
    have nF : a ∉ X.fs := fun hm => by
      obtain ⟨ev, hev, q⟩ := List.mem_filterMap.mp hm
      exact nofr (List.mem_filterMap.mpr ⟨ev, List.mem_cons_of_mem _ hev, q⟩)
    have S1 := J1.suite ho1 hd1 na nL nF
    refine wpAny_handleBy_cons (codeAny_handlers_test ?_) (by intro q; cases q)
    have tyo : PySem.W.Looks (model X.prog X.w) hp1 (typeOf (.ref a)) cls := fun A Q E s k q => wpAny_typeOf_ref (k _ _ ho1) (by rw [hz1.1]; exact q)
    have mat := PySem.W.exm_one (M := model X.prog X.w) (J1.kIn) tyo hb1
    have ask : ∀ {Q E : Value → Shared → Prop}, Q c { t0 with heap := hp1 } → wpAny (model X.prog X.w) (X.A.mark (some (.ref a))) (eval (.Name x p1) X.env) Q E { t0 with heap := hp1 } := fun {Q E} q => by
      obtain ⟨g1, g2, g3 | ⟨g3, g4, g5⟩⟩ := hc
      · exact ld_glob (X := X.suite a ((a, o1) :: (X.pn ++ pins))) S1 g1 g3 q g2
      · exact ld_blt (X := X.suite a ((a, o1) :: (X.pn ++ pins))) S1 g1 g3 g4 q g5 g2
    refine ask (mat.here ?_)
    cases b with
    | false =>
      refine (show wpAny _ X.A (handleBy (.ref a) X.env []) Post X.xe _ from wpAny_handleBy_nil ?_)
      obtain ⟨_, _, _, oE, vE, tE, oT, vT, hE, zE, dE, hE1, _⟩ := id fly1
      unfold PySem.passOn
      refine wpAny_bind (wpAny_field hE dE hE1 ?_)
      rw [if_neg (show ¬ ((Value.ref tE == Value.none) = true) by simp)]
      have out : wpAny (model X.prog X.w) X.A (setFlight (.ref a) X.env.frame) (fun _ t4 => wpAny (model X.prog X.w) X.A (throw (.ref a) : Sem Flow) Post X.xe t4) X.xe { t0 with heap := hp1 } := by
        rw [hf]
        exact HandSPX.setFlight_upZ fly1 fun hp2 held up2 => wpAny_throw (tk _ _ ⟨a, B, sI, pins, σI, HI, cls, d, rfl, JX, nb, (up.trans up1).trans up2, .inr (.inr (hs ▸ held)), na, eos, bare, hno rfl⟩)
      first
        | exact wpAny_bind (wpAny_pure (wpAny_bind out))
        | exact wpAny_bind out
    | true =>
      refine codeAny_handlers_suite_as (HandSPX.lands_againZ fly1 fun hp2 fly2 up2 => ?_)
      have J2 : Inv X pins σI HI { t0 with heap := hp2 } := JX.landed nb fly2.1 ((up.trans up1).trans up2) eos bare
      obtain ⟨o2, v2, ho2, hz2, hd2⟩ := fly2.there
      have S2 := J2.suite ho2 hd2 na nL nF
      refine store_ok (X := X.suite a ((a, o2) :: (X.pn ++ pins))) (v := .ref a) S2 hN hi (.inl hln) rfl (fun t5 S5 => ?_) (.inr hln)
      refine wpAny_mono ((hsu a o2 cls d (X.pn ++ pins) hz2 ⟨_, hd2⟩).run [] t5 _ HI _ S5 (hyes rfl a na)) (fun fl t6 sp6 => ?_) (fun _ _ z => z.elim)
      have fin : ∀ {σ6 : L2.St} {H6 : Hp} {Q : Shared → Prop}, Inv (X.suite a ((a, o2) :: (X.pn ++ pins))) [] σ6 H6 t6 → (∀ t7, Inv X ((a, o2) :: pins) (σ6.set i none) H6 t7 → Q t7) → wpAny (model X.prog X.w) X.A (do bindName X.env n .none; unbindBehindTheSuite X.env n p2) (fun _ t7 => Q t7) X.xe t6 :=
        fun {σ6 H6 Q} S6 hq => gone_ok (pinsOut S6 okX) hN hi hln hq
      have less : ∀ {σ7 : L2.St} {H7 : Hp} {t7 : Shared}, Inv X ((a, o2) :: pins) σ7 H7 t7 → Inv X pins σ7 H7 t7 := fun {σ7 H7 t7} J => pinOff (pinIn J) okX
      cases fl with
      | next =>
        obtain ⟨σ6, H6, S6, q6⟩ := sp6
        exact fin S6 fun t7 J7 => pN (goK hz2 ⟨_, hd2⟩ J7 q6)
      | ret u =>
        obtain ⟨v6, σ6, H6, S6, r6, q6⟩ := sp6
        exact fin S6 fun t7 J7 => pR ⟨_, _, _, less J7, r6, q6⟩
      | brk =>
        obtain ⟨σ6, H6, S6, q6⟩ := sp6
        exact fin S6 fun t7 J7 => pB ⟨_, _, less J7, q6⟩
      | cont =>
        obtain ⟨σ6, H6, S6, q6⟩ := sp6
        exact fin S6 fun t7 J7 => pC ⟨_, _, less J7, q6⟩
  · cases fl with
    | next =>
      obtain ⟨σ', H', J', q⟩ := end9
      exact wpAny_execs_nil (pN (go (J'.ofTry okX) q))
    | brk =>
      obtain ⟨σ', H', J', q⟩ := end9
      exact pB ⟨σ', H', J'.ofTry okX, q⟩
    | cont =>
      obtain ⟨σ', H', J', q⟩ := end9
      exact pC ⟨σ', H', J'.ofTry okX, q⟩
    | ret u =>
      obtain ⟨v, σ', H', J', r, q⟩ := end9
      exact pR ⟨v, σ', H', J'.ofTry okX, r, q⟩
end
end Ol
namespace Ol
open PySem PySem.Spec PyProof.Rows L2
/-! ## an exception kept -/
def sTryK (m : List (String × Bool)) (i j : Nat) (b : Env → Out) (r : String → Env → Out) : Env → Out := fun ρ => match b ρ with
  | .nx ρ1 => r "" ρ1
  | .exc x ρ1 => (match m.lookup x with
    | some true => if i < ρ1.length ∧ j < ρ1.length then r x (((ρ1.set i (some (.ex x))).set j (some (.ex x))).set i none) else .bad
    | some false => .exc x ρ1
    | none => .bad)
  | o => o
section
variable {c : C0} {W : WX} {C : Value} {m : List (String × Bool)} {tb : WX → TS} {sb : Env → Out}
theorem ss_tryK {tr : (List V → Hp → VK → Prop) → TS} {r : String → Env → Out} (i j : Nat) (hm : ExM c.K C m) (hb : ∀ W', SS c W' (tb W') sb) (hr : SS c W (tr NoR) (r "")) (hk : ∀ (a : Addr) (x : String), m.lookup x = some true → SS (c.pin j a) W (tr (rIsEk c.K (.ref (He.ga c.K x)) none a)) (r x))
    (hij : Nat.beq i j = false := by rfl) (hO : Nat.beq (c.O i) 0 = true := by rfl) (hOj : Nat.beq (c.O j) 0 = true := by rfl) (hi : c.ios.contains i = false := by rfl) (hj : c.ios.contains j = false := by rfl) :
    SS c W (tTryK c.K C i (fun _ _ _ => tAsg (tVar i) (gName j)) tr W tb) (sTryK m i j sb r) := fun H0 Wd Al T σ H ρ nx rt bk ct I q => by
  have hO := Nat.eq_of_beq_eq_true hO
  have hOj := Nat.eq_of_beq_eq_true hOj
  have ne : i ≠ j := Nat.ne_of_beq_eq_false hij
  have hio : i ∉ c.ios := fun z => by rw [List.contains_iff_mem.mpr z] at hi; cases hi
  have hjo : j ∉ c.ios := fun z => by rw [List.contains_iff_mem.mpr z] at hj; cases hj
  show tb (wAsK c.K C i (fun _ _ _ => tAsg (tVar i) (gName j)) tr W ⟨nx, rt, bk, ct⟩) ⟨fun σ' H' => tr NoR ⟨nx, rt, bk, ct⟩ σ' H', rt, bk, ct⟩ σ H
  refine hb _ H0 Wd Al T σ H ρ _ rt bk ct I ?_
  unfold sTryK at q
  cases z : sb ρ with
  | nx ρ1 =>
    rw [z] at q
    exact fun σ' H' T' I' => hr H0 Wd Al T' σ' H' ρ1 nx rt bk ct I' q
  | ret d ρ1 => rw [z] at q; exact q
  | brk ρ1 => rw [z] at q; exact q
  | ct ρ1 => rw [z] at q; exact q
  | bad => rw [z] at q; exact q
  | exc x ρ1 =>
    rw [z] at q
    dsimp only at q
    intro σ' H' T' I'
    cases z2 : m.lookup x with
    | none => rw [z2] at q; exact q.elim
    | some b =>
      rw [z2] at q
      refine ⟨b, hm x b z2, fun e a ha => ?_, fun e => ?_⟩
      · subst e
        dsimp only at q
        by_cases hl : i < ρ1.length ∧ j < ρ1.length
        · rw [if_pos hl] at q
          have li : i < σ'.length := by rw [I'.len]; exact hl.1
          have lj : j < σ'.length := by rw [I'.len]; exact hl.2
          refine ⟨.ref a, List.getElem?_set_self li, ?_⟩
          obtain ⟨T2, I2, _⟩ := I'.putR (i := i) (v := .ref a) (d := .ex x) (S := []) (.ex a x) (fun z => absurd hO z) (fun _ _ _ z => by cases z) (fun _ z => by cases z) (by omega) hi
          obtain ⟨T3, I3, _⟩ := I2.putR (i := j) (v := .ref a) (d := .ex x) (S := []) (.ex a x) (fun z => absurd hOj z) (fun _ _ _ z => by cases z) (fun _ z => by cases z) (by omega) hj
          obtain ⟨T4, I4⟩ := I3.clr (i := i) hio
          have sj : (((σ'.set i (some (.ref a))).set j (some (V.ref a))).set i none)[j]? = some (some (.ref a)) := by
            rw [List.getElem?_set_ne ne, List.getElem?_set_self (by rw [List.length_set]; exact lj)]
          refine hk a x z2 H0 Wd Al T4 _ H' _ nx rt bk ct (I4.pin (i := j) (p := a) sj) ?_
          cases z3 : r x (((ρ1.set i (some (.ex x))).set j (some (.ex x))).set i none) with
          | nx ρ3 => rw [z3] at q; exact fun σ4 H4 T4 I4 => q σ4 H4 T4 (I4.unpin hjo (fun z => hjo (I.lk _ z).1.1)).1
          | brk ρ3 => rw [z3] at q; exact fun σ4 H4 T4 I4 => q σ4 H4 T4 (I4.unpin hjo (fun z => hjo (I.lk _ z).1.1)).1
          | ct ρ3 => rw [z3] at q; exact fun σ4 H4 T4 I4 => q σ4 H4 T4 (I4.unpin hjo (fun z => hjo (I.lk _ z).1.1)).1
          | ret d ρ3 => rw [z3] at q; exact fun v σ4 H4 T4 S I4 r f => q v σ4 H4 T4 S (I4.unpin hjo (fun z => hjo (I.lk _ z).1.1)).1 r f
          | exc y ρ3 => rw [z3] at q; exact fun σ4 H4 T4 I4 => q σ4 H4 T4 (I4.unpin hjo (fun z => hjo (I.lk _ z).1.1)).1
          | bad => rw [z3] at q; exact q.elim
        · rw [if_neg hl] at q; exact q.elim
      · subst e
        exact q σ' H' T' I'
end
/-! isinstance of it -/
section
variable {c : C0} {W : WX} {m : List (String × Bool)} {a : Addr} {j : Nat} {x : String} {v : V}
theorem se_isEk (hm : IsM c.K v m) : SE (c.pin j a) W (tCB (rIsEk c.K (.ref (He.ga c.K x)) none a) (tCons (tVar j) (tCons (tC v) tNil))) (eIsE m x) true true := fun H0 Wd Al T σ H ρ Q I q => by
  unfold eIsE at q
  cases z : m.lookup x with
  | none => rw [z] at q; exact q.elim
  | some b =>
    rw [z] at q
    obtain ⟨cv, e1, e2, e3⟩ := hm x b z
    have h := I.io j List.mem_cons_self
    rw [show (c.pin j a).ioa j = a from if_pos rfl] at h
    exact ⟨.ref a, h, He.ga c.K x, rfl, rfl, e1, .inl ⟨v, cv, b, rfl, e2, e3, q (.bl b) H T [] I (.bl _) Grw.refl (fun _ _ z => .inl z) (fun _ => ⟨rfl, Same.refl _, rfl⟩) fun _ => ⟨Nw.nil, trivial, fun _ _ z => by cases z⟩⟩⟩
/-- a tuple of classes: a table for each -/
def anyT (x : String) : List (List (String × Bool)) → Option Bool
  | [] => some false
  | m :: ms => (match m.lookup x with
    | some true => some true
    | some false => anyT x ms
    | none => none)
inductive IsMs (K : PySem.W.Frag) : List V → List (List (String × Bool)) → Prop
  | nil : IsMs K [] []
  | cons {v : V} {vs : List V} {m : List (String × Bool)} {ms : List (List (String × Bool))} : IsM K v m → IsMs K vs ms → IsMs K (v :: vs) (m :: ms)
theorem isMs_any {K : PySem.W.Frag} {x : String} : ∀ {vs : List V} {ms : List (List (String × Bool))} {b : Bool}, IsMs K vs ms → anyT x ms = some b → (∀ m ∈ ms, m.lookup x ≠ none) → ∃ cvs, (∀ us, Vals vs us → us = cvs) ∧ PySem.W.kitAny K (.ref (He.ga K x)) cvs = some b
  | [], _, b, h, e, _ => by
    cases h
    cases e
    exact ⟨[], fun us r => by cases r; rfl, rfl⟩
  | v :: vs, _, b, h, e, hx => by
    cases h with
    | @cons _ _ m ms h1 h2 =>
      cases z : m.lookup x with
      | none => exact absurd z (hx m List.mem_cons_self)
      | some k =>
        obtain ⟨cv, _, g2, g3⟩ := h1 x k z
        unfold anyT at e
        rw [z] at e
        have tl : ∃ k2, anyT x ms = some k2 := by
          have : ∀ {l : List (List (String × Bool))}, (∀ m ∈ l, m.lookup x ≠ none) → ∃ k2, anyT x l = some k2 := fun {l} => by
            induction l with
            | nil => exact fun _ => ⟨false, rfl⟩
            | cons y l ih =>
              intro h
              obtain ⟨k2, e2⟩ := ih fun m hm => h m (List.mem_cons_of_mem _ hm)
              unfold anyT
              cases q : y.lookup x with
              | none => exact absurd q (h y List.mem_cons_self)
              | some k =>
                cases k
                · exact ⟨k2, e2⟩
                · exact ⟨true, rfl⟩
          exact this fun m hm => hx m (List.mem_cons_of_mem _ hm)
        obtain ⟨k2, e2⟩ := tl
        obtain ⟨cvs, q1, q2⟩ := isMs_any h2 e2 fun m hm => hx m (List.mem_cons_of_mem _ hm)
        refine ⟨cv :: cvs, fun us r => ?_, ?_⟩
        · cases r with
          | cons r1 r2 => rw [g2 _ r1, q1 _ r2]
        · unfold PySem.W.kitAny
          rw [g3]
          cases k with
          | true => cases e; rfl
          | false =>
            dsimp only at e ⊢
            rw [e2] at e
            cases e
            exact q2
def eIsT (ms : List (List (String × Bool))) (x : String) : Env → Res D := fun ρ => if (ms.all fun m => (m.lookup x).isSome) = true then (match anyT x ms with
  | some b => .ok (.bl b) ρ
  | none => .bad) else .bad
/-- constants one behind another -/
def tCs : List V → TA
  | [] => tNil
  | v :: vs => tCons (tC v) (tCs vs)
theorem tCs_run {σ : L2.St} {H : Hp} {Q : List V → Hp → Prop} : ∀ {vs : List V} {acc : List V → List V}, Q (acc vs) H → tCs vs σ H (fun us H' => Q (acc us) H')
  | [], _, q => q
  | v :: vs, acc, q => tCs_run (vs := vs) (acc := fun us => acc (v :: us)) q
theorem se_isEkT {vs : List V} {m0 : List (String × Bool)} {ms : List (List (String × Bool))} (hc : IsMs c.K vs (m0 :: ms)) (hl : Nat.ble vs.length 1000 = true := by rfl) : SE (c.pin j a) W (tCB (rIsEk c.K (.ref (He.ga c.K x)) none a) (tCons (tVar j) (tCons (tTup (tCs vs)) tNil))) (eIsT (m0 :: ms) x) true true := fun H0 Wd Al T σ H ρ Q I q => by
  unfold eIsT at q
  by_cases hall : ((m0 :: ms).all fun m => (m.lookup x).isSome) = true
  · rw [if_pos hall] at q
    have hx : ∀ m ∈ m0 :: ms, m.lookup x ≠ none := fun m hm z => by
      have := List.all_eq_true.mp hall m hm
      rw [z] at this
      cases this
    cases z : anyT x (m0 :: ms) with
    | none => rw [z] at q; exact q.elim
    | some b =>
      rw [z] at q
      obtain ⟨cvs, e2, e3⟩ := isMs_any hc z hx
      have e1 : ExcC c.K (He.ga c.K x) := by
        cases hc with
        | cons h1 _ =>
          cases z2 : m0.lookup x with
          | none => exact absurd z2 (hx m0 List.mem_cons_self)
          | some k => exact (h1 x k z2).choose_spec.1
      have h := I.io j List.mem_cons_self
      rw [show (c.pin j a).ioa j = a from if_pos rfl] at h
      refine ⟨.ref a, h, ?_⟩
      refine tCs_run (acc := fun us => us) (Q := fun us H' => us.length ≤ sizeLine ∧ ∀ p, H' p = none → _) ⟨sz_le (Nat.le_trans (Nat.le_of_ble_eq_true hl) (by decide)), fun p hp => ?_⟩
      have sm := Same.new (o := HO.tup vs) hp
      exact ⟨He.ga c.K x, rfl, rfl, e1, .inr ⟨p, vs, cvs, b, rfl, upd_same, e2, e3, q (.bl b) _ T [] (I.same sm) (.bl _) (Grw.same sm) (fun _ _ z => .inl z) (fun _ => ⟨rfl, sm, rfl⟩) fun _ => ⟨Nw.nil, trivial, fun _ _ z => by cases z⟩⟩⟩
  · rw [if_neg hall] at q; exact q.elim
theorem se_noIs {tt : TA} (hm : m.lookup "" = none := by rfl) : SE c W (tCB NoR tt) (eIsE m "") true true := fun H0 Wd Al T σ H ρ Q I q => by
  unfold eIsE at q
  rw [hm] at q
  exact q.elim
theorem se_noIsT {tt : TA} {m0 : List (String × Bool)} {ms : List (List (String × Bool))} (hm : m0.lookup "" = none := by rfl) : SE c W (tCB NoR tt) (eIsT (m0 :: ms) "") true true := fun H0 Wd Al T σ H ρ Q I q => by
  unfold eIsT at q
  rw [if_neg (by rw [List.all_cons, hm]; simp)] at q
  exact q.elim
end
end Ol
namespace Ol
open PySem PySem.Spec PyProof.Rows L2
/-! ## a list comprehension whose elements may raise -/
theorem funFrames_at {B B' h h' : Heap} : ∀ {l : List PySem.Env}, h.FunFrames B l → (∀ b ∈ frs l, h'.get? b = h.get? b) → (∀ b ∈ frs l, B'.get? b = none) → h'.FunFrames B' l
  | [], _, _, _ => trivial
  | ev :: l, hh, k, n => by
    obtain ⟨hk, ⟨L, o, hf, _, ho, hd⟩, tl⟩ := hh
    have hm : L ∈ frs (ev :: l) := List.mem_filterMap.mpr ⟨ev, List.mem_cons_self, hf⟩
    exact ⟨hk, ⟨L, o, hf, n L hm, (k L hm).trans ho, hd⟩, funFrames_at tl (fun b hb => k b (by
      obtain ⟨e, he, q⟩ := List.mem_filterMap.mp hb
      exact List.mem_filterMap.mpr ⟨e, List.mem_cons_of_mem _ he, q⟩)) fun b hb => n b (by
      obtain ⟨e, he, q⟩ := List.mem_filterMap.mp hb
      exact List.mem_filterMap.mpr ⟨e, List.mem_cons_of_mem _ he, q⟩)⟩
section
variable {X : Cx} {W : WX}
/-- noted at the def's own frame -/
def XH (X : Cx) (W : WX) (u : Value) (s' : Shared) : Prop :=
  ∃ (a : Addr) (B : Heap) (sI : Shared) (pins : List (Addr × Obj)) (σ : L2.St) (H : Hp) (cls : Value) (d : Option Addr), u = .ref a ∧ Inv X pins σ H sI ∧ (∀ b o, sI.heap.get? b = some o → b ∉ frs X.stack → B.get? b = some o) ∧ sI.heap.UpToSlots s'.heap ∧
    HandSPX.HeldZ B X.stack a (Zc cls d) X.env.locals s'.heap ∧ H a = none ∧ s'.os = sI.os ∧ AllBare s'.gens ∧ W cls d σ H
theorem noteX {s' : Shared} {u : Value} {Q : Unit → Shared → Prop} {E : Value → Shared → Prop} (hs : X.stack = X.env :: X.outer) (hf : X.env.frame = some X.env.locals) (x : XE X W u s')
    (k : ∀ h1, s'.heap.UpToSlots h1 → XH X W u { s' with heap := h1 } → Q () { s' with heap := h1 }) : wpAny (model X.prog X.w) X.A (noteFrame u X.env) Q E s' := by
  obtain ⟨a, B, sI, pins, σ, H, cls, d, rfl, I, nb, up, sky, na, os, ag, w⟩ := x
  have fr : X.A.frames = some (X.env :: X.outer) := by rw [I.ok.frames, hs]
  have done : ∀ h1, HandSPX.HeldZ B X.stack a (Zc cls d) X.env.locals h1 → s'.heap.UpToSlots h1 → Q () { s' with heap := h1 } := fun h1 hh u1 => k h1 u1 ⟨a, B, sI, pins, σ, H, cls, d, rfl, I, nb, up.trans u1, hh, na, os, ag, w⟩
  rw [hs] at sky done
  rcases sky with ⟨b1, b2, b3, oe, vs, e1, e2, e3, e4⟩ | fl | hd
  · exact HandSPX.look_newZ Zc.steady fr b3 hf e1 b1 b2 e3 e4 e2 done
  · exact HandSPX.looks_onZ Zc.steady fr hf fl done
  · exact HandSPX.againZ hf hd.2.2.2 (done s'.heap hd (Heap.UpToSlots.refl _))
/-- the block's names go -/
theorem letX {s' : Shared} {u : Value} {C : Addr} {m : Str → Option Value} {h' : Heap} (x : XH X (fun c d σ H => W c d σ H ∧ H C = none) u s') (hC : s'.heap.Ns C m) (sb : Heap.SameBut C s'.heap h') (f1 : C ≠ X.env.locals) (f2 : C ∉ frs X.stack) (f3 : C ∈ X.ex ∨ X.s_0.heap.objs.size ≤ C)
    (f4 : ∀ x c, X.env.cells.lookup x = some c → c ≠ C) (f5 : ∀ p ∈ X.pn, p.1 ≠ C) : XH X W u { s' with heap := h' } := by
  obtain ⟨a, B, sI, pins, σ, H, cls, d, rfl, I, nb, up, ⟨g1, g2, g3, oe, vs, T, oT, ts, t1, t2, t3, t4, t5, t6, t7, t8, t9⟩, na, os, ag, w, hn⟩ := x
  obtain ⟨oC, es, ep, c1, c2, _⟩ := hC
  have aC : a ≠ C := fun z => by
    rw [z, c1] at t1
    cases t1
    rw [c2] at t3
    cases t3
  have TC : T ≠ C := fun z => by
    rw [z, c1] at t7
    cases t7
    rw [c2] at t8
    cases t8
  obtain ⟨B', p1, p2⟩ := restrict B fun b => decide (b ≠ C)
  obtain ⟨G, q1, q2⟩ := restrict sI.heap fun b => decide (b ≠ C)
  have bk : ∀ b o, B'.get? b = some o → b ≠ C ∧ B.get? b = some o := fun b o e => by
    by_cases z : b = C
    · rw [p2 b (decide_eq_false fun w => w z)] at e
      cases e
    · rw [p1 b (decide_eq_true z)] at e
      exact ⟨z, e⟩
  have gk : ∀ b o, G.get? b = some o → b ≠ C ∧ sI.heap.get? b = some o := fun b o e => by
    by_cases z : b = C
    · rw [q2 b (decide_eq_false fun w => w z)] at e
      cases e
    · rw [q1 b (decide_eq_true z)] at e
      exact ⟨z, e⟩
  have sm : ∀ b, b ≠ C → h'.get? b = s'.heap.get? b := sb.2
  have Bn : ∀ b, B.get? b = none → B'.get? b = none := fun b e => by
    cases q : B'.get? b with
    | none => rfl
    | some o => rw [(bk b o q).2] at e; cases e
  have J : Inv X [] σ H { sI with heap := G, toks := sI.toks } := Inv.turned (it := C) (I.pins_of (pins' := []) fun _ z => nomatch z) (fun b o hb e => (q1 b (decide_eq_true hb)).trans e) hn f1 f3 f4 fun p hp => f5 p (by simpa using hp)
  refine ⟨a, B', { sI with heap := G, toks := sI.toks }, [], σ, H, cls, d, rfl, J, fun b o e hb => ?_, fun b o e hd => ?_, ⟨fun b o e => ?_, Bn a g2, funFrames_at g3 (fun b hb => sm b fun z => f2 (z ▸ hb)) (fun b hb => Bn b (g3.mem hb).1), oe, vs, T, oT, ts, (sm a aC).trans t1, t2, t3, t4, Bn T t5, t6, (sm T TC).trans t7, t8, t9⟩, na, os, ag, w⟩
  · obtain ⟨n, e2⟩ := gk b o e
    exact (p1 b (decide_eq_true n)).trans (nb b o e2 hb)
  · obtain ⟨n, e2⟩ := gk b o e
    obtain ⟨sl, q⟩ := up b o e2 hd
    exact ⟨sl, (sm b n).trans q⟩
  · obtain ⟨n, e2⟩ := bk b o e
    exact (sm b n).trans (g1 b o e2)
/-- on it goes -/
theorem onX {s' : Shared} {u : Value} {what : String} {ce : PySem.Env} {β : Type} {Q : β → Shared → Prop} (tk : Takes X W) (hf : X.env.frame = some X.env.locals) (hc : ce.frame = X.env.frame) (x : XH X W u s') : wpAny (model X.prog X.w) X.A (passOn what u ce : Sem β) Q X.xe s' := by
  obtain ⟨a, B, sI, pins, σ, H, cls, d, rfl, I, nb, up, ⟨g1, g2, g3, g4⟩, na, os, ag, w⟩ := x
  obtain ⟨oe, vs, T, oT, ts, t1, t2, t3, t4, t5⟩ := id g4
  unfold PySem.passOn
  refine wpAny_bind (wpAny_field t1 t3 t4 ?_)
  rw [if_neg (show ¬ ((Value.ref T == Value.none) = true) by simp), hc, hf]
  have go : wpAny (model X.prog X.w) X.A (setFlight (.ref a) (some X.env.locals)) (fun _ t4 => wpAny (model X.prog X.w) X.A (throw (.ref a) : Sem β) Q X.xe t4) X.xe s' :=
    HandSPX.setFlight_anyZ g1 g3 g4 fun h1 k1 k2 k3 k4 => wpAny_throw (tk _ _ ⟨a, B, sI, pins, σ, H, cls, d, rfl, I, nb, up.trans k4, .inr (.inr ⟨k1, g2, k2, k3⟩), na, os, ag, w⟩)
  first
    | exact wpAny_bind (wpAny_pure (wpAny_bind go))
    | exact wpAny_bind go
end
end Ol
namespace Ol
open PySem PySem.Spec PyProof.Rows L2
/-! ## a list comprehension whose elements may raise: the rule -/
theorem noteFrame_fr {ce ev : PySem.Env} {u : Value} (h : ce.frame = ev.frame) : noteFrame u ce = noteFrame u ev := by
  unfold noteFrame PySem.frameOf
  rw [h]
section
variable {X : Cx}
theorem inTr {pins : List (Addr × Obj)} {σ : L2.St} {H : Hp} {s : Shared} {xe : Value → Shared → Prop} {Y : Cx} (I : Inv Y pins σ H s) (h : Y.pn = []) : Inv (Y.tr [] xe) pins σ H s :=
  ⟨I.ok.toTry _ _, I.os, I.bare, I.base, I.loc, I.cell, I.free, I.freeC, fun p hp => I.pin p (by rw [h]; exact hp), I.hok, I.len⟩
theorem outTr {pins : List (Addr × Obj)} {σ : L2.St} {H : Hp} {s : Shared} {xe : Value → Shared → Prop} {Y : Cx} (I : Inv (Y.tr [] xe) pins σ H s) (ok : Y.Ok) (h : Y.pn = []) : Inv Y pins σ H s :=
  ⟨ok, I.os, I.bare, I.base, I.loc, I.cell, I.free, I.freeC, fun p hp => I.pin p (by rw [h] at hp; exact hp), I.hok, I.len⟩
theorem pe_lcX {el tg it0 : Expr} {ifs : List Expr} {scope : Scope} {own : List (Str × Nat)} {pos : Pos} {wi : TI} {g : TG} {tt : TT} {te : TE} {Eo : XK}
    (hs : X.stack = X.env :: X.outer) (hf : X.env.frame = some X.env.locals) (tk : Takes X fun c d _ H => Eo c d H) (hc : X.calm = true) (hN : X.N.Nodup) (hi : PI X tg it0 wi) (ok : BlkOk X.N X.env.scope scope own)
    (hg : ∀ (s : Shared) (H : Hp) (C : Addr) (cl : List (Str × Addr)) (fp : List Addr), PG (X.blk s H scope (compEnvC scope cl C X.env) fp) tg g)
    (ht : ∀ (s : Shared) (H : Hp) (C : Addr) (cl : List (Str × Addr)) (fp : List Addr), PTs (X.blk s H scope (compEnvC scope cl C X.env) fp) ifs tt)
    (he : ∀ (s : Shared) (H : Hp) (C : Addr) (cl : List (Str × Addr)) (fp : List Addr) (xe : Value → Shared → Prop), (∀ τ, PassesAt (L2.CX X.prog X.w) ((X.blk s H scope (compEnvC scope cl C X.env) fp).tr [] xe) τ Eo) → PE ((X.blk s H scope (compEnvC scope cl C X.env) fp).tr [] xe) el te)
    (hfo : ∀ y, foldedSetIterable it0 X.env y = pure y := by intro _; rfl) : PE X (.ListComp el [⟨tg, it0, ifs, 0⟩] scope pos) (tLc wi g tt te (own.map (·.2))) := by
  refine ⟨fun pins s σ H Q I h => ?_⟩
  rw [eval_ListComp]
  have free : ∀ y ∈ scope.names, y.2 = .free → ∃ c, X.env.cells.lookup y.1 = some c := fun y hy e => (ok.free y hy e).elim (fun k => I.ok.has _ (.inl k)) fun k => I.ok.has _ (.inr k)
  refine comprehension_at (use := none) rfl hfo (closure_ok free) ok.kind (fun y hy e => by rw [ok.uniq y hy, e]) (thn (hi.run pins s σ H _ I h) fun _ s1 h1 => thn h1 fun _ s2 h2 => ?_)
  obtain ⟨it, fp, tn, J, H2, rfl, I2, T, st2, f2, q⟩ := h2
  refine wpAny_newObj_type (newEnv_comp ?_) (by show 0 ≤ sizeLine; decide)
  generalize eD : s2.heap.objs.size = D
  have nD : H2 D = none := I2.hok.fresh (Nat.le_of_eq eD)
  obtain ⟨Wl, ⟨m0, w0⟩, turn⟩ := q D nD
  generalize e3 : ({ s2 with heap := s2.heap.push { cls := .type "list", data := .seq ([] : List Value).toArray } } : Shared) = s3
  have p3 : s3.heap = s2.heap.push { cls := .type "list", data := .seq ([] : List Value).toArray } := by rw [← e3]
  have I3 : Inv X pins σ (upd H2 D (.lst [])) s3 := by
    rw [← e3]
    exact I2.laid (t' := s2.toks) (fun b o e => Heap.get?_push_of_some _ e) (Nat.le_of_eq eD) ⟨Nat.zero_le _, [], 0, .nil, by rw [← eD]; exact Heap.get?_push_size _ rfl⟩
  have f3 : ∀ b ∈ fp, FpOk X pins (upd H2 D (.lst [])) b ∧ b < s3.heap.objs.size := fun b hb => by
    obtain ⟨ob, eb, _⟩ := T.obj _ _ st2 b hb
    have lt := Heap.lt_size eb
    exact ⟨⟨(upd_ne (by rw [← eD]; exact Nat.ne_of_lt lt)).trans (f2 b hb).1, (f2 b hb).2⟩, by rw [p3, Heap.size_push]; exact Nat.lt_succ_of_lt lt⟩
  have st3 : tn 0 s3.heap := T.keep _ _ _ st2 fun b _ o e => by rw [p3]; exact Heap.get?_push_of_some _ e
  have I4 := block_start I3 ok hN f3
  generalize eC : s3.heap.objs.size = C at I4
  generalize eCl : cellsFrom (C + 1) scope.names (cloFrom X.env.cells scope.names []) = cl at I4
  have pg := hg s3 (upd H2 D (.lst [])) C cl fp
  have pt := ht s3 (upd H2 D (.lst [])) C cl fp
  have pe := he s3 (upd H2 D (.lst [])) C cl fp
  show codeAny _ _ (.compStart (.ListComp el [⟨tg, it0, ifs, 0⟩] scope pos) 0 (.ref it) (.ref D) (compEnvC scope cl C X.env)) (compEnds (model X.prog X.w) X.A X.xe none (EP X pins σ Q) (.ref D) (compEnvC scope cl C X.env)) { s3 with heap := pushCells (s3.heap.push { cls := .type "dict", data := .dict #[] }) scope.names }
  have cL : (compEnvC scope cl C X.env).locals = C := rfl
  have cF : (compEnvC scope cl C X.env).frame = X.env.frame := rfl
  generalize compEnvC scope cl C X.env = ce at I4 pg pt pe cL cF ⊢
  have nfp : ∀ b ∈ fp, (upd H2 D (.lst [])) b = none := fun b hb => (f3 b hb).1.1
  generalize eH : upd H2 D (.lst []) = H3 at I3 I4 pg pt pe w0 nfp f3
  generalize e4 : ({ s3 with heap := pushCells (s3.heap.push { cls := .type "dict", data := .dict #[] }) scope.names } : Shared) = s4 at I4 ⊢
  have st4 : tn 0 s4.heap := T.keep _ _ _ st3 fun b _ o e => by rw [← e4]; exact pushCells_keeps _ _ _ _ (Heap.get?_push_of_some _ e)
  have stat : ∀ {τ : L2.St} {H' : Hp} {s' : Shared}, Inv (X.blk s3 H3 scope ce fp) [] τ H' s' → (∀ b ∈ fp, H' b = none) → ∀ b ∈ fp, FpOk (X.blk s3 H3 scope ce fp) [] H' b := fun {τ H' s'} K n b hb =>
    ⟨n b hb, (K.ok.exf b hb).1, K.ok.exfs b hb, .inl hb, fun y c e => (K.ok.exf b hb).2 y c e, fun p hp => nomatch (show p ∈ ([] : List (Addr × Obj)) from hp)⟩
  -- back in the def's own context
  have home : ∀ {τ : L2.St} {H' : Hp} {s' : Shared} {l : List (Addr × Obj)}, Inv (X.blk s3 H3 scope ce fp) l τ H' s' → Inv X pins σ H' s' := fun {τ H' s' l} K =>
    I3.call' (ch := fp) K.os K.base K.hok K.bare fun b hb => ⟨(f3 b hb).1.2.2.2.1, (f3 b hb).1.2.1, (f3 b hb).1.2.2.2.2.1, (f3 b hb).1.2.2.2.2.2⟩
  have noC : ∀ {τ : L2.St} {H' : Hp} {s' : Shared} {l : List (Addr × Obj)}, Inv (X.blk s3 H3 scope ce fp) l τ H' s' → H' C = none ∧ ∃ m, s'.heap.Ns C m := fun {τ H' s' l} K => by
    have z : H' ce.locals = none := K.free
    obtain ⟨m, hn, _⟩ := K.loc
    have hn : s'.heap.Ns ce.locals m := hn
    rw [cL] at z hn
    exact ⟨z, m, hn⟩
  have fC : ∀ {H' : Hp}, H' C = none → FpOk X pins H' C := fun {H'} n => I3.fpOk (Nat.le_of_eq eC) n
  have stC : ∀ {H' : Hp}, H' C = none → C ∉ frs X.stack := fun {H'} n hm => by
    rw [hs] at hm
    obtain ⟨ev, hev, qf⟩ := List.mem_filterMap.mp hm
    rcases List.mem_cons.mp hev with rfl | hev
    · rw [hf] at qf
      exact (fC n).2.1 (Option.some.inj qf).symm
    · exact (fC n).2.2.1 (List.mem_filterMap.mpr ⟨ev, hev, qf⟩)
  have okB : (X.blk s3 H3 scope ce fp).Ok := I4.ok
  have pe' := pe (notedBy (model X.prog X.w) X.A ce fun ev s' => compEnds (model X.prog X.w) X.A X.xe none (EP X pins σ Q) (.ref D) ce (.error ev) s') fun τ pinsP HP sP ev s' IP cP => by
    have IB : Inv (X.blk s3 H3 scope ce fp) pinsP τ HP sP := outTr IP okB rfl
    obtain ⟨nC, m, oC, es, ep, c1, c2, c3, c4⟩ := noC IB
    obtain ⟨a, B, H', cls, d, rfl, fly, hok, ub, na, os, ag, hE⟩ := cP
    have c5 : s'.heap.get? C = some oC := fly.1 C oC (ub.keep C oC c1 nC (stC nC))
    have xx : XE X (fun c d _ H => Eo c d H ∧ H C = none) (.ref a) s' := XE.of_call (home IB) (E := fun c d H => Eo c d H ∧ H C = none) (fun _ _ _ w => w) ⟨a, B, H', cls, d, rfl, fly, hok, ub, na, os, ag, hE, ub.free C oC c1 nC⟩
    show wpAny (model X.prog X.w) X.A (noteFrame (.ref a) ce) _ _ s'
    rw [noteFrame_fr cF]
    refine noteX hs hf xx fun h1 u1 xh => ?_
    obtain ⟨sl, c6⟩ := u1 C oC c5 fun vs z => by
      rw [c2] at z
      cases z
    have nsC : h1.Ns C m := ⟨_, es, ep, c6, c2, c3, c4⟩
    refine ⟨m, by rw [cL]; exact nsC, fun h' _ _ sb => ?_⟩
    rw [cL] at sb
    have fc := fC nC
    exact onX tk hf cF (letX (W := fun c d _ H => Eo c d H) xh nsC sb fc.2.1 (stC nC) fc.2.2.2.1 fc.2.2.2.2.1 fun p hp => fc.2.2.2.2.2 p (List.mem_append_left _ hp))
  have loop : codeAny (model X.prog X.w) X.A (.compLoop (.ListComp el [⟨tg, it0, ifs, 0⟩] scope pos) 0 (.ref it) (.ref D) ce) (compEnds (model X.prog X.w) X.A X.xe none (EP X pins σ Q) (.ref D) ce) s4 := by
    refine compLoop_any (fun n s' => ∃ i H', Inv (X.blk s3 H3 scope ce fp) [] (wipe σ (own.map (·.2))) H' s' ∧ tn i s'.heap ∧ (∀ b ∈ fp, H' b = none) ∧ Wl i n H') ?_ m0 ⟨0, H3, I4, st4, nfp, w0⟩
    rintro n s5 ⟨i, H5, I5, st5, n5, w5⟩
    rcases turn i n H5 w5 with ⟨stop, qq⟩ | ⟨more, Nx, hNx, step⟩
    · refine thnF (T.done (X.blk s3 H3 scope ce fp) rfl rfl rfl hc i [] s5 _ H5 (fun _ _ => False) I5 (stat I5 n5) st5 stop) fun r s6 ⟨hr, I6⟩ => ?_
      subst hr
      obtain ⟨nC, m, hn⟩ := noC I6
      obtain ⟨g0, g1, _, g3, g4, g5⟩ := fC nC
      refine ⟨m, by rw [cL]; exact hn, fun h'' sb => ⟨.ref D, H5, ?_, rfl, qq⟩⟩
      rw [cL] at sb
      exact (home I6).turned (t' := s6.toks) (fun b o hb e => (sb.2 b hb).trans e) g0 g1 g3 g4 g5
    · refine thnF (T.item (X.blk s3 H3 scope ce fp) rfl rfl rfl hc i [] s5 _ H5 (fun _ _ => False) I5 (stat I5 n5) st5 more) fun r s6 ⟨u, hr, h6⟩ => ?_
      subst hr
      refine thnF h6 fun _ s7 ⟨y, H7, I7, r7, y7, st7, n7⟩ => ?_
      refine thnF (pg.run _ s7 _ H7 y u _ (I7.pinned (stat I7 n7) (T.obj _ _ st7)) r7 (step y H7 y7)) fun _ s8 ⟨σ8, H8, I8, hw8, q8⟩ => ?_
      refine thnF (pt.run _ s8 σ8 H8 _ I8 q8) fun b s9 ⟨H9, I9, q9⟩ => ?_
      have next : ∀ {s' : Shared} {H' : Hp}, Inv (X.blk s3 H3 scope ce fp) ([] ++ pinsAt fp s7.heap) σ8 H' s' → Nx H' → ∃ m, m < n ∧ ∃ i H', Inv (X.blk s3 H3 scope ce fp) [] (wipe σ (own.map (·.2))) H' s' ∧ tn i s'.heap ∧ (∀ b ∈ fp, H' b = none) ∧ Wl i m H' := fun {s' H'} K nx => by
        obtain ⟨m', lt, w'⟩ := hNx H' nx
        have keep : ∀ b ∈ fp, ∀ o, s7.heap.get? b = some o → s'.heap.get? b = some o ∧ H' b = none := fun b hb o e =>
          have z := K.pin (b, o) (List.mem_append_right _ (List.mem_append_right _ (mem_pinsAt hb e)))
          ⟨z.1, z.2.1⟩
        refine ⟨m', lt, i + 1, H', (K.unpinned (pins := [])).weak (by rw [← hw8, wipe_length]) (fun j v e => by rw [← hw8] at e; exact (wipe_some e).1), T.keep _ _ _ st7 fun b hb o e => (keep b hb o e).1, fun b hb => ?_, w'⟩
        obtain ⟨o, e, _⟩ := T.obj _ _ st7 b hb
        exact (keep b hb o e).2
      cases b with
      | false => exact next I9 q9
      | true =>
        refine wpAny_mono (pe'.run _ s9 σ8 H9 _ (inTr I9 rfl) q9) (fun z s10 ⟨yv, H10, I10, r10, acc, hD10, hz10, nx⟩ => ?_) fun _ _ w => w
        exact app_ok (X := X.blk s3 H3 scope ce fp) (outTr I10 okB rfl) hD10 hz10 r10 fun s11 I11 => next I11 nx
  exact codeAny_compStart_list loop (T.self X.A 0 _ _ _ st4 loop)
end
end Ol
namespace Ol
open PySem PySem.Spec PyProof.Rows L2
/-! ## a list comprehension whose elements may raise: by plain values -/
def compX (chk : Bool) (g : D → Env → Option Env) (t : Env → Res Bool) (e : Env → Res D) (ρ : Env) : List D → Res (List D)
  | [] => .ok [] []
  | x :: xs => if (chk && !imm x) = true then .bad else match g x ρ with
    | none => .bad
    | some ρ1 => match t ρ1 with
      | .ok true _ => (match e ρ1 with
        | .ok y _ => (match compX chk g t e ρ xs with
          | .ok ys _ => .ok (y :: ys) []
          | .exc x ρ' => .exc x ρ'
          | .bad => .bad)
        | .exc x ρ' => .exc x ρ'
        | .bad => .bad)
      | .ok false _ => compX chk g t e ρ xs
      | _ => .bad
def comb (done : List D) (r : Res (List D)) : Res (List D) := match r with
  | .ok ys _ => .ok (done ++ ys) []
  | .exc x ρ => .exc x ρ
  | .bad => .bad
theorem compX_env {chk : Bool} {g : D → Env → Option Env} {t : Env → Res Bool} {e : Env → Res D} {ρ : Env} : ∀ {xs : List D} {ys : List D} {o : Env}, compX chk g t e ρ xs = .ok ys o → o = []
  | [], _, _, h => by
    rw [compX] at h
    cases h
    rfl
  | x :: xs, ys, o, h => by
    unfold compX at h
    split at h
    · cases h
    · split at h
      · cases h
      · split at h
        · split at h
          · split at h <;> cases h
            rfl
          · cases h
          · cases h
        · exact compX_env h
        · cases h
theorem comb_nil {chk : Bool} {g : D → Env → Option Env} {t : Env → Res Bool} {e : Env → Res D} {ρ : Env} {xs : List D} {tot : Res (List D)} (nb : tot ≠ .bad) (h : compX chk g t e ρ xs = tot) : comb [] tot = tot := by
  cases tot with
  | ok ys o => rw [comb, compX_env h]; rfl
  | exc x o => rfl
  | bad => rfl
theorem comb_cons {done : List D} {y : D} {r : Res (List D)} : comb done (match r with
    | .ok ys _ => .ok (y :: ys) []
    | .exc x ρ' => .exc x ρ'
    | .bad => .bad) = comb (done ++ [y]) r := by
  cases r with
  | ok ys o => simp [comb]
  | exc x o => rfl
  | bad => rfl
def eCompX (it : Env → Res (List D)) (vs : List Nat) (chk : Bool) (g : D → Env → Option Env) (t : Env → Res Bool) (e : Env → Res D) : Env → Res D := fun ρ => (it ρ).bind fun xs ρ1 => if xs.length < 16777216 then match compX chk g t e (wipeE ρ1 vs) xs with
  | .ok ys _ => .ok (.lst ys) ρ1
  | .exc x ρ' => .exc x (wipeE ρ' vs)
  | .bad => .bad
  else .bad
theorem set_self {α : Type} {l : List (Option α)} {i : Nat} : l.set i ((l[i]?).join) = l := by
  apply List.ext_getElem?
  intro k
  by_cases e : i = k
  · subst e
    by_cases hl : i < l.length
    · rw [List.getElem?_set_self hl, List.getElem?_eq_getElem hl]
      rfl
    · rw [List.getElem?_eq_none (by rw [List.length_set]; omega), List.getElem?_eq_none (by omega)]
  · rw [List.getElem?_set_ne e]
theorem unwipeX {c : C0} {H0 : Hp} {Wd Al : Addr → Prop} {T : Nat → List Addr} {σ : L2.St} {H : Hp} {ρ : Env} : ∀ (vs : List Nat), SIT c H0 Wd Al T (L2.wipe σ vs) H ρ → (∀ i ∈ vs, (ρ[i]?).join = none) → (∀ i ∈ vs, c.ios.contains i = false) → SIT c H0 Wd Al T σ H ρ
  | [], I, _, _ => I
  | v :: vs, I, h, hi => by
    have hv := hi v List.mem_cons_self
    have I2 : SIT c H0 Wd Al T ((L2.wipe σ vs).set v none) H ρ := I
    have I3 := I2.reset (h v List.mem_cons_self) (fun z => by rw [List.contains_iff_mem.mpr z] at hv; cases hv) (((L2.wipe σ vs)[v]?).join)
    rw [List.set_set, set_self] at I3
    exact unwipeX vs I3 (fun i hm => h i (List.mem_cons_of_mem _ hm)) fun i hm => hi i (List.mem_cons_of_mem _ hm)
theorem wipeE_noneX {ρ : Env} {i : Nat} : ∀ {vs : List Nat}, i ∈ vs → ((wipeE ρ vs)[i]?).join = none
  | [], h => by cases h
  | v :: vs, h => by
    show (((wipeE ρ vs).set v none)[i]?).join = none
    by_cases e : v = i
    · subst e
      by_cases hl : v < (wipeE ρ vs).length
      · exact join_set_self hl
      · rw [List.getElem?_eq_none (by rw [List.length_set]; omega)]
        rfl
    · rw [List.getElem?_set_ne e]
      rcases List.mem_cons.mp h with z | z
      · exact absurd z.symm e
      · exact wipeE_noneX z
theorem se_compX {c : C0} {E : XK} {wi : TI} {it : Env → Res (List D)} {pu de chk : Bool} {tg : TG} {g : D → Env → Option Env} {sl vs : List Nat} {tt : TT} {t : Env → Res Bool} {te : TE} {e : Env → Res D} (hi : SIt c (fun cls d _ H => E cls d H) wi it pu de) (hde : (de || chk) = true) (hg : SG c tg g sl) (hsl : sl = vs) (ht : ST c W0 tt t true) (he : SE c (fun cls d _ H => E cls d H) te e true true)
    (hio : ∀ i ∈ vs, c.ios.contains i = false) : SE c (fun cls d _ H => E cls d H) (tLc wi tg tt te vs) (eCompX it vs chk g t e) pu true := fun H0 Wd Al T σ H ρ Q I q => hi H0 Wd Al T σ H ρ _ I (by
  subst hsl
  unfold eCompX at q
  cases z : it ρ with
  | bad => rw [z] at q; exact q
  | exc x ρ' => rw [z] at q; exact q
  | ok xs ρ1 =>
    rw [z, Res.bind_ok] at q
    intro J H1 T1 I1 g1 nw p w1 w2
    by_cases hlen : xs.length < 16777216
    · rw [if_pos hlen] at q
      have nb : compX chk g t e (wipeE ρ1 sl) xs ≠ .bad := fun z => by rw [z] at q; exact q
      focus
        generalize zc : compX chk g t e (wipeE ρ1 sl) xs = tot at q nb
        intro D hD
        refine ⟨fun i m H => m = xs.length - i ∧ i ≤ xs.length ∧ Same H1 H ∧ ∃ acc done S, H D = some (.lst acc) ∧ acc.length ≤ i ∧ Reps c.K H acc done S ∧ tot = comb done (compX chk g t e (wipeE ρ1 sl) (xs.drop i)) ∧ S.Nodup ∧ (∀ a ∈ S, H1 a = none ∧ NF H a) ∧ D ∉ S,
          ⟨_, rfl, Nat.zero_le _, Same.new hD, [], [], [], upd_same, Nat.le_refl _, .nil, by rw [List.drop_zero, zc, comb_nil nb zc], List.nodup_nil, fun _ z => (by cases z), fun z => by cases z⟩, ?_⟩
        rintro i m H2 ⟨rfl, hle, s2, acc, done, S, hD2, hal, ra, hc, nS, fS, nD⟩
        obtain ⟨w3, w4⟩ := w1 H2 i s2
        cases ex : xs[i]? with
        | none =>
          refine .inl ⟨w4 ex, ?_⟩
          rw [List.drop_eq_nil_of_le (List.getElem?_eq_none_iff.mp ex)] at hc
          rw [compX, comb, List.append_nil] at hc
          subst hc
          refine q _ H2 T1 (D :: S) (I1.same s2) (.lst (.inl hD2) ra) (g1.trans (Grw.same s2)) nw (fun hp => ?_) fun _ => ⟨⟨List.nodup_cons.mpr ⟨nD, nS⟩, fun a ha => ?_, fun a ha => ?_⟩, ⟨D, acc, S, rfl, rfl, hD2, ra⟩, fun k a ha z => ?_⟩
          · obtain ⟨e1, s1, t1⟩ := p hp
            exact ⟨e1, s1.trans s2, t1⟩
          · rcases List.mem_cons.mp ha with rfl | ha
            · exact g1.dom _ hD
            · exact g1.dom _ (fS a ha).1
          · rcases List.mem_cons.mp ha with rfl | ha
            · intro o u k; rw [hD2] at k; cases k
            · exact (fS a ha).2
          · rcases List.mem_cons.mp ha with rfl | ha
            · exact I1.doms k _ z hD
            · exact I1.doms k a z (fS a ha).1
        | some d =>
          obtain ⟨hlt, hd⟩ := List.getElem?_eq_some_iff.mp ex
          have wk : J.go i H2 ∧ ∀ x H3, J.yld i H2 x H3 → H3 = H2 ∧ ∃ S, Rep c.K H2 x d S ∧ (de = true → (∀ j, c.O j ≠ 0 → ∀ a ∈ S, a ∉ T1 j) ∧ ∀ a ∈ S, H0 a = none ∨ Al a) := by
            cases de with
            | false =>
              obtain ⟨a, b⟩ := w3 d ex
              refine ⟨a, fun x H3 y => ?_⟩
              obtain ⟨e, S, r, _⟩ := b x H3 y
              exact ⟨e, S, r, fun z => by cases z⟩
            | true =>
              obtain ⟨a, b⟩ := (w2 rfl H2 i ⟨fun a o _ h => s2 a o h, (Grw.same s2).dom, Tk.same s2⟩).1 d ex
              refine ⟨a, fun x H3 y => ?_⟩
              obtain ⟨e, S, r, ok⟩ := b x H3 y
              exact ⟨e, S, r, fun _ => ⟨fun j hj a ha => (ok a ha).2.1 j hj, fun a ha => (ok a ha).2.2⟩⟩
          obtain ⟨go, yl⟩ := wk
          rw [List.drop_eq_getElem_cons hlt, hd] at hc
          unfold compX at hc
          by_cases hk : (chk && !imm d) = true
          · rw [if_pos hk] at hc; exact absurd hc nb
          rw [if_neg hk] at hc
          refine .inr ⟨go, fun H => i + 1 ≤ xs.length ∧ Same H1 H ∧ ∃ acc done S, H D = some (.lst acc) ∧ acc.length ≤ i + 1 ∧ Reps c.K H acc done S ∧ tot = comb done (compX chk g t e (wipeE ρ1 sl) (xs.drop (i + 1))) ∧ S.Nodup ∧ (∀ a ∈ S, H1 a = none ∧ NF H a) ∧ D ∉ S,
            fun H' n => ⟨xs.length - (i + 1), by omega, rfl, n⟩, fun x H3 y => ?_⟩
          obtain ⟨e3, Sx, rx, okx⟩ := yl x H3 y
          subst e3
          have Sx0 : (∀ j, c.O j ≠ 0 → ∀ a ∈ Sx, a ∉ T1 j) ∧ ∀ a ∈ Sx, H0 a = none ∨ Al a := by
            cases de with
            | true => exact okx rfl
            | false =>
              have hk2 : chk = true := by simpa using hde
              subst hk2
              have im : imm d = true := by simpa using hk
              have e0 := rx.im im
              subst e0
              exact ⟨fun _ _ _ z => (by cases z), fun _ z => (by cases z)⟩
          obtain ⟨Tw, Iw, hw⟩ := (I1.same s2).wipe sl hio
          cases z2 : g d (wipeE ρ1 sl) with
          | none => rw [z2] at hc; exact absurd hc nb
          | some ρ3 =>
            rw [z2] at hc
            dsimp only at hc
            refine hg H0 Wd Al Tw _ H3 _ ρ3 d x Sx _ Iw rx (fun j hj a ha z => Sx0.1 j hj a ha (hw j a z)) Sx0.2 z2 fun σ4 T4 I4 hσ _ => ⟨?_, ?_⟩
            · rw [hσ sl fun _ h => h, wipe_wipe]
            · refine ht H0 Wd Al T4 σ4 H3 ρ3 _ I4 ?_
              cases z4 : t ρ3 with
              | bad => rw [z4] at hc; exact absurd hc nb
              | exc x ρ' => rw [z4] at hc; exact absurd hc nb
              | ok k ρ5 =>
                rw [z4] at hc
                intro H5 T5 I5 g5 nw5 p5
                obtain ⟨e5, s5, t5⟩ := p5 rfl
                subst e5 t5
                cases k with
                | false =>
                  rw [if_neg Bool.false_ne_true]
                  exact ⟨hlt, s2.trans s5, acc, done, S, s5 _ _ hD2, by omega, ra.same s5, hc, nS, fun a ha => ⟨(fS a ha).1, (fS a ha).2.same s5 (ra.dom a ha)⟩, nD⟩
                | true =>
                  rw [if_pos rfl]
                  refine he H0 Wd Al T5 σ4 H5 ρ5 _ I5 ?_
                  dsimp only at hc
                  cases z6 : e ρ5 with
                  | bad => rw [z6] at hc; exact absurd hc nb
                  | exc x ρ6 =>
                    rw [z6] at hc
                    dsimp only [comb] at hc
                    subst hc
                    intro H' T' I'
                    obtain ⟨T7, I7, _⟩ := I'.wipe sl hio
                    rw [hσ sl fun _ h => h, wipe_wipe] at I7
                    exact q H' T7 (unwipeX sl I7 (fun j hj => wipeE_noneX hj) hio)
                  | ok y6 ρ6 =>
                    rw [z6] at hc
                    intro yv H6 T6 Sy I6 ry g6 nw6 p6 f6
                    obtain ⟨e6, s6, t6⟩ := p6 rfl
                    obtain ⟨⟨ny, my, ky⟩, _, dy⟩ := f6 rfl
                    have s26 := s5.trans s6
                    have hD6 := s26 _ _ hD2
                    refine ⟨acc, hD6, sz_lt (by omega), ?_⟩
                    dsimp only at hc
                    have ne : ∀ a, H6 a ≠ none → a ≠ D → ∀ o, H6 a = some o → (upd H6 D (.lst (acc ++ [yv]))) a = some o := fun a _ n o h => by rw [upd_ne n]; exact h
                    have tk : Tk H6 (upd H6 D (.lst (acc ++ [yv]))) := fun a us h => by
                      have n : a ≠ D := fun e => by
                        subst e
                        rw [hD6] at h; cases h
                      rw [upd_ne n]; exact h
                    have yD : D ∉ Sy := fun h => by
                      have := g5.dom D (my D h)
                      rw [hD2] at this
                      cases this
                    have r1 := (ra.same s26).mono tk fun a ha o h => by
                      rw [upd_ne (fun e : a = D => nD (by rw [← e]; exact ha))]; exact h
                    have r2 := ry.mono tk fun a ha o h => by
                      rw [upd_ne (fun e : a = D => yD (by rw [← e]; exact ha))]; exact h
                    refine ⟨hlt, Same.mut (s2.trans s26) hD, acc ++ [yv], done ++ [y6], S ++ Sy, upd_same, by simp; omega, r1.append (Reps.one r2), by rw [hc]; exact comb_cons, List.nodup_append.mpr ⟨nS, ny, fun a ha b hb e => ?_⟩, fun a ha => ?_, fun h => ?_⟩
                    · subst e
                      exact (ra.same s5).dom a ha (my a hb)
                    · rcases List.mem_append.mp ha with ha | ha
                      · refine ⟨(fS a ha).1, fun o u k => ?_⟩
                        rw [upd_ne (fun e : a = D => nD (by rw [← e]; exact ha))] at k
                        exact (fS a ha).2.same s26 (ra.dom a ha) o u k
                      · refine ⟨(Grw.same (s2.trans s5)).dom a (my a ha), fun o u k => ?_⟩
                        rw [upd_ne (fun e : a = D => yD (by rw [← e]; exact ha))] at k
                        exact ky a ha o u k
                    · exact (List.mem_append.mp h).elim nD yD
    · rw [if_neg hlen] at q; exact q.elim)
end Ol
namespace Ol
open PySem PySem.Spec PyProof.Rows L2
/-! ## a thing at a slot is locked while it is walked -/
def NFz (w : HO) : Prop := ∀ o x, w ≠ .frz o x
section
variable {K : PySem.W.Frag} {H H' : Hp}
mutual
theorem Rep.monoR (t : Tk H H') : ∀ {d : D} {v : V} {S : List Addr}, Rep K H v d S → (∀ a ∈ S, ∀ w, NFz w → Rd H a w → Rd H' a w) → Rep K H' v d S
  | .non, _, _, h, _ => by cases h; exact .non
  | .bl _, _, _, h, _ => by cases h; exact .bl _
  | .int _, _, _, h, _ => by cases h; exact .int _
  | .str _, _, _, h, _ => by cases h; exact .str _
  | .ty _, _, _, h, _ => by cases h; exact .ty _
  | .ex _, _, _, h, _ => by cases h; exact .ex _ _
  | .tup _, _, _, h, e => by
    cases h with
    | tup h1 h2 => exact .tup (t.sq h1) (Reps.monoR t h2 e)
  | .lst _, _, _, h, e => by
    cases h with
    | lst h1 h2 => exact .lst (e _ List.mem_cons_self _ (fun _ _ z => nomatch z) h1) (Reps.monoR t h2 fun a ha => e a (List.mem_cons_of_mem _ ha))
    | lstK h1 h2 => exact .lstK h1 (Reps.monoR t h2 e)
  | .dT _, _, _, h, e => by
    cases h with
    | dT h1 h2 => exact .dT (e _ List.mem_cons_self _ (fun _ _ z => nomatch z) h1) (RepT.monoR t h2 fun a ha => e a (List.mem_cons_of_mem _ ha))
  | .dK _, _, _, h, e => by
    cases h with
    | dK h1 h2 => exact .dK (e _ List.mem_cons_self _ (fun _ _ z => nomatch z) h1) (RepK.monoR t h2 fun a ha => e a (List.mem_cons_of_mem _ ha))
theorem Reps.monoR (t : Tk H H') : ∀ {ds : List D} {vs : List V} {S : List Addr}, Reps K H vs ds S → (∀ a ∈ S, ∀ w, NFz w → Rd H a w → Rd H' a w) → Reps K H' vs ds S
  | [], _, _, h, _ => by cases h; exact .nil
  | _ :: _, _, _, h, e => by
    cases h with
    | cons h1 h2 => exact .cons (Rep.monoR t h1 fun a ha => e a (List.mem_append_left _ ha)) (Reps.monoR t h2 fun a ha => e a (List.mem_append_right _ ha))
theorem RepT.monoR (t : Tk H H') : ∀ {ds : List (List Key × D)} {vs : List (List Key × V)} {S : List Addr}, RepT K H vs ds S → (∀ a ∈ S, ∀ w, NFz w → Rd H a w → Rd H' a w) → RepT K H' vs ds S
  | [], _, _, h, _ => by cases h; exact .nil
  | (_, _) :: _, _, _, h, e => by
    cases h with
    | cons h1 h2 => exact .cons (Rep.monoR t h1 fun a ha => e a (List.mem_append_left _ ha)) (RepT.monoR t h2 fun a ha => e a (List.mem_append_right _ ha))
theorem RepK.monoR (t : Tk H H') : ∀ {ds : List (Key × D)} {vs : List (Key × V)} {S : List Addr}, RepK K H vs ds S → (∀ a ∈ S, ∀ w, NFz w → Rd H a w → Rd H' a w) → RepK K H' vs ds S
  | [], _, _, h, _ => by cases h; exact .nil
  | (_, _) :: _, _, _, h, e => by
    cases h with
    | cons h1 h2 => exact .cons (Rep.monoR t h1 fun a ha => e a (List.mem_append_left _ ha)) (RepK.monoR t h2 fun a ha => e a (List.mem_append_right _ ha))
end
end
/-- slot i's thing is locked -/
def C0.lock (c : C0) (i : Nat) (p : Addr) (S : List Addr) : C0 := ⟨c.K, fun j => if j = i then 0 else c.O j, c.B, i :: c.ios, fun k => if k = i then p else c.ioa k, c.fr, i :: c.lks, fun k => if k = i then S else c.lkt k⟩
/-- H1 is H with p locked -/
structure Lkd (H H1 : Hp) (p : Addr) (od : Obj) (u : HO) : Prop where
  out : ∀ a, a ≠ p → H1 a = H a
  at1 : H1 p = some (.frz od u)
  at0 : H p = some u ∨ H p = some (.frz od u)
  nf : NFz u
  nt : ∀ xs, u ≠ .tup xs
section
variable {c : C0} {H0 H H1 H2 H' : Hp} {Wd Al : Addr → Prop} {T T' : Nat → List Addr} {σ σ' : L2.St} {ρ ρ' : Env} {i : Nat} {p : Addr} {od : Obj} {u : HO}
theorem Lkd.rd (L : Lkd H H1 p od u) {a : Addr} {w : HO} (nw : NFz w) (h : Rd H a w) : Rd H1 a w := by
  by_cases e : a = p
  · subst e
    right
    refine ⟨od, ?_⟩
    have : w = u := by
      rcases h with h | ⟨o, h⟩ <;> rcases L.at0 with z | z <;> rw [z] at h <;> cases h
      · rfl
      · exact absurd rfl (nw _ _)
      · exact absurd rfl (L.nf _ _)
      · rfl
    rw [this]
    exact L.at1
  · rcases h with h | ⟨o, h⟩
    · exact .inl (by rw [L.out a e]; exact h)
    · exact .inr ⟨o, by rw [L.out a e]; exact h⟩
theorem Lkd.tk (L : Lkd H H1 p od u) : Tk H H1 := fun a xs h => by
  by_cases e : a = p
  · subst e
    rcases L.at0 with z | z <;> rw [z] at h <;> cases h
    exact absurd rfl (L.nt _)
  · rw [L.out a e]; exact h
theorem Lkd.dom (L : Lkd H H1 p od u) {a : Addr} : H1 a = none ↔ H a = none := by
  by_cases e : a = p
  · subst e
    rw [L.at1]
    rcases L.at0 with z | z <;> rw [z] <;> simp
  · rw [L.out a e]
/-- the base within -/
abbrev WoL (c : C0) (i : Nat) (T : Nat → List Addr) : Addr → Prop := fun a => ∃ j, j ≠ i ∧ c.O j ≠ 0 ∧ a ∈ T j
abbrev AlL (c : C0) (i : Nat) (H0 : Hp) (Al : Addr → Prop) (T : Nat → List Addr) : Addr → Prop := fun a => (H0 a = none ∨ Al a) ∧ (c.O i ≠ 0 → a ∉ T i)
theorem lockO {j i : Nat} (h : (c.lock i p S).O j ≠ 0) : j ≠ i ∧ c.O j ≠ 0 := by
  have h : (if j = i then 0 else c.O j) ≠ 0 := h
  by_cases e : j = i
  · rw [if_pos e] at h; exact absurd rfl h
  · rw [if_neg e] at h; exact ⟨e, h⟩
theorem lockO' {j i : Nat} (h : j ≠ i) : (c.lock i p S).O j = c.O j := if_neg h
theorem SIT.lockIn (I : SIT c H0 Wd Al T σ H ρ) (hs : σ[i]? = some (some (.ref p))) (hp : p ∈ T i) (L : Lkd H H1 p od u) : SIT (c.lock i p (T i)) H1 (WoL c i T) (AlL c i H0 Al T) T σ H1 ρ := by
  have pT : ∀ j, j ≠ i → c.O j ≠ 0 → p ∉ T j := fun j hj hO h => I.dis i j hO (Ne.symm hj) p hp h
  refine ⟨Frm.refl, fun a e => I.base a (L.dom.mp e), I.len, fun k => ?_, fun k j hj hk => I.dis k j (lockO hj).2 hk, fun j hj => I.nod j (lockO hj).2, fun k hk a ha => ?_, fun j hj a ha => ⟨.inr ⟨j, (lockO hj).1, (lockO hj).2, ha⟩, ?_⟩, fun j hj v d ev ed => ?_, fun j hj => ?_, fun k hk => ?_, fun j hj d e => ?_, fun k hk => ?_⟩
  · have r := I.rep k
    cases z : (ρ[k]?).join with
    | none => rw [z] at r; exact r
    | some d =>
      rw [z] at r
      obtain ⟨x, ex, r⟩ := r
      exact ⟨x, ex, r.monoR L.tk fun a _ w nw h => L.rd nw h⟩
  · have hk1 : k ≠ i := fun e => hk (by rw [e]; exact List.mem_cons_self)
    exact .inr ⟨I.all k (fun z => hk (List.mem_cons_of_mem _ z)) a ha, fun hO => I.dis k i hO hk1 a ha⟩
  · have na : a ≠ p := fun e => pT j (lockO hj).1 (lockO hj).2 (by rw [← e]; exact ha)
    intro o w z
    rw [L.out a na] at z
    exact (I.own j (lockO hj).2 a ha).2 o w z
  · refine (I.top j (lockO hj).2 v d ev ed).mono L.tk fun a ha o e => ?_
    rw [L.out a fun e => pT j (lockO hj).1 (lockO hj).2 (by rw [← e]; exact ha)]
    exact e
  · have h2 := lockO (c := c) (i := i) (p := p) (S := T i) (j := j) (by rw [hj]; decide)
    rw [lockO' h2.1] at hj
    exact I.loc j hj
  · show σ[k]? = some (some (.ref (if k = i then p else c.ioa k)))
    by_cases e : k = i
    · rw [if_pos e, e]; exact hs
    · rw [if_neg e]
      exact I.io k ((List.mem_cons.mp hk).resolve_left e)
  · have h2 := lockO (c := c) (i := i) (p := p) (S := T i) (j := j) (by rw [hj]; decide)
    rw [lockO' h2.1] at hj
    exact I.io2 j hj d e
  · by_cases e : k = i
    · subst e
      exact ⟨⟨List.mem_cons_self, if_pos rfl⟩, (if_pos rfl).symm⟩
    · have h := I.lk k ((List.mem_cons.mp hk).resolve_left e)
      exact ⟨⟨List.mem_cons_of_mem _ h.1.1, (if_neg e).trans h.1.2⟩, h.2.trans (if_neg e).symm⟩
/-- .. and unlocked -/
theorem SIT.lockOut (I : SIT c H0 Wd Al T σ H ρ) (hs : σ[i]? = some (some (.ref p))) (hp : p ∈ T i) (L : Lkd H H1 p od u) (J : SIT (c.lock i p (T i)) H1 (WoL c i T) (AlL c i H0 Al T) T' σ' H' ρ')
    (ho : ∀ a, a ≠ p → H2 a = H' a) (h2 : H2 p = H p) : SIT c H0 Wd Al T' σ' H2 (ρ'.set i (ρ[i]?).join) ∧ H' p = some (.frz od u) ∧ σ'[i]? = some (some (.ref p)) ∧ T' i = T i := by
  have hTi : T' i = T i := by
    have := (J.lk i List.mem_cons_self).2
    rw [this]
    exact if_pos rfl
  have hsi : σ'[i]? = some (some (.ref p)) := by
    have := J.io i List.mem_cons_self
    rw [show (c.lock i p (T i)).ioa i = p from if_pos rfl] at this
    exact this
  have nW : ∀ a ∈ T i, ¬ WoL c i T a := fun a ha ⟨j, hj, hO, hm⟩ => I.dis i j hO (Ne.symm hj) a ha hm
  have keepT : ∀ a ∈ T i, H' a = H1 a := fun a ha => by
    cases e : H1 a with
    | none => exact absurd (L.dom.mp e) (I.doms i a ha)
    | some o => exact J.frm.keep a o (nW a ha) e
  have hp' : H' p = some (.frz od u) := by rw [keepT p hp]; exact L.at1
  have li : i < ρ'.length := by rw [← J.len]; exact (List.getElem?_eq_some_iff.mp hsi).1
  have keep0 : ∀ a ∈ T i, ∀ o, H a = some o → H2 a = some o := fun a ha o e => by
    by_cases z : a = p
    · rw [z, h2, ← z]; exact e
    · rw [ho a z, keepT a ha, L.out a z]; exact e
  have ntp : ∀ xs, H p ≠ some (.tup xs) := fun xs e => by
    rcases L.at0 with z | z <;> rw [z] at e <;> cases e
    exact L.nt _ rfl
  have tk2 : Tk H' H2 := fun a xs e => by
    have : a ≠ p := fun z => by rw [z, hp'] at e; cases e
    rw [ho a this]; exact e
  have tk0 : Tk H H2 := (L.tk.trans J.frm.tup).trans tk2
  have rdo : ∀ a w, NFz w → Rd H' a w → Rd H2 a w := fun a w nw h => by
    by_cases z : a = p
    · subst z
      have : w = u := by
        rcases h with h | ⟨o, h⟩ <;> rw [hp'] at h <;> cases h
        · exact absurd rfl (nw _ _)
        · rfl
      subst this
      rcases L.at0 with z | z
      · exact .inl (by rw [h2]; exact z)
      · exact .inr ⟨od, by rw [h2]; exact z⟩
    · rcases h with h | ⟨o, h⟩
      · exact .inl (by rw [ho a z]; exact h)
      · exact .inr ⟨o, by rw [ho a z]; exact h⟩
  have pW : ∀ j, j ≠ i → c.O j ≠ 0 → p ∉ T' j := fun j hj hO h => by
    rcases (J.own j (by rw [lockO' hj]; exact hO) p h).1 with z | z
    · rw [L.at1] at z; cases z
    · exact nW p hp z
  have at_ne : ∀ k, k ≠ i → (ρ'.set i (ρ[i]?).join)[k]? = ρ'[k]? := fun k hk => List.getElem?_set_ne (Ne.symm hk)
  refine ⟨⟨⟨fun a o n e => ?_, fun a e => ?_, I.frm.tup.trans tk0⟩, fun a e => ?_, by rw [List.length_set]; exact J.len, fun k => ?_, fun k j hj hk a ha => ?_, fun j hj => ?_, fun k hk a ha => ?_, fun j hj a ha => ?_, fun j hj v d ev ed => ?_, fun j hj a ha => ?_, fun k hk => ?_, fun j hj d e => ?_, fun k hk => ?_⟩, hp', hsi, hTi⟩
  · have e1 := I.frm.keep a o n e
    by_cases z : a = p
    · rw [z, h2, ← z]; exact e1
    · rw [ho a z]
      refine J.frm.keep a o (fun ⟨j, hj, hO, hm⟩ => ?_) (by rw [L.out a z]; exact e1)
      rcases (I.own j hO a hm).1 with q | q
      · rw [q] at e; cases e
      · exact n q
  · by_cases z : a = p
    · rw [z, h2] at e
      rcases L.at0 with q | q <;> rw [q] at e <;> cases e
    · rw [ho a z] at e
      exact I.frm.dom a (L.dom.mp (J.frm.dom a e))
  · by_cases z : a = p
    · rw [z, h2] at e
      rcases L.at0 with q | q <;> rw [q] at e <;> cases e
    · rw [ho a z] at e
      exact J.base a e
  · by_cases e : k = i
    · subst e
      rw [join_set_self li, hTi]
      have r := I.rep k
      cases z : (ρ[k]?).join with
      | none => rw [z] at r; exact r
      | some d =>
        rw [z] at r
        obtain ⟨x, ex, r⟩ := r
        rw [hs] at ex
        cases ex
        rw [hsi]
        exact ⟨_, rfl, r.mono tk0 keep0⟩
    · rw [at_ne k e]
      have r := J.rep k
      cases z : (ρ'[k]?).join with
      | none => rw [z] at r; exact r
      | some d =>
        rw [z] at r
        obtain ⟨x, ex, r⟩ := r
        exact ⟨x, ex, r.monoR tk2 fun a _ w nw h => rdo a w nw h⟩
  · by_cases e : j = i
    · subst e
      rw [hTi]
      by_cases hl : k ∈ c.lks
      · have q := (J.lk k (List.mem_cons_of_mem _ hl)).2
        rw [show (c.lock j p (T j)).lkt k = c.lkt k from if_neg hk, ← (I.lk k hl).2] at q
        rw [q] at ha
        exact I.dis k j hj hk a ha
      · rcases J.all k (fun z => hl ((List.mem_cons.mp z).resolve_left hk)) a ha with q | q
        · exact fun m => I.doms j a m (L.dom.mp q)
        · exact q.2 hj
    · exact J.dis k j (by rw [lockO' e]; exact hj) hk a ha
  · by_cases e : j = i
    · rw [e, hTi]; exact I.nod i (e ▸ hj)
    · exact J.nod j (by rw [lockO' e]; exact hj)
  · by_cases e : k = i
    · subst e
      rw [hTi] at ha
      exact I.all k hk a ha
    · rcases J.all k (fun z => hk ((List.mem_cons.mp z).resolve_left e)) a ha with q | q
      · exact .inl (I.frm.dom a (L.dom.mp q))
      · exact q.1
  · by_cases e : j = i
    · subst e
      rw [hTi] at ha
      refine ⟨(I.own j hj a ha).1, fun o w z => ?_⟩
      cases q : H a with
      | none => exact I.doms j a ha q
      | some o' =>
        have := keep0 a ha _ q
        rw [z] at this
        cases this
        exact (I.own j hj a ha).2 o w q
    · have q := J.own j (by rw [lockO' e]; exact hj) a ha
      refine ⟨?_, fun o w z => ?_⟩
      · rcases q.1 with q | ⟨j', hj', hO', hm⟩
        · exact .inl (I.frm.dom a (L.dom.mp q))
        · exact (I.own j' hO' a hm).1
      · have na : a ≠ p := fun z => pW j e hj (by rw [← z]; exact ha)
        rw [ho a na] at z
        exact q.2 o w z
  · by_cases e : j = i
    · subst e
      rw [join_set_self li] at ed
      rw [hsi] at ev
      cases ev
      rw [hTi]
      exact (I.top j hj _ d hs ed).mono tk0 keep0
    · rw [at_ne j e] at ed
      refine (J.top j (by rw [lockO' e]; exact hj) v d ev ed).mono tk2 fun a ha o h => ?_
      rw [ho a fun z => pW j e hj (by rw [← z]; exact ha)]
      exact h
  · by_cases e : j = i
    · subst e
      rw [hTi] at ha
      exact I.loc j hj a ha
    · exact J.loc j (by rw [lockO' e]; exact hj) a ha
  · have q := J.io k (List.mem_cons_of_mem _ hk)
    by_cases e : k = i
    · subst e
      rw [hsi]
      have := I.io k hk
      rw [hs] at this
      exact this
    · rw [show (c.lock i p (T i)).ioa k = c.ioa k from if_neg e] at q
      exact q
  · by_cases z : j = i
    · subst z
      rw [List.getElem?_set_self li] at e
      refine I.io2 j hj d ?_
      cases q : ρ[j]? with
      | none => rw [q] at e; cases e
      | some o => rw [q] at e; cases o <;> simp_all
    · rw [at_ne j z] at e
      exact J.io2 j (by rw [lockO' z]; exact hj) d e
  · have q := J.lk k (List.mem_cons_of_mem _ hk)
    by_cases e : k = i
    · subst e
      exact ⟨(I.lk k hk).1, by rw [hTi]; exact (I.lk k hk).2⟩
    · exact ⟨(I.lk k hk).1, by rw [q.2]; exact if_neg e⟩
end
end Ol
namespace Ol
open PySem PySem.Spec PyProof.Rows L2
/-! ## for over a dict at a slot, comprehensions over one -/
def keyD : Key → D
  | .inl i => .int i
  | .inr z => .str z
def keysD (k : List Key) : D := .tup (k.map keyD)
theorem rep_kV {K : PySem.W.Frag} {H : Hp} : ∀ {k : Key}, Rep K H (kV k) (keyD k) []
  | .inl _ => .int _
  | .inr _ => .str _
theorem reps_kV {K : PySem.W.Frag} {H : Hp} : ∀ {k : List Key}, Reps K H (k.map kV) (k.map keyD) []
  | [] => .nil
  | _ :: _ => .cons (S := []) (S2 := []) rep_kV reps_kV
theorem rep_keys {K : PySem.W.Frag} {H : Hp} {q : Addr} {k : List Key} (h : H q = some (.tup (k.map kV))) : Rep K H (.ref q) (keysD k) [] := .tup (.inl h) reps_kV
@[simp] theorem imm_keyD {k : Key} : imm (keyD k) = true := by cases k <;> rfl
@[simp] theorem imms_keyD : ∀ {k : List Key}, imms (k.map keyD) = true
  | [] => rfl
  | k :: ks => by rw [List.map_cons, imms, imm_keyD, imms_keyD]; rfl
@[simp] theorem imm_keysD {k : List Key} : imm (keysD k) = true := by unfold keysD; rw [imm]; exact imms_keyD
theorem nfz_dT {kvs : List (List Key × V)} : NFz (.dT kvs) := by intro o x h; cases h
theorem nfz_dK {kvs : List (Key × V)} : NFz (.dK kvs) := by intro o x h; cases h
/-- what a walk of a locked dict gives -/
def kdKeys : D → Option (List D)
  | .dT kvs => some (kvs.map fun q => keysD q.1)
  | .dK kvs => some (kvs.map fun q => keyD q.1)
  | _ => none
def kdItems : D → Option (List D)
  | .dT kvs => some (kvs.map fun q => .tup [keysD q.1, q.2])
  | _ => none
/-- .. while what stands at S stays -/
def WKl (K : PySem.W.Frag) (H1 : Hp) (S : List Addr) (J : It) (ds : List D) : Prop :=
  ∀ (H2 : Hp) (n : Nat), Tk H1 H2 → (∀ a ∈ S, H2 a = H1 a) →
    (∀ d, ds[n]? = some d → J.go n H2 ∧ ∀ x H3, J.yld n H2 x H3 → Same H2 H3 ∧ ∃ U, Rep K H3 x d U) ∧ (ds[n]? = none → J.stop n H2)
/-- the ways of walking a dict -/
structure WayD (K : PySem.W.Frag) (wi : TE → TI) (f : D → Option (List D)) : Prop where
  go : ∀ {σ : L2.St} {H1 : Hp} {p : Addr} {od : Obj} {u : HO} {d : D} {S : List Addr} {ds : List D} {te : TE} {R : It → Hp → Prop}, (∀ Q : VK, Q (.ref p) H1 → te σ H1 Q) → H1 p = some (.frz od u) → NFz u → Rep K H1 (.ref p) d S → f d = some ds → (∀ J, WKl K H1 S J ds → R J H1) → wi te σ H1 R
theorem RepT.ok {K : PySem.W.Frag} {H : Hp} : ∀ {kvs : List (List Key × V)} {ds : List (List Key × D)} {S : List Addr}, RepT K H kvs ds S → kvs.map (·.1) = ds.map (·.1) ∧ ∀ (n : Nat) (k : List Key) (d : D), ds[n]? = some (k, d) → ∃ v U, kvs[n]? = some (k, v) ∧ Rep K H v d U ∧ ∀ a ∈ U, a ∈ S
  | [], _, _, h => by
    cases h
    exact ⟨rfl, fun n k d e => by simp at e⟩
  | (k, v) :: kvs, _, _, h => by
    cases h with
    | cons h1 h2 =>
      obtain ⟨e1, e2⟩ := RepT.ok h2
      refine ⟨by simp [e1], fun n k' d' e => ?_⟩
      cases n with
      | zero =>
        simp at e
        obtain ⟨rfl, rfl⟩ := e
        exact ⟨v, _, rfl, h1, fun a ha => List.mem_append_left _ ha⟩
      | succ n =>
        obtain ⟨v', U, q1, q2, q3⟩ := e2 n k' d' (by simpa using e)
        exact ⟨v', U, by simpa using q1, q2, fun a ha => List.mem_append_right _ (q3 a ha)⟩
theorem RepK.ok {K : PySem.W.Frag} {H : Hp} : ∀ {kvs : List (Key × V)} {ds : List (Key × D)} {S : List Addr}, RepK K H kvs ds S → kvs.map (·.1) = ds.map (·.1) ∧ ∀ (n : Nat) (k : Key) (d : D), ds[n]? = some (k, d) → ∃ v U, kvs[n]? = some (k, v) ∧ Rep K H v d U ∧ ∀ a ∈ U, a ∈ S
  | [], _, _, h => by
    cases h
    exact ⟨rfl, fun n k d e => by simp at e⟩
  | (k, v) :: kvs, _, _, h => by
    cases h with
    | cons h1 h2 =>
      obtain ⟨e1, e2⟩ := RepK.ok h2
      refine ⟨by simp [e1], fun n k' d' e => ?_⟩
      cases n with
      | zero =>
        simp at e
        obtain ⟨rfl, rfl⟩ := e
        exact ⟨v, _, rfl, h1, fun a ha => List.mem_append_left _ ha⟩
      | succ n =>
        obtain ⟨v', U, q1, q2, q3⟩ := e2 n k' d' (by simpa using e)
        exact ⟨v', U, by simpa using q1, q2, fun a ha => List.mem_append_right _ (q3 a ha)⟩
/-- what is locked as a dict is one -/
theorem rd_frz {H : Hp} {p : Addr} {od : Obj} {u w : HO} (hp : H p = some (.frz od u)) (nw : NFz w) (h : Rd H p w) : H p = some (.frz od w) := by
  rcases h with h | ⟨o, h⟩ <;> rw [hp] at h <;> cases h
  · exact absurd rfl (nw _ _)
  · exact hp
theorem len_map {α β γ : Type} {f : α → γ} {g : β → γ} {l : List α} {m : List β} (h : l.map f = m.map g) : l.length = m.length := by have := congrArg List.length h; simpa using this
theorem way_keys {K : PySem.W.Frag} : WayD K iKeys kdKeys where
  go := by
    intro σ H1 p od u d S ds te R ht hp nu r e q
    refine ht _ ⟨p, od, rfl, ?_⟩
    cases d with
    | dT kds =>
      cases e
      cases r with
      | @dT _ kvs _ S' h1 h2 =>
        have hp := rd_frz hp nfz_dT h1
        refine .inr ⟨kvs, hp, q _ fun H2 n t k => ?_⟩
        have hp2 : H2 p = some (.frz od (.dT kvs)) := by rw [k p List.mem_cons_self]; exact hp
        obtain ⟨e1, e2⟩ := h2.ok
        refine ⟨fun d hd => ?_, fun hd => ⟨hp2, ?_⟩⟩
        · rw [List.getElem?_map] at hd
          cases z : kds[n]? with
          | none => rw [z] at hd; cases hd
          | some kd =>
            rw [z] at hd
            cases hd
            obtain ⟨v, U, q1, _⟩ := e2 n kd.1 kd.2 (by rw [z])
            refine ⟨⟨hp2, (List.getElem?_eq_some_iff.mp q1).1⟩, fun x H3 y => ?_⟩
            obtain ⟨rfl, k', v', q', g1, rfl, g3⟩ := y
            rw [q1] at g1
            cases g1
            exact ⟨Same.refl _, [], rep_keys g3⟩
        · rw [len_map e1]
          have := List.getElem?_eq_none_iff.mp hd
          simpa using this
    | dK kds =>
      cases e
      cases r with
      | @dK _ kvs _ S' h1 h2 =>
        have hp := rd_frz hp nfz_dK h1
        refine .inl ⟨kvs, hp, q _ fun H2 n t k => ?_⟩
        have hp2 : H2 p = some (.frz od (.dK kvs)) := by rw [k p List.mem_cons_self]; exact hp
        obtain ⟨e1, e2⟩ := h2.ok
        refine ⟨fun d hd => ?_, fun hd => ⟨hp2, ?_⟩⟩
        · rw [List.getElem?_map] at hd
          cases z : kds[n]? with
          | none => rw [z] at hd; cases hd
          | some kd =>
            rw [z] at hd
            cases hd
            obtain ⟨v, U, q1, _⟩ := e2 n kd.1 kd.2 (by rw [z])
            refine ⟨⟨hp2, (List.getElem?_eq_some_iff.mp q1).1⟩, fun x H3 y => ?_⟩
            obtain ⟨rfl, k', v', g1, rfl⟩ := y
            rw [q1] at g1
            cases g1
            exact ⟨Same.refl _, [], rep_kV⟩
        · rw [len_map e1]
          have := List.getElem?_eq_none_iff.mp hd
          simpa using this
    | _ => cases e
/-! statements and expressions that lock -/
def tWalkD (t : TS) : TS := fun D σ H => t D σ H ∨ tLock t D σ H
def tWalkE (t : TE) : TE := fun σ H Q => t σ H Q ∨ tLockE t σ H Q
theorem ps_walkD {X : Cx} {st : Stmt} {t : TS} (h : PS X st t) : PS X st (tWalkD t) :=
  ⟨fun pins s σ H D I hw => hw.elim (h.run pins s σ H D I) ((ps_lock h).run pins s σ H D I)⟩
theorem pe_walkD {X : Cx} {e : Expr} {t : TE} (h : PE X e t) : PE X e (tWalkE t) :=
  ⟨fun pins s σ H Q I hw => hw.elim (h.run pins s σ H Q I) ((pe_lock h).run pins s σ H Q I)⟩
def Out.back (i : Nat) (o : Option D) : Out → Out
  | .nx ρ => .nx (ρ.set i o)
  | .ret d ρ => .ret d (ρ.set i o)
  | _ => .bad
def sForD (f : D → Option (List D)) (i : Nat) (g : D → Env → Option Env) (body : Env → Out) : Env → Out := fun ρ => match (ρ[i]?).join with
  | none => .bad
  | some d => match f d with
    | none => .bad
    | some xs => if imms xs = true then (forL g body xs ρ).back i (some d) else .bad
theorem imms_get {xs : List D} {n : Nat} {d : D} (h : imms xs = true) (e : xs[n]? = some d) : imm d = true := by
  induction xs generalizing n with
  | nil => simp at e
  | cons x xs ih =>
    rw [imms, Bool.and_eq_true] at h
    cases n with
    | zero => simp at e; subst e; exact h.1
    | succ n => exact ih h.2 (by simpa using e)
/-- a dict in the heap -/
theorem rep_dict {K : PySem.W.Frag} {H : Hp} {v : V} {d : D} {S : List Addr} {f : D → Option (List D)} {xs : List D} (hf : f = kdKeys ∨ f = kdItems) (r : Rep K H v d S) (e : f d = some xs) : ∃ p u, v = .ref p ∧ p ∈ S ∧ Rd H p u ∧ NFz u ∧ (∀ ys, u ≠ .tup ys) ∧ Mut (some u) := by
  cases d with
  | dT kds =>
    cases r with
    | dT h1 h2 => exact ⟨_, _, rfl, List.mem_cons_self, h1, nfz_dT, (by intro _ z; cases z), trivial⟩
  | dK kds =>
    cases r with
    | dK h1 h2 => exact ⟨_, _, rfl, List.mem_cons_self, h1, nfz_dK, (by intro _ z; cases z), trivial⟩
  | _ => rcases hf with rfl | rfl <;> cases e
theorem ss_forD {c : C0} {W : WX} {tg : TG} {g : D → Env → Option Env} {sl : List Nat} {tb : TS} {body : Env → Out} {wi : TE → TI} {f : D → Option (List D)} (i : Nat) (hw : WayD c.K wi f) (hf : f = kdKeys ∨ f = kdItems) (hg : ∀ p S, SG (c.lock i p S) tg g sl) (hb : ∀ p S, SS (c.lock i p S) W tb body) :
    SS c W (tWalkD (tFor (wi (tVar i)) tg tb)) (sForD f i g body) := fun H0 Wd Al T σ H ρ nx rt bk ct I q => by
  unfold sForD at q
  cases z : (ρ[i]?).join with
  | none => rw [z] at q; exact q.elim
  | some d =>
    rw [z] at q
    dsimp only at q
    cases zf : f d with
    | none => rw [zf] at q; exact q.elim
    | some xs =>
      rw [zf] at q
      dsimp only at q
      by_cases im : imms xs = true
      · rw [if_pos im] at q
        obtain ⟨v, hv, r⟩ := I.slot z
        obtain ⟨p, u, rfl, hp, hu, nu, nt, mu⟩ := rep_dict hf r zf
        have zj : (ρ[i]?).join = some d := z
        -- the loop, locked
        have main : ∀ (H1 : Hp) (od : Obj), Lkd H H1 p od u → ∀ (D : Ends), (∀ σ' H', H' p = some (.frz od u) → (∀ H2, (∀ a, a ≠ p → H2 a = H' a) → H2 p = H p → nx σ' H2) → D.nx σ' H') → (∀ v H', H' p = some (.frz od u) → (∀ H2, (∀ a, a ≠ p → H2 a = H' a) → H2 p = H p → rt v H2) → D.rt v H') → tFor (wi (tVar i)) tg tb D σ H1 := by
          intro H1 od L D hnx hrt
          have I1 := I.lockIn hv hp L
          have r1 : Rep c.K H1 (.ref p) d (T i) := r.monoR L.tk fun a _ w nw h => L.rd nw h
          refine hw.go (fun Q hQ => ⟨.ref p, hv, hQ⟩) L.at1 nu r1 zf fun J wk => ?_
          have goodB : Good (c.lock i p (T i)) W H1 (WoL c i T) (AlL c i H0 Al T) D.nx D.rt (fun _ _ => False) (fun _ _ => False) (forL g body xs ρ) := by
            cases zl : forL g body xs ρ with
            | nx ρ' =>
              rw [zl] at q
              intro σ' H' T' J'
              have fz := (I.lockOut (H2 := fun a => if a = p then H p else H' a) hv hp L J' (fun a h => if_neg h) (if_pos rfl)).2.1
              refine hnx σ' H' fz fun H2 h1 h2 => ?_
              have o := (I.lockOut hv hp L J' h1 h2).1
              rw [zj] at o
              exact q σ' H2 T' o
            | ret d' ρ' =>
              rw [zl] at q
              intro v' σ' H' T' S' J' rv fv
              have fz := (I.lockOut (H2 := fun a => if a = p then H p else H' a) hv hp L J' (fun a h => if_neg h) (if_pos rfl)).2.1
              refine hrt v' H' fz fun H2 h1 h2 => ?_
              have o := (I.lockOut hv hp L J' h1 h2).1
              rw [zj] at o
              have tk2 : Tk H' H2 := fun a ys e => by
                have : a ≠ p := fun z => by rw [z, fz] at e; cases e
                rw [h1 a this]; exact e
              refine q v' σ' H2 T' S' o (rv.monoR tk2 fun a _ w nw h => ?_) fun hfr => ?_
              · by_cases e : a = p
                · subst e
                  have := rd_frz fz nw h
                  rw [fz] at this
                  cases this
                  rcases L.at0 with z | z
                  · exact .inl (by rw [h2]; exact z)
                  · exact .inr ⟨od, by rw [h2]; exact z⟩
                · rcases h with h | ⟨o, h⟩
                  · exact .inl (by rw [h1 a e]; exact h)
                  · exact .inr ⟨o, by rw [h1 a e]; exact h⟩
              · obtain ⟨n1, n2⟩ := fv hfr
                have np : ∀ a ∈ S', a ≠ p := fun a ha e => by
                  subst e
                  exact n1.nf a ha _ _ fz
                refine ⟨⟨n1.nod, n1.new, fun a ha o w k => ?_⟩, n2.mono tk2 fun a ha o k => ?_⟩
                · rw [h1 a (np a ha)] at k
                  exact n1.nf a ha o w k
                · rw [h1 a (np a ha)]; exact k
            | brk ρ' => rw [zl] at q; exact q.elim
            | ct ρ' => rw [zl] at q; exact q.elim
            | exc x ρ' => rw [zl] at q; exact q.elim
            | bad => rw [zl] at q; exact q.elim
          refine ⟨fun n m σ H' => m = xs.length - n ∧ n ≤ xs.length ∧ ∃ T2 ρ2, SIT (c.lock i p (T i)) H1 (WoL c i T) (AlL c i H0 Al T) T2 σ H' ρ2 ∧ Good (c.lock i p (T i)) W H1 (WoL c i T) (AlL c i H0 Al T) D.nx D.rt (fun _ _ => False) (fun _ _ => False) (forL g body (xs.drop n) ρ2),
            ⟨_, rfl, Nat.zero_le _, T, _, I1, goodB⟩, ?_⟩
          rintro n m σ2 H2 ⟨rfl, hle, T2, ρ2, I2, gd⟩
          have keep : ∀ a ∈ T i, H2 a = H1 a := fun a ha => by
            cases e : H1 a with
            | none => exact absurd (L.dom.mp e) (I.doms i a ha)
            | some o => exact I2.frm.keep a o (fun ⟨j, hj, hO, hm⟩ => I.dis i j hO (Ne.symm hj) a ha hm) e
          obtain ⟨w3, w4⟩ := wk H2 n I2.frm.tup keep
          cases e : xs[n]? with
          | none =>
            refine .inl ⟨w4 e, ?_⟩
            rw [List.drop_eq_nil_of_le (List.getElem?_eq_none_iff.mp e)] at gd
            exact gd σ2 H2 T2 I2
          | some x =>
            obtain ⟨hlt, hd⟩ := List.getElem?_eq_some_iff.mp e
            obtain ⟨go, yl⟩ := w3 x e
            refine .inr ⟨go, fun σ H' => ∃ T2 ρ2, SIT (c.lock i p (T i)) H1 (WoL c i T) (AlL c i H0 Al T) T2 σ H' ρ2 ∧ Good (c.lock i p (T i)) W H1 (WoL c i T) (AlL c i H0 Al T) D.nx D.rt (fun _ _ => False) (fun _ _ => False) (forL g body (xs.drop (n + 1)) ρ2),
              fun σ' H' nn => ⟨xs.length - (n + 1), by omega, rfl, hlt, nn⟩, fun y H3 hy => ?_⟩
            obtain ⟨s3, U, ry⟩ := yl y H3 hy
            have e0 := ry.im (imms_get im e)
            subst e0
            rw [List.drop_eq_getElem_cons hlt, hd] at gd
            unfold forL at gd
            cases z2 : g x ρ2 with
            | none => rw [z2] at gd; exact gd.elim
            | some ρ3 =>
              rw [z2] at gd
              dsimp only at gd
              refine hg p (T i) H1 _ _ T2 σ2 H3 ρ2 ρ3 x y [] _ (I2.same s3) ry (fun _ _ _ z => by cases z) (fun _ z => by cases z) z2 fun σ4 T4 I4 _ _ => ?_
              refine hb p (T i) H1 _ _ T4 σ4 H3 ρ3 _ _ _ _ I4 ?_
              cases z5 : body ρ3 with
              | nx ρ5 => rw [z5] at gd; exact fun σ' H' T' I' => ⟨T', ρ5, I', gd⟩
              | ct ρ5 => rw [z5] at gd; exact fun σ' H' T' I' => ⟨T', ρ5, I', gd⟩
              | brk ρ5 => rw [z5] at gd; exact gd
              | ret d5 ρ5 => rw [z5] at gd; exact gd
              | exc x ρ5 => rw [z5] at gd; exact gd
              | bad => rw [z5] at gd; exact gd
        rcases hu with hu | ⟨od, hu⟩
        · refine .inr ⟨p, u, hu, mu, fun od => main _ od ⟨fun a h => upd_ne h, upd_same, .inl hu, nu, nt⟩ _ (fun σ' H' fz k => ⟨fz, k _ (fun a h => upd_ne h) (by rw [upd_same, hu])⟩) (fun v H' fz k => ⟨fz, k _ (fun a h => upd_ne h) (by rw [upd_same, hu])⟩)⟩
        · refine .inl (main H od ⟨fun _ _ => rfl, hu, .inr hu, nu, nt⟩ _ (fun σ' H' fz k => k _ (fun _ _ => rfl) (fz.trans hu.symm)) (fun v H' fz k => k _ (fun _ _ => rfl) (fz.trans hu.symm)))
      · rw [if_neg im] at q; exact q.elim
end Ol
namespace Ol
open PySem PySem.Spec PyProof.Rows L2
/-! ## comprehensions over the keys of a dict at a slot -/
def itD (f : D → Option (List D)) (i : Nat) : Env → Res (List D) := fun ρ => match (ρ[i]?).join with
  | none => .bad
  | some d => match f d with
    | none => .bad
    | some xs => .ok xs ρ
theorem imm_kdKeys {d : D} {xs : List D} (e : kdKeys d = some xs) : ∀ (n : Nat) (x : D), xs[n]? = some x → imm x = true := by
  intro n x hx
  cases d with
  | dT kds =>
    cases e
    rw [List.getElem?_map] at hx
    cases z : kds[n]? with
    | none => rw [z] at hx; cases hx
    | some kd => rw [z] at hx; cases hx; exact imm_keysD
  | dK kds =>
    cases e
    rw [List.getElem?_map] at hx
    cases z : kds[n]? with
    | none => rw [z] at hx; cases hx
    | some kd => rw [z] at hx; cases hx; exact imm_keyD
  | _ => cases e
/-- walks that lay nothing down -/
def StayI (J : It) : Prop := ∀ i H x H', J.yld i H x H' → H' = H
structure WayK (K : PySem.W.Frag) (wi : TE → TI) (f : D → Option (List D)) : Prop where
  go : ∀ {σ : L2.St} {H1 : Hp} {p : Addr} {od : Obj} {u : HO} {d : D} {S : List Addr} {ds : List D} {te : TE} {R : It → Hp → Prop}, (∀ Q : VK, Q (.ref p) H1 → te σ H1 Q) → H1 p = some (.frz od u) → NFz u → Rep K H1 (.ref p) d S → f d = some ds → (∀ J, WKl K H1 S J ds → StayI J → R J H1) → wi te σ H1 R
theorem way_keysK {K : PySem.W.Frag} : WayK K iKeys kdKeys where
  go := by
    intro σ H1 p od u d S ds te R ht hp nu r e q
    have sT : ∀ {kvs : List (List Key × V)}, StayI (Itkt p od kvs) := fun i H x H' y => y.1
    have sK : ∀ {kvs : List (Key × V)}, StayI (Itk p od kvs) := fun i H x H' y => y.1
    exact way_keys.go (R := fun J H => StayI J → R J H) (te := te) ht hp nu r e (fun J w s => q J w s) |> fun h => by
      have : iKeys te σ H1 R := by
        refine ht _ ⟨p, od, rfl, ?_⟩
        cases d with
        | dT kds =>
          cases r with
          | @dT _ kvs _ S' h1 h2 =>
            have hp' := rd_frz hp nfz_dT h1
            refine .inr ⟨kvs, hp', ?_⟩
            refine q _ ?_ sT
            have := way_keys.go (K := K) (σ := σ) (H1 := H1) (p := p) (od := od) (u := u) (te := fun σ H Q => Q (.ref p) H) (R := fun J _ => J = Itkt p od kvs → WKl K H1 (p :: S') J ds) (fun Q h => h) hp nu (Rep.dT h1 h2) e (fun J w _ => w)
            obtain ⟨p', o', e1, ⟨kvs', e2, e3⟩ | ⟨kvs', e2, e3⟩⟩ := this
            · cases e1
              rw [hp'] at e2
              cases e2
            · cases e1
              rw [hp'] at e2
              cases e2
              exact e3 rfl
        | dK kds =>
          cases r with
          | @dK _ kvs _ S' h1 h2 =>
            have hp' := rd_frz hp nfz_dK h1
            refine .inl ⟨kvs, hp', ?_⟩
            refine q _ ?_ sK
            have := way_keys.go (K := K) (σ := σ) (H1 := H1) (p := p) (od := od) (u := u) (te := fun σ H Q => Q (.ref p) H) (R := fun J _ => J = Itk p od kvs → WKl K H1 (p :: S') J ds) (fun Q h => h) hp nu (Rep.dK h1 h2) e (fun J w _ => w)
            obtain ⟨p', o', e1, ⟨kvs', e2, e3⟩ | ⟨kvs', e2, e3⟩⟩ := this
            · cases e1
              rw [hp'] at e2
              cases e2
              exact e3 rfl
            · cases e1
              rw [hp'] at e2
              cases e2
        | _ => cases e
      exact this
theorem hioL {i : Nat} {vs l : List Nat} (h : (vs.all fun j => !(i :: l).contains j) = true) : ∀ j ∈ vs, (i :: l).contains j = false := fun j hj => by
  have := List.all_eq_true.mp h j hj
  simpa using this
theorem se_compD {c : C0} {W : WX} {tg : TG} {g : D → Env → Option Env} {sl vs : List Nat} {tt : TT} {t : Env → Res Bool} {te : TE} {e : Env → Res D} (i : Nat) (hg : ∀ p S, SG (c.lock i p S) tg g sl) (hsl : sl = vs) (ht : ∀ p S, ST (c.lock i p S) W0 tt t true) (he : ∀ p S, SE (c.lock i p S) W0 te e true true)
    (hio : ∀ j ∈ vs, (i :: c.ios).contains j = false) : SE c W (tWalkE (tLc (iKeys (tVar i)) tg tt te vs)) (eComp (itD kdKeys i) vs false g t e) true true := fun H0 Wd Al T σ H ρ Q I q => by
  cases z : (ρ[i]?).join with
  | none => unfold eComp itD at q; rw [z] at q; exact q.elim
  | some d =>
    cases zf : kdKeys d with
    | none => unfold eComp itD at q; simp only [z, zf] at q; exact q.elim
    | some xs =>
      have eit : itD kdKeys i ρ = .ok xs ρ := by unfold itD; rw [z]; dsimp only; rw [zf]
      obtain ⟨v, hv, r⟩ := I.slot z
      obtain ⟨p, u, rfl, hp, hu, nu, nt, mu⟩ := rep_dict (.inl rfl) r zf
      have main : ∀ (H1 : Hp) (od : Obj), Lkd H H1 p od u → ∀ Q1 : VK, (∀ v H', H' p = some (.frz od u) → (∀ H2, (∀ a, a ≠ p → H2 a = H' a) → H2 p = H p → Q v H2) → Q1 v H') → tLc (iKeys (tVar i)) tg tt te vs σ H1 Q1 := by
        intro H1 od L Q1 hQ
        have I1 := I.lockIn hv hp L
        have r1 : Rep c.K H1 (.ref p) d (T i) := r.monoR L.tk fun a _ w nw h => L.rd nw h
        refine comp_core (c := c.lock i p (T i)) (it := itD kdKeys i) (pu := true) (de := true) (chk := false) (g := g) (t := t) (e := e) (H0 := H1) (Wd := WoL c i T) (Al := AlL c i H0 Al T) (T := T) (ρ := ρ) (Wx := fun _ _ => False) (fun R h => ?_) rfl (hg p (T i)) hsl (ht p (T i)) (he p (T i)) hio ?_
        · rw [eit] at h
          dsimp only at h
          refine way_keysK.go (K := c.K) (te := tVar i) (fun Q hQ => ⟨.ref p, hv, hQ⟩) L.at1 nu r1 zf fun J wk st => ?_
          have keepS : ∀ H2 : Hp, (∀ a ∈ T i, ∀ o, H1 a = some o → H2 a = some o) → ∀ a ∈ T i, H2 a = H1 a := fun H2 k a ha => by
            cases e : H1 a with
            | none => exact absurd (L.dom.mp e) (I.doms i a ha)
            | some o => exact k a ha o e
          have w : ∀ (H2 : Hp) (n : Nat), Tk H1 H2 → (∀ a ∈ T i, H2 a = H1 a) → (∀ d, xs[n]? = some d → J.go n H2 ∧ ∀ x H3, J.yld n H2 x H3 → H3 = H2 ∧ Rep c.K H2 x d []) ∧ (xs[n]? = none → J.stop n H2) := fun H2 n tk k => by
            obtain ⟨a, b⟩ := wk H2 n tk k
            refine ⟨fun d hd => ⟨(a d hd).1, fun x H3 y => ?_⟩, b⟩
            obtain ⟨s, U, ry⟩ := (a d hd).2 x H3 y
            have e3 := st n H2 x H3 y
            subst e3
            have e0 := ry.im (imm_kdKeys zf n d hd)
            subst e0
            exact ⟨rfl, ry⟩
          refine h J H1 T I1 Grw.refl (fun _ _ z => .inl z) (fun _ => ⟨rfl, Same.refl _, rfl⟩) (fun H2 n s => ?_) fun _ H2 n fr => ?_
          · obtain ⟨a, b⟩ := w H2 n (Tk.same s) (keepS H2 fun a _ o e => s a o e)
            exact ⟨fun d hd => ⟨(a d hd).1, fun x H3 y => ⟨((a d hd).2 x H3 y).1, [], ((a d hd).2 x H3 y).2, fun _ z => by cases z⟩⟩, b⟩
          · obtain ⟨a, b⟩ := w H2 n fr.tup (keepS H2 fun a ha o e => fr.keep a o (fun ⟨j, hj, hm⟩ => I.dis i j (lockO hj).2 (Ne.symm (lockO hj).1) a ha hm) e)
            exact ⟨fun d hd => ⟨(a d hd).1, fun x H3 y => ⟨((a d hd).2 x H3 y).1, [], ((a d hd).2 x H3 y).2, fun _ z => by cases z⟩⟩, b⟩
        · cases ze : eComp (itD kdKeys i) vs false g t e ρ with
          | bad => rw [ze] at q; exact q
          | exc x ρ' =>
            unfold eComp at ze
            rw [eit, Res.bind_ok] at ze
            by_cases hl : xs.length < 16777216
            · rw [if_pos hl] at ze
              cases zc : compL false g t e (wipeE ρ vs) xs <;> rw [zc] at ze <;> cases ze
            · rw [if_neg hl] at ze; cases ze
          | ok d' ρ' =>
            rw [ze] at q
            intro v' H' T' S' J' rv g' nw' p' nv
            obtain ⟨e1, s1, e2⟩ := p' rfl
            subst e1 e2
            have N := nv rfl
            refine hQ v' H' (s1 _ _ L.at1) fun H2 h1 h2 => ?_
            have o := (I.lockOut hv hp L J' h1 h2).1
            have es : ρ'.set i (ρ'[i]?).join = ρ' := set_self
            rw [es] at o
            have np : ∀ a ∈ S', a ≠ p := fun a ha e => by
              have := N.nw.new a ha
              rw [e, L.at1] at this
              cases this
            have fz : H' p = some (.frz od u) := s1 _ _ L.at1
            have tk2 : Tk H' H2 := fun a ys e => by
              have : a ≠ p := fun z => by rw [z, fz] at e; cases e
              rw [h1 a this]; exact e
            have sHH : Same H H2 := fun a o e => by
              by_cases z : a = p
              · rw [z, h2, ← z]; exact e
              · rw [h1 a z]
                exact s1 a o (by rw [L.out a z]; exact e)
            refine q v' H2 T' S' o (rv.mono tk2 fun a ha o k => by rw [h1 a (np a ha)]; exact k) (Grw.same sHH) (fun _ _ z => .inl z) (fun _ => ⟨rfl, sHH, rfl⟩) fun _ => ⟨⟨N.nw.nod, fun a ha => L.dom.mp (N.nw.new a ha), fun a ha o w k => ?_⟩, N.top.mono tk2 fun a ha o k => ?_, N.dis⟩
            · rw [h1 a (np a ha)] at k
              exact N.nw.nf a ha o w k
            · rw [h1 a (np a ha)]; exact k
      rcases hu with hu | ⟨od, hu⟩
      · exact .inr ⟨p, u, hu, mu, fun od => main _ od ⟨fun a h => upd_ne h, upd_same, .inl hu, nu, nt⟩ _ fun v H' fz k => ⟨fz, k _ (fun a h => upd_ne h) (by rw [upd_same, hu])⟩⟩
      · exact .inl (main H od ⟨fun _ _ => rfl, hu, .inr hu, nu, nt⟩ _ fun v H' fz k => k _ (fun _ _ => rfl) (fz.trans hu.symm))
end Ol
namespace Ol
open PySem PySem.Spec PyProof.Rows L2
/-! ## dicts: keys, tables of plain values -/
def keyOf : D → Option Key
  | .int i => some (.inl i)
  | .str z => some (.inr z)
  | _ => none
def keysOf : List D → Option (List Key)
  | [] => some []
  | d :: ds => (keyOf d).bind fun k => (keysOf ds).map (k :: ·)
def firstS : List D → Bool
  | .str _ :: _ => true
  | _ => false
/-- a tuple as a key -/
def keyT : D → Option (List Key)
  | .tup ks => if firstS ks = true then none else keysOf ks
  | _ => none
section
variable {κ : Type} [DecidableEq κ]
def valD (kvs : List (κ × D)) (k : κ) : Option D := (kvs.find? fun kv => decide (kv.1 = k)).map (·.2)
def putD (kvs : List (κ × D)) (k : κ) (d : D) : List (κ × D) := if (kvs.any fun kv => decide (kv.1 = k)) = true then kvs.map (fun kv => if kv.1 = k then (kv.1, d) else kv) else kvs ++ [(k, d)]
def dropD (kvs : List (κ × D)) (k : κ) : List (κ × D) := kvs.filter fun kv => decide (kv.1 ≠ k)
end
theorem keyOf_rep {K : PySem.W.Frag} {H : Hp} {v : V} {d : D} {S : List Addr} {k : Key} (r : Rep K H v d S) (e : keyOf d = some k) : v = kV k ∧ S = [] := by
  cases d with
  | int i => cases e; exact rep_int r
  | str z => cases e; exact rep_str r
  | _ => cases e
theorem keysOf_reps {K : PySem.W.Frag} {H : Hp} : ∀ {ds : List D} {vs : List V} {S : List Addr} {k : List Key}, Reps K H vs ds S → keysOf ds = some k → vs = k.map kV ∧ S = []
  | [], _, _, _, r, e => by
    cases r
    cases e
    exact ⟨rfl, rfl⟩
  | d :: ds, _, _, _, r, e => by
    cases r with
    | cons r1 r2 =>
      unfold keysOf at e
      cases z : keyOf d with
      | none => rw [z] at e; cases e
      | some k1 =>
        rw [z, Option.bind_some] at e
        cases z2 : keysOf ds with
        | none => rw [z2] at e; cases e
        | some ks =>
          rw [z2] at e
          cases e
          obtain ⟨rfl, rfl⟩ := keyOf_rep r1 z
          obtain ⟨rfl, rfl⟩ := keysOf_reps r2 z2
          exact ⟨rfl, rfl⟩
theorem last_kV : ∀ (k : List Key), (k.map kV).getLast? ≠ some V.non
  | [], h => by cases h
  | [.inl _], h => by simp [kV] at h
  | [.inr _], h => by simp [kV] at h
  | _ :: b :: r, h => by
    rw [List.map_cons, List.map_cons, List.getLast?_cons_cons] at h
    exact last_kV (b :: r) h
theorem keyT_rep {K : PySem.W.Frag} {H : Hp} {v : V} {d : D} {S : List Addr} {k : List Key} (r : Rep K H v d S) (e : keyT d = some k) : ∃ b, v = .ref b ∧ H b = some (.tup (k.map kV)) ∧ S = [] := by
  cases d with
  | tup ks =>
    have e : (if firstS ks = true then none else keysOf ks) = some k := e
    by_cases hf : firstS ks = true
    · rw [if_pos hf] at e; cases e
    · rw [if_neg hf] at e
      obtain ⟨a, xs, rfl, h1, h2⟩ := rep_tupR r
      obtain ⟨rfl, rfl⟩ := keysOf_reps h2 e
      refine ⟨a, rfl, ?_, rfl⟩
      rcases h1 with h1 | ⟨h1, _⟩
      · exact h1
      · exfalso
        unfold constV at h1
        rcases (Bool.or_eq_true _ _).mp h1 with h1 | h1
        · cases k with
          | nil => cases h1
          | cons k0 k =>
            cases k0 with
            | inl i => cases h1
            | inr z =>
              cases ks with
              | nil => cases h2
              | cons d0 ks =>
                unfold keysOf at e
                cases d0 with
                | str _ => exact hf rfl
                | int i =>
                  simp only [keyOf, Option.bind_some] at e
                  cases z2 : keysOf ks with
                  | none => rw [z2] at e; cases e
                  | some w => rw [z2] at e; cases e
                | _ => cases e
        · split at h1
          · rename_i z
            exact last_kV k z
          · cases h1
  | _ => cases e
theorem valV_some {κ : Type} [DecidableEq κ] {kvs : List (κ × V)} {k : κ} {v : V} (h : valV kvs k = some v) : ∃ n : Nat, kvs[n]? = some (k, v) := by
  unfold valV at h
  obtain ⟨p, hp, rfl⟩ := Option.map_eq_some_iff.mp h
  have hm := List.mem_of_find?_eq_some hp
  obtain ⟨n, hn⟩ := List.getElem?_of_mem hm
  have := List.find?_some hp
  have e : p.1 = k := by simpa using this
  exact ⟨n, by rw [hn, ← e]⟩
theorem RepT.val {K : PySem.W.Frag} {H : Hp} {k : List Key} : ∀ {kvs : List (List Key × V)} {ds : List (List Key × D)} {S : List Addr}, RepT K H kvs ds S →
    (match valD ds k with
      | none => valV kvs k = none
      | some d => ∃ v U, valV kvs k = some v ∧ Rep K H v d U ∧ ∀ a ∈ U, a ∈ S)
  | [], _, _, h => by cases h; rfl
  | (k1, v) :: kvs, _, _, h => by
    cases h with
    | @cons _ _ _ d ds S1 S2 h1 h2 =>
      have ih := RepT.val (k := k) h2
      by_cases e : k1 = k
      · have e1 : valD ((k1, d) :: ds) k = some d := by unfold valD; rw [List.find?_cons_of_pos (by simpa using e)]; rfl
        rw [e1]
        exact ⟨v, S1, valV_pos (p := (k1, v)) e, h1, fun a ha => List.mem_append_left _ ha⟩
      · have e1 : valD ((k1, d) :: ds) k = valD ds k := by unfold valD; rw [List.find?_cons_of_neg (by simpa using e)]
        rw [e1, valV_neg (p := (k1, v)) e]
        cases z : valD ds k with
        | none => rw [z] at ih; exact ih
        | some d' =>
          rw [z] at ih
          obtain ⟨v', U, a, b, c⟩ := ih
          exact ⟨v', U, a, b, fun x hx => List.mem_append_right _ (c x hx)⟩
theorem RepK.val {K : PySem.W.Frag} {H : Hp} {k : Key} : ∀ {kvs : List (Key × V)} {ds : List (Key × D)} {S : List Addr}, RepK K H kvs ds S →
    (match valD ds k with
      | none => valV kvs k = none
      | some d => ∃ v U, valV kvs k = some v ∧ Rep K H v d U ∧ ∀ a ∈ U, a ∈ S)
  | [], _, _, h => by cases h; rfl
  | (k1, v) :: kvs, _, _, h => by
    cases h with
    | @cons _ _ _ d ds S1 S2 h1 h2 =>
      have ih := RepK.val (k := k) h2
      by_cases e : k1 = k
      · have e1 : valD ((k1, d) :: ds) k = some d := by unfold valD; rw [List.find?_cons_of_pos (by simpa using e)]; rfl
        rw [e1]
        exact ⟨v, S1, valV_pos (p := (k1, v)) e, h1, fun a ha => List.mem_append_left _ ha⟩
      · have e1 : valD ((k1, d) :: ds) k = valD ds k := by unfold valD; rw [List.find?_cons_of_neg (by simpa using e)]
        rw [e1, valV_neg (p := (k1, v)) e]
        cases z : valD ds k with
        | none => rw [z] at ih; exact ih
        | some d' =>
          rw [z] at ih
          obtain ⟨v', U, a, b, c⟩ := ih
          exact ⟨v', U, a, b, fun x hx => List.mem_append_right _ (c x hx)⟩
/-- what a dict holds at a key; nothing where d is no dict -/
def getD : D → D → Option (Option D)
  | .dT kvs, e => (keyT e).map (valD kvs)
  | .dK kvs, e => (keyOf e).map (valD kvs)
  | _, _ => none
theorem rep_dT {K : PySem.W.Frag} {H : Hp} {v : V} {ds : List (List Key × D)} {S : List Addr} (r : Rep K H v (.dT ds) S) : ∃ p kvs S1, v = .ref p ∧ S = p :: S1 ∧ Rd H p (.dT kvs) ∧ RepT K H kvs ds S1 := by
  cases r with
  | dT h1 h2 => exact ⟨_, _, _, rfl, rfl, h1, h2⟩
theorem rep_dK {K : PySem.W.Frag} {H : Hp} {v : V} {ds : List (Key × D)} {S : List Addr} (r : Rep K H v (.dK ds) S) : ∃ p kvs S1, v = .ref p ∧ S = p :: S1 ∧ Rd H p (.dK kvs) ∧ RepK K H kvs ds S1 := by
  cases r with
  | dK h1 h2 => exact ⟨_, _, _, rfl, rfl, h1, h2⟩
def OGet (K : PySem.W.Frag) (H : Hp) (S : List Addr) (o : Option D) (o' : Option V) : Prop := match o with
  | none => o' = none
  | some z => ∃ v U, o' = some v ∧ Rep K H v z U ∧ ∀ a ∈ U, a ∈ S
theorem OGet.isSome {K : PySem.W.Frag} {H : Hp} {S : List Addr} {o : Option D} {o' : Option V} (m : OGet K H S o o') : o'.isSome = o.isSome := by
  cases o with
  | none => rw [show o' = none from m]; rfl
  | some z => obtain ⟨v, U, e, _⟩ := m; rw [e]; rfl
theorem dget_of {K : PySem.W.Frag} {H : Hp} {x y : V} {d e : D} {S S2 : List Addr} {o : Option D} (r1 : Rep K H x d S) (r2 : Rep K H y e S2) (h : getD d e = some o) :
    ∃ p o', x = .ref p ∧ DGet H p y o' ∧ OGet K H S o o' := by
  cases d with
  | dT ds =>
    obtain ⟨k, hk, rfl⟩ := Option.map_eq_some_iff.mp h
    obtain ⟨p, kvs, S1, rfl, rfl, h1, h2⟩ := rep_dT r1
    obtain ⟨b, rfl, hb, _⟩ := keyT_rep r2 hk
    refine ⟨p, valV kvs k, rfl, .inr ⟨kvs, k, b, h1, rfl, hb, rfl⟩, ?_⟩
    have := h2.val (k := k)
    unfold OGet
    cases z : valD ds k with
    | none => rw [z] at this; exact this
    | some d =>
      rw [z] at this
      obtain ⟨v, U, a, b, c⟩ := this
      exact ⟨v, U, a, b, fun x hx => List.mem_cons_of_mem _ (c x hx)⟩
  | dK ds =>
    obtain ⟨k, hk, rfl⟩ := Option.map_eq_some_iff.mp h
    obtain ⟨p, kvs, S1, rfl, rfl, h1, h2⟩ := rep_dK r1
    obtain ⟨rfl, _⟩ := keyOf_rep r2 hk
    refine ⟨p, valV kvs k, rfl, .inl ⟨kvs, k, h1, rfl, rfl⟩, ?_⟩
    have := h2.val (k := k)
    unfold OGet
    cases z : valD ds k with
    | none => rw [z] at this; exact this
    | some d =>
      rw [z] at this
      obtain ⟨v, U, a, b, c⟩ := this
      exact ⟨v, U, a, b, fun x hx => List.mem_cons_of_mem _ (c x hx)⟩
  | _ => cases h
/-! d[k] -/
def rIxDc : R2 := fun x y H Q => ∃ a v, x = .ref a ∧ DGet H a y (some v) ∧ Q v H
theorem ix_dict {X : Cx} (hu : X.A.units + 1 < cLine) : IxR X rIxDc := by
  intro value slice pins s σ H x y v u Q I rx ry h hs
  obtain ⟨a, w, rfl, g, q⟩ := h
  obtain rfl : v = Value.ref a := rx
  exact tail_any (dict_typeIs I g) PySem.F.slot_dict_getitem.lookup (d_getItem hu I g ry fun w' s3 I3 rw' => ⟨w, H, I3, rw', q⟩) hs
theorem ix_U {X : Cx} {K : PySem.W.Frag} (hu : X.A.units + 65 < cLine) (hK : X.K = K := by rfl) : IxR X (rOr (rIx K) rIxDc) := fun value slice pins s σ H x y v u Q I rx ry h hs =>
  h.elim (fun h => ix_seqK hK value slice pins s σ H x y v u Q I rx ry h hs) fun h => ix_dict (by omega) value slice pins s σ H x y v u Q I rx ry h hs
def ixU (d e : D) : Option D := match getD d e with
  | some o => o
  | none => ixD d e
theorem ops_ixU {K : PySem.W.Frag} : OpS K (rOr (rIx K) rIxDc) ixU false := fun H x y d e z S S2 Q r1 r2 e1 q => by
  unfold ixU at e1
  cases h : getD d e with
  | none =>
    rw [h] at e1
    exact .inl (ops_ix H x y d e z S S2 Q r1 r2 e1 q)
  | some o =>
    rw [h] at e1
    dsimp only at e1
    subst e1
    obtain ⟨p, o', rfl, g, v, U, rfl, r, _⟩ := dget_of r1 r2 h
    exact .inr ⟨p, v, rfl, g, q v H U r (Same.refl _) fun z => by cases z⟩
/-! k in d -/
def rInDc (neg : Bool) : R2 := fun x y H Q => ∃ a o, y = .ref a ∧ DGet H a x o ∧ Q (.bl (if neg = true then !o.isSome else o.isSome)) H
theorem op_inDc {X : Cx} (hu : X.A.units + 1 < cLine) : OpR X (compareOp .In) (rInDc false) := fun pins s σ H x y v u Q I rx ry q => by
  obtain ⟨a, o, rfl, g, q⟩ := q
  obtain rfl : u = Value.ref a := ry
  exact d_in hu I g rx fun s3 I3 => ⟨.bl o.isSome, H, I3, rfl, q⟩
theorem op_ninDc {X : Cx} (hu : X.A.units + 1 < cLine) : OpR X (compareOp .NotIn) (rInDc true) := fun pins s σ H x y v u Q I rx ry q => by
  obtain ⟨a, o, rfl, g, q⟩ := q
  obtain rfl : u = Value.ref a := ry
  exact d_notIn hu I g rx fun s3 I3 => ⟨.bl (!o.isSome), H, I3, rfl, q⟩
theorem op_inV {X : Cx} {K : PySem.W.Frag} (hu : X.A.units + 65 < cLine) (hK : X.K = K := by rfl) : OpR X (compareOp .In) (rOr (rInU K false) (rInDc false)) := op_or2 (op_inU hu hK) (op_inDc (by omega))
theorem op_ninV {X : Cx} {K : PySem.W.Frag} (hu : X.A.units + 65 < cLine) (hK : X.K = K := by rfl) : OpR X (compareOp .NotIn) (rOr (rInU K true) (rInDc true)) := op_or2 (op_ninU hu hK) (op_ninDc (by omega))
def inVd (x y : D) : Option D := match getD y x with
  | some o => some (.bl o.isSome)
  | none => inD x y
def ninVd (x y : D) : Option D := match getD y x with
  | some o => some (.bl (!o.isSome))
  | none => ninD x y
theorem ops_inV {K : PySem.W.Frag} : OpS K (rOr (rInU K false) (rInDc false)) inVd true := fun H x y d e z S S2 Q r1 r2 e1 q => by
  unfold inVd at e1
  cases h : getD e d with
  | none => rw [h] at e1; exact .inl (ops_in H x y d e z S S2 Q r1 r2 e1 q)
  | some o =>
    rw [h] at e1
    cases e1
    obtain ⟨p, o', rfl, g, m⟩ := dget_of r2 r1 h
    have := m.isSome
    refine .inr ⟨p, o', rfl, g, ?_⟩
    rw [if_neg Bool.false_ne_true, this]
    exact q _ H [] (.bl _) (Same.refl _) fun _ => ⟨Nw.nil, trivial⟩
theorem ops_ninV {K : PySem.W.Frag} : OpS K (rOr (rInU K true) (rInDc true)) ninVd true := fun H x y d e z S S2 Q r1 r2 e1 q => by
  unfold ninVd at e1
  cases h : getD e d with
  | none => rw [h] at e1; exact .inl (ops_nin H x y d e z S S2 Q r1 r2 e1 q)
  | some o =>
    rw [h] at e1
    cases e1
    obtain ⟨p, o', rfl, g, m⟩ := dget_of r2 r1 h
    have := m.isSome
    refine .inr ⟨p, o', rfl, g, ?_⟩
    rw [if_pos rfl, this]
    exact q _ H [] (.bl _) (Same.refl _) fun _ => ⟨Nw.nil, trivial⟩
/-! len(d) -/
def rLenDc : List V → Hp → VK → Prop := fun xs H Q => ∃ p, xs = [V.ref p] ∧ ((∃ kvs : List (List Key × V), Rd H p (.dT kvs) ∧ Q (.int ((kvs.length : Nat) : Int)) H) ∨ ∃ kvs : List (Key × V), Rd H p (.dK kvs) ∧ Q (.int ((kvs.length : Nat) : Int)) H)
theorem call_lenDc {X : Cx} : CallR X (.builtin "len") rLenDc := by
  intro pins s σ H xs us Q I r h
  obtain ⟨p, rfl, h⟩ := h
  obtain ⟨u, rfl, rx⟩ := vals1 r
  obtain rfl : u = .ref p := rx
  rcases h with ⟨kvs, hp, q⟩ | ⟨kvs, hp, q⟩
  · obtain ⟨z, hd, ys, rel, dd⟩ := dt_rd I.hok hp
    have hl : kvs.length = ys.length := Paired.length rel
    refine call_len_dictH hd dd (by rw [← hl]; rw [sizeLine_eq] at z; omega) ?_
    rw [← hl]
    exact ⟨.int ((kvs.length : Nat) : Int), H, I.tok _, ⟨_, rfl⟩, q⟩
  · exact d_len I hp fun t s' I' => ⟨.int kvs.length, H, I', ⟨t, rfl⟩, q⟩
end Ol
namespace Ol
open PySem PySem.Spec PyProof.Rows L2
/-! ## dicts: new ones, get, d[k] = v, pop, clear -/
section
variable {c : C0} {W : WX} {ta tb td te : TE} {a b e : Env → Res D} {pu pa pb fa fb fr : Bool}
theorem se_newT : SE c W tDNewT (eC (.dT [])) true true := fun H0 Wd Al T σ H ρ Q I q p hp => by
  have s := Same.new (o := HO.dT []) hp
  refine q (.ref p) _ T [p] (I.same s) (.dT (.inl upd_same) .nil) (Grw.same s) (fun _ _ z => .inl z) (fun _ => ⟨rfl, s, rfl⟩) fun _ => ⟨⟨by simp, fun a ha => ?_, fun a ha => ?_⟩, ⟨p, [], [], rfl, rfl, upd_same, .nil⟩, fun i a ha k => ?_⟩
  · have e : a = p := by simpa using ha
    rw [e]; exact hp
  · have e : a = p := by simpa using ha
    subst e
    intro o u k; rw [upd_same] at k; cases k
  · have e : a = p := by simpa using ha
    subst e
    exact I.doms i _ k hp
theorem se_newK : SE c W tDNewK (eC (.dK [])) true true := fun H0 Wd Al T σ H ρ Q I q p hp => by
  have s := Same.new (o := HO.dK []) hp
  refine q (.ref p) _ T [p] (I.same s) (.dK (.inl upd_same) .nil) (Grw.same s) (fun _ _ z => .inl z) (fun _ => ⟨rfl, s, rfl⟩) fun _ => ⟨⟨by simp, fun a ha => ?_, fun a ha => ?_⟩, ⟨p, [], [], rfl, rfl, upd_same, .nil⟩, fun i a ha k => ?_⟩
  · have e : a = p := by simpa using ha
    rw [e]; exact hp
  · have e : a = p := by simpa using ha
    subst e
    intro o u k; rw [upd_same] at k; cases k
  · have e : a = p := by simpa using ha
    subst e
    exact I.doms i _ k hp
/-! d.get(k), d.get(k, x): the dict, the key and x are pure -/
def isDc : D → Bool
  | .dT _ => true
  | .dK _ => true
  | _ => false
def eGet1 (a b : Env → Res D) : Env → Res D := fun ρ => (a ρ).bind fun d ρ1 => if isDc d = true then (b ρ1).bind fun k ρ2 => match getD d k with
  | some o => .ok (o.getD .non) ρ2
  | none => .bad
  else .bad
def eGet2 (a b e : Env → Res D) : Env → Res D := fun ρ => (a ρ).bind fun d ρ1 => if isDc d = true then (b ρ1).bind fun k ρ2 => (e ρ2).bind fun x ρ3 => match getD d k with
  | some o => .ok (o.getD x) ρ3
  | none => .bad
  else .bad
theorem isD_rep {K : PySem.W.Frag} {H : Hp} {v : V} {d : D} {S : List Addr} (r : Rep K H v d S) (h : isDc d = true) : ∃ p, v = .ref p ∧ IsD H p := by
  cases d with
  | dT ds =>
    obtain ⟨p, kvs, S1, rfl, _, h1, _⟩ := rep_dT r
    exact ⟨p, rfl, .inr ⟨_, h1⟩⟩
  | dK ds =>
    obtain ⟨p, kvs, S1, rfl, _, h1, _⟩ := rep_dK r
    exact ⟨p, rfl, .inl ⟨_, h1⟩⟩
  | _ => cases h
theorem se_get1 (ha : SE c W ta a true fa) (hb : SE c W tb b true fb) : SE c W (tDGet1 ta tb) (eGet1 a b) true false := fun H0 Wd Al T σ H ρ Q I q => ha H0 Wd Al T σ H ρ _ I (by
  unfold eGet1 at q
  cases z : a ρ with
  | bad => rw [z] at q; exact q
  | exc x ρ' => rw [z] at q; exact q
  | ok d ρ1 =>
    rw [z, Res.bind_ok] at q
    intro v H1 T1 S I1 r1 g1 nw1 p1 f1
    obtain ⟨e1, s1, t1⟩ := p1 rfl
    by_cases hd : isDc d = true
    · rw [if_pos hd] at q
      obtain ⟨p, rfl, hp⟩ := isD_rep r1 hd
      refine ⟨p, rfl, hp, hb H0 Wd Al T1 σ H1 ρ1 _ I1 ?_⟩
      cases z2 : b ρ1 with
      | bad => rw [z2] at q; exact q
      | exc x ρ' => rw [z2] at q; exact q
      | ok k ρ2 =>
        rw [z2, Res.bind_ok] at q
        intro u H2 T2 S2 I2 r2 g2 nw2 p2 f2
        obtain ⟨e2, s2, t2⟩ := p2 rfl
        cases z3 : getD d k with
        | none => rw [z3] at q; exact q.elim
        | some o =>
          rw [z3] at q
          dsimp only at q
          obtain ⟨p', o', e3, g, m⟩ := dget_of (r1.same s2) r2 z3
          cases e3
          refine ⟨o', g, ?_⟩
          have fin : ∀ {v : V} {d : D} {U : List Addr}, Rep c.K H2 v d U → o.getD .non = d → Q v H2 := fun {v d U} r e => by
            subst e
            exact q v H2 T2 U I2 r (g1.trans g2) (fun i a ha => (nw2 i a ha).elim (nw1 i a) fun h => .inr (g1.dom a h)) (fun _ => ⟨e2.trans e1, s1.trans s2, t2.trans t1⟩) fun z => by cases z
          cases o with
          | none => rw [show o' = none from m]; exact fin .non rfl
          | some zz =>
            obtain ⟨w, U, e, r, _⟩ := m
            rw [e]
            exact fin r rfl
    · rw [if_neg hd] at q; exact q.elim)
theorem se_get2 (ha : SE c W ta a true fa) (hb : SE c W tb b true fb) (he : SE c W te e true fr) : SE c W (tDGet2 ta tb te) (eGet2 a b e) true false := fun H0 Wd Al T σ H ρ Q I q => ha H0 Wd Al T σ H ρ _ I (by
  unfold eGet2 at q
  cases z : a ρ with
  | bad => rw [z] at q; exact q
  | exc x ρ' => rw [z] at q; exact q
  | ok d ρ1 =>
    rw [z, Res.bind_ok] at q
    intro v H1 T1 S I1 r1 g1 nw1 p1 f1
    obtain ⟨e1, s1, t1⟩ := p1 rfl
    by_cases hd : isDc d = true
    · rw [if_pos hd] at q
      obtain ⟨p, rfl, hp⟩ := isD_rep r1 hd
      refine ⟨p, rfl, hp, hb H0 Wd Al T1 σ H1 ρ1 _ I1 ?_⟩
      cases z2 : b ρ1 with
      | bad => rw [z2] at q; exact q
      | exc x ρ' => rw [z2] at q; exact q
      | ok k ρ2 =>
        rw [z2, Res.bind_ok] at q
        intro u H2 T2 S2 I2 r2 g2 nw2 p2 f2
        obtain ⟨e2, s2, t2⟩ := p2 rfl
        refine he H0 Wd Al T2 σ H2 ρ2 _ I2 ?_
        cases z4 : e ρ2 with
        | bad => rw [z4] at q; exact q
        | exc x ρ' => rw [z4] at q; exact q
        | ok x ρ3 =>
          rw [z4, Res.bind_ok] at q
          intro u3 H3 T3 S3 I3 r3 g3 nw3 p3 f3
          obtain ⟨e3, s3, t3⟩ := p3 rfl
          cases z3 : getD d k with
          | none => rw [z3] at q; exact q.elim
          | some o =>
            rw [z3] at q
            dsimp only at q
            obtain ⟨p', o', e5, g, m⟩ := dget_of (r1.same (s2.trans s3)) (r2.same s3) z3
            cases e5
            refine ⟨o', g, ?_⟩
            have fin : ∀ {v : V} {d : D} {U : List Addr}, Rep c.K H3 v d U → o.getD x = d → Q v H3 := fun {v d U} r e => by
              subst e
              exact q v H3 T3 U I3 r ((g1.trans g2).trans g3) (fun i a ha => (nw3 i a ha).elim (fun h => (nw2 i a h).elim (nw1 i a) fun h => .inr (g1.dom a h)) fun h => .inr (g1.dom a (g2.dom a h))) (fun _ => ⟨e3.trans (e2.trans e1), (s1.trans s2).trans s3, t3.trans (t2.trans t1)⟩) fun z => by cases z
            cases o with
            | none => rw [show o' = none from m]; exact fin r3 rfl
            | some zz =>
              obtain ⟨w, U, e, r, _⟩ := m
              rw [e]
              exact fin r rfl
    · rw [if_neg hd] at q; exact q.elim)
end
/-! d[k] = v: the footprint behind it -/
theorem RepT.keysAny {K : PySem.W.Frag} {H : Hp} {kvs : List (List Key × V)} {ds : List (List Key × D)} {S : List Addr} (h : RepT K H kvs ds S) (k : List Key) : (ds.any fun kv => decide (kv.1 = k)) = (kvs.any fun kv => decide (kv.1 = k)) := by
  have keys := h.ok.1
  have h1 : ∀ {γ : Type} (l : List (List Key × γ)), (l.any fun kv => decide (kv.1 = k)) = ((l.map (·.1)).any fun x => decide (x = k)) := fun l => by rw [List.any_map]; rfl
  rw [h1, h1, keys]
theorem RepT.repl {K : PySem.W.Frag} {H : Hp} {k : List Key} {v : V} {d : D} (rv : Rep K H v d []) : ∀ {kvs : List (List Key × V)} {ds : List (List Key × D)} {S : List Addr}, RepT K H kvs ds S → S.Nodup →
    ∃ S', RepT K H (kvs.map fun kv => if kv.1 = k then (kv.1, v) else kv) (ds.map fun kv => if kv.1 = k then (kv.1, d) else kv) S' ∧ (∀ a ∈ S', a ∈ S) ∧ S'.Nodup
  | [], _, _, h, _ => by
    cases h
    exact ⟨[], .nil, fun _ z => (by cases z), List.nodup_nil⟩
  | (k1, v1) :: kvs, _, _, h, nS => by
    cases h with
    | @cons _ _ _ d1 ds S1 S2 h1 h2 =>
      obtain ⟨n1, n2, n3⟩ := List.nodup_append.mp nS
      obtain ⟨S', r', m', n'⟩ := RepT.repl rv h2 n2
      by_cases e : k1 = k
      · refine ⟨[] ++ S', ?_, fun a ha => List.mem_append_right _ (m' a ha), n'⟩
        rw [List.map_cons, List.map_cons, if_pos e, if_pos e]
        exact .cons rv r'
      · refine ⟨S1 ++ S', ?_, fun a ha => ?_, List.nodup_append.mpr ⟨n1, n', fun a ha b hb e2 => ?_⟩⟩
        · rw [List.map_cons, List.map_cons, if_neg e, if_neg e]
          exact .cons h1 r'
        · exact (List.mem_append.mp ha).elim (List.mem_append_left _) fun z => List.mem_append_right _ (m' a z)
        · subst e2
          exact n3 a ha a (m' a hb) rfl
theorem RepT.app {K : PySem.W.Frag} {H : Hp} {k : List Key} {v : V} {d : D} {U : List Addr} (rv : Rep K H v d U) : ∀ {kvs : List (List Key × V)} {ds : List (List Key × D)} {S : List Addr}, RepT K H kvs ds S → RepT K H (kvs ++ [(k, v)]) (ds ++ [(k, d)]) (S ++ U)
  | [], _, _, h => by
    cases h
    have := RepT.cons (k := k) rv (RepT.nil (K := K) (H := H))
    rwa [List.append_nil] at this
  | _ :: kvs, _, _, h => by
    cases h with
    | cons h1 h2 =>
      rw [List.append_assoc]
      exact .cons h1 (RepT.app rv h2)
theorem RepT.put {K : PySem.W.Frag} {H : Hp} {k : List Key} {v : V} {d : D} {U : List Addr} (rv : Rep K H v d U) (nU : U.Nodup) {kvs : List (List Key × V)} {ds : List (List Key × D)} {S : List Addr} (h : RepT K H kvs ds S) (nS : S.Nodup) (dj : ∀ a ∈ U, a ∉ S) (hd : U = [] ∨ (ds.any fun kv => decide (kv.1 = k)) = false) :
    ∃ S', RepT K H (putK kvs k v) (putD ds k d) S' ∧ (∀ a ∈ S', a ∈ S ∨ a ∈ U) ∧ S'.Nodup := by
  have hany := h.keysAny k
  unfold putK putD
  by_cases hk : (kvs.any fun kv => decide (kv.1 = k)) = true
  · rw [if_pos hk, if_pos (hany.trans hk)]
    rcases hd with rfl | hd
    · obtain ⟨S', r', m', n'⟩ := RepT.repl rv h nS
      exact ⟨S', r', fun a ha => .inl (m' a ha), n'⟩
    · rw [hany.trans hk] at hd; cases hd
  · rw [if_neg hk, if_neg (fun z => hk (hany.symm.trans z))]
    exact ⟨S ++ U, RepT.app rv h, fun a ha => List.mem_append.mp ha, List.nodup_append.mpr ⟨nS, nU, fun a ha b hb e => dj b hb (by rw [← e]; exact ha)⟩⟩
theorem RepT.drop {K : PySem.W.Frag} {H : Hp} {k : List Key} : ∀ {kvs : List (List Key × V)} {ds : List (List Key × D)} {S : List Addr}, RepT K H kvs ds S → S.Nodup → ∃ S', RepT K H (dropK kvs k) (dropD ds k) S' ∧ (∀ a ∈ S', a ∈ S) ∧ S'.Nodup
  | [], _, _, h, _ => by
    cases h
    exact ⟨[], .nil, fun _ z => (by cases z), List.nodup_nil⟩
  | (k1, v1) :: kvs, _, _, h, nS => by
    cases h with
    | @cons _ _ _ d1 ds S1 S2 h1 h2 =>
      obtain ⟨n1, n2, n3⟩ := List.nodup_append.mp nS
      obtain ⟨S', r', m', n'⟩ := RepT.drop (k := k) h2 n2
      unfold dropK dropD
      by_cases e : k1 = k
      · rw [List.filter_cons_of_neg (by simpa using e), List.filter_cons_of_neg (by simpa using e)]
        exact ⟨S', r', fun a ha => List.mem_append_right _ (m' a ha), n'⟩
      · rw [List.filter_cons_of_pos (by simpa using e), List.filter_cons_of_pos (by simpa using e)]
        refine ⟨S1 ++ S', .cons h1 r', fun a ha => ?_, List.nodup_append.mpr ⟨n1, n', fun a ha b hb e2 => ?_⟩⟩
        · exact (List.mem_append.mp ha).elim (List.mem_append_left _) fun z => List.mem_append_right _ (m' a z)
        · subst e2
          exact n3 a ha a (m' a hb) rfl
theorem RepK.keysAny {K : PySem.W.Frag} {H : Hp} {kvs : List (Key × V)} {ds : List (Key × D)} {S : List Addr} (h : RepK K H kvs ds S) (k : Key) : (ds.any fun kv => decide (kv.1 = k)) = (kvs.any fun kv => decide (kv.1 = k)) := by
  have keys := h.ok.1
  have h1 : ∀ {γ : Type} (l : List (Key × γ)), (l.any fun kv => decide (kv.1 = k)) = ((l.map (·.1)).any fun x => decide (x = k)) := fun l => by rw [List.any_map]; rfl
  rw [h1, h1, keys]
theorem RepK.repl {K : PySem.W.Frag} {H : Hp} {k : Key} {v : V} {d : D} (rv : Rep K H v d []) : ∀ {kvs : List (Key × V)} {ds : List (Key × D)} {S : List Addr}, RepK K H kvs ds S → S.Nodup →
    ∃ S', RepK K H (kvs.map fun kv => if kv.1 = k then (kv.1, v) else kv) (ds.map fun kv => if kv.1 = k then (kv.1, d) else kv) S' ∧ (∀ a ∈ S', a ∈ S) ∧ S'.Nodup
  | [], _, _, h, _ => by
    cases h
    exact ⟨[], .nil, fun _ z => (by cases z), List.nodup_nil⟩
  | (k1, v1) :: kvs, _, _, h, nS => by
    cases h with
    | @cons _ _ _ d1 ds S1 S2 h1 h2 =>
      obtain ⟨n1, n2, n3⟩ := List.nodup_append.mp nS
      obtain ⟨S', r', m', n'⟩ := RepK.repl rv h2 n2
      by_cases e : k1 = k
      · refine ⟨[] ++ S', ?_, fun a ha => List.mem_append_right _ (m' a ha), n'⟩
        rw [List.map_cons, List.map_cons, if_pos e, if_pos e]
        exact .cons rv r'
      · refine ⟨S1 ++ S', ?_, fun a ha => ?_, List.nodup_append.mpr ⟨n1, n', fun a ha b hb e2 => ?_⟩⟩
        · rw [List.map_cons, List.map_cons, if_neg e, if_neg e]
          exact .cons h1 r'
        · exact (List.mem_append.mp ha).elim (List.mem_append_left _) fun z => List.mem_append_right _ (m' a z)
        · subst e2
          exact n3 a ha a (m' a hb) rfl
theorem RepK.app {K : PySem.W.Frag} {H : Hp} {k : Key} {v : V} {d : D} {U : List Addr} (rv : Rep K H v d U) : ∀ {kvs : List (Key × V)} {ds : List (Key × D)} {S : List Addr}, RepK K H kvs ds S → RepK K H (kvs ++ [(k, v)]) (ds ++ [(k, d)]) (S ++ U)
  | [], _, _, h => by
    cases h
    have := RepK.cons (k := k) rv (RepK.nil (K := K) (H := H))
    rwa [List.append_nil] at this
  | _ :: kvs, _, _, h => by
    cases h with
    | cons h1 h2 =>
      rw [List.append_assoc]
      exact .cons h1 (RepK.app rv h2)
theorem RepK.put {K : PySem.W.Frag} {H : Hp} {k : Key} {v : V} {d : D} {U : List Addr} (rv : Rep K H v d U) (nU : U.Nodup) {kvs : List (Key × V)} {ds : List (Key × D)} {S : List Addr} (h : RepK K H kvs ds S) (nS : S.Nodup) (dj : ∀ a ∈ U, a ∉ S) (hd : U = [] ∨ (ds.any fun kv => decide (kv.1 = k)) = false) :
    ∃ S', RepK K H (putK kvs k v) (putD ds k d) S' ∧ (∀ a ∈ S', a ∈ S ∨ a ∈ U) ∧ S'.Nodup := by
  have hany := h.keysAny k
  unfold putK putD
  by_cases hk : (kvs.any fun kv => decide (kv.1 = k)) = true
  · rw [if_pos hk, if_pos (hany.trans hk)]
    rcases hd with rfl | hd
    · obtain ⟨S', r', m', n'⟩ := RepK.repl rv h nS
      exact ⟨S', r', fun a ha => .inl (m' a ha), n'⟩
    · rw [hany.trans hk] at hd; cases hd
  · rw [if_neg hk, if_neg (fun z => hk (hany.symm.trans z))]
    exact ⟨S ++ U, RepK.app rv h, fun a ha => List.mem_append.mp ha, List.nodup_append.mpr ⟨nS, nU, fun a ha b hb e => dj b hb (by rw [← e]; exact ha)⟩⟩
theorem RepK.drop {K : PySem.W.Frag} {H : Hp} {k : Key} : ∀ {kvs : List (Key × V)} {ds : List (Key × D)} {S : List Addr}, RepK K H kvs ds S → S.Nodup → ∃ S', RepK K H (dropK kvs k) (dropD ds k) S' ∧ (∀ a ∈ S', a ∈ S) ∧ S'.Nodup
  | [], _, _, h, _ => by
    cases h
    exact ⟨[], .nil, fun _ z => (by cases z), List.nodup_nil⟩
  | (k1, v1) :: kvs, _, _, h, nS => by
    cases h with
    | @cons _ _ _ d1 ds S1 S2 h1 h2 =>
      obtain ⟨n1, n2, n3⟩ := List.nodup_append.mp nS
      obtain ⟨S', r', m', n'⟩ := RepK.drop (k := k) h2 n2
      unfold dropK dropD
      by_cases e : k1 = k
      · rw [List.filter_cons_of_neg (by simpa using e), List.filter_cons_of_neg (by simpa using e)]
        exact ⟨S', r', fun a ha => List.mem_append_right _ (m' a ha), n'⟩
      · rw [List.filter_cons_of_pos (by simpa using e), List.filter_cons_of_pos (by simpa using e)]
        refine ⟨S1 ++ S', .cons h1 r', fun a ha => ?_, List.nodup_append.mpr ⟨n1, n', fun a ha b hb e2 => ?_⟩⟩
        · exact (List.mem_append.mp ha).elim (List.mem_append_left _) fun z => List.mem_append_right _ (m' a z)
        · subst e2
          exact n3 a ha a (m' a hb) rfl
end Ol
namespace Ol
open PySem PySem.Spec PyProof.Rows L2
/-! ## a dict of one's own is written -/
/-- d[k] = v; nothing where d is no dict, or a thing that may be written would take another's place -/
def putU (d k v : D) : Option D := match d with
  | .dT kvs => (keyT k).bind fun k => if kvs.length < 16777216 ∧ (imm v = true ∨ (kvs.any fun kv => decide (kv.1 = k)) = false) then some (.dT (putD kvs k v)) else none
  | .dK kvs => (keyOf k).bind fun k => if kvs.length < 16777216 ∧ (imm v = true ∨ (kvs.any fun kv => decide (kv.1 = k)) = false) then some (.dK (putD kvs k v)) else none
  | _ => none
def dropU (d k : D) : Option D := match d with
  | .dT kvs => (keyT k).map fun k => .dT (dropD kvs k)
  | .dK kvs => (keyOf k).map fun k => .dK (dropD kvs k)
  | _ => none
def sPut (i : Nat) (k v : Env → Res D) : Env → Out := fun ρ => (v ρ).then fun d ρ1 => match (ρ1[i]?).join with
  | none => .bad
  | some dd => (k ρ1).then fun kd ρ2 => match putU dd kd d with
    | some d' => .nx (ρ2.set i (some d'))
    | none => .bad
section
variable {c : C0} {W : WX} {te ti : TE} {e ix : Env → Res D} {pu fr : Bool}
theorem not_tupT {H : Hp} {p : Addr} {kvs : List (List Key × V)} (h : H p = some (.dT kvs)) : ∀ xs, ¬ Rd H p (.tup xs) := fun xs z => by rcases z with z | ⟨o, z⟩ <;> rw [h] at z <;> cases z
theorem not_tupK {H : Hp} {p : Addr} {kvs : List (Key × V)} (h : H p = some (.dK kvs)) : ∀ xs, ¬ Rd H p (.tup xs) := fun xs z => by rcases z with z | ⟨o, z⟩ <;> rw [h] at z <;> cases z
theorem RepT.len {K : PySem.W.Frag} {H : Hp} {kvs : List (List Key × V)} {ds : List (List Key × D)} {S : List Addr} (h : RepT K H kvs ds S) : kvs.length = ds.length := len_map h.ok.1
theorem RepK.len {K : PySem.W.Frag} {H : Hp} {kvs : List (Key × V)} {ds : List (Key × D)} {S : List Addr} (h : RepK K H kvs ds S) : kvs.length = ds.length := len_map h.ok.1
theorem ss_put {fi : Bool} (i : Nat) (he : SE c W te e pu true) (hx : SE c W ti ix true fi) (hO : Nat.beq (c.O i) 1 = true := by rfl) : SS c W (sDPut (tVar i) ti te) (sPut i ix e) :=
  fun H0 Wd Al T σ H ρ nx rt bk ct I q => he H0 Wd Al T σ H ρ _ I (by
  have hO1 := Nat.eq_of_beq_eq_true hO
  have hO : c.O i ≠ 0 := by omega
  unfold sPut at q
  dsimp only [Res.then] at q
  cases z : e ρ with
  | bad => rw [z] at q; exact q
  | exc x ρ' => rw [z] at q; exact fun H' T' I' => q σ H' T' I'
  | ok d ρ1 =>
    rw [z] at q
    intro v H1 T1 S I1 r1 g1 nw p1 f1
    dsimp only at q
    cases z1 : (ρ1[i]?).join with
    | none => rw [z1] at q; exact q.elim
    | some dd =>
      rw [z1] at q
      dsimp only at q
      obtain ⟨v0, hv0, r0⟩ := I1.slot z1
      refine ⟨v0, hv0, ?_⟩
      refine hx H0 Wd Al T1 σ H1 ρ1 _ I1 ?_
      cases z2 : ix ρ1 with
      | bad => rw [z2] at q; exact q
      | exc x ρ' => rw [z2] at q; exact fun H' T' I' => q σ H' T' I'
      | ok kd ρ2 =>
        rw [z2] at q
        intro kv H2 T2 S2 I2 r2 g2 nw2 p2 f2
        obtain ⟨e2, s2, t2⟩ := p2 rfl
        subst e2 t2
        dsimp only at q
        obtain ⟨⟨nS, nN, nF⟩, _, dj⟩ := f1 rfl
        have own := I2.nod i hO
        cases dd with
        | dT ds =>
          cases zk : keyT kd with
          | none => simp only [putU, zk, Option.bind_none] at q; exact q.elim
          | some k =>
            simp only [putU, zk, Option.bind_some] at q
            split at q
            · rename_i d' ed
              split at ed
              · rename_i hc
                cases ed
                obtain ⟨p, xs, S', rfl, hT, h1, h3⟩ := I1.top i hO _ _ hv0 z1
                obtain ⟨b, rfl, hb, _⟩ := keyT_rep r2 zk
                have h1' := s2 _ _ h1
                rw [hT] at own
                obtain ⟨n1, n2⟩ := List.nodup_cons.mp own
                have pS : p ∉ S := fun h => dj i p h (by rw [hT]; exact List.mem_cons_self)
                have tk : Tk H2 (upd H2 p (.dT (putK xs k v))) := fun a us h => by rw [upd_ne (fun z => not_tupT h1' us (by rw [← z]; exact .inl h))]; exact h
                have rv : Rep c.K (upd H2 p (.dT (putK xs k v))) v d S := (r1.same s2).mono tk fun a ha w e => by rw [upd_ne (fun z => pS (by rw [← z]; exact ha))]; exact e
                have rx : RepT c.K (upd H2 p (.dT (putK xs k v))) xs ds S' := (h3.mono (Tk.same s2) fun a _ o e => s2 a o e).mono tk fun a ha w e => by rw [upd_ne (fun z => n1 (by rw [← z]; exact ha))]; exact e
                have hU : S = [] ∨ (ds.any fun kv => decide (kv.1 = k)) = false := hc.2.imp (fun h => r1.im h) fun h => h
                obtain ⟨Sn, rr, hm, nn⟩ := RepT.put rv nS rx n2 (fun a ha z => dj i a ha (by rw [hT]; exact List.mem_cons_of_mem _ z)) hU
                obtain ⟨T', I'⟩ := I2.mut (d' := .dT (putD ds k d)) (S' := Sn) (o := .dT (putK xs k v)) hO hv0 hT (not_tupT h1') (.dT (.inl upd_same) rr) ⟨p, _, _, rfl, rfl, upd_same, rr⟩ (fun u w z => by cases z)
                  nn (fun h => (hm p h).elim n1 pS) (fun a ha => (hm a ha).imp (fun z => z) fun h => ⟨fun k => dj k a h, (I.newB a (nN a h)).2, (I.newB a (nN a h)).1, (nF a h).same s2 (r1.dom a h)⟩) (fun ho => by omega)
                exact ⟨p, _, rfl, .inr ⟨xs, k, b, h1', rfl, hb, sz_lt (by rw [h3.len]; exact hc.1), rfl⟩, q σ _ T' I'⟩
              · cases ed
            · exact q.elim
        | dK ds =>
          cases zk : keyOf kd with
          | none => simp only [putU, zk, Option.bind_none] at q; exact q.elim
          | some k =>
            simp only [putU, zk, Option.bind_some] at q
            split at q
            · rename_i d' ed
              split at ed
              · rename_i hc
                cases ed
                obtain ⟨p, xs, S', rfl, hT, h1, h3⟩ := I1.top i hO _ _ hv0 z1
                obtain ⟨rfl, _⟩ := keyOf_rep r2 zk
                have h1' := s2 _ _ h1
                rw [hT] at own
                obtain ⟨n1, n2⟩ := List.nodup_cons.mp own
                have pS : p ∉ S := fun h => dj i p h (by rw [hT]; exact List.mem_cons_self)
                have tk : Tk H2 (upd H2 p (.dK (putK xs k v))) := fun a us h => by rw [upd_ne (fun z => not_tupK h1' us (by rw [← z]; exact .inl h))]; exact h
                have rv : Rep c.K (upd H2 p (.dK (putK xs k v))) v d S := (r1.same s2).mono tk fun a ha w e => by rw [upd_ne (fun z => pS (by rw [← z]; exact ha))]; exact e
                have rx : RepK c.K (upd H2 p (.dK (putK xs k v))) xs ds S' := (h3.mono (Tk.same s2) fun a _ o e => s2 a o e).mono tk fun a ha w e => by rw [upd_ne (fun z => n1 (by rw [← z]; exact ha))]; exact e
                have hU : S = [] ∨ (ds.any fun kv => decide (kv.1 = k)) = false := hc.2.imp (fun h => r1.im h) fun h => h
                obtain ⟨Sn, rr, hm, nn⟩ := RepK.put rv nS rx n2 (fun a ha z => dj i a ha (by rw [hT]; exact List.mem_cons_of_mem _ z)) hU
                obtain ⟨T', I'⟩ := I2.mut (d' := .dK (putD ds k d)) (S' := Sn) (o := .dK (putK xs k v)) hO hv0 hT (not_tupK h1') (.dK (.inl upd_same) rr) ⟨p, _, _, rfl, rfl, upd_same, rr⟩ (fun u w z => by cases z)
                  nn (fun h => (hm p h).elim n1 pS) (fun a ha => (hm a ha).imp (fun z => z) fun h => ⟨fun k => dj k a h, (I.newB a (nN a h)).2, (I.newB a (nN a h)).1, (nF a h).same s2 (r1.dom a h)⟩) (fun ho => by omega)
                exact ⟨p, _, rfl, .inl ⟨xs, k, h1', rfl, sz_lt (by rw [h3.len]; exact hc.1), rfl⟩, q σ _ T' I'⟩
              · cases ed
            · exact q.elim
        | _ => exact q.elim)
end
/-! pop, clear -/
/-- keys that are tuples -/
def rPopD1 : V → List V → Hp → VK → Prop := fun x xs H Q => ∃ (a : Addr) (kvs : List (List Key × V)) (k : List Key) (b : Addr) (v : V), x = .ref a ∧ xs = [.ref b] ∧ H a = some (.dT kvs) ∧ H b = some (.tup (k.map kV)) ∧ valV kvs k = some v ∧ Q v (upd H a (.dT (dropK kvs k)))
theorem mt_popD1 {X : Cx} (hu : X.A.units + 65 < cLine) : MtR X "dict.pop" rPopD1 := by
  intro pins s σ H x xs v us Q I rx rxs h
  obtain ⟨a, kvs, k, b, w, rfl, rfl, ha, hb, hv, q⟩ := h
  cases rx
  obtain ⟨u1, rfl, r1⟩ := rxs.one
  cases r1
  obtain ⟨z, hd, xs', rel, dd⟩ := dt_of I.hok ha
  have hz : xs'.length ≤ sizeLine := by rw [← Paired.length rel]; exact z
  have r := rel.val k
  rw [hv] at r
  cases hp : atKey xs' k with
  | none => rw [hp] at r; exact (show False from r).elim
  | some p =>
    rw [hp] at r
    refine call_pop_heap (hsz := hz) (.inl rfl) (PySem.F.args_dict_pop_2 _ _) (tupleKind_room_in1 (by omega)) (key_of I.hok hb) hd dd hp fun h' dd' hs => ?_
    obtain ⟨o, es, ep, hq, h2, h3, h4, _, h5⟩ := dd'
    have I2 := d_write (t' := s.toks + (tupleKind (mixKind X.prog X.w)).draws k) (ob := .dT (dropK kvs k)) I (by rw [ha]; exact True.intro) hs ⟨o, hq⟩ ⟨Nat.le_trans (dropK_le kvs k) z, hd, _, (L2.DX.KT_drop k rel).keeps (fun c ys ec => (by rw [upd_ne (ne_of ec ha (fun z => nomatch z))]; exact ec)), o, es, ep, hq, h2, h3, h4, h5⟩
    exact ⟨w, _, I2, r, q⟩
def rPopD2 : V → List V → Hp → VK → Prop := L2.DX.rPopT
theorem mt_popD2 {X : Cx} (hu : X.A.units + 65 < cLine) : MtR X "dict.pop" rPopD2 := L2.DX.mt_popT (by omega)
def rClearD : V → List V → Hp → VK → Prop := fun x xs H Q => ∃ (a : Addr), x = .ref a ∧ xs = [] ∧ ∃ kvs : List (List Key × V), H a = some (.dT kvs) ∧ Q .non (upd H a (.dT []))
theorem mt_clearD {X : Cx} : MtR X "dict.clear" rClearD := by
  intro pins s σ H x xs v us Q I rx rxs h
  obtain ⟨a, rfl, rfl, kvs, ha, q⟩ := h
  cases rx
  cases rxs
  obtain ⟨z, hd, xs', rel, dd⟩ := dt_of I.hok ha
  have hz : xs'.length ≤ sizeLine := by rw [← Paired.length rel]; exact z
  have dk : s.heap.DictKeyed (tupleKind (mixKind X.prog X.w)) a (pairsH xs') := ⟨xs', dd, rfl⟩
  refine clear_keyed dk (fun h' dd' hs => ?_) (by rw [pairsH_length]; exact hz)
  obtain ⟨ys, ⟨o, es, ep, hq, h2, h3, h4, _, h5⟩, e⟩ := dd'
  have ey : ys = [] := by
    have := congrArg List.length e
    rw [pairsH_length] at this
    exact List.eq_nil_of_length_eq_zero this
  subst ey
  have I2 := d_write (t' := s.toks) (ob := .dT []) I (by rw [ha]; exact True.intro) hs ⟨o, hq⟩ ⟨Nat.zero_le _, hd, [], .nil, o, es, ep, hq, h2, h3, h4, h5⟩
  exact ⟨.non, _, I2, rfl, q⟩
def sPop1 (i : Nat) (k : Env → Res D) : Env → Out := fun ρ => match (ρ[i]?).join with
  | some (.dT ds) => (k ρ).then fun kd ρ2 => match keyT kd with
    | some k => if (valD ds k).isSome = true then .nx (ρ2.set i (some (.dT (dropD ds k)))) else .bad
    | none => .bad
  | _ => .bad
def sPop2 (i : Nat) (k e : Env → Res D) : Env → Out := fun ρ => match (ρ[i]?).join with
  | some (.dT ds) => (k ρ).then fun kd ρ2 => (e ρ2).then fun _ ρ3 => match keyT kd with
    | some k => if (valD ds k).isSome = true then .nx (ρ3.set i (some (.dT (dropD ds k)))) else .nx ρ3
    | none => .bad
  | _ => .bad
def sClear (i : Nat) : Env → Out := fun ρ => match (ρ[i]?).join with
  | some (.dT _) => .nx (ρ.set i (some (.dT [])))
  | _ => .bad
section
variable {c : C0} {W : WX} {te ti : TE} {e ix : Env → Res D} {pu fr : Bool}
/-- what drops an entry -/
theorem SIT.dropT {H0 : Hp} {Wd Al : Addr → Prop} {T : Nat → List Addr} {σ : L2.St} {H : Hp} {ρ : Env} {i : Nat} {p : Addr} {xs : List (List Key × V)} {ds : List (List Key × D)} {S' : List Addr} (I : SIT c H0 Wd Al T σ H ρ) (hO1 : c.O i = 1) (hv0 : σ[i]? = some (some (.ref p))) (hT : T i = p :: S') (h1 : H p = some (.dT xs)) (h3 : RepT c.K H xs ds S') (k : List Key) :
    ∃ T', SIT c H0 Wd Al T' σ (upd H p (.dT (dropK xs k))) (ρ.set i (some (.dT (dropD ds k)))) := by
  have own := I.nod i (by omega)
  rw [hT] at own
  obtain ⟨n1, n2⟩ := List.nodup_cons.mp own
  have tk : Tk H (upd H p (.dT (dropK xs k))) := fun a us h => by rw [upd_ne (fun z => not_tupT h1 us (by rw [← z]; exact .inl h))]; exact h
  have rx : RepT c.K (upd H p (.dT (dropK xs k))) xs ds S' := h3.mono tk fun a ha w e => by rw [upd_ne (fun z => n1 (by rw [← z]; exact ha))]; exact e
  obtain ⟨Sn, rr, hm, nn⟩ := RepT.drop (k := k) rx n2
  exact I.mut (d' := .dT (dropD ds k)) (S' := Sn) (o := .dT (dropK xs k)) (by omega) hv0 hT (not_tupT h1) (.dT (.inl upd_same) rr) ⟨p, _, _, rfl, rfl, upd_same, rr⟩ (fun u w z => by cases z)
    nn (fun h => n1 (hm p h)) (fun a ha => .inl (hm a ha)) (fun ho => by omega)
theorem ss_pop1 {fi : Bool} (i : Nat) (hx : SE c W ti ix true fi) (hO : Nat.beq (c.O i) 1 = true := by rfl) : SS c W (tDrop (tBM c.K "dict" rPopD1 (tVar i) (tCons ti tNil))) (sPop1 i ix) := fun H0 Wd Al T σ H ρ nx rt bk ct I q => by
  have hO1 := Nat.eq_of_beq_eq_true hO
  unfold sPop1 at q
  cases z1 : (ρ[i]?).join with
  | none => rw [z1] at q; exact q.elim
  | some dd =>
    rw [z1] at q
    cases dd with
    | dT ds =>
      dsimp only [Res.then] at q
      obtain ⟨v0, hv0, r0⟩ := I.slot z1
      obtain ⟨p, xs, S', rfl, hT, h1, h3⟩ := I.top i (by omega) _ _ hv0 z1
      refine ⟨.ref p, hv0, ?_, ?_⟩
      · exact .inr (.inr (.inl ⟨rfl, .inr ⟨_, h1⟩⟩))
      refine hx H0 Wd Al T σ H ρ _ I ?_
      cases z2 : ix ρ with
      | bad => rw [z2] at q; exact q
      | exc x ρ' => rw [z2] at q; exact fun H' T' I' => q σ H' T' I'
      | ok kd ρ2 =>
        rw [z2] at q
        intro kv H2 T2 S2 I2 r2 g2 nw2 p2 f2
        obtain ⟨e2, s2, t2⟩ := p2 rfl
        subst e2 t2
        dsimp only at q
        cases zk : keyT kd with
        | none => rw [zk] at q; exact q.elim
        | some k =>
          rw [zk] at q
          dsimp only at q
          obtain ⟨b, rfl, hb, _⟩ := keyT_rep r2 zk
          have h1' := s2 _ _ h1
          have h3' : RepT c.K H2 xs ds S' := h3.mono (Tk.same s2) fun a _ o e => s2 a o e
          have hv := h3'.val (k := k)
          cases zv : valD ds k with
          | none => rw [zv, if_neg (by simp)] at q; exact q.elim
          | some d =>
            rw [zv] at hv
            rw [zv, if_pos (by rfl)] at q
            obtain ⟨v, U, ev, _, _⟩ := hv
            obtain ⟨T', I'⟩ := I2.dropT hO1 hv0 hT h1' h3' k
            exact ⟨p, xs, k, b, v, rfl, rfl, h1', hb, ev, q σ _ T' I'⟩
    | _ => exact q.elim
theorem ss_pop2 {fi fe : Bool} (i : Nat) (hx : SE c W ti ix true fi) (he : SE c W te e true fe) (hO : Nat.beq (c.O i) 1 = true := by rfl) : SS c W (tDrop (tBM c.K "dict" rPopD2 (tVar i) (tCons ti (tCons te tNil)))) (sPop2 i ix e) := fun H0 Wd Al T σ H ρ nx rt bk ct I q => by
  have hO1 := Nat.eq_of_beq_eq_true hO
  unfold sPop2 at q
  cases z1 : (ρ[i]?).join with
  | none => rw [z1] at q; exact q.elim
  | some dd =>
    rw [z1] at q
    cases dd with
    | dT ds =>
      dsimp only [Res.then] at q
      obtain ⟨v0, hv0, r0⟩ := I.slot z1
      obtain ⟨p, xs, S', rfl, hT, h1, h3⟩ := I.top i (by omega) _ _ hv0 z1
      refine ⟨.ref p, hv0, ?_, ?_⟩
      · exact .inr (.inr (.inl ⟨rfl, .inr ⟨_, h1⟩⟩))
      refine hx H0 Wd Al T σ H ρ _ I ?_
      cases z2 : ix ρ with
      | bad => rw [z2] at q; exact q
      | exc x ρ' => rw [z2] at q; exact fun H' T' I' => q σ H' T' I'
      | ok kd ρ2 =>
        rw [z2] at q
        intro kv H2 T2 S2 I2 r2 g2 nw2 p2 f2
        obtain ⟨e2, s2, t2⟩ := p2 rfl
        subst e2 t2
        dsimp only at q
        refine he H0 Wd Al T2 σ H2 ρ2 _ I2 ?_
        cases z4 : e ρ2 with
        | bad => rw [z4] at q; exact q
        | exc x ρ' => rw [z4] at q; exact fun H' T' I' => q σ H' T' I'
        | ok d4 ρ4 =>
          rw [z4] at q
          intro u4 H4 T4 S4 I4 r4 g4 nw4 p4 f4
          obtain ⟨e4, s4, t4⟩ := p4 rfl
          subst e4 t4
          dsimp only at q
          cases zk : keyT kd with
          | none => rw [zk] at q; exact q.elim
          | some k =>
            rw [zk] at q
            dsimp only at q
            obtain ⟨b, rfl, hb, _⟩ := keyT_rep r2 zk
            have h1' := (s2.trans s4) _ _ h1
            have h3' : RepT c.K H4 xs ds S' := h3.mono (Tk.same (s2.trans s4)) fun a _ o e => (s2.trans s4) a o e
            have hv := h3'.val (k := k)
            refine ⟨p, xs, k, b, u4, rfl, rfl, h1', s4 _ _ hb, fun v ev => ?_, fun en => ?_⟩
            · cases zv : valD ds k with
              | none => rw [zv, ev] at hv; cases hv
              | some d =>
                rw [zv] at q
                rw [if_pos (by rfl)] at q
                obtain ⟨T', I'⟩ := I4.dropT hO1 hv0 hT h1' h3' k
                exact q σ _ T' I'
            · cases zv : valD ds k with
              | none =>
                rw [zv] at q
                rw [if_neg (by simp)] at q
                exact q σ _ _ I4
              | some d =>
                rw [zv] at hv
                obtain ⟨v, U, ev, _, _⟩ := hv
                rw [en] at ev; cases ev
    | _ => exact q.elim
theorem ss_clear (i : Nat) (hO : Nat.beq (c.O i) 1 = true := by rfl) : SS c W (tDrop (tBM0 c.K "dict" rClearD (tVar i))) (sClear i) := fun H0 Wd Al T σ H ρ nx rt bk ct I q => by
  have hO1 := Nat.eq_of_beq_eq_true hO
  unfold sClear at q
  cases z1 : (ρ[i]?).join with
  | none => rw [z1] at q; exact q.elim
  | some dd =>
    rw [z1] at q
    cases dd with
    | dT ds =>
      obtain ⟨v0, hv0, r0⟩ := I.slot z1
      obtain ⟨p, xs, S', rfl, hT, h1, h3⟩ := I.top i (by omega) _ _ hv0 z1
      have tk : Tk H (upd H p (.dT [])) := fun a us h => by rw [upd_ne (fun z => not_tupT h1 us (by rw [← z]; exact .inl h))]; exact h
      obtain ⟨T', I'⟩ := I.mut (d' := .dT []) (S' := []) (o := .dT []) (by omega) hv0 hT (not_tupT h1) (.dT (.inl upd_same) .nil) ⟨p, _, _, rfl, rfl, upd_same, .nil⟩ (fun u w z => by cases z) List.nodup_nil (fun h => by cases h) (fun a ha => by cases ha) (fun ho => by omega)
      exact ⟨.ref p, hv0, .inr (.inr (.inl ⟨rfl, .inr ⟨_, h1⟩⟩)), p, rfl, rfl, xs, h1, q σ _ T' I'⟩
    | _ => exact q.elim
end
end Ol
namespace Ol
open PySem PySem.Spec PyProof.Rows L2
/-! ## list(d), sorted(d), isinstance(d, dict), len(d) -/
section
variable {X : Cx}
/-- the keys' own tuples -/
theorem keys_of_acc {P : Program} {w : World} {H : Hp} {kvs : List (List Key × V)} {ks : List (List Key × Addr × Value)} {es : Array DictEntry} {acc : Array Value} (pr : KT H kvs ks) (he : es.toList = ks.map (entryOfKey (tupleKind (mixKind P w)))) (it : ItemsOf (fun i v => ∃ en : DictEntry, es[i]? = some en ∧ v = en.key) acc es.size) :
    acc.toList = (ks.map fun x => x.2.1).map Value.ref := by
  have l1 : es.size = ks.length := size_of_entries he
  rw [List.map_map]
  apply List.ext_getElem?
  intro j
  have hl : acc.toList.length = ks.length := by rw [Array.length_toList, it.1]; exact l1
  rw [List.getElem?_map]
  cases hj : acc.toList[j]? with
  | none =>
    have h1 := List.getElem?_eq_none_iff.mp hj
    rw [List.getElem?_eq_none (by omega)]
    rfl
  | some v =>
    obtain ⟨en, hi, hv⟩ := it.2 j v (by rw [← Array.getElem?_toList]; exact hj)
    have qe := entry_at he j
    rw [hi] at qe
    cases hb : ks[j]? with
    | none => rw [hb] at qe; cases qe
    | some b =>
      rw [hb] at qe
      have e2 : en = entryOfKey (tupleKind (mixKind P w)) b := Option.some.inj qe
      rw [hv, e2]
      rfl
theorem gather {prog : Program} {w : World} {A : Around} {E : Value → Shared → Prop} {s : Shared} {T : String} {r d : Addr} {n : Nat} {P : Nat → Value → Prop} {OK : Heap → Prop} {R : List Value → Shared → Prop} (G : PySem.W.KdlSrc prog w T r d n P OK) (calm : A.handled = none) (there : OK s.heap) (few : n ≤ sizeLine)
    (to : ∀ (g : Heap) (tk : Nat) (xs : Array Value), (∀ b o, s.heap.get? b = some o → g.get? b = some o) → s.heap.objs.size < g.objs.size → ItemsOf P xs n → R xs.toList { s with heap := g, toks := tk }) : wpAny (model prog w) A (collect (.ref r)) R E s := by
  obtain ⟨lt1, lt2⟩ := G.there _ there
  unfold collect
  refine wpAny_bind (wpAny_runValue (codeAny_builtin entry_proto_collect' ?_))
  rw [Around.under_plainId F.plain_proto_collect _]; refine wpAny_bind (wpAny_newObj_type ?_)
  refine wpAny_pure ⟨plainId_quiet F.plain_list_iadd _, codeAny_builtin entry_list_iadd' ?_⟩
  rw [Around.under_plainId F.plain_list_iadd _]
  generalize hN : s.heap.objs.size = N
  have laid : (s.heap.push { cls := .type "list", data := .seq ([] : List Value).toArray }).get? N = some { cls := .type "list", data := .seq #[] } := by rw [← hN]; exact Heap.get?_push_size _ rfl
  have walk := PySem.W.kdl_extend (A := A) (s := { s with heap := s.heap.push { cls := .type "list", data := .seq ([] : List Value).toArray } })
    (R := fun (q : Result) (t : Shared) => ∃ (g : Heap) (tk : Nat) (xs : Array Value) (c : Nat), (q = .ok (.ret (.ref N)) ∧ t = { s with heap := g, toks := tk }) ∧ (∀ b o, s.heap.get? b = some o → g.get? b = some o) ∧ g.get? N = some { cls := .type "list", dict := none, data := .seq xs c, slots := #[] } ∧ ItemsOf P xs n)
    G calm (G.keep _ _ there fun b _ o e => Heap.get?_push_of_some _ e) N (by rw [← hN]; exact Nat.ne_of_gt lt1) (by rw [← hN]; exact Nat.ne_of_gt lt2) (.ref N) 0 laid
    (fun g tk xs c keep at' its => ⟨g, tk, xs, c, ⟨rfl, rfl⟩, fun b o e => keep b o (by rw [← hN]; exact Nat.ne_of_lt (Heap.lt_size e)) (Heap.get?_push_of_some _ e), at', its⟩) few
  refine wpAny_mono walk (fun fin t x => ?_) fun e t x => (by obtain ⟨_, _, _, _, ⟨no, _⟩, _⟩ := x; cases no)
  have last : ∀ {f : Result} {t : Shared}, (∃ (g : Heap) (tk : Nat) (xs : Array Value) (c : Nat), (f = .ok (.ret (.ref N)) ∧ t = { s with heap := g, toks := tk }) ∧ (∀ b o, s.heap.get? b = some o → g.get? b = some o) ∧ g.get? N = some { cls := .type "list", dict := none, data := .seq xs c, slots := #[] } ∧ ItemsOf P xs n) → ∃ g tk xs c, f = .ok (.ret (.ref N)) ∧ t = { s with heap := g, toks := tk } ∧ g.get? N = some { cls := .type "list", dict := none, data := .seq xs c, slots := #[] } ∧ R xs.toList { s with heap := g, toks := tk } := fun x => by
    obtain ⟨g, tk, xs, c, ⟨e1, e2⟩, keep, at', its⟩ := x
    exact ⟨g, tk, xs, c, e1, e2, at', to g tk xs keep (by rw [hN]; exact Heap.lt_size at') its⟩
  cases fin with
  | done f =>
    obtain ⟨g, tk, xs, c, e, rfl, at', q⟩ := last x
    cases e
    show wpAny _ A (load N >>= _) _ _ _
    exact wpAny_bind (wpAny_load at' (wpAny_pure q))
  | again c₁ =>
    refine ⟨x.1, codeAny_mono x.2 fun f t y => ?_⟩
    obtain ⟨g, tk, xs, c, rfl, rfl, at', q⟩ := last y
    show wpAny _ A (load N >>= _) _ _ _
    exact wpAny_bind (wpAny_load at' (wpAny_pure q))
def rListDc : List V → Hp → VK → Prop := fun xs H Q => ∃ d kvs, xs = [V.ref d] ∧ Rd H d (.dT kvs) ∧ ∀ p bs, H p = none → IsKeys H kvs bs → Q (.ref p) (upd H p (.lst (bs.map V.ref)))
theorem call_listV {K : PySem.W.Frag} (hc : X.calm = true) (hK : X.K = K := by rfl) : CallR X (.type "list") (fun xs H Q => rListOf K xs H Q ∨ rListDc xs H Q) := call_or2 (call_listL hK) (call_list_dT hc)
def rSortedDc : List V → Hp → VK → Prop := fun vs H Q => ∃ d kvs, vs = [V.ref d] ∧ Rd H d (.dT kvs) ∧ (∀ q ∈ kvs, ∃ i j, q.1 = [.inl i, .inl j]) ∧
  ∀ bs zs p, IsKeys H kvs bs → SrtO.Srtd (ltP (kP H)) zs → SrtO.Stb (ltP (kP H)) zs (bs.map V.ref) → H p = none → Q (.ref p) (upd H p (.lst zs))
theorem cr_sortedDc (hc : X.calm = true) : CallR X (.builtin "sorted") rSortedDc := by
  intro pins s σ H xs us Q I r h
  obtain ⟨d, kvs, rfl, hd, hk, q⟩ := h
  obtain ⟨u, rfl, rx⟩ := r.one
  cases rx
  obtain ⟨z, hs, ks, pr, o, es, ep, ho, hx, hdt, he, hn⟩ := (show ObjOk X.prog X.w H s.heap d (.dT kvs) from rd_of I.hok hd)
  have l1 : es.size = ks.length := size_of_entries he
  have l2 : kvs.length = ks.length := Paired.length pr
  have hh := I.ok.hd hc
  refine Calls.call_function_entry kind_sorted plain_sorted entry_sorted (args_sorted1 _) ?_
  unfold Builtin.«sorted»
  refine wpAny_bind (m := checkCount "sorted" 1 1 _) (wpAny_pure ?_)
  refine wpAny_bind (gather (kdl_raw hs hx hdt) hh ho (by omega) fun h' tk acc kp hlt0 it => ?_)
  have ea := keys_of_acc (P := X.prog) (w := X.w) pr he it
  rw [ea]
  have bsl : (ks.map fun x => x.2.1).length = kvs.length := by rw [List.length_map]; omega
  have isk : IsKeys H kvs (ks.map fun x => x.2.1) := isKeys_of pr
  generalize ks.map (fun x => x.2.1) = bs at bsl isk ⊢
  refine wpAny_bind (wpAny_newList ?_ (by rw [List.length_map]; omega))
  have hb : (h'.push { cls := .type "list", data := .seq (bs.map Value.ref).toArray }).get? h'.objs.size = some (seqObj "list" (bs.map Value.ref).toArray 0) := Heap.get?_push_size _ rfl
  -- each key a pair
  have pairs : ∀ v ∈ bs.map Value.ref, Srt.IsPair s.heap v (kP H (backV v)).1 (kP H (backV v)).2 := fun v hv => by
    obtain ⟨b, hb, rfl⟩ := List.mem_map.mp hv
    obtain ⟨n, hn⟩ := List.getElem?_of_mem hb
    have hn2 : n < kvs.length := by rw [← bsl]; exact (List.getElem?_eq_some_iff.mp hn).1
    obtain ⟨b', hb', f⟩ := paired_get isk (List.getElem?_eq_getElem hn2)
    rw [hn] at hb'
    cases hb'
    obtain ⟨i, j, e⟩ := hk _ (List.getElem_mem hn2)
    rw [e] at f
    have f : H b = some (.tup [.int i, .int j]) := f
    have kp2 : kP H (backV (Value.ref b)) = (i, j) := by
      show kP H (.ref b) = _
      unfold kP
      dsimp only
      rw [f]
    rw [kp2]
    obtain ⟨_, its2, r2, ob, hob, hcb, n, hdb⟩ := I.hok _ _ f
    obtain ⟨u1, u2, rfl, ri, rj⟩ := vals2 r2
    obtain ⟨t1, rfl⟩ := ri
    obtain ⟨t2, rfl⟩ := rj
    exact ⟨b, ob, t1, t2, n, rfl, hob, hcb, hdb⟩
  have refs : ∀ u ∈ bs.map Value.ref, ∃ a, u = Value.ref a := fun u hu => by
    obtain ⟨b, _, rfl⟩ := List.mem_map.mp hu
    exact ⟨b, rfl⟩
  refine wpAny_bind (wpAny_holding (wpAny_call_entry slot_list_sort ⟨_, hb, rfl⟩ entry_list_sort (SrtO.list_sort_ord (ltv := fun v u => SrtO.lexB (kP H (backV v)) (kP H (backV u))) (SrtO.swo_lex fun v => kP H (backV v)) hb (by rw [List.length_map]; omega) (fun h2 => ?_) fun out ho hst => ⟨_, rfl, ?_⟩) (args_list_sort _)))
  · refine SrtO.pairs_sortableO (k := fun v => kP H (backV v)) (by omega) (fun v hv => (pairs v hv).keeps fun b o e _ => Heap.get?_push_of_some _ (kp b o e)) fun o e => ?_
    rw [hb] at e
    cases e
    intro c
    exact absurd (Value.type.inj c) (by decide)
  · refine wpAny_pure ⟨_, rfl, ?_⟩
    have h3 : ∀ u ∈ out, ∃ a, u = Value.ref a := fun u hu => refs u (hst.perm.mem_iff.mp hu)
    have hb3 : SrtO.Stb (ltP (kP H)) (out.map backV) (bs.map V.ref) := by
      have := SrtO.Stb.map (ltP_swo (kP H)) backV hst
      rw [List.map_map] at this
      exact this
    obtain ⟨n, hat⟩ := sortedHeap_at (out := out.toArray) hb
    have hsz : s.heap.objs.size ≤ h'.objs.size := by omega
    have hlt : ∀ b, b < s.heap.objs.size → b ≠ h'.objs.size := fun b h => by omega
    refine ⟨.ref h'.objs.size, upd H h'.objs.size (.lst (out.map backV)), I.laid (t' := tk) (fun b o e => ?_) hsz ⟨?_, out, n, vals_back h3, hat⟩, rfl, q _ _ _ isk (SrtO.srtd_map ho) hb3 (I.hok.fresh hsz)⟩
    · have := Heap.lt_size e
      rw [sortedHeap_old (hlt b this) (by rw [Heap.size_push]; exact Nat.lt_succ_of_lt (Nat.lt_trans this hlt0))]
      exact Heap.get?_push_of_some _ (kp b o e)
    · rw [hb3.len, List.length_map]
      omega
/-! isinstance of a dict -/
def rIsiDc (K : PySem.W.Frag) : List V → Hp → VK → Prop := fun xs H Q => ∃ p n b, xs = [V.ref p, .ty n] ∧ IsD H p ∧ PySem.W.kitOne K (.type "dict") (.type n) = some b ∧ Q (.bl b) H
theorem call_isiDc : CallR X (.builtin "isinstance") (rIsiDc X.K) := by
  intro pins s σ H xs us Q I r h
  obtain ⟨p, n, b, rfl, hd, e, q⟩ := h
  obtain ⟨u1, u2, rfl, r1, r2⟩ := vals2 r
  cases r1
  obtain rfl : u2 = Value.type n := r2
  have at_ : ∃ o, s.heap.get? p = some o ∧ o.cls = .type "dict" := by
    obtain ⟨⟨o, ho, hc⟩, _⟩ := isD_at I hd
    exact ⟨o, ho, hc⟩
  exact PySem.W.kia_one PySem.W.kitx_dict I.kIn at_ e (fun z => nomatch z) fun tk => ⟨.bl b, H, I.tok tk, rfl, q⟩
end
theorem call_isiV {X : Cx} {K : PySem.W.Frag} (hK : X.K = K := by rfl) : CallR X (.builtin "isinstance") (fun xs H Q => rIsi K xs H Q ∨ rIsiDc K xs H Q) := call_or2 (call_isiK hK) (hK ▸ call_isiDc)
theorem call_sortedV {X : Cx} {K : PySem.W.Frag} (hc : X.calm = true) (hK : X.K = K := by rfl) : CallR X (.builtin "sorted") (fun xs H Q => rSortedU K xs H Q ∨ rSortedDc xs H Q) := call_or2 (call_sortedU hK) (cr_sortedDc hc)
theorem call_lenV {X : Cx} {K : PySem.W.Frag} (hK : X.K = K := by rfl) : CallR X (.builtin "len") (fun xs H Q => rLenU K xs H Q ∨ rLenDc xs H Q) := call_or2 (call_lenU hK) call_lenDc
/-! the plain side -/
def isiV : List D → Option D
  | [.dT _, .ty n] => (kitB "dict" n).map D.bl
  | [.dK _, .ty n] => (kitB "dict" n).map D.bl
  | ds => isiD ds
def lenV : List D → Option D
  | [.dT kvs] => some (.int (kvs.length : Nat))
  | [.dK kvs] => some (.int (kvs.length : Nat))
  | ds => lenD ds
def listV : List D → Option D
  | [.dT kvs] => some (.lst (kvs.map fun q => keysD q.1))
  | ds => listD ds
def sortedV : List D → Option D
  | [.dT kvs] => (pairsOf (kvs.map fun q => keysD q.1)).map fun ps => .lst ((sortP ps).map prD)
  | ds => sortedD ds
theorem calls_isiV {K : PySem.W.Frag} : CallS K (fun xs H Q => rIsi K xs H Q ∨ rIsiDc K xs H Q) isiV true := fun H vs ds z S Q r e q => by
  unfold isiV at e
  split at e
  · rename_i kvs n
    obtain ⟨v, u, S1, S2, rfl, h1, h2⟩ := reps2 r
    cases h2
    obtain ⟨p, xs, S', rfl, _, hr, _⟩ := rep_dT h1
    cases e2 : kitB "dict" n with
    | none => rw [e2] at e; cases e
    | some b =>
      rw [e2] at e
      cases e
      exact .inr ⟨p, n, b, rfl, .inr ⟨_, hr⟩, kit_ty e2, q _ H [] (.bl _) (Same.refl _) fun _ => ⟨Nw.nil, trivial⟩⟩
  · rename_i kvs n
    obtain ⟨v, u, S1, S2, rfl, h1, h2⟩ := reps2 r
    cases h2
    obtain ⟨p, xs, S', rfl, _, hr, _⟩ := rep_dK h1
    cases e2 : kitB "dict" n with
    | none => rw [e2] at e; cases e
    | some b =>
      rw [e2] at e
      cases e
      exact .inr ⟨p, n, b, rfl, .inl ⟨_, hr⟩, kit_ty e2, q _ H [] (.bl _) (Same.refl _) fun _ => ⟨Nw.nil, trivial⟩⟩
  · exact .inl (calls_isi H vs _ z S Q r e q)
theorem calls_lenV {K : PySem.W.Frag} : CallS K (fun xs H Q => rLenU K xs H Q ∨ rLenDc xs H Q) lenV true := fun H vs ds z S Q r e q => by
  unfold lenV at e
  split at e
  · obtain ⟨v, rfl, h⟩ := reps1 r
    obtain ⟨p, xs, S', rfl, _, hr, h2⟩ := rep_dT h
    cases e
    exact .inr ⟨p, rfl, .inl ⟨_, hr, by rw [h2.len]; exact q _ H [] (.int _) (Same.refl _) fun _ => ⟨Nw.nil, trivial⟩⟩⟩
  · obtain ⟨v, rfl, h⟩ := reps1 r
    obtain ⟨p, xs, S', rfl, _, hr, h2⟩ := rep_dK h
    cases e
    exact .inr ⟨p, rfl, .inr ⟨_, hr, by rw [h2.len]; exact q _ H [] (.int _) (Same.refl _) fun _ => ⟨Nw.nil, trivial⟩⟩⟩
  · exact .inl (calls_len H vs _ z S Q r e q)
theorem keys_reps {K : PySem.W.Frag} {H H' : Hp} (s : Same H H') {kvs : List (List Key × V)} {ds : List (List Key × D)} {bs : List Addr} (h : IsKeys H kvs bs) (e : kvs.map (·.1) = ds.map (·.1)) : Reps K H' (bs.map V.ref) (ds.map fun q => keysD q.1) [] := by
  unfold IsKeys at h
  have e2 : (ds.map fun q => keysD q.1) = kvs.map fun q => keysD q.1 := by
    have := congrArg (List.map keysD) e
    rw [List.map_map, List.map_map] at this
    exact this.symm
  rw [e2]
  clear e e2
  induction h with
  | nil => exact .nil
  | cons h t ih => exact Reps.cons (S := []) (S2 := []) (rep_keys (s _ _ h)) ih
theorem new_lst {K : PySem.W.Frag} {H : Hp} {p : Addr} {zs : List V} {es : List D} {Q : VK} {z : D} (hp : H p = none) (hr : ∀ H', Same H H' → Reps K H' zs es []) (ez : z = .lst es) (q : ∀ v H' U, Rep K H' v z U → Same H H' → (true = true → Nw H H' U ∧ Top K H' v z U) → Q v H') : Q (.ref p) (upd H p (.lst zs)) := by
  subst ez
  have s := Same.new (o := HO.lst zs) hp
  have rr := hr _ s
  exact q _ _ [p] (.lst (.inl upd_same) rr) s fun _ => ⟨⟨by simp, fun b hb => (by simp at hb; subst hb; exact hp), fun b hb => (by simp at hb; subst hb; intro o u k; rw [upd_same] at k; cases k)⟩, p, _, [], rfl, rfl, upd_same, rr⟩
theorem calls_listV {K : PySem.W.Frag} : CallS K (fun xs H Q => rListOf K xs H Q ∨ rListDc xs H Q) listV true := fun H vs ds z S Q r e q => by
  unfold listV at e
  split at e
  · obtain ⟨v, rfl, h⟩ := reps1 r
    obtain ⟨p, xs, S', rfl, _, hr, h2⟩ := rep_dT h
    cases e
    exact .inr ⟨p, xs, rfl, hr, fun p2 bs hp hk => new_lst hp (fun H' s => keys_reps s hk h2.ok.1) rfl q⟩
  · exact .inl (calls_list H vs _ z S Q r e q)
theorem calls_sortedV {K : PySem.W.Frag} : CallS K (fun xs H Q => rSortedU K xs H Q ∨ rSortedDc xs H Q) sortedV true := fun H vs ds z S Q r e q => by
  unfold sortedV at e
  split at e
  · rename_i kds
    obtain ⟨v, rfl, h⟩ := reps1 r
    obtain ⟨p, xs, S', rfl, _, hr, h2⟩ := rep_dT h
    cases z3 : pairsOf (kds.map fun q => keysD q.1) with
    | none => rw [z3] at e; cases e
    | some ps =>
      rw [z3] at e
      cases e
      have ep := pairsOf_eq z3
      have keys := h2.ok.1
      have two : ∀ q ∈ xs, ∃ i j, q.1 = [Sum.inl i, Sum.inl j] := fun q hq => by
        have m1 : q.1 ∈ kds.map (·.1) := by rw [← keys]; exact List.mem_map.mpr ⟨q, hq, rfl⟩
        obtain ⟨kd, hm, e1⟩ := List.mem_map.mp m1
        have m2 : keysD kd.1 ∈ ps.map prD := by rw [← ep]; exact List.mem_map.mpr ⟨kd, hm, rfl⟩
        obtain ⟨pr, _, e2⟩ := List.mem_map.mp m2
        rw [← e1]
        unfold prD keysD at e2
        injection e2 with e2
        generalize kd.1 = k at e2
        cases k with
        | nil => cases e2
        | cons a k =>
          cases k with
          | nil => simp at e2
          | cons b k =>
            cases k with
            | cons c k => simp at e2
            | nil =>
              rcases a with i | z
              · rcases b with j | z
                · exact ⟨i, j, rfl⟩
                · simp [keyD] at e2
              · simp [keyD] at e2
      refine .inr ⟨p, xs, rfl, hr, two, fun bs zs p2 hk hs hst hn => ?_⟩
      have rk : Reps K H (bs.map V.ref) (ps.map prD) [] := by rw [← ep]; exact keys_reps (Same.refl _) hk keys
      obtain ⟨g1, g2⟩ := reps_pairs rk
      have e2 : zs.map (kP H) = sortP ps := by
        refine sortP_eq (by rw [← g2]; exact hst.perm.map _) (List.pairwise_map.mpr (List.Pairwise.imp (fun {x y} h => ?_) hs))
        have h := SrtO.lexB_no.mp h
        rw [leP_iff]
        omega
      exact new_lst hn (fun H' s => by rw [← e2]; exact pairs_reps s fun x hx => g1 x (hst.perm.mem_iff.mp hx)) rfl q
  · exact .inl (calls_sorted H vs _ z S Q r e q)
end Ol
namespace Ol
open PySem PySem.Spec PyProof.Rows L2
/-! ## the pairs of a dict whose keys are tuples: for k, v in d.items(), list(d.items()) -/
/-- each pair a new tuple -/
def Itit (d : Addr) (o : Obj) (kvs : List (List Key × V)) : It :=
  ⟨fun i H => H d = some (.frz o (.dT kvs)) ∧ i < kvs.length, fun i H x H' => ∃ T q k v, kvs[i]? = some (k, v) ∧ x = .ref T ∧ H T = none ∧ H q = some (.tup (k.map kV)) ∧ H' = upd H T (.tup [.ref q, v]), fun i H => H d = some (.frz o (.dT kvs)) ∧ kvs.length ≤ i⟩
section
variable {X : Cx} {pins : List (Addr × Obj)} {σ : L2.St} {H : Hp} {s : Shared}
/-- the entries of a dict whose keys are tuples -/
theorem entsT {d : Addr} {kvs : List (List Key × V)} (I : Inv X pins σ H s) (h : Rd H d (.dT kvs)) : (d == sysModules) = false ∧ kvs.length ≤ sizeLine ∧ ∃ (o : Obj) (es : Array DictEntry) (ep : Nat), s.heap.get? d = some o ∧ o.ExactDict ∧ o.data = .dict es ep ∧ es.size = kvs.length ∧
    ∀ (i : Nat) (k : List Key) (v : V), kvs[i]? = some (k, v) → ∃ (hi : i < es.size) (q : Addr), es[i].key = .ref q ∧ H q = some (.tup (k.map kV)) ∧ RelV v es[i].val := by
  obtain ⟨z, hs, xs, pr, o, es, ep, ho, hx, hdt, he, _⟩ := (show ObjOk X.prog X.w H s.heap d (.dT kvs) from rd_of I.hok h)
  have l1 : es.size = xs.length := size_of_entries he
  have l2 : kvs.length = xs.length := Paired.length pr
  refine ⟨hs, z, o, es, ep, ho, hx, hdt, by omega, fun i k v e => ?_⟩
  obtain ⟨b, hb, e1, e2, e3⟩ := paired_get pr e
  have q := entry_at he i
  rw [hb] at q
  have hi : i < es.size := by rw [l1]; exact (List.getElem?_eq_some_iff.mp hb).1
  rw [Array.getElem?_eq_getElem hi] at q
  have q : es[i] = entryOfKey (tupleKind (mixKind X.prog X.w)) b := Option.some.inj q
  refine ⟨hi, b.2.1, by rw [q]; rfl, e2, ?_⟩
  rw [q]
  exact e3
end
theorem turn_itemsT {P : Program} {w : World} {K : PySem.W.Frag} {d : Addr} {o : Obj} {es : Array DictEntry} {ep : Nat} {kvs : List (List Key × V)} {elts : List Expr} {kk : Nat} {tpos : Pos} (it : Addr) (hod : o.data = .dict es ep) :
    Turn P w K (.Tuple elts kk tpos) (Itit d o kvs) [it] it (fun i h => ∃ ok ov, IsItemIter h it d i es.size ep ok ov) where
  mem := by simp
  obj := fun i h st b hb => by
    have e : b = it := by simpa using hb
    subst e
    obtain ⟨ok, ov, f⟩ := st
    exact ⟨_, f, fun v z => nomatch z⟩
  keep := fun i h h' ⟨ok, ov, e⟩ k => ⟨ok, ov, k it (by simp) _ e⟩
  item := by
    intro X hP hw hK hc i pins s σ H E I hf st hg
    subst hP hw hK
    obtain ⟨hd, hi⟩ := hg
    obtain ⟨hs, _, o', es', ep', hgd, hx, hdt, hsz, ent⟩ := entsT I (.inr ⟨o, hd⟩)
    have eo : o' = o := by
      have := (I.hok d _ hd).1
      rw [hgd] at this
      exact Option.some.inj this
    subst eo
    obtain ⟨rfl, rfl⟩ := dict_ep hod hdt
    obtain ⟨⟨k, v⟩, hkv⟩ : ∃ p, kvs[i]? = some p := ⟨kvs[i], List.getElem?_eq_getElem hi⟩
    obtain ⟨hie, q, hkey, hq, rv⟩ := ent i k v hkv
    obtain ⟨ok, ov, he⟩ := st
    have hlt : it < s.heap.objs.size := Heap.lt_size he
    refine DT.nextI he ⟨_, hgd, hx, hdt⟩ hie fun h' ho hT hz hk => ?_
    refine ⟨_, rfl, wpAny_letOwnedTupleGo_items (s := { s with heap := h' }) ho fun h'' he' sb => ?_⟩
    have hT2 := (sb.2 _ (Nat.ne_of_gt hlt)).trans hT
    have new : ObjOk X.prog X.w (upd H s.heap.objs.size (.tup [.ref q, v])) h'' s.heap.objs.size (.tup [.ref q, v]) :=
      ⟨by show 2 ≤ sizeLine; decide, [es'[i].key, es'[i].val], .cons (show RelV (.ref q) es'[i].key from hkey) (.cons rv .nil), ⟨_, hT2, rfl, _, rfl⟩⟩
    have I1 := I.turnedNew (t' := s.toks) (ch := [it]) (fun b ob hb e => (sb.2 b (by simpa using hb)).trans (hk b ob (by simpa using hb) e)) hf (Nat.le_refl _) new
    refine ⟨.ref s.heap.objs.size, _, I1, rfl, ⟨_, q, k, v, hkv, rfl, I.hok.fresh (Nat.le_refl _), hq, rfl⟩, ⟨_, _, he'⟩, fun b hb => ?_⟩
    have e : b = it := by simpa using hb
    rw [e, upd_ne (Nat.ne_of_lt hlt)]
    exact (hf it (by simp)).1
  done := by
    intro X hP hw hK hc i pins s σ H E I hf st hg
    subst hP hw hK
    obtain ⟨hd, hi⟩ := hg
    obtain ⟨f0, f1, f2, f3, f4, f5⟩ := hf it (by simp)
    obtain ⟨hs, _, o', es', ep', hgd, hx, hdt, hsz, ent⟩ := entsT I (.inr ⟨o, hd⟩)
    have eo : o' = o := by
      have := (I.hok d _ hd).1
      rw [hgd] at this
      exact Option.some.inj this
    subst eo
    obtain ⟨rfl, rfl⟩ := dict_ep hod hdt
    obtain ⟨ok, ov, he⟩ := st
    exact DT.endI (I.ok.hd hc) he ⟨_, hgd, hx, hdt⟩ (by omega) fun h' eb => ⟨rfl, I.turned (t' := s.toks) (fun b ob hb e => eb b ob hb e) f0 f1 f3 f4 f5⟩
  self := fun A i s Q E ⟨_, _, e⟩ h => PySem.W.kcp_self e h
def iItemsU (td : TE) : TI := fun σ H R => td σ H fun x H1 => ∃ d o kvs, x = .ref d ∧ H1 d = some (.frz o (.dT kvs)) ∧ R (Itit d o kvs) H1
theorem pi_itemsU {X : Cx} {e : Expr} {td : TE} {apos cpos : Pos} {elts : List Expr} {kk : Nat} {tpos : Pos} (he : PE X e td) (hb : attributeBase e "items" X.env (eval e X.env) = eval e X.env := by rfl) (hl : (apos.endLine == cpos.line) = true := by rfl) : PI X (.Tuple elts kk tpos) (.Call (.Attribute e "items" apos) [] [] cpos) (iItemsU td) := by
  refine ⟨fun pins s σ H R I h => ?_⟩
  refine wpAny_Call_method (T := "dict") (id := "dict.items") hb rfl hl F.plainAttrs_dict F.slot_dict_items F.type_dict_items (thn (he.run pins s σ H _ I h) fun u s1 ⟨x, H1, I1, rx, d, o, kvs, ex, hd, q⟩ => ?_)
  subst ex
  obtain rfl : u = Value.ref d := rx
  obtain ⟨hs, _, o', es, ep, hgd, hx, hdt, hsz, ent⟩ := entsT I1 (.inr ⟨o, hd⟩)
  have eo : o' = o := by
    have := (I1.hok d _ hd).1
    rw [hgd] at this
    exact Option.some.inj this
  subst eo
  have rw1 : DT.Raw s1.heap d es ep := ⟨_, hgd, hx, hdt⟩
  refine ⟨rw1.typeIs, fun b z => (by cases z; exact ⟨_, hgd, hx.2.1⟩), ?_⟩
  generalize hv : ({ s1 with heap := s1.heap.push { cls := .type "dict_items", data := .fields #[.ref d] } } : Shared) = s2
  have I2 : Inv X pins σ H1 s2 := by rw [← hv]; exact I1.kept (t' := s1.toks) fun b ob q => Heap.get?_push_of_some _ q
  have vw : s2.heap.IsItemsView s1.heap.objs.size d := by rw [← hv]; exact ⟨_, Heap.get?_push_size _ rfl, rfl, rfl⟩
  have rw2 : DT.Raw s2.heap d es ep := by rw [← hv]; exact rw1.push _
  have fin : wpAny (model X.prog X.w) X.A (pyIter (.ref s1.heap.objs.size)) (PIE X pins σ (.Tuple elts kk tpos) R) X.xe s2 :=
    DT.iterI vw rw2 (pi_one (tk := s2.toks) I2 _ (turn_itemsT _ hdt) ⟨.none, .none, Heap.get?_push_size _ rfl⟩ q)
  show wpAny _ _ (callWith cpos (.builtin "dict.items") [.ref d] [] []) _ X.xe s1
  refine method_meetsIn F.slot_dict_items F.entry_dict_items rfl (PySem.evalArgs_none ⟨rfl, rw1.typeIs, F.args_dict_items_1 _, _, DT.meetsItems (es := es) (ep := ep) hs, ⟨rw1, ?_⟩⟩)
  rw [hv]
  exact fin
theorem way_items {K : PySem.W.Frag} : WayD K iItemsU kdItems where
  go := by
    intro σ H1 p od u d S ds te R ht hp nu r e q
    refine ht _ ?_
    cases d with
    | dT kds =>
      cases e
      cases r with
      | @dT _ kvs _ S' h1 h2 =>
        have hp := rd_frz hp nfz_dT h1
        refine ⟨p, od, kvs, rfl, hp, q _ fun H2 n t k => ?_⟩
        have hp2 : H2 p = some (.frz od (.dT kvs)) := by rw [k p List.mem_cons_self]; exact hp
        have h2' : RepT K H2 kvs kds S' := h2.mono t fun a ha o e => by rw [k a (List.mem_cons_of_mem _ ha)]; exact e
        obtain ⟨e1, e2⟩ := h2'.ok
        refine ⟨fun d hd => ?_, fun hd => ⟨hp2, ?_⟩⟩
        · rw [List.getElem?_map] at hd
          cases z : kds[n]? with
          | none => rw [z] at hd; cases hd
          | some kd =>
            rw [z] at hd
            cases hd
            obtain ⟨v, U, q1, q2, q3⟩ := e2 n kd.1 kd.2 (by rw [z])
            refine ⟨⟨hp2, (List.getElem?_eq_some_iff.mp q1).1⟩, fun x H3 y => ?_⟩
            obtain ⟨T, q', k', v', g1, rfl, g3, g4, rfl⟩ := y
            rw [q1] at g1
            cases g1
            have s := Same.new (o := HO.tup [.ref q', v]) g3
            refine ⟨s, [] ++ (U ++ []), .tup (.inl upd_same) ?_⟩
            exact .cons (rep_keys (s _ _ g4)) (.cons (q2.same s) .nil)
        · rw [len_map e1]
          have := List.getElem?_eq_none_iff.mp hd
          simpa using this
    | _ => cases e
end Ol
namespace Ol
open PySem PySem.Spec PyProof.Rows L2
/-! ## list(d.items()) -/
def rItL : V → Hp → VK → Prop := fun x H Q => ∃ (d : Addr) (kvs : List (List Key × V)), x = .ref d ∧ Rd H d (.dT kvs) ∧
  ∀ (H' : Hp) (p : Addr) (ts : List Addr), Same H H' → (∀ b, H' b = none → H b = none) → H p = none → ts.Nodup → p ∉ ts → (∀ t ∈ ts, H t = none) → H' p = some (.lst (ts.map V.ref)) → ts.length = kvs.length → (∀ (j : Nat) (t : Addr), ts[j]? = some t → ∃ k v q, kvs[j]? = some (k, v) ∧ H q = some (.tup (k.map kV)) ∧ H' t = some (.tup [.ref q, v])) → Q (.ref p) H'
def tItL (te : TE) : TE := fun σ H Q => te σ H fun x H1 => rItL x H1 Q
theorem pe_itL {X : Cx} {e : Expr} {te : TE} {p apos cpos pos : Pos} (hc : X.calm = true) (he : PE X e te) (hg : Gl X "list") (hm : X.mg "list" = none) (hv : bootBuiltins "list" = some (.type "list") := by rfl) (hb : attributeBase e "items" X.env (eval e X.env) = eval e X.env := by rfl) (hl : (apos.endLine == cpos.line) = true := by rfl)
    (hs : starEach [.Call (.Attribute e "items" apos) [] [] cpos] X.env = (false, eval (.Call (.Attribute e "items" apos) [] [] cpos) X.env) :: starEach [] X.env := by rfl) : PE X (.Call (.Name "list" p) [.Call (.Attribute e "items" apos) [] [] cpos] [] pos) (tItL te) := by
  refine ⟨fun pins s σ H Q I hq => ?_⟩
  refine wpAny_Call_Name_kw (ld_blt I hg hm hv ?_)
  refine PyProof.Rows.callWith_type1 ?_ hs rfl
  rw [hs]
  show wpAny _ _ (spliced ((false, eval (.Call (.Attribute e "items" apos) [] [] cpos) X.env) :: backTo pos (starEach [] X.env))) _ _ s
  refine Calls.spliced_cons (wpAny_Call_method (T := "dict") (id := "dict.items") hb rfl hl F.plainAttrs_dict F.slot_dict_items F.type_dict_items (thn (he.run pins s σ H _ I hq) fun u s1 ⟨x, H1, I1, rx, d, kvs, ex, hd, q⟩ => ?_))
  subst ex
  obtain rfl : u = Value.ref d := rx
  obtain ⟨hs, hz, o, es, ep, hgd, hx, hdt, hsz, ent⟩ := entsT I1 hd
  have rw1 : DT.Raw s1.heap d es ep := ⟨_, hgd, hx, hdt⟩
  refine ⟨rw1.typeIs, fun b z => (by cases z; exact ⟨_, hgd, hx.2.1⟩), ?_⟩
  generalize hv2 : ({ s1 with heap := s1.heap.push { cls := .type "dict_items", data := .fields #[.ref d] } } : Shared) = s2
  have I2 : Inv X pins σ H1 s2 := by rw [← hv2]; exact I1.kept (t' := s1.toks) fun b ob q => Heap.get?_push_of_some _ q
  have vw : s2.heap.IsItemsView s1.heap.objs.size d := by rw [← hv2]; exact ⟨_, Heap.get?_push_size _ rfl, rfl, rfl⟩
  have rw2 : DT.Raw s2.heap d es ep := by rw [← hv2]; exact rw1.push _
  show wpAny _ _ (callWith cpos (.builtin "dict.items") [.ref d] [] []) _ X.xe s1
  refine method_meetsIn F.slot_dict_items F.entry_dict_items rfl (PySem.evalArgs_none ⟨rfl, rw1.typeIs, F.args_dict_items_1 _, _, DT.meetsItems (es := es) (ep := ep) hs, ⟨rw1, ?_⟩⟩)
  rw [hv2]
  refine Calls.spliced_nil ?_
  refine PySem.W.dil_call (es := es) (ep := ep) (I1.ok.hd hc) vw rw2 (by omega) fun h' tk acc c as hk hS hl hG hacc => ?_
  have nd : as.Nodup := List.Pairwise.imp (fun h => Nat.ne_of_lt h) hG.rise
  have newS : H1 s2.heap.objs.size = none := I2.hok.fresh (Nat.le_refl _)
  have new : ∀ t ∈ as, H1 t = none := fun t ht => I2.hok.fresh (Nat.le_of_lt (hG.above t ht))
  have hSn : s2.heap.objs.size ∉ as := fun z => Nat.lt_irrefl _ (hG.above _ z)
  -- the list
  have IL : Inv X pins σ (upd H1 s2.heap.objs.size (.lst (as.map V.ref))) { s2 with heap := h', toks := tk } :=
    I2.laid (t' := tk) hk (Nat.le_refl _) ⟨by rw [List.length_map]; omega, acc.toList, c, by rw [hacc]; exact vals_refs as, by rw [Array.toArray_toList]; exact hS⟩
  -- the pairs
  have at_ : ∀ (j : Nat) (t : Addr), as[j]? = some t → ∃ k v q, kvs[j]? = some (k, v) ∧ H1 q = some (.tup (k.map kV)) ∧ ∀ H2, ObjOk X.prog X.w H2 h' t (.tup [.ref q, v]) := fun j t ht => by
    obtain ⟨hj, hp⟩ := hG.pairs j t ht
    have hj2 : j < kvs.length := by omega
    obtain ⟨_, q, hkey, hq, rv⟩ := ent j (kvs[j]).1 (kvs[j]).2 (by rw [List.getElem?_eq_getElem hj2])
    exact ⟨_, _, q, List.getElem?_eq_getElem hj2, hq, fun H2 => ⟨by show 2 ≤ sizeLine; decide, [es[j].key, es[j].val], .cons (show RelV (.ref q) es[j].key from hkey) (.cons rv .nil), ⟨_, hp, rfl, _, rfl⟩⟩⟩
  obtain ⟨H2, I3, g1, g2⟩ := L2.DX.takeT (P := fun t xs => ∀ j : Nat, as[j]? = some t → ∃ k v q, kvs[j]? = some (k, v) ∧ H1 q = some (.tup (k.map kV)) ∧ xs = [.ref q, v]) I2 as _ IL nd fun t ht => by
    obtain ⟨j, hj⟩ := List.getElem?_of_mem ht
    obtain ⟨k, v, q, e1, e2, ok⟩ := at_ j t hj
    refine ⟨Nat.le_of_lt (hG.above t ht), by rw [upd_ne (fun z => hSn (by rw [← z]; exact ht))]; exact new t ht, _, fun j' hj' => ?_, ok⟩
    have ej : j' = j := by
      have h1 := (List.getElem?_eq_some_iff.mp hj).1
      have h2 := (List.getElem?_eq_some_iff.mp hj').1
      exact (List.getElem_inj nd).mp (by rw [(List.getElem?_eq_some_iff.mp hj').2, (List.getElem?_eq_some_iff.mp hj).2])
    subst ej
    exact ⟨k, v, q, e1, e2, rfl⟩
  have sm : Same H1 H2 := fun b o e => g1 b o (by rw [upd_ne (ne_of_none e newS)]; exact e)
  refine ⟨.ref s2.heap.objs.size, H2, I3, rfl, q H2 _ as sm (fun b e => ?_) newS nd hSn new (g1 _ _ upd_same) (by omega) fun j t ht => ?_⟩
  · cases z : H1 b with
    | none => rfl
    | some o => rw [sm b o z] at e; cases e
  · obtain ⟨xs, hP, e⟩ := g2 t (List.mem_of_getElem? ht)
    obtain ⟨k, v, q, e1, e2, e3⟩ := hP j ht
    exact ⟨k, v, q, e1, e2, by rw [e, e3]⟩
def eItL (a : Env → Res D) : Env → Res D := fun ρ => (a ρ).bind fun d ρ1 => match kdItems d with
  | some xs => if imms xs = true then .ok (.lst xs) ρ1 else .bad
  | none => .bad
theorem se_itL {c : C0} {W : WX} {te : TE} {a : Env → Res D} {fa : Bool} (ha : SE c W te a true fa) : SE c W (tItL te) (eItL a) true true := fun H0 Wd Al T σ H ρ Q I q => ha H0 Wd Al T σ H ρ _ I (by
  unfold eItL at q
  cases z : a ρ with
  | bad => rw [z] at q; exact q
  | exc x ρ' => rw [z] at q; exact q
  | ok d ρ1 =>
    rw [z, Res.bind_ok] at q
    intro v H1 T1 S I1 r1 g1 nw1 p1 f1
    cases d with
    | dT ds =>
      simp only [kdItems] at q
      by_cases im : imms (ds.map fun q => D.tup [keysD q.1, q.2]) = true
      · rw [if_pos im] at q
        obtain ⟨p, kvs, S1, rfl, rfl, h1, h2⟩ := rep_dT r1
        refine ⟨p, kvs, rfl, h1, fun H' l ts sm dm hl nd hn new at_ len pr => ?_⟩
        obtain ⟨e1, s1, t1⟩ := p1 rfl
        have h2' : RepT c.K H' kvs ds S1 := h2.mono (Tk.same sm) fun a _ o e => sm a o e
        -- one by one
        have rr : ∀ (ts : List Addr) (kvs : List (List Key × V)) (ds : List (List Key × D)) (S1 : List Addr), RepT c.K H' kvs ds S1 → ts.length = kvs.length → imms (ds.map fun q => D.tup [keysD q.1, q.2]) = true →
            (∀ (j : Nat) (t : Addr), ts[j]? = some t → ∃ k v q, kvs[j]? = some (k, v) ∧ H1 q = some (.tup (k.map kV)) ∧ H' t = some (.tup [.ref q, v])) → Reps c.K H' (ts.map V.ref) (ds.map fun q => D.tup [keysD q.1, q.2]) [] := by
          intro ts
          induction ts with
          | nil =>
            intro kvs ds S1 r hl _ _
            cases kvs with
            | nil => cases r; exact .nil
            | cons _ _ => cases hl
          | cons t ts ih =>
            intro kvs ds S1 r hl im pr
            cases kvs with
            | nil => cases hl
            | cons kv kvs =>
              cases r with
              | @cons k v _ d ds U1 U2 r1 r2 =>
                rw [List.map_cons, imms, Bool.and_eq_true] at im
                have e0 : U1 = [] := r1.im (by
                  have := im.1
                  rw [imm, imms, imms, imms, Bool.and_true, Bool.and_eq_true] at this
                  exact this.2)
                subst e0
                obtain ⟨k', v', q, e1, e2, e3⟩ := pr 0 t rfl
                cases e1
                have hd : Rep c.K H' (.ref t) (.tup [keysD k, d]) [] := .tup (.inl e3) (Reps.cons (S := []) (S2 := []) (rep_keys (sm _ _ e2)) (Reps.cons (S := []) (S2 := []) r1 .nil))
                refine Reps.cons (S := []) (S2 := []) hd (ih kvs ds U2 r2 (by simpa using hl) im.2 fun j t ht => ?_)
                obtain ⟨k', v', q, e1, e2, e3⟩ := pr (j + 1) t (by simpa using ht)
                exact ⟨k', v', q, by simpa using e1, e2, e3⟩
        have rl := rr ts kvs ds S1 h2' len im pr
        refine q _ H' T1 [l] (I1.same sm) (.lst (.inl at_) rl) (g1.trans (Grw.same sm)) nw1 (fun _ => ⟨e1, s1.trans sm, t1⟩) fun _ => ⟨⟨by simp, fun a ha => ?_, fun a ha => ?_⟩, ⟨l, _, [], rfl, rfl, at_, rl⟩, fun i a ha k => ?_⟩
        · have e : a = l := by simpa using ha
          rw [e]; exact g1.dom l hl
        · have e : a = l := by simpa using ha
          subst e
          intro o u k; rw [at_] at k; cases k
        · have e : a = l := by simpa using ha
          subst e
          exact I1.doms i _ k hl
      · rw [if_neg im] at q; exact q.elim
    | _ => exact q.elim)
end Ol
namespace Ol
open PySem PySem.Spec PyProof.Rows L2
/-! ## dict(d): keys that are tuples of numbers, no two of one hash -/
def hashI : Key → Int
  | .inl i => hashInt i
  | .inr _ => 0
def hashK (k : List Key) : Int := reduceHash (Builtin.Tuple.tupleHashOf (k.map hashI))
def allI (k : List Key) : Bool := k.all fun x => match x with
  | .inl _ => true
  | .inr _ => false
theorem hashK_eq {P : Program} {w : World} {k : List Key} (h : allI k = true) : tupleKeyHash (mixKind P w) k = hashK k := by
  unfold tupleKeyHash hashK
  congr 2
  apply List.map_congr_left
  intro x hx
  have := List.all_eq_true.mp h x hx
  cases x with
  | inl i => rfl
  | inr z => cases this
def hashNd (ks : List (List Key)) : Bool := ks.all allI && decide ((ks.map hashK).Nodup)
def rDictDc : List V → Hp → VK → Prop := fun xs H Q => ∃ d kvs, xs = [V.ref d] ∧ Rd H d (.dT kvs) ∧ kvs.length < 16777216 ∧ hashNd (kvs.map (·.1)) = true ∧ ∀ p, H p = none → Q (.ref p) (upd H p (.dT kvs))
theorem call_dictDc {X : Cx} (hu : X.A.units + 65 < cLine) : CallR X (.type "dict") rDictDc := by
  intro pins s σ H xs us Q I r h
  obtain ⟨d, kvs, rfl, hd, hlen, hnd, q⟩ := h
  obtain ⟨u, rfl, rx⟩ := r.one
  cases rx
  obtain ⟨z, hs, xs', pr, dd⟩ := dt_rd I.hok hd
  have lx : kvs.length = xs'.length := Paired.length pr
  have kx : xs'.map (·.1) = kvs.map (·.1) := by
    have : ∀ {kvs : List (List Key × V)} {xs : List (List Key × Addr × Value)}, KT H kvs xs → xs.map (·.1) = kvs.map (·.1) := by
      intro kvs xs h
      induction h with
      | nil => rfl
      | cons f t ih => simp [ih, f.1]
    exact this pr
  obtain ⟨hall, hno⟩ := (Bool.and_eq_true _ _).mp hnd
  have hno := of_decide_eq_true hno
  have hkn : (xs'.map fun x => (tupleKind (mixKind X.prog X.w)).hash x.1).Nodup := by
    have e : (xs'.map fun x => (tupleKind (mixKind X.prog X.w)).hash x.1) = (kvs.map (·.1)).map hashK := by
      rw [← kx, List.map_map]
      apply List.map_congr_left
      intro x hx
      exact hashK_eq (List.all_eq_true.mp hall x.1 (by rw [← kx]; exact List.mem_map.mpr ⟨x, hx, rfl⟩))
    rw [e]
    exact hno
  refine callType_codes (Q₁ := fun obj s₁ => obj = .ref s.heap.objs.size ∧ s₁ = { s with heap := s.heap.push { cls := .type "dict", data := .dict #[] } }) F.kt_called_dict (F.kt_typeCall_dict_1 _) F.entry_dict_init (kt_code_dict_new _ ⟨rfl, rfl⟩) fun obj s₁ ⟨e1, e2⟩ => ?_
  subst e1 e2
  have st := @tupleKind_stays X.prog X.w Key _ (mixKind X.prog X.w)
  have keep : ∀ b o, s.heap.get? b = some o → (s.heap.push { cls := .type "dict", data := .dict #[] }).get? b = some o := fun b o e => Heap.get?_push_of_some _ e
  have new : (s.heap.push { cls := .type "dict", data := .dict #[] }).DictOfH (tupleKind (mixKind X.prog X.w)) s.heap.objs.size [] := Heap.DictOfH.new s.heap
  obtain ⟨o, es, ep, hg, hx, hdt, he, his, hn⟩ := id dd
  have is2 : ∀ x ∈ xs', (tupleKind (mixKind X.prog X.w)).is (s.heap.push { cls := .type "dict", data := .dict #[] }) x.1 x.2.1 := fun x hx => st.all _ (fun b o _ e => keep b o e) _ _ (his x hx)
  have old : (s.heap.push { cls := .type "dict", data := .dict #[] }).DictOfH (tupleKind (mixKind X.prog X.w)) d xs' := ⟨o, es, ep, keep _ _ hg, hx, hdt, he, is2, hn⟩
  have hdo : s.heap.objs.size ≠ d := Nat.ne_of_gt (Heap.lt_size hg)
  refine ⟨new.typeIs, F.args_dict_init_2 _ _, ?_⟩
  unfold Builtin.«dict.__init__»
  refine wpAny_bind ?_
  unfold Builtin.Dict.selfAndRest
  refine wpAny_bind (wpAny_notOrdered_dict new.typeIs (show wpAny _ _ (pure (s.heap.objs.size, [Value.ref d])) _ _ _ from wpAny_pure ?_))
  have ty : ∀ x ∈ xs', Shared.TypeIs { s with heap := s.heap.push { cls := .type "dict", data := .dict #[] } } (.ref x.2.1) "tuple" := keyed_apart (s := { s with heap := s.heap.push { cls := .type "dict", data := .dict #[] } }) st old
  refine updateFrom_dictH (A := X.A.in1) .none (tupleKind_room_in1 (by have e : X.A.in1.units = X.A.units + 1 := rfl; omega)) hdo hs new old (.inr ⟨ty, hkn⟩) (by rw [← lx, sizeLine_eq]; show 0 + _ ≤ _; omega) fun h' dn _ sb => ?_
  rw [storedAllH_nil_of_nodup xs' hn] at dn
  obtain ⟨o', es', ep', hg', hx', hdt', he', _, hn'⟩ := dn
  have hsz : s.heap.objs.size ≤ s.heap.objs.size := Nat.le_refl _
  have kp2 : ∀ b o, s.heap.get? b = some o → h'.get? b = some o := fun b o e => (sb.2 b (Nat.ne_of_lt (Heap.lt_size e))).trans (keep b o e)
  have nM : (s.heap.objs.size == sysModules) = false := beq_eq_false_iff_ne.mpr (Ne.symm (Nat.ne_of_lt I.big))
  have fresh : H s.heap.objs.size = none := I.hok.fresh hsz
  refine ⟨rfl, .ref s.heap.objs.size, upd H s.heap.objs.size (.dT kvs), I.laid (t' := s.toks) kp2 hsz ⟨z, nM, xs', pr.mono fun p q f => ⟨f.1, by rw [upd_ne (ne_of_none f.2.1 fresh)]; exact f.2.1, f.2.2⟩, o', es', ep', hg', hx', hdt', he', hn'⟩, rfl, q _ fresh⟩
end Ol
namespace Ol
open PySem PySem.Spec PyProof.Rows L2
/-! ## == of dicts whose keys are tuples -/
section
variable {prog : Program} {w : World} {A : Around} {E : Value → Shared → Prop} {s : Shared} {κ : Type} [DecidableEq κ] {knd : HeapKind prog w κ}
/-- item by item: e n says what the n-th comes to -/
theorem pairs_alike {nm : String} {a b : Addr} {xs ys : List (κ × Addr × Value)} {e : Nat → Bool} {Q : Bool → Shared → Prop} (na : (a == sysModules) = false) (nb : (b == sysModules) = false) (hu : knd.room A) (da : s.heap.DictOfH knd a xs) (db : s.heap.DictOfH knd b ys)
    (alike : xs.length = ys.length → ∀ (n : Nat) (x : κ × Addr × Value), xs[n]? = some x → match atKey ys x.1 with
      | none => e n = false
      | some p => SeqAt.EqIn prog w A s x.2.2 p.2 (e n)) (q : Q (decide (xs.length = ys.length) && (List.range xs.length).all e) s) : wpAny (model prog w) A (Builtin.Dict.samePairs nm a b) Q E s := by
  obtain ⟨o1, es1, ep1, g1, _, t1, l1, i1, n1⟩ := da
  obtain ⟨o2, es2, ep2, g2, _, t2, l2, i2, n2⟩ := db
  have z1 : es1.size = xs.length := size_of_entries l1
  have z2 : es2.size = ys.length := size_of_entries l2
  unfold Builtin.Dict.samePairs Builtin.Dict.showsAll
  rw [if_neg (by rw [na]; exact Bool.false_ne_true), if_neg (by rw [nb]; exact Bool.false_ne_true)]
  refine wpAny_bind (wpAny_pure (wpAny_bind (wpAny_pure (wpAny_bind (wpAny_dictEntries g1 t1 ?_)))))
  refine wpAny_bind (wpAny_dictEntries g2 t2 ?_)
  by_cases hsz : es1.size = es2.size
  · have q' : Q ((List.range xs.length).all e) s := by
      rw [← z1, ← z2, decide_eq_true hsz, Bool.true_and, z1] at q
      exact q
    have hits := alike (by omega)
    rw [if_neg (by rw [hsz]; simp)]
    refine wpAny_bind (wpAny_dictEpoch g1 t1 (wpAny_bind ?_))
    rw [Std.Legacy.Range.forIn_eq_forIn_range']
    simp only [Std.Legacy.Range.size, Nat.sub_zero, Nat.add_sub_cancel, Nat.div_one]
    refine wpAny_forIn_list _ (fun rest st t => (t = s ∧ st = (none, ())) ∧ ∃ n, (rest = List.range' n (es1.size - n) ∧ n ≤ es1.size) ∧ ((List.range xs.length).drop n).all e = (List.range xs.length).all e) _ ?_ ?_ _ _ ⟨⟨rfl, rfl⟩, 0, ⟨by simp, Nat.zero_le _⟩, rfl⟩
    · rintro x rest st t ⟨⟨rfl, rfl⟩, n, ⟨hr, hn⟩, inv⟩
      have hlt : n < es1.size := by
        rcases Nat.lt_or_ge n es1.size with c | c
        · exact c
        · rw [Nat.sub_eq_zero_of_le c] at hr; cases hr
      have hr2 : x :: rest = n :: List.range' (n + 1) (es1.size - (n + 1)) := by rw [hr, show es1.size - n = (es1.size - (n + 1)) + 1 by omega, List.range'_succ]
      injection hr2 with e1 e2
      subst e1
      refine wpAny_bind (wpAny_dictEntries g1 t1 ?_)
      rw [Array.getElem?_eq_getElem hlt]
      have hlx : x < xs.length := by omega
      have ent : es1[x] = entryOfKey knd xs[x] := by
        have := entry_at l1 x
        rw [Array.getElem?_eq_getElem hlt, List.getElem?_eq_getElem hlx] at this
        exact Option.some.inj this
      have hit := hits x xs[x] (List.getElem?_eq_getElem hlx)
      have dr : (List.range xs.length).drop x = x :: (List.range xs.length).drop (x + 1) := by rw [List.drop_eq_getElem_cons (by simpa using hlx), List.getElem_range]
      rw [dr, List.all_cons] at inv
      show wpAny _ _ (holding [es1[x].key, es1[x].val] _ >>= _) _ _ _
      rw [ent]
      refine wpAny_bind (wpAny_holding (wpAny_bind (wpAny_dictFind_heap hu (i1 _ (List.getElem_mem hlx)) g2 t2 l2 i2 n2 (fun no => ?_) fun j p at_ => ?_)))
      · rw [atKey_none_of_get no] at hit
        rw [show e x = false from hit, Bool.false_and] at inv
        refine wpAny_pure (?_)
        show wpAny _ _ (if (!false) = true then _ else _) _ _ _
        rw [if_pos (by decide)]
        exact wpAny_pure (wpAny_pure (by rw [inv]; exact q'))
      · rw [atKey_of_get n2 at_] at hit
        have hit : SeqAt.EqIn prog w A _ xs[x].2.2 p.2 (e x) := hit
        have hj : j < es2.size := by rw [z2]; exact (List.getElem?_eq_some_iff.mp at_).1
        have ent2 : es2[j] = entryOfKey knd (xs[x].1, p) := by
          have := entry_at l2 j
          rw [Array.getElem?_eq_getElem hj, at_] at this
          exact Option.some.inj this
        refine wpAny_bind (wpAny_dictEntries g2 t2 ?_)
        rw [Array.getElem?_eq_getElem hj]
        show wpAny _ _ (holding _ (eqBool (entryOfKey knd xs[x]).val es2[j].val)) _ _ _
        rw [ent2]
        refine wpAny_holding (hit _ _ ?_)
        cases c : e x with
        | false =>
          rw [c, Bool.false_and] at inv
          show wpAny _ _ (if (!false) = true then _ else _) _ _ _
          rw [if_pos (by decide)]
          exact wpAny_pure (wpAny_pure (by rw [inv]; exact q'))
        | true =>
          rw [c, Bool.true_and] at inv
          show wpAny _ _ (if (!true) = true then _ else _) _ _ _
          rw [if_neg (by decide)]
          refine wpAny_bind (wpAny_dictEpoch g1 t1 ?_)
          rw [if_neg (by simp)]
          exact wpAny_pure ⟨⟨rfl, rfl⟩, x + 1, ⟨e2, hlt⟩, inv⟩
    · rintro st t ⟨⟨rfl, rfl⟩, n, ⟨hr, hn⟩, inv⟩
      have hn2 : n = es1.size := by
        rcases Nat.lt_or_ge n es1.size with c | c
        · rw [show es1.size - n = (es1.size - (n + 1)) + 1 by omega, List.range'_succ] at hr; cases hr
        · omega
      rw [hn2, List.drop_eq_nil_of_le (by rw [List.length_range]; omega)] at inv
      exact wpAny_pure (by rw [show true = (List.range xs.length).all e from inv]; exact q')
  · rw [if_pos (by simpa using hsz)]
    refine wpAny_bind (wpAny_rule (wpAny_pure ?_))
    have hd : decide (xs.length = ys.length) = false := decide_eq_false (by omega)
    rw [hd, Bool.false_and] at q
    exact q
theorem dict_eqH {a b : Addr} {xs ys : List (κ × Addr × Value)} {e : Nat → Bool} {Q : Value → Shared → Prop} (na : (a == sysModules) = false) (nb : (b == sysModules) = false) (hu : A.units < cLine) (hr : knd.room A.in1) (da : s.heap.DictOfH knd a xs) (db : s.heap.DictOfH knd b ys)
    (alike : xs.length = ys.length → ∀ (n : Nat) (x : κ × Addr × Value), xs[n]? = some x → match atKey ys x.1 with
      | none => e n = false
      | some p => SeqAt.EqIn prog w A.in1 s x.2.2 p.2 (e n)) (q : Q (.bool (decide (xs.length = ys.length) && (List.range xs.length).all e)) s) : wpAny (model prog w) A (compareOp .Eq (.ref a) (.ref b)) Q E s := by
  refine wpAny_richCompare_same_room (op := .Eq) da.typeIs db.typeIs F.slot_dict_eq (wpAny_call_entry F.slot_dict_eq da.typeIs F.entry_dict_eq ?_ (F.args_dict_eq_2 _ _)) hu
  refine wpAny_bind (m := Builtin.Dict.dictSlotArgs "__eq__" ⟨[.ref a, .ref b], []⟩) ?_
  unfold Builtin.Dict.dictSlotArgs
  refine wpAny_bind (wpAny_notOrdered_dict da.typeIs (show wpAny _ _ (pure (Value.ref a, Value.ref b)) _ _ s from wpAny_pure ?_))
  refine wpAny_bind (wpAny_isInstance (T := "dict") db.typeIs F.sub_dict_dict ?_)
  simp only [Bool.not_true, Bool.false_eq_true, if_false]
  refine wpAny_bind (wpAny_pure (wpAny_bind (wpAny_pure (wpAny_bind (pairs_alike na nb hr da db alike (wpAny_pure ⟨_, rfl, (by intro x; cases x), ?_⟩))))))
  simpa using q
theorem dict_neH {a b : Addr} {xs ys : List (κ × Addr × Value)} {e : Nat → Bool} {Q : Value → Shared → Prop} (na : (a == sysModules) = false) (nb : (b == sysModules) = false) (hu : A.units < cLine) (hr : knd.room A.in1) (da : s.heap.DictOfH knd a xs) (db : s.heap.DictOfH knd b ys)
    (alike : xs.length = ys.length → ∀ (n : Nat) (x : κ × Addr × Value), xs[n]? = some x → match atKey ys x.1 with
      | none => e n = false
      | some p => SeqAt.EqIn prog w A.in1 s x.2.2 p.2 (e n)) (q : Q (.bool (!(decide (xs.length = ys.length) && (List.range xs.length).all e))) s) : wpAny (model prog w) A (compareOp .NotEq (.ref a) (.ref b)) Q E s := by
  refine wpAny_richCompare_same_room (op := .NotEq) da.typeIs db.typeIs F.slot_dict_ne (wpAny_call_entry F.slot_dict_ne da.typeIs F.entry_dict_ne ?_ (F.args_dict_ne_2 _ _)) hu
  refine wpAny_bind (m := Builtin.Dict.dictSlotArgs "__ne__" ⟨[.ref a, .ref b], []⟩) ?_
  unfold Builtin.Dict.dictSlotArgs
  refine wpAny_bind (wpAny_notOrdered_dict da.typeIs (show wpAny _ _ (pure (Value.ref a, Value.ref b)) _ _ s from wpAny_pure ?_))
  refine wpAny_bind (wpAny_isInstance (T := "dict") db.typeIs F.sub_dict_dict ?_)
  simp only [Bool.not_true, Bool.false_eq_true, if_false]
  refine wpAny_bind (wpAny_pure (wpAny_bind (wpAny_pure (wpAny_bind (pairs_alike na nb hr da db alike (wpAny_pure ⟨_, rfl, (by intro x; cases x), ?_⟩))))))
  simpa using q
end
/-! as rules -/
def alikeV (K : PySem.W.Frag) (H : Hp) (ks ls : List (List Key × V)) (f : Nat → Bool) : Prop := ∀ (n : Nat) (k : List Key) (v : V), ks[n]? = some (k, v) → (valV ls k = none ∧ f n = false) ∨ ∃ u d e, valV ls k = some u ∧ Dp K H v d ∧ Dp K H u e ∧ SeqAt.shaped d = true ∧ SeqAt.shaped e = true ∧ f n = PyData.eqv d e
def rEqDc (K : PySem.W.Frag) (neg : Bool) : R2 := fun x y H Q => ∃ a b ks ls f, x = .ref a ∧ y = .ref b ∧ Rd H a (.dT ks) ∧ Rd H b (.dT ls) ∧ alikeV K H ks ls f ∧ Q (.bl (if neg = true then !(decide (ks.length = ls.length) && (List.range ks.length).all f) else decide (ks.length = ls.length) && (List.range ks.length).all f)) H
section
variable {X : Cx} {pins : List (Addr × Obj)} {σ : L2.St} {H : Hp} {s : Shared}
theorem alike_at (I : Inv X pins σ H s) (hu : X.A.in1.units + 64 < cLine) {ks ls : List (List Key × V)} {f : Nat → Bool} {xs ys : List (List Key × Addr × Value)} (h : alikeV X.K H ks ls f) (p1 : KT H ks xs) (p2 : KT H ls ys) : ∀ (n : Nat) (x : List Key × Addr × Value), xs[n]? = some x → match atKey ys x.1 with
      | none => f n = false
      | some p => SeqAt.EqIn X.prog X.w X.A.in1 s x.2.2 p.2 (f n) := fun n x hx => by
  obtain ⟨kv, hkv, e1, _, rv⟩ := L2.DX.pget p1 hx
  have r := p2.val x.1
  rcases h n kv.1 kv.2 hkv with ⟨h1, h2⟩ | ⟨u, d, e, h1, hd, he, sd, se, h2⟩
  · rw [← e1, h1] at r
    cases z : atKey ys x.1 with
    | none => exact h2
    | some p => rw [← e1] at z; rw [z] at r; exact (show False from r).elim
  · rw [← e1, h1] at r
    cases z : atKey ys x.1 with
    | none => rw [← e1] at z; rw [z] at r; exact (show False from r).elim
    | some p =>
      rw [← e1] at z
      rw [z] at r
      obtain ⟨as, r1⟩ := Dp.reads I d kv.2 _ hd rv
      obtain ⟨bs, r2⟩ := Dp.reads I e u _ he r
      dsimp only
      rw [h2]
      exact (PySem.SeqAt.eqAt_reads d e _ _ _ _ as bs r1 r2 (SeqAt.canLay_of_shaped sd) (SeqAt.canLay_of_shaped se) (SeqAt.room_of_shaped sd hu)).inModel _ _
theorem op_eqDc (hu : X.A.units + 65 < cLine) : OpR X (compareOp .Eq) (rEqDc X.K false) := by
  intro pins s σ H x y v u Q I rx ry h
  obtain ⟨a, b, ks, ls, f, rfl, rfl, h1, h2, h3, q⟩ := h
  cases rx
  cases ry
  obtain ⟨z1, n1, xs, p1, d1⟩ := dt_rd I.hok h1
  obtain ⟨z2, n2, ys, p2, d2⟩ := dt_rd I.hok h2
  have eu : X.A.in1.units = X.A.units + 1 := rfl
  refine dict_eqH (e := f) n1 n2 (by omega) (tupleKind_room_in1 (by omega)) d1 d2 (fun _ => alike_at I (by omega) h3 p1 p2) ⟨.bl _, H, I, rfl, ?_⟩
  rw [← Paired.length p1, ← Paired.length p2]
  rw [if_neg Bool.false_ne_true] at q
  exact q
theorem op_neDc (hu : X.A.units + 65 < cLine) : OpR X (compareOp .NotEq) (rEqDc X.K true) := by
  intro pins s σ H x y v u Q I rx ry h
  obtain ⟨a, b, ks, ls, f, rfl, rfl, h1, h2, h3, q⟩ := h
  cases rx
  cases ry
  obtain ⟨z1, n1, xs, p1, d1⟩ := dt_rd I.hok h1
  obtain ⟨z2, n2, ys, p2, d2⟩ := dt_rd I.hok h2
  have eu : X.A.in1.units = X.A.units + 1 := rfl
  refine dict_neH (e := f) n1 n2 (by omega) (tupleKind_room_in1 (by omega)) d1 d2 (fun _ => alike_at I (by omega) h3 p1 p2) ⟨.bl _, H, I, rfl, ?_⟩
  rw [← Paired.length p1, ← Paired.length p2]
  rw [if_pos rfl] at q
  exact q
end
theorem op_eqV {X : Cx} {K : PySem.W.Frag} (hu : X.A.units + 65 < cLine) (hK : X.K = K := by rfl) : OpR X (compareOp .Eq) (rOr (rEqU K) (rEqDc K false)) := op_or2 (op_eqU (by omega) hK) (hK ▸ op_eqDc hu)
theorem op_neV {X : Cx} {K : PySem.W.Frag} (hu : X.A.units + 65 < cLine) (hK : X.K = K := by rfl) : OpR X (compareOp .NotEq) (rOr (rNeU K) (rEqDc K true)) := op_or2 (op_neU (by omega) hK) (hK ▸ op_neDc hu)
/-! the plain side -/
def inT (b : List (List Key × D)) (q : List Key × D) : Bool := match valD b q.1 with
  | none => false
  | some y => eqv q.2 y
def eqT (a b : List (List Key × D)) : Bool := decide (a.length = b.length) && a.all (inT b)
def shpT (a : List (List Key × D)) : Bool := a.all fun q => shp q.2
def eqVd : D → D → Option D
  | .dT a, .dT b => if shpT a = true ∧ shpT b = true then some (.bl (eqT a b)) else none
  | d, e => eqD d e
def neVd : D → D → Option D
  | .dT a, .dT b => if shpT a = true ∧ shpT b = true then some (.bl (!eqT a b)) else none
  | d, e => neD d e
def orT {α : Type} (g : α → Bool) : Option α → Bool
  | some q => g q
  | none => true
theorem range_all {α : Type} {g : α → Bool} : ∀ (l : List α), (List.range l.length).all (fun n => orT g l[n]?) = l.all g
  | [] => rfl
  | a :: l => by
    rw [List.length_cons, List.range_succ_eq_map, List.all_cons, List.all_map, List.all_cons, ← range_all l]
    rfl
theorem valD_mem {κ : Type} [DecidableEq κ] {ds : List (κ × D)} {k : κ} {d : D} (h : valD ds k = some d) : ∃ q ∈ ds, q.2 = d := by
  unfold valD at h
  obtain ⟨p, hp, e⟩ := Option.map_eq_some_iff.mp h
  exact ⟨p, List.mem_of_find?_eq_some hp, e⟩
theorem eqT_rule {K : PySem.W.Frag} {H : Hp} {x y : V} {a b : List (List Key × D)} {S S2 : List Addr} {neg : Bool} {Q : VK} (r1 : Rep K H x (.dT a) S) (r2 : Rep K H y (.dT b) S2) (h1 : shpT a = true) (h2 : shpT b = true) (q : Q (.bl (if neg = true then !eqT a b else eqT a b)) H) : rEqDc K neg x y H Q := by
  obtain ⟨p, ks, S1, rfl, _, hr1, t1⟩ := rep_dT r1
  obtain ⟨p2, ls, S3, rfl, _, hr2, t2⟩ := rep_dT r2
  refine ⟨p, p2, ks, ls, fun n => orT (inT b) a[n]?, rfl, rfl, hr1, hr2, fun n k v hk => ?_, ?_⟩
  · obtain ⟨e1, e2⟩ := t1.ok
    have hn : n < a.length := by rw [← t1.len]; exact (List.getElem?_eq_some_iff.mp hk).1
    have ek : a[n].1 = k := by
      have := congrArg (fun l => l[n]?) e1
      simp only [List.getElem?_map, hk, List.getElem?_eq_getElem hn, Option.map_some] at this
      exact (Option.some.inj this).symm
    obtain ⟨v', U, e3, rv, _⟩ := e2 n a[n].1 a[n].2 (List.getElem?_eq_getElem hn)
    rw [hk] at e3
    have ev : v' = v := (Prod.mk.inj (Option.some.inj e3)).2.symm
    subst ev
    have hb := t2.val (k := k)
    simp only [List.getElem?_eq_getElem hn, orT, inT, ek]
    cases z : valD b k with
    | none => rw [z] at hb; exact .inl ⟨hb, rfl⟩
    | some d =>
      rw [z] at hb
      obtain ⟨u, U2, e4, ru, _⟩ := hb
      obtain ⟨q2, hq2, eq2⟩ := valD_mem z
      have s1 : shp a[n].2 = true := List.all_eq_true.mp h1 _ (List.getElem_mem hn)
      have s2 : shp d = true := by rw [← eq2]; exact List.all_eq_true.mp h2 _ hq2
      exact .inr ⟨u, pd a[n].2, pd d, e4, rv.dp (shp_lay s1), ru.dp (shp_lay s2), s1, s2, rfl⟩
  · rw [t1.len, t2.len, range_all]
    exact q
theorem ops_eqV {K : PySem.W.Frag} : OpS K (rOr (rEqU K) (rEqDc K false)) eqVd true := fun H x y d e z S S2 Q r1 r2 e1 q => by
  unfold eqVd at e1
  split at e1
  · split at e1
    · rename_i h
      cases e1
      exact .inr (eqT_rule r1 r2 h.1 h.2 (by rw [if_neg Bool.false_ne_true]; exact q _ H [] (.bl _) (Same.refl _) fun _ => ⟨Nw.nil, trivial⟩))
    · cases e1
  · exact .inl (ops_eq H x y _ _ z S S2 Q r1 r2 e1 q)
theorem ops_neV {K : PySem.W.Frag} : OpS K (rOr (rNeU K) (rEqDc K true)) neVd true := fun H x y d e z S S2 Q r1 r2 e1 q => by
  unfold neVd at e1
  split at e1
  · split at e1
    · rename_i h
      cases e1
      exact .inr (eqT_rule r1 r2 h.1 h.2 (by rw [if_pos rfl]; exact q _ H [] (.bl _) (Same.refl _) fun _ => ⟨Nw.nil, trivial⟩))
    · cases e1
  · exact .inl (ops_ne H x y _ _ z S S2 Q r1 r2 e1 q)
/-! dict(d) -/
def dictD : List D → Option D
  | [.dT kvs] => if kvs.length < 16777216 ∧ hashNd (kvs.map (·.1)) = true ∧ imms (kvs.map (·.2)) = true then some (.dT kvs) else none
  | _ => none
theorem RepT.imm0 {K : PySem.W.Frag} {H : Hp} : ∀ {kvs : List (List Key × V)} {ds : List (List Key × D)} {S : List Addr}, RepT K H kvs ds S → imms (ds.map (·.2)) = true → S = []
  | [], _, _, h, _ => by cases h; rfl
  | (k, v) :: kvs, _, _, h, e => by
    cases h with
    | cons h1 h2 =>
      rw [List.map_cons, imms, Bool.and_eq_true] at e
      rw [h1.im e.1, h2.imm0 e.2]
      rfl
theorem calls_dict {K : PySem.W.Frag} : CallS K rDictDc dictD true := fun H vs ds z S Q r e q => by
  unfold dictD at e
  split at e
  · rename_i kds
    split at e
    · rename_i hc
      cases e
      obtain ⟨v, rfl, h⟩ := reps1 r
      obtain ⟨p, kvs, S', rfl, _, hr, h2⟩ := rep_dT h
      have e0 := h2.imm0 hc.2.2
      subst e0
      refine ⟨p, kvs, rfl, hr, by rw [h2.len]; exact hc.1, by rw [h2.ok.1]; exact hc.2.1, fun p2 hp => ?_⟩
      have s := Same.new (o := HO.dT kvs) hp
      have rr : RepT K (upd H p2 (.dT kvs)) kvs kds [] := h2.mono (Tk.same s) fun _ z => by cases z
      exact q _ _ [p2] (.dT (.inl upd_same) rr) s fun _ => ⟨⟨by simp, fun b hb => (by simp at hb; subst hb; exact hp), fun b hb => (by simp at hb; subst hb; intro o u k; rw [upd_same] at k; cases k)⟩, p2, _, [], rfl, rfl, upd_same, rr⟩
    · cases e
  · cases e
end Ol
namespace Ol
open PySem PySem.Spec PyProof.Rows L2
theorem hu1 {k : Nat} {A : Around} (r : Room k A) : A.units + 1 < cLine := by have := r.un; omega
theorem walkA {i : Nat} {t : TE} {D : Ends} {σ : L2.St} {H : Hp} (h : tAsg (tWalkE t) (gName i) D σ H) : tWalkD (tAsg t (gName i)) D σ H := h
theorem ps_walkA {X : Cx} {st : Stmt} {t : TE} {i : Nat} (h : PS X st (tAsg t (gName i))) : PS X st (tAsg (tWalkE t) (gName i)) :=
  ⟨fun pins s σ H D I hw => (ps_walkD h).run pins s σ H D I (walkA hw)⟩
end Ol
namespace Ol
open PySem PySem.Spec PyProof.Rows L2
/-! ## dict displays -/
section
variable {κ : Type} [DecidableEq κ]
theorem putK_new {kvs : List (κ × V)} {k : κ} {v : V} (h : k ∉ kvs.map (·.1)) : putK kvs k v = kvs ++ [(k, v)] := by
  unfold putK
  rw [if_neg]
  intro z
  obtain ⟨q, hq, e⟩ := List.any_eq_true.mp z
  exact h (List.mem_map.mpr ⟨q, hq, of_decide_eq_true e⟩)
def mergeA (kvs more : List (κ × V)) : List (κ × V) := more.foldl (fun acc kv => putK acc kv.1 kv.2) kvs
theorem mergeA_new : ∀ {more kvs : List (κ × V)}, ((kvs ++ more).map (·.1)).Nodup → mergeA kvs more = kvs ++ more
  | [], kvs, _ => by rw [List.append_nil]; rfl
  | p :: more, kvs, h => by
    have hn : p.1 ∉ kvs.map (·.1) := fun z => by
      rw [List.map_append, List.nodup_append] at h
      exact h.2.2 p.1 z p.1 (by simp) rfl
    show mergeA (putK kvs p.1 p.2) more = _
    rw [putK_new hn, mergeA_new (kvs := kvs ++ [(p.1, p.2)]) (by rw [List.append_assoc]; exact h), List.append_assoc]
    rfl
theorem mergeA_len : ∀ (more kvs : List (κ × V)), (mergeA kvs more).length ≤ kvs.length + more.length
  | [], kvs => Nat.le_refl _
  | p :: r, kvs => by
    have h1 := mergeA_len r (putK kvs p.1 p.2)
    have h2 := length_putK kvs p.1 p.2
    show (mergeA (putK kvs p.1 p.2) r).length ≤ _
    rw [List.length_cons]
    omega
end
/-- what is evaluated for a display whose keys are tuples -/
def KTv (H : Hp) : List (List Key × V) → List (V × V) → Prop := Paired fun kv p => (∃ b, p.1 = .ref b ∧ H b = some (.tup (kv.1.map kV))) ∧ p.2 = kv.2
def tDispT (trs : List (TE × TE)) : TE := fun σ H Q => ∀ p, H p = none → tPairs trs σ (upd H p (.dT [])) fun ps H2 => H2 p = some (.dT []) ∧ ∃ kvs : List (List Key × V), KTv H2 kvs ps ∧ kvs.length ≤ 15 ∧ Q (.ref p) (upd H2 p (.dT (mergeA [] kvs)))
theorem ktv_kt {P : Program} {w : World} {H : Hp} {h : Heap} (ok : HOk P w H h) {kvs : List (List Key × V)} {ps : List (V × V)} (k : KTv H kvs ps) : ∀ {ws : List (Value × Value)}, VV ps ws → ∃ xs, CarriesH (tupleKind (mixKind P w)) h ws xs ∧ KT H kvs xs := by
  induction k with
  | nil =>
    intro ws r
    cases r
    exact ⟨[], trivial, .nil⟩
  | @cons p q ps qs hd tl ih =>
    intro ws r
    cases r with
    | @cons _ b _ bs h t =>
      obtain ⟨xs, c, k⟩ := ih t
      obtain ⟨b1, b2⟩ := b
      obtain ⟨⟨a, e1, e2⟩, e3⟩ := hd
      obtain ⟨r1, r2⟩ := h
      rw [e1] at r1
      rw [e3] at r2
      refine ⟨(p.1, a, b2) :: xs, ⟨r1, rfl, key_of ok e2, c⟩, .cons ⟨rfl, e2, r2⟩ k⟩
theorem kt_merge {H : Hp} {more : List (List Key × V)} {xs : List (List Key × Addr × Value)} (k : KT H more xs) : ∀ {acc : List (List Key × V)} {ys : List (List Key × Addr × Value)}, KT H acc ys → KT H (mergeA acc more) (storedAllH ys xs) := by
  induction k with
  | nil => intro acc ys h; exact h
  | @cons p q ps qs hd tl ih =>
    intro acc ys h
    obtain ⟨h1, h2, h3⟩ := hd
    have := h.put p.1 h2 h3
    rw [h1] at this
    have e : q.1 = p.1 := h1.symm
    show KT H (mergeA (putK acc p.1 p.2) ps) (storedAllH (storedH ys q.1 q.2.1 q.2.2) qs)
    rw [← h1] at this ⊢
    exact ih this
theorem pe_dispT {X : Cx} {pos : Pos} {keys : List (Option Expr)} {values : List Expr} {trs : List (TE × TE)} (hu : X.A.units + 1 < cLine) (h : PPs X pos keys values trs) (hall : keys.all (·.isSome) = true) (hl : keys.length = values.length) (h0 : keys ≠ [])
    (h15 : keys.length ≤ 15) : PE X (.Dict keys values pos) (tDispT trs) := by
  refine ⟨fun pins s σ H Q I q => ?_⟩
  have hn := I.hok.fresh (Nat.le_refl s.heap.objs.size)
  have I1 := I.laid (a := s.heap.objs.size) (o := .dT []) (h' := s.heap.push { cls := .type "dict", data := .dict #[] }) (t' := s.toks) (fun _ _ q => Heap.get?_push_of_some _ q) (Nat.le_refl _) (dt_empty s.heap I.big)
  have hp := pairTrees_length keys values X.env pos hall hl
  have hne : pairTrees keys values X.env pos ≠ [] := fun z => by
    rw [z] at hp
    exact h0 (List.length_eq_zero_iff.mp hp.symm)
  rw [arm_eval_Dict, zip_pairTrees keys values X.env pos hall hl, dictDisplay_pairs _ hne (by omega)]
  refine wpAny_bind (wpAny_standAt (wpAny_bind (wpAny_subDictH (knd := tupleKind (mixKind X.prog X.w)) (show X.A.units < cLine by omega) (by omega) (thn (h.run pins _ σ _ _ I1 (q _ hn)) fun ws s2 ⟨ps, H2, I2, rel, e, kvs, kp, lk, q2⟩ => ?_))))
  obtain ⟨xs, c, k⟩ := ktv_kt I2.hok kp rel
  obtain ⟨z, hd, vs0, r0, dd⟩ := dt_of I2.hok e
  cases r0
  refine ⟨xs, c, dd, fun h' tk dd' hs => wpAny_pure ⟨.ref s.heap.objs.size, _, ?_, rfl, q2⟩⟩
  have hz : (mergeA [] kvs).length ≤ sizeLine := by
    have h1 := mergeA_len kvs []
    rw [List.length_nil] at h1
    rw [sizeLine_eq]; omega
  obtain ⟨q', es, ep, hq, h2, h3, h4, _, h5⟩ := dd'
  refine d_write I2 (by rw [e]; exact True.intro) hs ⟨q', hq⟩ ⟨hz, hd, _, (kt_merge k .nil).keeps fun c ys ec => ?_, q', es, ep, hq, h2, h3, h4, h5⟩
  rw [upd_ne (ne_of ec e (fun z => nomatch z))]
  exact ec
/-! the plain values: keys and values stand by turns -/
def altT : List (TE × TE) → TA
  | [] => tNil
  | (k, v) :: r => tCons k (tCons v (altT r))
def pairUp : List V → List (V × V)
  | a :: b :: r => (a, b) :: pairUp r
  | _ => []
theorem tPairs_alt : ∀ {r : List (TE × TE)} {σ : L2.St} {H : Hp} {Q : List (V × V) → Hp → Prop}, tPairs r σ H Q = altT r σ H (fun vs H' => Q (pairUp vs) H')
  | [], σ, H, Q => rfl
  | (k, v) :: r, σ, H, Q => by
    show (k σ H fun x H1 => v σ H1 fun y H2 => tPairs r σ H2 fun ps H3 => Q ((x, y) :: ps) H3) = (k σ H fun x H1 => v σ H1 fun y H2 => altT r σ H2 fun vs H3 => Q (pairUp (x :: y :: vs)) H3)
    congr 1
    funext x H1
    congr 1
    funext y H2
    exact tPairs_alt
def dispT : List D → Option (List (List Key × D))
  | [] => some []
  | a :: v :: r => (match keyT a, dispT r with
    | some k, some m => some ((k, v) :: m)
    | _, _ => none)
  | _ => none
def dispK : List D → Option (List (Key × D))
  | [] => some []
  | a :: v :: r => (match keyOf a, dispK r with
    | some k, some m => some ((k, v) :: m)
    | _, _ => none)
  | _ => none
def mergeD (acc more : List (List Key × D)) : List (List Key × D) := more.foldl (fun acc kv => putD acc kv.1 kv.2) acc
/-- a key that stands twice keeps its place and takes the later thing -/
def dispM (kvs : List (List Key × D)) : Option D := if kvs.length ≤ 15 then (if (kvs.map (·.1)).Nodup then some (.dT kvs) else if imms (kvs.map (·.2)) = true then some (.dT (mergeD [] kvs)) else none) else none
def eDispT (as : Env → Res (List D)) : Env → Res D := fun ρ => (as ρ).bind fun ds ρ1 => match dispT ds with
  | some kvs => optR (dispM kvs) ρ1
  | none => .bad
theorem repT_put0 {K : PySem.W.Frag} {H : Hp} {k : List Key} {v : V} {d : D} (rv : Rep K H v d []) {kvs : List (List Key × V)} {ds : List (List Key × D)} (h : RepT K H kvs ds []) : RepT K H (putK kvs k v) (putD ds k d) [] := by
  unfold putK putD
  rw [h.keysAny]
  by_cases c : (kvs.any fun kv => decide (kv.1 = k)) = true
  · rw [if_pos c, if_pos c]
    obtain ⟨S', r, s1, _⟩ := RepT.repl rv h List.nodup_nil
    have : S' = [] := by
      cases S' with
      | nil => rfl
      | cons a _ => exact absurd (s1 a List.mem_cons_self) (by simp)
    subst this
    exact r
  · rw [if_neg c, if_neg c]
    exact RepT.app rv h
theorem repT_merge {K : PySem.W.Frag} {H : Hp} : ∀ {ms : List (List Key × D)} {more : List (List Key × V)} {kvs : List (List Key × V)} {ds : List (List Key × D)}, RepT K H kvs ds [] → RepT K H more ms [] → RepT K H (mergeA kvs more) (mergeD ds ms) []
  | [], more, kvs, ds, h, h2 => by
    have : more = [] := by cases h2; rfl
    subst this
    exact h
  | (k, d) :: ms, more, kvs, ds, h, h2 => by
    have key : ∀ S, RepT K H more ((k, d) :: ms) S → S = [] → ∃ v more', more = (k, v) :: more' ∧ Rep K H v d [] ∧ RepT K H more' ms [] := by
      intro S h hS
      cases h with
      | cons a b =>
        obtain ⟨rfl, rfl⟩ := List.append_eq_nil_iff.mp hS
        exact ⟨_, _, rfl, a, b⟩
    obtain ⟨v, more', rfl, a, b⟩ := key [] h2 rfl
    exact repT_merge (ms := ms) (kvs := putK kvs k v) (ds := putD ds k d) (repT_put0 a h) b
def eDispK (as : Env → Res (List D)) : Env → Res D := fun ρ => (as ρ).bind fun ds ρ1 => match dispK ds with
  | some kvs => if (kvs.map (·.1)).Nodup ∧ kvs.length ≤ 15 then .ok (.dK kvs) ρ1 else .bad
  | none => .bad
theorem dispT_rep {K : PySem.W.Frag} {H : Hp} : ∀ {ds : List D} {vs : List V} {S : List Addr} {kvs : List (List Key × D)}, Reps K H vs ds S → dispT ds = some kvs → ∃ ks, KTv H ks (pairUp vs) ∧ RepT K H ks kvs S ∧ ks.map (·.1) = kvs.map (·.1)
  | [], _, _, _, h, e => by
    cases h
    cases e
    exact ⟨[], .nil, .nil, rfl⟩
  | [_], _, _, _, _, e => by cases e
  | a :: v :: r, _, _, kvs, h, e => by
    cases h with
    | cons h1 h =>
      cases h with
      | cons h2 h3 =>
        unfold dispT at e
        split at e
        · rename_i k m e1 e2
          cases e
          obtain ⟨b, rfl, hb, rfl⟩ := keyT_rep h1 e1
          obtain ⟨ks, k1, k2, k3⟩ := dispT_rep h3 e2
          exact ⟨(k, _) :: ks, .cons ⟨⟨b, rfl, hb⟩, rfl⟩ k1, by rw [List.nil_append]; exact .cons h2 k2, by rw [List.map_cons, List.map_cons, k3]⟩
        · cases e
theorem dispK_rep {K : PySem.W.Frag} {H : Hp} : ∀ {ds : List D} {vs : List V} {S : List Addr} {kvs : List (Key × D)}, Reps K H vs ds S → dispK ds = some kvs → ∃ ks : List (Key × V), pairUp vs = ks.map (fun kv => (kV kv.1, kv.2)) ∧ RepK K H ks kvs S ∧ ks.map (·.1) = kvs.map (·.1)
  | [], _, _, _, h, e => by
    cases h
    cases e
    exact ⟨[], rfl, .nil, rfl⟩
  | [_], _, _, _, _, e => by cases e
  | a :: v :: r, _, _, kvs, h, e => by
    cases h with
    | cons h1 h =>
      cases h with
      | cons h2 h3 =>
        unfold dispK at e
        split at e
        · rename_i k m e1 e2
          cases e
          obtain ⟨rfl, rfl⟩ := keyOf_rep h1 e1
          obtain ⟨ks, k1, k2, k3⟩ := dispK_rep h3 e2
          exact ⟨(k, _) :: ks, by rw [List.map_cons, pairUp, k1], by rw [List.nil_append]; exact .cons h2 k2, by rw [List.map_cons, List.map_cons, k3]⟩
        · cases e
section
variable {c : C0} {W : WX} {trs : List (TE × TE)} {as : Env → Res (List D)}
theorem se_dispT (ha : SA c W (altT trs) as true true) : SE c W (tDispT trs) (eDispT as) true true := fun H0 Wd Al T σ H ρ Q I q p hp => by
  rw [tPairs_alt]
  have s0 := Same.new (o := HO.dT []) hp
  refine ha H0 Wd Al T σ _ ρ _ (I.same s0) ?_
  unfold eDispT at q
  cases z : as ρ with
  | bad => rw [z] at q; exact q
  | exc x ρ' => rw [z] at q; exact q
  | ok ds ρ1 =>
    rw [z, Res.bind_ok] at q
    intro vs H2 T2 S I2 r2 g2 nw2 p2 f2
    obtain ⟨e1, s2, t2⟩ := p2 rfl
    subst e1 t2
    obtain ⟨nwS, dj⟩ := f2 rfl
    have hp2 : H2 p = some (.dT []) := s2 _ _ upd_same
    cases z2 : dispT ds with
    | none => rw [z2] at q; exact q.elim
    | some kvs =>
      rw [z2] at q
      dsimp only at q
      obtain ⟨ks, k1, k2, k3⟩ := dispT_rep r2 z2
      have hl : ks.length = kvs.length := by have := congrArg List.length k3; simpa using this
      have pS : ∀ a ∈ S, a ≠ p := fun a ha e => by
        have := nwS.new a ha
        rw [e, upd_same] at this
        cases this
      have fin : ∀ (ls : List (List Key × V)) (ms : List (List Key × D)) (U : List Addr), (∀ a ∈ U, a ∈ S) → U.Nodup → RepT c.K H2 ls ms U → (match (Res.ok (D.dT ms) ρ1 : Res D) with
          | .ok d ρ' => ∀ v H' T' S, SIT c H0 Wd Al T' σ H' ρ' → Rep c.K H' v d S → Grw H H' → (∀ i, ∀ a ∈ T' i, a ∈ T2 i ∨ H a = none) → (true = true → ρ' = ρ1 ∧ Same H H' ∧ T' = T2) → (true = true → New c.K H H' T' v d S) → Q v H'
          | .exc x ρ' => ∀ H' T', SIT c H0 Wd Al T' σ H' ρ' → W (.ref (He.ga c.K x)) none σ H'
          | .bad => False) → Q (.ref p) (upd H2 p (.dT ls)) := by
        intro ls ms U hU nU k2 q
        have sF : Same H (upd H2 p (.dT ls)) := fun a o h => by
          have e : a ≠ p := fun e => by rw [e, hp] at h; cases h
          rw [upd_ne e]
          exact s2 a o (by rw [upd_ne e]; exact h)
        have rF : RepT c.K (upd H2 p (.dT ls)) ls ms U := k2.mono (fun a xs h => by rw [upd_ne (fun e => by rw [e, hp2] at h; cases h)]; exact h) fun a ha o h => by rw [upd_ne (pS a (hU a ha))]; exact h
        refine q (.ref p) _ _ (p :: U) (I.same sF) (.dT (.inl upd_same) rF) (Grw.same sF) (fun _ _ z => .inl z) (fun _ => ⟨rfl, sF, rfl⟩) fun _ => ⟨⟨List.nodup_cons.mpr ⟨fun z => pS p (hU p z) rfl, nU⟩, fun a ha => ?_, fun a ha => ?_⟩, ⟨p, ls, U, rfl, rfl, upd_same, rF⟩, fun i a ha k => ?_⟩
        · rcases List.mem_cons.mp ha with rfl | ha
          · exact hp
          · have := nwS.new a (hU a ha)
            rwa [upd_ne (pS a (hU a ha))] at this
        · rcases List.mem_cons.mp ha with rfl | ha
          · intro o u k
            rw [upd_same] at k
            cases k
          · intro o u k
            rw [upd_ne (pS a (hU a ha))] at k
            exact nwS.nf a (hU a ha) o u k
        · rcases List.mem_cons.mp ha with rfl | ha
          · exact I.doms i _ k hp
          · exact dj i a (hU a ha) k
      unfold dispM at q
      by_cases hk : kvs.length ≤ 15
      · rw [if_pos hk] at q
        by_cases hn : (kvs.map (·.1)).Nodup
        · rw [if_pos hn] at q
          refine ⟨hp2, ks, k1, by omega, ?_⟩
          rw [mergeA_new (by rw [List.nil_append, k3]; exact hn), List.nil_append]
          exact fin ks kvs S (fun _ h => h) nwS.nod k2 q
        · rw [if_neg hn] at q
          by_cases hi : imms (kvs.map (·.2)) = true
          · rw [if_pos hi] at q
            have e0 := k2.imm0 hi
            subst e0
            exact ⟨hp2, ks, k1, by omega, fin _ _ [] (fun _ h => h) List.nodup_nil (repT_merge (kvs := []) (ds := []) .nil k2) q⟩
          · rw [if_neg hi] at q; exact q.elim
      · rw [if_neg hk] at q; exact q.elim
theorem se_dispK (ha : SA c W (altT trs) as true true) : SE c W (tDisp trs) (eDispK as) true true := fun H0 Wd Al T σ H ρ Q I q p hp => by
  rw [tPairs_alt]
  have s0 := Same.new (o := HO.dK []) hp
  refine ha H0 Wd Al T σ _ ρ _ (I.same s0) ?_
  unfold eDispK at q
  cases z : as ρ with
  | bad => rw [z] at q; exact q
  | exc x ρ' => rw [z] at q; exact q
  | ok ds ρ1 =>
    rw [z, Res.bind_ok] at q
    intro vs H2 T2 S I2 r2 g2 nw2 p2 f2
    obtain ⟨e1, s2, t2⟩ := p2 rfl
    subst e1 t2
    obtain ⟨nwS, dj⟩ := f2 rfl
    have hp2 : H2 p = some (.dK []) := s2 _ _ upd_same
    cases z2 : dispK ds with
    | none => rw [z2] at q; exact q.elim
    | some kvs =>
      rw [z2] at q
      dsimp only at q
      by_cases hk : (kvs.map (·.1)).Nodup ∧ kvs.length ≤ 15
      · rw [if_pos hk] at q
        obtain ⟨ks, k1, k2, k3⟩ := dispK_rep r2 z2
        have hl : ks.length = kvs.length := by have := congrArg List.length k3; simpa using this
        have pS : ∀ a ∈ S, a ≠ p := fun a ha e => by
          have := nwS.new a ha
          rw [e, upd_same] at this
          cases this
        refine ⟨hp2, ks, k1, by omega, ?_⟩
        rw [show mergeK [] ks = mergeA [] ks from rfl, mergeA_new (by rw [List.nil_append, k3]; exact hk.1), List.nil_append]
        have sF : Same H (upd H2 p (.dK ks)) := fun a o h => by
          have e : a ≠ p := fun e => by rw [e, hp] at h; cases h
          rw [upd_ne e]
          exact s2 a o (by rw [upd_ne e]; exact h)
        have rF : RepK c.K (upd H2 p (.dK ks)) ks kvs S := k2.mono (fun a xs h => by rw [upd_ne (fun e => by rw [e, hp2] at h; cases h)]; exact h) fun a ha o h => by rw [upd_ne (pS a ha)]; exact h
        refine q (.ref p) _ _ (p :: S) (I.same sF) (.dK (.inl upd_same) rF) (Grw.same sF) (fun _ _ z => .inl z) (fun _ => ⟨rfl, sF, rfl⟩) fun _ => ⟨⟨List.nodup_cons.mpr ⟨fun z => pS p z rfl, nwS.nod⟩, fun a ha => ?_, fun a ha => ?_⟩, ⟨p, ks, S, rfl, rfl, upd_same, rF⟩, fun i a ha k => ?_⟩
        · rcases List.mem_cons.mp ha with rfl | ha
          · exact hp
          · have := nwS.new a ha
            rwa [upd_ne (pS a ha)] at this
        · rcases List.mem_cons.mp ha with rfl | ha
          · intro o u k
            rw [upd_same] at k
            cases k
          · intro o u k
            rw [upd_ne (pS a ha)] at k
            exact nwS.nf a ha o u k
        · rcases List.mem_cons.mp ha with rfl | ha
          · exact I.doms i _ k hp
          · exact dj i a ha k
      · rw [if_neg hk] at q; exact q.elim
end
end Ol
namespace Ol
open PySem PySem.Spec PyProof.Rows L2
/-! ## xs.insert(k, v); n += k, n -= k -/
def rInsert : V → List V → Hp → VK → Prop := fun x vs H Q => ∃ (l : Addr) (xs : List V) (i : Int) (y : V), x = .ref l ∧ vs = [.int i, y] ∧ H l = some (.lst xs) ∧ xs.length < sizeLine ∧ 0 ≤ i ∧ i < 2 ^ 63 ∧ Q .non (upd H l (.lst (xs.take i.toNat ++ [y] ++ xs.drop i.toNat)))
theorem mt_ins {X : Cx} : MtR X "list.insert" rInsert := mt_insert
def sInsert (i : Nat) (as : Env → Res (List D)) : Env → Out := fun ρ => match (ρ[i]?).join with
  | some (.lst _) => (match as ρ with
    | .ok [.int k, d] ρ1 => (match (ρ1[i]?).join with
      | some (.lst ds) => if (0 ≤ k ∧ k < 4611686018427387904) ∧ ds.length < 16777216 ∧ imm d = true ∧ imms ds = true then .nx (ρ1.set i (some (.lst (ds.take k.toNat ++ [d] ++ ds.drop k.toNat)))) else .bad
      | _ => .bad)
    | .exc x ρ1 => .exc x ρ1
    | _ => .bad)
  | _ => .bad
theorem Reps.ins {K : PySem.W.Frag} {H : Hp} {d : D} {v : V} (r : Rep K H v d []) : ∀ {ds : List D} {xs : List V} (j : Nat), Reps K H xs ds [] → Reps K H (xs.take j ++ [v] ++ xs.drop j) (ds.take j ++ [d] ++ ds.drop j) [] := by
  intro ds
  induction ds with
  | nil =>
    intro xs j h
    cases h
    simpa using Reps.one r
  | cons e ds ih =>
    intro xs j h
    have key : ∀ S, Reps K H xs (e :: ds) S → S = [] → ∃ x xs', xs = x :: xs' ∧ Rep K H x e [] ∧ Reps K H xs' ds [] := by
      intro S h hS
      cases h with
      | @cons v0 vs0 _ _ S1 S2 a b =>
        obtain ⟨rfl, rfl⟩ := List.append_eq_nil_iff.mp hS
        exact ⟨_, _, rfl, a, b⟩
    obtain ⟨x, xs', rfl, a, b⟩ := key [] h rfl
    cases j with
    | zero => exact .cons r (.cons a b)
    | succ j => exact .cons a (ih j b)
theorem imms_ins {d : D} {ds : List D} {j : Nat} (h : imm d = true) (hs : imms ds = true) : imms (ds.take j ++ [d] ++ ds.drop j) = true := by
  have e : imms (ds.take j ++ ds.drop j) = true := by rw [List.take_append_drop]; exact hs
  rw [imms_append, Bool.and_eq_true] at e
  rw [imms_append, imms_append, e.1, e.2, imms_cons, h]
  rfl
section
variable {c : C0} {W : WX} {te ti : TE} {tt : TA} {e ix : Env → Res D} {as : Env → Res (List D)} {pu fr : Bool}
theorem ss_insert (i : Nat) (ha : SA c W tt as pu fr) (hO : Nat.beq (c.O i) 0 = false := by rfl) : SS c W (tDrop (tBM c.K "list" rInsert (tVar i) tt)) (sInsert i as) := fun H0 Wd Al T σ H ρ nx rt bk ct I q => by
  have hO := Nat.ne_of_beq_eq_false hO
  unfold sInsert at q
  cases z0 : (ρ[i]?).join with
  | none => rw [z0] at q; exact q.elim
  | some d0 =>
    rw [z0] at q
    cases d0 with
    | lst d0 =>
      dsimp only at q
      obtain ⟨v0, hv0, r0⟩ := I.slot z0
      obtain ⟨p, xs, S', rfl, hT, h1, h3⟩ := I.top i hO _ _ hv0 z0
      refine ⟨.ref p, hv0, .inl ⟨rfl, _, .inl (.inl h1)⟩, ?_⟩
      refine ha H0 Wd Al T σ H ρ _ I ?_
      cases z : as ρ with
      | bad => rw [z] at q; exact q
      | exc x ρ' => rw [z] at q; exact fun H' T' I' => q σ H' T' I'
      | ok ds ρ1 =>
        rw [z] at q
        intro vs H1 T1 S I1 r1 g1 nw p1 f1
        split at q
        · rename_i k d ρ2 e
          cases e
          obtain ⟨v, u, S1, S2, rfl, ra, rb⟩ := reps2 r1
          obtain ⟨rfl, _⟩ := rep_int ra
          cases z1 : (ρ1[i]?).join with
          | none => rw [z1] at q; exact q.elim
          | some d1 =>
            rw [z1] at q
            cases d1 with
            | lst d1 =>
              dsimp only at q
              by_cases hc : (0 ≤ k ∧ k < 4611686018427387904) ∧ d1.length < 16777216 ∧ imm d = true ∧ imms d1 = true
              · rw [if_pos hc] at q
                obtain ⟨⟨k0, k1⟩, hl, im, im1⟩ := hc
                obtain ⟨q', ys, S3, e', hT1, h1', h3'⟩ := I1.top i hO _ _ hv0 z1
                cases e'
                have e0 := h3'.im im1
                subst e0
                have eb := rb.im im
                subst eb
                have tk : Tk H1 (upd H1 p (.lst (ys.take k.toNat ++ [u] ++ ys.drop k.toNat))) := fun a us h => by rw [upd_ne (fun z => not_tup h1' us (by rw [← z]; exact .inl h))]; exact h
                have rr : Reps c.K (upd H1 p (.lst (ys.take k.toNat ++ [u] ++ ys.drop k.toNat))) (ys.take k.toNat ++ [u] ++ ys.drop k.toNat) (d1.take k.toNat ++ [d] ++ d1.drop k.toNat) [] := Reps.ins (rb.tk tk) k.toNat (h3'.tk tk)
                obtain ⟨T', I'⟩ := I1.mut (d' := .lst (d1.take k.toNat ++ [d] ++ d1.drop k.toNat)) (S' := []) (o := .lst (ys.take k.toNat ++ [u] ++ ys.drop k.toNat)) hO hv0 hT1 (not_tup h1') (.lst (.inl upd_same) rr) ⟨p, _, _, rfl, rfl, upd_same, rr⟩ (fun u w z => by cases z)
                  List.nodup_nil (fun h => by cases h) (fun a ha => by cases ha) (fun _ => ⟨_, rfl, imms_ins im im1⟩)
                exact ⟨p, ys, k, u, rfl, rfl, h1', sz_lt (by rw [h3'.length]; omega), k0, by omega, q σ _ T' I'⟩
              · rw [if_neg hc] at q; exact q.elim
            | _ => exact q.elim
        · rename_i e; cases e
        · exact q.elim
    | _ => exact q.elim
/-! n op= k -/
def sAug (i : Nat) (f : Int → Int → Int) (e : Env → Res D) : Env → Out := fun ρ => match (ρ[i]?).join with
  | some (.int a) => (e ρ).then fun d ρ1 => (match d with
    | .int b => .nx (ρ1.set i (some (.int (f a b))))
    | _ => .bad)
  | _ => .bad
theorem ss_aug {f : Int → Int → Int} (i : Nat) (he : SE c W te e true fr) (h2 : Nat.beq (c.O i) 2 = false := by rfl) (hi : c.ios.contains i = false := by rfl) : SS c W (tAug i te (ipI f)) (sAug i f e) := fun H0 Wd Al T σ H ρ nx rt bk ct I q => by
  unfold sAug at q
  cases z0 : (ρ[i]?).join with
  | none => rw [z0] at q; exact q.elim
  | some d0 =>
    rw [z0] at q
    cases d0 with
    | int a =>
      dsimp only [Res.then] at q
      obtain ⟨v0, hv0, r0⟩ := I.slot z0
      obtain ⟨rfl, _⟩ := rep_int r0
      refine ⟨_, hv0, he H0 Wd Al T σ H ρ _ I ?_⟩
      cases z : e ρ with
      | bad => rw [z] at q; exact q
      | exc x ρ' => rw [z] at q; exact fun H' T' I' => q σ H' T' I'
      | ok d ρ1 =>
        rw [z] at q
        intro v H1 T1 S I1 r1 g1 nw p1 f1
        cases d with
        | int b =>
          obtain ⟨rfl, _⟩ := rep_int r1
          obtain ⟨T', I', _⟩ := I1.put (H1 := H1) (i := i) (v := .int (f a b)) (d := .int (f a b)) (S := []) I1.newB (.int _) (New.nil rfl) (Nat.ne_of_beq_eq_false h2) hi
          exact ⟨a, b, rfl, rfl, q _ _ _ I'⟩
        | _ => exact q.elim
    | _ => exact q.elim
/-! a slot's thing, and what writes other slots -/
def eBinV (f : D → D → Option D) (i : Nat) (b : Env → Res D) : Env → Res D := fun ρ => match (ρ[i]?).join with
  | some _ => (b ρ).bind fun y ρ1 => match (ρ1[i]?).join with
    | some x => optR (f x y) ρ1
    | none => .bad
  | none => .bad
theorem se_opV {R : R2} {f : D → D → Option D} (i : Nat) (ho : OpS c.K R f fr) {b : Env → Res D} {tb : TE} {pb fb : Bool} (hb : SE c W tb b pb fb) : SE c W (tOp R (tVar i) tb) (eBinV f i b) pb fr := fun H0 Wd Al T σ H ρ Q I q => by
  unfold eBinV at q
  cases z0 : (ρ[i]?).join with
  | none => rw [z0] at q; exact q.elim
  | some d0 =>
    rw [z0] at q
    obtain ⟨v0, hv0, r0⟩ := I.slot z0
    refine ⟨v0, hv0, hb H0 Wd Al T σ H ρ _ I ?_⟩
    dsimp only at q
    cases z : b ρ with
    | bad => rw [z] at q; exact q
    | exc x ρ' => rw [z] at q; exact q
    | ok e ρ1 =>
      rw [z, Res.bind_ok] at q
      intro v H1 T1 S I1 r1 g1 nw1 p1 f1
      cases z1 : (ρ1[i]?).join with
      | none => rw [z1] at q; exact q.elim
      | some d =>
        rw [z1] at q
        obtain ⟨v1, hv1, rd⟩ := I1.slot z1
        have ev : v1 = v0 := by rw [hv0] at hv1; exact (Option.some.inj (Option.some.inj hv1)).symm
        subst ev
        dsimp only at q
        unfold optR at q
        cases z3 : f d e with
        | none => rw [z3] at q; exact q.elim
        | some w =>
          rw [z3] at q
          refine ho H1 v1 v d e w (T1 i) S Q rd r1 z3 fun y H3 U r3 s3 f3 => ?_
          refine q y H3 T1 U (I1.same s3) r3 (g1.trans (Grw.same s3)) nw1 (fun hp => ?_) fun hf => ?_
          · obtain ⟨e1, s1, t1⟩ := p1 hp
            exact ⟨e1, s1.trans s3, t1⟩
          · obtain ⟨⟨n, nn, nf⟩, tp⟩ := f3 hf
            exact ⟨⟨n, fun a ha => g1.dom a (nn a ha), nf⟩, tp, fun i a ha k => I1.doms i a k (nn a ha)⟩
end
end Ol
namespace Ol
open PySem PySem.Spec PyProof.Rows L2
/-! ## index of a list of any plain things -/
def lIndexP : D → List D → Option D
  | .lst xs, [y] => if shp y = true ∧ shp (.lst xs) = true then (xs.findIdx? fun z => eqv z y).map fun j => .int (j : Nat) else none
  | _, _ => none
theorem mt_lindexP {X : Cx} {K : PySem.W.Frag} (hu : X.A.units + 65 < cLine) (hK : X.K = K := by rfl) : MtR X "list.index" (rIndexD K) := hK ▸ mt_indexD hu
theorem mts_lindexP {K : PySem.W.Frag} : MetS K "list" (rIndexD K) lIndexP true := ⟨tyLst, fun H x d vs ds z S S2 Q r1 r2 e q => by
  unfold lIndexP at e
  split at e
  · rename_i xs y
    split at e
    · rename_i f
      cases hj : xs.findIdx? fun z => eqv z y with
      | none => rw [hj] at e; cases e
      | some j =>
        rw [hj] at e
        cases e
        obtain ⟨v, rfl, h⟩ := reps1 r2
        obtain ⟨a, ys, S', rfl, h1, h2, _⟩ := rep_lst r1
        obtain ⟨hl, hp, hn⟩ := List.findIdx?_eq_some_iff_getElem.mp hj
        have d1 := r1.dp (shp_lay f.2)
        have s1 := f.2
        unfold shp at s1
        rw [pd] at d1 s1
        refine ⟨a, v, pd y, pds xs, j, pd xs[j], rfl, rfl, d1, h.dp (shp_lay f.1), s1, f.1, by rw [pds_map]; simp [hl], hp, fun m z' hm hz => ?_, q _ H [] (.int _) (Same.refl _) fun _ => ⟨Nw.nil, trivial⟩⟩
        have hml : m < xs.length := by omega
        rw [pds_map, List.getElem?_map, List.getElem?_eq_getElem hml] at hz
        cases hz
        have := hn m hm
        simp only [Bool.not_eq_true] at this
        exact this
    · cases e
  · cases e⟩
end Ol
namespace Ol
open PySem PySem.Spec PyProof.Rows L2
/-! ## tuples of numbers and texts in order -/
/-- two things that stand in order: numbers, or texts -/
inductive Ord2 : V → V → Prop
  | int (i j : Int) : Ord2 (.int i) (.int j)
  | str (s z : Str) : Ord2 (.str s) (.str z)
def eqO : V → V → Bool
  | .int i, .int j => decide (i = j)
  | .str s, .str z => decide (s = z)
  | _, _ => false
def ltO : V → V → Bool
  | .int i, .int j => decide (i < j)
  | .str s, .str z => decide (s.cps.toList < z.cps.toList)
  | _, _ => false
/-- strictly, or not -/
def lexV (z : Bool) : List V → List V → Bool
  | [], [] => z
  | [], _ :: _ => true
  | _ :: _, [] => false
  | x :: xs, y :: ys => if eqO x y = true then lexV z xs ys else ltO x y
inductive Ords : List V → List V → Prop
  | nl (ys : List V) : Ords [] ys
  | nr (xs : List V) : Ords xs []
  | cons {x y : V} {xs ys : List V} : Ord2 x y → Ords xs ys → Ords (x :: xs) (y :: ys)
theorem lexAt_s {e r : Nat → Bool} {z : Bool} : ∀ (k i : Nat), Ob.lexAt e r z (i + 1) k = Ob.lexAt (fun j => e (j + 1)) (fun j => r (j + 1)) z i k
  | 0, i => rfl
  | k + 1, i => by rw [Ob.lexAt_succ, Ob.lexAt_succ, lexAt_s k (i + 1)]
def atV (xs : List V) (j : Nat) : V := xs.getD j .non
theorem lexAt_V {z : Bool} : ∀ {xs ys : List V}, Ob.lexAt (fun j => eqO (atV xs j) (atV ys j)) (fun j => ltO (atV xs j) (atV ys j)) (if z = true then decide (xs.length ≤ ys.length) else decide (xs.length < ys.length)) 0 (min xs.length ys.length) = lexV z xs ys
  | [], [] => by cases z <;> rfl
  | [], _ :: _ => by cases z <;> simp [Ob.lexAt_zero, lexV]
  | _ :: _, [] => by cases z <;> simp [Ob.lexAt_zero, lexV]
  | x :: xs, y :: ys => by
    have ih := lexAt_V (z := z) (xs := xs) (ys := ys)
    have e0 : min (x :: xs).length (y :: ys).length = min xs.length ys.length + 1 := by simp only [List.length_cons]; omega
    have e1 : (if z = true then decide ((x :: xs).length ≤ (y :: ys).length) else decide ((x :: xs).length < (y :: ys).length)) = (if z = true then decide (xs.length ≤ ys.length) else decide (xs.length < ys.length)) := by
      simp only [List.length_cons, Nat.add_le_add_iff_right, Nat.add_lt_add_iff_right]
    rw [e0, e1, Ob.lexAt_succ, lexAt_s, lexV]
    show (if eqO x y = true then Ob.lexAt (fun j => eqO (atV xs j) (atV ys j)) (fun j => ltO (atV xs j) (atV ys j)) _ 0 _ else ltO x y) = _
    rw [ih]
theorem Ords.at : ∀ {xs ys : List V}, Ords xs ys → ∀ {j : Nat}, j < xs.length → j < ys.length → Ord2 (atV xs j) (atV ys j)
  | _, _, .nl _, j, h, _ => by cases h
  | _, _, .nr _, j, _, h => by cases h
  | _, _, .cons a t, 0, _, _ => a
  | _, _, .cons a t, j + 1, h, h2 => Ords.at t (Nat.lt_of_succ_lt_succ h) (Nat.lt_of_succ_lt_succ h2)
theorem vals_at {xs : List V} {its : List Value} (h : Vals xs its) (j : Nat) (h1 : j < its.toArray.size) : RelV (atV xs j) its.toArray[j] := by
  have hj : j < its.length := by simpa using h1
  have hx : j < xs.length := by rw [h.length]; exact hj
  obtain ⟨u, hu, r⟩ := h.get (List.getElem?_eq_getElem hx)
  rw [List.getElem?_eq_getElem hj] at hu
  cases hu
  unfold atV
  rw [List.getD_eq_getElem?_getD, List.getElem?_eq_getElem hx]
  simpa using r
def rLex (K : PySem.W.Frag) (z : Bool) : R2 := fun x y H Q => ∃ (a b : Addr) (xs ys : List V), x = .ref a ∧ y = .ref b ∧ SqT K H a xs ∧ SqT K H b ys ∧ Ords xs ys ∧ Q (.bl (lexV z xs ys)) H
theorem eq_ord {A : Around} {s : Shared} {x y : V} {u w : Value} (o : Ord2 x y) (r : RelV x u) (r2 : RelV y w) : SeqAt.EqAt A.in1 s u w (eqO x y) := by
  cases o with
  | int i j =>
    obtain ⟨t, rfl⟩ := r
    obtain ⟨t2, rfl⟩ := r2
    have z : (i == j) = decide (i = j) := by
      by_cases q : i = j
      · rw [decide_eq_true q]; exact beq_iff_eq.mpr q
      · rw [decide_eq_false q]; exact beq_eq_false_iff_ne.mpr q
    show SeqAt.EqAt A.in1 s _ _ (decide (i = j))
    rw [← z]
    exact SeqAt.EqAt.int_int _ _ _ _
  | str i j =>
    obtain ⟨t, rfl⟩ := r
    obtain ⟨t2, rfl⟩ := r2
    have z : (i == j) = decide (i = j) := by
      by_cases q : i = j
      · rw [decide_eq_true q]; exact beq_iff_eq.mpr q
      · rw [decide_eq_false q]; exact beq_eq_false_iff_ne.mpr q
    show SeqAt.EqAt A.in1 s _ _ (decide (i = j))
    rw [← z]
    exact SeqAt.EqAt.str_str _ _ _ _
theorem lt_ord {A : Around} {s : Shared} {x y : V} {u w : Value} (o : Ord2 x y) (r : RelV x u) (r2 : RelV y w) : Ob.RcOp .Lt A.in1 s u w (ltO x y) := by
  cases o with
  | int i j =>
    obtain ⟨t, rfl⟩ := r
    obtain ⟨t2, rfl⟩ := r2
    exact Ob.RcOp.lt_int _ _ _ _
  | str i j =>
    obtain ⟨t, rfl⟩ := r
    obtain ⟨t2, rfl⟩ := r2
    exact fun _ _ _ _ h => PyProof.Rows.lt_str h
theorem le_ord {A : Around} {s : Shared} {x y : V} {u w : Value} (o : Ord2 x y) (ne : eqO x y = false) (r : RelV x u) (r2 : RelV y w) : Ob.RcOp .LtE A.in1 s u w (ltO x y) := by
  cases o with
  | int i j =>
    obtain ⟨t, rfl⟩ := r
    obtain ⟨t2, rfl⟩ := r2
    have n : i ≠ j := of_decide_eq_false ne
    have e : ltO (.int i) (.int j) = decide (i ≤ j) := by
      show decide (i < j) = decide (i ≤ j)
      by_cases h : i < j
      · rw [decide_eq_true h, decide_eq_true (by omega)]
      · rw [decide_eq_false h, decide_eq_false (by omega)]
    rw [e]
    exact Ob.RcOp.le_int _ _ _ _
  | str i j =>
    obtain ⟨t, rfl⟩ := r
    obtain ⟨t2, rfl⟩ := r2
    have n : i ≠ j := of_decide_eq_false ne
    have e : ltO (.str i) (.str j) = !decide (j.cps.toList < i.cps.toList) := by
      show decide (i.cps.toList < j.cps.toList) = !decide (j.cps.toList < i.cps.toList)
      have nl : i.cps.toList ≠ j.cps.toList := fun z => n (by
        obtain ⟨⟨i⟩⟩ := i
        obtain ⟨⟨j⟩⟩ := j
        simp at z
        rw [z])
      by_cases h : i.cps.toList < j.cps.toList
      · rw [decide_eq_true h, decide_eq_false (List.lt_asymm h)]; rfl
      · by_cases h2 : j.cps.toList < i.cps.toList
        · rw [decide_eq_false h, decide_eq_true h2]; rfl
        · exact absurd (List.le_antisymm h2 h) nl
    rw [e]
    exact fun _ _ _ _ h => PySem.P.le_str h
theorem op_lexT {X : Cx} {K : PySem.W.Frag} {z : Bool} (hu : X.A.units < cLine) (hK : X.K = K := by rfl) : OpR X (compareOp (if z = true then .LtE else .Lt)) (rLex K z) := by
  subst hK
  intro pins s σ H x y v u Q I rx ry h
  obtain ⟨a, b, xs, ys, rfl, rfl, ha, hb, ho, q⟩ := h
  cases rx
  cases ry
  obtain ⟨its, r1, p1, _⟩ := I.tuple ha
  obtain ⟨its2, r2, p2, _⟩ := I.tuple hb
  have e1 : its.toArray.size = xs.length := by rw [List.size_toArray]; exact r1.length.symm
  have e2 : its2.toArray.size = ys.length := by rw [List.size_toArray]; exact r2.length.symm
  have o2 : ∀ j (h1 : j < its.toArray.size) (h2 : j < its2.toArray.size), Ord2 (atV xs j) (atV ys j) := fun j h1 h2 => ho.at (by omega) (by omega)
  have hE : ∀ j (h1 : j < its.toArray.size) (h2 : j < its2.toArray.size), SeqAt.EqAt X.A.in1 s its.toArray[j] its2.toArray[j] (eqO (atV xs j) (atV ys j)) := fun j h1 h2 => eq_ord (o2 j h1 h2) (vals_at r1 j h1) (vals_at r2 j h2)
  have L := lexAt_V (z := z) (xs := xs) (ys := ys)
  cases z with
  | true =>
    have R := Ob.RcOp.tuples_le (A := X.A) (s := s) (e := fun j => eqO (atV xs j) (atV ys j)) (r := fun j => ltO (atV xs j) (atV ys j)) p1 p2 hu hE (fun j h1 h2 ne => le_ord (o2 j h1 h2) ne (vals_at r1 j h1) (vals_at r2 j h2))
    rw [e1, e2] at R
    simp only [if_true] at L
    rw [L] at R
    exact R X.prog X.w X.xe (EP X pins σ Q) ⟨.bl _, H, I, rfl, q⟩
  | false =>
    have R := Ob.RcOp.tuples_lt (A := X.A) (s := s) (e := fun j => eqO (atV xs j) (atV ys j)) (r := fun j => ltO (atV xs j) (atV ys j)) p1 p2 hu hE (fun j h1 h2 ne => lt_ord (o2 j h1 h2) (vals_at r1 j h1) (vals_at r2 j h2))
    rw [e1, e2] at R
    simp only [Bool.false_eq_true, if_false] at L
    rw [L] at R
    exact R X.prog X.w X.xe (EP X pins σ Q) ⟨.bl _, H, I, rfl, q⟩
def cmpD : D → D → Bool
  | .int _, .int _ => true
  | .str _, .str _ => true
  | _, _ => false
def cmpsD : List D → List D → Bool
  | x :: xs, y :: ys => cmpD x y && cmpsD xs ys
  | _, _ => true
def eqK : D → D → Bool
  | .int i, .int j => decide (i = j)
  | .str s, .str z => decide (s = z)
  | _, _ => false
def ltK : D → D → Bool
  | .int i, .int j => decide (i < j)
  | .str s, .str z => decide (s.cps.toList < z.cps.toList)
  | _, _ => false
def lexD (z : Bool) : List D → List D → Bool
  | [], [] => z
  | [], _ :: _ => true
  | _ :: _, [] => false
  | x :: xs, y :: ys => if eqK x y = true then lexD z xs ys else ltK x y
theorem ord_rep {K : PySem.W.Frag} {H : Hp} {v u : V} {d e : D} {S S2 : List Addr} (r : Rep K H v d S) (r2 : Rep K H u e S2) (h : cmpD d e = true) : Ord2 v u ∧ eqO v u = eqK d e ∧ ltO v u = ltK d e := by
  cases d <;> cases e <;> simp [cmpD] at h
  · obtain ⟨rfl, _⟩ := rep_int r
    obtain ⟨rfl, _⟩ := rep_int r2
    exact ⟨.int _ _, rfl, rfl⟩
  · obtain ⟨rfl, _⟩ := rep_str r
    obtain ⟨rfl, _⟩ := rep_str r2
    exact ⟨.str _ _, rfl, rfl⟩
theorem lex_reps {K : PySem.W.Frag} {H : Hp} {z : Bool} : ∀ {xs ys : List D} {vs us : List V} {S S2 : List Addr}, Reps K H vs xs S → Reps K H us ys S2 → cmpsD xs ys = true → Ords vs us ∧ lexV z vs us = lexD z xs ys
  | [], [], _, _, _, _, h, h2, _ => by cases h; cases h2; exact ⟨.nl _, rfl⟩
  | [], _ :: _, _, _, _, _, h, h2, _ => by cases h; cases h2; exact ⟨.nl _, rfl⟩
  | _ :: _, [], _, _, _, _, h, h2, _ => by cases h; cases h2; exact ⟨.nr _, rfl⟩
  | x :: xs, y :: ys, _, _, _, _, h, h2, e => by
    cases h with
    | cons a b =>
      cases h2 with
      | cons a2 b2 =>
        rw [cmpsD, Bool.and_eq_true] at e
        obtain ⟨o, e1, e2⟩ := ord_rep a a2 e.1
        obtain ⟨os, e3⟩ := lex_reps (z := z) b b2 e.2
        exact ⟨.cons o os, by rw [lexV, lexD, e1, e2, e3]⟩
def leVd : D → D → Option D
  | .tup xs, .tup ys => if cmpsD xs ys = true then some (.bl (lexD true xs ys)) else none
  | d, e => leD d e
def ltVd : D → D → Option D
  | .tup xs, .tup ys => if cmpsD xs ys = true then some (.bl (lexD false xs ys)) else none
  | d, e => ltD d e
theorem op_leT2 {X : Cx} {K : PySem.W.Frag} (hu : X.A.units + 65 < cLine) (hK : X.K = K := by rfl) : OpR X (compareOp .LtE) (rOr rLeU (rLex K true)) := op_or2 op_leU (op_lexT (z := true) (by omega) hK)
theorem op_ltT2 {X : Cx} {K : PySem.W.Frag} (hu : X.A.units + 65 < cLine) (hK : X.K = K := by rfl) : OpR X (compareOp .Lt) (rOr rLtU (rLex K false)) := op_or2 op_ltU (op_lexT (z := false) (by omega) hK)
theorem ops_leT2 {K : PySem.W.Frag} : OpS K (rOr rLeU (rLex K true)) leVd true := fun H x y d e z S S2 Q r1 r2 e1 q => by
  unfold leVd at e1
  split at e1
  · split at e1
    · rename_i ho
      cases e1
      obtain ⟨a, vs, rfl, h1, h2⟩ := rep_tup r1
      obtain ⟨b, us, rfl, h3, h4⟩ := rep_tup r2
      obtain ⟨o, e⟩ := lex_reps (z := true) h2 h4 ho
      refine .inr ⟨a, b, vs, us, rfl, rfl, h1, h3, o, ?_⟩
      rw [e]
      exact q _ H [] (.bl _) (Same.refl _) fun _ => ⟨Nw.nil, trivial⟩
    · cases e1
  · exact .inl (ops_le H x y _ _ z S S2 Q r1 r2 e1 q)
theorem ops_ltT2 {K : PySem.W.Frag} : OpS K (rOr rLtU (rLex K false)) ltVd true := fun H x y d e z S S2 Q r1 r2 e1 q => by
  unfold ltVd at e1
  split at e1
  · split at e1
    · rename_i ho
      cases e1
      obtain ⟨a, vs, rfl, h1, h2⟩ := rep_tup r1
      obtain ⟨b, us, rfl, h3, h4⟩ := rep_tup r2
      obtain ⟨o, e⟩ := lex_reps (z := false) h2 h4 ho
      refine .inr ⟨a, b, vs, us, rfl, rfl, h1, h3, o, ?_⟩
      rw [e]
      exact q _ H [] (.bl _) (Same.refl _) fun _ => ⟨Nw.nil, trivial⟩
    · cases e1
  · exact .inl (ops_lt H x y _ _ z S S2 Q r1 r2 e1 q)
end Ol
namespace Ol
open PySem PySem.Spec PyProof.Rows L2
/-! ## room in an except suite -/
section
variable {k : Nat} {X : Cx} {a : Addr} {pn : List (Addr × Obj)}
theorem hu65m (r : Room k X.A) : (X.suite a pn).A.units + 65 < cLine := by have := hu65 r; exact this
theorem hu1m (r : Room k X.A) : (X.suite a pn).A.units + 1 < cLine := by have := hu1 r; exact this
theorem humm (r : Room k X.A) : (X.suite a pn).A.units + 64 < cLine := by have := r.units; exact this
end
end Ol
namespace Ol
open PySem PySem.Spec PyProof.Rows L2
/-! ## max with default -/
def maxDfD : List D → Option D
  | [.lst xs, .int m] => (match intsOf xs with
    | some [] => some (.int m)
    | some (n :: ns) => some (.int (maxL (n :: ns)))
    | none => none)
  | _ => none
def rMaxDf (K : PySem.W.Frag) (xs zs : List V) (H : Hp) (Q : VK) : Prop :=
  ∃ (a : Addr) (ns : List Int) (m : Int), xs = [V.ref a] ∧ zs = [V.int m] ∧ SqL K H a (ns.map V.int) ∧ Q (.int (match ns with | [] => m | n :: r => maxL (n :: r))) H
theorem readsAll_ints {h : Heap} : ∀ {us : List Value} {ns : List Int}, IntsAre us ns → ReadsAll h us (ns.map PyData.int) []
  | _, _, .nil => .nil
  | _, _, .cons n t r => ReadsAll.cons (as := []) (bs := []) (.int n t) (readsAll_ints r)
theorem foldl_maxL : ∀ (ns : List Int) (n : Int), ns.foldl max n = maxL (n :: ns)
  | [], n => rfl
  | m :: r, n => by
    rw [List.foldl_cons, foldl_maxL r (max n m)]
    have a1 : maxL (n :: m :: r) = if maxL (m :: r) ≤ n then n else maxL (m :: r) := rfl
    rw [a1]
    cases r with
    | nil =>
      show max n m = if m ≤ n then n else m
      split <;> omega
    | cons k r =>
      have a2 : maxL (max n m :: k :: r) = if maxL (k :: r) ≤ max n m then max n m else maxL (k :: r) := rfl
      have a3 : maxL (m :: k :: r) = if maxL (k :: r) ≤ m then m else maxL (k :: r) := rfl
      rw [a2, a3]
      split <;> split <;> split <;> omega
theorem depth_ints : ∀ ns : List Int, PyData.depthAll (ns.map PyData.int) ≤ 1
  | [] => by decide
  | n :: r => by
    have h := depth_ints r
    have e : PyData.depthAll ((n :: r).map PyData.int) = max (PyData.depth (.int n)) (PyData.depthAll (r.map PyData.int)) := PyData.depthAll.eq_2 _ _
    have e2 : PyData.depth (.int n) = 0 := PyData.depth.eq_6 n
    omega
theorem alike_ints (ns : List Int) : PySem.W.AlikeAll (ns.map PyData.int) := by
  refine ⟨fun x hx y hy => ?_, fun x hx => ?_⟩
  · obtain ⟨i, _, rfl⟩ := List.mem_map.mp hx
    obtain ⟨j, _, rfl⟩ := List.mem_map.mp hy
    rfl
  · obtain ⟨i, _, rfl⟩ := List.mem_map.mp hx
    intro h
    cases h
theorem reads_int {h : Heap} {v : Value} {n : Int} {as : List Addr} (r : Reads h v (.int n) as) : ∃ t, v = .int n t := by
  cases r
  exact ⟨_, rfl⟩
theorem call_maxDf {X : Cx} {K : PySem.W.Frag} (hu : X.A.units + 65 < cLine) (hc : X.calm = true := by rfl) (hK : X.K = K := by rfl) : CallRK X (.builtin "max") [Str.ofString "default"] (rMaxDf K) := by
  subst hK
  intro pins s σ H vs zs us ws Q I r r' h
  obtain ⟨a, ns, m, rfl, rfl, hs, q⟩ := h
  obtain ⟨its, rv, hl, hz⟩ := I.list hs
  obtain ⟨t, rfl⟩ : ∃ t, ws = [.int m t] := by
    cases r' with
    | cons p q =>
      cases q
      obtain ⟨t, rfl⟩ := p
      exact ⟨t, rfl⟩
  rw [Vals.ref1 r]
  have hd := depth_ints ns
  refine PySem.W.max_list_default (xs := ns.map PyData.int) (I.ok.hd hc) hl.isList (readsAll_ints rv.ints) (alike_ints ns) (by omega) (fun e h' tk hk => ?_) fun y ys i v h' tk bs e hi rd hk => ?_
  · cases ns with
    | nil => exact ⟨.int m, H, I.kept hk, ⟨_, rfl⟩, q⟩
    | cons n r => cases e
  · cases ns with
    | nil => cases e
    | cons n r =>
      cases e
      rw [PySem.W.maxD_ints, foldl_maxL] at rd
      obtain ⟨t, rfl⟩ := reads_int rd
      exact ⟨.int _, H, I.kept hk, ⟨_, rfl⟩, q⟩
theorem calls_maxDf {K : PySem.W.Frag} : CallS K (fun vs => rMaxDf K (vs.take 1) (vs.drop 1)) maxDfD true := fun H vs ds z S Q r e q => by
  unfold maxDfD at e
  split at e
  · rename_i xs m
    obtain ⟨v, u, S1, S2, rfl, h, h'⟩ := reps2 r
    obtain ⟨rfl, rfl⟩ := rep_int h'
    cases z2 : intsOf xs with
    | none => rw [z2] at e; cases e
    | some ns =>
      rw [z2] at e
      obtain ⟨a, ys, S1, rfl, h1, h2, _⟩ := rep_lst h
      rw [intsOf_eq z2] at h2
      rw [h2.intsOf] at h1
      refine ⟨a, ns, m, rfl, rfl, h1, ?_⟩
      cases ns with
      | nil =>
        cases e
        exact q _ H [] (.int _) (Same.refl _) fun _ => ⟨Nw.nil, trivial⟩
      | cons n ns =>
        cases e
        exact q _ H [] (.int _) (Same.refl _) fun _ => ⟨Nw.nil, trivial⟩
  · cases e
theorem se_maxDf {c : C0} {W : WX} {te td : TE} {as : Env → Res (List D)} {pa fa : Bool} (ha : SA c W (tCons te (tCons td tNil)) as pa fa) : SE c W (tCKw (rMaxDf c.K) (tCons te tNil) (tCons td tNil)) (eCb maxDfD as) pa true :=
  se_args (R := fun vs => rMaxDf c.K (vs.take 1) (vs.drop 1)) calls_maxDf ha
end Ol
namespace Ol
open PySem PySem.Spec PyProof.Rows L2
/-! ## defs that give back the list that they were handed -/
def spR (K : PySem.W.Frag) (n : Nat) (io : List Nat) (k : Nat) (f : List D → Res D) : Sp := fun vs H Q E =>
  ∃ (ds : List D) (S : List Addr), vs.length = n ∧ Reps K H vs ds S ∧ ioOk K H io vs ds ∧
    match f ds with
    | .ok r o => ∀ v H', vs[k]? = some v → Frm (ioW io vs) H H' → outsOk K H' io vs o → (∀ j : Nat, io[j]? = some k → o[j]? = some (some r)) → Q v H'
    | .exc x o => ∀ H', Frm (ioW io vs) H H' → outsOk K H' io vs o → E (.ref (He.ga K x)) none H'
    | .bad => False
theorem spR_len {K : PySem.W.Frag} {n : Nat} {io : List Nat} {k : Nat} {f : List D → Res D} {vs : List V} {H : Hp} {Q : VK} {E : XK} (h : spR K n io k f vs H Q E) : vs.length = n := let ⟨_, _, h, _⟩ := h; h
theorem spR_bad {K : PySem.W.Frag} {n : Nat} {io : List Nat} {k : Nat} {vs : List V} {H : Hp} {Q : VK} {E : XK} (h : spR K n io k (fun _ => .bad) vs H Q E) : False := let ⟨_, _, _, _, _, h⟩ := h; h
theorem def_noneR {P : Program} {w : World} {K : PySem.W.Frag} {mg : Str → Option Value} {base : Heap} {x nm qual : Str} {ps : List Str} {a : Arguments} {body : List Stmt} {scope : Scope} {n : Nat} {io : List Nat} {kk : Nat}
    (hg : mg x = some (.ref (He.ga K x))) (F : ∃ fd, FunD K nm qual a body scope [] [] (He.ga K x) fd)
    (hb : ∀ (kV doc pm : Value) (an : Option Addr) (cdv ct : Value) (us : List Value), us.length = ps.length → bindArgs (PySem.W.fnOf nm qual a body scope .none kV doc pm an cdv ct) ⟨us, []⟩ = pure (ps.zip us)) (hn : ps.length = n) :
    Def P w K mg base 0 x ps (spR K n io kk fun _ => .bad) := by
  obtain ⟨fd, F⟩ := F
  refine ⟨hg, F.kp, fd, ⟨fun vs H Q E h => by rw [hn]; exact spR_len h, fun A outer s H args us vs Q E hr he hbd hv h => (spR_bad h).elim⟩, F.bindsN hb, ?_, F.bindsA hb⟩
  obtain ⟨oc, od, _, _, _, _, _, _, _, osl, _, lk, _⟩ := F.ex
  exact ⟨oc, od, osl, lk⟩
def sSeqR (s u : Env → Out) : Env → Out := fun ρ => match s ρ with
  | .nx ρ1 => u ρ1
  | .exc x ρ1 => .exc x ρ1
  | _ => .bad
def SSR (c : C0) (W : WX) (k : Nat) (t : TS) (s : Env → Out) : Prop := (∀ ρ ρ', s ρ ≠ .nx ρ') ∧
  ∀ (H0 : Hp) (Wd Al : Addr → Prop) (T : Nat → List Addr) (σ : L2.St) (H : Hp) (ρ : Env) (nx : L2.St → Hp → Prop) (rt : VK) (bk ct : L2.St → Hp → Prop), SIT c H0 Wd Al T σ H ρ →
    (match s ρ with
      | .ret d ρ' => (ρ'[k]?).join = some d → ∀ v σ' H' T', SIT c H0 Wd Al T' σ' H' ρ' → σ'[k]? = some (some v) → rt v H'
      | .exc x ρ' => ∀ σ' H' T', SIT c H0 Wd Al T' σ' H' ρ' → W (.ref (He.ga c.K x)) none σ' H'
      | _ => False) → t ⟨nx, rt, bk, ct⟩ σ H
theorem nonx_ret (k : Nat) : ∀ ρ ρ', sRet (eV k) ρ ≠ .nx ρ' := fun ρ ρ' z => by
  unfold sRet eV at z
  dsimp only [Res.then] at z
  cases e : (ρ[k]?).join with
  | none => rw [e] at z; cases z
  | some d => rw [e] at z; cases z
theorem nonx_seq {s u : Env → Out} (h : ∀ ρ ρ', u ρ ≠ .nx ρ') : ∀ ρ ρ', sSeqR s u ρ ≠ .nx ρ' := fun ρ ρ' z => by
  unfold sSeqR at z
  split at z
  · exact h _ _ z
  · cases z
  · cases z
theorem ssr_ret {c : C0} {W : WX} (k : Nat) : SSR c W k (tRet (tVar k)) (sRet (eV k)) := ⟨nonx_ret k, fun H0 Wd Al T σ H ρ nx rt bk ct I q => by
  unfold sRet eV at q
  dsimp only [Res.then] at q
  cases e : (ρ[k]?).join with
  | none => rw [e] at q; exact q.elim
  | some d =>
    rw [e] at q
    obtain ⟨v, hv, r⟩ := I.slot e
    exact ⟨v, hv, q e v σ H T I hv⟩⟩
theorem ssr_seq {c : C0} {W : WX} {k : Nat} {t u : TS} {s s2 : Env → Out} (h : SS c W t s) (h2 : SSR c W k u s2) : SSR c W k (tSeq t u) (sSeqR s s2) := ⟨nonx_seq h2.1, fun H0 Wd Al T σ H ρ nx rt bk ct I q => by
  show t ⟨u ⟨nx, rt, bk, ct⟩, rt, bk, ct⟩ σ H
  refine h H0 Wd Al T σ H ρ _ _ _ _ I ?_
  unfold sSeqR at q
  cases z : s ρ with
  | nx ρ1 =>
    rw [z] at q
    exact fun σ' H' T' I' => h2.2 H0 Wd Al T' σ' H' ρ1 _ _ _ _ I' q
  | ret d ρ1 => rw [z] at q; exact q.elim
  | brk ρ1 => rw [z] at q; exact q.elim
  | ct ρ1 => rw [z] at q; exact q.elim
  | exc x ρ1 => rw [z] at q; exact q
  | bad => rw [z] at q; exact q.elim⟩
/-- the body of a def keeps the promise -/
theorem sim_defR {c : C0} {E : XK} {t : TS} {body : Env → Out} {n m : Nat} {io : List Nat} {kk : Nat} {N : List Str} {H : Hp} {vs : List V} {Q : VK} {f : List D → Res D}
    (hkk : kk ∈ io) (hs : SSR c (fun cls d _ H => E cls d H) kk t body) (hc : c.B = H) (hio : c.ios = io) (hioa : ∀ k p, k ∈ io → vs[k]? = some (.ref p) → c.ioa k = p) (hO : ∀ k, k < n → k ∉ io → c.O k = 0) (hO2 : ∀ k, c.O k = 2 ↔ k ∈ io) (hN : N.length = n + m) (hlt : ∀ k ∈ io, k < n) (hlk : c.lks = [])
    (hf : f = runF m io body) (h : spR c.K n io kk f vs H Q E) : t ⟨fun _ H' => Q .non H', Q, fun _ _ => False, fun _ _ => False⟩ (L2.start N vs) H := by
  obtain ⟨ds, S, hl, r, hi, h⟩ := h
  subst hf hc hio
  rw [start_eq hl hN]
  obtain ⟨T, hT⟩ : ∃ T : Nat → List Addr, (∀ i, RepO c.K c.B (vs[i]?) (ds[i]?) (T i)) ∧ ∀ k ∈ c.ios, ∀ p, vs[k]? = some (.ref p) → T k = [p] := by
    obtain ⟨T, hT⟩ := r.split
    refine ⟨fun k => if k ∈ c.ios then (match vs[k]? with
      | some (.ref p) => [p]
      | _ => []) else T k, fun i => ?_, fun k hk p e => ?_⟩
    · dsimp only
      by_cases hk : i ∈ c.ios
      · rw [if_pos hk]
        obtain ⟨_, h2, _⟩ := hi (fun z => by rw [z] at hk; cases hk)
        obtain ⟨p, es, xs, e1, e2, im, e3, e4⟩ := h2 i hk
        rw [e1, e2]
        exact ⟨_, rfl, .lst (.inl e3) e4⟩
      · rw [if_neg hk]
        exact (hT i).1
    · dsimp only
      rw [if_pos hk, e]
  have hlen : ds.length = n := by rw [← r.length]; exact hl
  have atio : ∀ k ∈ c.ios, ∃ (p : Addr) (es : List D) (xs : List V), vs[k]? = some (.ref p) ∧ ds[k]? = some (.lst es) ∧ imms es = true ∧ c.B p = some (.lst xs) ∧ T k = [p] ∧ Reps c.K c.B xs es [] := fun k hk => by
    obtain ⟨_, h2, _⟩ := hi (fun z => by rw [z] at hk; cases hk)
    obtain ⟨p, es, xs, e1, e2, im, e3, e4⟩ := h2 k hk
    exact ⟨p, es, xs, e1, e2, im, e3, hT.2 k hk p e1, e4⟩
  have tn : ∀ k, n ≤ k → T k = [] := fun k hk => by
    have q := hT.1 k
    rw [List.getElem?_eq_none (l := ds) (by omega)] at q
    exact q
  have t0 : c.ios ≠ [] → ∀ k, k ∉ c.ios → T k = [] := fun hne k hk => by
    obtain ⟨h1, _, _⟩ := hi hne
    have q := hT.1 k
    cases e : ds[k]? with
    | none => rw [e] at q; exact q
    | some d =>
      rw [e] at q
      obtain ⟨x, _, q⟩ := q
      exact q.im (h1 k d e hk)
  have Oio : ∀ j, c.O j ≠ 0 → j ∈ c.ios ∨ (n ≤ j ∧ T j = []) := fun j hj => by
    by_cases hm : j ∈ c.ios
    · exact .inl hm
    · by_cases hn : j < n
      · exact absurd (hO j hn hm) hj
      · exact .inr ⟨by omega, tn j (by omega)⟩
  have I : SIT c c.B (ioW c.ios vs) (fun _ => True) T (vs.map some ++ List.replicate m none) c.B (ds.map some ++ List.replicate m none) := by
    refine ⟨Frm.refl, fun _ h => h, by simp [r.length], fun i => ?_, fun i j hj hij a ha hb => ?_, fun j hj => ?_, fun _ _ _ _ => .inr trivial, fun j hj a ha => ?_, fun j hj u du eu ed => ?_, fun j hj a ha => ?_, fun k hk => ?_, fun j hj d e => ?_, fun k hk => by rw [hlk] at hk; cases hk⟩
    · rw [join_map, join_map]
      exact hT.1 i
    · rcases Oio j hj with hm | ⟨_, e⟩
      · obtain ⟨p, es, xs, e1, e2, im, e3, e4, e9⟩ := atio j hm
        rw [e4] at hb
        have : a = p := by simpa using hb
        subst this
        by_cases hm2 : i ∈ c.ios
        · obtain ⟨p', _, _, e1', _, _, _, e4', _⟩ := atio i hm2
          rw [e4'] at ha
          have : a = p' := by simpa using ha
          subst this
          exact (hi (fun z => by rw [z] at hm; cases hm)).2.2 i hm2 j hm hij (e1'.trans e1.symm)
        · rw [t0 (fun z => by rw [z] at hm; cases hm) i hm2] at ha
          cases ha
      · rw [e] at hb; cases hb
    · rcases Oio j hj with hm | ⟨_, e⟩
      · obtain ⟨p, _, _, _, _, _, _, e4, _⟩ := atio j hm
        rw [e4]; simp
      · rw [e]; exact List.nodup_nil
    · rcases Oio j hj with hm | ⟨_, e⟩
      · obtain ⟨p, es, xs, e1, e2, im, e3, e4, e9⟩ := atio j hm
        rw [e4] at ha
        have : a = p := by simpa using ha
        subst this
        exact ⟨.inr ⟨j, hm, e1⟩, fun o u k => by rw [e3] at k; cases k⟩
      · rw [e] at ha; cases ha
    · rcases Oio j hj with hm | ⟨hn, e⟩
      · obtain ⟨p, es, xs, e1, e2, im, e3, e4, e9⟩ := atio j hm
        rw [join_map, e2] at ed
        cases ed
        have hk2 : j < vs.length := by rw [hl]; exact hlt j hm
        rw [List.getElem?_append_left (by simpa using hk2), List.getElem?_map, e1] at eu
        cases eu
        exact ⟨p, xs, [], rfl, e4, e3, e9⟩
      · rw [join_map, List.getElem?_eq_none (by omega)] at ed
        cases ed
    · rcases Oio j (by omega) with hm | ⟨_, e⟩
      · rw [(hO2 j).mpr hm] at hj; cases hj
      · rw [e] at ha; cases ha
    · obtain ⟨p, es, xs, e1, _⟩ := atio k hk
      rw [hioa k p hk e1]
      have hk2 : k < vs.length := by rw [hl]; exact hlt k hk
      rw [List.getElem?_append_left (by simpa using hk2), List.getElem?_map, e1]
      rfl
    · have hm := (hO2 j).mp hj
      obtain ⟨p, es, xs, _, e2, im, _⟩ := atio j hm
      have hk2 : j < ds.length := by rw [hlen]; exact hlt j hm
      rw [List.getElem?_append_left (by simpa using hk2), List.getElem?_map, e2] at e
      cases e
      exact ⟨es, rfl, im⟩
  have outs : ∀ {ρ' : Env} {σ' : L2.St} {H' : Hp} {T' : Nat → List Addr}, SIT c c.B (ioW c.ios vs) (fun _ => True) T' σ' H' ρ' → ioAll c.ios ρ' = true → outsOk c.K H' c.ios vs (c.ios.map fun k => (ρ'[k]?).join) := by
    intro ρ' σ' H' T' I' hd j k e
    have hk : k ∈ c.ios := List.mem_of_getElem? e
    obtain ⟨p, es, xs, e1, e2, im, e3, e4, e9⟩ := atio k hk
    have hd2 := List.all_eq_true.mp hd k hk
    obtain ⟨d, hd⟩ := Option.isSome_iff_exists.mp hd2
    obtain ⟨v, hv, rv⟩ := I'.slot hd
    have := I'.io k hk
    rw [hioa k p hk e1] at this
    rw [this] at hv
    cases hv
    have hd' : ρ'[k]? = some (some d) := by
      cases z : ρ'[k]? with
      | none => rw [z] at hd; cases hd
      | some o => rw [z] at hd; exact congrArg some hd
    obtain ⟨es', rfl, im'⟩ := I'.io2 k ((hO2 k).mpr hk) d hd'
    obtain ⟨a, xs', S', e5, e6, h3, h2⟩ := I'.top k (by rw [(hO2 k).mpr hk]; decide) _ _ this hd
    cases e5
    have e0 := h2.im im'
    subst e0
    exact ⟨p, es', xs', e1, by rw [List.getElem?_map, e]; exact congrArg some hd, im', h3, h2⟩
  refine hs.2 c.B (ioW c.ios vs) (fun _ => True) T _ c.B _ _ _ _ _ I ?_
  unfold runF at h
  cases z : body (ds.map some ++ List.replicate m none) with
  | nx ρ' => exact hs.1 _ _ z
  | ret d ρ' =>
    rw [z] at h
    dsimp only [outF] at h
    by_cases ha : ioAll c.ios ρ' = true
    · rw [if_pos ha] at h
      intro ed v σ' H' T' I' hv
      obtain ⟨p, es, xs, e1, _⟩ := atio kk hkk
      have := I'.io kk hkk
      rw [hioa kk p hkk e1, hv] at this
      cases this
      refine h _ H' e1 I'.frm (outs I' ha) fun j hj => ?_
      rw [List.getElem?_map, hj]
      exact congrArg some ed
    · rw [if_neg ha] at h; exact h.elim
  | brk ρ' => rw [z] at h; exact h.elim
  | ct ρ' => rw [z] at h; exact h.elim
  | exc x ρ' =>
    rw [z] at h
    dsimp only [outF] at h
    by_cases ha : ioAll c.ios ρ' = true
    · rw [if_pos ha] at h
      exact fun σ' H' T' I' => h H' I'.frm (outs I' ha)
    · rw [if_neg ha] at h; exact h.elim
  | bad => rw [z] at h; exact h.elim
section
variable {c : C0} {W : WX} {tt : TA} {as : Env → Res (List D)} {pu fr : Bool} {n : Nat} {f : List D → Res D} {io : IoL} {kk : Nat}
theorem se_callIoRG {E : L2.St → XK} (hW : ∀ cls d σ H, W cls d σ H → E σ cls d H) (ha : SAX c W tt as io pu) (nd : (io.filterMap (·.2)).Nodup) (hO : ∀ p ∈ io, ∀ j, p.2 = some j → c.O j ≠ 0) (hk : ∀ p ∈ io, p.1 < n) (hkk : kk ∈ io.map (·.1)) (hfr : fr = true → (kk, none) ∈ io) (hinj : ∀ p ∈ io, ∀ q ∈ io, p.1 = q.1 → p = q) :
    SE c W (fun σ H Q => tt σ H fun vs H1 => spR c.K n (io.map (·.1)) kk f vs H1 Q (E σ)) (eCallIo n io f as) false fr := fun H0 Wd Al T σ H ρ Q I q => ha H0 Wd Al T σ H ρ _ I (by
  unfold eCallIo at q
  cases z : as ρ with
  | bad => rw [z] at q; exact q
  | exc x ρ' => rw [z] at q; exact q
  | ok ds ρ1 =>
    rw [z, Res.bind_ok] at q
    intro vs H1 T1 S I1 r1 g1 nw1 p1 iop
    by_cases hl : ds.length = n ∧ ioChk (io.map (·.1)) ds = true
    · rw [if_pos hl] at q
      obtain ⟨hl, hchk⟩ := hl
      -- each written list
      have at_ : ∀ p ∈ io, ∃ (l : Addr) (es : List D) (xs : List V), vs[p.1]? = some (.ref l) ∧ ds[p.1]? = some (.lst es) ∧ imms es = true ∧ H1 l = some (.lst xs) ∧ Reps c.K H1 xs es [] ∧
          (∀ j, p.2 = some j → T1 j = [l] ∧ σ[j]? = some (some (.ref l))) ∧ (p.2 = none → H0 l = none ∧ H l = none ∧ ∀ i, l ∉ T1 i) := fun p hp => by
        obtain ⟨es, e1, im⟩ := ioChk_io hchk (List.mem_map_of_mem hp) (by rw [hl]; exact hk p hp)
        have h := iop p hp
        cases o : p.2 with
        | some j =>
          rw [o] at h
          obtain ⟨v, d, h1, h2, h3, h4⟩ := h
          rw [e1] at h4
          cases h4
          obtain ⟨l, xs, S', rfl, e5, e6, e7⟩ := I1.top j (hO p hp j o) _ _ h1 h3
          have e0 := e7.im im
          subst e0
          exact ⟨l, es, xs, h2, e1, im, e6, e7, fun j' ej => (by cases ej; exact ⟨e5, h1⟩), fun z => by cases z⟩
        | none =>
          rw [o] at h
          obtain ⟨l, es', xs, S', h1, h2, h3, h4, h5, h6, _⟩ := h
          rw [e1] at h2
          cases h2
          have e0 := h4.im im
          subst e0
          exact ⟨l, es, xs, h1, e1, im, h3, h4, fun j' ej => (by cases ej), fun _ => ⟨I.frm.dom l h5, h5, h6⟩⟩
      have io2 : ioOk c.K H1 (io.map (·.1)) vs ds := fun _ => by
        refine ⟨fun k d e hk' => ioChk_im hchk hk' e, fun k hk' => ?_, fun k hk' l hl' ne => ?_⟩
        · obtain ⟨p, hp, rfl⟩ := List.mem_map.mp hk'
          obtain ⟨l, es, xs, h1, h2, h3, h4, h5, _⟩ := at_ p hp
          exact ⟨l, es, xs, h1, h2, h3, h4, h5⟩
        · obtain ⟨p, hp, rfl⟩ := List.mem_map.mp hk'
          obtain ⟨p', hp', rfl⟩ := List.mem_map.mp hl'
          obtain ⟨l, es, xs, h1, h2, h3, h4, h5, h6, h7⟩ := at_ p hp
          obtain ⟨l', es', xs', h1', h2', h3', h4', h5', h6', h7'⟩ := at_ p' hp'
          rw [h1, h1']
          intro z
          cases z
          cases o : p.2 with
          | some j =>
            obtain ⟨t1, _⟩ := h6 j o
            cases o' : p'.2 with
            | some j' =>
              obtain ⟨t2, _⟩ := h6' j' o'
              by_cases ej : j = j'
              · subst ej
                -- one slot twice
                obtain ⟨n1, hn1⟩ := List.getElem?_of_mem hp
                obtain ⟨n2, hn2⟩ := List.getElem?_of_mem hp'
                have : p = p' := by
                  have key : ∀ (l : IoL), (l.filterMap (·.2)).Nodup → ∀ a ∈ l, ∀ b ∈ l, a.2 = some j → b.2 = some j → a = b := by
                    intro l
                    induction l with
                    | nil => intro _ a ha; cases ha
                    | cons x l ih =>
                      intro nd a ha b hb ea eb
                      rw [List.filterMap_cons] at nd
                      rcases List.mem_cons.mp ha with rfl | ha2
                      · rcases List.mem_cons.mp hb with rfl | hb2
                        · rfl
                        · rw [ea] at nd
                          exact ((List.nodup_cons.mp nd).1 (List.mem_filterMap.mpr ⟨b, hb2, eb⟩)).elim
                      · rcases List.mem_cons.mp hb with rfl | hb2
                        · rw [eb] at nd
                          exact ((List.nodup_cons.mp nd).1 (List.mem_filterMap.mpr ⟨a, ha2, ea⟩)).elim
                        · refine ih ?_ a ha2 b hb2 ea eb
                          split at nd
                          · exact nd
                          · exact (List.nodup_cons.mp nd).2
                  exact key io nd p hp p' hp' o o'
                exact ne (by rw [this])
              · exact I1.dis j j' (hO p' hp' j' o') ej l (by rw [t1]; exact List.mem_cons_self) (by rw [t2]; exact List.mem_cons_self)
            | none => exact (h7' o').2.2 j (by rw [t1]; exact List.mem_cons_self)
          | none =>
            cases o' : p'.2 with
            | some j' =>
              obtain ⟨t2, _⟩ := h6' j' o'
              exact (h7 o).2.2 j' (by rw [t2]; exact List.mem_cons_self)
            | none =>
              have h := iop p hp
              rw [o] at h
              obtain ⟨l2, _, _, _, k1, _, _, _, _, _, k7⟩ := h
              rw [h1] at k1
              cases k1
              exact k7 p' hp' (fun z => ne (by rw [z])) o' h1'
      refine ⟨ds, S, by rw [r1.length]; exact hl, r1, io2, ?_⟩
      have Wc : ∀ a, ioW (io.map (·.1)) vs a → (∃ p ∈ io, ∃ j, p.2 = some j ∧ T1 j = [a]) ∨ (H0 a = none ∧ ∀ i, a ∉ T1 i) := fun a ⟨k, hk', e⟩ => by
        obtain ⟨p, hp, rfl⟩ := List.mem_map.mp hk'
        obtain ⟨l, es, xs, h1, h2, h3, h4, h5, h6, h7⟩ := at_ p hp
        rw [e] at h1
        cases h1
        cases o : p.2 with
        | some j => exact .inl ⟨p, hp, j, o, (h6 j o).1⟩
        | none => exact .inr ⟨(h7 o).1, (h7 o).2.2⟩
      have Ho : ∀ {H' : Hp} {os : Env}, outsOk c.K H' (io.map (·.1)) vs os → ∀ (n k j : Nat), io[n]? = some (k, some j) → c.O j ≠ 0 ∧ ∃ (p : Addr) (es : List D) (xs : List V), σ[j]? = some (some (.ref p)) ∧ T1 j = [p] ∧ os[n]? = some (some (.lst es)) ∧ imms es = true ∧ H' p = some (.lst xs) ∧ Reps c.K H' xs es [] := by
        intro H' os h n' k j e
        have hp := List.mem_of_getElem? e
        refine ⟨hO _ hp j rfl, ?_⟩
        obtain ⟨l, es, xs, h1, _, _, _, _, h6, _⟩ := at_ _ hp
        obtain ⟨l2, es2, xs2, k1, k2, k3, k4, k5⟩ := h n' k (by rw [List.getElem?_map, e]; rfl)
        rw [h1] at k1
        cases k1
        exact ⟨l, es2, xs2, (h6 j rfl).2, (h6 j rfl).1, k2, k3, k4, k5⟩
      cases z2 : f ds with
      | bad => rw [z2] at q; exact q
      | exc x o =>
        rw [z2] at q
        exact fun H' fm oo => hW _ _ _ _ (q H' T1 (I1.outs fm nd Wc (Ho oo)))
      | ok r o =>
        rw [z2] at q
        intro v H' hv fm oo hr
        obtain ⟨p0, hp0, ek⟩ := List.mem_map.mp hkk
        obtain ⟨l, es, xs, h1, h2, h3, h4, h5, h6, h7⟩ := at_ p0 hp0
        obtain ⟨j, hj⟩ := List.getElem?_of_mem hkk
        obtain ⟨l2, es2, xs2, k1, k2, k3, k4, k5⟩ := oo j kk hj
        have e3 := hr j hj
        rw [k2] at e3
        cases e3
        rw [hv] at k1
        cases k1
        refine q _ H' T1 [l2] (I1.outs fm nd Wc (Ho oo)) (.lst (.inl k4) k5) (g1.trans fm.grw) nw1 (fun hp => by cases hp) fun hf => ?_
        have hm := hfr hf
        obtain ⟨l', es', xs', h1', h2', h3', h4', h5', h6', h7'⟩ := at_ _ hm
        have h1' : vs[kk]? = some (V.ref l') := h1'
        rw [hv] at h1'
        cases h1'
        obtain ⟨m1, m2, m3⟩ := h7' rfl
        refine ⟨⟨List.nodup_cons.mpr ⟨fun z => (by cases z), List.nodup_nil⟩, fun a ha => ?_, fun a ha => ?_⟩, ⟨l2, xs2, [], rfl, rfl, k4, k5⟩, fun i a ha => ?_⟩
        · rw [List.mem_singleton.mp ha]; exact m2
        · rw [List.mem_singleton.mp ha]
          intro o' u z
          rw [k4] at z
          cases z
        · rw [List.mem_singleton.mp ha]; exact m3 i
    · rw [if_neg hl] at q; exact q.elim)
theorem se_callIoR {E : XK} {ks : List Nat} (ha : SAX c (fun cls d _ H => E cls d H) tt as io pu) (hb : ioB c.O n io = true) (hks : io.map (·.1) = ks) (hkk : kk ∈ ks) (hfr : fr = true → (kk, none) ∈ io) : SE c (fun cls d _ H => E cls d H) (tCall (spR c.K n ks kk f) [] E tt) (eCallIo n io f as) false fr := by
  obtain ⟨h1, h2, h3, h4⟩ := ioB_ok hb
  subst hks
  have := se_callIoRG (fr := fr) (f := f) (E := fun _ => E) (fun _ _ _ _ h => h) ha h1 h2 h3 hkk hfr h4
  have e : tCall (spR c.K n (io.map (·.1)) kk f) [] E tt = fun σ H Q => tt σ H fun vs H1 => spR c.K n (io.map (·.1)) kk f vs H1 Q E := by
    funext σ H Q
    unfold tCall
    simp only [List.append_nil]
  rw [e]
  exact this
theorem se_callIoR0 {ks : List Nat} (ha : SAX c W0 tt as io pu) (hb : ioB c.O n io = true) (hks : io.map (·.1) = ks) (hkk : kk ∈ ks) (hfr : fr = true → (kk, none) ∈ io) : SE c W0 (tCall (spR c.K n ks kk f) [] E0 tt) (eCallIo n io f as) false fr := by
  obtain ⟨h1, h2, h3, h4⟩ := ioB_ok hb
  subst hks
  have := se_callIoRG (W := W0) (fr := fr) (f := f) (E := fun _ => E0) (fun _ _ _ _ h => h.elim) ha h1 h2 h3 hkk hfr h4
  have e : tCall (spR c.K n (io.map (·.1)) kk f) [] E0 tt = fun σ H Q => tt σ H fun vs H1 => spR c.K n (io.map (·.1)) kk f vs H1 Q E0 := by
    funext σ H Q
    unfold tCall
    simp only [List.append_nil]
  rw [e]
  exact this
theorem se_callIoRS {ks : List Nat} (ha : SAX c W tt as io pu) (hb : ioB c.O n io = true) (hks : io.map (·.1) = ks) (hkk : kk ∈ ks) (hfr : fr = true → (kk, none) ∈ io) : SE c W (tCallS (spR c.K n ks kk f) (WE W) tt) (eCallIo n io f as) false fr := by
  obtain ⟨h1, h2, h3, h4⟩ := ioB_ok hb
  subst hks
  exact se_callIoRG (E := WE W) (fun _ _ _ _ h => h) ha h1 h2 h3 hkk hfr h4
end
end Ol

namespace Ol
open PySem PySem.Spec PyProof.Rows L2
/-! ### the text by places -/
def top (i : Nat) : Stmt := PySem.Challenge.pw_onelook_k08_formulas_made.main.body.getD i (.Pass ⟨0, 0, 0, 0⟩)
abbrev s_are_numbers : Stmt := top 13
abbrev N_are_numbers : List Str := ["thing", "many", "number"]
theorem st_are_numbers (a0 a1 : V) : L2.start N_are_numbers [a0, a1] = [some a0, some a1, none] := rfl
theorem sc_are_numbers : FnScope N_are_numbers ["thing", "many"] (defScope s_are_numbers) := ⟨rfl, rfl, rfl, by decide +kernel, rfl, by decide +kernel, by decide +kernel⟩
abbrev s_are_pins : Stmt := top 14
abbrev N_are_pins : List Str := ["thing", "many"]
theorem st_are_pins (a0 a1 : V) : L2.start N_are_pins [a0, a1] = [some a0, some a1] := rfl
theorem sc_are_pins : FnScope N_are_pins ["thing", "many"] (defScope s_are_pins) := ⟨rfl, rfl, rfl, by decide +kernel, rfl, by decide +kernel, by decide +kernel⟩
abbrev s_is_place : Stmt := top 15
abbrev N_is_place : List Str := ["thing"]
theorem st_is_place (a0 : V) : L2.start N_is_place [a0] = [some a0] := rfl
theorem sc_is_place : FnScope N_is_place ["thing"] (defScope s_is_place) := ⟨rfl, rfl, rfl, by decide +kernel, rfl, by decide +kernel, by decide +kernel⟩
abbrev s_is_area : Stmt := top 16
abbrev N_is_area : List Str := ["thing", "high", "wide"]
theorem st_is_area (a0 : V) : L2.start N_is_area [a0] = [some a0, none, none] := rfl
theorem sc_is_area : FnScope N_is_area ["thing"] (defScope s_is_area) := ⟨rfl, rfl, rfl, by decide +kernel, rfl, by decide +kernel, by decide +kernel⟩
abbrev s_is_plain_text : Stmt := top 17
abbrev N_is_plain_text : List Str := ["thing", "sign"]
theorem st_is_plain_text (a0 : V) : L2.start N_is_plain_text [a0] = [some a0, none] := rfl
theorem sc_is_plain_text : FnScope N_is_plain_text ["thing"] (defScope s_is_plain_text) := ⟨rfl, rfl, rfl, by decide +kernel, rfl, by decide +kernel, by decide +kernel⟩
abbrev s_parts_of : Stmt := top 18
abbrev N_parts_of : List Str := ["formula", "word", "found"]
theorem st_parts_of (a0 : V) : L2.start N_parts_of [a0] = [some a0, none, none] := rfl
theorem sc_parts_of : FnScope N_parts_of ["formula"] (defScope s_parts_of) := ⟨rfl, rfl, rfl, by decide +kernel, rfl, by decide +kernel, by decide +kernel⟩
abbrev s_pieces_left : Stmt := top 19
abbrev N_pieces_left : List Str := ["formula", "deep", "left", "parts", "part"]
theorem st_pieces_left (a0 a1 a2 : V) : L2.start N_pieces_left [a0, a1, a2] = [some a0, some a1, some a2, none, none] := rfl
theorem sc_pieces_left : FnScope N_pieces_left ["formula", "deep", "left"] (defScope s_pieces_left) := ⟨rfl, rfl, rfl, by decide +kernel, rfl, by decide +kernel, by decide +kernel⟩
abbrev s_made_formula : Stmt := top 20
abbrev N_made_formula : List Str := ["formula"]
theorem st_made_formula (a0 : V) : L2.start N_made_formula [a0] = [some a0] := rfl
theorem sc_made_formula : FnScope N_made_formula ["formula"] (defScope s_made_formula) := ⟨rfl, rfl, rfl, by decide +kernel, rfl, by decide +kernel, by decide +kernel⟩
abbrev s_piece_many : Stmt := top 21
abbrev N_piece_many : List Str := ["formula", "part"]
theorem st_piece_many (a0 : V) : L2.start N_piece_many [a0] = [some a0, none] := rfl
theorem sc_piece_many : FnScope N_piece_many ["formula"] (defScope s_piece_many) := ⟨rfl, rfl, rfl, by decide +kernel, rfl, by decide +kernel, by decide +kernel⟩
abbrev s_depth_of : Stmt := top 22
abbrev N_depth_of : List Str := ["formula", "part"]
theorem st_depth_of (a0 : V) : L2.start N_depth_of [a0] = [some a0, none] := rfl
theorem sc_depth_of : FnScope N_depth_of ["formula"] (defScope s_depth_of) := ⟨rfl, rfl, rfl, by decide +kernel, rfl, by decide +kernel, by decide +kernel⟩
abbrev s_named_twice_in : Stmt := top 23
abbrev N_named_twice_in : List Str := ["formula", "found", "part"]
theorem st_named_twice_in (a0 : V) : L2.start N_named_twice_in [a0] = [some a0, none, none] := rfl
theorem sc_named_twice_in : FnScope N_named_twice_in ["formula"] (defScope s_named_twice_in) := ⟨rfl, rfl, rfl, by decide +kernel, rfl, by decide +kernel, by decide +kernel⟩
abbrev s_named_in : Stmt := top 24
abbrev N_named_in : List Str := ["formula", "found", "named"]
theorem st_named_in (a0 : V) : L2.start N_named_in [a0] = [some a0, none, none] := rfl
theorem sc_named_in : FnScope N_named_in ["formula"] (defScope s_named_in) := ⟨rfl, rfl, rfl, by decide +kernel, rfl, by decide +kernel, by decide +kernel⟩
abbrev s__law_whole : Stmt := top 26
abbrev N__law_whole : List Str := ["found"]
theorem st__law_whole (a0 : V) : L2.start N__law_whole [a0] = [some a0] := rfl
theorem sc__law_whole : FnScope N__law_whole ["found"] (defScope s__law_whole) := ⟨rfl, rfl, rfl, by decide +kernel, rfl, by decide +kernel, by decide +kernel⟩
abbrev s__law_same : Stmt := top 27
abbrev N__law_same : List Str := ["found", "due", "k"]
theorem st__law_same (a0 a1 : V) : L2.start N__law_same [a0, a1] = [some a0, some a1, none] := rfl
theorem sc__law_same : FnScope N__law_same ["found", "due"] (defScope s__law_same) := ⟨rfl, rfl, rfl, by decide +kernel, rfl, by decide +kernel, by decide +kernel⟩
abbrev s__law_digit : Stmt := top 28
abbrev N__law_digit : List Str := ["own", "many", "digit"]
theorem st__law_digit (a0 a1 : V) : L2.start N__law_digit [a0, a1] = [some a0, some a1, none] := rfl
theorem sc__law_digit : FnScope N__law_digit ["own", "many"] (defScope s__law_digit) := ⟨rfl, rfl, rfl, by decide +kernel, rfl, by decide +kernel, by decide +kernel⟩
abbrev s__law_own : Stmt := top 29
abbrev N__law_own : List Str := ["cell", "great", "stir", "k"]
theorem st__law_own (a0 : V) : L2.start N__law_own [a0] = [some a0, none, none, none] := rfl
theorem sc__law_own : FnScope N__law_own ["cell"] (defScope s__law_own) := ⟨rfl, rfl, rfl, by decide +kernel, rfl, by decide +kernel, by decide +kernel⟩
abbrev s__law_area : Stmt := top 30
abbrev N__law_area : List Str := ["own", "top", "left", "high", "wide"]
theorem st__law_area (a0 : V) : L2.start N__law_area [a0] = [some a0, none, none, none, none] := rfl
theorem sc__law_area : FnScope N__law_area ["own"] (defScope s__law_area) := ⟨rfl, rfl, rfl, by decide +kernel, rfl, by decide +kernel, by decide +kernel⟩
abbrev s__law_pins : Stmt := top 31
abbrev N__law_pins : List Str := ["own", "many", "k"]
theorem st__law_pins (a0 a1 : V) : L2.start N__law_pins [a0, a1] = [some a0, some a1, none] := rfl
theorem sc__law_pins : FnScope N__law_pins ["own", "many"] (defScope s__law_pins) := ⟨rfl, rfl, rfl, by decide +kernel, rfl, by decide +kernel, by decide +kernel⟩
abbrev s__law_leaf : Stmt := top 32
abbrev N__law_leaf : List Str := ["own", "kind", "signs", "many", "place", "word", "area", "k"]
theorem st__law_leaf (a0 a1 : V) : L2.start N__law_leaf [a0, a1] = [some a0, some a1, none, none, none, none, none, none] := rfl
theorem sc__law_leaf : FnScope N__law_leaf ["own", "kind"] (defScope s__law_leaf) := ⟨rfl, rfl, rfl, by decide +kernel, rfl, by decide +kernel, by decide +kernel⟩
abbrev s__law_formula : Stmt := top 33
abbrev N__law_formula : List Str := ["own", "deep", "room", "kind", "need", "parts", "area", "words", "k"]
theorem st__law_formula (a0 a1 a2 : V) : L2.start N__law_formula [a0, a1, a2] = [some a0, some a1, some a2, none, none, none, none, none, none] := rfl
theorem sc__law_formula : FnScope N__law_formula ["own", "deep", "room"] (defScope s__law_formula) := ⟨rfl, rfl, rfl, by decide +kernel, rfl, by decide +kernel, by decide +kernel⟩
abbrev s__law_kids : Stmt := top 34
abbrev N__law_kids : List Str := ["formula"]
theorem st__law_kids (a0 : V) : L2.start N__law_kids [a0] = [some a0] := rfl
theorem sc__law_kids : FnScope N__law_kids ["formula"] (defScope s__law_kids) := ⟨rfl, rfl, rfl, by decide +kernel, rfl, by decide +kernel, by decide +kernel⟩
abbrev s__law_size : Stmt := top 35
abbrev N__law_size : List Str := ["formula", "sizes", "part", "size"]
theorem st__law_size (a0 : V) : L2.start N__law_size [a0] = [some a0, none, none, none] := rfl
theorem sc__law_size : FnScope N__law_size ["formula"] (defScope s__law_size) := ⟨rfl, rfl, rfl, by decide +kernel, rfl, by decide +kernel, by decide +kernel⟩
abbrev s__law_named : Stmt := top 36
abbrev N__law_named : List Str := ["formula", "found", "part", "named"]
theorem st__law_named (a0 a1 : V) : L2.start N__law_named [a0, a1] = [some a0, some a1, none, none] := rfl
theorem sc__law_named : FnScope N__law_named ["formula", "found"] (defScope s__law_named) := ⟨rfl, rfl, rfl, by decide +kernel, rfl, by decide +kernel, by decide +kernel⟩
abbrev s_law : Stmt := top 37
abbrev N_law : List Str := ["script", "cell", "formula", "size", "told", "due", "found"]
theorem st_law (a0 : V) : L2.start N_law [a0] = [some a0, none, none, none, none, none, none] := rfl
theorem sc_law : FnScope N_law ["script"] (defScope s_law) := ⟨rfl, rfl, rfl, by decide +kernel, rfl, by decide +kernel, by decide +kernel⟩
@[simp] theorem ll_0 : (Str.ofString " ").length = 1 := by decide +kernel
@[simp] theorem ll_1 : (Str.ofString "~").length = 1 := by decide +kernel
@[simp] theorem ll_2 : (Str.ofString "\"").length = 1 := by decide +kernel
@[simp] theorem ll_3 : (Str.ofString "num").length = 3 := by decide +kernel
@[simp] theorem ll_4 : (Str.ofString "text").length = 4 := by decide +kernel
@[simp] theorem ll_5 : (Str.ofString "lost").length = 4 := by decide +kernel
@[simp] theorem ll_6 : (Str.ofString "at").length = 2 := by decide +kernel
@[simp] theorem ll_7 : (Str.ofString "find").length = 4 := by decide +kernel
@[simp] theorem ll_8 : (Str.ofString "minus").length = 5 := by decide +kernel
@[simp] theorem ll_9 : (Str.ofString "not").length = 3 := by decide +kernel
@[simp] theorem ll_10 : (Str.ofString "if").length = 2 := by decide +kernel
@[simp] theorem ll_11 : (Str.ofString "no formula").length = 10 := by decide +kernel
@[simp] theorem ll_12 : (Str.ofString "ab zCZ019(),+-*/&<=:$'!~_{}@#").length = 29 := by decide +kernel
@[simp] theorem ll_13 : (Str.ofString "sum").length = 3 := by decide +kernel
@[simp] theorem ll_14 : (Str.ofString "count").length = 5 := by decide +kernel
@[simp] theorem ll_15 : (Str.ofString "least").length = 5 := by decide +kernel
@[simp] theorem ll_16 : (Str.ofString "greatest").length = 8 := by decide +kernel
@[simp] theorem ll_17 : (Str.ofString "").length = 0 := by decide +kernel
@[simp] theorem ll_18 : (Str.ofString "+").length = 1 := by decide +kernel
@[simp] theorem ll_19 : (Str.ofString "-").length = 1 := by decide +kernel
@[simp] theorem ll_20 : (Str.ofString "*").length = 1 := by decide +kernel
@[simp] theorem ll_21 : (Str.ofString "/").length = 1 := by decide +kernel
@[simp] theorem ll_22 : (Str.ofString "&").length = 1 := by decide +kernel
@[simp] theorem ll_23 : (Str.ofString "<").length = 1 := by decide +kernel
@[simp] theorem ll_24 : (Str.ofString "=").length = 1 := by decide +kernel
@[simp] theorem ll_25 : (Str.ofString "rest").length = 4 := by decide +kernel
@[simp] theorem ll_26 : (Str.ofString "else").length = 4 := by decide +kernel
/-! ### the facts of the top -/
def d_are_numbers : He.DefD := ⟨("are_numbers", none), "are_numbers", "are_numbers", defArgs s_are_numbers, defBody s_are_numbers, defScope s_are_numbers, [], []⟩
def d_are_pins : He.DefD := ⟨("are_pins", none), "are_pins", "are_pins", defArgs s_are_pins, defBody s_are_pins, defScope s_are_pins, [], []⟩
def d_is_place : He.DefD := ⟨("is_place", none), "is_place", "is_place", defArgs s_is_place, defBody s_is_place, defScope s_is_place, [], []⟩
def d_is_area : He.DefD := ⟨("is_area", none), "is_area", "is_area", defArgs s_is_area, defBody s_is_area, defScope s_is_area, [], []⟩
def d_is_plain_text : He.DefD := ⟨("is_plain_text", none), "is_plain_text", "is_plain_text", defArgs s_is_plain_text, defBody s_is_plain_text, defScope s_is_plain_text, [], []⟩
def d_parts_of : He.DefD := ⟨("parts_of", none), "parts_of", "parts_of", defArgs s_parts_of, defBody s_parts_of, defScope s_parts_of, [], []⟩
def d_pieces_left : He.DefD := ⟨("pieces_left", none), "pieces_left", "pieces_left", defArgs s_pieces_left, defBody s_pieces_left, defScope s_pieces_left, [], []⟩
def d_made_formula : He.DefD := ⟨("made_formula", none), "made_formula", "made_formula", defArgs s_made_formula, defBody s_made_formula, defScope s_made_formula, [], []⟩
def d_piece_many : He.DefD := ⟨("piece_many", none), "piece_many", "piece_many", defArgs s_piece_many, defBody s_piece_many, defScope s_piece_many, [], []⟩
def d_depth_of : He.DefD := ⟨("depth_of", none), "depth_of", "depth_of", defArgs s_depth_of, defBody s_depth_of, defScope s_depth_of, [], []⟩
def d_named_twice_in : He.DefD := ⟨("named_twice_in", none), "named_twice_in", "named_twice_in", defArgs s_named_twice_in, defBody s_named_twice_in, defScope s_named_twice_in, [], []⟩
def d_named_in : He.DefD := ⟨("named_in", none), "named_in", "named_in", defArgs s_named_in, defBody s_named_in, defScope s_named_in, [], []⟩
def d__law_whole : He.DefD := ⟨("_law_whole", none), "_law_whole", "_law_whole", defArgs s__law_whole, defBody s__law_whole, defScope s__law_whole, [], []⟩
def d__law_same : He.DefD := ⟨("_law_same", none), "_law_same", "_law_same", defArgs s__law_same, defBody s__law_same, defScope s__law_same, [], []⟩
def d__law_digit : He.DefD := ⟨("_law_digit", none), "_law_digit", "_law_digit", defArgs s__law_digit, defBody s__law_digit, defScope s__law_digit, [], []⟩
def d__law_own : He.DefD := ⟨("_law_own", none), "_law_own", "_law_own", defArgs s__law_own, defBody s__law_own, defScope s__law_own, [], []⟩
def d__law_area : He.DefD := ⟨("_law_area", none), "_law_area", "_law_area", defArgs s__law_area, defBody s__law_area, defScope s__law_area, [], []⟩
def d__law_pins : He.DefD := ⟨("_law_pins", none), "_law_pins", "_law_pins", defArgs s__law_pins, defBody s__law_pins, defScope s__law_pins, [], []⟩
def d__law_leaf : He.DefD := ⟨("_law_leaf", none), "_law_leaf", "_law_leaf", defArgs s__law_leaf, defBody s__law_leaf, defScope s__law_leaf, [], []⟩
def d__law_formula : He.DefD := ⟨("_law_formula", none), "_law_formula", "_law_formula", defArgs s__law_formula, defBody s__law_formula, defScope s__law_formula, [], []⟩
def d__law_kids : He.DefD := ⟨("_law_kids", none), "_law_kids", "_law_kids", defArgs s__law_kids, defBody s__law_kids, defScope s__law_kids, [], []⟩
def d__law_size : He.DefD := ⟨("_law_size", none), "_law_size", "_law_size", defArgs s__law_size, defBody s__law_size, defScope s__law_size, [], []⟩
def d__law_named : He.DefD := ⟨("_law_named", none), "_law_named", "_law_named", defArgs s__law_named, defBody s__law_named, defScope s__law_named, [], []⟩
def d_law : He.DefD := ⟨("law", none), "law", "law", defArgs s_law, defBody s_law, defScope s_law, [], []⟩
def fn : List He.DefD := [d_are_numbers, d_are_pins, d_is_place, d_is_area, d_is_plain_text, d_parts_of, d_pieces_left, d_made_formula, d_piece_many, d_depth_of, d_named_twice_in, d_named_in, d__law_whole, d__law_same, d__law_digit, d__law_own, d__law_area, d__law_pins, d__law_leaf, d__law_formula, d__law_kids, d__law_size, d__law_named, d_law]
def fa0 : List He.Fa := [.glo "are_numbers", .glo "are_pins", .glo "is_place", .glo "is_area", .glo "is_plain_text", .glo "parts_of", .glo "pieces_left", .glo "made_formula", .glo "piece_many", .glo "depth_of", .glo "named_twice_in", .glo "named_in", .glo "_law_whole", .glo "_law_same", .glo "_law_digit", .glo "_law_own", .glo "_law_area", .glo "_law_pins", .glo "_law_leaf", .glo "_law_formula", .glo "_law_kids", .glo "_law_size", .glo "_law_named", .glo "law", .free "abs", .free "all", .free "bool", .free "int", .free "isinstance", .free "len"]
def fa30 : List He.Fa := [.free "list", .free "max", .free "min", .free "ord", .free "range", .free "str", .free "sum", .free "tuple", .int "MOST_PIECES" (60), .int "MOST_DEEP" (12), .int "MOST_NUMBER" (1000000000000000000000000000000000000000000000000000000000000), .int "MOST_SIGNS" (40), .int "ROWS" (99), .int "COLUMNS" (26), .int "MOST_PLACES" (300), .glo "PAIRED", .glo "GATHERING", .glo "SheetError", .exc "SheetError", .glo "BadFormula", .exc "BadFormula", .exm "SheetError" "BadFormula" false, .exm "BadFormula" "SheetError" true, .exm "BadFormula" "BadFormula" true]
def fa : List He.Fa := fa0 ++ fa30
def exs0 : List (PySem.W.Frag → Bool) := [(fun K => He.tupB K "PAIRED" [.str "+", .str "-", .str "*", .str "/", .str "&", .str "<", .str "=", .str "rest", .str "else"]), (fun K => He.tupB K "GATHERING" [.str "sum", .str "count", .str "least", .str "greatest"]), (fun K => excCB K (He.ga K "SheetError")), (fun K => excCB K (He.ga K "BadFormula"))]
def exs : List (PySem.W.Frag → Bool) := exs0
def ex (K : PySem.W.Frag) : Bool := exs.all fun f => f K
theorem ex_at {K : PySem.W.Frag} {f : PySem.W.Frag → Bool} (h : ex K = true) (i : Nat) (e : exs[i]? = some f) : f K = true := List.all_eq_true.mp h f (List.mem_of_getElem? e)
structure Txt (K : PySem.W.Frag) (mg : Str → Option Value) : Prop where
  g_are_numbers : mg "are_numbers" = some (.ref (He.ga K "are_numbers"))
  f_are_numbers : ∃ fd, FunD K "are_numbers" "are_numbers" (defArgs s_are_numbers) (defBody s_are_numbers) (defScope s_are_numbers) [] [] (He.ga K "are_numbers") fd
  g_are_pins : mg "are_pins" = some (.ref (He.ga K "are_pins"))
  f_are_pins : ∃ fd, FunD K "are_pins" "are_pins" (defArgs s_are_pins) (defBody s_are_pins) (defScope s_are_pins) [] [] (He.ga K "are_pins") fd
  g_is_place : mg "is_place" = some (.ref (He.ga K "is_place"))
  f_is_place : ∃ fd, FunD K "is_place" "is_place" (defArgs s_is_place) (defBody s_is_place) (defScope s_is_place) [] [] (He.ga K "is_place") fd
  g_is_area : mg "is_area" = some (.ref (He.ga K "is_area"))
  f_is_area : ∃ fd, FunD K "is_area" "is_area" (defArgs s_is_area) (defBody s_is_area) (defScope s_is_area) [] [] (He.ga K "is_area") fd
  g_is_plain_text : mg "is_plain_text" = some (.ref (He.ga K "is_plain_text"))
  f_is_plain_text : ∃ fd, FunD K "is_plain_text" "is_plain_text" (defArgs s_is_plain_text) (defBody s_is_plain_text) (defScope s_is_plain_text) [] [] (He.ga K "is_plain_text") fd
  g_parts_of : mg "parts_of" = some (.ref (He.ga K "parts_of"))
  f_parts_of : ∃ fd, FunD K "parts_of" "parts_of" (defArgs s_parts_of) (defBody s_parts_of) (defScope s_parts_of) [] [] (He.ga K "parts_of") fd
  g_pieces_left : mg "pieces_left" = some (.ref (He.ga K "pieces_left"))
  f_pieces_left : ∃ fd, FunD K "pieces_left" "pieces_left" (defArgs s_pieces_left) (defBody s_pieces_left) (defScope s_pieces_left) [] [] (He.ga K "pieces_left") fd
  g_made_formula : mg "made_formula" = some (.ref (He.ga K "made_formula"))
  f_made_formula : ∃ fd, FunD K "made_formula" "made_formula" (defArgs s_made_formula) (defBody s_made_formula) (defScope s_made_formula) [] [] (He.ga K "made_formula") fd
  g_piece_many : mg "piece_many" = some (.ref (He.ga K "piece_many"))
  f_piece_many : ∃ fd, FunD K "piece_many" "piece_many" (defArgs s_piece_many) (defBody s_piece_many) (defScope s_piece_many) [] [] (He.ga K "piece_many") fd
  g_depth_of : mg "depth_of" = some (.ref (He.ga K "depth_of"))
  f_depth_of : ∃ fd, FunD K "depth_of" "depth_of" (defArgs s_depth_of) (defBody s_depth_of) (defScope s_depth_of) [] [] (He.ga K "depth_of") fd
  g_named_twice_in : mg "named_twice_in" = some (.ref (He.ga K "named_twice_in"))
  f_named_twice_in : ∃ fd, FunD K "named_twice_in" "named_twice_in" (defArgs s_named_twice_in) (defBody s_named_twice_in) (defScope s_named_twice_in) [] [] (He.ga K "named_twice_in") fd
  g_named_in : mg "named_in" = some (.ref (He.ga K "named_in"))
  f_named_in : ∃ fd, FunD K "named_in" "named_in" (defArgs s_named_in) (defBody s_named_in) (defScope s_named_in) [] [] (He.ga K "named_in") fd
  g__law_whole : mg "_law_whole" = some (.ref (He.ga K "_law_whole"))
  f__law_whole : ∃ fd, FunD K "_law_whole" "_law_whole" (defArgs s__law_whole) (defBody s__law_whole) (defScope s__law_whole) [] [] (He.ga K "_law_whole") fd
  g__law_same : mg "_law_same" = some (.ref (He.ga K "_law_same"))
  f__law_same : ∃ fd, FunD K "_law_same" "_law_same" (defArgs s__law_same) (defBody s__law_same) (defScope s__law_same) [] [] (He.ga K "_law_same") fd
  g__law_digit : mg "_law_digit" = some (.ref (He.ga K "_law_digit"))
  f__law_digit : ∃ fd, FunD K "_law_digit" "_law_digit" (defArgs s__law_digit) (defBody s__law_digit) (defScope s__law_digit) [] [] (He.ga K "_law_digit") fd
  g__law_own : mg "_law_own" = some (.ref (He.ga K "_law_own"))
  f__law_own : ∃ fd, FunD K "_law_own" "_law_own" (defArgs s__law_own) (defBody s__law_own) (defScope s__law_own) [] [] (He.ga K "_law_own") fd
  g__law_area : mg "_law_area" = some (.ref (He.ga K "_law_area"))
  f__law_area : ∃ fd, FunD K "_law_area" "_law_area" (defArgs s__law_area) (defBody s__law_area) (defScope s__law_area) [] [] (He.ga K "_law_area") fd
  g__law_pins : mg "_law_pins" = some (.ref (He.ga K "_law_pins"))
  f__law_pins : ∃ fd, FunD K "_law_pins" "_law_pins" (defArgs s__law_pins) (defBody s__law_pins) (defScope s__law_pins) [] [] (He.ga K "_law_pins") fd
  g__law_leaf : mg "_law_leaf" = some (.ref (He.ga K "_law_leaf"))
  f__law_leaf : ∃ fd, FunD K "_law_leaf" "_law_leaf" (defArgs s__law_leaf) (defBody s__law_leaf) (defScope s__law_leaf) [] [] (He.ga K "_law_leaf") fd
  g__law_formula : mg "_law_formula" = some (.ref (He.ga K "_law_formula"))
  f__law_formula : ∃ fd, FunD K "_law_formula" "_law_formula" (defArgs s__law_formula) (defBody s__law_formula) (defScope s__law_formula) [] [] (He.ga K "_law_formula") fd
  g__law_kids : mg "_law_kids" = some (.ref (He.ga K "_law_kids"))
  f__law_kids : ∃ fd, FunD K "_law_kids" "_law_kids" (defArgs s__law_kids) (defBody s__law_kids) (defScope s__law_kids) [] [] (He.ga K "_law_kids") fd
  g__law_size : mg "_law_size" = some (.ref (He.ga K "_law_size"))
  f__law_size : ∃ fd, FunD K "_law_size" "_law_size" (defArgs s__law_size) (defBody s__law_size) (defScope s__law_size) [] [] (He.ga K "_law_size") fd
  g__law_named : mg "_law_named" = some (.ref (He.ga K "_law_named"))
  f__law_named : ∃ fd, FunD K "_law_named" "_law_named" (defArgs s__law_named) (defBody s__law_named) (defScope s__law_named) [] [] (He.ga K "_law_named") fd
  g_law : mg "law" = some (.ref (He.ga K "law"))
  f_law : ∃ fd, FunD K "law" "law" (defArgs s_law) (defBody s_law) (defScope s_law) [] [] (He.ga K "law") fd
  n_abs : mg "abs" = none
  n_all : mg "all" = none
  n_bool : mg "bool" = none
  n_int : mg "int" = none
  n_isinstance : mg "isinstance" = none
  n_len : mg "len" = none
  n_list : mg "list" = none
  n_max : mg "max" = none
  n_min : mg "min" = none
  n_ord : mg "ord" = none
  n_range : mg "range" = none
  n_str : mg "str" = none
  n_sum : mg "sum" = none
  n_tuple : mg "tuple" = none
  c_MOST_PIECES : GCon K mg "MOST_PIECES" (.int (60))
  c_MOST_DEEP : GCon K mg "MOST_DEEP" (.int (12))
  c_MOST_NUMBER : GCon K mg "MOST_NUMBER" (.int (1000000000000000000000000000000000000000000000000000000000000))
  c_MOST_SIGNS : GCon K mg "MOST_SIGNS" (.int (40))
  c_ROWS : GCon K mg "ROWS" (.int (99))
  c_COLUMNS : GCon K mg "COLUMNS" (.int (26))
  c_MOST_PLACES : GCon K mg "MOST_PLACES" (.int (300))
  c_PAIRED : GCon K mg "PAIRED" (.ref (He.ga K "PAIRED"))
  t_PAIRED : ∀ H, SqT K H (He.ga K "PAIRED") [.str "+", .str "-", .str "*", .str "/", .str "&", .str "<", .str "=", .str "rest", .str "else"]
  c_GATHERING : GCon K mg "GATHERING" (.ref (He.ga K "GATHERING"))
  t_GATHERING : ∀ H, SqT K H (He.ga K "GATHERING") [.str "sum", .str "count", .str "least", .str "greatest"]
  x_SheetError : XCls K mg "SheetError"
  x_BadFormula : XCls K mg "BadFormula"
  m_SheetError_BadFormula : PySem.W.exmOne K (.ref (He.ga K "SheetError")) (.ref (He.ga K "BadFormula")) = some false
  m_BadFormula_SheetError : PySem.W.exmOne K (.ref (He.ga K "BadFormula")) (.ref (He.ga K "SheetError")) = some true
  m_BadFormula_BadFormula : PySem.W.exmOne K (.ref (He.ga K "BadFormula")) (.ref (He.ga K "BadFormula")) = some true
theorem txt {w : World} {K : PySem.W.Frag} {h h1 : Heap} {mg : Str → Option Value} (X : K.In h) (G : h.Ns mainGlobals mg) (c : He.SaysX fa fn [] [] ex w h1 K) : Txt K mg :=
  ⟨He.glo_ok X G (c.t.d.fact 0 (f := .glo "are_numbers") rfl),
   c.t.d.def_ 0 (d := d_are_numbers) rfl,
   He.glo_ok X G (c.t.d.fact 1 (f := .glo "are_pins") rfl),
   c.t.d.def_ 1 (d := d_are_pins) rfl,
   He.glo_ok X G (c.t.d.fact 2 (f := .glo "is_place") rfl),
   c.t.d.def_ 2 (d := d_is_place) rfl,
   He.glo_ok X G (c.t.d.fact 3 (f := .glo "is_area") rfl),
   c.t.d.def_ 3 (d := d_is_area) rfl,
   He.glo_ok X G (c.t.d.fact 4 (f := .glo "is_plain_text") rfl),
   c.t.d.def_ 4 (d := d_is_plain_text) rfl,
   He.glo_ok X G (c.t.d.fact 5 (f := .glo "parts_of") rfl),
   c.t.d.def_ 5 (d := d_parts_of) rfl,
   He.glo_ok X G (c.t.d.fact 6 (f := .glo "pieces_left") rfl),
   c.t.d.def_ 6 (d := d_pieces_left) rfl,
   He.glo_ok X G (c.t.d.fact 7 (f := .glo "made_formula") rfl),
   c.t.d.def_ 7 (d := d_made_formula) rfl,
   He.glo_ok X G (c.t.d.fact 8 (f := .glo "piece_many") rfl),
   c.t.d.def_ 8 (d := d_piece_many) rfl,
   He.glo_ok X G (c.t.d.fact 9 (f := .glo "depth_of") rfl),
   c.t.d.def_ 9 (d := d_depth_of) rfl,
   He.glo_ok X G (c.t.d.fact 10 (f := .glo "named_twice_in") rfl),
   c.t.d.def_ 10 (d := d_named_twice_in) rfl,
   He.glo_ok X G (c.t.d.fact 11 (f := .glo "named_in") rfl),
   c.t.d.def_ 11 (d := d_named_in) rfl,
   He.glo_ok X G (c.t.d.fact 12 (f := .glo "_law_whole") rfl),
   c.t.d.def_ 12 (d := d__law_whole) rfl,
   He.glo_ok X G (c.t.d.fact 13 (f := .glo "_law_same") rfl),
   c.t.d.def_ 13 (d := d__law_same) rfl,
   He.glo_ok X G (c.t.d.fact 14 (f := .glo "_law_digit") rfl),
   c.t.d.def_ 14 (d := d__law_digit) rfl,
   He.glo_ok X G (c.t.d.fact 15 (f := .glo "_law_own") rfl),
   c.t.d.def_ 15 (d := d__law_own) rfl,
   He.glo_ok X G (c.t.d.fact 16 (f := .glo "_law_area") rfl),
   c.t.d.def_ 16 (d := d__law_area) rfl,
   He.glo_ok X G (c.t.d.fact 17 (f := .glo "_law_pins") rfl),
   c.t.d.def_ 17 (d := d__law_pins) rfl,
   He.glo_ok X G (c.t.d.fact 18 (f := .glo "_law_leaf") rfl),
   c.t.d.def_ 18 (d := d__law_leaf) rfl,
   He.glo_ok X G (c.t.d.fact 19 (f := .glo "_law_formula") rfl),
   c.t.d.def_ 19 (d := d__law_formula) rfl,
   He.glo_ok X G (c.t.d.fact 20 (f := .glo "_law_kids") rfl),
   c.t.d.def_ 20 (d := d__law_kids) rfl,
   He.glo_ok X G (c.t.d.fact 21 (f := .glo "_law_size") rfl),
   c.t.d.def_ 21 (d := d__law_size) rfl,
   He.glo_ok X G (c.t.d.fact 22 (f := .glo "_law_named") rfl),
   c.t.d.def_ 22 (d := d__law_named) rfl,
   He.glo_ok X G (c.t.d.fact 23 (f := .glo "law") rfl),
   c.t.d.def_ 23 (d := d_law) rfl,
   He.free_ok X G (c.t.d.fact 24 (f := .free "abs") rfl),
   He.free_ok X G (c.t.d.fact 25 (f := .free "all") rfl),
   He.free_ok X G (c.t.d.fact 26 (f := .free "bool") rfl),
   He.free_ok X G (c.t.d.fact 27 (f := .free "int") rfl),
   He.free_ok X G (c.t.d.fact 28 (f := .free "isinstance") rfl),
   He.free_ok X G (c.t.d.fact 29 (f := .free "len") rfl),
   He.free_ok X G (c.t.d.fact 30 (f := .free "list") rfl),
   He.free_ok X G (c.t.d.fact 31 (f := .free "max") rfl),
   He.free_ok X G (c.t.d.fact 32 (f := .free "min") rfl),
   He.free_ok X G (c.t.d.fact 33 (f := .free "ord") rfl),
   He.free_ok X G (c.t.d.fact 34 (f := .free "range") rfl),
   He.free_ok X G (c.t.d.fact 35 (f := .free "str") rfl),
   He.free_ok X G (c.t.d.fact 36 (f := .free "sum") rfl),
   He.free_ok X G (c.t.d.fact 37 (f := .free "tuple") rfl),
   gcon_int (He.int_ok X G (c.t.d.fact 38 (f := .int "MOST_PIECES" (60)) rfl)),
   gcon_int (He.int_ok X G (c.t.d.fact 39 (f := .int "MOST_DEEP" (12)) rfl)),
   gcon_int (He.int_ok X G (c.t.d.fact 40 (f := .int "MOST_NUMBER" (1000000000000000000000000000000000000000000000000000000000000)) rfl)),
   gcon_int (He.int_ok X G (c.t.d.fact 41 (f := .int "MOST_SIGNS" (40)) rfl)),
   gcon_int (He.int_ok X G (c.t.d.fact 42 (f := .int "ROWS" (99)) rfl)),
   gcon_int (He.int_ok X G (c.t.d.fact 43 (f := .int "COLUMNS" (26)) rfl)),
   gcon_int (He.int_ok X G (c.t.d.fact 44 (f := .int "MOST_PLACES" (300)) rfl)),
   gcon_ref (He.glo_ok X G (c.t.d.fact 45 (f := .glo "PAIRED") rfl)),
   He.tupB_ok (ex_at c.more 0 rfl),
   gcon_ref (He.glo_ok X G (c.t.d.fact 46 (f := .glo "GATHERING") rfl)),
   He.tupB_ok (ex_at c.more 1 rfl),
   ⟨He.glo_ok X G (c.t.d.fact 47 (f := .glo "SheetError") rfl), He.exc_ok (c.t.d.fact 48 (f := .exc "SheetError") rfl), excCB_ok (ex_at c.more 2 rfl)⟩,
   ⟨He.glo_ok X G (c.t.d.fact 49 (f := .glo "BadFormula") rfl), He.exc_ok (c.t.d.fact 50 (f := .exc "BadFormula") rfl), excCB_ok (ex_at c.more 3 rfl)⟩,
   He.exm_ok (c.t.d.fact 51 (f := .exm "SheetError" "BadFormula" false) rfl),
   He.exm_ok (c.t.d.fact 52 (f := .exm "BadFormula" "SheetError" true) rfl),
   He.exm_ok (c.t.d.fact 53 (f := .exm "BadFormula" "BadFormula" true) rfl)⟩
end Ol

namespace Ol
open PySem PySem.Spec PyProof.Rows L2
/-! ## the program by plain values -/
inductive Fn where
  | f_are_numbers | f_are_pins | f_is_place | f_is_area | f_is_plain_text | f_parts_of | f_pieces_left | f_made_formula | f_piece_many | f_depth_of | f_named_twice_in | f_named_in | f_law_whole | f_law_same | f_law_digit | f_law_own | f_law_area | f_law_pins | f_law_leaf | f_law_formula | f_law_kids | f_law_size | f_law_named | flaw
@[irreducible] def e_are_numbers_1 (F : Fn → List D → Res D) : Env → Res D :=
 (eAnd (eCb isiD (aCons false (eV 2) (aCons false (eC (.ty "int")) aNil))) (eNot (eCb isiD (aCons false (eV 2) (aCons false (eC (.ty "bool")) aNil)))))
@[irreducible] def b_f_are_numbers (F : Fn → List D → Res D) : Env → Out :=
 (sSeq (sIf (bOr (bNot (bT (eCb isiD (aCons false (eV 0) (aCons false (eC (.ty "tuple")) aNil))))) (bT (eBin false neD (eCb lenD (aCons false (eV 0) aNil)) (eV 1))))
 (sRet (eC (.bl false)))
 sNext)
 (sRet (eCb allD (aCons false (eComp (itE (eV 0)) [2] false (gNm 2) (fun ρ => .ok true ρ) (e_are_numbers_1 F)) aNil))))

@[irreducible] def b_f_are_pins (F : Fn → List D → Res D) : Env → Out :=
 (sRet (eAnd (eCall 2 (F .f_are_numbers) (aCons false (eV 0) (aCons false (eV 1) aNil))) (eAnd (eBin false geD (eCb minD (aCons false (eV 0) aNil)) (eC (.int 0))) (eBin false leD (eCb maxD (aCons false (eV 0) aNil)) (eC (.int 1))))))

@[irreducible] def b_f_is_place (F : Fn → List D → Res D) : Env → Out :=
 (sRet (eAnd (eCall 2 (F .f_are_numbers) (aCons false (eV 0) (aCons false (eC (.int 2)) aNil))) (eAnd (eChain leD ltD (eC (.int 0)) (eBin false ixD (eV 0) (eC (.int 0))) (eC (.int (99)))) (eChain leD ltD (eC (.int 0)) (eBin false ixD (eV 0) (eC (.int 1))) (eC (.int (26)))))))

@[irreducible] def b_f_is_area (F : Fn → List D → Res D) : Env → Out :=
 (sSeq (sIf (bOr (bNot (bT (eCall 2 (F .f_are_numbers) (aCons false (eV 0) (aCons false (eC (.int 4)) aNil))))) (bOr (bNot (bT (eCall 1 (F .f_is_place) (aCons false (eSl (eV 0) pNone (pSome (eC (.int 2)))) aNil)))) (bNot (bT (eCall 1 (F .f_is_place) (aCons false (eSl (eV 0) (pSome (eC (.int 2))) pNone) aNil))))))
 (sRet (eC (.bl false)))
 sNext)
 (sSeq (sAsg 1 (eBin false addD (eBin false subD (eBin false ixD (eV 0) (eC (.int 2))) (eBin false ixD (eV 0) (eC (.int 0)))) (eC (.int 1))))
 (sSeq (sAsg 2 (eBin false addD (eBin false subD (eBin false ixD (eV 0) (eC (.int 3))) (eBin false ixD (eV 0) (eC (.int 1)))) (eC (.int 1))))
 (sRet (eAnd (eBin false gtD (eV 1) (eC (.int 0))) (eAnd (eBin false gtD (eV 2) (eC (.int 0))) (eBin false leD (eBin false mulD (eV 1) (eV 2)) (eC (.int (300))))))))))

@[irreducible] def e_is_plain_text_1 (F : Fn → List D → Res D) : Env → Res D :=
 (eAnd (eChain leD leD (eC (.str (Str.ofString " "))) (eV 1) (eC (.str (Str.ofString "~")))) (eAnd (eBin false neD (eV 1) (eC (.str (Str.ofString "\"")))) (eBin false neD (eCb ordD (aCons false (eV 1) aNil)) (eC (.int 37)))))
@[irreducible] def b_f_is_plain_text (F : Fn → List D → Res D) : Env → Out :=
 (sSeq (sIf (bOr (bNot (bT (eCb isiD (aCons false (eV 0) (aCons false (eC (.ty "str")) aNil))))) (bT (eBin false gtD (eCb lenD (aCons false (eV 0) aNil)) (eC (.int (40))))))
 (sRet (eC (.bl false)))
 sNext)
 (sRet (eCb allD (aCons false (eComp (itE (eV 0)) [1] false (gNm 1) (fun ρ => .ok true ρ) (e_is_plain_text_1 F)) aNil))))

@[irreducible] def b_f_parts_of (F : Fn → List D → Res D) : Env → Out :=
 (sSeq (sIf (bOr (bNot (bT (eCb isiD (aCons false (eV 0) (aCons false (eC (.ty "tuple")) aNil))))) (bOr (bT (eBin false eqD (eCb lenD (aCons false (eV 0) aNil)) (eC (.int 0)))) (bNot (bT (eCb isiD (aCons false (eBin false ixD (eV 0) (eC (.int 0))) (aCons false (eC (.ty "str")) aNil)))))))
 (sRet (eC .non))
 sNext)
 (sSeq (sAsg 1 (eChk (eBin false ixD (eV 0) (eC (.int 0)))))
 (sSeq (sAsg 2 (eC .non))
 (sSeq (sIf (bAnd (bT (eBin false eqD (eV 1) (eC (.str (Str.ofString "num"))))) (bAnd (bT (eCall 2 (F .f_are_numbers) (aCons false (eSl (eV 0) (pSome (eC (.int 1))) pNone) (aCons false (eC (.int 1)) aNil)))) (bT (eChain leD leD (eC (.int 0)) (eBin false ixD (eV 0) (eC (.int 1))) (eC (.int (1000000000000000000000000000000000000000000000000000000000000)))))))
 (sAsg 2 (eTup aNil))
 (sIf (bOr (bAnd (bT (eBin false eqD (eV 1) (eC (.str (Str.ofString "text"))))) (bAnd (bT (eBin false eqD (eCb lenD (aCons false (eV 0) aNil)) (eC (.int 2)))) (bT (eCall 1 (F .f_is_plain_text) (aCons false (eBin false ixD (eV 0) (eC (.int 1))) aNil))))) (bT (eBin false eqD (eV 0) (eTup (aCons false (eC (.str (Str.ofString "lost"))) aNil)))))
 (sAsg 2 (eTup aNil))
 (sIf (bAnd (bT (eBin false eqD (eV 1) (eC (.str (Str.ofString "at"))))) (bAnd (bT (eBin false eqD (eCb lenD (aCons false (eV 0) aNil)) (eC (.int 3)))) (bAnd (bT (eCall 1 (F .f_is_place) (aCons false (eBin false ixD (eV 0) (eC (.int 1))) aNil))) (bT (eCall 2 (F .f_are_pins) (aCons false (eBin false ixD (eV 0) (eC (.int 2))) (aCons false (eC (.int 2)) aNil)))))))
 (sAsg 2 (eTup aNil))
 (sIf (bAnd (bT (eBin false inD (eV 1) (eC (.tup [(.str (Str.ofString "sum")), (.str (Str.ofString "count")), (.str (Str.ofString "least")), (.str (Str.ofString "greatest"))])))) (bAnd (bT (eBin false eqD (eCb lenD (aCons false (eV 0) aNil)) (eC (.int 3)))) (bAnd (bT (eCall 1 (F .f_is_area) (aCons false (eBin false ixD (eV 0) (eC (.int 1))) aNil))) (bT (eCall 2 (F .f_are_pins) (aCons false (eBin false ixD (eV 0) (eC (.int 2))) (aCons false (eC (.int 4)) aNil)))))))
 (sAsg 2 (eTup aNil))
 (sIf (bAnd (bT (eBin false eqD (eV 1) (eC (.str (Str.ofString "find"))))) (bAnd (bT (eBin false eqD (eCb lenD (aCons false (eV 0) aNil)) (eC (.int 4)))) (bAnd (bT (eCall 1 (F .f_is_area) (aCons false (eBin false ixD (eV 0) (eC (.int 2))) aNil))) (bT (eCall 2 (F .f_are_pins) (aCons false (eBin false ixD (eV 0) (eC (.int 3))) (aCons false (eC (.int 4)) aNil)))))))
 (sAsg 2 (eChk (eTup (aCons false (eBin false ixD (eV 0) (eC (.int 1))) aNil))))
 (sIf (bT (eBin false eqD (eTup (aCons false (eBin false inD (eV 1) (eTup (aCons false (eC (.str (Str.ofString "minus"))) (aCons false (eC (.str (Str.ofString "not"))) aNil)))) (aCons false (eCb lenD (aCons false (eV 0) aNil)) aNil))) (eTup (aCons false (eC (.bl true)) (aCons false (eC (.int 2)) aNil)))))
 (sAsg 2 (eSl (eV 0) (pSome (eC (.int 1))) pNone))
 (sIf (bOr (bT (eBin false eqD (eTup (aCons false (eBin false inD (eV 1) (eC (.tup [(.str (Str.ofString "+")), (.str (Str.ofString "-")), (.str (Str.ofString "*")), (.str (Str.ofString "/")), (.str (Str.ofString "&")), (.str (Str.ofString "<")), (.str (Str.ofString "=")), (.str (Str.ofString "rest")), (.str (Str.ofString "else"))]))) (aCons false (eCb lenD (aCons false (eV 0) aNil)) aNil))) (eTup (aCons false (eC (.bl true)) (aCons false (eC (.int 3)) aNil))))) (bT (eBin false eqD (eTup (aCons false (eV 1) (aCons false (eCb lenD (aCons false (eV 0) aNil)) aNil))) (eTup (aCons false (eC (.str (Str.ofString "if"))) (aCons false (eC (.int 4)) aNil))))))
 (sAsg 2 (eSl (eV 0) (pSome (eC (.int 1))) pNone))
 sNext)))))))
 (sRet (eChk (eV 2)))))))

@[irreducible] def l_pieces_left_1 (F : Fn → List D → Res D) : Env → Out :=
 (sIf (bT (eBin false geD (eV 2) (eC (.int 0))))
 (sAsg 2 (eCall 3 (F .f_pieces_left) (aCons false (eV 4) (aCons false (eBin false subD (eV 1) (eC (.int 1))) (aCons false (eV 2) aNil)))))
 sNext)
@[irreducible] def b_f_pieces_left (F : Fn → List D → Res D) : Env → Out :=
 (sSeq (sAsg 3 (eCall 1 (F .f_parts_of) (aCons false (eV 0) aNil)))
 (sSeq (sIf (bOr (bT (eBin false isD (eV 3) (eC .non))) (bOr (bT (eBin false ltD (eV 1) (eC (.int 1)))) (bT (eBin false ltD (eV 2) (eC (.int 1))))))
 (sRet (eUn negD (eC (.int 1))))
 sNext)
 (sSeq (sAsg 2 (eBin false subD (eV 2) (eC (.int 1))))
 (sSeq (sFor (itE (eV 3)) (gNm 4)
 (l_pieces_left_1 F))
 (sRet (eChk (eV 2)))))))

@[irreducible] def b_f_made_formula (F : Fn → List D → Res D) : Env → Out :=
 (sSeq (sIf (bT (eBin false ltD (eCall 3 (F .f_pieces_left) (aCons false (eV 0) (aCons false (eC (.int (12))) (aCons false (eC (.int (60))) aNil)))) (eC (.int 0))))
 (sRaise "BadFormula")
 sNext)
 (sRet (eChk (eV 0))))

@[irreducible] def e_piece_many_1 (F : Fn → List D → Res D) : Env → Res D :=
 (eCall 1 (F .f_piece_many) (aCons false (eV 1) aNil))
@[irreducible] def b_f_piece_many (F : Fn → List D → Res D) : Env → Out :=
 (sRet (eBin false addD (eC (.int 1)) (eCb sumD (aCons false (eComp (itE (eCall 1 (F .f_parts_of) (aCons false (eV 0) aNil))) [1] false (gNm 1) (fun ρ => .ok true ρ) (e_piece_many_1 F)) aNil))))

@[irreducible] def e_depth_of_1 (F : Fn → List D → Res D) : Env → Res D :=
 (eCall 1 (F .f_depth_of) (aCons false (eV 1) aNil))
@[irreducible] def b_f_depth_of (F : Fn → List D → Res D) : Env → Out :=
 (sRet (eBin false addD (eC (.int 1)) (eCb maxDfD (aCons false (eComp (itE (eCall 1 (F .f_parts_of) (aCons false (eV 0) aNil))) [1] false (gNm 1) (fun ρ => .ok true ρ) (e_depth_of_1 F)) (aCons false (eC (.int 0)) aNil)))))

@[irreducible] def l_named_twice_in_1 (F : Fn → List D → Res D) : Env → Out :=
 (sExtend 1 (eCall 1 (F .f_named_twice_in) (aCons false (eV 2) aNil)))
@[irreducible] def b_f_named_twice_in (F : Fn → List D → Res D) : Env → Out :=
 (sSeq (sAsg 1 (eLst aNil))
 (sSeq (sFor (itE (eCall 1 (F .f_parts_of) (aCons false (eV 0) aNil))) (gNm 2)
 (l_named_twice_in_1 F))
 (sSeq (sIf (bT (eBin false eqD (eBin false ixD (eV 0) (eC (.int 0))) (eC (.str (Str.ofString "find")))))
 (sAppend 1 (eChk (eBin false ixD (eV 0) (eC (.int 2)))))
 (sIf (bOr (bT (eBin false eqD (eBin false ixD (eV 0) (eC (.int 0))) (eC (.str (Str.ofString "at"))))) (bT (eBin false inD (eBin false ixD (eV 0) (eC (.int 0))) (eC (.tup [(.str (Str.ofString "sum")), (.str (Str.ofString "count")), (.str (Str.ofString "least")), (.str (Str.ofString "greatest"))])))))
 (sAppend 1 (eChk (eBin false ixD (eV 0) (eC (.int 1)))))
 sNext))
 (sRet (eV 1)))))

@[irreducible] def l_named_in_1 (F : Fn → List D → Res D) : Env → Out :=
 (sIf (bT (eBin false ninD (eV 2) (eV 1)))
 (sAppend 1 (eChk (eV 2)))
 sNext)
@[irreducible] def b_f_named_in (F : Fn → List D → Res D) : Env → Out :=
 (sSeq (sAsg 1 (eLst aNil))
 (sSeq (sFor (itE (eCall 1 (F .f_named_twice_in) (aCons false (eV 0) aNil))) (gNm 2)
 (l_named_in_1 F))
 (sRet (eV 1))))

@[irreducible] def b_f_law_whole (F : Fn → List D → Res D) : Env → Out :=
 (sRet (eAnd (eCb isiD (aCons false (eV 0) (aCons false (eC (.ty "int")) aNil))) (eNot (eCb isiD (aCons false (eV 0) (aCons false (eC (.ty "bool")) aNil))))))

@[irreducible] def l_law_same_1 (F : Fn → List D → Res D) : Env → Out :=
 (sIf (bNot (bT (eCall 2 (F .f_law_same) (aCons false (eBin false ixD (eV 0) (eV 2)) (aCons false (eBin false ixD (eV 1) (eV 2)) aNil)))))
 (sRet (eC (.bl false)))
 sNext)
@[irreducible] def b_f_law_same (F : Fn → List D → Res D) : Env → Out :=
 (sSeq (sIf (bT (eCb isiD (aCons false (eV 1) (aCons false (eC (.ty "tuple")) aNil))))
 (sSeq (sIf (bOr (bNot (bT (eCb isiD (aCons false (eV 0) (aCons false (eC (.ty "tuple")) aNil))))) (bT (eBin false neD (eCb lenD (aCons false (eV 0) aNil)) (eCb lenD (aCons false (eV 1) aNil)))))
 (sRet (eC (.bl false)))
 sNext)
 (sSeq (sFor (itO rng1D (aCons false (eCb lenD (aCons false (eV 1) aNil)) aNil)) (gNm 2)
 (l_law_same_1 F))
 (sRet (eC (.bl true)))))
 sNext)
 (sSeq (sIf (bT (eCb isiD (aCons false (eV 1) (aCons false (eC (.ty "str")) aNil))))
 (sRet (eAnd (eCb isiD (aCons false (eV 0) (aCons false (eC (.ty "str")) aNil))) (eBin false eqD (eV 0) (eV 1))))
 sNext)
 (sRet (eAnd (eCb isiD (aCons false (eV 0) (aCons false (eC (.ty "int")) aNil))) (eAnd (eNot (eCb isiD (aCons false (eV 0) (aCons false (eC (.ty "bool")) aNil)))) (eBin false eqD (eV 0) (eV 1)))))))

@[irreducible] def b_f_law_digit (F : Fn → List D → Res D) : Env → Out :=
 (sSeq (sAsg 2 (eBin false modD (eBin false ixD (eV 0) (eC (.int 0))) (eV 1)))
 (sSeq (sSetL 0 (eChk (eBin false divD (eBin false ixD (eV 0) (eC (.int 0))) (eV 1))) (eC (.int 0)))
 (sRet (eChk (eV 2)))))

@[irreducible] def l_law_own_1 (F : Fn → List D → Res D) : Env → Out :=
 (sSeq (sAsg 2 (eBin false modD (eBin false addD (eBin false addD (eBin false mulD (eV 2) (eV 2)) (eBin false mulD (eC (.int 977)) (eV 3))) (eC (.int 1))) (eC (.int 2147483647))))
 (sAsg 1 (eBin false addD (eBin false mulD (eV 1) (eC (.int 268435399))) (eBin false divD (eBin false modD (eBin false mulD (eV 2) (eC (.int 69621))) (eC (.int 2147483647))) (eC (.int 8))))))
@[irreducible] def b_f_law_own (F : Fn → List D → Res D) : Env → Out :=
 (sSeq (sAsg 0 (eCb absD (aCons false (eV 0) aNil)))
 (sSeq (sIf (bT (eBin false eqD (eBin false modD (eV 0) (eC (.int 2))) (eC (.int 1))))
 (sRet (eLst (aCons false (eBin false divD (eV 0) (eC (.int 2))) aNil)))
 sNext)
 (sSeq (sAsg 1 (eC (.int 0)))
 (sSeq (sAsg 2 (eBin false addD (eBin false modD (eBin false divD (eV 0) (eC (.int 2))) (eC (.int 2147483629))) (eC (.int 1))))
 (sSeq (sFor (itO rng1D (aCons false (eC (.int 60)) aNil)) (gNm 3)
 (l_law_own_1 F))
 (sRet (eLst (aCons false (eChk (eV 1)) aNil))))))))

@[irreducible] def b_f_law_area (F : Fn → List D → Res D) : Env → Out :=
 (sSeq (sAsg 1 (eCallIo 2 [(0, some 0)] (F .f_law_digit) (aIo 0 (aCons false (eC (.int 99)) aNil))))
 (sSeq (sAsg 2 (eCallIo 2 [(0, some 0)] (F .f_law_digit) (aIo 0 (aCons false (eC (.int 26)) aNil))))
 (sSeq (sAsg 3 (eBin false addD (eC (.int 1)) (eCallIo 2 [(0, some 0)] (F .f_law_digit) (aIo 0 (aCons false (eBin false subD (eC (.int 99)) (eV 1)) aNil)))))
 (sSeq (sAsg 4 (eBin false addD (eC (.int 1)) (eCallIo 2 [(0, some 0)] (F .f_law_digit) (aIo 0 (aCons false (eCb minD (aCons false (eBin false subD (eC (.int 26)) (eV 2)) (aCons false (eBin false divD (eC (.int 300)) (eV 3)) aNil))) aNil)))))
 (sRet (eChk (eTup (aCons false (eV 1) (aCons false (eV 2) (aCons false (eBin false subD (eBin false addD (eV 1) (eV 3)) (eC (.int 1))) (aCons false (eBin false subD (eBin false addD (eV 2) (eV 4)) (eC (.int 1))) aNil)))))))))))

@[irreducible] def e_law_pins_1 (F : Fn → List D → Res D) : Env → Res D :=
 (eCallIo 2 [(0, some 0)] (F .f_law_digit) (aIo 0 (aCons false (eC (.int 2)) aNil)))
@[irreducible] def b_f_law_pins (F : Fn → List D → Res D) : Env → Out :=
 (sRet (eCb tupleD (aCons false (eCompI (itO rng1D (aCons false (eV 1) aNil)) [2] false (gNm 2) (fun ρ => .ok true ρ) (e_law_pins_1 F)) aNil)))

@[irreducible] def e_law_leaf_1 (F : Fn → List D → Res D) : Env → Res D :=
 (eBinV ixD 2 (eCallIo 2 [(0, some 0)] (F .f_law_digit) (aIo 0 (aCons false (eCb lenD (aCons false (eV 2) aNil)) aNil))))
@[irreducible] def b_f_law_leaf (F : Fn → List D → Res D) : Env → Out :=
 (sSeq (sIf (bT (eBin false eqD (eV 1) (eC (.int 0))))
 (sRet (eTup (aCons false (eC (.str (Str.ofString "num"))) (aCons false (eCallIo 2 [(0, some 0)] (F .f_law_digit) (aIo 0 (aCons false (eBin false ixD (eLst (aCons false (eC (.int 10)) (aCons false (eC (.int 1000)) (aCons false (eBin false addD (eBin false powD (eC (.int 10)) (eC (.int 60))) (eC (.int 1))) aNil)))) (eCallIo 2 [(0, some 0)] (F .f_law_digit) (aIo 0 (aCons false (eC (.int 3)) aNil)))) aNil))) aNil))))
 sNext)
 (sSeq (sIf (bT (eBin false eqD (eV 1) (eC (.int 1))))
 (sSeq (sAsg 2 (eC (.str (Str.ofString "ab zCZ019(),+-*/&<=:$'!~_{}@#"))))
 (sSeq (sAsg 3 (eCallIo 2 [(0, some 0)] (F .f_law_digit) (aIo 0 (aCons false (eBin false ixD (eLst (aCons false (eC (.int 4)) (aCons false (eC (.int 41)) aNil))) (eCallIo 2 [(0, some 0)] (F .f_law_digit) (aIo 0 (aCons false (eC (.int 2)) aNil)))) aNil))))
 (sRet (eTup (aCons false (eC (.str (Str.ofString "text"))) (aCons false (eM "str" joinD (eC (.str (Str.ofString ""))) (aCons false (eCompI (itO rng1D (aCons false (eV 3) aNil)) [7] false (gNm 7) (fun ρ => .ok true ρ) (e_law_leaf_1 F)) aNil)) aNil))))))
 sNext)
 (sSeq (sIf (bT (eBin false eqD (eV 1) (eC (.int 2))))
 (sSeq (sAsg 4 (eTup (aCons false (eCallIo 2 [(0, some 0)] (F .f_law_digit) (aIo 0 (aCons false (eC (.int 99)) aNil))) (aCons false (eCallIo 2 [(0, some 0)] (F .f_law_digit) (aIo 0 (aCons false (eC (.int 26)) aNil))) aNil))))
 (sRet (eChk (eTup (aCons false (eC (.str (Str.ofString "at"))) (aCons true (eV 4) (aCons false (eCallIo 2 [(0, some 0)] (F .f_law_pins) (aIo 0 (aCons false (eC (.int 2)) aNil))) aNil)))))))
 sNext)
 (sSeq (sIf (bT (eBin false eqD (eV 1) (eC (.int 3))))
 (sRet (eTup (aCons false (eC (.str (Str.ofString "lost"))) aNil)))
 sNext)
 (sSeq (sAsg 5 (eChk (eBin false ixD (eLst (aCons false (eC (.str (Str.ofString "sum"))) (aCons false (eC (.str (Str.ofString "count"))) (aCons false (eC (.str (Str.ofString "least"))) (aCons false (eC (.str (Str.ofString "greatest"))) aNil))))) (eCallIo 2 [(0, some 0)] (F .f_law_digit) (aIo 0 (aCons false (eC (.int 4)) aNil))))))
 (sSeq (sAsg 6 (eCallIo 1 [(0, some 0)] (F .f_law_area) (aIo 0 aNil)))
 (sRet (eChk (eTup (aCons true (eV 5) (aCons true (eV 6) (aCons false (eCallIo 2 [(0, some 0)] (F .f_law_pins) (aIo 0 (aCons false (eC (.int 4)) aNil))) aNil))))))))))))

@[irreducible] def e_law_formula_1 (F : Fn → List D → Res D) : Env → Res D :=
 (eCallIo 3 [(0, some 0), (2, some 2)] (F .f_law_formula) (aIo 0 (aCons false (eBin false subD (eV 1) (eC (.int 1))) (aIo 2 aNil))))
@[irreducible] def b_f_law_formula (F : Fn → List D → Res D) : Env → Out :=
 (sSeq (sAsg 3 (eCallIo 2 [(0, some 0)] (F .f_law_digit) (aIo 0 (aCons false (eC (.int 18)) aNil))))
 (sSeq (sAsg 4 (eChk (eBin false ixD (eLst (aCons false (eC (.int 0)) (aCons false (eC (.int 0)) (aCons false (eC (.int 0)) (aCons false (eC (.int 0)) (aCons false (eC (.int 0)) (aCons false (eC (.int 1)) (aCons false (eC (.int 1)) (aCons false (eC (.int 1)) (aCons false (eC (.int 2)) (aCons false (eC (.int 2)) (aCons false (eC (.int 2)) (aCons false (eC (.int 2)) (aCons false (eC (.int 2)) (aCons false (eC (.int 2)) (aCons false (eC (.int 2)) (aCons false (eC (.int 2)) (aCons false (eC (.int 2)) (aCons false (eC (.int 3)) aNil))))))))))))))))))) (eV 3))))
 (sSeq (sIf (bOr (bT (eBin false eqD (eV 1) (eC (.int 1)))) (bT (eBin false ltD (eBin false ixD (eV 2) (eC (.int 0))) (eV 4))))
 (sSeq (sAsg 3 (eBin false modD (eV 3) (eC (.int 5))))
 (sAsg 4 (eC (.int 0))))
 sNext)
 (sSeq (sSetL 2 (eChk (eBin false subD (eBin false ixD (eV 2) (eC (.int 0))) (eV 4))) (eC (.int 0)))
 (sSeq (sAsg 5 (eCompI (itO rng1D (aCons false (eV 4) aNil)) [8] false (gNm 8) (fun ρ => .ok true ρ) (e_law_formula_1 F)))
 (sSeq (sIf (bT (eBin false ltD (eV 3) (eC (.int 5))))
 (sRet (eCallIo 2 [(0, some 0)] (F .f_law_leaf) (aIo 0 (aCons false (eV 3) aNil))))
 sNext)
 (sSeq (sIf (bT (eBin false eqD (eV 3) (eC (.int 7))))
 (sSeq (sAsg 6 (eCallIo 1 [(0, some 0)] (F .f_law_area) (aIo 0 aNil)))
 (sRet (eChk (eTup (aCons false (eC (.str (Str.ofString "find"))) (aCons true (eBin false ixD (eV 5) (eC (.int 0))) (aCons true (eV 6) (aCons false (eCallIo 2 [(0, some 0)] (F .f_law_pins) (aIo 0 (aCons false (eC (.int 4)) aNil))) aNil))))))))
 sNext)
 (sSeq (sAsg 7 (eLst (aCons false (eC (.str (Str.ofString "minus"))) (aCons false (eC (.str (Str.ofString "not"))) (aCons false (eC (.str (Str.ofString "find"))) (aCons false (eC (.str (Str.ofString "+"))) (aCons false (eC (.str (Str.ofString "-"))) (aCons false (eC (.str (Str.ofString "*"))) (aCons false (eC (.str (Str.ofString "/"))) (aCons false (eC (.str (Str.ofString "&"))) (aCons false (eC (.str (Str.ofString "<"))) (aCons false (eC (.str (Str.ofString "="))) (aCons false (eC (.str (Str.ofString "rest"))) (aCons false (eC (.str (Str.ofString "else"))) (aCons false (eC (.str (Str.ofString "if"))) aNil)))))))))))))))
 (sRet (eBin false addD (eTup (aCons false (eBin false ixD (eV 7) (eBin false subD (eV 3) (eC (.int 5)))) aNil)) (eCb tupleD (aCons false (eV 5) aNil))))))))))))

@[irreducible] def b_f_law_kids (F : Fn → List D → Res D) : Env → Out :=
 (sSeq (sIf (bT (eBin false eqD (eBin false ixD (eV 0) (eC (.int 0))) (eC (.str (Str.ofString "find")))))
 (sRet (eLst (aCons false (eChk (eBin false ixD (eV 0) (eC (.int 1)))) aNil)))
 sNext)
 (sSeq (sIf (bT (eBin false inD (eBin false ixD (eV 0) (eC (.int 0))) (eLst (aCons false (eC (.str (Str.ofString "num"))) (aCons false (eC (.str (Str.ofString "text"))) (aCons false (eC (.str (Str.ofString "lost"))) (aCons false (eC (.str (Str.ofString "at"))) (aCons false (eC (.str (Str.ofString "sum"))) (aCons false (eC (.str (Str.ofString "count"))) (aCons false (eC (.str (Str.ofString "least"))) (aCons false (eC (.str (Str.ofString "greatest"))) aNil)))))))))))
 (sRet (eLst aNil))
 sNext)
 (sRet (eCb listD (aCons false (eSl (eV 0) (pSome (eC (.int 1))) pNone) aNil)))))

@[irreducible] def e_law_size_1 (F : Fn → List D → Res D) : Env → Res D :=
 (eCall 1 (F .f_law_size) (aCons false (eV 2) aNil))

@[irreducible] def e_law_size_2 (F : Fn → List D → Res D) : Env → Res D :=
 (eChk (eBin false ixD (eV 3) (eC (.int 0))))

@[irreducible] def e_law_size_3 (F : Fn → List D → Res D) : Env → Res D :=
 (eChk (eBin false ixD (eV 3) (eC (.int 1))))
@[irreducible] def b_f_law_size (F : Fn → List D → Res D) : Env → Out :=
 (sSeq (sAsg 1 (eComp (itE (eCall 1 (F .f_law_kids) (aCons false (eV 0) aNil))) [2] false (gNm 2) (fun ρ => .ok true ρ) (e_law_size_1 F)))
 (sRet (eTup (aCons false (eBin false addD (eC (.int 1)) (eCb sumD (aCons false (eComp (itE (eV 1)) [3] false (gNm 3) (fun ρ => .ok true ρ) (e_law_size_2 F)) aNil))) (aCons false (eBin false addD (eC (.int 1)) (eCb maxD (aCons false (eBin false addD (eComp (itE (eV 1)) [3] false (gNm 3) (fun ρ => .ok true ρ) (e_law_size_3 F)) (eLst (aCons false (eC (.int 0)) aNil))) aNil))) aNil)))))

@[irreducible] def l_law_named_1 (F : Fn → List D → Res D) : Env → Out :=
 (sDrop (eCallIo 2 [(1, some 1)] (F .f_law_named) (aCons false (eV 2) (aIo 1 aNil))))
@[irreducible] def b_f_law_named (F : Fn → List D → Res D) : Env → Out :=
 (sSeqR (sFor (itE (eCall 1 (F .f_law_kids) (aCons false (eV 0) aNil))) (gNm 2)
 (l_law_named_1 F))
 (sSeqR (sAsg 3 (eC .non))
 (sSeqR (sIf (bT (eBin false eqD (eBin false ixD (eV 0) (eC (.int 0))) (eC (.str (Str.ofString "find")))))
 (sAsg 3 (eChk (eBin false ixD (eV 0) (eC (.int 2)))))
 sNext)
 (sSeqR (sIf (bT (eBin false inD (eBin false ixD (eV 0) (eC (.int 0))) (eLst (aCons false (eC (.str (Str.ofString "at"))) (aCons false (eC (.str (Str.ofString "sum"))) (aCons false (eC (.str (Str.ofString "count"))) (aCons false (eC (.str (Str.ofString "least"))) (aCons false (eC (.str (Str.ofString "greatest"))) aNil))))))))
 (sAsg 3 (eChk (eBin false ixD (eV 0) (eC (.int 1)))))
 sNext)
 (sSeqR (sIf (bAnd (bT (eBin false notD (eV 3) (eC .non))) (bT (eBin false ninD (eV 3) (eV 1))))
 (sAppend 1 (eChk (eV 3)))
 sNext)
 (sRet (eV 1)))))))

@[irreducible] def l_law_1 (F : Fn → List D → Res D) : Env → Out :=
 (sSeq (sAsg 2 (eCallIo 3 [(0, none), (2, none)] (F .f_law_formula) (aNew (eCall 1 (F .f_law_own) (aCons false (eV 1) aNil)) (aCons false (eC (.int 12)) (aNew (eLst (aCons false (eC (.int 59)) aNil)) aNil)))))
 (sSeq (sAsg 3 (eCall 1 (F .f_law_size) (aCons false (eV 2) aNil)))
 (sSeq (sIf (bNot (bT (eCall 2 (F .f_law_same) (aCons false (eCall 1 (F .f_made_formula) (aCons false (eV 2) aNil)) (aCons false (eV 2) aNil)))))
 (sRet (eC (.bl false)))
 sNext)
 (sSeq (sAsg 4 (eLst (aCons false (eCall 1 (F .f_piece_many) (aCons false (eV 2) aNil)) (aCons false (eCall 1 (F .f_depth_of) (aCons false (eV 2) aNil)) aNil))))
 (sSeq (sIf (bOr (bNot (bT (eCall 1 (F .f_law_whole) (aCons false (eBin false ixD (eV 4) (eC (.int 0))) aNil)))) (bOr (bNot (bT (eCall 1 (F .f_law_whole) (aCons false (eBin false ixD (eV 4) (eC (.int 1))) aNil)))) (bT (eBin false neD (eV 4) (eCb listD (aCons false (eV 3) aNil))))))
 (sRet (eC (.bl false)))
 sNext)
 (sSeq (sAsg 5 (eCallIo 2 [(1, none)] (F .f_law_named) (aCons false (eV 2) (aNew (eLst aNil) aNil))))
 (sSeq (sAsg 6 (eCall 1 (F .f_named_in) (aCons false (eV 2) aNil)))
 (sSeq (sIf (bOr (bNot (bT (eCb isiD (aCons false (eV 6) (aCons false (eC (.ty "list")) aNil))))) (bNot (bT (eCall 2 (F .f_law_same) (aCons false (eCb tupleD (aCons false (eV 6) aNil)) (aCons false (eCb tupleD (aCons false (eV 5) aNil)) aNil))))))
 (sRet (eC (.bl false)))
 sNext)
 (sSeq (sAppend 6 (eTup (aCons false (eC (.int 0)) (aCons false (eC (.int 0)) aNil))))
 (sIf (bT (eBin false neD (eCall 1 (F .f_named_in) (aCons false (eV 2) aNil)) (eV 5)))
 (sRet (eC (.bl false)))
 sNext))))))))))
@[irreducible] def b_flaw (F : Fn → List D → Res D) : Env → Out :=
 (sSeq (sFor (itE (eBin false addD (eLst (aCons false (eC (.int 0)) aNil)) (eV 0))) (gNm 1)
 (l_law_1 F))
 (sRet (eC (.bl true))))

@[simp] theorem lit_0 : Str.ofString " " = ⟨#[32]⟩ := by decide +kernel
@[simp] theorem lit_1 : Str.ofString "~" = ⟨#[126]⟩ := by decide +kernel
@[simp] theorem lit_2 : Str.ofString "num" = ⟨#[110, 117, 109]⟩ := by decide +kernel
@[simp] theorem lit_3 : Str.ofString "text" = ⟨#[116, 101, 120, 116]⟩ := by decide +kernel
@[simp] theorem lit_4 : Str.ofString "lost" = ⟨#[108, 111, 115, 116]⟩ := by decide +kernel
@[simp] theorem lit_5 : Str.ofString "at" = ⟨#[97, 116]⟩ := by decide +kernel
@[simp] theorem lit_6 : Str.ofString "sum" = ⟨#[115, 117, 109]⟩ := by decide +kernel
@[simp] theorem lit_7 : Str.ofString "count" = ⟨#[99, 111, 117, 110, 116]⟩ := by decide +kernel
@[simp] theorem lit_8 : Str.ofString "least" = ⟨#[108, 101, 97, 115, 116]⟩ := by decide +kernel
@[simp] theorem lit_9 : Str.ofString "greatest" = ⟨#[103, 114, 101, 97, 116, 101, 115, 116]⟩ := by decide +kernel
@[simp] theorem lit_10 : Str.ofString "find" = ⟨#[102, 105, 110, 100]⟩ := by decide +kernel
@[simp] theorem lit_11 : Str.ofString "minus" = ⟨#[109, 105, 110, 117, 115]⟩ := by decide +kernel
@[simp] theorem lit_12 : Str.ofString "not" = ⟨#[110, 111, 116]⟩ := by decide +kernel
@[simp] theorem lit_13 : Str.ofString "+" = ⟨#[43]⟩ := by decide +kernel
@[simp] theorem lit_14 : Str.ofString "-" = ⟨#[45]⟩ := by decide +kernel
@[simp] theorem lit_15 : Str.ofString "*" = ⟨#[42]⟩ := by decide +kernel
@[simp] theorem lit_16 : Str.ofString "/" = ⟨#[47]⟩ := by decide +kernel
@[simp] theorem lit_17 : Str.ofString "&" = ⟨#[38]⟩ := by decide +kernel
@[simp] theorem lit_18 : Str.ofString "<" = ⟨#[60]⟩ := by decide +kernel
@[simp] theorem lit_19 : Str.ofString "=" = ⟨#[61]⟩ := by decide +kernel
@[simp] theorem lit_20 : Str.ofString "rest" = ⟨#[114, 101, 115, 116]⟩ := by decide +kernel
@[simp] theorem lit_21 : Str.ofString "else" = ⟨#[101, 108, 115, 101]⟩ := by decide +kernel
@[simp] theorem lit_22 : Str.ofString "if" = ⟨#[105, 102]⟩ := by decide +kernel
@[simp] theorem lit_23 : Str.ofString "ab zCZ019(),+-*/&<=:$'!~_{}@#" = ⟨#[97, 98, 32, 122, 67, 90, 48, 49, 57, 40, 41, 44, 43, 45, 42, 47, 38, 60, 61, 58, 36, 39, 33, 126, 95, 123, 125, 64, 35]⟩ := by decide +kernel
@[simp] theorem lit_24 : Str.ofString "" = ⟨#[]⟩ := by decide +kernel
def bodyOf (F : Fn → List D → Res D) : Fn → List D → Res D
  | .f_are_numbers => runF 1 [] (b_f_are_numbers F)
  | .f_are_pins => runF 0 [] (b_f_are_pins F)
  | .f_is_place => runF 0 [] (b_f_is_place F)
  | .f_is_area => runF 2 [] (b_f_is_area F)
  | .f_is_plain_text => runF 1 [] (b_f_is_plain_text F)
  | .f_parts_of => runF 2 [] (b_f_parts_of F)
  | .f_pieces_left => runF 2 [] (b_f_pieces_left F)
  | .f_made_formula => runF 0 [] (b_f_made_formula F)
  | .f_piece_many => runF 1 [] (b_f_piece_many F)
  | .f_depth_of => runF 1 [] (b_f_depth_of F)
  | .f_named_twice_in => runF 2 [] (b_f_named_twice_in F)
  | .f_named_in => runF 2 [] (b_f_named_in F)
  | .f_law_whole => runF 0 [] (b_f_law_whole F)
  | .f_law_same => runF 1 [] (b_f_law_same F)
  | .f_law_digit => runF 1 [0] (b_f_law_digit F)
  | .f_law_own => runF 3 [] (b_f_law_own F)
  | .f_law_area => runF 4 [0] (b_f_law_area F)
  | .f_law_pins => runF 1 [0] (b_f_law_pins F)
  | .f_law_leaf => runF 6 [0] (b_f_law_leaf F)
  | .f_law_formula => runF 6 [0, 2] (b_f_law_formula F)
  | .f_law_kids => runF 0 [] (b_f_law_kids F)
  | .f_law_size => runF 3 [] (b_f_law_size F)
  | .f_law_named => runF 2 [1] (b_f_law_named F)
  | .flaw => runF 6 [] (b_flaw F)
def tab : Nat → Fn → List D → Res D
  | 0 => fun _ _ => .bad
  | k + 1 => bodyOf (tab k)
theorem t_f_are_numbers (k : Nat) (ds : List D) : tab (k + 1) .f_are_numbers ds = runF 1 [] (b_f_are_numbers (tab k)) ds := rfl
theorem t_f_are_pins (k : Nat) (ds : List D) : tab (k + 1) .f_are_pins ds = runF 0 [] (b_f_are_pins (tab k)) ds := rfl
theorem t_f_is_place (k : Nat) (ds : List D) : tab (k + 1) .f_is_place ds = runF 0 [] (b_f_is_place (tab k)) ds := rfl
theorem t_f_is_area (k : Nat) (ds : List D) : tab (k + 1) .f_is_area ds = runF 2 [] (b_f_is_area (tab k)) ds := rfl
theorem t_f_is_plain_text (k : Nat) (ds : List D) : tab (k + 1) .f_is_plain_text ds = runF 1 [] (b_f_is_plain_text (tab k)) ds := rfl
theorem t_f_parts_of (k : Nat) (ds : List D) : tab (k + 1) .f_parts_of ds = runF 2 [] (b_f_parts_of (tab k)) ds := rfl
theorem t_f_pieces_left (k : Nat) (ds : List D) : tab (k + 1) .f_pieces_left ds = runF 2 [] (b_f_pieces_left (tab k)) ds := rfl
theorem t_f_made_formula (k : Nat) (ds : List D) : tab (k + 1) .f_made_formula ds = runF 0 [] (b_f_made_formula (tab k)) ds := rfl
theorem t_f_piece_many (k : Nat) (ds : List D) : tab (k + 1) .f_piece_many ds = runF 1 [] (b_f_piece_many (tab k)) ds := rfl
theorem t_f_depth_of (k : Nat) (ds : List D) : tab (k + 1) .f_depth_of ds = runF 1 [] (b_f_depth_of (tab k)) ds := rfl
theorem t_f_named_twice_in (k : Nat) (ds : List D) : tab (k + 1) .f_named_twice_in ds = runF 2 [] (b_f_named_twice_in (tab k)) ds := rfl
theorem t_f_named_in (k : Nat) (ds : List D) : tab (k + 1) .f_named_in ds = runF 2 [] (b_f_named_in (tab k)) ds := rfl
theorem t_f_law_whole (k : Nat) (ds : List D) : tab (k + 1) .f_law_whole ds = runF 0 [] (b_f_law_whole (tab k)) ds := rfl
theorem t_f_law_same (k : Nat) (ds : List D) : tab (k + 1) .f_law_same ds = runF 1 [] (b_f_law_same (tab k)) ds := rfl
theorem t_f_law_digit (k : Nat) (ds : List D) : tab (k + 1) .f_law_digit ds = runF 1 [0] (b_f_law_digit (tab k)) ds := rfl
theorem t_f_law_own (k : Nat) (ds : List D) : tab (k + 1) .f_law_own ds = runF 3 [] (b_f_law_own (tab k)) ds := rfl
theorem t_f_law_area (k : Nat) (ds : List D) : tab (k + 1) .f_law_area ds = runF 4 [0] (b_f_law_area (tab k)) ds := rfl
theorem t_f_law_pins (k : Nat) (ds : List D) : tab (k + 1) .f_law_pins ds = runF 1 [0] (b_f_law_pins (tab k)) ds := rfl
theorem t_f_law_leaf (k : Nat) (ds : List D) : tab (k + 1) .f_law_leaf ds = runF 6 [0] (b_f_law_leaf (tab k)) ds := rfl
theorem t_f_law_formula (k : Nat) (ds : List D) : tab (k + 1) .f_law_formula ds = runF 6 [0, 2] (b_f_law_formula (tab k)) ds := rfl
theorem t_f_law_kids (k : Nat) (ds : List D) : tab (k + 1) .f_law_kids ds = runF 0 [] (b_f_law_kids (tab k)) ds := rfl
theorem t_f_law_size (k : Nat) (ds : List D) : tab (k + 1) .f_law_size ds = runF 3 [] (b_f_law_size (tab k)) ds := rfl
theorem t_f_law_named (k : Nat) (ds : List D) : tab (k + 1) .f_law_named ds = runF 2 [1] (b_f_law_named (tab k)) ds := rfl
theorem t_flaw (k : Nat) (ds : List D) : tab (k + 1) .flaw ds = runF 6 [] (b_flaw (tab k)) ds := rfl
end Ol

namespace Ol
open PySem PySem.Spec PyProof.Rows L2
section
variable {P : Program} {w : World} {K : PySem.W.Frag} {mg : Str → Option Value} {base : Heap} {k : Nat}

structure Defs (P : Program) (w : World) (K : PySem.W.Frag) (mg : Str → Option Value) (base : Heap) (k : Nat) : Prop where
  d_are_numbers : Def P w K mg base k "are_numbers" ["thing", "many"] (spF K 2 [] true (tab k .f_are_numbers))
  d_are_pins : Def P w K mg base k "are_pins" ["thing", "many"] (spF K 2 [] true (tab k .f_are_pins))
  d_is_place : Def P w K mg base k "is_place" ["thing"] (spF K 1 [] true (tab k .f_is_place))
  d_is_area : Def P w K mg base k "is_area" ["thing"] (spF K 1 [] true (tab k .f_is_area))
  d_is_plain_text : Def P w K mg base k "is_plain_text" ["thing"] (spF K 1 [] true (tab k .f_is_plain_text))
  d_parts_of : Def P w K mg base k "parts_of" ["formula"] (spF K 1 [] true (tab k .f_parts_of))
  d_pieces_left : Def P w K mg base k "pieces_left" ["formula", "deep", "left"] (spF K 3 [] true (tab k .f_pieces_left))
  d_made_formula : Def P w K mg base k "made_formula" ["formula"] (spF K 1 [] true (tab k .f_made_formula))
  d_piece_many : Def P w K mg base k "piece_many" ["formula"] (spF K 1 [] true (tab k .f_piece_many))
  d_depth_of : Def P w K mg base k "depth_of" ["formula"] (spF K 1 [] true (tab k .f_depth_of))
  d_named_twice_in : Def P w K mg base k "named_twice_in" ["formula"] (spF K 1 [] true (tab k .f_named_twice_in))
  d_named_in : Def P w K mg base k "named_in" ["formula"] (spF K 1 [] true (tab k .f_named_in))
  d__law_whole : Def P w K mg base k "_law_whole" ["found"] (spF K 1 [] true (tab k .f_law_whole))
  d__law_same : Def P w K mg base k "_law_same" ["found", "due"] (spF K 2 [] true (tab k .f_law_same))
  d__law_digit : Def P w K mg base k "_law_digit" ["own", "many"] (spF K 2 [0] true (tab k .f_law_digit))
  d__law_own : Def P w K mg base k "_law_own" ["cell"] (spF K 1 [] true (tab k .f_law_own))
  d__law_area : Def P w K mg base k "_law_area" ["own"] (spF K 1 [0] true (tab k .f_law_area))
  d__law_pins : Def P w K mg base k "_law_pins" ["own", "many"] (spF K 2 [0] true (tab k .f_law_pins))
  d__law_leaf : Def P w K mg base k "_law_leaf" ["own", "kind"] (spF K 2 [0] true (tab k .f_law_leaf))
  d__law_formula : Def P w K mg base k "_law_formula" ["own", "deep", "room"] (spF K 3 [0, 2] true (tab k .f_law_formula))
  d__law_kids : Def P w K mg base k "_law_kids" ["formula"] (spF K 1 [] true (tab k .f_law_kids))
  d__law_size : Def P w K mg base k "_law_size" ["formula"] (spF K 1 [] true (tab k .f_law_size))
  d__law_named : Def P w K mg base k "_law_named" ["formula", "found"] (spR K 2 [1] 1 (tab k .f_law_named))
  d_law : Def P w K mg base k "law" ["script"] (spF K 1 [] true (tab k .flaw))
theorem defs0 (T : Txt K mg) : Defs P w K mg base 0 where
  d_are_numbers := def_none T.g_are_numbers T.f_are_numbers (fun _ _ _ _ _ _ us hl => match us, hl with | [_, _], _ => rfl) rfl
  d_are_pins := def_none T.g_are_pins T.f_are_pins (fun _ _ _ _ _ _ us hl => match us, hl with | [_, _], _ => rfl) rfl
  d_is_place := def_none T.g_is_place T.f_is_place (fun _ _ _ _ _ _ us hl => match us, hl with | [_], _ => rfl) rfl
  d_is_area := def_none T.g_is_area T.f_is_area (fun _ _ _ _ _ _ us hl => match us, hl with | [_], _ => rfl) rfl
  d_is_plain_text := def_none T.g_is_plain_text T.f_is_plain_text (fun _ _ _ _ _ _ us hl => match us, hl with | [_], _ => rfl) rfl
  d_parts_of := def_none T.g_parts_of T.f_parts_of (fun _ _ _ _ _ _ us hl => match us, hl with | [_], _ => rfl) rfl
  d_pieces_left := def_none T.g_pieces_left T.f_pieces_left (fun _ _ _ _ _ _ us hl => match us, hl with | [_, _, _], _ => rfl) rfl
  d_made_formula := def_none T.g_made_formula T.f_made_formula (fun _ _ _ _ _ _ us hl => match us, hl with | [_], _ => rfl) rfl
  d_piece_many := def_none T.g_piece_many T.f_piece_many (fun _ _ _ _ _ _ us hl => match us, hl with | [_], _ => rfl) rfl
  d_depth_of := def_none T.g_depth_of T.f_depth_of (fun _ _ _ _ _ _ us hl => match us, hl with | [_], _ => rfl) rfl
  d_named_twice_in := def_none T.g_named_twice_in T.f_named_twice_in (fun _ _ _ _ _ _ us hl => match us, hl with | [_], _ => rfl) rfl
  d_named_in := def_none T.g_named_in T.f_named_in (fun _ _ _ _ _ _ us hl => match us, hl with | [_], _ => rfl) rfl
  d__law_whole := def_none T.g__law_whole T.f__law_whole (fun _ _ _ _ _ _ us hl => match us, hl with | [_], _ => rfl) rfl
  d__law_same := def_none T.g__law_same T.f__law_same (fun _ _ _ _ _ _ us hl => match us, hl with | [_, _], _ => rfl) rfl
  d__law_digit := def_none T.g__law_digit T.f__law_digit (fun _ _ _ _ _ _ us hl => match us, hl with | [_, _], _ => rfl) rfl
  d__law_own := def_none T.g__law_own T.f__law_own (fun _ _ _ _ _ _ us hl => match us, hl with | [_], _ => rfl) rfl
  d__law_area := def_none T.g__law_area T.f__law_area (fun _ _ _ _ _ _ us hl => match us, hl with | [_], _ => rfl) rfl
  d__law_pins := def_none T.g__law_pins T.f__law_pins (fun _ _ _ _ _ _ us hl => match us, hl with | [_, _], _ => rfl) rfl
  d__law_leaf := def_none T.g__law_leaf T.f__law_leaf (fun _ _ _ _ _ _ us hl => match us, hl with | [_, _], _ => rfl) rfl
  d__law_formula := def_none T.g__law_formula T.f__law_formula (fun _ _ _ _ _ _ us hl => match us, hl with | [_, _, _], _ => rfl) rfl
  d__law_kids := def_none T.g__law_kids T.f__law_kids (fun _ _ _ _ _ _ us hl => match us, hl with | [_], _ => rfl) rfl
  d__law_size := def_none T.g__law_size T.f__law_size (fun _ _ _ _ _ _ us hl => match us, hl with | [_], _ => rfl) rfl
  d__law_named := def_noneR T.g__law_named T.f__law_named (fun _ _ _ _ _ _ us hl => match us, hl with | [_, _], _ => rfl) rfl
  d_law := def_none T.g_law T.f_law (fun _ _ _ _ _ _ us hl => match us, hl with | [_], _ => rfl) rfl
end
end Ol
namespace Ol
open PySem PySem.Spec PyProof.Rows L2
section
variable {P : Program} {w : World} {K : PySem.W.Frag} {mg : Str → Option Value} {base : Heap} {k : Nat}
theorem ok_are_numbers (T : Txt K mg) (Ds : Defs P w K mg base k) : Def P w K mg base (k + 1) "are_numbers" ["thing", "many"] (spF K 2 [] true (tab (k + 1) .f_are_numbers)) := by
  refine def_of T.g_are_numbers T.f_are_numbers sc_are_numbers (fun _ _ _ _ _ _ us hl => match us, hl with | [_, _], _ => rfl) (fun vs H Q E h => spF_len h) (fun cdv A outer s H vs Q E hrm h => ?_)
  refine ⟨_, (pss_cons (ps_if (PW.pt (pw_or (pt_not (pt_val (pe_callB (call_isiK (K := K)) (by rfl) T.n_isinstance (by decide +kernel) (pa_cons (pv 0) (pa_cons (pe_bltn (v := .ty "tuple") (u := .type "tuple") rfl T.n_tuple (by decide +kernel) (by rfl)) pa_nil))))) (pw_or1 (pt_cmpR (op_neU (K := K) hrm.units) (pe_callB (call_lenU (K := K)) (by rfl) T.n_len (by decide +kernel) (pa_cons (pv 0) pa_nil)) (pv 1) (nomark _)))))
 (pss_one (ps_ret pe_bl))
 pss_nil)
 (pss_one (ps_ret (pe_callB (call_allL (K := K)) (by rfl) T.n_all (by decide +kernel) (pa_cons (pe_lc (own := [("number", 2)]) (g := _) (tt := tYes) rfl sc_are_numbers.nd (pi_any (K := K) (pv 0)) (blkOk_by (N := N_are_numbers) (sc := defScope s_are_numbers) (by decide +kernel)) (fun _ _ _ _ _ => pg_name (i := 2) sc_are_numbers.nd rfl (Or.inl rfl)) (fun _ _ _ _ _ => pts_nil) (fun _ _ _ _ _ => (pe_and (pe_callB (call_isiK (K := K)) (by rfl) T.n_isinstance (by decide +kernel) (pa_cons (pv 2) (pa_cons (pe_bltn (v := .ty "int") (u := .type "int") rfl T.n_int (by decide +kernel) (by rfl)) pa_nil))) (pe_one (pe_not (pe_callB (call_isiK (K := K)) (by rfl) T.n_isinstance (by decide +kernel) (pa_cons (pv 2) (pa_cons (pe_bltn (v := .ty "bool") (u := .type "bool") rfl T.n_bool (by decide +kernel) (by rfl)) pa_nil)))))))) pa_nil))))), ?_⟩
  refine sim_def (c := ⟨K, (fun i => ([0, 0, 0] : List Nat).getD i 0), H, [], (fun k => match vs[k]? with | some (V.ref p) => p | _ => 0), true, [], fun _ => []⟩) (E := E) (body := b_f_are_numbers (tab k)) (n := 2) (m := 1) (io := []) ?_ rfl rfl ?_ ?_ ?_ rfl ?_ rfl rfl h
  · rw [b_f_are_numbers]
    exact (ss_seq (ss_if (st_or (st_not (st_tB (se_cb calls_isi (sa_cons (se_var 0) (sa_cons (se_c fun _ => .ty _) sa_nil (by rfl)) (by rfl))))) (st_test (se_op ops_ne (se_cb calls_len (sa_cons (se_var 0) sa_nil (by rfl))) (se_var 1) (by rfl))))
 (ss_ret se_bl)
 ss_next)
 (ss_ret (se_cb calls_all (sa_cons (se_comp (vs := [2]) (chk := false) (si_var 0) (by rfl) (sg_name 2) rfl (st_const (p := true)) (by rw [e_are_numbers_1]; exact (se_andV (se_cb calls_isi (sa_cons (se_var 2) (sa_cons (se_c fun _ => .ty _) sa_nil (by rfl)) (by rfl))) (se_notV (se_cb calls_isi (sa_cons (se_var 2) (sa_cons (se_c fun _ => .ty _) sa_nil (by rfl)) (by rfl)))))) (hioB (by rfl))) sa_nil (by rfl)))))
  · intro k p hk; cases hk
  · exact O_low (l := [0, 0, 0]) (n := 2) (io := []) rfl
  · exact O_two (l := [0, 0, 0]) (io := []) rfl
  · decide

theorem ok_are_pins (T : Txt K mg) (Ds : Defs P w K mg base k) : Def P w K mg base (k + 1) "are_pins" ["thing", "many"] (spF K 2 [] true (tab (k + 1) .f_are_pins)) := by
  refine def_of T.g_are_pins T.f_are_pins sc_are_pins (fun _ _ _ _ _ _ us hl => match us, hl with | [_, _], _ => rfl) (fun vs H Q E h => spF_len h) (fun cdv A outer s H vs Q E hrm h => ?_)
  refine ⟨_, (pss_one (ps_ret (pe_and (pe_dcall Ds.d_are_numbers hrm (by rfl) (passes_call (W := fun cls d _ H => E cls d H) (takes_of rfl rfl rfl rfl) fun _ _ _ _ h => h) (pa_cons (pv 0) (pa_cons (pv 1) pa_nil))) (pe_and (pe_cmpR op_geU (pe_callB (call_minU (K := K)) (by rfl) T.n_min (by decide +kernel) (pa_cons (pv 0) pa_nil)) pe_int (nomark _)) (pe_one (pe_cmpR op_leU (pe_callB (call_maxU (K := K)) (by rfl) T.n_max (by decide +kernel) (pa_cons (pv 0) pa_nil)) pe_int (nomark _))))))), ?_⟩
  refine sim_def (c := ⟨K, (fun i => ([0, 0] : List Nat).getD i 0), H, [], (fun k => match vs[k]? with | some (V.ref p) => p | _ => 0), true, [], fun _ => []⟩) (E := E) (body := b_f_are_pins (tab k)) (n := 2) (m := 0) (io := []) ?_ rfl rfl ?_ ?_ ?_ rfl ?_ rfl rfl h
  · rw [b_f_are_pins]
    exact (ss_ret (se_andV (se_call (sa_cons (se_var 0) (sa_cons (se_var 1) sa_nil (by rfl)) (by rfl))) (se_andV (se_op ops_ge (se_cb calls_min (sa_cons (se_var 0) sa_nil (by rfl))) se_int (by rfl)) (se_op ops_le (se_cb calls_max (sa_cons (se_var 0) sa_nil (by rfl))) se_int (by rfl)))))
  · intro k p hk; cases hk
  · exact O_low (l := [0, 0]) (n := 2) (io := []) rfl
  · exact O_two (l := [0, 0]) (io := []) rfl
  · decide

theorem ok_is_place (T : Txt K mg) (Ds : Defs P w K mg base k) : Def P w K mg base (k + 1) "is_place" ["thing"] (spF K 1 [] true (tab (k + 1) .f_is_place)) := by
  refine def_of T.g_is_place T.f_is_place sc_is_place (fun _ _ _ _ _ _ us hl => match us, hl with | [_], _ => rfl) (fun vs H Q E h => spF_len h) (fun cdv A outer s H vs Q E hrm h => ?_)
  refine ⟨_, (pss_one (ps_ret (pe_and (pe_dcall Ds.d_are_numbers hrm (by rfl) (passes_call (W := fun cls d _ H => E cls d H) (takes_of rfl rfl rfl rfl) fun _ _ _ _ h => h) (pa_cons (pv 0) (pa_cons pe_int pa_nil))) (pe_and (pe_chain op_leU op_ltU pe_int (pe_ix (ix_seqK (K := K)) (pv 0) pe_int (fun _ _ => rfl)) (pe_con T.c_ROWS (by rfl))) (pe_one (pe_chain op_leU op_ltU pe_int (pe_ix (ix_seqK (K := K)) (pv 0) pe_int (fun _ _ => rfl)) (pe_con T.c_COLUMNS (by rfl)))))))), ?_⟩
  refine sim_def (c := ⟨K, (fun i => ([0] : List Nat).getD i 0), H, [], (fun k => match vs[k]? with | some (V.ref p) => p | _ => 0), true, [], fun _ => []⟩) (E := E) (body := b_f_is_place (tab k)) (n := 1) (m := 0) (io := []) ?_ rfl rfl ?_ ?_ ?_ rfl ?_ rfl rfl h
  · rw [b_f_is_place]
    exact (ss_ret (se_andV (se_call (sa_cons (se_var 0) (sa_cons se_int sa_nil (by rfl)) (by rfl))) (se_andV (se_chain ops_le ops_lt se_int (se_op ops_ix (se_var 0) se_int (by rfl)) (se_c fun _ => .int _)) (se_chain ops_le ops_lt se_int (se_op ops_ix (se_var 0) se_int (by rfl)) (se_c fun _ => .int _)))))
  · intro k p hk; cases hk
  · exact O_low (l := [0]) (n := 1) (io := []) rfl
  · exact O_two (l := [0]) (io := []) rfl
  · decide

theorem ok_is_area (T : Txt K mg) (Ds : Defs P w K mg base k) : Def P w K mg base (k + 1) "is_area" ["thing"] (spF K 1 [] true (tab (k + 1) .f_is_area)) := by
  refine def_of T.g_is_area T.f_is_area sc_is_area (fun _ _ _ _ _ _ us hl => match us, hl with | [_], _ => rfl) (fun vs H Q E h => spF_len h) (fun cdv A outer s H vs Q E hrm h => ?_)
  refine ⟨_, (pss_cons (ps_if (PW.pt (pw_or (pt_not (pt_val (pe_dcall Ds.d_are_numbers hrm (by rfl) (passes_call (W := fun cls d _ H => E cls d H) (takes_of rfl rfl rfl rfl) fun _ _ _ _ h => h) (pa_cons (pv 0) (pa_cons pe_int pa_nil))))) (pw_or (pt_not (pt_val (pe_dcall Ds.d_is_place hrm (by rfl) (passes_call (W := fun cls d _ H => E cls d H) (takes_of rfl rfl rfl rfl) fun _ _ _ _ h => h) (pa_cons (pe_slice (sl_U (K := K)) (pv 0) po_none (po_some pe_int)) pa_nil)))) (pw_or1 (pt_not (pt_val (pe_dcall Ds.d_is_place hrm (by rfl) (passes_call (W := fun cls d _ H => E cls d H) (takes_of rfl rfl rfl rfl) fun _ _ _ _ h => h) (pa_cons (pe_slice (sl_U (K := K)) (pv 0) (po_some pe_int) po_none) pa_nil))))))))
 (pss_one (ps_ret pe_bl))
 pss_nil)
 (pss_cons (ps_set (i := 1) sc_is_area.nd rfl (Or.inl rfl) (pe_op (op_addU (K := K)) (pe_op op_sub (pe_ix (ix_seqK (K := K)) (pv 0) pe_int (fun _ _ => rfl)) (pe_ix (ix_seqK (K := K)) (pv 0) pe_int (fun _ _ => rfl))) pe_int))
 (pss_cons (ps_set (i := 2) sc_is_area.nd rfl (Or.inl rfl) (pe_op (op_addU (K := K)) (pe_op op_sub (pe_ix (ix_seqK (K := K)) (pv 0) pe_int (fun _ _ => rfl)) (pe_ix (ix_seqK (K := K)) (pv 0) pe_int (fun _ _ => rfl))) pe_int))
 (pss_one (ps_ret (pe_and (pe_cmpR op_gtU (pv 1) pe_int (nomark _)) (pe_and (pe_cmpR op_gtU (pv 2) pe_int (nomark _)) (pe_one (pe_cmpR op_leU (pe_op op_mulU (pv 1) (pv 2)) (pe_con T.c_MOST_PLACES (by rfl)) (nomark _)))))))))), ?_⟩
  refine sim_def (c := ⟨K, (fun i => ([0, 0, 0] : List Nat).getD i 0), H, [], (fun k => match vs[k]? with | some (V.ref p) => p | _ => 0), true, [], fun _ => []⟩) (E := E) (body := b_f_is_area (tab k)) (n := 1) (m := 2) (io := []) ?_ rfl rfl ?_ ?_ ?_ rfl ?_ rfl rfl h
  · rw [b_f_is_area]
    exact (ss_seq (ss_if (st_or (st_not (st_tB (se_call (sa_cons (se_var 0) (sa_cons se_int sa_nil (by rfl)) (by rfl))))) (st_or (st_not (st_tB (se_call (sa_cons (se_slice (se_var 0) so_none (so_some se_int)) sa_nil (by rfl))))) (st_not (st_tB (se_call (sa_cons (se_slice (se_var 0) (so_some se_int) so_none) sa_nil (by rfl)))))))
 (ss_ret se_bl)
 ss_next)
 (ss_seq (ss_asg 1 (se_op ops_add (se_op ops_sub (se_op ops_ix (se_var 0) se_int (by rfl)) (se_op ops_ix (se_var 0) se_int (by rfl)) (by rfl)) se_int (by rfl)))
 (ss_seq (ss_asg 2 (se_op ops_add (se_op ops_sub (se_op ops_ix (se_var 0) se_int (by rfl)) (se_op ops_ix (se_var 0) se_int (by rfl)) (by rfl)) se_int (by rfl)))
 (ss_ret (se_andV (se_op ops_gt (se_var 1) se_int (by rfl)) (se_andV (se_op ops_gt (se_var 2) se_int (by rfl)) (se_op ops_le (se_op ops_mul (se_var 1) (se_var 2) (by rfl)) (se_c fun _ => .int _) (by rfl))))))))
  · intro k p hk; cases hk
  · exact O_low (l := [0, 0, 0]) (n := 1) (io := []) rfl
  · exact O_two (l := [0, 0, 0]) (io := []) rfl
  · decide

theorem ok_is_plain_text (T : Txt K mg) (Ds : Defs P w K mg base k) : Def P w K mg base (k + 1) "is_plain_text" ["thing"] (spF K 1 [] true (tab (k + 1) .f_is_plain_text)) := by
  refine def_of T.g_is_plain_text T.f_is_plain_text sc_is_plain_text (fun _ _ _ _ _ _ us hl => match us, hl with | [_], _ => rfl) (fun vs H Q E h => spF_len h) (fun cdv A outer s H vs Q E hrm h => ?_)
  refine ⟨_, (pss_cons (ps_if (PW.pt (pw_or (pt_not (pt_val (pe_callB (call_isiK (K := K)) (by rfl) T.n_isinstance (by decide +kernel) (pa_cons (pv 0) (pa_cons (pe_bltn (v := .ty "str") (u := .type "str") rfl T.n_str (by decide +kernel) (by rfl)) pa_nil))))) (pw_or1 (pt_cmpR op_gtU (pe_callB (call_lenU (K := K)) (by rfl) T.n_len (by decide +kernel) (pa_cons (pv 0) pa_nil)) (pe_con T.c_MOST_SIGNS (by rfl)) (nomark _)))))
 (pss_one (ps_ret pe_bl))
 pss_nil)
 (pss_one (ps_ret (pe_callB (call_allL (K := K)) (by rfl) T.n_all (by decide +kernel) (pa_cons (pe_lc (own := [("sign", 1)]) (g := _) (tt := tYes) rfl sc_is_plain_text.nd (pi_any (K := K) (pv 0)) (blkOk_by (N := N_is_plain_text) (sc := defScope s_is_plain_text) (by decide +kernel)) (fun _ _ _ _ _ => pg_name (i := 1) sc_is_plain_text.nd rfl (Or.inl rfl)) (fun _ _ _ _ _ => pts_nil) (fun _ _ _ _ _ => (pe_and (pe_chain op_leU op_leU pe_str (pv 1) pe_str) (pe_and (pe_cmpR (op_neU (K := K) hrm.units) (pv 1) pe_str (nomark _)) (pe_one (pe_cmpR (op_neU (K := K) hrm.units) (pe_callB call_ordU (by rfl) T.n_ord (by decide +kernel) (pa_cons (pv 1) pa_nil)) pe_int (nomark _))))))) pa_nil))))), ?_⟩
  refine sim_def (c := ⟨K, (fun i => ([0, 0] : List Nat).getD i 0), H, [], (fun k => match vs[k]? with | some (V.ref p) => p | _ => 0), true, [], fun _ => []⟩) (E := E) (body := b_f_is_plain_text (tab k)) (n := 1) (m := 1) (io := []) ?_ rfl rfl ?_ ?_ ?_ rfl ?_ rfl rfl h
  · rw [b_f_is_plain_text]
    exact (ss_seq (ss_if (st_or (st_not (st_tB (se_cb calls_isi (sa_cons (se_var 0) (sa_cons (se_c fun _ => .ty _) sa_nil (by rfl)) (by rfl))))) (st_test (se_op ops_gt (se_cb calls_len (sa_cons (se_var 0) sa_nil (by rfl))) (se_c fun _ => .int _) (by rfl))))
 (ss_ret se_bl)
 ss_next)
 (ss_ret (se_cb calls_all (sa_cons (se_comp (vs := [1]) (chk := false) (si_var 0) (by rfl) (sg_name 1) rfl (st_const (p := true)) (by rw [e_is_plain_text_1]; exact (se_andV (se_chain ops_le ops_le se_str (se_var 1) se_str) (se_andV (se_op ops_ne (se_var 1) se_str (by rfl)) (se_op ops_ne (se_cb calls_ord (sa_cons (se_var 1) sa_nil (by rfl))) se_int (by rfl))))) (hioB (by rfl))) sa_nil (by rfl)))))
  · intro k p hk; cases hk
  · exact O_low (l := [0, 0]) (n := 1) (io := []) rfl
  · exact O_two (l := [0, 0]) (io := []) rfl
  · decide

theorem ok_parts_of (T : Txt K mg) (Ds : Defs P w K mg base k) : Def P w K mg base (k + 1) "parts_of" ["formula"] (spF K 1 [] true (tab (k + 1) .f_parts_of)) := by
  refine def_of T.g_parts_of T.f_parts_of sc_parts_of (fun _ _ _ _ _ _ us hl => match us, hl with | [_], _ => rfl) (fun vs H Q E h => spF_len h) (fun cdv A outer s H vs Q E hrm h => ?_)
  refine ⟨_, (pss_cons (ps_if (PW.pt (pw_or (pt_not (pt_val (pe_callB (call_isiK (K := K)) (by rfl) T.n_isinstance (by decide +kernel) (pa_cons (pv 0) (pa_cons (pe_bltn (v := .ty "tuple") (u := .type "tuple") rfl T.n_tuple (by decide +kernel) (by rfl)) pa_nil))))) (pw_or (pt_cmpR (op_eqU (K := K) hrm.units) (pe_callB (call_lenU (K := K)) (by rfl) T.n_len (by decide +kernel) (pa_cons (pv 0) pa_nil)) pe_int (nomark _)) (pw_or1 (pt_not (pt_val (pe_callB (call_isiK (K := K)) (by rfl) T.n_isinstance (by decide +kernel) (pa_cons (pe_ix (ix_seqK (K := K)) (pv 0) pe_int (fun _ _ => rfl)) (pa_cons (pe_bltn (v := .ty "str") (u := .type "str") rfl T.n_str (by decide +kernel) (by rfl)) pa_nil)))))))))
 (pss_one (ps_ret pe_non))
 pss_nil)
 (pss_cons (ps_set (i := 1) sc_parts_of.nd rfl (Or.inl rfl) (pe_ix (ix_seqK (K := K)) (pv 0) pe_int (fun _ _ => rfl)))
 (pss_cons (ps_set (i := 2) sc_parts_of.nd rfl (Or.inl rfl) pe_non)
 (pss_cons (ps_if (PW.pt (pw_and (pt_cmpR (op_eqU (K := K) hrm.units) (pv 1) pe_str (nomark _)) (pw_and (pt_val (pe_dcall Ds.d_are_numbers hrm (by rfl) (passes_call (W := fun cls d _ H => E cls d H) (takes_of rfl rfl rfl rfl) fun _ _ _ _ h => h) (pa_cons (pe_slice (sl_U (K := K)) (pv 0) (po_some pe_int) po_none) (pa_cons pe_int pa_nil)))) (pw_and1 (pt_chain op_leU op_leU pe_int (pe_ix (ix_seqK (K := K)) (pv 0) pe_int (fun _ _ => rfl)) (pe_con T.c_MOST_NUMBER (by rfl)))))))
 (pss_one (ps_set (i := 2) sc_parts_of.nd rfl (Or.inl rfl) (pe_tup pa_nil)))
 (pss_one (ps_if (PW.pt (pw_or (PW.pt (pw_and (pt_cmpR (op_eqU (K := K) hrm.units) (pv 1) pe_str (nomark _)) (pw_and (pt_cmpR (op_eqU (K := K) hrm.units) (pe_callB (call_lenU (K := K)) (by rfl) T.n_len (by decide +kernel) (pa_cons (pv 0) pa_nil)) pe_int (nomark _)) (pw_and1 (pt_val (pe_dcall Ds.d_is_plain_text hrm (by rfl) (passes_call (W := fun cls d _ H => E cls d H) (takes_of rfl rfl rfl rfl) fun _ _ _ _ h => h) (pa_cons (pe_ix (ix_seqK (K := K)) (pv 0) pe_int (fun _ _ => rfl)) pa_nil))))))) (pw_or1 (pt_cmpR (op_eqU (K := K) hrm.units) (pv 0) (pe_tup (pa_cons pe_str pa_nil)) (nomark _)))))
 (pss_one (ps_set (i := 2) sc_parts_of.nd rfl (Or.inl rfl) (pe_tup pa_nil)))
 (pss_one (ps_if (PW.pt (pw_and (pt_cmpR (op_eqU (K := K) hrm.units) (pv 1) pe_str (nomark _)) (pw_and (pt_cmpR (op_eqU (K := K) hrm.units) (pe_callB (call_lenU (K := K)) (by rfl) T.n_len (by decide +kernel) (pa_cons (pv 0) pa_nil)) pe_int (nomark _)) (pw_and (pt_val (pe_dcall Ds.d_is_place hrm (by rfl) (passes_call (W := fun cls d _ H => E cls d H) (takes_of rfl rfl rfl rfl) fun _ _ _ _ h => h) (pa_cons (pe_ix (ix_seqK (K := K)) (pv 0) pe_int (fun _ _ => rfl)) pa_nil))) (pw_and1 (pt_val (pe_dcall Ds.d_are_pins hrm (by rfl) (passes_call (W := fun cls d _ H => E cls d H) (takes_of rfl rfl rfl rfl) fun _ _ _ _ h => h) (pa_cons (pe_ix (ix_seqK (K := K)) (pv 0) pe_int (fun _ _ => rfl)) (pa_cons pe_int pa_nil)))))))))
 (pss_one (ps_set (i := 2) sc_parts_of.nd rfl (Or.inl rfl) (pe_tup pa_nil)))
 (pss_one (ps_if (PW.pt (pw_and (pt_cmpR (op_inU (K := K) (hu65 hrm)) (pv 1) (pe_con T.c_GATHERING (by rfl)) (by first | rfl | exact nomark _)) (pw_and (pt_cmpR (op_eqU (K := K) hrm.units) (pe_callB (call_lenU (K := K)) (by rfl) T.n_len (by decide +kernel) (pa_cons (pv 0) pa_nil)) pe_int (nomark _)) (pw_and (pt_val (pe_dcall Ds.d_is_area hrm (by rfl) (passes_call (W := fun cls d _ H => E cls d H) (takes_of rfl rfl rfl rfl) fun _ _ _ _ h => h) (pa_cons (pe_ix (ix_seqK (K := K)) (pv 0) pe_int (fun _ _ => rfl)) pa_nil))) (pw_and1 (pt_val (pe_dcall Ds.d_are_pins hrm (by rfl) (passes_call (W := fun cls d _ H => E cls d H) (takes_of rfl rfl rfl rfl) fun _ _ _ _ h => h) (pa_cons (pe_ix (ix_seqK (K := K)) (pv 0) pe_int (fun _ _ => rfl)) (pa_cons pe_int pa_nil)))))))))
 (pss_one (ps_set (i := 2) sc_parts_of.nd rfl (Or.inl rfl) (pe_tup pa_nil)))
 (pss_one (ps_if (PW.pt (pw_and (pt_cmpR (op_eqU (K := K) hrm.units) (pv 1) pe_str (nomark _)) (pw_and (pt_cmpR (op_eqU (K := K) hrm.units) (pe_callB (call_lenU (K := K)) (by rfl) T.n_len (by decide +kernel) (pa_cons (pv 0) pa_nil)) pe_int (nomark _)) (pw_and (pt_val (pe_dcall Ds.d_is_area hrm (by rfl) (passes_call (W := fun cls d _ H => E cls d H) (takes_of rfl rfl rfl rfl) fun _ _ _ _ h => h) (pa_cons (pe_ix (ix_seqK (K := K)) (pv 0) pe_int (fun _ _ => rfl)) pa_nil))) (pw_and1 (pt_val (pe_dcall Ds.d_are_pins hrm (by rfl) (passes_call (W := fun cls d _ H => E cls d H) (takes_of rfl rfl rfl rfl) fun _ _ _ _ h => h) (pa_cons (pe_ix (ix_seqK (K := K)) (pv 0) pe_int (fun _ _ => rfl)) (pa_cons pe_int pa_nil)))))))))
 (pss_one (ps_set (i := 2) sc_parts_of.nd rfl (Or.inl rfl) (pe_tup (pa_cons (pe_ix (ix_seqK (K := K)) (pv 0) pe_int (fun _ _ => rfl)) pa_nil))))
 (pss_one (ps_if (pt_cmpR (op_eqU (K := K) hrm.units) (pe_tup (pa_cons (pe_cmpR (op_inU (K := K) (hu65 hrm)) (pv 1) (pe_tup (pa_cons pe_str (pa_cons pe_str pa_nil))) (by first | rfl | exact nomark _)) (pa_cons (pe_callB (call_lenU (K := K)) (by rfl) T.n_len (by decide +kernel) (pa_cons (pv 0) pa_nil)) pa_nil))) (pe_tup (pa_cons pe_bl (pa_cons pe_int pa_nil))) (nomark _))
 (pss_one (ps_set (i := 2) sc_parts_of.nd rfl (Or.inl rfl) (pe_slice (sl_U (K := K)) (pv 0) (po_some pe_int) po_none)))
 (pss_one (ps_if (PW.pt (pw_or (pt_cmpR (op_eqU (K := K) hrm.units) (pe_tup (pa_cons (pe_cmpR (op_inU (K := K) (hu65 hrm)) (pv 1) (pe_con T.c_PAIRED (by rfl)) (by first | rfl | exact nomark _)) (pa_cons (pe_callB (call_lenU (K := K)) (by rfl) T.n_len (by decide +kernel) (pa_cons (pv 0) pa_nil)) pa_nil))) (pe_tup (pa_cons pe_bl (pa_cons pe_int pa_nil))) (nomark _)) (pw_or1 (pt_cmpR (op_eqU (K := K) hrm.units) (pe_tup (pa_cons (pv 1) (pa_cons (pe_callB (call_lenU (K := K)) (by rfl) T.n_len (by decide +kernel) (pa_cons (pv 0) pa_nil)) pa_nil))) (pe_tup (pa_cons pe_str (pa_cons pe_int pa_nil))) (nomark _)))))
 (pss_one (ps_set (i := 2) sc_parts_of.nd rfl (Or.inl rfl) (pe_slice (sl_U (K := K)) (pv 0) (po_some pe_int) po_none)))
 pss_nil)))))))))))))
 (pss_one (ps_ret (pv 2))))))), ?_⟩
  refine sim_def (c := ⟨K, (fun i => ([0, 0, 0] : List Nat).getD i 0), H, [], (fun k => match vs[k]? with | some (V.ref p) => p | _ => 0), true, [], fun _ => []⟩) (E := E) (body := b_f_parts_of (tab k)) (n := 1) (m := 2) (io := []) ?_ rfl rfl ?_ ?_ ?_ rfl ?_ rfl rfl h
  · rw [b_f_parts_of]
    exact (ss_seq (ss_if (st_or (st_not (st_tB (se_cb calls_isi (sa_cons (se_var 0) (sa_cons (se_c fun _ => .ty _) sa_nil (by rfl)) (by rfl))))) (st_or (st_test (se_op ops_eq (se_cb calls_len (sa_cons (se_var 0) sa_nil (by rfl))) se_int (by rfl))) (st_not (st_tB (se_cb calls_isi (sa_cons (se_op ops_ix (se_var 0) se_int (by rfl)) (sa_cons (se_c fun _ => .ty _) sa_nil (by rfl)) (by rfl)))))))
 (ss_ret se_non)
 ss_next)
 (ss_seq (ss_asg 1 (se_chk (se_op ops_ix (se_var 0) se_int (by rfl))))
 (ss_seq (ss_asg 2 se_non)
 (ss_seq (ss_if (st_and (st_test (se_op ops_eq (se_var 1) se_str (by rfl))) (st_and (st_tB (se_call (sa_cons (se_slice (se_var 0) (so_some se_int) so_none) (sa_cons se_int sa_nil (by rfl)) (by rfl)))) (st_test (se_chain ops_le ops_le se_int (se_op ops_ix (se_var 0) se_int (by rfl)) (se_c fun _ => .int _)))))
 (ss_asg 2 (se_tup sa_nil))
 (ss_if (st_or (st_and (st_test (se_op ops_eq (se_var 1) se_str (by rfl))) (st_and (st_test (se_op ops_eq (se_cb calls_len (sa_cons (se_var 0) sa_nil (by rfl))) se_int (by rfl))) (st_tB (se_call (sa_cons (se_op ops_ix (se_var 0) se_int (by rfl)) sa_nil (by rfl)))))) (st_test (se_op ops_eq (se_var 0) (se_tup (sa_cons se_str sa_nil (by rfl))) (by rfl))))
 (ss_asg 2 (se_tup sa_nil))
 (ss_if (st_and (st_test (se_op ops_eq (se_var 1) se_str (by rfl))) (st_and (st_test (se_op ops_eq (se_cb calls_len (sa_cons (se_var 0) sa_nil (by rfl))) se_int (by rfl))) (st_and (st_tB (se_call (sa_cons (se_op ops_ix (se_var 0) se_int (by rfl)) sa_nil (by rfl)))) (st_tB (se_call (sa_cons (se_op ops_ix (se_var 0) se_int (by rfl)) (sa_cons se_int sa_nil (by rfl)) (by rfl)))))))
 (ss_asg 2 (se_tup sa_nil))
 (ss_if (st_and (st_test (se_op ops_in (se_var 1) (se_c fun H => .tup (.inr ⟨rfl, T.t_GATHERING⟩) (.cons (.str _) (.cons (.str _) (.cons (.str _) (.cons (.str _) .nil))))) (by rfl))) (st_and (st_test (se_op ops_eq (se_cb calls_len (sa_cons (se_var 0) sa_nil (by rfl))) se_int (by rfl))) (st_and (st_tB (se_call (sa_cons (se_op ops_ix (se_var 0) se_int (by rfl)) sa_nil (by rfl)))) (st_tB (se_call (sa_cons (se_op ops_ix (se_var 0) se_int (by rfl)) (sa_cons se_int sa_nil (by rfl)) (by rfl)))))))
 (ss_asg 2 (se_tup sa_nil))
 (ss_if (st_and (st_test (se_op ops_eq (se_var 1) se_str (by rfl))) (st_and (st_test (se_op ops_eq (se_cb calls_len (sa_cons (se_var 0) sa_nil (by rfl))) se_int (by rfl))) (st_and (st_tB (se_call (sa_cons (se_op ops_ix (se_var 0) se_int (by rfl)) sa_nil (by rfl)))) (st_tB (se_call (sa_cons (se_op ops_ix (se_var 0) se_int (by rfl)) (sa_cons se_int sa_nil (by rfl)) (by rfl)))))))
 (ss_asg 2 (se_chk (se_tup (sa_cons (se_op ops_ix (se_var 0) se_int (by rfl)) sa_nil (by rfl)))))
 (ss_if (st_test (se_op ops_eq (se_tup (sa_cons (se_op ops_in (se_var 1) (se_tup (sa_cons se_str (sa_cons se_str sa_nil (by rfl)) (by rfl))) (by rfl)) (sa_cons (se_cb calls_len (sa_cons (se_var 0) sa_nil (by rfl))) sa_nil (by rfl)) (by rfl))) (se_tup (sa_cons se_bl (sa_cons se_int sa_nil (by rfl)) (by rfl))) (by rfl)))
 (ss_asg 2 (se_slice (se_var 0) (so_some se_int) so_none))
 (ss_if (st_or (st_test (se_op ops_eq (se_tup (sa_cons (se_op ops_in (se_var 1) (se_c fun H => .tup (.inr ⟨rfl, T.t_PAIRED⟩) (.cons (.str _) (.cons (.str _) (.cons (.str _) (.cons (.str _) (.cons (.str _) (.cons (.str _) (.cons (.str _) (.cons (.str _) (.cons (.str _) .nil)))))))))) (by rfl)) (sa_cons (se_cb calls_len (sa_cons (se_var 0) sa_nil (by rfl))) sa_nil (by rfl)) (by rfl))) (se_tup (sa_cons se_bl (sa_cons se_int sa_nil (by rfl)) (by rfl))) (by rfl))) (st_test (se_op ops_eq (se_tup (sa_cons (se_var 1) (sa_cons (se_cb calls_len (sa_cons (se_var 0) sa_nil (by rfl))) sa_nil (by rfl)) (by rfl))) (se_tup (sa_cons se_str (sa_cons se_int sa_nil (by rfl)) (by rfl))) (by rfl))))
 (ss_asg 2 (se_slice (se_var 0) (so_some se_int) so_none))
 ss_next)))))))
 (ss_ret (se_chk (se_var 2)))))))
  · intro k p hk; cases hk
  · exact O_low (l := [0, 0, 0]) (n := 1) (io := []) rfl
  · exact O_two (l := [0, 0, 0]) (io := []) rfl
  · decide

theorem ok_pieces_left (T : Txt K mg) (Ds : Defs P w K mg base k) : Def P w K mg base (k + 1) "pieces_left" ["formula", "deep", "left"] (spF K 3 [] true (tab (k + 1) .f_pieces_left)) := by
  refine def_of T.g_pieces_left T.f_pieces_left sc_pieces_left (fun _ _ _ _ _ _ us hl => match us, hl with | [_, _, _], _ => rfl) (fun vs H Q E h => spF_len h) (fun cdv A outer s H vs Q E hrm h => ?_)
  refine ⟨_, (pss_cons (ps_set (i := 3) sc_pieces_left.nd rfl (Or.inl rfl) (pe_dcall Ds.d_parts_of hrm (by rfl) (passes_call (W := fun cls d _ H => E cls d H) (takes_of rfl rfl rfl rfl) fun _ _ _ _ h => h) (pa_cons (pv 0) pa_nil)))
 (pss_cons (ps_if (PW.pt (pw_or (pt_cmpR op_isNo (pv 3) pe_non (nomark _)) (pw_or (pt_cmpR op_ltU (pv 1) pe_int (nomark _)) (pw_or1 (pt_cmpR op_ltU (pv 2) pe_int (nomark _))))))
 (pss_one (ps_ret (pe_un un_neg pe_int)))
 pss_nil)
 (pss_cons (ps_set (i := 2) sc_pieces_left.nd rfl (Or.inl rfl) (pe_op op_sub (pv 2) pe_int))
 (pss_cons (ps_for (passes_of rfl) rfl (pi_any (K := K) (pv 3)) (pg_name (i := 4) sc_pieces_left.nd rfl (Or.inl rfl))
 (pss_one (ps_if (pt_cmpR op_geU (pv 2) pe_int (nomark _))
 (pss_one (ps_set (i := 2) sc_pieces_left.nd rfl (Or.inl rfl) (pe_dcall Ds.d_pieces_left hrm (by rfl) (passes_call (W := fun cls d _ H => E cls d H) (takes_of rfl rfl rfl rfl) fun _ _ _ _ h => h) (pa_cons (pv 4) (pa_cons (pe_op op_sub (pv 1) pe_int) (pa_cons (pv 2) pa_nil))))))
 pss_nil)))
 (pss_one (ps_ret (pv 2))))))), ?_⟩
  refine sim_def (c := ⟨K, (fun i => ([0, 0, 0, 0, 0] : List Nat).getD i 0), H, [], (fun k => match vs[k]? with | some (V.ref p) => p | _ => 0), true, [], fun _ => []⟩) (E := E) (body := b_f_pieces_left (tab k)) (n := 3) (m := 2) (io := []) ?_ rfl rfl ?_ ?_ ?_ rfl ?_ rfl rfl h
  · rw [b_f_pieces_left]
    exact (ss_seq (ss_asg 3 (se_call (sa_cons (se_var 0) sa_nil (by rfl))))
 (ss_seq (ss_if (st_or (st_test (se_op ops_is (se_var 3) se_non (by rfl))) (st_or (st_test (se_op ops_lt (se_var 1) se_int (by rfl))) (st_test (se_op ops_lt (se_var 2) se_int (by rfl)))))
 (ss_ret (se_un uns_neg se_int))
 ss_next)
 (ss_seq (ss_asg 2 (se_op ops_sub (se_var 2) se_int (by rfl)))
 (ss_seq (ss_for (si_var 3) (sg_name 4)
 (by rw [l_pieces_left_1]; exact (ss_if (st_test (se_op ops_ge (se_var 2) se_int (by rfl)))
 (ss_asg 2 (se_call (sa_cons (se_var 4) (sa_cons (se_op ops_sub (se_var 1) se_int (by rfl)) (sa_cons (se_var 2) sa_nil (by rfl)) (by rfl)) (by rfl))))
 ss_next)))
 (ss_ret (se_chk (se_var 2)))))))
  · intro k p hk; cases hk
  · exact O_low (l := [0, 0, 0, 0, 0]) (n := 3) (io := []) rfl
  · exact O_two (l := [0, 0, 0, 0, 0]) (io := []) rfl
  · decide

theorem ok_made_formula (T : Txt K mg) (Ds : Defs P w K mg base k) : Def P w K mg base (k + 1) "made_formula" ["formula"] (spF K 1 [] true (tab (k + 1) .f_made_formula)) := by
  refine def_of T.g_made_formula T.f_made_formula sc_made_formula (fun _ _ _ _ _ _ us hl => match us, hl with | [_], _ => rfl) (fun vs H Q E h => spF_len h) (fun cdv A outer s H vs Q E hrm h => ?_)
  refine ⟨_, (pss_cons (ps_if (pt_cmpR op_ltU (pe_dcall Ds.d_pieces_left hrm (by rfl) (passes_call (W := fun cls d _ H => E cls d H) (takes_of rfl rfl rfl rfl) fun _ _ _ _ h => h) (pa_cons (pv 0) (pa_cons (pe_con T.c_MOST_DEEP (by rfl)) (pa_cons (pe_con T.c_MOST_PIECES (by rfl)) pa_nil)))) pe_int (nomark _))
 (pss_one (ps_raiseX (W := fun cls d _ H => E cls d H) rfl (takes_of rfl rfl rfl rfl) T.x_BadFormula (by rfl)))
 pss_nil)
 (pss_one (ps_ret (pv 0)))), ?_⟩
  refine sim_def (c := ⟨K, (fun i => ([0] : List Nat).getD i 0), H, [], (fun k => match vs[k]? with | some (V.ref p) => p | _ => 0), true, [], fun _ => []⟩) (E := E) (body := b_f_made_formula (tab k)) (n := 1) (m := 0) (io := []) ?_ rfl rfl ?_ ?_ ?_ rfl ?_ rfl rfl h
  · rw [b_f_made_formula]
    exact (ss_seq (ss_if (st_test (se_op ops_lt (se_call (sa_cons (se_var 0) (sa_cons (se_c fun _ => .int _) (sa_cons (se_c fun _ => .int _) sa_nil (by rfl)) (by rfl)) (by rfl))) se_int (by rfl)))
 ss_raise
 ss_next)
 (ss_ret (se_chk (se_var 0))))
  · intro k p hk; cases hk
  · exact O_low (l := [0]) (n := 1) (io := []) rfl
  · exact O_two (l := [0]) (io := []) rfl
  · decide

theorem ok_piece_many (T : Txt K mg) (Ds : Defs P w K mg base k) : Def P w K mg base (k + 1) "piece_many" ["formula"] (spF K 1 [] true (tab (k + 1) .f_piece_many)) := by
  refine def_of T.g_piece_many T.f_piece_many sc_piece_many (fun _ _ _ _ _ _ us hl => match us, hl with | [_], _ => rfl) (fun vs H Q E h => spF_len h) (fun cdv A outer s H vs Q E hrm h => ?_)
  refine ⟨_, (pss_one (ps_ret (pe_op (op_addU (K := K)) pe_int (pe_callB (call_sumL (K := K)) (by rfl) T.n_sum (by decide +kernel) (pa_cons (pe_lc (own := [("part", 1)]) (g := _) (tt := tYes) rfl sc_piece_many.nd (pi_any (K := K) (pe_dcall Ds.d_parts_of hrm (by rfl) (passes_call (W := fun cls d _ H => E cls d H) (takes_of rfl rfl rfl rfl) fun _ _ _ _ h => h) (pa_cons (pv 0) pa_nil))) (blkOk_by (N := N_piece_many) (sc := defScope s_piece_many) (by decide +kernel)) (fun _ _ _ _ _ => pg_name (i := 1) sc_piece_many.nd rfl (Or.inl rfl)) (fun _ _ _ _ _ => pts_nil) (fun _ _ _ _ _ => (pe_dcall Ds.d_piece_many hrm (by rfl) passL (pa_cons (pv 1) pa_nil)))) pa_nil))))), ?_⟩
  refine sim_def (c := ⟨K, (fun i => ([0, 0] : List Nat).getD i 0), H, [], (fun k => match vs[k]? with | some (V.ref p) => p | _ => 0), true, [], fun _ => []⟩) (E := E) (body := b_f_piece_many (tab k)) (n := 1) (m := 1) (io := []) ?_ rfl rfl ?_ ?_ ?_ rfl ?_ rfl rfl h
  · rw [b_f_piece_many]
    exact (ss_ret (se_op ops_add se_int (se_cb calls_sum (sa_cons (se_comp (vs := [1]) (chk := false) (si_new (se_call (sa_cons (se_var 0) sa_nil (by rfl)))) (by rfl) (sg_name 1) rfl (st_const (p := true)) (by rw [e_piece_many_1]; exact (se_call0 (sa_cons (se_var 1) sa_nil (by rfl)))) (hioB (by rfl))) sa_nil (by rfl))) (by rfl)))
  · intro k p hk; cases hk
  · exact O_low (l := [0, 0]) (n := 1) (io := []) rfl
  · exact O_two (l := [0, 0]) (io := []) rfl
  · decide

theorem ok_depth_of (T : Txt K mg) (Ds : Defs P w K mg base k) : Def P w K mg base (k + 1) "depth_of" ["formula"] (spF K 1 [] true (tab (k + 1) .f_depth_of)) := by
  refine def_of T.g_depth_of T.f_depth_of sc_depth_of (fun _ _ _ _ _ _ us hl => match us, hl with | [_], _ => rfl) (fun vs H Q E h => spF_len h) (fun cdv A outer s H vs Q E hrm h => ?_)
  refine ⟨_, (pss_one (ps_ret (pe_op (op_addU (K := K)) pe_int (pe_callBK (call_maxDf (K := K) (hu65 hrm)) (by rfl) T.n_max (by decide +kernel) (pa_cons (pe_lc (own := [("part", 1)]) (g := _) (tt := tYes) rfl sc_depth_of.nd (pi_any (K := K) (pe_dcall Ds.d_parts_of hrm (by rfl) (passes_call (W := fun cls d _ H => E cls d H) (takes_of rfl rfl rfl rfl) fun _ _ _ _ h => h) (pa_cons (pv 0) pa_nil))) (blkOk_by (N := N_depth_of) (sc := defScope s_depth_of) (by decide +kernel)) (fun _ _ _ _ _ => pg_name (i := 1) sc_depth_of.nd rfl (Or.inl rfl)) (fun _ _ _ _ _ => pts_nil) (fun _ _ _ _ _ => (pe_dcall Ds.d_depth_of hrm (by rfl) passL (pa_cons (pv 1) pa_nil)))) pa_nil) (pk_cons pe_int pk_nil))))), ?_⟩
  refine sim_def (c := ⟨K, (fun i => ([0, 0] : List Nat).getD i 0), H, [], (fun k => match vs[k]? with | some (V.ref p) => p | _ => 0), true, [], fun _ => []⟩) (E := E) (body := b_f_depth_of (tab k)) (n := 1) (m := 1) (io := []) ?_ rfl rfl ?_ ?_ ?_ rfl ?_ rfl rfl h
  · rw [b_f_depth_of]
    exact (ss_ret (se_op ops_add se_int (se_maxDf (sa_cons (se_comp (vs := [1]) (chk := false) (si_new (se_call (sa_cons (se_var 0) sa_nil (by rfl)))) (by rfl) (sg_name 1) rfl (st_const (p := true)) (by rw [e_depth_of_1]; exact (se_call0 (sa_cons (se_var 1) sa_nil (by rfl)))) (hioB (by rfl))) (sa_cons se_int sa_nil (by rfl)) (by rfl))) (by rfl)))
  · intro k p hk; cases hk
  · exact O_low (l := [0, 0]) (n := 1) (io := []) rfl
  · exact O_two (l := [0, 0]) (io := []) rfl
  · decide

theorem ok_named_twice_in (T : Txt K mg) (Ds : Defs P w K mg base k) : Def P w K mg base (k + 1) "named_twice_in" ["formula"] (spF K 1 [] true (tab (k + 1) .f_named_twice_in)) := by
  refine def_of T.g_named_twice_in T.f_named_twice_in sc_named_twice_in (fun _ _ _ _ _ _ us hl => match us, hl with | [_], _ => rfl) (fun vs H Q E h => spF_len h) (fun cdv A outer s H vs Q E hrm h => ?_)
  refine ⟨_, (pss_cons (ps_set (i := 1) sc_named_twice_in.nd rfl (Or.inl rfl) (pe_lst pa_nil))
 (pss_cons (ps_for (passes_of rfl) rfl (pi_any (K := K) (pe_dcall Ds.d_parts_of hrm (by rfl) (passes_call (W := fun cls d _ H => E cls d H) (takes_of rfl rfl rfl rfl) fun _ _ _ _ h => h) (pa_cons (pv 0) pa_nil))) (pg_name (i := 2) sc_named_twice_in.nd rfl (Or.inl rfl))
 (pss_one (ps_expr (pe_bmK (K := K) rfl PySem.F.plainAttrs_list PySem.F.slot_list_extend PySem.F.type_list_extend mt_extend (pv 1) (pa_cons (pe_dcall Ds.d_named_twice_in hrm (by rfl) (passes_call (W := fun cls d _ H => E cls d H) (takes_of rfl rfl rfl rfl) fun _ _ _ _ h => h) (pa_cons (pv 2) pa_nil)) pa_nil)))))
 (pss_cons (ps_if (pt_cmpR (op_eqU (K := K) hrm.units) (pe_ix (ix_seqK (K := K)) (pv 0) pe_int (fun _ _ => rfl)) pe_str (nomark _))
 (pss_one (ps_expr (pe_bmK (K := K) rfl PySem.F.plainAttrs_list PySem.F.slot_list_append PySem.F.type_list_append mt_append (pv 1) (pa_cons (pe_ix (ix_seqK (K := K)) (pv 0) pe_int (fun _ _ => rfl)) pa_nil))))
 (pss_one (ps_if (PW.pt (pw_or (pt_cmpR (op_eqU (K := K) hrm.units) (pe_ix (ix_seqK (K := K)) (pv 0) pe_int (fun _ _ => rfl)) pe_str (nomark _)) (pw_or1 (pt_cmpR (op_inU (K := K) (hu65 hrm)) (pe_ix (ix_seqK (K := K)) (pv 0) pe_int (fun _ _ => rfl)) (pe_con T.c_GATHERING (by rfl)) (by first | rfl | exact nomark _)))))
 (pss_one (ps_expr (pe_bmK (K := K) rfl PySem.F.plainAttrs_list PySem.F.slot_list_append PySem.F.type_list_append mt_append (pv 1) (pa_cons (pe_ix (ix_seqK (K := K)) (pv 0) pe_int (fun _ _ => rfl)) pa_nil))))
 pss_nil)))
 (pss_one (ps_ret (pv 1)))))), ?_⟩
  refine sim_def (c := ⟨K, (fun i => ([0, 1, 0] : List Nat).getD i 0), H, [], (fun k => match vs[k]? with | some (V.ref p) => p | _ => 0), true, [], fun _ => []⟩) (E := E) (body := b_f_named_twice_in (tab k)) (n := 1) (m := 2) (io := []) ?_ rfl rfl ?_ ?_ ?_ rfl ?_ rfl rfl h
  · rw [b_f_named_twice_in]
    exact (ss_seq (ss_asg 1 (se_lst sa_nil))
 (ss_seq (ss_for (si_new (se_call (sa_cons (se_var 0) sa_nil (by rfl)))) (sg_name 2)
 (by rw [l_named_twice_in_1]; exact (ss_extend 1 (se_call (sa_cons (se_var 2) sa_nil (by rfl))))))
 (ss_seq (ss_if (st_test (se_op ops_eq (se_op ops_ix (se_var 0) se_int (by rfl)) se_str (by rfl)))
 (ss_append 1 (se_chk (se_op ops_ix (se_var 0) se_int (by rfl))))
 (ss_if (st_or (st_test (se_op ops_eq (se_op ops_ix (se_var 0) se_int (by rfl)) se_str (by rfl))) (st_test (se_op ops_in (se_op ops_ix (se_var 0) se_int (by rfl)) (se_c fun H => .tup (.inr ⟨rfl, T.t_GATHERING⟩) (.cons (.str _) (.cons (.str _) (.cons (.str _) (.cons (.str _) .nil))))) (by rfl))))
 (ss_append 1 (se_chk (se_op ops_ix (se_var 0) se_int (by rfl))))
 ss_next))
 (ss_retO 1))))
  · intro k p hk; cases hk
  · exact O_low (l := [0, 1, 0]) (n := 1) (io := []) rfl
  · exact O_two (l := [0, 1, 0]) (io := []) rfl
  · decide

theorem ok_named_in (T : Txt K mg) (Ds : Defs P w K mg base k) : Def P w K mg base (k + 1) "named_in" ["formula"] (spF K 1 [] true (tab (k + 1) .f_named_in)) := by
  refine def_of T.g_named_in T.f_named_in sc_named_in (fun _ _ _ _ _ _ us hl => match us, hl with | [_], _ => rfl) (fun vs H Q E h => spF_len h) (fun cdv A outer s H vs Q E hrm h => ?_)
  refine ⟨_, (pss_cons (ps_set (i := 1) sc_named_in.nd rfl (Or.inl rfl) (pe_lst pa_nil))
 (pss_cons (ps_for (passes_of rfl) rfl (pi_any (K := K) (pe_dcall Ds.d_named_twice_in hrm (by rfl) (passes_call (W := fun cls d _ H => E cls d H) (takes_of rfl rfl rfl rfl) fun _ _ _ _ h => h) (pa_cons (pv 0) pa_nil))) (pg_name (i := 2) sc_named_in.nd rfl (Or.inl rfl))
 (pss_one (ps_if (pt_cmpR (op_ninU (K := K) (hu65 hrm)) (pv 2) (pv 1) (by first | rfl | exact nomark _))
 (pss_one (ps_expr (pe_bmK (K := K) rfl PySem.F.plainAttrs_list PySem.F.slot_list_append PySem.F.type_list_append mt_append (pv 1) (pa_cons (pv 2) pa_nil))))
 pss_nil)))
 (pss_one (ps_ret (pv 1))))), ?_⟩
  refine sim_def (c := ⟨K, (fun i => ([0, 1, 0] : List Nat).getD i 0), H, [], (fun k => match vs[k]? with | some (V.ref p) => p | _ => 0), true, [], fun _ => []⟩) (E := E) (body := b_f_named_in (tab k)) (n := 1) (m := 2) (io := []) ?_ rfl rfl ?_ ?_ ?_ rfl ?_ rfl rfl h
  · rw [b_f_named_in]
    exact (ss_seq (ss_asg 1 (se_lst sa_nil))
 (ss_seq (ss_for (si_new (se_call (sa_cons (se_var 0) sa_nil (by rfl)))) (sg_name 2)
 (by rw [l_named_in_1]; exact (ss_if (st_test (se_op ops_nin (se_var 2) (se_var 1) (by rfl)))
 (ss_append 1 (se_chk (se_var 2)))
 ss_next)))
 (ss_retO 1)))
  · intro k p hk; cases hk
  · exact O_low (l := [0, 1, 0]) (n := 1) (io := []) rfl
  · exact O_two (l := [0, 1, 0]) (io := []) rfl
  · decide

theorem ok__law_whole (T : Txt K mg) (Ds : Defs P w K mg base k) : Def P w K mg base (k + 1) "_law_whole" ["found"] (spF K 1 [] true (tab (k + 1) .f_law_whole)) := by
  refine def_of T.g__law_whole T.f__law_whole sc__law_whole (fun _ _ _ _ _ _ us hl => match us, hl with | [_], _ => rfl) (fun vs H Q E h => spF_len h) (fun cdv A outer s H vs Q E hrm h => ?_)
  refine ⟨_, (pss_one (ps_ret (pe_and (pe_callB (call_isiK (K := K)) (by rfl) T.n_isinstance (by decide +kernel) (pa_cons (pv 0) (pa_cons (pe_bltn (v := .ty "int") (u := .type "int") rfl T.n_int (by decide +kernel) (by rfl)) pa_nil))) (pe_one (pe_not (pe_callB (call_isiK (K := K)) (by rfl) T.n_isinstance (by decide +kernel) (pa_cons (pv 0) (pa_cons (pe_bltn (v := .ty "bool") (u := .type "bool") rfl T.n_bool (by decide +kernel) (by rfl)) pa_nil)))))))), ?_⟩
  refine sim_def (c := ⟨K, (fun i => ([0] : List Nat).getD i 0), H, [], (fun k => match vs[k]? with | some (V.ref p) => p | _ => 0), true, [], fun _ => []⟩) (E := E) (body := b_f_law_whole (tab k)) (n := 1) (m := 0) (io := []) ?_ rfl rfl ?_ ?_ ?_ rfl ?_ rfl rfl h
  · rw [b_f_law_whole]
    exact (ss_ret (se_andV (se_cb calls_isi (sa_cons (se_var 0) (sa_cons (se_c fun _ => .ty _) sa_nil (by rfl)) (by rfl))) (se_notV (se_cb calls_isi (sa_cons (se_var 0) (sa_cons (se_c fun _ => .ty _) sa_nil (by rfl)) (by rfl))))))
  · intro k p hk; cases hk
  · exact O_low (l := [0]) (n := 1) (io := []) rfl
  · exact O_two (l := [0]) (io := []) rfl
  · decide

theorem ok__law_same (T : Txt K mg) (Ds : Defs P w K mg base k) : Def P w K mg base (k + 1) "_law_same" ["found", "due"] (spF K 2 [] true (tab (k + 1) .f_law_same)) := by
  refine def_of T.g__law_same T.f__law_same sc__law_same (fun _ _ _ _ _ _ us hl => match us, hl with | [_, _], _ => rfl) (fun vs H Q E h => spF_len h) (fun cdv A outer s H vs Q E hrm h => ?_)
  refine ⟨_, (pss_cons (ps_if (pt_val (pe_callB (call_isiK (K := K)) (by rfl) T.n_isinstance (by decide +kernel) (pa_cons (pv 1) (pa_cons (pe_bltn (v := .ty "tuple") (u := .type "tuple") rfl T.n_tuple (by decide +kernel) (by rfl)) pa_nil))))
 (pss_cons (ps_if (PW.pt (pw_or (pt_not (pt_val (pe_callB (call_isiK (K := K)) (by rfl) T.n_isinstance (by decide +kernel) (pa_cons (pv 0) (pa_cons (pe_bltn (v := .ty "tuple") (u := .type "tuple") rfl T.n_tuple (by decide +kernel) (by rfl)) pa_nil))))) (pw_or1 (pt_cmpR (op_neU (K := K) hrm.units) (pe_callB (call_lenU (K := K)) (by rfl) T.n_len (by decide +kernel) (pa_cons (pv 0) pa_nil)) (pe_callB (call_lenU (K := K)) (by rfl) T.n_len (by decide +kernel) (pa_cons (pv 1) pa_nil)) (nomark _)))))
 (pss_one (ps_ret pe_bl))
 pss_nil)
 (pss_cons (ps_for (passes_of rfl) rfl (pi_range1 rfl T.n_range (pa_cons (pe_callB (call_lenU (K := K)) (by rfl) T.n_len (by decide +kernel) (pa_cons (pv 1) pa_nil)) pa_nil)) (pg_name (i := 2) sc__law_same.nd rfl (Or.inl rfl))
 (pss_one (ps_if (pt_not (pt_val (pe_dcall Ds.d__law_same hrm (by rfl) (passes_call (W := fun cls d _ H => E cls d H) (takes_of rfl rfl rfl rfl) fun _ _ _ _ h => h) (pa_cons (pe_ix (ix_seqK (K := K)) (pv 0) (pv 2) (fun _ _ => rfl)) (pa_cons (pe_ix (ix_seqK (K := K)) (pv 1) (pv 2) (fun _ _ => rfl)) pa_nil)))))
 (pss_one (ps_ret pe_bl))
 pss_nil)))
 (pss_one (ps_ret pe_bl))))
 pss_nil)
 (pss_cons (ps_if (pt_val (pe_callB (call_isiK (K := K)) (by rfl) T.n_isinstance (by decide +kernel) (pa_cons (pv 1) (pa_cons (pe_bltn (v := .ty "str") (u := .type "str") rfl T.n_str (by decide +kernel) (by rfl)) pa_nil))))
 (pss_one (ps_ret (pe_and (pe_callB (call_isiK (K := K)) (by rfl) T.n_isinstance (by decide +kernel) (pa_cons (pv 0) (pa_cons (pe_bltn (v := .ty "str") (u := .type "str") rfl T.n_str (by decide +kernel) (by rfl)) pa_nil))) (pe_one (pe_cmpR (op_eqU (K := K) hrm.units) (pv 0) (pv 1) (nomark _))))))
 pss_nil)
 (pss_one (ps_ret (pe_and (pe_callB (call_isiK (K := K)) (by rfl) T.n_isinstance (by decide +kernel) (pa_cons (pv 0) (pa_cons (pe_bltn (v := .ty "int") (u := .type "int") rfl T.n_int (by decide +kernel) (by rfl)) pa_nil))) (pe_and (pe_not (pe_callB (call_isiK (K := K)) (by rfl) T.n_isinstance (by decide +kernel) (pa_cons (pv 0) (pa_cons (pe_bltn (v := .ty "bool") (u := .type "bool") rfl T.n_bool (by decide +kernel) (by rfl)) pa_nil)))) (pe_one (pe_cmpR (op_eqU (K := K) hrm.units) (pv 0) (pv 1) (nomark _))))))))), ?_⟩
  refine sim_def (c := ⟨K, (fun i => ([0, 0, 0] : List Nat).getD i 0), H, [], (fun k => match vs[k]? with | some (V.ref p) => p | _ => 0), true, [], fun _ => []⟩) (E := E) (body := b_f_law_same (tab k)) (n := 2) (m := 1) (io := []) ?_ rfl rfl ?_ ?_ ?_ rfl ?_ rfl rfl h
  · rw [b_f_law_same]
    exact (ss_seq (ss_if (st_tB (se_cb calls_isi (sa_cons (se_var 1) (sa_cons (se_c fun _ => .ty _) sa_nil (by rfl)) (by rfl))))
 (ss_seq (ss_if (st_or (st_not (st_tB (se_cb calls_isi (sa_cons (se_var 0) (sa_cons (se_c fun _ => .ty _) sa_nil (by rfl)) (by rfl))))) (st_test (se_op ops_ne (se_cb calls_len (sa_cons (se_var 0) sa_nil (by rfl))) (se_cb calls_len (sa_cons (se_var 1) sa_nil (by rfl))) (by rfl))))
 (ss_ret se_bl)
 ss_next)
 (ss_seq (ss_for (si_rng1 (sa_cons (se_cb calls_len (sa_cons (se_var 1) sa_nil (by rfl))) sa_nil (by rfl))) (sg_name 2)
 (by rw [l_law_same_1]; exact (ss_if (st_not (st_tB (se_call (sa_cons (se_op ops_ix (se_var 0) (se_var 2) (by rfl)) (sa_cons (se_op ops_ix (se_var 1) (se_var 2) (by rfl)) sa_nil (by rfl)) (by rfl)))))
 (ss_ret se_bl)
 ss_next)))
 (ss_ret se_bl)))
 ss_next)
 (ss_seq (ss_if (st_tB (se_cb calls_isi (sa_cons (se_var 1) (sa_cons (se_c fun _ => .ty _) sa_nil (by rfl)) (by rfl))))
 (ss_ret (se_andV (se_cb calls_isi (sa_cons (se_var 0) (sa_cons (se_c fun _ => .ty _) sa_nil (by rfl)) (by rfl))) (se_op ops_eq (se_var 0) (se_var 1) (by rfl))))
 ss_next)
 (ss_ret (se_andV (se_cb calls_isi (sa_cons (se_var 0) (sa_cons (se_c fun _ => .ty _) sa_nil (by rfl)) (by rfl))) (se_andV (se_notV (se_cb calls_isi (sa_cons (se_var 0) (sa_cons (se_c fun _ => .ty _) sa_nil (by rfl)) (by rfl)))) (se_op ops_eq (se_var 0) (se_var 1) (by rfl)))))))
  · intro k p hk; cases hk
  · exact O_low (l := [0, 0, 0]) (n := 2) (io := []) rfl
  · exact O_two (l := [0, 0, 0]) (io := []) rfl
  · decide

theorem ok__law_digit (T : Txt K mg) (Ds : Defs P w K mg base k) : Def P w K mg base (k + 1) "_law_digit" ["own", "many"] (spF K 2 [0] true (tab (k + 1) .f_law_digit)) := by
  refine def_of T.g__law_digit T.f__law_digit sc__law_digit (fun _ _ _ _ _ _ us hl => match us, hl with | [_, _], _ => rfl) (fun vs H Q E h => spF_len h) (fun cdv A outer s H vs Q E hrm h => ?_)
  refine ⟨_, (pss_cons (ps_set (i := 2) sc__law_digit.nd rfl (Or.inl rfl) (pe_op op_modN (pe_ix (ix_seqK (K := K)) (pv 0) pe_int (fun _ _ => rfl)) (pv 1)))
 (pss_cons (ps_asg (pe_op op_fdivA (pe_ix (ix_seqK (K := K)) (pv 0) pe_int (fun _ _ => rfl)) (pv 1)) (pg_sub (pv 0) pe_int set_list))
 (pss_one (ps_ret (pv 2))))), ?_⟩
  refine sim_def (c := ⟨K, (fun i => ([2, 0, 0] : List Nat).getD i 0), H, [0], (fun k => match vs[k]? with | some (V.ref p) => p | _ => 0), true, [], fun _ => []⟩) (E := E) (body := b_f_law_digit (tab k)) (n := 2) (m := 1) (io := [0]) ?_ rfl rfl ?_ ?_ ?_ rfl ?_ rfl rfl h
  · rw [b_f_law_digit]
    exact (ss_seq (ss_asg 2 (se_op ops_mod (se_op ops_ix (se_var 0) se_int (by rfl)) (se_var 1) (by rfl)))
 (ss_seq (ss_setL 0 (se_chk (se_op ops_div (se_op ops_ix (se_var 0) se_int (by rfl)) (se_var 1) (by rfl))) se_int)
 (ss_ret (se_chk (se_var 2)))))
  · intro k p hk e; show (match vs[k]? with | some (V.ref p) => p | _ => 0) = p; rw [e]
  · exact O_low (l := [2, 0, 0]) (n := 2) (io := [0]) rfl
  · exact O_two (l := [2, 0, 0]) (io := [0]) rfl
  · decide

theorem ok__law_own (T : Txt K mg) (Ds : Defs P w K mg base k) : Def P w K mg base (k + 1) "_law_own" ["cell"] (spF K 1 [] true (tab (k + 1) .f_law_own)) := by
  refine def_of T.g__law_own T.f__law_own sc__law_own (fun _ _ _ _ _ _ us hl => match us, hl with | [_], _ => rfl) (fun vs H Q E h => spF_len h) (fun cdv A outer s H vs Q E hrm h => ?_)
  refine ⟨_, (pss_cons (ps_set (i := 0) sc__law_own.nd rfl (Or.inl rfl) (pe_callB call_absI (by rfl) T.n_abs (by decide +kernel) (pa_cons (pv 0) pa_nil)))
 (pss_cons (ps_if (pt_cmpR (op_eqU (K := K) hrm.units) (pe_op op_modN (pv 0) pe_int) pe_int (nomark _))
 (pss_one (ps_ret (pe_lst (pa_cons (pe_op op_fdivA (pv 0) pe_int) pa_nil))))
 pss_nil)
 (pss_cons (ps_set (i := 1) sc__law_own.nd rfl (Or.inl rfl) pe_int)
 (pss_cons (ps_set (i := 2) sc__law_own.nd rfl (Or.inl rfl) (pe_op (op_addU (K := K)) (pe_op op_modN (pe_op op_fdivA (pv 0) pe_int) pe_int) pe_int))
 (pss_cons (ps_for (passes_of rfl) rfl (pi_range1 rfl T.n_range (pa_cons pe_int pa_nil)) (pg_name (i := 3) sc__law_own.nd rfl (Or.inl rfl))
 (pss_cons (ps_set (i := 2) sc__law_own.nd rfl (Or.inl rfl) (pe_op op_modN (pe_op (op_addU (K := K)) (pe_op (op_addU (K := K)) (pe_op op_mulU (pv 2) (pv 2)) (pe_op op_mulU pe_int (pv 3))) pe_int) pe_int))
 (pss_one (ps_set (i := 1) sc__law_own.nd rfl (Or.inl rfl) (pe_op (op_addU (K := K)) (pe_op op_mulU (pv 1) pe_int) (pe_op op_fdivA (pe_op op_modN (pe_op op_mulU (pv 2) pe_int) pe_int) pe_int))))))
 (pss_one (ps_ret (pe_lst (pa_cons (pv 1) pa_nil))))))))), ?_⟩
  refine sim_def (c := ⟨K, (fun i => ([0, 0, 0, 0] : List Nat).getD i 0), H, [], (fun k => match vs[k]? with | some (V.ref p) => p | _ => 0), true, [], fun _ => []⟩) (E := E) (body := b_f_law_own (tab k)) (n := 1) (m := 3) (io := []) ?_ rfl rfl ?_ ?_ ?_ rfl ?_ rfl rfl h
  · rw [b_f_law_own]
    exact (ss_seq (ss_asg 0 (se_cb calls_abs (sa_cons (se_var 0) sa_nil (by rfl))))
 (ss_seq (ss_if (st_test (se_op ops_eq (se_op ops_mod (se_var 0) se_int (by rfl)) se_int (by rfl)))
 (ss_ret (se_lst (sa_cons (se_op ops_div (se_var 0) se_int (by rfl)) sa_nil (by rfl))))
 ss_next)
 (ss_seq (ss_asg 1 se_int)
 (ss_seq (ss_asg 2 (se_op ops_add (se_op ops_mod (se_op ops_div (se_var 0) se_int (by rfl)) se_int (by rfl)) se_int (by rfl)))
 (ss_seq (ss_for (si_rng1 (sa_cons se_int sa_nil (by rfl))) (sg_name 3)
 (by rw [l_law_own_1]; exact (ss_seq (ss_asg 2 (se_op ops_mod (se_op ops_add (se_op ops_add (se_op ops_mul (se_var 2) (se_var 2) (by rfl)) (se_op ops_mul se_int (se_var 3) (by rfl)) (by rfl)) se_int (by rfl)) se_int (by rfl)))
 (ss_asg 1 (se_op ops_add (se_op ops_mul (se_var 1) se_int (by rfl)) (se_op ops_div (se_op ops_mod (se_op ops_mul (se_var 2) se_int (by rfl)) se_int (by rfl)) se_int (by rfl)) (by rfl))))))
 (ss_ret (se_lst (sa_cons (se_chk (se_var 1)) sa_nil (by rfl)))))))))
  · intro k p hk; cases hk
  · exact O_low (l := [0, 0, 0, 0]) (n := 1) (io := []) rfl
  · exact O_two (l := [0, 0, 0, 0]) (io := []) rfl
  · decide

theorem ok__law_area (T : Txt K mg) (Ds : Defs P w K mg base k) : Def P w K mg base (k + 1) "_law_area" ["own"] (spF K 1 [0] true (tab (k + 1) .f_law_area)) := by
  refine def_of T.g__law_area T.f__law_area sc__law_area (fun _ _ _ _ _ _ us hl => match us, hl with | [_], _ => rfl) (fun vs H Q E h => spF_len h) (fun cdv A outer s H vs Q E hrm h => ?_)
  refine ⟨_, (pss_cons (ps_set (i := 1) sc__law_area.nd rfl (Or.inl rfl) (pe_dcall Ds.d__law_digit hrm (by rfl) (passes_call (W := fun cls d _ H => E cls d H) (takes_of rfl rfl rfl rfl) fun _ _ _ _ h => h) (pa_cons (pv 0) (pa_cons pe_int pa_nil))))
 (pss_cons (ps_set (i := 2) sc__law_area.nd rfl (Or.inl rfl) (pe_dcall Ds.d__law_digit hrm (by rfl) (passes_call (W := fun cls d _ H => E cls d H) (takes_of rfl rfl rfl rfl) fun _ _ _ _ h => h) (pa_cons (pv 0) (pa_cons pe_int pa_nil))))
 (pss_cons (ps_set (i := 3) sc__law_area.nd rfl (Or.inl rfl) (pe_op (op_addU (K := K)) pe_int (pe_dcall Ds.d__law_digit hrm (by rfl) (passes_call (W := fun cls d _ H => E cls d H) (takes_of rfl rfl rfl rfl) fun _ _ _ _ h => h) (pa_cons (pv 0) (pa_cons (pe_op op_sub pe_int (pv 1)) pa_nil)))))
 (pss_cons (ps_set (i := 4) sc__law_area.nd rfl (Or.inl rfl) (pe_op (op_addU (K := K)) pe_int (pe_dcall Ds.d__law_digit hrm (by rfl) (passes_call (W := fun cls d _ H => E cls d H) (takes_of rfl rfl rfl rfl) fun _ _ _ _ h => h) (pa_cons (pv 0) (pa_cons (pe_callB (call_minU (K := K)) (by rfl) T.n_min (by decide +kernel) (pa_cons (pe_op op_sub pe_int (pv 2)) (pa_cons (pe_op op_fdivA pe_int (pv 3)) pa_nil))) pa_nil)))))
 (pss_one (ps_ret (pe_tup (pa_cons (pv 1) (pa_cons (pv 2) (pa_cons (pe_op op_sub (pe_op (op_addU (K := K)) (pv 1) (pv 3)) pe_int) (pa_cons (pe_op op_sub (pe_op (op_addU (K := K)) (pv 2) (pv 4)) pe_int) pa_nil))))))))))), ?_⟩
  refine sim_def (c := ⟨K, (fun i => ([2, 0, 0, 0, 0] : List Nat).getD i 0), H, [0], (fun k => match vs[k]? with | some (V.ref p) => p | _ => 0), true, [], fun _ => []⟩) (E := E) (body := b_f_law_area (tab k)) (n := 1) (m := 4) (io := [0]) ?_ rfl rfl ?_ ?_ ?_ rfl ?_ rfl rfl h
  · rw [b_f_law_area]
    exact (ss_seq (ss_asg 1 (se_callIo (io := [(0, some 0)]) (sax_io 0 (sax_cons se_int sax_nil (by rfl))) (by rfl) (by rfl)))
 (ss_seq (ss_asg 2 (se_callIo (io := [(0, some 0)]) (sax_io 0 (sax_cons se_int sax_nil (by rfl))) (by rfl) (by rfl)))
 (ss_seq (ss_asg 3 (se_opF ops_add se_int (se_callIo (io := [(0, some 0)]) (sax_io 0 (sax_cons (se_op ops_sub se_int (se_var 1) (by rfl)) sax_nil (by rfl))) (by rfl) (by rfl))))
 (ss_seq (ss_asg 4 (se_opF ops_add se_int (se_callIo (io := [(0, some 0)]) (sax_io 0 (sax_cons (se_cb calls_min (sa_cons (se_op ops_sub se_int (se_var 2) (by rfl)) (sa_cons (se_op ops_div se_int (se_var 3) (by rfl)) sa_nil (by rfl)) (by rfl))) sax_nil (by rfl))) (by rfl) (by rfl))))
 (ss_ret (se_chk (se_tup (sa_cons (se_var 1) (sa_cons (se_var 2) (sa_cons (se_op ops_sub (se_op ops_add (se_var 1) (se_var 3) (by rfl)) se_int (by rfl)) (sa_cons (se_op ops_sub (se_op ops_add (se_var 2) (se_var 4) (by rfl)) se_int (by rfl)) sa_nil (by rfl)) (by rfl)) (by rfl)) (by rfl)))))))))
  · intro k p hk e; show (match vs[k]? with | some (V.ref p) => p | _ => 0) = p; rw [e]
  · exact O_low (l := [2, 0, 0, 0, 0]) (n := 1) (io := [0]) rfl
  · exact O_two (l := [2, 0, 0, 0, 0]) (io := [0]) rfl
  · decide

theorem ok__law_pins (T : Txt K mg) (Ds : Defs P w K mg base k) : Def P w K mg base (k + 1) "_law_pins" ["own", "many"] (spF K 2 [0] true (tab (k + 1) .f_law_pins)) := by
  refine def_of T.g__law_pins T.f__law_pins sc__law_pins (fun _ _ _ _ _ _ us hl => match us, hl with | [_, _], _ => rfl) (fun vs H Q E h => spF_len h) (fun cdv A outer s H vs Q E hrm h => ?_)
  refine ⟨_, (pss_one (ps_ret (pe_callTy (call_tupleU (K := K)) (by rfl) T.n_tuple (by decide +kernel) (pa_cons (pe_lc (own := [("k", 2)]) (g := _) (tt := tYes) rfl sc__law_pins.nd (pi_range1 rfl T.n_range (pa_cons (pv 1) pa_nil)) (blkOk_by (N := N__law_pins) (sc := defScope s__law_pins) (by decide +kernel)) (fun _ _ _ _ _ => pg_name (i := 2) sc__law_pins.nd rfl (Or.inl rfl)) (fun _ _ _ _ _ => pts_nil) (fun _ _ _ _ _ => (pe_dcall Ds.d__law_digit hrm (by rfl) passL (pa_cons (pv 0) (pa_cons pe_int pa_nil))))) pa_nil)))), ?_⟩
  refine sim_def (c := ⟨K, (fun i => ([2, 0, 0] : List Nat).getD i 0), H, [0], (fun k => match vs[k]? with | some (V.ref p) => p | _ => 0), true, [], fun _ => []⟩) (E := E) (body := b_f_law_pins (tab k)) (n := 2) (m := 1) (io := [0]) ?_ rfl rfl ?_ ?_ ?_ rfl ?_ rfl rfl h
  · rw [b_f_law_pins]
    exact (ss_ret (se_cb calls_tuple (sa_cons (se_compI (vs := [2]) (chk := false) (si_rng1 (sa_cons (se_var 1) sa_nil (by rfl))) (sg_name 2) rfl (st_const (p := true)) (by rw [e_law_pins_1]; exact (se_callIo0 (io := [(0, some 0)]) (sax_io 0 (sax_cons se_int sax_nil (by rfl))) (by rfl) (by rfl))) (by rfl)) sa_nil (by rfl))))
  · intro k p hk e; show (match vs[k]? with | some (V.ref p) => p | _ => 0) = p; rw [e]
  · exact O_low (l := [2, 0, 0]) (n := 2) (io := [0]) rfl
  · exact O_two (l := [2, 0, 0]) (io := [0]) rfl
  · decide

theorem ok__law_leaf (T : Txt K mg) (Ds : Defs P w K mg base k) : Def P w K mg base (k + 1) "_law_leaf" ["own", "kind"] (spF K 2 [0] true (tab (k + 1) .f_law_leaf)) := by
  refine def_of T.g__law_leaf T.f__law_leaf sc__law_leaf (fun _ _ _ _ _ _ us hl => match us, hl with | [_, _], _ => rfl) (fun vs H Q E h => spF_len h) (fun cdv A outer s H vs Q E hrm h => ?_)
  refine ⟨_, (pss_cons (ps_if (pt_cmpR (op_eqU (K := K) hrm.units) (pv 1) pe_int (nomark _))
 (pss_one (ps_ret (pe_tup (pa_cons pe_str (pa_cons (pe_dcall Ds.d__law_digit hrm (by rfl) (passes_call (W := fun cls d _ H => E cls d H) (takes_of rfl rfl rfl rfl) fun _ _ _ _ h => h) (pa_cons (pv 0) (pa_cons (pe_ix (ix_seqK (K := K)) (pe_lst (pa_cons pe_int (pa_cons pe_int (pa_cons (pe_op (op_addU (K := K)) (pe_op op_pow pe_int pe_int) pe_int) pa_nil)))) (pe_dcall Ds.d__law_digit hrm (by rfl) (passes_call (W := fun cls d _ H => E cls d H) (takes_of rfl rfl rfl rfl) fun _ _ _ _ h => h) (pa_cons (pv 0) (pa_cons pe_int pa_nil))) (fun _ _ => rfl)) pa_nil))) pa_nil)))))
 pss_nil)
 (pss_cons (ps_if (pt_cmpR (op_eqU (K := K) hrm.units) (pv 1) pe_int (nomark _))
 (pss_cons (ps_set (i := 2) sc__law_leaf.nd rfl (Or.inr rfl) pe_str)
 (pss_cons (ps_set (i := 3) sc__law_leaf.nd rfl (Or.inl rfl) (pe_dcall Ds.d__law_digit hrm (by rfl) (passes_call (W := fun cls d _ H => E cls d H) (takes_of rfl rfl rfl rfl) fun _ _ _ _ h => h) (pa_cons (pv 0) (pa_cons (pe_ix (ix_seqK (K := K)) (pe_lst (pa_cons pe_int (pa_cons pe_int pa_nil))) (pe_dcall Ds.d__law_digit hrm (by rfl) (passes_call (W := fun cls d _ H => E cls d H) (takes_of rfl rfl rfl rfl) fun _ _ _ _ h => h) (pa_cons (pv 0) (pa_cons pe_int pa_nil))) (fun _ _ => rfl)) pa_nil))))
 (pss_one (ps_ret (pe_tup (pa_cons pe_str (pa_cons (pe_bmK (K := K) rfl PySem.F.plainAttrs_str PySem.F.slot_str_join PySem.F.type_str_join (mt_joinU (K := K)) pe_str (pa_cons (pe_lc (own := [("k", 7)]) (g := _) (tt := tYes) rfl sc__law_leaf.nd (pi_range1 rfl T.n_range (pa_cons (pv 3) pa_nil)) (blkOk_by (N := N__law_leaf) (sc := defScope s__law_leaf) (by decide +kernel)) (fun _ _ _ _ _ => pg_name (i := 7) sc__law_leaf.nd rfl (Or.inl rfl)) (fun _ _ _ _ _ => pts_nil) (fun _ _ _ _ _ => (pe_ix (ix_seqK (K := K)) (pv 2) (pe_dcall Ds.d__law_digit hrm (by rfl) passL (pa_cons (pv 0) (pa_cons (pe_callB (call_lenU (K := K)) (by rfl) T.n_len (by decide +kernel) (pa_cons (pv 2) pa_nil)) pa_nil))) (fun _ _ => rfl)))) pa_nil)) pa_nil)))))))
 pss_nil)
 (pss_cons (ps_if (pt_cmpR (op_eqU (K := K) hrm.units) (pv 1) pe_int (nomark _))
 (pss_cons (ps_set (i := 4) sc__law_leaf.nd rfl (Or.inl rfl) (pe_tup (pa_cons (pe_dcall Ds.d__law_digit hrm (by rfl) (passes_call (W := fun cls d _ H => E cls d H) (takes_of rfl rfl rfl rfl) fun _ _ _ _ h => h) (pa_cons (pv 0) (pa_cons pe_int pa_nil))) (pa_cons (pe_dcall Ds.d__law_digit hrm (by rfl) (passes_call (W := fun cls d _ H => E cls d H) (takes_of rfl rfl rfl rfl) fun _ _ _ _ h => h) (pa_cons (pv 0) (pa_cons pe_int pa_nil))) pa_nil))))
 (pss_one (ps_ret (pe_tup (pa_cons pe_str (pa_cons (pv 4) (pa_cons (pe_dcall Ds.d__law_pins hrm (by rfl) (passes_call (W := fun cls d _ H => E cls d H) (takes_of rfl rfl rfl rfl) fun _ _ _ _ h => h) (pa_cons (pv 0) (pa_cons pe_int pa_nil))) pa_nil)))))))
 pss_nil)
 (pss_cons (ps_if (pt_cmpR (op_eqU (K := K) hrm.units) (pv 1) pe_int (nomark _))
 (pss_one (ps_ret (pe_tup (pa_cons pe_str pa_nil))))
 pss_nil)
 (pss_cons (ps_set (i := 5) sc__law_leaf.nd rfl (Or.inl rfl) (pe_ix (ix_seqK (K := K)) (pe_lst (pa_cons pe_str (pa_cons pe_str (pa_cons pe_str (pa_cons pe_str pa_nil))))) (pe_dcall Ds.d__law_digit hrm (by rfl) (passes_call (W := fun cls d _ H => E cls d H) (takes_of rfl rfl rfl rfl) fun _ _ _ _ h => h) (pa_cons (pv 0) (pa_cons pe_int pa_nil))) (fun _ _ => rfl)))
 (pss_cons (ps_set (i := 6) sc__law_leaf.nd rfl (Or.inl rfl) (pe_dcall Ds.d__law_area hrm (by rfl) (passes_call (W := fun cls d _ H => E cls d H) (takes_of rfl rfl rfl rfl) fun _ _ _ _ h => h) (pa_cons (pv 0) pa_nil)))
 (pss_one (ps_ret (pe_tup (pa_cons (pv 5) (pa_cons (pv 6) (pa_cons (pe_dcall Ds.d__law_pins hrm (by rfl) (passes_call (W := fun cls d _ H => E cls d H) (takes_of rfl rfl rfl rfl) fun _ _ _ _ h => h) (pa_cons (pv 0) (pa_cons pe_int pa_nil))) pa_nil)))))))))))), ?_⟩
  refine sim_def (c := ⟨K, (fun i => ([2, 0, 0, 0, 0, 0, 0, 0] : List Nat).getD i 0), H, [0], (fun k => match vs[k]? with | some (V.ref p) => p | _ => 0), true, [], fun _ => []⟩) (E := E) (body := b_f_law_leaf (tab k)) (n := 2) (m := 6) (io := [0]) ?_ rfl rfl ?_ ?_ ?_ rfl ?_ rfl rfl h
  · rw [b_f_law_leaf]
    exact (ss_seq (ss_if (st_test (se_op ops_eq (se_var 1) se_int (by rfl)))
 (ss_ret (se_tup (sa_consF se_str (sa_cons (se_callIo (io := [(0, some 0)]) (sax_io 0 (sax_cons (se_opF ops_ix (se_lst (sa_cons se_int (sa_cons se_int (sa_cons (se_op ops_add (se_op ops_pow se_int se_int (by rfl)) se_int (by rfl)) sa_nil (by rfl)) (by rfl)) (by rfl))) (se_callIo (io := [(0, some 0)]) (sax_io 0 (sax_cons se_int sax_nil (by rfl))) (by rfl) (by rfl))) sax_nil (by rfl))) (by rfl) (by rfl)) sa_nil (by rfl)))))
 ss_next)
 (ss_seq (ss_if (st_test (se_op ops_eq (se_var 1) se_int (by rfl)))
 (ss_seq (ss_asg 2 se_str)
 (ss_seq (ss_asg 3 (se_callIo (io := [(0, some 0)]) (sax_io 0 (sax_cons (se_opF ops_ix (se_lst (sa_cons se_int (sa_cons se_int sa_nil (by rfl)) (by rfl))) (se_callIo (io := [(0, some 0)]) (sax_io 0 (sax_cons se_int sax_nil (by rfl))) (by rfl) (by rfl))) sax_nil (by rfl))) (by rfl) (by rfl)))
 (ss_ret (se_tup (sa_consF se_str (sa_cons (se_m mts_join se_str (sa_cons (se_compI (vs := [7]) (chk := false) (si_rng1 (sa_cons (se_var 3) sa_nil (by rfl))) (sg_name 7) rfl (st_const (p := true)) (by rw [e_law_leaf_1]; exact (se_opV 2 ops_ix (se_callIo0 (io := [(0, some 0)]) (sax_io 0 (sax_cons (se_cb calls_len (sa_cons (se_var 2) sa_nil (by rfl))) sax_nil (by rfl))) (by rfl) (by rfl)))) (by rfl)) sa_nil (by rfl))) sa_nil (by rfl)))))))
 ss_next)
 (ss_seq (ss_if (st_test (se_op ops_eq (se_var 1) se_int (by rfl)))
 (ss_seq (ss_asg 4 (se_tup (sa_consF (se_callIo (io := [(0, some 0)]) (sax_io 0 (sax_cons se_int sax_nil (by rfl))) (by rfl) (by rfl)) (sa_cons (se_callIo (io := [(0, some 0)]) (sax_io 0 (sax_cons se_int sax_nil (by rfl))) (by rfl) (by rfl)) sa_nil (by rfl)))))
 (ss_ret (se_chk (se_tup (sa_consF se_str (sa_cons (se_var 4) (sa_cons (se_callIo (io := [(0, some 0)]) (sax_io 0 (sax_cons se_int sax_nil (by rfl))) (by rfl) (by rfl)) sa_nil (by rfl)) (by rfl)))))))
 ss_next)
 (ss_seq (ss_if (st_test (se_op ops_eq (se_var 1) se_int (by rfl)))
 (ss_ret (se_tup (sa_cons se_str sa_nil (by rfl))))
 ss_next)
 (ss_seq (ss_asg 5 (se_chk (se_opF ops_ix (se_lst (sa_cons se_str (sa_cons se_str (sa_cons se_str (sa_cons se_str sa_nil (by rfl)) (by rfl)) (by rfl)) (by rfl))) (se_callIo (io := [(0, some 0)]) (sax_io 0 (sax_cons se_int sax_nil (by rfl))) (by rfl) (by rfl)))))
 (ss_seq (ss_asg 6 (se_callIo (io := [(0, some 0)]) (sax_io 0 sax_nil) (by rfl) (by rfl)))
 (ss_ret (se_chk (se_tup (sa_cons (se_var 5) (sa_cons (se_var 6) (sa_cons (se_callIo (io := [(0, some 0)]) (sax_io 0 (sax_cons se_int sax_nil (by rfl))) (by rfl) (by rfl)) sa_nil (by rfl)) (by rfl)) (by rfl)))))))))))
  · intro k p hk e; show (match vs[k]? with | some (V.ref p) => p | _ => 0) = p; rw [e]
  · exact O_low (l := [2, 0, 0, 0, 0, 0, 0, 0]) (n := 2) (io := [0]) rfl
  · exact O_two (l := [2, 0, 0, 0, 0, 0, 0, 0]) (io := [0]) rfl
  · decide

theorem ok__law_formula (T : Txt K mg) (Ds : Defs P w K mg base k) : Def P w K mg base (k + 1) "_law_formula" ["own", "deep", "room"] (spF K 3 [0, 2] true (tab (k + 1) .f_law_formula)) := by
  refine def_of T.g__law_formula T.f__law_formula sc__law_formula (fun _ _ _ _ _ _ us hl => match us, hl with | [_, _, _], _ => rfl) (fun vs H Q E h => spF_len h) (fun cdv A outer s H vs Q E hrm h => ?_)
  refine ⟨_, (pss_cons (ps_set (i := 3) sc__law_formula.nd rfl (Or.inl rfl) (pe_dcall Ds.d__law_digit hrm (by rfl) (passes_call (W := fun cls d _ H => E cls d H) (takes_of rfl rfl rfl rfl) fun _ _ _ _ h => h) (pa_cons (pv 0) (pa_cons pe_int pa_nil))))
 (pss_cons (ps_set (i := 4) sc__law_formula.nd rfl (Or.inl rfl) (pe_ix (ix_seqK (K := K)) (pe_lst (pa_cons pe_int (pa_cons pe_int (pa_cons pe_int (pa_cons pe_int (pa_cons pe_int (pa_cons pe_int (pa_cons pe_int (pa_cons pe_int (pa_cons pe_int (pa_cons pe_int (pa_cons pe_int (pa_cons pe_int (pa_cons pe_int (pa_cons pe_int (pa_cons pe_int (pa_cons pe_int (pa_cons pe_int (pa_cons pe_int pa_nil))))))))))))))))))) (pv 3) (fun _ _ => rfl)))
 (pss_cons (ps_if (PW.pt (pw_or (pt_cmpR (op_eqU (K := K) hrm.units) (pv 1) pe_int (nomark _)) (pw_or1 (pt_cmpR op_ltU (pe_ix (ix_seqK (K := K)) (pv 2) pe_int (fun _ _ => rfl)) (pv 4) (nomark _)))))
 (pss_cons (ps_set (i := 3) sc__law_formula.nd rfl (Or.inl rfl) (pe_op op_modN (pv 3) pe_int))
 (pss_one (ps_set (i := 4) sc__law_formula.nd rfl (Or.inl rfl) pe_int)))
 pss_nil)
 (pss_cons (ps_asg (pe_op op_sub (pe_ix (ix_seqK (K := K)) (pv 2) pe_int (fun _ _ => rfl)) (pv 4)) (pg_sub (pv 2) pe_int set_list))
 (pss_cons (ps_setLc (i := 5) (own := [("k", 8)]) (g := _) (tt := tYes) rfl sc__law_formula.nd rfl (by rfl) (sw_true rfl rfl rfl (by decide +kernel)) (pi_range1 rfl T.n_range (pa_cons (pv 4) pa_nil)) (blkOk_by (N := N__law_formula) (sc := defScope s__law_formula) (by decide +kernel)) (fun _ _ _ _ _ => pg_name (i := 8) sc__law_formula.nd rfl (Or.inl rfl)) (fun _ _ _ _ _ => pts_nil) (fun _ _ _ _ _ => (pe_dcall Ds.d__law_formula hrm (by rfl) passL (pa_cons (pv 0) (pa_cons (pe_op op_sub (pv 1) pe_int) (pa_cons (pv 2) pa_nil))))))
 (pss_cons (ps_if (pt_cmpR op_ltU (pv 3) pe_int (nomark _))
 (pss_one (ps_ret (pe_dcall Ds.d__law_leaf hrm (by rfl) (passes_call (W := fun cls d _ H => E cls d H) (takes_of rfl rfl rfl rfl) fun _ _ _ _ h => h) (pa_cons (pv 0) (pa_cons (pv 3) pa_nil)))))
 pss_nil)
 (pss_cons (ps_if (pt_cmpR (op_eqU (K := K) hrm.units) (pv 3) pe_int (nomark _))
 (pss_cons (ps_set (i := 6) sc__law_formula.nd rfl (Or.inl rfl) (pe_dcall Ds.d__law_area hrm (by rfl) (passes_call (W := fun cls d _ H => E cls d H) (takes_of rfl rfl rfl rfl) fun _ _ _ _ h => h) (pa_cons (pv 0) pa_nil)))
 (pss_one (ps_ret (pe_tup (pa_cons pe_str (pa_cons (pe_ix (ix_seqK (K := K)) (pv 5) pe_int (fun _ _ => rfl)) (pa_cons (pv 6) (pa_cons (pe_dcall Ds.d__law_pins hrm (by rfl) (passes_call (W := fun cls d _ H => E cls d H) (takes_of rfl rfl rfl rfl) fun _ _ _ _ h => h) (pa_cons (pv 0) (pa_cons pe_int pa_nil))) pa_nil))))))))
 pss_nil)
 (pss_cons (ps_set (i := 7) sc__law_formula.nd rfl (Or.inl rfl) (pe_lst (pa_cons pe_str (pa_cons pe_str (pa_cons pe_str (pa_cons pe_str (pa_cons pe_str (pa_cons pe_str (pa_cons pe_str (pa_cons pe_str (pa_cons pe_str (pa_cons pe_str (pa_cons pe_str (pa_cons pe_str (pa_cons pe_str pa_nil)))))))))))))))
 (pss_one (ps_ret (pe_op (op_addU (K := K)) (pe_tup (pa_cons (pe_ix (ix_seqK (K := K)) (pv 7) (pe_op op_sub (pv 3) pe_int) (fun _ _ => rfl)) pa_nil)) (pe_callTy (call_tupleU (K := K)) (by rfl) T.n_tuple (by decide +kernel) (pa_cons (pv 5) pa_nil))))))))))))), ?_⟩
  refine sim_def (c := ⟨K, (fun i => ([2, 0, 2, 0, 0, 0, 0, 0, 0] : List Nat).getD i 0), H, [0, 2], (fun k => match vs[k]? with | some (V.ref p) => p | _ => 0), true, [], fun _ => []⟩) (E := E) (body := b_f_law_formula (tab k)) (n := 3) (m := 6) (io := [0, 2]) ?_ rfl rfl ?_ ?_ ?_ rfl ?_ rfl rfl h
  · rw [b_f_law_formula]
    exact (ss_seq (ss_asg 3 (se_callIo (io := [(0, some 0)]) (sax_io 0 (sax_cons se_int sax_nil (by rfl))) (by rfl) (by rfl)))
 (ss_seq (ss_asg 4 (se_chk (se_op ops_ix (se_lst (sa_cons se_int (sa_cons se_int (sa_cons se_int (sa_cons se_int (sa_cons se_int (sa_cons se_int (sa_cons se_int (sa_cons se_int (sa_cons se_int (sa_cons se_int (sa_cons se_int (sa_cons se_int (sa_cons se_int (sa_cons se_int (sa_cons se_int (sa_cons se_int (sa_cons se_int (sa_cons se_int sa_nil (by rfl)) (by rfl)) (by rfl)) (by rfl)) (by rfl)) (by rfl)) (by rfl)) (by rfl)) (by rfl)) (by rfl)) (by rfl)) (by rfl)) (by rfl)) (by rfl)) (by rfl)) (by rfl)) (by rfl)) (by rfl))) (se_var 3) (by rfl))))
 (ss_seq (ss_if (st_or (st_test (se_op ops_eq (se_var 1) se_int (by rfl))) (st_test (se_op ops_lt (se_op ops_ix (se_var 2) se_int (by rfl)) (se_var 4) (by rfl))))
 (ss_seq (ss_asg 3 (se_op ops_mod (se_var 3) se_int (by rfl)))
 (ss_asg 4 se_int))
 ss_next)
 (ss_seq (ss_setL 2 (se_chk (se_op ops_sub (se_op ops_ix (se_var 2) se_int (by rfl)) (se_var 4) (by rfl))) se_int)
 (ss_seq (ss_asg 5 (se_compI (vs := [8]) (chk := false) (si_rng1 (sa_cons (se_var 4) sa_nil (by rfl))) (sg_name 8) rfl (st_const (p := true)) (by rw [e_law_formula_1]; exact (se_callIo0 (io := [(0, some 0), (2, some 2)]) (sax_io 0 (sax_cons (se_op ops_sub (se_var 1) se_int (by rfl)) (sax_io 2 sax_nil) (by rfl))) (by rfl) (by rfl))) (by rfl)))
 (ss_seq (ss_if (st_test (se_op ops_lt (se_var 3) se_int (by rfl)))
 (ss_ret (se_callIo (io := [(0, some 0)]) (sax_io 0 (sax_cons (se_var 3) sax_nil (by rfl))) (by rfl) (by rfl)))
 ss_next)
 (ss_seq (ss_if (st_test (se_op ops_eq (se_var 3) se_int (by rfl)))
 (ss_seq (ss_asg 6 (se_callIo (io := [(0, some 0)]) (sax_io 0 sax_nil) (by rfl) (by rfl)))
 (ss_ret (se_chk (se_tup (sa_consF se_str (sa_cons (se_op ops_ix (se_var 5) se_int (by rfl)) (sa_cons (se_var 6) (sa_cons (se_callIo (io := [(0, some 0)]) (sax_io 0 (sax_cons se_int sax_nil (by rfl))) (by rfl) (by rfl)) sa_nil (by rfl)) (by rfl)) (by rfl)))))))
 ss_next)
 (ss_seq (ss_asg 7 (se_lst (sa_cons se_str (sa_cons se_str (sa_cons se_str (sa_cons se_str (sa_cons se_str (sa_cons se_str (sa_cons se_str (sa_cons se_str (sa_cons se_str (sa_cons se_str (sa_cons se_str (sa_cons se_str (sa_cons se_str sa_nil (by rfl)) (by rfl)) (by rfl)) (by rfl)) (by rfl)) (by rfl)) (by rfl)) (by rfl)) (by rfl)) (by rfl)) (by rfl)) (by rfl)) (by rfl))))
 (ss_ret (se_op ops_add (se_tup (sa_cons (se_op ops_ix (se_var 7) (se_op ops_sub (se_var 3) se_int (by rfl)) (by rfl)) sa_nil (by rfl))) (se_cb calls_tuple (sa_cons (se_var 5) sa_nil (by rfl))) (by rfl)))))))))))
  · intro k p hk e; show (match vs[k]? with | some (V.ref p) => p | _ => 0) = p; rw [e]
  · exact O_low (l := [2, 0, 2, 0, 0, 0, 0, 0, 0]) (n := 3) (io := [0, 2]) rfl
  · exact O_two (l := [2, 0, 2, 0, 0, 0, 0, 0, 0]) (io := [0, 2]) rfl
  · decide

theorem ok__law_kids (T : Txt K mg) (Ds : Defs P w K mg base k) : Def P w K mg base (k + 1) "_law_kids" ["formula"] (spF K 1 [] true (tab (k + 1) .f_law_kids)) := by
  refine def_of T.g__law_kids T.f__law_kids sc__law_kids (fun _ _ _ _ _ _ us hl => match us, hl with | [_], _ => rfl) (fun vs H Q E h => spF_len h) (fun cdv A outer s H vs Q E hrm h => ?_)
  refine ⟨_, (pss_cons (ps_if (pt_cmpR (op_eqU (K := K) hrm.units) (pe_ix (ix_seqK (K := K)) (pv 0) pe_int (fun _ _ => rfl)) pe_str (nomark _))
 (pss_one (ps_ret (pe_lst (pa_cons (pe_ix (ix_seqK (K := K)) (pv 0) pe_int (fun _ _ => rfl)) pa_nil))))
 pss_nil)
 (pss_cons (ps_if (pt_cmpR (op_inU (K := K) (hu65 hrm)) (pe_ix (ix_seqK (K := K)) (pv 0) pe_int (fun _ _ => rfl)) (pe_lst (pa_cons pe_str (pa_cons pe_str (pa_cons pe_str (pa_cons pe_str (pa_cons pe_str (pa_cons pe_str (pa_cons pe_str (pa_cons pe_str pa_nil))))))))) (by first | rfl | exact nomark _))
 (pss_one (ps_ret (pe_lst pa_nil)))
 pss_nil)
 (pss_one (ps_ret (pe_callTy (call_listL (K := K)) (by rfl) T.n_list (by decide +kernel) (pa_cons (pe_slice (sl_U (K := K)) (pv 0) (po_some pe_int) po_none) pa_nil)))))), ?_⟩
  refine sim_def (c := ⟨K, (fun i => ([0] : List Nat).getD i 0), H, [], (fun k => match vs[k]? with | some (V.ref p) => p | _ => 0), true, [], fun _ => []⟩) (E := E) (body := b_f_law_kids (tab k)) (n := 1) (m := 0) (io := []) ?_ rfl rfl ?_ ?_ ?_ rfl ?_ rfl rfl h
  · rw [b_f_law_kids]
    exact (ss_seq (ss_if (st_test (se_op ops_eq (se_op ops_ix (se_var 0) se_int (by rfl)) se_str (by rfl)))
 (ss_ret (se_lst (sa_cons (se_chk (se_op ops_ix (se_var 0) se_int (by rfl))) sa_nil (by rfl))))
 ss_next)
 (ss_seq (ss_if (st_test (se_op ops_in (se_op ops_ix (se_var 0) se_int (by rfl)) (se_lst (sa_cons se_str (sa_cons se_str (sa_cons se_str (sa_cons se_str (sa_cons se_str (sa_cons se_str (sa_cons se_str (sa_cons se_str sa_nil (by rfl)) (by rfl)) (by rfl)) (by rfl)) (by rfl)) (by rfl)) (by rfl)) (by rfl))) (by rfl)))
 (ss_ret (se_lst sa_nil))
 ss_next)
 (ss_ret (se_cb calls_list (sa_cons (se_slice (se_var 0) (so_some se_int) so_none) sa_nil (by rfl))))))
  · intro k p hk; cases hk
  · exact O_low (l := [0]) (n := 1) (io := []) rfl
  · exact O_two (l := [0]) (io := []) rfl
  · decide

theorem ok__law_size (T : Txt K mg) (Ds : Defs P w K mg base k) : Def P w K mg base (k + 1) "_law_size" ["formula"] (spF K 1 [] true (tab (k + 1) .f_law_size)) := by
  refine def_of T.g__law_size T.f__law_size sc__law_size (fun _ _ _ _ _ _ us hl => match us, hl with | [_], _ => rfl) (fun vs H Q E h => spF_len h) (fun cdv A outer s H vs Q E hrm h => ?_)
  refine ⟨_, (pss_cons (ps_setLc (i := 1) (own := [("part", 2)]) (g := _) (tt := tYes) rfl sc__law_size.nd rfl (by rfl) (sw_true rfl rfl rfl (by decide +kernel)) (pi_any (K := K) (pe_dcall Ds.d__law_kids hrm (by rfl) (passes_call (W := fun cls d _ H => E cls d H) (takes_of rfl rfl rfl rfl) fun _ _ _ _ h => h) (pa_cons (pv 0) pa_nil))) (blkOk_by (N := N__law_size) (sc := defScope s__law_size) (by decide +kernel)) (fun _ _ _ _ _ => pg_name (i := 2) sc__law_size.nd rfl (Or.inl rfl)) (fun _ _ _ _ _ => pts_nil) (fun _ _ _ _ _ => (pe_dcall Ds.d__law_size hrm (by rfl) passL (pa_cons (pv 2) pa_nil))))
 (pss_one (ps_ret (pe_tup (pa_cons (pe_op (op_addU (K := K)) pe_int (pe_callB (call_sumL (K := K)) (by rfl) T.n_sum (by decide +kernel) (pa_cons (pe_lc (own := [("size", 3)]) (g := _) (tt := tYes) rfl sc__law_size.nd (pi_any (K := K) (pv 1)) (blkOk_by (N := N__law_size) (sc := defScope s__law_size) (by decide +kernel)) (fun _ _ _ _ _ => pg_name (i := 3) sc__law_size.nd rfl (Or.inl rfl)) (fun _ _ _ _ _ => pts_nil) (fun _ _ _ _ _ => (pe_ix (ix_seqK (K := K)) (pv 3) pe_int (fun _ _ => rfl)))) pa_nil))) (pa_cons (pe_op (op_addU (K := K)) pe_int (pe_callB (call_maxU (K := K)) (by rfl) T.n_max (by decide +kernel) (pa_cons (pe_op (op_addU (K := K)) (pe_lc (own := [("size", 3)]) (g := _) (tt := tYes) rfl sc__law_size.nd (pi_any (K := K) (pv 1)) (blkOk_by (N := N__law_size) (sc := defScope s__law_size) (by decide +kernel)) (fun _ _ _ _ _ => pg_name (i := 3) sc__law_size.nd rfl (Or.inl rfl)) (fun _ _ _ _ _ => pts_nil) (fun _ _ _ _ _ => (pe_ix (ix_seqK (K := K)) (pv 3) pe_int (fun _ _ => rfl)))) (pe_lst (pa_cons pe_int pa_nil))) pa_nil))) pa_nil)))))), ?_⟩
  refine sim_def (c := ⟨K, (fun i => ([0, 0, 0, 0] : List Nat).getD i 0), H, [], (fun k => match vs[k]? with | some (V.ref p) => p | _ => 0), true, [], fun _ => []⟩) (E := E) (body := b_f_law_size (tab k)) (n := 1) (m := 3) (io := []) ?_ rfl rfl ?_ ?_ ?_ rfl ?_ rfl rfl h
  · rw [b_f_law_size]
    exact (ss_seq (ss_asg 1 (se_comp (vs := [2]) (chk := false) (si_new (se_call (sa_cons (se_var 0) sa_nil (by rfl)))) (by rfl) (sg_name 2) rfl (st_const (p := true)) (by rw [e_law_size_1]; exact (se_call0 (sa_cons (se_var 2) sa_nil (by rfl)))) (hioB (by rfl))))
 (ss_ret (se_tup (sa_cons (se_op ops_add se_int (se_cb calls_sum (sa_cons (se_comp (vs := [3]) (chk := false) (si_var 1) (by rfl) (sg_name 3) rfl (st_const (p := true)) (by rw [e_law_size_2]; exact (se_chk (se_op ops_ix (se_var 3) se_int (by rfl)))) (hioB (by rfl))) sa_nil (by rfl))) (by rfl)) (sa_cons (se_op ops_add se_int (se_cb calls_max (sa_cons (se_op ops_add (se_comp (vs := [3]) (chk := false) (si_var 1) (by rfl) (sg_name 3) rfl (st_const (p := true)) (by rw [e_law_size_3]; exact (se_chk (se_op ops_ix (se_var 3) se_int (by rfl)))) (hioB (by rfl))) (se_lst (sa_cons se_int sa_nil (by rfl))) (by rfl)) sa_nil (by rfl))) (by rfl)) sa_nil (by rfl)) (by rfl)))))
  · intro k p hk; cases hk
  · exact O_low (l := [0, 0, 0, 0]) (n := 1) (io := []) rfl
  · exact O_two (l := [0, 0, 0, 0]) (io := []) rfl
  · decide

theorem ok__law_named (T : Txt K mg) (Ds : Defs P w K mg base k) : Def P w K mg base (k + 1) "_law_named" ["formula", "found"] (spR K 2 [1] 1 (tab (k + 1) .f_law_named)) := by
  refine def_of T.g__law_named T.f__law_named sc__law_named (fun _ _ _ _ _ _ us hl => match us, hl with | [_, _], _ => rfl) (fun vs H Q E h => spR_len h) (fun cdv A outer s H vs Q E hrm h => ?_)
  refine ⟨_, (pss_cons (ps_for (passes_of rfl) rfl (pi_any (K := K) (pe_dcall Ds.d__law_kids hrm (by rfl) (passes_call (W := fun cls d _ H => E cls d H) (takes_of rfl rfl rfl rfl) fun _ _ _ _ h => h) (pa_cons (pv 0) pa_nil))) (pg_name (i := 2) sc__law_named.nd rfl (Or.inl rfl))
 (pss_one (ps_expr (pe_dcall Ds.d__law_named hrm (by rfl) (passes_call (W := fun cls d _ H => E cls d H) (takes_of rfl rfl rfl rfl) fun _ _ _ _ h => h) (pa_cons (pv 2) (pa_cons (pv 1) pa_nil))))))
 (pss_cons (ps_set (i := 3) sc__law_named.nd rfl (Or.inl rfl) pe_non)
 (pss_cons (ps_if (pt_cmpR (op_eqU (K := K) hrm.units) (pe_ix (ix_seqK (K := K)) (pv 0) pe_int (fun _ _ => rfl)) pe_str (nomark _))
 (pss_one (ps_set (i := 3) sc__law_named.nd rfl (Or.inl rfl) (pe_ix (ix_seqK (K := K)) (pv 0) pe_int (fun _ _ => rfl))))
 pss_nil)
 (pss_cons (ps_if (pt_cmpR (op_inU (K := K) (hu65 hrm)) (pe_ix (ix_seqK (K := K)) (pv 0) pe_int (fun _ _ => rfl)) (pe_lst (pa_cons pe_str (pa_cons pe_str (pa_cons pe_str (pa_cons pe_str (pa_cons pe_str pa_nil)))))) (by first | rfl | exact nomark _))
 (pss_one (ps_set (i := 3) sc__law_named.nd rfl (Or.inl rfl) (pe_ix (ix_seqK (K := K)) (pv 0) pe_int (fun _ _ => rfl))))
 pss_nil)
 (pss_cons (ps_if (PW.pt (pw_and (pt_cmpR op_notNo (pv 3) pe_non (nomark _)) (pw_and1 (pt_cmpR (op_ninU (K := K) (hu65 hrm)) (pv 3) (pv 1) (by first | rfl | exact nomark _)))))
 (pss_one (ps_expr (pe_bmK (K := K) rfl PySem.F.plainAttrs_list PySem.F.slot_list_append PySem.F.type_list_append mt_append (pv 1) (pa_cons (pv 3) pa_nil))))
 pss_nil)
 (pss_one (ps_ret (pv 1)))))))), ?_⟩
  refine sim_defR (kk := 1) (c := ⟨K, (fun i => ([0, 2, 0, 0] : List Nat).getD i 0), H, [1], (fun k => match vs[k]? with | some (V.ref p) => p | _ => 0), true, [], fun _ => []⟩) (E := E) (body := b_f_law_named (tab k)) (n := 2) (m := 2) (io := [1]) (by decide) ?_ rfl rfl ?_ ?_ ?_ rfl ?_ rfl rfl h
  · rw [b_f_law_named]
    exact (ssr_seq (ss_for (si_new (se_call (sa_cons (se_var 0) sa_nil (by rfl)))) (sg_name 2)
 (by rw [l_law_named_1]; exact (ss_drop (se_callIoR (io := [(1, some 1)]) (kk := 1) (fr := false) (sax_cons (se_var 2) (sax_io 1 sax_nil) (by rfl)) (by rfl) (by rfl) (by decide) (fun z => by cases z)))))
 (ssr_seq (ss_asg 3 se_non)
 (ssr_seq (ss_if (st_test (se_op ops_eq (se_op ops_ix (se_var 0) se_int (by rfl)) se_str (by rfl)))
 (ss_asg 3 (se_chk (se_op ops_ix (se_var 0) se_int (by rfl))))
 ss_next)
 (ssr_seq (ss_if (st_test (se_op ops_in (se_op ops_ix (se_var 0) se_int (by rfl)) (se_lst (sa_cons se_str (sa_cons se_str (sa_cons se_str (sa_cons se_str (sa_cons se_str sa_nil (by rfl)) (by rfl)) (by rfl)) (by rfl)) (by rfl))) (by rfl)))
 (ss_asg 3 (se_chk (se_op ops_ix (se_var 0) se_int (by rfl))))
 ss_next)
 (ssr_seq (ss_if (st_and (st_test (se_op ops_isnot (se_var 3) se_non (by rfl))) (st_test (se_op ops_nin (se_var 3) (se_var 1) (by rfl))))
 (ss_append2 1 (se_chk (se_var 3)))
 ss_next)
 (ssr_ret 1))))))
  · intro k p hk e; show (match vs[k]? with | some (V.ref p) => p | _ => 0) = p; rw [e]
  · exact O_low (l := [0, 2, 0, 0]) (n := 2) (io := [1]) rfl
  · exact O_two (l := [0, 2, 0, 0]) (io := [1]) rfl
  · decide

theorem ok_law (T : Txt K mg) (Ds : Defs P w K mg base k) : Def P w K mg base (k + 1) "law" ["script"] (spF K 1 [] true (tab (k + 1) .flaw)) := by
  refine def_of T.g_law T.f_law sc_law (fun _ _ _ _ _ _ us hl => match us, hl with | [_], _ => rfl) (fun vs H Q E h => spF_len h) (fun cdv A outer s H vs Q E hrm h => ?_)
  refine ⟨_, (pss_cons (ps_for (passes_of rfl) rfl (pi_any (K := K) (pe_op (op_addU (K := K)) (pe_lst (pa_cons pe_int pa_nil)) (pv 0))) (pg_name (i := 1) sc_law.nd rfl (Or.inl rfl))
 (pss_cons (ps_set (i := 2) sc_law.nd rfl (Or.inl rfl) (pe_dcall Ds.d__law_formula hrm (by rfl) (passes_call (W := fun cls d _ H => E cls d H) (takes_of rfl rfl rfl rfl) fun _ _ _ _ h => h) (pa_cons (pe_dcall Ds.d__law_own hrm (by rfl) (passes_call (W := fun cls d _ H => E cls d H) (takes_of rfl rfl rfl rfl) fun _ _ _ _ h => h) (pa_cons (pv 1) pa_nil)) (pa_cons pe_int (pa_cons (pe_lst (pa_cons pe_int pa_nil)) pa_nil)))))
 (pss_cons (ps_set (i := 3) sc_law.nd rfl (Or.inl rfl) (pe_dcall Ds.d__law_size hrm (by rfl) (passes_call (W := fun cls d _ H => E cls d H) (takes_of rfl rfl rfl rfl) fun _ _ _ _ h => h) (pa_cons (pv 2) pa_nil)))
 (pss_cons (ps_if (pt_not (pt_val (pe_dcall Ds.d__law_same hrm (by rfl) (passes_call (W := fun cls d _ H => E cls d H) (takes_of rfl rfl rfl rfl) fun _ _ _ _ h => h) (pa_cons (pe_dcall Ds.d_made_formula hrm (by rfl) (passes_call (W := fun cls d _ H => E cls d H) (takes_of rfl rfl rfl rfl) fun _ _ _ _ h => h) (pa_cons (pv 2) pa_nil)) (pa_cons (pv 2) pa_nil)))))
 (pss_one (ps_ret pe_bl))
 pss_nil)
 (pss_cons (ps_set (i := 4) sc_law.nd rfl (Or.inl rfl) (pe_lst (pa_cons (pe_dcall Ds.d_piece_many hrm (by rfl) (passes_call (W := fun cls d _ H => E cls d H) (takes_of rfl rfl rfl rfl) fun _ _ _ _ h => h) (pa_cons (pv 2) pa_nil)) (pa_cons (pe_dcall Ds.d_depth_of hrm (by rfl) (passes_call (W := fun cls d _ H => E cls d H) (takes_of rfl rfl rfl rfl) fun _ _ _ _ h => h) (pa_cons (pv 2) pa_nil)) pa_nil))))
 (pss_cons (ps_if (PW.pt (pw_or (pt_not (pt_val (pe_dcall Ds.d__law_whole hrm (by rfl) (passes_call (W := fun cls d _ H => E cls d H) (takes_of rfl rfl rfl rfl) fun _ _ _ _ h => h) (pa_cons (pe_ix (ix_seqK (K := K)) (pv 4) pe_int (fun _ _ => rfl)) pa_nil)))) (pw_or (pt_not (pt_val (pe_dcall Ds.d__law_whole hrm (by rfl) (passes_call (W := fun cls d _ H => E cls d H) (takes_of rfl rfl rfl rfl) fun _ _ _ _ h => h) (pa_cons (pe_ix (ix_seqK (K := K)) (pv 4) pe_int (fun _ _ => rfl)) pa_nil)))) (pw_or1 (pt_cmpR (op_neU (K := K) hrm.units) (pv 4) (pe_callTy (call_listL (K := K)) (by rfl) T.n_list (by decide +kernel) (pa_cons (pv 3) pa_nil)) (nomark _))))))
 (pss_one (ps_ret pe_bl))
 pss_nil)
 (pss_cons (ps_set (i := 5) sc_law.nd rfl (Or.inl rfl) (pe_dcall Ds.d__law_named hrm (by rfl) (passes_call (W := fun cls d _ H => E cls d H) (takes_of rfl rfl rfl rfl) fun _ _ _ _ h => h) (pa_cons (pv 2) (pa_cons (pe_lst pa_nil) pa_nil))))
 (pss_cons (ps_set (i := 6) sc_law.nd rfl (Or.inl rfl) (pe_dcall Ds.d_named_in hrm (by rfl) (passes_call (W := fun cls d _ H => E cls d H) (takes_of rfl rfl rfl rfl) fun _ _ _ _ h => h) (pa_cons (pv 2) pa_nil)))
 (pss_cons (ps_if (PW.pt (pw_or (pt_not (pt_val (pe_callB (call_isiK (K := K)) (by rfl) T.n_isinstance (by decide +kernel) (pa_cons (pv 6) (pa_cons (pe_bltn (v := .ty "list") (u := .type "list") rfl T.n_list (by decide +kernel) (by rfl)) pa_nil))))) (pw_or1 (pt_not (pt_val (pe_dcall Ds.d__law_same hrm (by rfl) (passes_call (W := fun cls d _ H => E cls d H) (takes_of rfl rfl rfl rfl) fun _ _ _ _ h => h) (pa_cons (pe_callTy (call_tupleU (K := K)) (by rfl) T.n_tuple (by decide +kernel) (pa_cons (pv 6) pa_nil)) (pa_cons (pe_callTy (call_tupleU (K := K)) (by rfl) T.n_tuple (by decide +kernel) (pa_cons (pv 5) pa_nil)) pa_nil))))))))
 (pss_one (ps_ret pe_bl))
 pss_nil)
 (pss_cons (ps_expr (pe_bmK (K := K) rfl PySem.F.plainAttrs_list PySem.F.slot_list_append PySem.F.type_list_append mt_append (pv 6) (pa_cons (pe_tup (pa_cons pe_int (pa_cons pe_int pa_nil))) pa_nil)))
 (pss_one (ps_if (pt_cmpR (op_neU (K := K) hrm.units) (pe_dcall Ds.d_named_in hrm (by rfl) (passes_call (W := fun cls d _ H => E cls d H) (takes_of rfl rfl rfl rfl) fun _ _ _ _ h => h) (pa_cons (pv 2) pa_nil)) (pv 5) (nomark _))
 (pss_one (ps_ret pe_bl))
 pss_nil))))))))))))
 (pss_one (ps_ret pe_bl))), ?_⟩
  refine sim_def (c := ⟨K, (fun i => ([0, 0, 0, 0, 0, 0, 1] : List Nat).getD i 0), H, [], (fun k => match vs[k]? with | some (V.ref p) => p | _ => 0), true, [], fun _ => []⟩) (E := E) (body := b_flaw (tab k)) (n := 1) (m := 6) (io := []) ?_ rfl rfl ?_ ?_ ?_ rfl ?_ rfl rfl h
  · rw [b_flaw]
    exact (ss_seq (ss_for (si_new (se_op ops_add (se_lst (sa_cons se_int sa_nil (by rfl))) (se_var 0) (by rfl))) (sg_name 1)
 (by rw [l_law_1]; exact (ss_seq (ss_asg 2 (se_callIo (io := [(0, none), (2, none)]) (sax_new (se_call (sa_cons (se_var 1) sa_nil (by rfl))) (sax_cons se_int (sax_new (se_lst (sa_cons se_int sa_nil (by rfl))) sax_nil) (by rfl))) (by rfl) (by rfl)))
 (ss_seq (ss_asg 3 (se_call (sa_cons (se_var 2) sa_nil (by rfl))))
 (ss_seq (ss_if (st_not (st_tB (se_call (sa_cons (se_call (sa_cons (se_var 2) sa_nil (by rfl))) (sa_cons (se_var 2) sa_nil (by rfl)) (by rfl)))))
 (ss_ret se_bl)
 ss_next)
 (ss_seq (ss_asg 4 (se_lst (sa_cons (se_call (sa_cons (se_var 2) sa_nil (by rfl))) (sa_cons (se_call (sa_cons (se_var 2) sa_nil (by rfl))) sa_nil (by rfl)) (by rfl))))
 (ss_seq (ss_if (st_or (st_not (st_tB (se_call (sa_cons (se_op ops_ix (se_var 4) se_int (by rfl)) sa_nil (by rfl))))) (st_or (st_not (st_tB (se_call (sa_cons (se_op ops_ix (se_var 4) se_int (by rfl)) sa_nil (by rfl))))) (st_test (se_op ops_ne (se_var 4) (se_cb calls_list (sa_cons (se_var 3) sa_nil (by rfl))) (by rfl)))))
 (ss_ret se_bl)
 ss_next)
 (ss_seq (ss_asg 5 (se_callIoR (io := [(1, none)]) (kk := 1) (fr := true) (sax_cons (se_var 2) (sax_new (se_lst sa_nil) sax_nil) (by rfl)) (by rfl) (by rfl) (by decide) (fun _ => by decide)))
 (ss_seq (ss_asg 6 (se_call (sa_cons (se_var 2) sa_nil (by rfl))))
 (ss_seq (ss_if (st_or (st_not (st_tB (se_cb calls_isi (sa_cons (se_var 6) (sa_cons (se_c fun _ => .ty _) sa_nil (by rfl)) (by rfl))))) (st_not (st_tB (se_call (sa_cons (se_cb calls_tuple (sa_cons (se_var 6) sa_nil (by rfl))) (sa_cons (se_cb calls_tuple (sa_cons (se_var 5) sa_nil (by rfl))) sa_nil (by rfl)) (by rfl))))))
 (ss_ret se_bl)
 ss_next)
 (ss_seq (ss_append 6 (se_tup (sa_cons se_int (sa_cons se_int sa_nil (by rfl)) (by rfl))))
 (ss_if (st_test (se_op ops_ne (se_call (sa_cons (se_var 2) sa_nil (by rfl))) (se_var 5) (by rfl)))
 (ss_ret se_bl)
 ss_next))))))))))))
 (ss_ret se_bl))
  · intro k p hk; cases hk
  · exact O_low (l := [0, 0, 0, 0, 0, 0, 1]) (n := 1) (io := []) rfl
  · exact O_two (l := [0, 0, 0, 0, 0, 0, 1]) (io := []) rfl
  · decide

end
end Ol

namespace Ol
open PySem PySem.Spec PyProof.Rows L2
/-! ## the plain functions reckoned: rules for simp -/
def oIf {α : Type} (b : Bool) (x : Option α) : Option α := match b with
  | true => x
  | false => none
@[simp] theorem oIf_t {α : Type} {x : Option α} : oIf true x = x := id rfl
@[simp] theorem oIf_f {α : Type} {x : Option α} : oIf false x = none := id rfl
theorem oIf_of {α : Type} {b : Bool} {x : Option α} : (if b = true then x else none) = oIf b x := by cases b <;> rfl
def rIf {α : Type} (b : Bool) (x : Res α) : Res α := match b with
  | true => x
  | false => .bad
@[simp] theorem rIf_t {α : Type} {x : Res α} : rIf true x = x := id rfl
@[simp] theorem rIf_f {α : Type} {x : Res α} : rIf false x = .bad := id rfl
theorem rIf_of {α : Type} {b : Bool} {x : Res α} : (if b = true then x else .bad) = rIf b x := by cases b <;> rfl
def uIf (b : Bool) (x : Out) : Out := match b with
  | true => x
  | false => .bad
@[simp] theorem uIf_t {x : Out} : uIf true x = x := id rfl
@[simp] theorem uIf_f {x : Out} : uIf false x = .bad := id rfl
theorem uIf_of {b : Bool} {x : Out} : (if b = true then x else .bad) = uIf b x := by cases b <;> rfl
def slot (ρ : Env) (i : Nat) : Option D := (ρ[i]?).join
@[simp] theorem slot_z {o : Option D} {ρ : Env} : slot (o :: ρ) 0 = o := by unfold slot; cases o <;> rfl
@[simp] theorem slot_s {o : Option D} {ρ : Env} {i : Nat} : slot (o :: ρ) (i + 1) = slot ρ i := id rfl
def getR (o : Option D) (ρ : Env) : Res D := match o with
  | some d => .ok d ρ
  | none => .bad
@[simp] theorem getR_s {d : D} {ρ : Env} : getR (some d) ρ = .ok d ρ := id rfl
@[simp] theorem getR_n {ρ : Env} : getR none ρ = .bad := id rfl
@[simp] theorem eV_ap {i : Nat} {ρ : Env} : eV i ρ = getR ((slot ρ i)) ρ := id rfl
@[simp] theorem eC_ap {d : D} {ρ : Env} : eC d ρ = .ok d ρ := id rfl
@[simp] theorem optR_s {d : D} {ρ : Env} : optR (some d) ρ = .ok d ρ := id rfl
@[simp] theorem optR_n {ρ : Env} : optR none ρ = .bad := id rfl
def kChk (d : D) (ρ : Env) : Res D := if imm d = true then .ok d ρ else .bad
@[simp] theorem eChk_ap {e : Env → Res D} {ρ : Env} : eChk e ρ = (e ρ).bind kChk := id rfl
@[simp] theorem kChk_ap {d : D} {ρ : Env} : kChk d ρ = rIf (imm d) (.ok d ρ) := rIf_of
def kBin2 (f : D → D → Option D) (x y : D) (ρ : Env) : Res D := optR (f x y) ρ
def kBin (chk : Bool) (f : D → D → Option D) (b : Env → Res D) (x : D) (ρ : Env) : Res D := if (chk && !imm x) = true then .bad else (b ρ).bind (kBin2 f x)
@[simp] theorem eBin_ap {chk : Bool} {f : D → D → Option D} {a b : Env → Res D} {ρ : Env} : eBin chk f a b ρ = (a ρ).bind (kBin chk f b) := id rfl
@[simp] theorem kBin_f {f : D → D → Option D} {b : Env → Res D} {x : D} {ρ : Env} : kBin false f b x ρ = (b ρ).bind (kBin2 f x) := id rfl
@[simp] theorem kBin_t {f : D → D → Option D} {b : Env → Res D} {x : D} {ρ : Env} : kBin true f b x ρ = rIf (imm x) ((b ρ).bind (kBin2 f x)) := by unfold kBin; cases imm x <;> rfl
@[simp] theorem kBin2_ap {f : D → D → Option D} {x y : D} {ρ : Env} : kBin2 f x y ρ = optR (f x y) ρ := id rfl
def kUn (f : D → Option D) (x : D) (ρ : Env) : Res D := optR (f x) ρ
@[simp] theorem eUn_ap {f : D → Option D} {a : Env → Res D} {ρ : Env} : eUn f a ρ = (a ρ).bind (kUn f) := id rfl
@[simp] theorem kUn_ap {f : D → Option D} {x : D} {ρ : Env} : kUn f x ρ = optR (f x) ρ := id rfl
@[simp] theorem aNil_ap {ρ : Env} : aNil ρ = .ok [] ρ := id rfl
def kCons2 (x : D) (xs : List D) (ρ : Env) : Res (List D) := .ok (x :: xs) ρ
def kCons (chk : Bool) (as : Env → Res (List D)) (x : D) (ρ : Env) : Res (List D) := if (chk && !imm x) = true then .bad else (as ρ).bind (kCons2 x)
@[simp] theorem aCons_ap {chk : Bool} {a : Env → Res D} {as : Env → Res (List D)} {ρ : Env} : aCons chk a as ρ = (a ρ).bind (kCons chk as) := id rfl
@[simp] theorem kCons_f {as : Env → Res (List D)} {x : D} {ρ : Env} : kCons false as x ρ = (as ρ).bind (kCons2 x) := id rfl
@[simp] theorem kCons_t {as : Env → Res (List D)} {x : D} {ρ : Env} : kCons true as x ρ = rIf (imm x) ((as ρ).bind (kCons2 x)) := by unfold kCons; cases imm x <;> rfl
@[simp] theorem kCons2_ap {x : D} {xs : List D} {ρ : Env} : kCons2 x xs ρ = .ok (x :: xs) ρ := id rfl
def kIo2 (i : Nat) (xs : List D) (ρ : Env) : Res (List D) := match (slot ρ i) with
  | none => .bad
  | some x => .ok (x :: xs) ρ
def kIo (i : Nat) (as : Env → Res (List D)) (ρ : Env) (o : Option D) : Res (List D) := match o with
  | none => .bad
  | some _ => (as ρ).bind (kIo2 i)
@[simp] theorem aIo_ap {i : Nat} {as : Env → Res (List D)} {ρ : Env} : aIo i as ρ = kIo i as ρ (slot ρ i) := id rfl
@[simp] theorem kIo_s {i : Nat} {as : Env → Res (List D)} {d : D} {ρ : Env} : kIo i as ρ (some d) = (as ρ).bind (kIo2 i) := id rfl
def kIo3 (xs : List D) (ρ : Env) (o : Option D) : Res (List D) := match o with
  | none => .bad
  | some x => .ok (x :: xs) ρ
@[simp] theorem kIo2_ap {i : Nat} {xs : List D} {ρ : Env} : kIo2 i xs ρ = kIo3 xs ρ (slot ρ i) := id rfl
@[simp] theorem kIo3_s {xs : List D} {ρ : Env} {d : D} : kIo3 xs ρ (some d) = .ok (d :: xs) ρ := id rfl
def kNew2 (es : List D) (xs : List D) (ρ : Env) : Res (List D) := .ok (.lst es :: xs) ρ
def kNew (as : Env → Res (List D)) (x : D) (ρ : Env) : Res (List D) := match x with
  | .lst es => (as ρ).bind (kNew2 es)
  | _ => .bad
@[simp] theorem aNew_ap {a : Env → Res D} {as : Env → Res (List D)} {ρ : Env} : aNew a as ρ = (a ρ).bind (kNew as) := id rfl
@[simp] theorem kNew_l {as : Env → Res (List D)} {es : List D} {ρ : Env} : kNew as (.lst es) ρ = (as ρ).bind (kNew2 es) := id rfl
@[simp] theorem kNew2_ap {es xs : List D} {ρ : Env} : kNew2 es xs ρ = .ok (.lst es :: xs) ρ := id rfl
def kTup (xs : List D) (ρ : Env) : Res D := if xs.length ≤ 1000 then .ok (.tup xs) ρ else .bad
def kLst (xs : List D) (ρ : Env) : Res D := if xs.length ≤ 1000 then .ok (.lst xs) ρ else .bad
@[simp] theorem eTup_ap {as : Env → Res (List D)} {ρ : Env} : eTup as ρ = (as ρ).bind kTup := id rfl
@[simp] theorem eLst_ap {as : Env → Res (List D)} {ρ : Env} : eLst as ρ = (as ρ).bind kLst := id rfl
@[simp] theorem kTup_ap {xs : List D} {ρ : Env} : kTup xs ρ = if xs.length ≤ 1000 then .ok (.tup xs) ρ else .bad := id rfl
@[simp] theorem kLst_ap {xs : List D} {ρ : Env} : kLst xs ρ = if xs.length ≤ 1000 then .ok (.lst xs) ρ else .bad := id rfl
def kNot (x : D) (ρ : Env) : Res D := match x with
  | .bl b => .ok (.bl (!b)) ρ
  | _ => .bad
@[simp] theorem eNot_ap {a : Env → Res D} {ρ : Env} : eNot a ρ = (a ρ).bind kNot := id rfl
@[simp] theorem kNot_b {b : Bool} {ρ : Env} : kNot (.bl b) ρ = .ok (.bl (!b)) ρ := id rfl
def kAndE (b : Env → Res D) (x : D) (ρ1 : Env) : Res D := match x with
  | .bl true => b ρ1
  | .bl false => .ok (.bl false) ρ1
  | _ => .bad
def kOrE (b : Env → Res D) (x : D) (ρ1 : Env) : Res D := match x with
  | .bl true => .ok (.bl true) ρ1
  | .bl false => b ρ1
  | _ => .bad
@[simp] theorem eAnd_ap {a b : Env → Res D} {ρ : Env} : eAnd a b ρ = (a ρ).bind (kAndE b) := id rfl
@[simp] theorem eOr_ap {a b : Env → Res D} {ρ : Env} : eOr a b ρ = (a ρ).bind (kOrE b) := id rfl
@[simp] theorem kAndE_t {b : Env → Res D} {ρ : Env} : kAndE b (.bl true) ρ = b ρ := id rfl
@[simp] theorem kAndE_f {b : Env → Res D} {ρ : Env} : kAndE b (.bl false) ρ = .ok (.bl false) ρ := id rfl
@[simp] theorem kOrE_t {b : Env → Res D} {ρ : Env} : kOrE b (.bl true) ρ = .ok (.bl true) ρ := id rfl
@[simp] theorem kOrE_f {b : Env → Res D} {ρ : Env} : kOrE b (.bl false) ρ = b ρ := id rfl
def kIfE (a b : Env → Res D) (x : Bool) (ρ : Env) : Res D := if x = true then a ρ else b ρ
@[simp] theorem eIf_ap {t : Env → Res Bool} {a b : Env → Res D} {ρ : Env} : eIf t a b ρ = (t ρ).bind (kIfE a b) := id rfl
@[simp] theorem kIfE_t {a b : Env → Res D} {ρ : Env} : kIfE a b true ρ = a ρ := id rfl
@[simp] theorem kIfE_f {a b : Env → Res D} {ρ : Env} : kIfE a b false ρ = b ρ := id rfl
def kCh3 (g : D → D → Option D) (y w : D) (ρ : Env) : Res D := optR (g y w) ρ
def chR (g : D → D → Option D) (e : Env → Res D) (y : D) (ρ : Env) (o : Option D) : Res D := match o with
  | some (.bl true) => (e ρ).bind (kCh3 g y)
  | some (.bl false) => .ok (.bl false) ρ
  | _ => .bad
def kCh2 (f g : D → D → Option D) (e : Env → Res D) (x y : D) (ρ : Env) : Res D := chR g e y ρ (f x y)
def kCh1 (f g : D → D → Option D) (b e : Env → Res D) (x : D) (ρ : Env) : Res D := (b ρ).bind (kCh2 f g e x)
@[simp] theorem eChain_ap {f g : D → D → Option D} {a b e : Env → Res D} {ρ : Env} : eChain f g a b e ρ = (a ρ).bind (kCh1 f g b e) := id rfl
@[simp] theorem kCh1_ap {f g : D → D → Option D} {b e : Env → Res D} {x : D} {ρ : Env} : kCh1 f g b e x ρ = (b ρ).bind (kCh2 f g e x) := id rfl
@[simp] theorem kCh2_ap {f g : D → D → Option D} {e : Env → Res D} {x y : D} {ρ : Env} : kCh2 f g e x y ρ = chR g e y ρ (f x y) := id rfl
@[simp] theorem chR_t {g : D → D → Option D} {e : Env → Res D} {y : D} {ρ : Env} : chR g e y ρ (some (.bl true)) = (e ρ).bind (kCh3 g y) := id rfl
@[simp] theorem chR_f {g : D → D → Option D} {e : Env → Res D} {y : D} {ρ : Env} : chR g e y ρ (some (.bl false)) = .ok (.bl false) ρ := id rfl
@[simp] theorem kCh3_ap {g : D → D → Option D} {y w : D} {ρ : Env} : kCh3 g y w ρ = optR (g y w) ρ := id rfl
def kCb (f : List D → Option D) (xs : List D) (ρ : Env) : Res D := optR (f xs) ρ
@[simp] theorem eCb_ap {f : List D → Option D} {as : Env → Res (List D)} {ρ : Env} : eCb f as ρ = (as ρ).bind (kCb f) := id rfl
@[simp] theorem kCb_ap {f : List D → Option D} {xs : List D} {ρ : Env} : kCb f xs ρ = optR (f xs) ρ := id rfl
def kM2 (f : D → List D → Option D) (x : D) (xs : List D) (ρ : Env) : Res D := optR (f x xs) ρ
def kM (T : String) (f : D → List D → Option D) (as : Env → Res (List D)) (x : D) (ρ : Env) : Res D := if kindD x = T then (as ρ).bind (kM2 f x) else .bad
@[simp] theorem eM_ap {T : String} {f : D → List D → Option D} {a : Env → Res D} {as : Env → Res (List D)} {ρ : Env} : eM T f a as ρ = (a ρ).bind (kM T f as) := id rfl
@[simp] theorem kM_ap {T : String} {f : D → List D → Option D} {as : Env → Res (List D)} {x : D} {ρ : Env} : kM T f as x ρ = if kindD x = T then (as ρ).bind (kM2 f x) else .bad := id rfl
@[simp] theorem kM2_ap {f : D → List D → Option D} {x : D} {xs : List D} {ρ : Env} : kM2 f x xs ρ = optR (f x xs) ρ := id rfl
def kM0 (T : String) (f : D → Option D) (x : D) (ρ : Env) : Res D := if kindD x = T then optR (f x) ρ else .bad
@[simp] theorem eM0_ap {T : String} {f : D → Option D} {a : Env → Res D} {ρ : Env} : eM0 T f a ρ = (a ρ).bind (kM0 T f) := id rfl
@[simp] theorem kM0_ap {T : String} {f : D → Option D} {x : D} {ρ : Env} : kM0 T f x ρ = if kindD x = T then optR (f x) ρ else .bad := id rfl
def kSome (d : D) (ρ : Env) : Res (Option Int) := match d with
  | .int i => .ok (some i) ρ
  | _ => .bad
@[simp] theorem pNone_ap {ρ : Env} : pNone ρ = .ok none ρ := id rfl
@[simp] theorem pSome_ap {e : Env → Res D} {ρ : Env} : pSome e ρ = (e ρ).bind kSome := id rfl
@[simp] theorem kSome_i {i : Int} {ρ : Env} : kSome (.int i) ρ = .ok (some i) ρ := id rfl
def kSl3 (d : D) (lo hi : Option Int) (ρ : Env) : Res D := optR (sliceD d lo hi) ρ
def kSl2 (h : Env → Res (Option Int)) (d : D) (lo : Option Int) (ρ : Env) : Res D := (h ρ).bind (kSl3 d lo)
def kSl (l h : Env → Res (Option Int)) (d : D) (ρ : Env) : Res D := (l ρ).bind (kSl2 h d)
@[simp] theorem eSl_ap {e : Env → Res D} {l h : Env → Res (Option Int)} {ρ : Env} : eSl e l h ρ = (e ρ).bind (kSl l h) := id rfl
@[simp] theorem kSl_ap {l h : Env → Res (Option Int)} {d : D} {ρ : Env} : kSl l h d ρ = (l ρ).bind (kSl2 h d) := id rfl
@[simp] theorem kSl2_ap {h : Env → Res (Option Int)} {d : D} {lo : Option Int} {ρ : Env} : kSl2 h d lo ρ = (h ρ).bind (kSl3 d lo) := id rfl
@[simp] theorem kSl3_ap {d : D} {lo hi : Option Int} {ρ : Env} : kSl3 d lo hi ρ = optR (sliceD d lo hi) ρ := id rfl
def kSlT3 (d : D) (lo hi : Option Int) (ρ : Env) : Res D := match d with
  | .str z => if z.length ≤ 16777216 then .ok (.str (cutS z lo hi)) ρ else .bad
  | _ => .bad
def kSlT2 (h : Env → Res (Option Int)) (d : D) (lo : Option Int) (ρ : Env) : Res D := (h ρ).bind (kSlT3 d lo)
def kSlT (l h : Env → Res (Option Int)) (d : D) (ρ : Env) : Res D := (l ρ).bind (kSlT2 h d)
@[simp] theorem eSlT_ap {e : Env → Res D} {l h : Env → Res (Option Int)} {ρ : Env} : eSlT e l h ρ = (e ρ).bind (kSlT l h) := id rfl
@[simp] theorem kSlT_ap {l h : Env → Res (Option Int)} {d : D} {ρ : Env} : kSlT l h d ρ = (l ρ).bind (kSlT2 h d) := id rfl
@[simp] theorem kSlT2_ap {h : Env → Res (Option Int)} {d : D} {lo : Option Int} {ρ : Env} : kSlT2 h d lo ρ = (h ρ).bind (kSlT3 d lo) := id rfl
@[simp] theorem kSlT3_s {z : Str} {lo hi : Option Int} {ρ : Env} : kSlT3 (.str z) lo hi ρ = if z.length ≤ 16777216 then .ok (.str (cutS z lo hi)) ρ else .bad := id rfl
/-! calls -/
def callK (ρ : Env) (r : Res D) : Res D := match r with
  | .ok r _ => .ok r ρ
  | .exc x _ => .exc x ρ
  | .bad => .bad
@[simp] theorem callK_ok {ρ ρ1 : Env} {d : D} : callK ρ (.ok d ρ1) = .ok d ρ := id rfl
@[simp] theorem callK_exc {ρ ρ1 : Env} {x : String} : callK ρ (.exc x ρ1) = .exc x ρ := id rfl
@[simp] theorem callK_bad {ρ : Env} : callK ρ .bad = .bad := id rfl
def kCall (n : Nat) (f : List D → Res D) (ds : List D) (ρ : Env) : Res D := if ds.length = n then callK ρ (f ds) else .bad
@[simp] theorem eCall_ap {n : Nat} {f : List D → Res D} {as : Env → Res (List D)} {ρ : Env} : eCall n f as ρ = (as ρ).bind (kCall n f) := id rfl
@[simp] theorem kCall_ap {n : Nat} {f : List D → Res D} {ds : List D} {ρ : Env} : kCall n f ds ρ = if ds.length = n then callK ρ (f ds) else .bad := id rfl
def callIo (io : IoL) (ρ : Env) (r : Res D) : Res D := match r with
  | .ok r o => .ok r (setOuts io o ρ)
  | .exc x o => .exc x (setOuts io o ρ)
  | .bad => .bad
@[simp] theorem callIo_ok {io : IoL} {ρ ρ1 : Env} {d : D} : callIo io ρ (.ok d ρ1) = .ok d (setOuts io ρ1 ρ) := id rfl
@[simp] theorem callIo_exc {io : IoL} {ρ ρ1 : Env} {x : String} : callIo io ρ (.exc x ρ1) = .exc x (setOuts io ρ1 ρ) := id rfl
@[simp] theorem callIo_bad {io : IoL} {ρ : Env} : callIo io ρ .bad = .bad := id rfl
def kCallIo (n : Nat) (io : IoL) (f : List D → Res D) (ds : List D) (ρ : Env) : Res D := if ds.length = n ∧ ioChk (io.map (·.1)) ds = true then callIo io ρ (f ds) else .bad
@[simp] theorem eCallIo_ap {n : Nat} {io : IoL} {f : List D → Res D} {as : Env → Res (List D)} {ρ : Env} : eCallIo n io f as ρ = (as ρ).bind (kCallIo n io f) := id rfl
def ioD (b : Bool) (d : D) : Bool := match b, d with
  | true, .lst es => imms es
  | true, _ => false
  | false, d => imm d
def ioChk1 (io : List Nat) : Nat → List D → Bool
  | _, [] => true
  | k, d :: ds => ioD (io.contains k) d && ioChk1 io (k + 1) ds
theorem ioChk_from (io : List Nat) : ∀ (ds pre : List D), ((List.range ds.length).all fun k => if io.contains (pre.length + k) = true then (match (pre ++ ds)[pre.length + k]? with
    | some (.lst es) => imms es
    | _ => false) else (match (pre ++ ds)[pre.length + k]? with
    | some d => imm d
    | none => true)) = ioChk1 io pre.length ds
  | [], pre => rfl
  | d :: ds, pre => by
    have ih := ioChk_from io ds (pre ++ [d])
    rw [List.length_cons, List.range_succ_eq_map, List.all_cons, List.all_map]
    unfold ioChk1
    congr 1
    · rw [Nat.add_zero, List.getElem?_append_right (Nat.le_refl _), Nat.sub_self, List.getElem?_cons_zero]
      cases io.contains pre.length <;> cases d <;> rfl
    · rw [← show (pre ++ [d]).length = pre.length + 1 by simp, ← ih]
      congr 1
      funext k
      simp [Nat.add_assoc, Nat.add_comm 1 k]
@[simp] theorem ioChk_ap {io : List Nat} {ds : List D} : ioChk io ds = ioChk1 io 0 ds := by
  have := ioChk_from io ds []
  simp only [List.length_nil, Nat.zero_add, List.nil_append] at this
  unfold ioChk
  exact this
@[simp] theorem kCallIo_ap {n : Nat} {io : IoL} {f : List D → Res D} {ds : List D} {ρ : Env} : kCallIo n io f ds ρ = if ds.length = n then rIf (ioChk1 (io.map (·.1)) 0 ds) (callIo io ρ (f ds)) else .bad := by
  rw [← ioChk_ap]
  unfold kCallIo
  by_cases h : ds.length = n
  · rw [if_pos h]
    cases ioChk (io.map (·.1)) ds with
    | true => rw [if_pos ⟨h, rfl⟩]; rfl
    | false => rw [if_neg (fun z => by cases z.2)]; rfl
  · rw [if_neg h, if_neg fun z => h z.1]
@[simp] theorem ioD_t {es : List D} : ioD true (.lst es) = imms es := id rfl
@[simp] theorem ioD_f {d : D} : ioD false d = imm d := by cases d <;> rfl
@[simp] theorem ioChk1_nil {io : List Nat} {k : Nat} : ioChk1 io k [] = true := id rfl
@[simp] theorem ioChk1_cons {io : List Nat} {k : Nat} {d : D} {ds : List D} : ioChk1 io k (d :: ds) = (ioD (io.contains k) d && ioChk1 io (k + 1) ds) := id rfl
/-! tests -/
def kT (d : D) (ρ : Env) : Res Bool := match d with
  | .bl k => .ok k ρ
  | _ => .bad
@[simp] theorem bT_ap {e : Env → Res D} {ρ : Env} : bT e ρ = (e ρ).bind kT := id rfl
@[simp] theorem kT_b {k : Bool} {ρ : Env} : kT (.bl k) ρ = .ok k ρ := id rfl
def optB (o : Option Bool) (ρ : Env) : Res Bool := match o with
  | some k => .ok k ρ
  | none => .bad
@[simp] theorem optB_s {k : Bool} {ρ : Env} : optB (some k) ρ = .ok k ρ := id rfl
def kTru (d : D) (ρ : Env) : Res Bool := optB (truD d) ρ
@[simp] theorem bTru_ap {e : Env → Res D} {ρ : Env} : bTru e ρ = (e ρ).bind kTru := id rfl
@[simp] theorem kTru_ap {d : D} {ρ : Env} : kTru d ρ = optB (truD d) ρ := id rfl
def kAnd (b : Env → Res Bool) (x : Bool) (ρ : Env) : Res Bool := if x = true then b ρ else .ok false ρ
def kOr (b : Env → Res Bool) (x : Bool) (ρ : Env) : Res Bool := if x = true then .ok true ρ else b ρ
def kNotB (x : Bool) (ρ : Env) : Res Bool := .ok (!x) ρ
@[simp] theorem bAnd_ap {a b : Env → Res Bool} {ρ : Env} : bAnd a b ρ = (a ρ).bind (kAnd b) := id rfl
@[simp] theorem bOr_ap {a b : Env → Res Bool} {ρ : Env} : bOr a b ρ = (a ρ).bind (kOr b) := id rfl
@[simp] theorem bNot_ap {a : Env → Res Bool} {ρ : Env} : bNot a ρ = (a ρ).bind kNotB := id rfl
@[simp] theorem kAnd_t {b : Env → Res Bool} {ρ : Env} : kAnd b true ρ = b ρ := id rfl
@[simp] theorem kAnd_f {b : Env → Res Bool} {ρ : Env} : kAnd b false ρ = .ok false ρ := id rfl
@[simp] theorem kOr_t {b : Env → Res Bool} {ρ : Env} : kOr b true ρ = .ok true ρ := id rfl
@[simp] theorem kOr_f {b : Env → Res Bool} {ρ : Env} : kOr b false ρ = b ρ := id rfl
@[simp] theorem kNotB_ap {x : Bool} {ρ : Env} : kNotB x ρ = .ok (!x) ρ := id rfl
/-! statements -/
def Out.seq (u : Env → Out) (o : Out) : Out := match o with
  | .nx ρ => u ρ
  | o => o
@[simp] theorem seq_nx {u : Env → Out} {ρ : Env} : Out.seq u (.nx ρ) = u ρ := id rfl
@[simp] theorem seq_ret {u : Env → Out} {d : D} {ρ : Env} : Out.seq u (.ret d ρ) = .ret d ρ := id rfl
@[simp] theorem seq_brk {u : Env → Out} {ρ : Env} : Out.seq u (.brk ρ) = .brk ρ := id rfl
@[simp] theorem seq_ct {u : Env → Out} {ρ : Env} : Out.seq u (.ct ρ) = .ct ρ := id rfl
@[simp] theorem seq_exc {u : Env → Out} {x : String} {ρ : Env} : Out.seq u (.exc x ρ) = .exc x ρ := id rfl
@[simp] theorem seq_bad {u : Env → Out} : Out.seq u .bad = .bad := id rfl
@[simp] theorem sSeq_ap {s u : Env → Out} {ρ : Env} : sSeq s u ρ = Out.seq u (s ρ) := by unfold sSeq Out.seq; cases s ρ <;> rfl
def Out.seqR (u : Env → Out) (o : Out) : Out := match o with
  | .nx ρ => u ρ
  | .exc x ρ => .exc x ρ
  | _ => .bad
@[simp] theorem seqR_nx {u : Env → Out} {ρ : Env} : Out.seqR u (.nx ρ) = u ρ := id rfl
@[simp] theorem seqR_exc {u : Env → Out} {x : String} {ρ : Env} : Out.seqR u (.exc x ρ) = .exc x ρ := id rfl
@[simp] theorem sSeqR_ap {s u : Env → Out} {ρ : Env} : sSeqR s u ρ = Out.seqR u (s ρ) := by unfold sSeqR Out.seqR; cases s ρ <;> rfl
@[simp] theorem then_ok {f : D → Env → Out} {d : D} {ρ : Env} : (Res.ok d ρ).then f = f d ρ := id rfl
@[simp] theorem then_exc {f : D → Env → Out} {x : String} {ρ : Env} : (Res.exc x ρ : Res D).then f = .exc x ρ := id rfl
@[simp] theorem then_bad {f : D → Env → Out} : (Res.bad : Res D).then f = .bad := id rfl
@[simp] theorem thenB_ok {f : Bool → Env → Out} {d : Bool} {ρ : Env} : (Res.ok d ρ).thenB f = f d ρ := id rfl
@[simp] theorem thenB_exc {f : Bool → Env → Out} {x : String} {ρ : Env} : (Res.exc x ρ : Res Bool).thenB f = .exc x ρ := id rfl
@[simp] theorem thenB_bad {f : Bool → Env → Out} : (Res.bad : Res Bool).thenB f = .bad := id rfl
def kAsg (i : Nat) (d : D) (ρ : Env) : Out := .nx (ρ.set i (some d))
@[simp] theorem sAsg_ap {i : Nat} {e : Env → Res D} {ρ : Env} : sAsg i e ρ = (e ρ).then (kAsg i) := id rfl
@[simp] theorem kAsg_ap {i : Nat} {d : D} {ρ : Env} : kAsg i d ρ = .nx (ρ.set i (some d)) := id rfl
def kRet (d : D) (ρ : Env) : Out := .ret d ρ
@[simp] theorem sRet_ap {e : Env → Res D} {ρ : Env} : sRet e ρ = (e ρ).then kRet := id rfl
@[simp] theorem kRet_ap {d : D} {ρ : Env} : kRet d ρ = .ret d ρ := id rfl
def kDrop (_ : D) (ρ : Env) : Out := .nx ρ
@[simp] theorem sDrop_ap {e : Env → Res D} {ρ : Env} : sDrop e ρ = (e ρ).then kDrop := id rfl
@[simp] theorem kDrop_ap {d : D} {ρ : Env} : kDrop d ρ = .nx ρ := id rfl
@[simp] theorem sRetN_ap {ρ : Env} : sRetN ρ = .ret .non ρ := id rfl
@[simp] theorem sNext_ap {ρ : Env} : sNext ρ = .nx ρ := id rfl
@[simp] theorem sBrk_ap {ρ : Env} : sBrk ρ = .brk ρ := id rfl
@[simp] theorem sCt_ap {ρ : Env} : sCt ρ = .ct ρ := id rfl
@[simp] theorem sRaise_ap {x : String} {ρ : Env} : sRaise x ρ = .exc x ρ := id rfl
def kIfS (s u : Env → Out) (k : Bool) (ρ : Env) : Out := if k = true then s ρ else u ρ
@[simp] theorem sIf_ap {b : Env → Res Bool} {s u : Env → Out} {ρ : Env} : sIf b s u ρ = (b ρ).thenB (kIfS s u) := id rfl
@[simp] theorem kIfS_t {s u : Env → Out} {ρ : Env} : kIfS s u true ρ = s ρ := id rfl
@[simp] theorem kIfS_f {s u : Env → Out} {ρ : Env} : kIfS s u false ρ = u ρ := id rfl
def forR (g : D → Env → Option Env) (body : Env → Out) (r : Res (List D)) : Out := match r with
  | .ok xs ρ1 => forL g body xs ρ1
  | .exc x ρ1 => .exc x ρ1
  | .bad => .bad
@[simp] theorem sFor_ap {it : Env → Res (List D)} {g : D → Env → Option Env} {body : Env → Out} {ρ : Env} : sFor it g body ρ = forR g body (it ρ) := id rfl
@[simp] theorem forR_ok {g : D → Env → Option Env} {body : Env → Out} {xs : List D} {ρ : Env} : forR g body (.ok xs ρ) = forL g body xs ρ := id rfl
@[simp] theorem forL_nil {g : D → Env → Option Env} {body : Env → Out} {ρ : Env} : forL g body [] ρ = .nx ρ := id rfl
def Out.loop (k : Env → Out) (o : Out) : Out := match o with
  | .nx ρ => k ρ
  | .ct ρ => k ρ
  | .brk ρ => .nx ρ
  | o => o
@[simp] theorem loop_nx {k : Env → Out} {ρ : Env} : Out.loop k (.nx ρ) = k ρ := id rfl
@[simp] theorem loop_ct {k : Env → Out} {ρ : Env} : Out.loop k (.ct ρ) = k ρ := id rfl
@[simp] theorem loop_brk {k : Env → Out} {ρ : Env} : Out.loop k (.brk ρ) = .nx ρ := id rfl
@[simp] theorem loop_ret {k : Env → Out} {d : D} {ρ : Env} : Out.loop k (.ret d ρ) = .ret d ρ := id rfl
@[simp] theorem loop_exc {k : Env → Out} {x : String} {ρ : Env} : Out.loop k (.exc x ρ) = .exc x ρ := id rfl
@[simp] theorem loop_bad {k : Env → Out} : Out.loop k .bad = .bad := id rfl
def forS (g : D → Env → Option Env) (body : Env → Out) (xs : List D) (o : Option Env) : Out := match o with
  | none => .bad
  | some ρ1 => Out.loop (forL g body xs) (body ρ1)
@[simp] theorem forS_s {g : D → Env → Option Env} {body : Env → Out} {xs : List D} {ρ : Env} : forS g body xs (some ρ) = Out.loop (forL g body xs) (body ρ) := id rfl
@[simp] theorem forL_cons {g : D → Env → Option Env} {body : Env → Out} {x : D} {xs : List D} {ρ : Env} : forL g body (x :: xs) ρ = forS g body xs (g x ρ) := by
  unfold forS
  rw [forL]
  cases g x ρ with
  | none => rfl
  | some ρ1 =>
    dsimp only
    unfold Out.loop
    cases body ρ1 <;> rfl
def putO (i : Nat) (ds : List D) (o : Out) : Out := match o with
  | .nx ρ' => .nx (ρ'.set i (some (.lst ds)))
  | .ret d ρ' => .ret d (ρ'.set i (some (.lst ds)))
  | .exc x ρ' => .exc x (ρ'.set i (some (.lst ds)))
  | _ => .bad
@[simp] theorem putO_nx {i : Nat} {ds : List D} {ρ : Env} : putO i ds (.nx ρ) = .nx (ρ.set i (some (.lst ds))) := id rfl
@[simp] theorem putO_ret {i : Nat} {ds : List D} {d : D} {ρ : Env} : putO i ds (.ret d ρ) = .ret d (ρ.set i (some (.lst ds))) := id rfl
@[simp] theorem putO_exc {i : Nat} {ds : List D} {x : String} {ρ : Env} : putO i ds (.exc x ρ) = .exc x (ρ.set i (some (.lst ds))) := id rfl
def forO1 (i : Nat) (g : D → Env → Option Env) (body : Env → Out) (ρ : Env) (o : Option D) : Out := match o with
  | some (.lst ds) => if imms ds = true then putO i ds (forL g body ds (ρ.set i none)) else .bad
  | _ => .bad
@[simp] theorem sForO_ap {i : Nat} {g : D → Env → Option Env} {body : Env → Out} {ρ : Env} : sForO i g body ρ = forO1 i g body ρ (slot ρ i) := id rfl
@[simp] theorem forO1_s {i : Nat} {g : D → Env → Option Env} {body : Env → Out} {ρ : Env} {ds : List D} : forO1 i g body ρ (some (.lst ds)) = uIf (imms ds) (putO i ds (forL g body ds (ρ.set i none))) := uIf_of
def forOG1 (i : Nat) (g : D → Env → Option Env) (body : List D → Env → Out) (ρ : Env) (o : Option D) : Out := match o with
  | some (.lst ds) => if imms ds = true then putO i ds (forL g (body ds) ds (ρ.set i none)) else .bad
  | _ => .bad
@[simp] theorem sForOG_ap {i : Nat} {g : D → Env → Option Env} {body : List D → Env → Out} {ρ : Env} : sForOG i g body ρ = forOG1 i g body ρ (slot ρ i) := id rfl
@[simp] theorem forOG1_s {i : Nat} {g : D → Env → Option Env} {body : List D → Env → Out} {ρ : Env} {ds : List D} : forOG1 i g body ρ (some (.lst ds)) = uIf (imms ds) (putO i ds (forL g (body ds) ds (ρ.set i none))) := uIf_of
@[simp] theorem sForP_ap {g : D → Env → Option Env} {body : Env → Out} {ds : List D} {ρ : Env} : sForP g body ds ρ = forL g body ds ρ := id rfl
def kItE (o : Option (List D)) (ρ : Env) : Res (List D) := match o with
  | some xs => .ok xs ρ
  | none => .bad
@[simp] theorem kItE_s {xs : List D} {ρ : Env} : kItE (some xs) ρ = .ok xs ρ := id rfl
def kItE1 (d : D) (ρ : Env) : Res (List D) := kItE (itemsD d) ρ
@[simp] theorem itE_ap {e : Env → Res D} {ρ : Env} : itE e ρ = (e ρ).bind kItE1 := id rfl
@[simp] theorem kItE1_ap {d : D} {ρ : Env} : kItE1 d ρ = kItE (itemsD d) ρ := id rfl
def kItO (f : List D → Option (List D)) (ds : List D) (ρ : Env) : Res (List D) := kItE (f ds) ρ
@[simp] theorem itO_ap {f : List D → Option (List D)} {as : Env → Res (List D)} {ρ : Env} : itO f as ρ = (as ρ).bind (kItO f) := id rfl
@[simp] theorem kItO_ap {f : List D → Option (List D)} {ds : List D} {ρ : Env} : kItO f ds ρ = kItE (f ds) ρ := id rfl
@[simp] theorem gNm_ap {i : Nat} {d : D} {ρ : Env} : gNm i d ρ = some (ρ.set i (some d)) := id rfl
@[simp] theorem gNils_ap {ρ : Env} : gNils [] ρ = some ρ := id rfl
@[simp] theorem gConss_ap {i : Nat} {g : List D → Env → Option Env} {d : D} {ds : List D} {ρ : Env} : gConss i g (d :: ds) ρ = g ds (ρ.set i (some d)) := id rfl
@[simp] theorem gTp_ap {g : List D → Env → Option Env} {ds : List D} {ρ : Env} : gTp g (.tup ds) ρ = oIf (imms ds) (g ds ρ) := oIf_of
def unpR (o : Option Env) : Out := match o with
  | some ρ => .nx ρ
  | none => .bad
@[simp] theorem unpR_s {ρ : Env} : unpR (some ρ) = .nx ρ := id rfl
def kUnp (g : List D → Env → Option Env) (d : D) (ρ : Env) : Out := match d with
  | .tup ds => unpR (g ds ρ)
  | _ => .bad
@[simp] theorem sUnp_ap {e : Env → Res D} {g : List D → Env → Option Env} {ρ : Env} : sUnp e g ρ = (e ρ).then (kUnp g) := id rfl
@[simp] theorem kUnp_t {g : List D → Env → Option Env} {ds : List D} {ρ : Env} : kUnp g (.tup ds) ρ = unpR (g ds ρ) := id rfl
def parR (i j : Nat) (r : Res (List D)) : Out := match r with
  | .ok ds ρ1 => (match ds with
    | [d, e] => .nx ((ρ1.set i (some d)).set j (some e))
    | _ => .bad)
  | .exc x ρ1 => .exc x ρ1
  | .bad => .bad
@[simp] theorem sPar_ap {i j : Nat} {as : Env → Res (List D)} {ρ : Env} : sPar i j as ρ = parR i j (as ρ) := id rfl
@[simp] theorem parR_ok {i j : Nat} {d e : D} {ρ : Env} : parR i j (.ok [d, e] ρ) = .nx ((ρ.set i (some d)).set j (some e)) := id rfl
def app2 (i : Nat) (d : D) (ρ : Env) (o : Option D) : Out := match o with
  | some (.lst ds) => if ds.length < 16777216 then .nx (ρ.set i (some (.lst (ds ++ [d])))) else .bad
  | _ => .bad
def kApp (i : Nat) (d : D) (ρ : Env) : Out := app2 i d ρ (slot ρ i)
def app1 (i : Nat) (e : Env → Res D) (ρ : Env) (o : Option D) : Out := match o with
  | some (.lst _) => (e ρ).then (kApp i)
  | _ => .bad
@[simp] theorem sAppend_ap {i : Nat} {e : Env → Res D} {ρ : Env} : sAppend i e ρ = app1 i e ρ (slot ρ i) := id rfl
@[simp] theorem app1_s {i : Nat} {e : Env → Res D} {ρ : Env} {ds : List D} : app1 i e ρ (some (.lst ds)) = (e ρ).then (kApp i) := id rfl
@[simp] theorem kApp_ap {i : Nat} {d : D} {ρ : Env} : kApp i d ρ = app2 i d ρ (slot ρ i) := id rfl
@[simp] theorem app2_s {i : Nat} {d : D} {ρ : Env} {ds : List D} : app2 i d ρ (some (.lst ds)) = if ds.length < 16777216 then .nx (ρ.set i (some (.lst (ds ++ [d])))) else .bad := id rfl
def ext2 (i : Nat) (d : D) (ρ : Env) (o : Option D) : Out := match o, d with
  | some (.lst ds), .lst es => if ds.length + es.length ≤ 16777216 then .nx (ρ.set i (some (.lst (ds ++ es)))) else .bad
  | _, _ => .bad
def kExt (i : Nat) (d : D) (ρ : Env) : Out := ext2 i d ρ (slot ρ i)
def ext1 (i : Nat) (e : Env → Res D) (ρ : Env) (o : Option D) : Out := match o with
  | some (.lst _) => (e ρ).then (kExt i)
  | _ => .bad
@[simp] theorem sExtend_ap {i : Nat} {e : Env → Res D} {ρ : Env} : sExtend i e ρ = ext1 i e ρ (slot ρ i) := id rfl
@[simp] theorem ext1_s {i : Nat} {e : Env → Res D} {ρ : Env} {ds : List D} : ext1 i e ρ (some (.lst ds)) = (e ρ).then (kExt i) := id rfl
@[simp] theorem kExt_ap {i : Nat} {d : D} {ρ : Env} : kExt i d ρ = ext2 i d ρ (slot ρ i) := id rfl
@[simp] theorem ext2_s {i : Nat} {ρ : Env} {ds es : List D} : ext2 i (.lst es) ρ (some (.lst ds)) = if ds.length + es.length ≤ 16777216 then .nx (ρ.set i (some (.lst (ds ++ es)))) else .bad := id rfl
def exu2 (i : Nat) (d : D) (ρ : Env) (o : Option D) : Out := match o, d with
  | some (.lst ds), .lst es => if ds.length + es.length ≤ 16777216 ∧ imms es = true then .nx (ρ.set i (some (.lst (ds ++ es)))) else .bad
  | _, _ => .bad
def kExu (i : Nat) (d : D) (ρ : Env) : Out := exu2 i d ρ (slot ρ i)
def exu1 (i : Nat) (e : Env → Res D) (ρ : Env) (o : Option D) : Out := match o with
  | some (.lst _) => (e ρ).then (kExu i)
  | _ => .bad
@[simp] theorem sExtend2_ap {i : Nat} {e : Env → Res D} {ρ : Env} : sExtend2 i e ρ = exu1 i e ρ (slot ρ i) := id rfl
@[simp] theorem exu1_s {i : Nat} {e : Env → Res D} {ρ : Env} {ds : List D} : exu1 i e ρ (some (.lst ds)) = (e ρ).then (kExu i) := id rfl
@[simp] theorem kExu_ap {i : Nat} {d : D} {ρ : Env} : kExu i d ρ = exu2 i d ρ (slot ρ i) := id rfl
@[simp] theorem exu2_s {i : Nat} {ρ : Env} {ds es : List D} : exu2 i (.lst es) ρ (some (.lst ds)) = uIf (imms es) (if ds.length + es.length ≤ 16777216 then .nx (ρ.set i (some (.lst (ds ++ es)))) else .bad) := by
  show (if _ then _ else _) = _
  cases imms es <;> simp
def setL3 (i : Nat) (d : D) (ds : List D) (ρ : Env) (o : Option Nat) : Out := match o with
  | some j => if imms ds = true then .nx (ρ.set i (some (.lst (ds.set j d)))) else .bad
  | none => .bad
def setL2 (i : Nat) (d : D) (ds : List D) (ρ1 : Env) (k : D) (_ : Env) : Out := match k with
  | .int k => setL3 i d ds ρ1 (ixN ds.length k)
  | _ => .bad
def setL1 (i : Nat) (ix : Env → Res D) (d : D) (ρ : Env) (o : Option D) : Out := match o with
  | some (.lst ds) => (ix ρ).then (setL2 i d ds ρ)
  | _ => .bad
def kSetL (i : Nat) (ix : Env → Res D) (d : D) (ρ : Env) : Out := setL1 i ix d ρ (slot ρ i)
@[simp] theorem sSetL_ap {i : Nat} {e ix : Env → Res D} {ρ : Env} : sSetL i e ix ρ = (e ρ).then (kSetL i ix) := id rfl
@[simp] theorem kSetL_ap {i : Nat} {ix : Env → Res D} {d : D} {ρ : Env} : kSetL i ix d ρ = setL1 i ix d ρ (slot ρ i) := id rfl
@[simp] theorem setL1_s {i : Nat} {ix : Env → Res D} {d : D} {ρ : Env} {ds : List D} : setL1 i ix d ρ (some (.lst ds)) = (ix ρ).then (setL2 i d ds ρ) := id rfl
@[simp] theorem setL2_i {i : Nat} {d : D} {ds : List D} {ρ ρ' : Env} {k : Int} : setL2 i d ds ρ (.int k) ρ' = setL3 i d ds ρ (ixN ds.length k) := id rfl
@[simp] theorem setL3_s {i j : Nat} {d : D} {ds : List D} {ρ : Env} : setL3 i d ds ρ (some j) = uIf (imms ds) (.nx (ρ.set i (some (.lst (ds.set j d))))) := uIf_of
def setI3 (i : Nat) (d k : D) (ρ : Env) (o : Option D) : Out := match k, o with
  | .int k, some (.lst ds) => setL3 i d ds ρ (ixN ds.length k)
  | _, _ => .bad
def setI2 (i : Nat) (d k : D) (ρ : Env) : Out := setI3 i d k ρ (slot ρ i)
def setI1 (i : Nat) (ix : Env → Res D) (d : D) (ρ : Env) (o : Option D) : Out := match o with
  | some (.lst _) => (ix ρ).then (setI2 i d)
  | _ => .bad
def kSetI (i : Nat) (ix : Env → Res D) (d : D) (ρ : Env) : Out := setI1 i ix d ρ (slot ρ i)
@[simp] theorem sSetLI_ap {i : Nat} {e ix : Env → Res D} {ρ : Env} : sSetLI i e ix ρ = (e ρ).then (kSetI i ix) := id rfl
@[simp] theorem kSetI_ap {i : Nat} {ix : Env → Res D} {d : D} {ρ : Env} : kSetI i ix d ρ = setI1 i ix d ρ (slot ρ i) := id rfl
@[simp] theorem setI1_s {i : Nat} {ix : Env → Res D} {d : D} {ρ : Env} {ds : List D} : setI1 i ix d ρ (some (.lst ds)) = (ix ρ).then (setI2 i d) := id rfl
@[simp] theorem setI2_ap {i : Nat} {d k : D} {ρ : Env} : setI2 i d k ρ = setI3 i d k ρ (slot ρ i) := id rfl
@[simp] theorem setI3_s {i : Nat} {d : D} {ds : List D} {ρ : Env} {k : Int} : setI3 i d (.int k) ρ (some (.lst ds)) = setL3 i d ds ρ (ixN ds.length k) := id rfl
/-! try -/
@[simp] theorem clr_nx {i : Nat} {ρ : Env} : Out.clr i (.nx ρ) = .nx (ρ.set i none) := id rfl
@[simp] theorem clr_brk {i : Nat} {ρ : Env} : Out.clr i (.brk ρ) = .brk (ρ.set i none) := id rfl
@[simp] theorem clr_ct {i : Nat} {ρ : Env} : Out.clr i (.ct ρ) = .ct (ρ.set i none) := id rfl
@[simp] theorem clr_ret {i : Nat} {d : D} {ρ : Env} : Out.clr i (.ret d ρ) = .ret d ρ := id rfl
@[simp] theorem noX_nx {ρ : Env} : Out.noX (.nx ρ) = .nx ρ := id rfl
@[simp] theorem noX_brk {ρ : Env} : Out.noX (.brk ρ) = .brk ρ := id rfl
@[simp] theorem noX_ct {ρ : Env} : Out.noX (.ct ρ) = .ct ρ := id rfl
@[simp] theorem noX_ret {d : D} {ρ : Env} : Out.noX (.ret d ρ) = .ret d ρ := id rfl
def tryA2 (i : Nat) (s : String → Env → Out) (x : String) (ρ : Env) (o : Option Bool) : Out := match o with
  | some true => if i < ρ.length then (s x (ρ.set i (some (.ex x)))).clr i else .bad
  | some false => .exc x ρ
  | none => .bad
def tryA (m : List (String × Bool)) (i : Nat) (s : String → Env → Out) (o : Out) : Out := match o with
  | .exc x ρ1 => tryA2 i s x ρ1 (m.lookup x)
  | o => o
@[simp] theorem sTryAs_ap {m : List (String × Bool)} {i : Nat} {b : Env → Out} {s : String → Env → Out} {ρ : Env} : sTryAs m i b s ρ = tryA m i s (b ρ) := by
  unfold sTryAs tryA
  cases b ρ <;> rfl
@[simp] theorem tryA_nx {m : List (String × Bool)} {i : Nat} {s : String → Env → Out} {ρ : Env} : tryA m i s (.nx ρ) = .nx ρ := id rfl
@[simp] theorem tryA_ret {m : List (String × Bool)} {i : Nat} {s : String → Env → Out} {d : D} {ρ : Env} : tryA m i s (.ret d ρ) = .ret d ρ := id rfl
@[simp] theorem tryA_ct {m : List (String × Bool)} {i : Nat} {s : String → Env → Out} {ρ : Env} : tryA m i s (.ct ρ) = .ct ρ := id rfl
@[simp] theorem tryA_brk {m : List (String × Bool)} {i : Nat} {s : String → Env → Out} {ρ : Env} : tryA m i s (.brk ρ) = .brk ρ := id rfl
@[simp] theorem tryA_exc {m : List (String × Bool)} {i : Nat} {s : String → Env → Out} {x : String} {ρ : Env} : tryA m i s (.exc x ρ) = tryA2 i s x ρ (m.lookup x) := id rfl
@[simp] theorem tryA2_t {i : Nat} {s : String → Env → Out} {x : String} {ρ : Env} : tryA2 i s x ρ (some true) = if i < ρ.length then (s x (ρ.set i (some (.ex x)))).clr i else .bad := id rfl
@[simp] theorem tryA2_f {i : Nat} {s : String → Env → Out} {x : String} {ρ : Env} : tryA2 i s x ρ (some false) = .exc x ρ := id rfl
def tryO2 (s : Env → Out) (x : String) (ρ : Env) (o : Option Bool) : Out := match o with
  | some true => (s ρ).noX
  | some false => .exc x ρ
  | none => .bad
def tryO (m : List (String × Bool)) (s : Env → Out) (o : Out) : Out := match o with
  | .exc x ρ1 => tryO2 s x ρ1 (m.lookup x)
  | o => o
@[simp] theorem sTryOn_ap {m : List (String × Bool)} {b s : Env → Out} {ρ : Env} : sTryOn m b s ρ = tryO m s (b ρ) := by
  unfold sTryOn tryO
  cases b ρ <;> rfl
@[simp] theorem tryO_nx {m : List (String × Bool)} {s : Env → Out} {ρ : Env} : tryO m s (.nx ρ) = .nx ρ := id rfl
@[simp] theorem tryO_ret {m : List (String × Bool)} {s : Env → Out} {d : D} {ρ : Env} : tryO m s (.ret d ρ) = .ret d ρ := id rfl
@[simp] theorem tryO_ct {m : List (String × Bool)} {s : Env → Out} {ρ : Env} : tryO m s (.ct ρ) = .ct ρ := id rfl
@[simp] theorem tryO_brk {m : List (String × Bool)} {s : Env → Out} {ρ : Env} : tryO m s (.brk ρ) = .brk ρ := id rfl
@[simp] theorem tryO_exc {m : List (String × Bool)} {s : Env → Out} {x : String} {ρ : Env} : tryO m s (.exc x ρ) = tryO2 s x ρ (m.lookup x) := id rfl
@[simp] theorem tryO2_t {s : Env → Out} {x : String} {ρ : Env} : tryO2 s x ρ (some true) = (s ρ).noX := id rfl
@[simp] theorem tryO2_f {s : Env → Out} {x : String} {ρ : Env} : tryO2 s x ρ (some false) = .exc x ρ := id rfl
@[simp] theorem eIsE_ap {m : List (String × Bool)} {x : String} {ρ : Env} : eIsE m x ρ = optR ((m.lookup x).map D.bl) ρ := by unfold eIsE; cases m.lookup x <;> rfl
def tryK2 (i j : Nat) (r : String → Env → Out) (x : String) (ρ : Env) (o : Option Bool) : Out := match o with
  | some true => if i < ρ.length ∧ j < ρ.length then r x (((ρ.set i (some (.ex x))).set j (some (.ex x))).set i none) else .bad
  | some false => .exc x ρ
  | none => .bad
def tryK (m : List (String × Bool)) (i j : Nat) (r : String → Env → Out) (o : Out) : Out := match o with
  | .nx ρ1 => r "" ρ1
  | .exc x ρ1 => tryK2 i j r x ρ1 (m.lookup x)
  | o => o
@[simp] theorem sTryK_ap {m : List (String × Bool)} {i j : Nat} {b : Env → Out} {r : String → Env → Out} {ρ : Env} : sTryK m i j b r ρ = tryK m i j r (b ρ) := by
  unfold sTryK tryK
  cases b ρ with
  | exc x ρ1 => rfl
  | _ => rfl
@[simp] theorem tryK_nx {m : List (String × Bool)} {i j : Nat} {r : String → Env → Out} {ρ : Env} : tryK m i j r (.nx ρ) = r "" ρ := id rfl
@[simp] theorem tryK_ret {m : List (String × Bool)} {i j : Nat} {r : String → Env → Out} {d : D} {ρ : Env} : tryK m i j r (.ret d ρ) = .ret d ρ := id rfl
@[simp] theorem tryK_exc {m : List (String × Bool)} {i j : Nat} {r : String → Env → Out} {x : String} {ρ : Env} : tryK m i j r (.exc x ρ) = tryK2 i j r x ρ (m.lookup x) := id rfl
@[simp] theorem tryK2_t {i j : Nat} {r : String → Env → Out} {x : String} {ρ : Env} : tryK2 i j r x ρ (some true) = if i < ρ.length ∧ j < ρ.length then r x (((ρ.set i (some (.ex x))).set j (some (.ex x))).set i none) else .bad := id rfl
@[simp] theorem tryK2_f {i j : Nat} {r : String → Env → Out} {x : String} {ρ : Env} : tryK2 i j r x ρ (some false) = .exc x ρ := id rfl
@[simp] theorem eIsT_ap {ms : List (List (String × Bool))} {x : String} {ρ : Env} : eIsT ms x ρ = if (ms.all fun m => (m.lookup x).isSome) = true then optR ((anyT x ms).map D.bl) ρ else .bad := by
  unfold eIsT
  split
  · cases anyT x ms <;> rfl
  · rfl
/-! comprehensions -/
def kComp (vs : List Nat) (chk : Bool) (g : D → Env → Option Env) (t : Env → Res Bool) (e : Env → Res D) (xs : List D) (ρ : Env) : Res D := if xs.length < 16777216 then optR ((compL chk g t e (wipeE ρ vs) xs).map D.lst) ρ else .bad
@[simp] theorem eComp_ap {it : Env → Res (List D)} {vs : List Nat} {chk : Bool} {g : D → Env → Option Env} {t : Env → Res Bool} {e : Env → Res D} {ρ : Env} : eComp it vs chk g t e ρ = (it ρ).bind (kComp vs chk g t e) := by
  unfold eComp
  cases it ρ with
  | ok xs ρ1 =>
    rw [Res.bind_ok, Res.bind_ok]
    unfold kComp
    split
    · cases compL chk g t e (wipeE ρ1 vs) xs <;> rfl
    · rfl
  | exc x ρ1 => rfl
  | bad => rfl
@[simp] theorem kComp_ap {vs : List Nat} {chk : Bool} {g : D → Env → Option Env} {t : Env → Res Bool} {e : Env → Res D} {xs : List D} {ρ : Env} : kComp vs chk g t e xs ρ = if xs.length < 16777216 then optR ((compL chk g t e (wipeE ρ vs) xs).map D.lst) ρ else .bad := id rfl
def lstR (vs : List Nat) (r : Res (List D)) : Res D := match r with
  | .ok ys ρ2 => .ok (.lst ys) (wipeE ρ2 vs)
  | _ => .bad
@[simp] theorem lstR_ok {vs : List Nat} {ys : List D} {ρ : Env} : lstR vs (.ok ys ρ) = .ok (.lst ys) (wipeE ρ vs) := id rfl
def lstX (ρ : Env) (vs : List Nat) (r : Res (List D)) : Res D := match r with
  | .ok ys _ => .ok (.lst ys) ρ
  | .exc x ρ' => .exc x (wipeE ρ' vs)
  | .bad => .bad
@[simp] theorem lstX_ok {ρ o : Env} {vs : List Nat} {ys : List D} : lstX ρ vs (.ok ys o) = .ok (.lst ys) ρ := id rfl
@[simp] theorem lstX_exc {ρ o : Env} {vs : List Nat} {x : String} : lstX ρ vs (.exc x o) = .exc x (wipeE o vs) := id rfl
def kCompX (vs : List Nat) (chk : Bool) (g : D → Env → Option Env) (t : Env → Res Bool) (e : Env → Res D) (xs : List D) (ρ : Env) : Res D := if xs.length < 16777216 then lstX ρ vs (compX chk g t e (wipeE ρ vs) xs) else .bad
@[simp] theorem eCompX_ap {it : Env → Res (List D)} {vs : List Nat} {chk : Bool} {g : D → Env → Option Env} {t : Env → Res Bool} {e : Env → Res D} {ρ : Env} : eCompX it vs chk g t e ρ = (it ρ).bind (kCompX vs chk g t e) := by
  unfold eCompX
  cases it ρ with
  | ok xs ρ1 =>
    rw [Res.bind_ok, Res.bind_ok]
    unfold kCompX
    split
    · cases compX chk g t e (wipeE ρ1 vs) xs <;> rfl
    · rfl
  | exc x ρ1 => rfl
  | bad => rfl
@[simp] theorem kCompX_ap {vs : List Nat} {chk : Bool} {g : D → Env → Option Env} {t : Env → Res Bool} {e : Env → Res D} {xs : List D} {ρ : Env} : kCompX vs chk g t e xs ρ = if xs.length < 16777216 then lstX ρ vs (compX chk g t e (wipeE ρ vs) xs) else .bad := id rfl
def consX (r : Res D) (q : Res (List D)) : Res (List D) := match r with
  | .ok y _ => (match q with
    | .ok ys _ => .ok (y :: ys) []
    | .exc x ρ' => .exc x ρ'
    | .bad => .bad)
  | .exc x ρ' => .exc x ρ'
  | .bad => .bad
@[simp] theorem consX_oo {y : D} {ys : List D} {o o2 : Env} : consX (.ok y o) (.ok ys o2) = .ok (y :: ys) [] := id rfl
@[simp] theorem consX_oe {y : D} {x : String} {o o2 : Env} : consX (.ok y o) (.exc x o2) = .exc x o2 := id rfl
@[simp] theorem consX_e {x : String} {q : Res (List D)} {o : Env} : consX (.exc x o) q = .exc x o := id rfl
def atX (o : Option Env) (f : Env → Res (List D)) : Res (List D) := match o with
  | some ρ => f ρ
  | none => .bad
@[simp] theorem atX_s {ρ : Env} {f : Env → Res (List D)} : atX (some ρ) f = f ρ := id rfl
theorem compX_c {g : D → Env → Option Env} {e : Env → Res D} {ρ : Env} {x : D} {xs : List D} : compX false g (fun ρ => .ok true ρ) e ρ (x :: xs) = atX (g x ρ) fun ρ1 => consX (e ρ1) (compX false g (fun ρ => .ok true ρ) e ρ xs) := by
  rw [compX, if_neg (by simp)]
  cases g x ρ with
  | none => rfl
  | some ρ1 =>
    dsimp only [atX]
    cases e ρ1 <;> rfl
@[simp] theorem compX_n {chk : Bool} {g : D → Env → Option Env} {t : Env → Res Bool} {e : Env → Res D} {ρ : Env} : compX chk g t e ρ [] = .ok [] [] := id rfl
def kCompI (vs : List Nat) (chk : Bool) (g : D → Env → Option Env) (t : Env → Res Bool) (e : Env → Res D) (xs : List D) (ρ : Env) : Res D := if xs.length < 16777216 then lstR vs (compI chk g t e vs ρ xs) else .bad
@[simp] theorem eCompI_ap {it : Env → Res (List D)} {vs : List Nat} {chk : Bool} {g : D → Env → Option Env} {t : Env → Res Bool} {e : Env → Res D} {ρ : Env} : eCompI it vs chk g t e ρ = (it ρ).bind (kCompI vs chk g t e) := by
  unfold eCompI
  cases it ρ with
  | ok xs ρ1 =>
    rw [Res.bind_ok, Res.bind_ok]
    unfold kCompI
    split
    · cases compI chk g t e vs ρ1 xs <;> rfl
    · rfl
  | exc x ρ1 => rfl
  | bad => rfl
@[simp] theorem kCompI_ap {vs : List Nat} {chk : Bool} {g : D → Env → Option Env} {t : Env → Res Bool} {e : Env → Res D} {xs : List D} {ρ : Env} : kCompI vs chk g t e xs ρ = if xs.length < 16777216 then lstR vs (compI chk g t e vs ρ xs) else .bad := id rfl
/-! a def -/
@[simp] theorem outF_ret0 {d : D} {ρ : Env} : outF [] (.ret d ρ) = .ok d [] := id rfl
@[simp] theorem outF_nx0 {ρ : Env} : outF [] (.nx ρ) = .ok .non [] := id rfl
@[simp] theorem outF_exc0 {x : String} {ρ : Env} : outF [] (.exc x ρ) = .exc x [] := id rfl
def ioAl (io : List Nat) (ρ : Env) : Bool := io.all fun k => ((slot ρ k)).isSome
@[simp] theorem ioAl_nil {ρ : Env} : ioAl [] ρ = true := id rfl
@[simp] theorem ioAl_cons {k : Nat} {io : List Nat} {ρ : Env} : ioAl (k :: io) ρ = (((slot ρ k)).isSome && ioAl io ρ) := id rfl
@[simp] theorem outF_retS {k : Nat} {io : List Nat} {d : D} {ρ : Env} : outF (k :: io) (.ret d ρ) = rIf (ioAl (k :: io) ρ) (.ok d ((k :: io).map fun k => (slot ρ k))) := rIf_of
@[simp] theorem outF_nxS {k : Nat} {io : List Nat} {ρ : Env} : outF (k :: io) (.nx ρ) = rIf (ioAl (k :: io) ρ) (.ok .non ((k :: io).map fun k => (slot ρ k))) := rIf_of
@[simp] theorem outF_excS {k : Nat} {io : List Nat} {x : String} {ρ : Env} : outF (k :: io) (.exc x ρ) = rIf (ioAl (k :: io) ρ) (.exc x ((k :: io).map fun k => (slot ρ k))) := rIf_of
@[simp] theorem runF_ap {m : Nat} {io : List Nat} {body : Env → Out} {ds : List D} : runF m io body ds = outF io (body (ds.map some ++ List.replicate m none)) := id rfl
@[simp] theorem setOuts_nn {k : Nat} {o ρ : Env} : setOuts [(k, none)] o ρ = ρ := by cases o with
  | nil => rfl
  | cons x xs => cases xs <;> rfl
/-! values -/
def i62 (j : Int) : Bool := decide (-(2 ^ 62) ≤ j ∧ j < 2 ^ 62)
/-- a number's figures -/
def strI (i : Int) : Str := toString i
theorem i62_b {j : Int} (h : -1000000000 ≤ j) (h2 : j ≤ 1000000000) : i62 j = true := decide_eq_true (by omega)
theorem sm_b {i : Int} (h1 : -1000000000000000000000000000000 ≤ i) (h2 : i ≤ 1000000000000000000000000000000) : sm i = true := sm_of 100 (by omega) (by decide)
theorem small_b {i : Int} (h1 : -1000000000000000000000000000000 ≤ i) (h2 : i ≤ 1000000000000000000000000000000) : small i = true := small_of 100 (by omega) (by decide)
section
variable {i j : Int} {s z : Str} {b k : Bool} {xs ys : List D} {d : D}
@[simp] theorem imms_nil' : imms [] = true := id rfl
@[simp] theorem imms_cons' : imms (d :: xs) = (imm d && imms xs) := by rw [imms]
@[simp] theorem add_int : addD (.int i) (.int j) = some (.int (i + j)) := id rfl
@[simp] theorem add_str : addD (.str s) (.str z) = if s.length + z.length ≤ 16777216 then some (.str (s ++ z)) else none := id rfl
@[simp] theorem add_lst : addD (.lst xs) (.lst ys) = oIf (imms xs && imms ys) (if xs.length + ys.length ≤ 16777216 then some (.lst (xs ++ ys)) else none) := by
  show (if _ then _ else _) = _
  cases imms xs <;> cases imms ys <;> simp
@[simp] theorem add_tup : addD (.tup xs) (.tup ys) = oIf (imms xs && imms ys) (if xs.length + ys.length ≤ 16777216 then some (.tup (xs ++ ys)) else none) := by
  show (if _ then _ else _) = _
  cases imms xs <;> cases imms ys <;> simp
@[simp] theorem sub_int : subD (.int i) (.int j) = some (.int (i - j)) := id rfl
@[simp] theorem mul_int : mulD (.int i) (.int j) = oIf (sm i && sm j) (some (.int (i * j))) := by
  show (if _ then _ else _) = _
  cases sm i <;> cases sm j <;> simp
@[simp] theorem mul_str : mulD (.str s) (.int j) = if 2 ≤ j ∧ 0 < s.length ∧ s.length * j.toNat ≤ 1000000 then some (.str (repS s j.toNat)) else none := id rfl
@[simp] theorem div_int : divD (.int i) (.int j) = oIf (small j) (if 0 < j then some (.int (i / j)) else if j ≠ 0 then some (.int (i.fdiv j)) else none) := by
  show (if _ then _ else _) = _
  cases small j <;> simp
@[simp] theorem mod_int : modD (.int i) (.int j) = if 0 < j then some (.int (i % j)) else if j ≠ 0 then some (.int (i.fmod j)) else none := id rfl
@[simp] theorem pow_int : powD (.int i) (.int j) = if (0 ≤ j ∧ j ≤ 1000) ∧ (-(2 ^ 64) < i ∧ i < 2 ^ 64) then some (.int (i ^ j.toNat)) else none := id rfl
@[simp] theorem neg_int : negD (.int i) = some (.int (-i)) := id rfl
@[simp] theorem eq_int : eqD (.int i) (.int j) = some (.bl (decide (i = j))) := id rfl
@[simp] theorem eq_str : eqD (.str s) (.str z) = some (.bl (decide (s = z))) := id rfl
@[simp] theorem eq_bl : eqD (.bl b) (.bl k) = some (.bl (decide (b = k))) := id rfl
@[simp] theorem eq_nn : eqD .non .non = some (.bl true) := id rfl
@[simp] theorem eq_ni : eqD .non (.int i) = some (.bl false) := id rfl
@[simp] theorem eq_ns : eqD .non (.str s) = some (.bl false) := id rfl
@[simp] theorem eq_in : eqD (.int i) .non = some (.bl false) := id rfl
@[simp] theorem eq_sn : eqD (.str s) .non = some (.bl false) := id rfl
@[simp] theorem ne_int : neD (.int i) (.int j) = some (.bl (!decide (i = j))) := id rfl
@[simp] theorem ne_str : neD (.str s) (.str z) = some (.bl (!decide (s = z))) := id rfl
@[simp] theorem ne_bl : neD (.bl b) (.bl k) = some (.bl (!decide (b = k))) := id rfl
@[simp] theorem ne_nn : neD .non .non = some (.bl false) := id rfl
@[simp] theorem ne_ni : neD .non (.int i) = some (.bl true) := id rfl
@[simp] theorem ne_ns : neD .non (.str s) = some (.bl true) := id rfl
@[simp] theorem ne_in : neD (.int i) .non = some (.bl true) := id rfl
@[simp] theorem ne_sn : neD (.str s) .non = some (.bl true) := id rfl
def inR (b : Bool) (x : Bool) (o : Option Bool) : Option Bool := match b with
  | true => some x
  | false => o
@[simp] theorem inR_t {x : Bool} {o : Option Bool} : inR true x o = some x := id rfl
@[simp] theorem inR_f {x : Bool} {o : Option Bool} : inR false x o = o := id rfl
/-- two things looked at whole -/
def eqW (d e : D) : Option Bool := oIf (shp d && shp e) (some (eqv d e))
@[simp] theorem eq_tt : eqD (.tup xs) (.tup ys) = (eqW (.tup xs) (.tup ys)).map D.bl := by show (if _ then _ else _) = _; unfold eqW; cases shp _ <;> cases shp _ <;> rfl
@[simp] theorem eq_ll : eqD (.lst xs) (.lst ys) = (eqW (.lst xs) (.lst ys)).map D.bl := by show (if _ then _ else _) = _; unfold eqW; cases shp _ <;> cases shp _ <;> rfl
@[simp] theorem eq_lt : eqD (.lst xs) (.tup ys) = (eqW (.lst xs) (.tup ys)).map D.bl := by show (if _ then _ else _) = _; unfold eqW; cases shp _ <;> cases shp _ <;> rfl
@[simp] theorem eq_tl : eqD (.tup xs) (.lst ys) = (eqW (.tup xs) (.lst ys)).map D.bl := by show (if _ then _ else _) = _; unfold eqW; cases shp _ <;> cases shp _ <;> rfl
@[simp] theorem eq_tn : eqD (.tup xs) .non = (eqW (.tup xs) .non).map D.bl := by show (if _ then _ else _) = _; unfold eqW; cases shp _ <;> cases shp _ <;> rfl
@[simp] theorem eq_nt : eqD .non (.tup xs) = (eqW .non (.tup xs)).map D.bl := by show (if _ then _ else _) = _; unfold eqW; cases shp _ <;> cases shp _ <;> rfl
@[simp] theorem eq_nl : eqD .non (.lst xs) = (eqW .non (.lst xs)).map D.bl := by show (if _ then _ else _) = _; unfold eqW; cases shp _ <;> cases shp _ <;> rfl
@[simp] theorem eq_ln : eqD (.lst xs) .non = (eqW (.lst xs) .non).map D.bl := by show (if _ then _ else _) = _; unfold eqW; cases shp _ <;> cases shp _ <;> rfl
@[simp] theorem eq_si : eqD (.str s) (.int i) = (eqW (.str s) (.int i)).map D.bl := by show (if _ then _ else _) = _; unfold eqW; cases shp _ <;> cases shp _ <;> rfl
@[simp] theorem eq_is : eqD (.int i) (.str s) = (eqW (.int i) (.str s)).map D.bl := by show (if _ then _ else _) = _; unfold eqW; cases shp _ <;> cases shp _ <;> rfl
@[simp] theorem eq_st : eqD (.str s) (.tup xs) = (eqW (.str s) (.tup xs)).map D.bl := by show (if _ then _ else _) = _; unfold eqW; cases shp _ <;> cases shp _ <;> rfl
@[simp] theorem eq_ts : eqD (.tup xs) (.str s) = (eqW (.tup xs) (.str s)).map D.bl := by show (if _ then _ else _) = _; unfold eqW; cases shp _ <;> cases shp _ <;> rfl
@[simp] theorem eq_it : eqD (.int i) (.tup xs) = (eqW (.int i) (.tup xs)).map D.bl := by show (if _ then _ else _) = _; unfold eqW; cases shp _ <;> cases shp _ <;> rfl
@[simp] theorem eq_ti : eqD (.tup xs) (.int i) = (eqW (.tup xs) (.int i)).map D.bl := by show (if _ then _ else _) = _; unfold eqW; cases shp _ <;> cases shp _ <;> rfl
@[simp] theorem eq_ls : eqD (.lst xs) (.str s) = (eqW (.lst xs) (.str s)).map D.bl := by show (if _ then _ else _) = _; unfold eqW; cases shp _ <;> cases shp _ <;> rfl
@[simp] theorem eq_sl : eqD (.str s) (.lst xs) = (eqW (.str s) (.lst xs)).map D.bl := by show (if _ then _ else _) = _; unfold eqW; cases shp _ <;> cases shp _ <;> rfl
@[simp] theorem ne_tt : neD (.tup xs) (.tup ys) = (eqW (.tup xs) (.tup ys)).map fun b => D.bl (!b) := by show (if _ then _ else _) = _; unfold eqW; cases shp _ <;> cases shp _ <;> rfl
@[simp] theorem ne_ll : neD (.lst xs) (.lst ys) = (eqW (.lst xs) (.lst ys)).map fun b => D.bl (!b) := by show (if _ then _ else _) = _; unfold eqW; cases shp _ <;> cases shp _ <;> rfl
@[simp] theorem ne_lt : neD (.lst xs) (.tup ys) = (eqW (.lst xs) (.tup ys)).map fun b => D.bl (!b) := by show (if _ then _ else _) = _; unfold eqW; cases shp _ <;> cases shp _ <;> rfl
@[simp] theorem ne_tl : neD (.tup xs) (.lst ys) = (eqW (.tup xs) (.lst ys)).map fun b => D.bl (!b) := by show (if _ then _ else _) = _; unfold eqW; cases shp _ <;> cases shp _ <;> rfl
@[simp] theorem ne_tn : neD (.tup xs) .non = (eqW (.tup xs) .non).map fun b => D.bl (!b) := by show (if _ then _ else _) = _; unfold eqW; cases shp _ <;> cases shp _ <;> rfl
@[simp] theorem ne_nt : neD .non (.tup xs) = (eqW .non (.tup xs)).map fun b => D.bl (!b) := by show (if _ then _ else _) = _; unfold eqW; cases shp _ <;> cases shp _ <;> rfl
@[simp] theorem ne_nl : neD .non (.lst xs) = (eqW .non (.lst xs)).map fun b => D.bl (!b) := by show (if _ then _ else _) = _; unfold eqW; cases shp _ <;> cases shp _ <;> rfl
@[simp] theorem ne_ln : neD (.lst xs) .non = (eqW (.lst xs) .non).map fun b => D.bl (!b) := by show (if _ then _ else _) = _; unfold eqW; cases shp _ <;> cases shp _ <;> rfl
@[simp] theorem ne_si : neD (.str s) (.int i) = (eqW (.str s) (.int i)).map fun b => D.bl (!b) := by show (if _ then _ else _) = _; unfold eqW; cases shp _ <;> cases shp _ <;> rfl
@[simp] theorem ne_is : neD (.int i) (.str s) = (eqW (.int i) (.str s)).map fun b => D.bl (!b) := by show (if _ then _ else _) = _; unfold eqW; cases shp _ <;> cases shp _ <;> rfl
@[simp] theorem ne_st : neD (.str s) (.tup xs) = (eqW (.str s) (.tup xs)).map fun b => D.bl (!b) := by show (if _ then _ else _) = _; unfold eqW; cases shp _ <;> cases shp _ <;> rfl
@[simp] theorem ne_ts : neD (.tup xs) (.str s) = (eqW (.tup xs) (.str s)).map fun b => D.bl (!b) := by show (if _ then _ else _) = _; unfold eqW; cases shp _ <;> cases shp _ <;> rfl
@[simp] theorem ne_it : neD (.int i) (.tup xs) = (eqW (.int i) (.tup xs)).map fun b => D.bl (!b) := by show (if _ then _ else _) = _; unfold eqW; cases shp _ <;> cases shp _ <;> rfl
@[simp] theorem ne_ti : neD (.tup xs) (.int i) = (eqW (.tup xs) (.int i)).map fun b => D.bl (!b) := by show (if _ then _ else _) = _; unfold eqW; cases shp _ <;> cases shp _ <;> rfl
@[simp] theorem ne_ls : neD (.lst xs) (.str s) = (eqW (.lst xs) (.str s)).map fun b => D.bl (!b) := by show (if _ then _ else _) = _; unfold eqW; cases shp _ <;> cases shp _ <;> rfl
@[simp] theorem ne_sl : neD (.str s) (.lst xs) = (eqW (.str s) (.lst xs)).map fun b => D.bl (!b) := by show (if _ then _ else _) = _; unfold eqW; cases shp _ <;> cases shp _ <;> rfl
@[simp] theorem lt_int : ltD (.int i) (.int j) = some (.bl (decide (i < j))) := id rfl
@[simp] theorem le_int : leD (.int i) (.int j) = some (.bl (decide (i ≤ j))) := id rfl
@[simp] theorem gt_int : gtD (.int i) (.int j) = some (.bl (decide (j < i))) := id rfl
@[simp] theorem ge_int : geD (.int i) (.int j) = some (.bl (decide (j ≤ i))) := id rfl
@[simp] theorem lt_str : ltD (.str s) (.str z) = some (.bl (decide (s.cps.toList < z.cps.toList))) := id rfl
@[simp] theorem le_str : leD (.str s) (.str z) = some (.bl (!decide (z.cps.toList < s.cps.toList))) := id rfl
@[simp] theorem gt_str : gtD (.str s) (.str z) = some (.bl (decide (z.cps.toList < s.cps.toList))) := id rfl
@[simp] theorem ge_str : geD (.str s) (.str z) = some (.bl (!decide (s.cps.toList < z.cps.toList))) := id rfl
@[simp] theorem is_non : isD d .non = some (.bl (isNo d)) := by cases d <;> rfl
@[simp] theorem not_non : notD d .non = some (.bl (!isNo d)) := by cases d <;> rfl
@[simp] theorem ix_lst : ixD (.lst xs) (.int i) = atI xs i := id rfl
@[simp] theorem ix_tup : ixD (.tup xs) (.int i) = atI xs i := id rfl
@[simp] theorem ix_str : ixD (.str z) (.int i) = if z.length ≤ 16777216 then (atI z.cps.toList i).map fun c => .str ⟨#[c]⟩ else none := id rfl
@[simp] theorem in_ap {x y : D} : inD x y = (inB x y).map .bl := id rfl
@[simp] theorem nin_ap {x y : D} : ninD x y = (inB x y).map fun b => .bl (!b) := id rfl
@[simp] theorem tru_non : truD .non = some false := id rfl
@[simp] theorem tru_bl : truD (.bl b) = some b := id rfl
@[simp] theorem tru_int : truD (.int i) = some (i != 0) := id rfl
@[simp] theorem tru_str : truD (.str s) = if s.length ≤ 16777216 then some ((s.length : Int) != 0) else none := id rfl
@[simp] theorem tru_lst : truD (.lst xs) = some (!xs.isEmpty) := id rfl
@[simp] theorem tru_tup : truD (.tup xs) = some (!xs.isEmpty) := id rfl
@[simp] theorem isi_non {n : String} : isiD [.non, .ty n] = (kitB "NoneType" n).map D.bl := id rfl
@[simp] theorem isi_bl {n : String} : isiD [.bl b, .ty n] = (kitB "bool" n).map D.bl := id rfl
@[simp] theorem isi_int {n : String} : isiD [.int i, .ty n] = (kitB "int" n).map D.bl := id rfl
@[simp] theorem isi_str {n : String} : isiD [.str s, .ty n] = (kitB "str" n).map D.bl := id rfl
@[simp] theorem isi_tup {n : String} : isiD [.tup xs, .ty n] = (kitB "tuple" n).map D.bl := id rfl
@[simp] theorem isi_lst {n : String} : isiD [.lst xs, .ty n] = (kitB "list" n).map D.bl := id rfl
@[simp] theorem len_lst : lenD [.lst xs] = some (.int (xs.length : Nat)) := id rfl
@[simp] theorem len_tup : lenD [.tup xs] = some (.int (xs.length : Nat)) := id rfl
@[simp] theorem len_str : lenD [.str s] = if s.length ≤ 16777216 then some (.int (s.length : Nat)) else none := id rfl
@[simp] theorem str_int : strD [.int i] = oIf (small i) (some (.str (strI i))) := oIf_of
@[simp] theorem str_str : strD [.str s] = some (.str s) := id rfl
@[simp] theorem int1_int : intD1 [.int i] = some (.int i) := id rfl
@[simp] theorem int1_bl : intD1 [.bl k] = some (.int (if k = true then 1 else 0)) := id rfl
@[simp] theorem int1_str : intD1 [.str s] = if s.length ≤ 640 then (PySem.intText? s).map D.int else none := id rfl
@[simp] theorem tuple_lst : tupleD [.lst xs] = oIf (imms xs) (some (.tup xs)) := oIf_of
@[simp] theorem tuple_tup : tupleD [.tup xs] = oIf (imms xs) (some (.tup xs)) := oIf_of
@[simp] theorem list_lst : listD [.lst xs] = oIf (imms xs) (some (.lst xs)) := oIf_of
@[simp] theorem list_tup : listD [.tup xs] = oIf (imms xs) (some (.lst xs)) := oIf_of
@[simp] theorem abs_int : absD [.int i] = some (.int (if i < 0 then -i else i)) := id rfl
@[simp] theorem sum_lst : sumD [.lst xs] = (intsOf xs).map fun ns => .int ns.sum := id rfl
@[simp] theorem all_lst : allD [.lst xs] = (bls xs).map fun ns => .bl (ns.all id) := id rfl
@[simp] theorem any_lst : anyD [.lst xs] = (bls xs).map fun ns => .bl (ns.any id) := id rfl
@[simp] theorem ord_str : ordD [.str s] = if s.length = 1 then some (.int (s.cps.getD 0 0 : Nat)) else none := id rfl
@[simp] theorem join_ap : joinD (.str s) [.lst xs] = (strsOf xs).bind fun ys => if (ys.map (·.length)).sum + ys.length * s.length ≤ 16777216 then some (.str (Txt.join s ys)) else none := id rfl
@[simp] theorem split_ap : splitD (.str s) [.str z] = if 0 < z.length ∧ s.length + 2 ≤ 16777216 then some (.lst ((Txt.split s z).map D.str)) else none := id rfl
@[simp] theorem strIndex_ap : strIndexD (.str s) [.str z] = (Txt.index0 s z).map fun k => .int (k : Nat) := id rfl
@[simp] theorem eqF_non_non : eqF (.non) (.non) = true := id rfl
@[simp] theorem eqF_non_bl : eqF (.non) (.bl k) = false := id rfl
@[simp] theorem eqF_non_int : eqF (.non) (.int j) = false := id rfl
@[simp] theorem eqF_non_str : eqF (.non) (.str z) = false := id rfl
@[simp] theorem eqF_bl_non : eqF (.bl b) (.non) = false := id rfl
@[simp] theorem eqF_bl_bl : eqF (.bl b) (.bl k) = (b == k) := id rfl
@[simp] theorem eqF_bl_int : eqF (.bl b) (.int j) = ((if b = true then 1 else 0) == j) := id rfl
@[simp] theorem eqF_bl_str : eqF (.bl b) (.str z) = false := id rfl
@[simp] theorem eqF_int_non : eqF (.int i) (.non) = false := id rfl
@[simp] theorem eqF_int_bl : eqF (.int i) (.bl k) = (i == (if k = true then 1 else 0)) := id rfl
@[simp] theorem eqF_int_int : eqF (.int i) (.int j) = (i == j) := id rfl
@[simp] theorem eqF_int_str : eqF (.int i) (.str z) = false := id rfl
@[simp] theorem eqF_str_non : eqF (.str s) (.non) = false := id rfl
@[simp] theorem eqF_str_bl : eqF (.str s) (.bl k) = false := id rfl
@[simp] theorem eqF_str_int : eqF (.str s) (.int j) = false := id rfl
@[simp] theorem eqF_str_str : eqF (.str s) (.str z) = (s == z) := id rfl
@[simp] theorem flatD_non : flatD (.non) = true := id rfl
@[simp] theorem flatD_bl : flatD (.bl b) = true := id rfl
@[simp] theorem flatD_int : flatD (.int i) = true := id rfl
@[simp] theorem flatD_str : flatD (.str s) = true := id rfl
@[simp] theorem flatD_tup : flatD (.tup xs) = false := id rfl
@[simp] theorem flatD_lst : flatD (.lst xs) = false := id rfl
@[simp] theorem count_lst {y : D} : countD (.lst xs) [y] = oIf (flatD y && xs.all flatD) (some (.int (xs.countP fun z => eqF z y : Nat))) := by
  show (if _ then _ else _) = _
  cases flatD y <;> cases xs.all flatD <;> simp
@[simp] theorem lIndex_lst {y : D} : lIndexD (.lst xs) [y] = oIf (flatD y && xs.all flatD) ((xs.findIdx? fun z => eqF z y).map fun j => .int (j : Nat)) := by
  show (if _ then _ else _) = _
  cases flatD y <;> cases xs.all flatD <;> simp
@[simp] theorem min_int : minD [.int i, .int j] = some (.int (if j < i then j else i)) := id rfl
@[simp] theorem max_int : maxD [.int i, .int j] = some (.int (if j > i then j else i)) := id rfl
@[simp] theorem rng1_ap : rng1D [.int j] = oIf (i62 j) (some ((List.range j.toNat).map fun k => .int (0 + (k : Nat)))) := by
  rw [← oIf_of]
  unfold i62
  simp only [decide_eq_true_eq]
  rfl
@[simp] theorem rng2_ap : rng2D [.int i, .int j] = oIf (i62 i && i62 j) (some ((List.range (j - i).toNat).map fun k => .int (i + (k : Nat)))) := by
  rw [← oIf_of]
  unfold i62
  simp only [decide_eq_true_eq, Bool.and_eq_true]
  rfl
@[simp] theorem slice_tup' {lo hi : Option Int} : sliceD (.tup xs) lo hi = oIf (imms xs) (some (.tup (cutL xs lo hi))) := by rw [slice_tup, oIf_of]
@[simp] theorem slice_lst' {lo hi : Option Int} : sliceD (.lst xs) lo hi = oIf (imms xs) (some (.lst (cutL xs lo hi))) := by rw [slice_lst, oIf_of]
@[simp] theorem inB_lst' {x : D} : inB x (.lst ys) = inR (flatD x && ys.all flatD) (ys.any fun y => eqF y x) (oIf (shp x && shp (.lst ys)) (some (ys.any fun y => eqv y x))) := by
  rw [inB_lst]
  cases flatD x <;> cases ys.all flatD <;> cases shp x <;> cases shp (.lst ys) <;> simp [inR]
@[simp] theorem inB_tup' {x : D} : inB x (.tup ys) = oIf (flatD x && ys.all flatD) (some (ys.any fun y => eqF y x)) := by
  rw [inB_tup]
  cases flatD x <;> cases ys.all flatD <;> simp
@[simp] theorem rng3_ap {c : Int} : rng3D [.int i, .int j, .int c] = if (0 ≤ i ∧ i < 2 ^ 30) ∧ (0 ≤ j ∧ j < 2 ^ 30) ∧ 0 < c ∧ c < 2 ^ 30 then some ((List.range (Builtin.Range.rangeSize i j c).toNat).map fun k => .int (i + (k : Nat) * c)) else none := id rfl
end
theorem ixN_b {n : Nat} {i : Int} (h : 0 ≤ i) (h2 : i < n) : ixN n i = some i.toNat := by
  unfold ixN
  rw [if_pos h, if_pos h2]
theorem ixN_nat {n j : Nat} (h : j < n) : ixN n (j : Int) = some j := by
  unfold ixN
  rw [if_pos (by omega), if_pos (by omega)]
  rfl
@[simp] theorem ixN_zero {n : Nat} : ixN (n + 1) 0 = some 0 := ixN_nat (j := 0) (by omega)
@[simp] theorem ixN_zero1 : ixN 1 0 = some 0 := ixN_nat (j := 0) (by omega)
@[simp] theorem atI_zero {α : Type} {x : α} {xs : List α} : atI (x :: xs) 0 = some x := atI_nat (j := 0) (by simp)
@[simp] theorem atI_one {α : Type} {x y : α} {xs : List α} : atI (x :: y :: xs) 1 = some y := atI_nat (j := 1) (by simp)
@[simp] theorem atI_two {α : Type} {x y z : α} {xs : List α} : atI (x :: y :: z :: xs) 2 = some z := atI_nat (j := 2) (by simp)
@[simp] theorem atI_three {α : Type} {x y z w : α} {xs : List α} : atI (x :: y :: z :: w :: xs) 3 = some w := atI_nat (j := 3) (by simp)
/-! a slot's thing, and what writes other slots -/
def kBinV (f : D → D → Option D) (i : Nat) (y : D) (ρ : Env) : Res D := match (ρ[i]?).join with
  | some x => optR (f x y) ρ
  | none => .bad
def binV (f : D → D → Option D) (i : Nat) (b : Env → Res D) (ρ : Env) (o : Option D) : Res D := match o with
  | some _ => (b ρ).bind (kBinV f i)
  | none => .bad
def binVo (f : D → D → Option D) (y : D) (ρ : Env) (o : Option D) : Res D := match o with
  | some x => optR (f x y) ρ
  | none => .bad
@[simp] theorem eBinV_ap {f : D → D → Option D} {i : Nat} {b : Env → Res D} {ρ : Env} : eBinV f i b ρ = binV f i b ρ (slot ρ i) := id rfl
@[simp] theorem binV_s {f : D → D → Option D} {i : Nat} {b : Env → Res D} {ρ : Env} {x : D} : binV f i b ρ (some x) = (b ρ).bind (kBinV f i) := id rfl
@[simp] theorem kBinV_ap {f : D → D → Option D} {i : Nat} {y : D} {ρ : Env} : kBinV f i y ρ = binVo f y ρ (slot ρ i) := id rfl
@[simp] theorem binVo_s {f : D → D → Option D} {y x : D} {ρ : Env} : binVo f y ρ (some x) = optR (f x y) ρ := id rfl
/-! tuples in order; index of a list of any plain things -/
section
variable {i j : Int} {s z : Str} {x y : D} {xs ys : List D} {b : Bool}
@[simp] theorem leVd_i : leVd (.int i) y = leD (.int i) y := id rfl
@[simp] theorem ltVd_i : ltVd (.int i) y = ltD (.int i) y := id rfl
@[simp] theorem leVd_s : leVd (.str s) y = leD (.str s) y := id rfl
@[simp] theorem ltVd_s : ltVd (.str s) y = ltD (.str s) y := id rfl
@[simp] theorem leVd_t : leVd (.tup xs) (.tup ys) = oIf (cmpsD xs ys) (some (.bl (lexD true xs ys))) := oIf_of
@[simp] theorem ltVd_t : ltVd (.tup xs) (.tup ys) = oIf (cmpsD xs ys) (some (.bl (lexD false xs ys))) := oIf_of
@[simp] theorem cmpsD_nl : cmpsD [] ys = true := id rfl
@[simp] theorem cmpsD_nr : cmpsD xs [] = true := by cases xs <;> rfl
@[simp] theorem cmpsD_c : cmpsD (x :: xs) (y :: ys) = (cmpD x y && cmpsD xs ys) := id rfl
@[simp] theorem cmpD_i : cmpD (.int i) (.int j) = true := id rfl
@[simp] theorem cmpD_s : cmpD (.str s) (.str z) = true := id rfl
@[simp] theorem lexD_n : lexD b [] [] = b := id rfl
@[simp] theorem lexD_c : lexD b (x :: xs) (y :: ys) = if eqK x y = true then lexD b xs ys else ltK x y := id rfl
@[simp] theorem eqK_i : eqK (.int i) (.int j) = decide (i = j) := id rfl
@[simp] theorem eqK_s : eqK (.str s) (.str z) = decide (s = z) := id rfl
@[simp] theorem ltK_i : ltK (.int i) (.int j) = decide (i < j) := id rfl
@[simp] theorem ltK_s : ltK (.str s) (.str z) = decide (s.cps.toList < z.cps.toList) := id rfl
@[simp] theorem lIndexP_lst : lIndexP (.lst xs) [y] = oIf (shp y && shp (.lst xs)) ((xs.findIdx? fun z => eqv z y).map fun j => .int (j : Nat)) := by
  show (if _ then _ else _) = _
  cases shp y <;> cases shp (.lst xs) <;> rfl
end
end Ol
namespace Ol
open PySem PySem.Spec PyProof.Rows L2
/-! ## plain maths: what all laws need -/
/-- a loop that goes on -/
theorem forL_idx {g : D → Env → Option Env} {body : Env → Out} (P : Nat → Env → Prop) : ∀ (xs : List D) (i : Nat) (ρ : Env), P i ρ →
    (∀ j x, xs[j]? = some x → ∀ ρ, P (i + j) ρ → ∃ ρ1 ρ2, g x ρ = some ρ1 ∧ (body ρ1 = .nx ρ2 ∨ body ρ1 = .ct ρ2) ∧ P (i + j + 1) ρ2) → ∃ ρ', forL g body xs ρ = .nx ρ' ∧ P (i + xs.length) ρ'
  | [], i, ρ, h, _ => ⟨ρ, rfl, h⟩
  | x :: xs, i, ρ, h, hs => by
    obtain ⟨ρ1, ρ2, e1, e2, h2⟩ := hs 0 x rfl ρ h
    obtain ⟨ρ', e3, h3⟩ := forL_idx P xs (i + 1) ρ2 h2 fun j y hy ρ hp => by
      have := hs (j + 1) y hy ρ (by rw [show i + (j + 1) = i + 1 + j by omega]; exact hp)
      rw [show i + (j + 1) + 1 = i + 1 + j + 1 by omega] at this
      exact this
    refine ⟨ρ', ?_, by rw [List.length_cons, show i + (xs.length + 1) = i + 1 + xs.length by omega]; exact h3⟩
    unfold forL
    rw [e1]
    rcases e2 with e2 | e2 <;> (dsimp only; rw [e2]; exact e3)
theorem forL_all {g : D → Env → Option Env} {body : Env → Out} (P : Env → Prop) {xs : List D} {ρ : Env} (h : P ρ) (hs : ∀ x ∈ xs, ∀ ρ, P ρ → ∃ ρ1 ρ2, g x ρ = some ρ1 ∧ (body ρ1 = .nx ρ2 ∨ body ρ1 = .ct ρ2) ∧ P ρ2) : ∃ ρ', forL g body xs ρ = .nx ρ' ∧ P ρ' :=
  forL_idx (fun _ => P) xs 0 ρ h fun j x hx ρ hp => hs x (List.mem_of_getElem? hx) ρ hp
/-! lists of numbers -/
theorem ints_ix {ns : List Int} {i : Nat} (h : i < ns.length) : atI (ns.map D.int) (i : Int) = some (.int ns[i]) := by
  unfold atI
  rw [ixN_nat (by simpa using h)]
  simp [h]
@[simp] theorem imms_ints : ∀ (ns : List Int), imms (ns.map D.int) = true
  | [] => rfl
  | n :: ns => by rw [List.map_cons, imms, imms_ints ns]; rfl
theorem cut_map {α β : Type} {f : α → β} {ns : List α} {lo hi : Option Int} : cutL (ns.map f) lo hi = (cutL ns lo hi).map f := by unfold cutL; simp
theorem cut_len {α : Type} {ns : List α} {lo hi : Option Int} : (cutL ns lo hi).length ≤ ns.length := by unfold cutL; simp; omega
/-! == on nested things -/
mutual
def shN : Nat → D → Bool
  | _, .non => true
  | _, .bl _ => true
  | _, .int _ => true
  | _, .str x => PyData.strOk x
  | 0, .tup _ => false
  | 0, .lst _ => false
  | n + 1, .tup xs => shNs n xs
  | n + 1, .lst xs => shNs n xs
  | _, _ => false
def shNs : Nat → List D → Bool
  | _, [] => true
  | n, x :: xs => shN n x && shNs n xs
end
mutual
theorem shN_eq : ∀ (d : D) (n : Nat), ((pd d).canLay0 && decide ((pd d).depth ≤ n)) = shN n d
  | .non, n => by cases n <;> simp [pd, PyData.canLay0, PyData.depth, shN]
  | .bl _, n => by cases n <;> simp [pd, PyData.canLay0, PyData.depth, shN]
  | .int _, n => by cases n <;> simp [pd, PyData.canLay0, PyData.depth, shN]
  | .str _, n => by cases n <;> simp [pd, PyData.canLay0, PyData.depth, shN]
  | .tup xs, 0 => by simp [pd, PyData.depth, shN]
  | .lst xs, 0 => by simp [pd, PyData.depth, shN]
  | .tup xs, n + 1 => by
    rw [shN, ← shNs_eq xs n, pd, PyData.canLay0, PyData.depth]
    simp
  | .lst xs, n + 1 => by
    rw [shN, ← shNs_eq xs n, pd, PyData.canLay0, PyData.depth]
    simp
  | .dT _, n => by cases n <;> simp [pd, PyData.canLay0, shN]
  | .dK _, n => by cases n <;> simp [pd, PyData.canLay0, shN]
  | .ty _, n => by cases n <;> simp [pd, PyData.canLay0, shN]
  | .ex _, n => by cases n <;> simp [pd, PyData.canLay0, shN]
theorem shNs_eq : ∀ (ds : List D) (n : Nat), (PyData.canLayAll0 (pds ds) && decide (PyData.depthAll (pds ds) ≤ n)) = shNs n ds
  | [], n => by simp [pds, PyData.canLayAll0, PyData.depthAll, shNs]
  | d :: ds, n => by
    rw [shNs, ← shN_eq d n, ← shNs_eq ds n, pds, PyData.canLayAll0, PyData.depthAll]
    rw [show decide (max (pd d).depth (PyData.depthAll (pds ds)) ≤ n) = (decide ((pd d).depth ≤ n) && decide (PyData.depthAll (pds ds) ≤ n)) by rw [← Bool.decide_and]; exact decide_eq_decide.mpr (by omega)]
    cases (pd d).canLay0 <;> cases PyData.canLayAll0 (pds ds) <;> simp
end
theorem shp_N {d : D} : shp d = shN 64 d := shN_eq d 64
section
variable {n : Nat} {xs ys : List D} {x y : D} {i j : Int} {s z : Str} {b k : Bool}
@[simp] theorem shN_non : shN n .non = true := by cases n <;> simp [shN]
@[simp] theorem shN_bl : shN n (.bl b) = true := by cases n <;> simp [shN]
@[simp] theorem shN_int : shN n (.int i) = true := by cases n <;> simp [shN]
@[simp] theorem shN_str : shN n (.str s) = PyData.strOk s := by cases n <;> simp [shN]
@[simp] theorem shN_tup : shN (n + 1) (.tup xs) = shNs n xs := by rw [shN]
@[simp] theorem shN_lst : shN (n + 1) (.lst xs) = shNs n xs := by rw [shN]
@[simp] theorem shNs_nil : shNs n [] = true := by rw [shNs]
@[simp] theorem shNs_cons : shNs n (x :: xs) = (shN n x && shNs n xs) := by rw [shNs]
def eqvs (xs ys : List D) : Bool := PyData.eqvAll (pds xs) (pds ys)
@[simp] theorem eqvs_nil : eqvs [] [] = true := by simp [eqvs, pds, PyData.eqvAll]
@[simp] theorem eqvs_cons : eqvs (x :: xs) (y :: ys) = (eqv x y && eqvs xs ys) := by simp [eqvs, eqv, pds, PyData.eqvAll]
@[simp] theorem eqvs_nc : eqvs [] (y :: ys) = false := by simp [eqvs, pds, PyData.eqvAll]
@[simp] theorem eqvs_cn : eqvs (x :: xs) [] = false := by simp [eqvs, pds, PyData.eqvAll]
@[simp] theorem eqv_tt : eqv (.tup xs) (.tup ys) = eqvs xs ys := by simp [eqvs, eqv, pd, PyData.eqv]
@[simp] theorem eqv_ll : eqv (.lst xs) (.lst ys) = eqvs xs ys := by simp [eqvs, eqv, pd, PyData.eqv]
@[simp] theorem eqv_ii : eqv (.int i) (.int j) = (i == j) := by simp [eqv, pd, PyData.eqv]
@[simp] theorem eqv_ss : eqv (.str s) (.str z) = (s == z) := by simp [eqv, pd, PyData.eqv]
@[simp] theorem eqv_bb : eqv (.bl b) (.bl k) = (b == k) := by simp [eqv, pd, PyData.eqv]
@[simp] theorem eqv_nn : eqv .non .non = true := by simp [eqv, pd, PyData.eqv]
@[simp] theorem eqv_bi : eqv (.bl b) (.int j) = ((if b then 1 else 0) == j) := by simp [eqv, pd, PyData.eqv]
@[simp] theorem eqv_ib : eqv (.int i) (.bl b) = (i == (if b then 1 else 0)) := by simp [eqv, pd, PyData.eqv]
@[simp] theorem eqv_tl : eqv (.tup xs) (.lst ys) = false := by simp [eqv, pd, PyData.eqv]
@[simp] theorem eqv_lt : eqv (.lst xs) (.tup ys) = false := by simp [eqv, pd, PyData.eqv]
@[simp] theorem eqv_tn : eqv (.tup xs) .non = false := by simp [eqv, pd, PyData.eqv]
@[simp] theorem eqv_nt : eqv .non (.tup xs) = false := by simp [eqv, pd, PyData.eqv]
@[simp] theorem eqv_ln : eqv (.lst xs) .non = false := by simp [eqv, pd, PyData.eqv]
@[simp] theorem eqv_nl : eqv .non (.lst xs) = false := by simp [eqv, pd, PyData.eqv]
@[simp] theorem eqv_ni : eqv .non (.int i) = false := by simp [eqv, pd, PyData.eqv]
@[simp] theorem eqv_in : eqv (.int i) .non = false := by simp [eqv, pd, PyData.eqv]
@[simp] theorem eqv_ns : eqv .non (.str s) = false := by simp [eqv, pd, PyData.eqv]
@[simp] theorem eqv_sn : eqv (.str s) .non = false := by simp [eqv, pd, PyData.eqv]
@[simp] theorem eqv_is : eqv (.int i) (.str s) = false := by simp [eqv, pd, PyData.eqv]
@[simp] theorem eqv_si : eqv (.str s) (.int i) = false := by simp [eqv, pd, PyData.eqv]
@[simp] theorem eqv_it : eqv (.int i) (.tup xs) = false := by simp [eqv, pd, PyData.eqv]
@[simp] theorem eqv_ti : eqv (.tup xs) (.int i) = false := by simp [eqv, pd, PyData.eqv]
@[simp] theorem eqv_st : eqv (.str s) (.tup xs) = false := by simp [eqv, pd, PyData.eqv]
@[simp] theorem eqv_ts : eqv (.tup xs) (.str s) = false := by simp [eqv, pd, PyData.eqv]
@[simp] theorem eqv_sl : eqv (.str s) (.lst xs) = false := by simp [eqv, pd, PyData.eqv]
@[simp] theorem eqv_ls : eqv (.lst xs) (.str s) = false := by simp [eqv, pd, PyData.eqv]
@[simp] theorem eqW_ap : eqW x y = oIf (shN 64 x && shN 64 y) (some (eqv x y)) := by rw [← shp_N, ← shp_N]; rfl
/-! texts -/
@[simp] theorem len_mk {a : Array Nat} : Str.length ⟨a⟩ = a.size := id rfl
@[simp] theorem len_app : (s ++ z).length = s.length + z.length := PySem.Str.length_append s z
theorem cut_tail {c : Nat} {r : List Nat} : cutS ⟨(c :: r).toArray⟩ (some 1) none = ⟨r.toArray⟩ := by
  unfold cutS
  rw [HT.sIx_none, show (some (1 : Int)) = some ((1 : Nat) : Int) from rfl, HT.sIx_nat]
  simp
@[simp] theorem cut_take {l : List Nat} {k : Nat} : cutS ⟨l.toArray⟩ none (some (no_index (OfNat.ofNat k) : Int)) = ⟨(l.take k).toArray⟩ := by
  show cutS ⟨l.toArray⟩ none (some ((k : Nat) : Int)) = _
  unfold cutS
  rw [HT.sIx_none, HT.sIx_nat]
  simp [List.take_eq_take_iff]
@[simp] theorem cut_drop {l : List Nat} {k : Nat} : cutS ⟨l.toArray⟩ (some (no_index (OfNat.ofNat k) : Int)) none = ⟨(l.drop k).toArray⟩ := by
  show cutS ⟨l.toArray⟩ (some ((k : Nat) : Int)) none = _
  unfold cutS
  rw [HT.sIx_none, HT.sIx_nat]
  simp
  by_cases h : k ≤ l.length
  · rw [Nat.min_eq_left h]
    exact List.take_of_length_le (by simp)
  · rw [Nat.min_eq_right (by omega), List.drop_eq_nil_of_le (by omega), List.drop_eq_nil_of_le (by omega)]
    simp
@[simp] theorem cut_last {l : List Nat} {k : Nat} : cutS ⟨l.toArray⟩ (some (-(no_index (OfNat.ofNat (k + 1))) : Int)) none = ⟨(l.drop (l.length - (k + 1))).toArray⟩ := by
  show cutS ⟨l.toArray⟩ (some (-((k + 1 : Nat) : Int))) none = _
  unfold cutS
  rw [HT.sIx_none]
  unfold HT.sIx
  simp
  rw [show (-((k : Int) + 1) + (l.length : Int)).toNat = l.length - (k + 1) by omega]
  exact List.take_of_length_le (by simp)
theorem atI_last {α : Type} {l : List α} {x : α} : atI (l ++ [x]) (-1) = some x := by
  unfold atI ixN
  rw [if_neg (by omega), if_pos (by rw [List.length_append]; simp; omega)]
  simp
  rw [show (-1 + ((l.length : Int) + 1)).toNat = l.length by omega]
  simp
theorem atI_mod {α : Type} {l : List α} (h : 0 < l.length) (n : Int) : ∃ v, v ∈ l ∧ atI l (n % (l.length : Int)) = some v := by
  obtain ⟨v, h1, h2⟩ := at_ex (xs := l) (Int.emod_nonneg n (by omega)) (Int.emod_lt_of_pos n (by omega))
  exact ⟨v, List.mem_of_getElem? h1, h2⟩
end
def lkR {α : Type} (b : Bool) (v : α) (o : Option α) : Option α := match b with
  | true => some v
  | false => o
@[simp] theorem lkR_t {α : Type} {v : α} {o : Option α} : lkR true v o = some v := id rfl
@[simp] theorem lkR_f {α : Type} {v : α} {o : Option α} : lkR false v o = o := id rfl
@[simp] theorem lookup_lk {α : Type} {v : α} {x y : String} {r : List (String × α)} : List.lookup x ((y, v) :: r) = lkR (x == y) v (List.lookup x r) := by
  rw [List.lookup_cons]
  cases x == y <;> rfl
@[simp] theorem str_beq {a b : Array Nat} : ((⟨a⟩ : Str) == ⟨b⟩) = decide (a = b) := by
  by_cases h : a = b
  · subst h
    simp
  · rw [decide_eq_false h]
    exact beq_eq_false_iff_ne.mpr fun e => h (by injection e)
@[simp] theorem lookup_lkS {α : Type} {v : α} {x y : Str} {r : List (Str × α)} : List.lookup x ((y, v) :: r) = lkR (x == y) v (List.lookup x r) := by
  rw [List.lookup_cons]
  cases x == y <;> rfl
/-- a loop that looks for one -/
theorem forL_first {g : D → Env → Option Env} {body : Env → Out} (P : Env → Prop) (p : D → Bool) (v : D → D) : ∀ (xs : List D) (ρ : Env), P ρ →
    (∀ x ∈ xs, ∀ ρ, P ρ → ∃ ρ1 ρ2, g x ρ = some ρ1 ∧ ((p x = true ∧ body ρ1 = .ret (v x) ρ2) ∨ (p x = false ∧ body ρ1 = .nx ρ2 ∧ P ρ2))) →
    ∃ ρ', (∃ x, xs.find? p = some x ∧ forL g body xs ρ = .ret (v x) ρ') ∨ (xs.find? p = none ∧ forL g body xs ρ = .nx ρ' ∧ P ρ')
  | [], ρ, h, _ => ⟨ρ, .inr ⟨rfl, rfl, h⟩⟩
  | x :: xs, ρ, h, hs => by
    obtain ⟨ρ1, ρ2, e1, e2⟩ := hs x List.mem_cons_self ρ h
    rw [forL_cons, e1, forS_s]
    rcases e2 with ⟨hp, e2⟩ | ⟨hp, e2, h2⟩
    · exact ⟨ρ2, .inl ⟨x, List.find?_cons_of_pos hp, by rw [e2]; rfl⟩⟩
    · rw [e2, loop_nx, List.find?_cons_of_neg (by rw [hp]; decide)]
      exact forL_first P p v xs ρ2 h2 fun y hy => hs y (List.mem_cons_of_mem _ hy)
/-- a comprehension reckoned item by item: φ x none where the test says no -/
theorem compL_fm {chk : Bool} {g : D → Env → Option Env} {t : Env → Res Bool} {e : Env → Res D} {ρ : Env} (φ : D → Option D) : ∀ (xs : List D),
    (∀ x ∈ xs, (chk = true → imm x = true) ∧ ∃ ρ1, g x ρ = some ρ1 ∧ ((∃ y ρ2 ρ3, φ x = some y ∧ t ρ1 = .ok true ρ2 ∧ e ρ1 = .ok y ρ3) ∨ (φ x = none ∧ ∃ ρ2, t ρ1 = .ok false ρ2))) → compL chk g t e ρ xs = some (xs.filterMap φ)
  | [], _ => rfl
  | x :: xs, h => by
    obtain ⟨hi, ρ1, e1, h2⟩ := h x List.mem_cons_self
    have ih := compL_fm φ xs fun y hy => h y (List.mem_cons_of_mem _ hy)
    unfold compL
    rw [if_neg (by
      intro z
      rw [Bool.and_eq_true] at z
      rw [hi z.1] at z
      cases z.2), e1]
    dsimp only
    rcases h2 with ⟨y, ρ2, ρ3, e2, e3, e4⟩ | ⟨e2, ρ2, e3⟩
    · rw [e3, List.filterMap_cons, e2]
      dsimp only
      rw [e4]
      dsimp only
      rw [ih]
      rfl
    · rw [e3, List.filterMap_cons, e2]
      exact ih
theorem compL_map {chk : Bool} {g : D → Env → Option Env} {e : Env → Res D} {ρ : Env} (f : D → D) {xs : List D} (h : ∀ x ∈ xs, (chk = true → imm x = true) ∧ ∃ ρ1 ρ3, g x ρ = some ρ1 ∧ e ρ1 = .ok (f x) ρ3) :
    compL chk g (fun ρ => .ok true ρ) e ρ xs = some (xs.map f) := by
  rw [compL_fm (fun x => some (f x)) xs fun x hx => by
    obtain ⟨h1, ρ1, ρ3, h2, h3⟩ := h x hx
    exact ⟨h1, ρ1, h2, .inl ⟨_, _, _, rfl, rfl, h3⟩⟩]
  rw [List.filterMap_eq_map']
theorem rg1 : (List.range 1).map (fun k => D.int (k : Nat)) = [.int 0] := rfl
theorem rg2 : (List.range 2).map (fun k => D.int (k : Nat)) = [.int 0, .int 1] := rfl
theorem rg3 : (List.range 3).map (fun k => D.int (k : Nat)) = [.int 0, .int 1, .int 2] := rfl
theorem rg4 : (List.range 4).map (fun k => D.int (k : Nat)) = [.int 0, .int 1, .int 2, .int 3] := rfl
theorem rg5 : (List.range 5).map (fun k => D.int (k : Nat)) = [.int 0, .int 1, .int 2, .int 3, .int 4] := rfl
theorem rg6 : (List.range 6).map (fun k => D.int (k : Nat)) = [.int 0, .int 1, .int 2, .int 3, .int 4, .int 5] := rfl
theorem rg7 : (List.range 7).map (fun k => D.int (k : Nat)) = [.int 0, .int 1, .int 2, .int 3, .int 4, .int 5, .int 6] := rfl
theorem rg8 : (List.range 8).map (fun k => D.int (k : Nat)) = [.int 0, .int 1, .int 2, .int 3, .int 4, .int 5, .int 6, .int 7] := rfl
theorem rg9 : (List.range 9).map (fun k => D.int (k : Nat)) = [.int 0, .int 1, .int 2, .int 3, .int 4, .int 5, .int 6, .int 7, .int 8] := rfl
theorem cutL_tail {α : Type} {x : α} {xs : List α} : cutL (x :: xs) (some 1) none = xs := by
  unfold cutL
  rw [HT.sIx_none, show (some (1 : Int)) = some ((1 : Nat) : Int) from rfl, HT.sIx_nat]
  simp
theorem cutL_tail2 {α : Type} {x y : α} {xs : List α} : cutL (x :: y :: xs) (some 2) none = xs := by
  unfold cutL
  rw [HT.sIx_none, show (some (2 : Int)) = some ((2 : Nat) : Int) from rfl, HT.sIx_nat]
  simp
theorem cutL_take {α : Type} {l : List α} {k : Nat} : cutL l none (some (no_index (OfNat.ofNat k) : Int)) = l.take k := by
  show cutL l none (some ((k : Nat) : Int)) = _
  unfold cutL
  rw [HT.sIx_none, HT.sIx_nat]
  simp [List.take_eq_take_iff]
theorem cutL_drop {α : Type} {l : List α} {k : Nat} : cutL l (some (no_index (OfNat.ofNat k) : Int)) none = l.drop k := by
  show cutL l (some ((k : Nat) : Int)) none = _
  unfold cutL
  rw [HT.sIx_none, HT.sIx_nat]
  by_cases h : k ≤ l.length
  · rw [Nat.min_eq_left h]
    exact List.take_of_length_le (by simp)
  · rw [Nat.min_eq_right (by omega), List.drop_eq_nil_of_le (Nat.le_refl _), List.drop_eq_nil_of_le (by omega)]
    simp
@[simp] theorem at_n4 {α : Type} {a b c d e : α} {xs : List α} : atI (a :: b :: c :: d :: e :: xs) 4 = some e := atI_nat (j := 4) (by simp)
@[simp] theorem at_n5 {α : Type} {a b c d e f : α} {xs : List α} : atI (a :: b :: c :: d :: e :: f :: xs) 5 = some f := atI_nat (j := 5) (by simp)
@[simp] theorem at_n6 {α : Type} {a b c d e f g : α} {xs : List α} : atI (a :: b :: c :: d :: e :: f :: g :: xs) 6 = some g := atI_nat (j := 6) (by simp)
@[simp] theorem at_n7 {α : Type} {a b c d e f g h : α} {xs : List α} : atI (a :: b :: c :: d :: e :: f :: g :: h :: xs) 7 = some h := atI_nat (j := 7) (by simp)
@[simp] theorem at_n8 {α : Type} {a b c d e f g h i : α} {xs : List α} : atI (a :: b :: c :: d :: e :: f :: g :: h :: i :: xs) 8 = some i := atI_nat (j := 8) (by simp)
@[simp] theorem at_n9 {α : Type} {a b c d e f g h i j : α} {xs : List α} : atI (a :: b :: c :: d :: e :: f :: g :: h :: i :: j :: xs) 9 = some j := atI_nat (j := 9) (by simp)
@[simp] theorem at_n10 {α : Type} {a b c d e f g h i j k : α} {xs : List α} : atI (a :: b :: c :: d :: e :: f :: g :: h :: i :: j :: k :: xs) 10 = some k := atI_nat (j := 10) (by simp)
@[simp] theorem at_n11 {α : Type} {a b c d e f g h i j k l : α} {xs : List α} : atI (a :: b :: c :: d :: e :: f :: g :: h :: i :: j :: k :: l :: xs) 11 = some l := atI_nat (j := 11) (by simp)
theorem at_32 {α : Type} {a b c : α} : atI [a, b, c] (-2) = some b := rfl
theorem at_31 {α : Type} {a b c : α} : atI [a, b, c] (-1) = some c := rfl
theorem at_42 {α : Type} {a b c d : α} : atI [a, b, c, d] (-2) = some c := rfl
theorem at_41 {α : Type} {a b c d : α} : atI [a, b, c, d] (-1) = some d := rfl
theorem cut_31 {α : Type} {a b c : α} : cutL [a, b, c] none (some (-1)) = [a, b] := rfl
theorem cut_32 {α : Type} {a b c : α} : cutL [a, b, c] none (some (-2)) = [a] := rfl
theorem cut_41 {α : Type} {a b c d : α} : cutL [a, b, c, d] none (some (-1)) = [a, b, c] := rfl
theorem cut_42 {α : Type} {a b c d : α} : cutL [a, b, c, d] none (some (-2)) = [a, b] := rfl
theorem cut_in3 {α : Type} {a b c : α} : cutL [a, b, c] (some 1) (some (-2)) = [] := rfl
theorem cut_in4 {α : Type} {a b c d : α} : cutL [a, b, c, d] (some 1) (some (-2)) = [b] := rfl
def elR (r : Res D) : Option D := match r with
  | .ok y _ => some y
  | _ => none
@[simp] theorem elR_ok {y : D} {ρ : Env} : elR (.ok y ρ) = some y := id rfl
/-- a comprehension over a list that is known -/
theorem compL_c {g : D → Env → Option Env} {e : Env → Res D} {ρ : Env} {x : D} {xs : List D} : compL false g (fun ρ => .ok true ρ) e ρ (x :: xs) = (g x ρ).bind fun ρ1 => (elR (e ρ1)).bind fun y => (compL false g (fun ρ => .ok true ρ) e ρ xs).map (y :: ·) := by
  rw [compL, if_neg (by simp)]
  cases g x ρ with
  | none => rfl
  | some ρ1 =>
    dsimp only [Option.bind]
    cases e ρ1 <;> rfl
@[simp] theorem compL_n {chk : Bool} {g : D → Env → Option Env} {t : Env → Res Bool} {e : Env → Res D} {ρ : Env} : compL chk g t e ρ [] = some [] := id rfl
/-- a comprehension whose elements write -/
theorem compI_all {chk : Bool} {g : D → Env → Option Env} {e : Env → Res D} {vs : List Nat} (P : Env → Prop) (Q : D → Prop) : ∀ (xs : List D) (ρ : Env), P ρ →
    (∀ x ∈ xs, (chk = true → imm x = true) ∧ ∀ ρ, P ρ → ∃ ρ1 y ρ3, g x (wipeE ρ vs) = some ρ1 ∧ e ρ1 = .ok y ρ3 ∧ imm y = true ∧ Q y ∧ P (wipeE ρ3 vs)) →
    ∃ ys ρ', compI chk g (fun ρ => .ok true ρ) e vs ρ xs = .ok ys ρ' ∧ P ρ' ∧ ys.length = xs.length ∧ ∀ y ∈ ys, Q y
  | [], ρ, h, _ => ⟨[], ρ, rfl, h, rfl, fun _ z => (by cases z)⟩
  | x :: xs, ρ, h, hs => by
    obtain ⟨hi, hx⟩ := hs x List.mem_cons_self
    obtain ⟨ρ1, y, ρ3, e1, e2, e3, e4, e5⟩ := hx ρ h
    obtain ⟨ys, ρ', f1, f2, f3, f4⟩ := compI_all P Q xs _ e5 fun z hz => hs z (List.mem_cons_of_mem _ hz)
    refine ⟨y :: ys, ρ', ?_, f2, by simp [f3], fun z hz => ?_⟩
    · unfold compI
      rw [if_neg (by
        intro z
        rw [Bool.and_eq_true] at z
        rw [hi z.1] at z
        cases z.2), e1]
      dsimp only
      rw [e2]
      dsimp only
      rw [if_pos e3, f1]
      rfl
    · rcases List.mem_cons.mp hz with rfl | hz
      · exact e4
      · exact f4 z hz
theorem ex_map {α β : Type} {f : α → β} {R : α → Prop} : ∀ {ys : List β}, (∀ y ∈ ys, ∃ p, y = f p ∧ R p) → ∃ ps : List α, ys = ps.map f ∧ ∀ p ∈ ps, R p
  | [], _ => ⟨[], rfl, fun _ z => (by cases z)⟩
  | y :: ys, h => by
    obtain ⟨p, rfl, hp⟩ := h y List.mem_cons_self
    obtain ⟨ps, rfl, hps⟩ := ex_map fun z hz => h z (List.mem_cons_of_mem _ hz)
    refine ⟨p :: ps, rfl, fun q hq => ?_⟩
    rcases List.mem_cons.mp hq with rfl | hq
    · exact hp
    · exact hps q hq
/-! a thing is alike itself -/
mutual
theorem eqv_refl : ∀ (d : D) (n : Nat), shN n d = true → eqv d d = true
  | .non, _, _ => eqv_nn
  | .bl _, _, _ => by rw [eqv_bb]; exact beq_self_eq_true _
  | .int _, _, _ => by rw [eqv_ii]; exact beq_self_eq_true _
  | .str _, _, _ => by rw [eqv_ss]; exact beq_self_eq_true _
  | .tup xs, 0, h => by simp [shN] at h
  | .lst xs, 0, h => by simp [shN] at h
  | .tup xs, n + 1, h => by rw [eqv_tt]; exact eqvs_refl xs n (by rwa [shN_tup] at h)
  | .lst xs, n + 1, h => by rw [eqv_ll]; exact eqvs_refl xs n (by rwa [shN_lst] at h)
  | .dT _, n, h => by cases n <;> simp [shN] at h
  | .dK _, n, h => by cases n <;> simp [shN] at h
  | .ty _, n, h => by cases n <;> simp [shN] at h
  | .ex _, n, h => by cases n <;> simp [shN] at h
theorem eqvs_refl : ∀ (ds : List D) (n : Nat), shNs n ds = true → eqvs ds ds = true
  | [], _, _ => eqvs_nil
  | d :: ds, n, h => by
    rw [shNs_cons, Bool.and_eq_true] at h
    rw [eqvs_cons, eqv_refl d n h.1, eqvs_refl ds n h.2]
    rfl
end
theorem eqW_self {d : D} (h : shN 64 d = true) : eqW d d = some true := by
  rw [eqW_ap, h, eqv_refl d 64 h]
  rfl
theorem shNs_all {n : Nat} : ∀ {ds : List D}, (∀ d ∈ ds, shN n d = true) → shNs n ds = true
  | [], _ => shNs_nil
  | d :: ds, h => by rw [shNs_cons, h d List.mem_cons_self, shNs_all fun e he => h e (List.mem_cons_of_mem _ he)]; rfl
theorem immsA : ∀ {ds : List D}, (∀ d ∈ ds, imm d = true) → imms ds = true
  | [], _ => rfl
  | d :: ds, h => by rw [imms_cons', h d List.mem_cons_self, immsA fun e he => h e (List.mem_cons_of_mem _ he)]; rfl
@[simp] theorem shNs_ints {n : Nat} {l : List Int} : shNs n (l.map D.int) = true := shNs_all fun d hd => by
  obtain ⟨x, _, rfl⟩ := List.mem_map.mp hd
  exact shN_int
@[simp] theorem shNs_prs {n : Nat} {l : List (Int × Int)} : shNs (n + 1) (l.map prD) = true := shNs_all fun d hd => by
  obtain ⟨⟨i, j⟩, _, rfl⟩ := List.mem_map.mp hd
  unfold prD
  simp
@[simp] theorem imms_prs : ∀ {l : List (Int × Int)}, imms (l.map prD) = true
  | [] => rfl
  | (i, j) :: l => by rw [List.map_cons, imms, imms_prs]; simp [prD, imm, imms]
@[simp] theorem sorted_prs {l : List (Int × Int)} : sortedD [.lst (l.map prD)] = some (.lst ((sortP l).map prD)) := by
  cases l with
  | nil =>
    show some (D.lst ((sortI []).map D.int)) = some (D.lst ((sortP []).map prD))
    simp [sortI, sortP]
  | cons p l =>
    obtain ⟨i, j⟩ := p
    have : intsOf (((i, j) :: l).map prD) = none := rfl
    unfold sortedD
    dsimp only
    rw [this, pairsOf_map]
theorem sortP_self {l : List (Int × Int)} (h : l.Pairwise fun a b => leP a b = true) : sortP l = l := (sortP_eq (List.Perm.refl l) h).symm
theorem sortP_mem {l : List (Int × Int)} {p : Int × Int} : p ∈ sortP l ↔ p ∈ l := (List.mergeSort_perm l leP).mem_iff
theorem sortP_len {l : List (Int × Int)} : (sortP l).length = l.length := (List.mergeSort_perm l leP).length_eq
theorem sortP_pw {l : List (Int × Int)} : (sortP l).Pairwise fun a b => leP a b = true := List.pairwise_mergeSort leP_tr leP_to l
end Ol

namespace Ol
open PySem PySem.Spec PyProof.Rows L2
/-! ## formulas -/
inductive RW where
  | at_ | sum | count | least | greatest
  deriving DecidableEq
inductive OW where
  | minus | not | els | rest | add | sub | mul | div | cat | lt | eq
  deriving DecidableEq
@[irreducible] def RW.s : RW → Str
  | .at_ => Str.ofString "at"
  | .sum => Str.ofString "sum"
  | .count => Str.ofString "count"
  | .least => Str.ofString "least"
  | .greatest => Str.ofString "greatest"
@[irreducible] def OW.s : OW → Str
  | .minus => Str.ofString "minus"
  | .not => Str.ofString "not"
  | .els => Str.ofString "else"
  | .rest => Str.ofString "rest"
  | .add => Str.ofString "+"
  | .sub => Str.ofString "-"
  | .mul => Str.ofString "*"
  | .div => Str.ofString "/"
  | .cat => Str.ofString "&"
  | .lt => Str.ofString "<"
  | .eq => Str.ofString "="
def RW.gat : RW → Bool
  | .at_ => false
  | _ => true
inductive Fm where
  | num (i : Int)
  | text (x : Str)
  | lost
  | ref (w : RW) (ls ps : List Int)
  | find (k : Fm) (ls ps : List Int)
  | op1 (w : OW) (x : Fm)
  | op2 (w : OW) (x y : Fm)
  | ifF (x y z : Fm)
  deriving DecidableEq
def toD : Fm → D
  | .num i => .tup [.str (Str.ofString "num"), .int i]
  | .text x => .tup [.str (Str.ofString "text"), .str x]
  | .lost => .tup [.str (Str.ofString "lost")]
  | .ref w ls ps => .tup [.str w.s, .tup (ls.map D.int), .tup (ps.map D.int)]
  | .find k ls ps => .tup [.str (Str.ofString "find"), toD k, .tup (ls.map D.int), .tup (ps.map D.int)]
  | .op1 w x => .tup [.str w.s, toD x]
  | .op2 w x y => .tup [.str w.s, toD x, toD y]
  | .ifF x y z => .tup [.str (Str.ofString "if"), toD x, toD y, toD z]
@[simp] theorem imm_toD : ∀ f : Fm, imm (toD f) = true
  | .num _ => by simp [toD, imm, imms]
  | .text _ => by simp [toD, imm, imms]
  | .lost => by simp [toD, imm, imms]
  | .ref _ _ _ => by simp [toD, imm, imms]
  | .find k _ _ => by simp [toD, imm, imms, imm_toD k]
  | .op1 _ x => by simp [toD, imm, imms, imm_toD x]
  | .op2 _ x y => by simp [toD, imm, imms, imm_toD x, imm_toD y]
  | .ifF x y z => by simp [toD, imm, imms, imm_toD x, imm_toD y, imm_toD z]
/-- lines and pins: of a place, or of an area -/
def lpO (B : Int) (w : Bool) (ls ps : List Int) : Prop := (ls.length = (if w = true then 4 else 2) ∧ ps.length = ls.length) ∧ (∀ l ∈ ls, -B ≤ l ∧ l ≤ B) ∧ ∀ p ∈ ps, p = 0 ∨ p = 1
def fO (B : Int) : Fm → Prop
  | .num _ => True
  | .text x => PyData.strOk x = true
  | .lost => True
  | .ref w ls ps => lpO B w.gat ls ps
  | .find k ls ps => fO B k ∧ lpO B true ls ps
  | .op1 _ x => fO B x
  | .op2 _ x y => fO B x ∧ fO B y
  | .ifF x y z => fO B x ∧ fO B y ∧ fO B z
/-- how deep -/
def dF : Fm → Nat
  | .num _ => 0
  | .text _ => 0
  | .lost => 0
  | .ref _ _ _ => 0
  | .find k _ _ => dF k + 1
  | .op1 _ x => dF x + 1
  | .op2 _ x y => max (dF x) (dF y) + 1
  | .ifF x y z => max (dF x) (max (dF y) (dF z)) + 1
theorem rw_ok {w : RW} : PyData.strOk w.s = true := by cases w <;> rw [RW.s] <;> decide +kernel
theorem ow_ok {w : OW} : PyData.strOk w.s = true := by cases w <;> rw [OW.s] <;> decide +kernel
theorem shN_toD {B : Int} : ∀ {f : Fm} {n : Nat}, fO B f → dF f + 2 ≤ n → shN n (toD f) = true
  | .num _, n + 1, _, _ => by simp [toD]; decide +kernel
  | .text _, n + 1, h, _ => by simp [toD]; exact ⟨by decide +kernel, h⟩
  | .lost, n + 1, _, _ => by simp [toD]; decide +kernel
  | .ref w _ _, n + 1 + 1, _, _ => by simp [toD]; exact rw_ok
  | .ref _ _ _, 1, _, h => by simp [dF] at h
  | .find k _ _, n + 1 + 1, h, d => by simp [toD, shN_toD (f := k) (n := n + 1) h.1 (by simp [dF] at d; omega)]; decide +kernel
  | .find _ _ _, 1, _, h => by simp [dF] at h
  | .op1 w x, n + 1, h, d => by simp [toD, shN_toD (f := x) (n := n) h (by simp [dF] at d; omega)]; exact ow_ok
  | .op2 w x y, n + 1, h, d => by simp [toD, shN_toD (f := x) (n := n) h.1 (by simp [dF] at d; omega), shN_toD (f := y) (n := n) h.2 (by simp [dF] at d; omega)]; exact ow_ok
  | .ifF x y z, n + 1, h, d => by simp [toD, shN_toD (f := x) (n := n) h.1 (by simp [dF] at d; omega), shN_toD (f := y) (n := n) h.2.1 (by simp [dF] at d; omega), shN_toD (f := z) (n := n) h.2.2 (by simp [dF] at d; omega)]; decide +kernel
  | _, 0, _, h => by omega
theorem toD_tup (f : Fm) : ∃ ds, toD f = .tup ds := by cases f <;> exact ⟨_, rfl⟩
theorem ne_toD {B : Int} {f : Fm} (h : fO B f) (d : dF f ≤ 60) : neD (toD f) (toD f) = some (.bl false) := by
  have e := eqW_self (shN_toD (n := 64) h (by omega))
  obtain ⟨ds, hd⟩ := toD_tup f
  rw [hd] at e ⊢
  rw [ne_tt, e]
  rfl
@[simp] theorem isiV_toD {f : Fm} {n : String} : isiV [toD f, .ty n] = isiD [toD f, .ty n] := by obtain ⟨ds, hd⟩ := toD_tup f; rw [hd]; rfl
@[simp] theorem eqVd_toD {f : Fm} {y : D} : eqVd (toD f) y = eqD (toD f) y := by obtain ⟨ds, hd⟩ := toD_tup f; rw [hd]; rfl
@[simp] theorem neVd_toD {f : Fm} {y : D} : neVd (toD f) y = neD (toD f) y := by obtain ⟨ds, hd⟩ := toD_tup f; rw [hd]; rfl
theorem isi_toD {f : Fm} : isiD [toD f, .ty "tuple"] = some (.bl true) := by
  obtain ⟨ds, hd⟩ := toD_tup f
  rw [hd]
  rfl
end Ol

namespace Ol
open PySem PySem.Spec PyProof.Rows L2
/-! ## lines within the sheet -/
theorem list2 {l : List Int} (h : l.length = 2) : ∃ a b, l = [a, b] := by
  match l, h with
  | [a, b], _ => exact ⟨a, b, rfl⟩
theorem list4 {l : List Int} (h : l.length = 4) : ∃ a b c d, l = [a, b, c, d] := by
  match l, h with
  | [a, b, c, d], _ => exact ⟨a, b, c, d, rfl⟩
def lnR (v m : Int) : Bool := decide (¬ v < 0 ∧ ¬ m < v)
def fitL : List Int → Bool
  | [a, b] => lnR a 98 && lnR b 25
  | [a, b, c, d] => (lnR a 98 && lnR b 25 && lnR c 98 && lnR d 25) && decide (0 < c - a + 1 ∧ 0 < d - b + 1 ∧ (c - a + 1) * (d - b + 1) ≤ 300)
  | _ => false
/-- all its lines stand -/
def fitF : Fm → Prop
  | .ref _ ls _ => fitL ls = true
  | .find k ls _ => fitF k ∧ fitL ls = true
  | .op1 _ a => fitF a
  | .op2 _ a b => fitF a ∧ fitF b
  | .ifF a b d => fitF a ∧ fitF b ∧ fitF d
  | _ => True
theorem fit4 {a b c d : Int} (h1 : 0 ≤ a ∧ a ≤ c ∧ c ≤ 98) (h2 : 0 ≤ b ∧ b ≤ d ∧ d ≤ 25) (h3 : (c - a + 1) * (d - b + 1) ≤ 300) : fitL [a, b, c, d] = true := by
  unfold fitL lnR
  simp only [Bool.and_eq_true, decide_eq_true_eq]
  refine ⟨⟨⟨⟨?_, ?_⟩, ?_⟩, ?_⟩, ?_, ?_, h3⟩ <;> omega
theorem fit_bd {ls : List Int} (h : fitL ls = true) : ∀ l ∈ ls, -100 ≤ l ∧ l ≤ 100 := by
  unfold fitL lnR at h
  split at h
  · simp only [Bool.and_eq_true, decide_eq_true_eq] at h
    intro l hl
    simp only [List.mem_cons, List.not_mem_nil, or_false] at hl
    omega
  · simp only [Bool.and_eq_true, decide_eq_true_eq] at h
    obtain ⟨h, _⟩ := h
    intro l hl
    simp only [List.mem_cons, List.not_mem_nil, or_false] at hl
    omega
  · cases h
theorem fO_fit {B : Int} : ∀ {f : Fm}, fO B f → fitF f → fO 100 f
  | .num _, _, _ => trivial
  | .text _, h, _ => h
  | .lost, _, _ => trivial
  | .ref _ _ _, h, g => ⟨h.1, fit_bd g, h.2.2⟩
  | .find _ _ _, h, g => ⟨fO_fit h.1 g.1, h.2.1, fit_bd g.2, h.2.2.2⟩
  | .op1 _ a, h, g => fO_fit (f := a) h g
  | .op2 _ a b, h, g => ⟨fO_fit h.1 g.1, fO_fit h.2 g.2⟩
  | .ifF a b d, h, g => ⟨fO_fit h.1 g.1, fO_fit h.2.1 g.2.1, fO_fit h.2.2 g.2.2⟩
def plainC (c : Nat) : Prop := 32 ≤ c ∧ c ≤ 126 ∧ c ≠ 34 ∧ c ≠ 37
instance {c : Nat} : Decidable (plainC c) := inferInstanceAs (Decidable (_ ∧ _))
def plainT (x : Str) : Prop := x.length ≤ 40 ∧ ∀ c ∈ x.cps.toList, plainC c
instance {x : Str} : Decidable (plainT x) := inferInstanceAs (Decidable (_ ∧ _))
/-- ops of one -/
def OW.un : OW → Bool
  | .minus => true
  | .not => true
  | _ => false
/-- numbers and texts within the bounds, ops of as many as are due -/
def vF : Fm → Prop
  | .num i => 0 ≤ i ∧ i ≤ 1000000000000000000000000000000000000000000000000000000000000
  | .text x => plainT x
  | .find k _ _ => vF k
  | .op1 w x => w.un = true ∧ vF x
  | .op2 w x y => w.un = false ∧ vF x ∧ vF y
  | .ifF x y z => vF x ∧ vF y ∧ vF z
  | _ => True
/-- pieces -/
def nF : Fm → Nat
  | .find k _ _ => nF k + 1
  | .op1 _ x => nF x + 1
  | .op2 _ x y => nF x + nF y + 1
  | .ifF x y z => nF x + nF y + nF z + 1
  | _ => 1
/-- pieces by depth -/
def sN : Nat → Nat
  | 0 => 1
  | d + 1 => 3 * sN d + 1
theorem sN_mono : ∀ {a b : Nat}, a ≤ b → sN a ≤ sN b
  | a, 0, h => by rw [Nat.le_zero.mp h]; exact Nat.le_refl _
  | 0, b + 1, _ => by
    have := sN_mono (Nat.zero_le b)
    simp only [sN] at this ⊢
    omega
  | a + 1, b + 1, h => by
    have := sN_mono (Nat.le_of_succ_le_succ h)
    simp only [sN]
    omega
theorem nF_le : ∀ (f : Fm), nF f ≤ sN (dF f)
  | .num _ => Nat.le_refl _
  | .text _ => Nat.le_refl _
  | .lost => Nat.le_refl _
  | .ref _ _ _ => Nat.le_refl _
  | .find k _ _ => by
    have := nF_le k
    simp only [nF, dF, sN]
    omega
  | .op1 _ x => by
    have := nF_le x
    simp only [nF, dF, sN]
    omega
  | .op2 _ x y => by
    have h1 := nF_le x
    have h2 := nF_le y
    have h3 := sN_mono (Nat.le_max_left (dF x) (dF y))
    have h4 := sN_mono (Nat.le_max_right (dF x) (dF y))
    simp only [nF, dF, sN]
    omega
  | .ifF x y z => by
    have h1 := nF_le x
    have h2 := nF_le y
    have h5 := nF_le z
    have h3 := sN_mono (Nat.le_max_left (dF x) (max (dF y) (dF z)))
    have h4 := sN_mono (Nat.le_trans (Nat.le_max_left (dF y) (dF z)) (Nat.le_max_right (dF x) (max (dF y) (dF z))))
    have h6 := sN_mono (Nat.le_trans (Nat.le_max_right (dF y) (dF z)) (Nat.le_max_right (dF x) (max (dF y) (dF z))))
    simp only [nF, dF, sN]
    omega
end Ol

namespace Ol
open PySem PySem.Spec PyProof.Rows L2
/-! ## digits -/
theorem dgt {k : Nat} {n m : Int} (hm : 0 < m) (hs : m < 1000000000) : ∃ z n' : Int, tab (k + 1) .f_law_digit [.lst [.int n], .int m] = .ok (.int z) [some (.lst [.int n'])] ∧ 0 ≤ z ∧ z < m := by
  refine ⟨n % m, n / m, ?_, Int.emod_nonneg _ (by omega), Int.emod_lt_of_pos _ hm⟩
  simp (disch := omega) [sm_b, small_b, i62_b, ixN_b, t_f_law_digit, b_f_law_digit, hm]
end Ol

namespace Ol
open PySem PySem.Spec PyProof.Rows L2
/-! ## a great number of a cell, digits of it -/
theorem pow_sm8 {c : Nat} {j : Nat} (h : c < 2 ^ (30 * j)) (hj : j ≤ 60) : sm (c : Int) = true := by
  refine sm_of 1800 ?_ (by decide)
  rw [Int.natAbs_natCast]
  exact Nat.lt_of_lt_of_le h (Nat.pow_le_pow_right (by decide) (by omega))
theorem m_own {k : Nat} {c : Int} : ∃ n : Int, tab (k + 1) .f_law_own [.int c] = .ok (.lst [.int n]) [] := by
  generalize ha : (if c < 0 then -c else c) = a
  by_cases h : a % 2 = 1
  · refine ⟨a / 2, ?_⟩
    simp (disch := omega) [sm_b, small_b, i62_b, ixN_b, t_f_law_own, b_f_law_own, ha, h]
  have a1 := Int.emod_nonneg (a / 2) (b := 2147483629) (by decide)
  have a2 := Int.emod_lt_of_pos (a / 2) (b := 2147483629) (by decide)
  generalize hs : a / 2 % 2147483629 + 1 = s0
  obtain ⟨ρ', e, g, s, o, rfl, _⟩ := forL_idx (g := gNm 3) (body := l_law_own_1 (tab k)) (fun j ρ => ∃ (g : Nat) (s : Int) (o : Option D), ρ = [some (.int a), some (.int g), some (.int s), o] ∧ g < 2 ^ (30 * j) ∧ 0 ≤ s ∧ s < 2147483647)
    ((List.range 60).map fun i => D.int (i : Nat)) 0 [some (.int a), some (.int 0), some (.int s0), none] ⟨0, s0, none, rfl, by decide, by omega, by omega⟩ (by
    rintro j x hx ρ ⟨g, s, o, rfl, hg, h1, h2⟩
    rw [Nat.zero_add] at hg ⊢
    rw [List.getElem?_map] at hx
    have hj : j < 60 := by
      by_cases hj : j < 60
      · exact hj
      · rw [List.getElem?_eq_none (by simp; omega)] at hx
        cases hx
    rw [List.getElem?_range hj] at hx
    cases hx
    have sg := pow_sm8 hg (by omega)
    have b1 := Int.emod_nonneg (s * s + 977 * (j : Int) + 1) (b := 2147483647) (by decide)
    have b2 := Int.emod_lt_of_pos (s * s + 977 * (j : Int) + 1) (b := 2147483647) (by decide)
    generalize hn : (s * s + 977 * (j : Int) + 1) % 2147483647 = s2 at b1 b2
    have c1 := Int.emod_nonneg (s2 * 69621) (b := 2147483647) (by decide)
    have c2 := Int.emod_lt_of_pos (s2 * 69621) (b := 2147483647) (by decide)
    generalize hm : s2 * 69621 % 2147483647 = t at c1 c2
    obtain ⟨u, hu⟩ : ∃ u : Nat, t / 8 = u := ⟨(t / 8).toNat, by omega⟩
    have hp : 2 ^ (30 * (j + 1)) = 2 ^ (30 * j) * 1073741824 := by
      rw [show 30 * (j + 1) = 30 * j + 30 by omega, Nat.pow_add]
    refine ⟨[some (.int a), some (.int g), some (.int s), some (.int j)], _, rfl, .inl ?_, ⟨g * 268435399 + u, s2, some (.int j), rfl, ?_, b1, b2⟩⟩
    · rw [l_law_own_1]
      simp (disch := omega) [sm_b, small_b, i62_b, ixN_b, hn, hm, hu, sg]
    · rw [hp]
      have : u < 268435456 := by omega
      have : (g + 1) * 1073741824 ≤ 2 ^ (30 * j) * 1073741824 := Nat.mul_le_mul_right _ hg
      omega)
  refine ⟨g, ?_⟩
  have e0 : ((0 : Nat) : Int) = 0 := rfl
  simp (disch := omega) [sm_b, small_b, i62_b, ixN_b, t_f_law_own, b_f_law_own, ha, h, hs, e]
theorem dgb {k : Nat} {n m : Int} (hm : 0 < m) (hs : m ≤ 10 ^ 60 + 1) : ∃ z n' : Int, tab (k + 1) .f_law_digit [.lst [.int n], .int m] = .ok (.int z) [some (.lst [.int n'])] ∧ 0 ≤ z ∧ z < m := by
  refine ⟨n % m, n / m, ?_, Int.emod_nonneg _ (by omega), Int.emod_lt_of_pos _ hm⟩
  have : small m = true := small_of 300 (by omega) (by decide)
  simp (disch := omega) [sm_b, small_b, i62_b, ixN_b, t_f_law_digit, b_f_law_digit, hm, this]
end Ol

namespace Ol
open PySem PySem.Spec PyProof.Rows L2
/-! ## formulas drawn from a great number -/
theorem m_area8 {k : Nat} {n : Int} : ∃ a b c d n' : Int, tab (k + 1 + 1) .f_law_area [.lst [.int n]] = .ok (.tup [.int a, .int b, .int c, .int d]) [some (.lst [.int n'])] ∧ fitL [a, b, c, d] = true := by
  obtain ⟨x, n1, e1, b1⟩ := dgt (k := k) (n := n) (m := 99) (by decide) (by decide)
  obtain ⟨y, n2, e2, b2⟩ := dgt (k := k) (n := n1) (m := 26) (by decide) (by decide)
  obtain ⟨z3, n3, e3, b3⟩ := dgt (k := k) (n := n2) (m := 99 - x) (by omega) (by omega)
  have d1 : 3 ≤ 300 / (1 + z3) := Int.le_ediv_of_mul_le (by omega) (by omega)
  have d2 : 300 / (1 + z3) ≤ 300 := Int.ediv_le_self _ (by omega)
  obtain ⟨z4, n4, e4, b4⟩ := dgt (k := k) (n := n3) (m := if 300 / (1 + z3) < 26 - y then 300 / (1 + z3) else 26 - y) (by split <;> omega) (by split <;> omega)
  have d3 : (1 + z3) * (300 / (1 + z3)) ≤ 300 := Int.mul_ediv_self_le (by omega)
  have d4 : z4 + 1 ≤ 300 / (1 + z3) ∧ z4 < 26 - y := by
    have := b4.2
    split at this <;> omega
  have d5 : (1 + z3) * (z4 + 1) ≤ (1 + z3) * (300 / (1 + z3)) := Int.mul_le_mul_of_nonneg_left d4.1 (by omega)
  refine ⟨x, y, x + (1 + z3) - 1, y + (1 + z4) - 1, n4, ?_, fit4 (by omega) (by omega) ?_⟩
  · have d6 : 0 < 1 + z3 := by omega
    simp (disch := omega) [sm_b, small_b, i62_b, ixN_b, t_f_law_area, b_f_law_area, e1, e2, e3, e4, d6]
  · rw [show x + (1 + z3) - 1 - x + 1 = 1 + z3 by omega, show y + (1 + z4) - 1 - y + 1 = z4 + 1 by omega]
    omega
theorem m_pins8 {k : Nat} {n : Int} {m : Nat} (hm : m ≤ 10) : ∃ (ps : List Int) (n' : Int), tab (k + 1 + 1) .f_law_pins [.lst [.int n], .int m] = .ok (.tup (ps.map D.int)) [some (.lst [.int n'])] ∧ ps.length = m ∧ ∀ p ∈ ps, p = 0 ∨ p = 1 := by
  obtain ⟨ys, ρ', e, ⟨n', o, rfl, ho⟩, hl, hy⟩ := compI_all (chk := false) (g := gNm 2) (e := e_law_pins_1 (tab (k + 1))) (vs := [2]) (fun ρ => ∃ (n : Int) (o : Option D), ρ = [some (.lst [.int n]), some (.int m), o] ∧ o = none) (fun y => ∃ p : Int, y = .int p ∧ (p = 0 ∨ p = 1))
    ((List.range m).map fun k => D.int (k : Nat)) [some (.lst [.int n]), some (.int m), none] ⟨n, none, rfl, rfl⟩ (fun x _ => ⟨fun z => (by cases z), fun ρ => by
      rintro ⟨n, o, rfl, rfl⟩
      obtain ⟨z, n1, e1, b1⟩ := dgt (k := k) (n := n) (m := 2) (by decide) (by decide)
      refine ⟨[some (.lst [.int n]), some (.int m), some x], .int z, [some (.lst [.int n1]), some (.int m), some x], rfl, ?_, rfl, ⟨z, rfl, by omega⟩, n1, none, rfl, rfl⟩
      rw [e_law_pins_1]
      simp (disch := omega) [sm_b, small_b, i62_b, ixN_b, e1]⟩)
  obtain ⟨ps, rfl, hp⟩ := ex_map hy
  subst ho
  refine ⟨ps, n', ?_, by simpa using hl, hp⟩
  have i8 : i62 (m : Int) = true := i62_b (by omega) (by omega)
  have hm2 : m < 16777216 := by omega
  simp (disch := omega) [sm_b, small_b, i62_b, ixN_b, t_f_law_pins, b_f_law_pins, e, i8, hm2]
/-- the signs of the texts that are drawn -/
def sgn8 : Str := Str.ofString "ab zCZ019(),+-*/&<=:$'!~_{}@#"
theorem sg_len : sgn8.length = 29 := by decide +kernel
theorem sg_ok : ∀ c ∈ sgn8.cps.toList, plainC c ∧ PyData.strOk ⟨#[c]⟩ = true := by decide +kernel
end Ol

namespace Ol
open PySem PySem.Spec PyProof.Rows L2
/-! ## the words of formulas, sign by sign -/
theorem ow_s : OW.s .minus = ⟨#[109, 105, 110, 117, 115]⟩ ∧ OW.s .not = ⟨#[110, 111, 116]⟩ ∧ OW.s .els = ⟨#[101, 108, 115, 101]⟩ ∧ OW.s .rest = ⟨#[114, 101, 115, 116]⟩ ∧ OW.s .add = ⟨#[43]⟩ ∧ OW.s .sub = ⟨#[45]⟩ ∧ OW.s .mul = ⟨#[42]⟩ ∧ OW.s .div = ⟨#[47]⟩ ∧ OW.s .cat = ⟨#[38]⟩ ∧ OW.s .lt = ⟨#[60]⟩ ∧ OW.s .eq = ⟨#[61]⟩ := by
  simp only [OW.s]
  decide +kernel
theorem rw_s : RW.s .at_ = ⟨#[97, 116]⟩ ∧ RW.s .sum = ⟨#[115, 117, 109]⟩ ∧ RW.s .count = ⟨#[99, 111, 117, 110, 116]⟩ ∧ RW.s .least = ⟨#[108, 101, 97, 115, 116]⟩ ∧ RW.s .greatest = ⟨#[103, 114, 101, 97, 116, 101, 115, 116]⟩ := by
  simp only [RW.s]
  decide +kernel
end Ol

namespace Ol
open PySem PySem.Spec PyProof.Rows L2
/-! ## leaves drawn from a great number -/
def W8 (f : Fm) : Prop := fO 100 f ∧ fitF f ∧ vF f
theorem sg_lit : sgn8 = ⟨#[97, 98, 32, 122, 67, 90, 48, 49, 57, 40, 41, 44, 43, 45, 42, 47, 38, 60, 61, 58, 36, 39, 33, 126, 95, 123, 125, 64, 35]⟩ := by decide +kernel
theorem joinL_chars : ∀ cs : List Nat, TL.joinL [] (cs.map fun c => [c]) = cs
  | [] => rfl
  | [_] => rfl
  | c :: d :: r => by
    show [c] ++ ([] ++ TL.joinL [] ((d :: r).map fun c => [c])) = c :: d :: r
    rw [joinL_chars (d :: r)]
    rfl
def oneC (c : Nat) : Str := ⟨#[c]⟩
theorem join_chars (cs : List Nat) : Txt.join ⟨#[]⟩ (cs.map oneC) = ⟨cs.toArray⟩ := by
  have h : TL.tl (Txt.join ⟨#[]⟩ (cs.map oneC)) = cs := by
    show TL.tl (PySem.Builtin.Str.glued _ _) = _
    rw [StrLaws.glued_eq_join, TL.tl_join, List.map_map]
    exact joinL_chars cs
  generalize Txt.join ⟨#[]⟩ (cs.map oneC) = x at h
  subst h
  rfl
theorem sum_chars (cs : List Nat) : ((cs.map oneC).map (·.length)).sum = cs.length := by
  induction cs with
  | nil => rfl
  | cons c r ih =>
    rw [List.map_cons, List.map_cons, List.sum_cons, ih, List.length_cons]
    show 1 + r.length = r.length + 1
    omega
theorem m_chars8 {k : Nat} {n : Int} {m : Nat} : ∃ (cs : List Nat) (n' : Int), compI false (gNm 7) (fun ρ => .ok true ρ) (e_law_leaf_1 (tab (k + 1))) [7] [some (.lst [.int n]), some (.int 1), some (.str sgn8), some (.int m), none, none, none, none] ((List.range m).map fun k => D.int (k : Nat)) =
    .ok ((cs.map oneC).map D.str) [some (.lst [.int n']), some (.int 1), some (.str sgn8), some (.int m), none, none, none, none] ∧ cs.length = m ∧ ∀ c ∈ cs, plainC c := by
  obtain ⟨ys, ρ', e, ⟨n', o, rfl, ho⟩, hl, hy⟩ := compI_all (chk := false) (g := gNm 7) (e := e_law_leaf_1 (tab (k + 1))) (vs := [7]) (fun ρ => ∃ (n : Int) (o : Option D), ρ = [some (.lst [.int n]), some (.int 1), some (.str sgn8), some (.int m), none, none, none, o] ∧ o = none) (fun y => ∃ c : Nat, y = .str (oneC c) ∧ plainC c)
    ((List.range m).map fun k => D.int (k : Nat)) [some (.lst [.int n]), some (.int 1), some (.str sgn8), some (.int m), none, none, none, none] ⟨n, none, rfl, rfl⟩ (fun x _ => ⟨fun z => (by cases z), fun ρ => by
      rintro ⟨n, o, rfl, rfl⟩
      obtain ⟨z, n1, e1, b1⟩ := dgt (k := k) (n := n) (m := 29) (by decide) (by decide)
      have hz : sgn8.cps.toList.length = 29 := by decide +kernel
      obtain ⟨c, hc, hat⟩ := at_ex (xs := sgn8.cps.toList) (i := z) b1.1 (by rw [hz]; exact b1.2)
      refine ⟨[some (.lst [.int n]), some (.int 1), some (.str sgn8), some (.int m), none, none, none, some x], .str (oneC c), [some (.lst [.int n1]), some (.int 1), some (.str sgn8), some (.int m), none, none, none, some x], rfl, ?_, rfl, ⟨c, rfl, (sg_ok c (List.mem_of_getElem? hc)).1⟩, n1, none, rfl, rfl⟩
      rw [e_law_leaf_1]
      simp (disch := omega) [sm_b, small_b, i62_b, ixN_b, e1, sg_len, hat, oneC]⟩)
  obtain ⟨cs, rfl, hp⟩ := ex_map hy
  subst ho
  refine ⟨cs, n', ?_, by simpa using hl, hp⟩
  rw [e, List.map_map]
  rfl
theorem m_leaf8 {k : Nat} {n w : Int} (hw : 0 ≤ w ∧ w < 5) : ∃ (f : Fm) (n' : Int), tab (k + 1 + 1 + 1) .f_law_leaf [.lst [.int n], .int w] = .ok (toD f) [some (.lst [.int n'])] ∧ W8 f ∧ dF f = 0 ∧ nF f = 1 := by
  have hws : w = 0 ∨ w = 1 ∨ w = 2 ∨ w = 3 ∨ w = 4 := by omega
  rcases hws with rfl | rfl | rfl | rfl | rfl
  · obtain ⟨z, n1, e1, b1⟩ := dgt (k := k + 1) (n := n) (m := 3) (by decide) (by decide)
    have hz : z = 0 ∨ z = 1 ∨ z = 2 := by omega
    rcases hz with rfl | rfl | rfl
    · obtain ⟨y, n2, e2, b2⟩ := dgt (k := k + 1) (n := n1) (m := 10) (by decide) (by decide)
      exact ⟨.num y, n2, by simp (disch := omega) [sm_b, small_b, i62_b, ixN_b, t_f_law_leaf, b_f_law_leaf, e1, e2, toD], ⟨trivial, trivial, by simp only [vF]; omega⟩, rfl, rfl⟩
    · obtain ⟨y, n2, e2, b2⟩ := dgt (k := k + 1) (n := n1) (m := 1000) (by decide) (by decide)
      exact ⟨.num y, n2, by simp (disch := omega) [sm_b, small_b, i62_b, ixN_b, t_f_law_leaf, b_f_law_leaf, e1, e2, toD], ⟨trivial, trivial, by simp only [vF]; omega⟩, rfl, rfl⟩
    · obtain ⟨y, n2, e2, b2⟩ := dgb (k := k + 1) (n := n1) (m := 1000000000000000000000000000000000000000000000000000000000001) (by decide) (by decide)
      exact ⟨.num y, n2, by simp (disch := omega) [sm_b, small_b, i62_b, ixN_b, t_f_law_leaf, b_f_law_leaf, e1, e2, toD], ⟨trivial, trivial, by simp only [vF]; omega⟩, rfl, rfl⟩
  · obtain ⟨z, n1, e1, b1⟩ := dgt (k := k + 1) (n := n) (m := 2) (by decide) (by decide)
    have key : ∀ (y n2 : Int) (m : Nat), y = m → m ≤ 40 → ∃ (cs : List Nat) (n' : Int), compI false (gNm 7) (fun ρ => .ok true ρ) (e_law_leaf_1 (tab (k + 1 + 1))) [7] [some (.lst [.int n2]), some (.int 1), some (.str sgn8), some (.int y), none, none, none, none] ((List.range m).map fun k => D.int (k : Nat)) =
        .ok ((cs.map oneC).map D.str) [some (.lst [.int n']), some (.int 1), some (.str sgn8), some (.int y), none, none, none, none] ∧ W8 (.text ⟨cs.toArray⟩) ∧ cs.length ≤ 40 := fun y n2 m hy hm => by
      subst hy
      obtain ⟨cs, n', e, hl, hc⟩ := m_chars8 (k := k + 1) (n := n2) (m := m)
      refine ⟨cs, n', e, ⟨?_, trivial, ⟨?_, fun c h => hc c (by simpa using h)⟩⟩, by omega⟩
      · show Array.all cs.toArray _ = true
        rw [List.all_toArray, List.all_eq_true]
        intro c h
        have := hc c h
        unfold plainC at this
        exact decide_eq_true (by omega)
      · show cs.toArray.size ≤ 40
        simp
        omega
    have hz : z = 0 ∨ z = 1 := by omega
    have nd : ∀ q : Int, 0 < q ∧ q ≤ 41 → tab (k + 1 + 1) .f_law_digit [.lst [.int n], .int 2] = .ok (.int z) [some (.lst [.int n1])] → (q = if z = 0 then 4 else 41) → ∃ (f : Fm) (n' : Int), tab (k + 1 + 1 + 1) .f_law_leaf [.lst [.int n], .int 1] = .ok (toD f) [some (.lst [.int n'])] ∧ W8 f ∧ dF f = 0 ∧ nF f = 1 := fun q hq e1 hqz => by
      obtain ⟨y, n2, e2, b2⟩ := dgt (k := k + 1) (n := n1) (m := q) (by omega) (by omega)
      obtain ⟨j, rfl⟩ : ∃ j : Nat, y = j := ⟨y.toNat, by omega⟩
      obtain ⟨cs, n', e3, hw, hl⟩ := key j n2 j rfl (by omega)
      refine ⟨.text ⟨cs.toArray⟩, n', ?_, hw, rfl, rfl⟩
      have js := join_chars cs
      have ss := sum_chars cs
      rw [sg_lit] at e3
      generalize cs.map oneC = ts at e3 js ss
      have i8 : i62 (j : Int) = true := i62_b (by omega) (by omega)
      have i9 : j < 16777216 := by omega
      have i7 : cs.length ≤ 16777216 := by omega
      rcases hz with rfl | rfl
      · rw [if_pos rfl] at hqz
        subst hqz
        simp (disch := omega) [sm_b, small_b, i62_b, ixN_b, t_f_law_leaf, b_f_law_leaf, e1, e2, e3, js, ss, i8, i9, i7, toD]
      · rw [if_neg (by decide)] at hqz
        subst hqz
        simp (disch := omega) [sm_b, small_b, i62_b, ixN_b, t_f_law_leaf, b_f_law_leaf, e1, e2, e3, js, ss, i8, i9, i7, toD]
    rcases hz with rfl | rfl
    · exact nd 4 (by decide) e1 rfl
    · exact nd 41 (by decide) e1 rfl
  · obtain ⟨x, n1, e1, b1⟩ := dgt (k := k + 1) (n := n) (m := 99) (by decide) (by decide)
    obtain ⟨y, n2, e2, b2⟩ := dgt (k := k + 1) (n := n1) (m := 26) (by decide) (by decide)
    obtain ⟨ps, n3, e3, l3, p3⟩ := m_pins8 (k := k) (n := n2) (m := 2) (by decide)
    have e3 : tab (k + 1 + 1) .f_law_pins [.lst [.int n2], .int 2] = .ok (.tup (ps.map D.int)) [some (.lst [.int n3])] := e3
    have hf : fitL [x, y] = true := by
      unfold fitL lnR
      simp only [Bool.and_eq_true, decide_eq_true_eq]
      omega
    refine ⟨.ref .at_ [x, y] ps, n3, ?_, ⟨⟨⟨rfl, l3⟩, fit_bd hf, p3⟩, hf, trivial⟩, rfl, rfl⟩
    simp (disch := omega) [sm_b, small_b, i62_b, ixN_b, t_f_law_leaf, b_f_law_leaf, e1, e2, e3, toD, rw_s]
  · exact ⟨.lost, n, by simp (disch := omega) [sm_b, small_b, i62_b, ixN_b, t_f_law_leaf, b_f_law_leaf, toD], ⟨trivial, trivial, trivial⟩, rfl, rfl⟩
  · obtain ⟨z, n1, e1, b1⟩ := dgt (k := k + 1) (n := n) (m := 4) (by decide) (by decide)
    obtain ⟨a, b, c, d, n2, e2, hf⟩ := m_area8 (k := k) (n := n1)
    obtain ⟨ps, n3, e3, l3, p3⟩ := m_pins8 (k := k) (n := n2) (m := 4) (by decide)
    have e3 : tab (k + 1 + 1) .f_law_pins [.lst [.int n2], .int 4] = .ok (.tup (ps.map D.int)) [some (.lst [.int n3])] := e3
    have hz : z = 0 ∨ z = 1 ∨ z = 2 ∨ z = 3 := by omega
    rcases hz with rfl | rfl | rfl | rfl
    · exact ⟨.ref .sum [a, b, c, d] ps, n3, by simp (disch := omega) [sm_b, small_b, i62_b, ixN_b, t_f_law_leaf, b_f_law_leaf, e1, e2, e3, toD, rw_s], ⟨⟨⟨rfl, l3⟩, fit_bd hf, p3⟩, hf, trivial⟩, rfl, rfl⟩
    · exact ⟨.ref .count [a, b, c, d] ps, n3, by simp (disch := omega) [sm_b, small_b, i62_b, ixN_b, t_f_law_leaf, b_f_law_leaf, e1, e2, e3, toD, rw_s], ⟨⟨⟨rfl, l3⟩, fit_bd hf, p3⟩, hf, trivial⟩, rfl, rfl⟩
    · exact ⟨.ref .least [a, b, c, d] ps, n3, by simp (disch := omega) [sm_b, small_b, i62_b, ixN_b, t_f_law_leaf, b_f_law_leaf, e1, e2, e3, toD, rw_s], ⟨⟨⟨rfl, l3⟩, fit_bd hf, p3⟩, hf, trivial⟩, rfl, rfl⟩
    · exact ⟨.ref .greatest [a, b, c, d] ps, n3, by simp (disch := omega) [sm_b, small_b, i62_b, ixN_b, t_f_law_leaf, b_f_law_leaf, e1, e2, e3, toD, rw_s], ⟨⟨⟨rfl, l3⟩, fit_bd hf, p3⟩, hf, trivial⟩, rfl, rfl⟩
end Ol

namespace Ol
open PySem PySem.Spec PyProof.Rows L2
/-! ## formulas drawn from a great number -/
theorem nF_ge : ∀ f : Fm, 1 ≤ nF f
  | .num _ => Nat.le_refl _
  | .text _ => Nat.le_refl _
  | .lost => Nat.le_refl _
  | .ref _ _ _ => Nat.le_refl _
  | .find _ _ _ => Nat.succ_le_succ (Nat.zero_le _)
  | .op1 _ _ => Nat.succ_le_succ (Nat.zero_le _)
  | .op2 _ _ _ => Nat.succ_le_succ (Nat.zero_le _)
  | .ifF _ _ _ => Nat.succ_le_succ (Nat.zero_le _)
def Drn (K : Nat) (x : Int) (d : Nat) : Prop := ∀ n r : Int, 0 ≤ r ∧ r ≤ 1000 → ∃ (f : Fm) (n' r' : Int), tab K .f_law_formula [.lst [.int n], .int x, .lst [.int r]] = .ok (toD f) [some (.lst [.int n']), some (.lst [.int r'])] ∧ (W8 f ∧ dF f ≤ d) ∧ 0 ≤ r' ∧ (nF f : Int) + r' = r + 1
theorem m_parts8 {K : Nat} {x : Int} {d : Nat} {a3 a4 : Option D} (ih : Drn K (x - 1) d) : ∀ (xs : List D) (n r : Int), 0 ≤ r ∧ r ≤ 1000 → ∃ (fs : List Fm) (n' r' : Int), compI false (gNm 8) (fun ρ => .ok true ρ) (e_law_formula_1 (tab K)) [8] [some (.lst [.int n]), some (.int x), some (.lst [.int r]), a3, a4, none, none, none, none] xs =
    .ok (fs.map toD) [some (.lst [.int n']), some (.int x), some (.lst [.int r']), a3, a4, none, none, none, none] ∧ fs.length = xs.length ∧ (∀ f ∈ fs, W8 f ∧ dF f ≤ d) ∧ 0 ≤ r' ∧ ((fs.map nF).sum : Int) + r' = r + xs.length
  | [], n, r, h => ⟨[], n, r, rfl, rfl, fun _ z => (by cases z), h.1, by simp⟩
  | y :: xs, n, r, h => by
    obtain ⟨f, n1, r1, e1, o1, h1, s1⟩ := ih n r h
    have := nF_ge f
    obtain ⟨fs, n2, r2, e2, l2, o2, h2, s2⟩ := m_parts8 (a3 := a3) (a4 := a4) ih xs n1 r1 ⟨h1, by omega⟩
    refine ⟨f :: fs, n2, r2, ?_, by simp [l2], fun z hz => ?_, h2, ?_⟩
    · have e3 : e_law_formula_1 (tab K) [some (.lst [.int n]), some (.int x), some (.lst [.int r]), a3, a4, none, none, none, some y] = .ok (toD f) [some (.lst [.int n1]), some (.int x), some (.lst [.int r1]), a3, a4, none, none, none, some y] := by
        rw [e_law_formula_1]
        simp (disch := omega) [sm_b, small_b, i62_b, ixN_b, e1]
      unfold compI
      rw [if_neg (by simp)]
      have g : gNm 8 y (wipeE [some (.lst [.int n]), some (.int x), some (.lst [.int r]), a3, a4, none, none, none, none] [8]) = some [some (.lst [.int n]), some (.int x), some (.lst [.int r]), a3, a4, none, none, none, some y] := rfl
      rw [g]
      dsimp only
      rw [e3]
      dsimp only
      rw [if_pos (imm_toD f)]
      have w : wipeE [some (.lst [.int n1]), some (.int x), some (.lst [.int r1]), a3, a4, none, none, none, some y] [8] = [some (.lst [.int n1]), some (.int x), some (.lst [.int r1]), a3, a4, none, none, none, none] := rfl
      rw [w, e2]
      rfl
    · rcases List.mem_cons.mp hz with rfl | hz
      · exact o1
      · exact o2 z hz
    · rw [List.map_cons, List.sum_cons, List.length_cons]
      omega
theorem len1 {α : Type} {l : List α} (h : l.length = 1) : ∃ a, l = [a] := by
  match l, h with
  | [a], _ => exact ⟨a, rfl⟩
theorem len2 {α : Type} {l : List α} (h : l.length = 2) : ∃ a b, l = [a, b] := by
  match l, h with
  | [a, b], _ => exact ⟨a, b, rfl⟩
theorem len3 {α : Type} {l : List α} (h : l.length = 3) : ∃ a b c, l = [a, b, c] := by
  match l, h with
  | [a, b, c], _ => exact ⟨a, b, c, rfl⟩
def nd8 (w : Int) : Int := if w < 5 then 0 else if w < 8 then 1 else if w < 17 then 2 else 3
theorem nd8_at {w : Int} (hw : 0 ≤ w ∧ w < 18) : atI [D.int 0, D.int 0, D.int 0, D.int 0, D.int 0, D.int 1, D.int 1, D.int 1, D.int 2, D.int 2, D.int 2, D.int 2, D.int 2, D.int 2, D.int 2, D.int 2, D.int 2, D.int 3] w = some (.int (nd8 w)) := by
  have hws : w = 0 ∨ w = 1 ∨ w = 2 ∨ w = 3 ∨ w = 4 ∨ w = 5 ∨ w = 6 ∨ w = 7 ∨ w = 8 ∨ w = 9 ∨ w = 10 ∨ w = 11 ∨ w = 12 ∨ w = 13 ∨ w = 14 ∨ w = 15 ∨ w = 16 ∨ w = 17 := by omega
  rcases hws with rfl | rfl | rfl | rfl | rfl | rfl | rfl | rfl | rfl | rfl | rfl | rfl | rfl | rfl | rfl | rfl | rfl | rfl <;> rfl
theorem dr_leaf {k : Nat} {x n r w n1 : Int} (e1 : tab (k + 1 + 1 + 1) .f_law_digit [.lst [.int n], .int 18] = .ok (.int w) [some (.lst [.int n1])]) (hw : 0 ≤ w ∧ w < 18) (hr : 0 ≤ r ∧ r ≤ 1000) (hc : w < 5 ∨ x = 1 ∨ r < nd8 w) :
    ∃ (f : Fm) (n' r' : Int), tab (k + 1 + 1 + 1 + 1) .f_law_formula [.lst [.int n], .int x, .lst [.int r]] = .ok (toD f) [some (.lst [.int n']), some (.lst [.int r'])] ∧ (W8 f ∧ dF f ≤ 0) ∧ 0 ≤ r' ∧ (nF f : Int) + r' = r + 1 := by
  obtain ⟨f, n2, e2, o2, d2, s2⟩ := m_leaf8 (k := k) (n := n1) (w := w % 5) (by omega)
  refine ⟨f, n2, r, ?_, ⟨o2, by omega⟩, hr.1, by rw [s2]; omega⟩
  have i0 : i62 0 = true := i62_b (by decide) (by decide)
  have lw : w % 5 < 5 := by omega
  have hN := nd8_at hw
  by_cases hx : x = 1
  · subst hx
    simp (disch := omega) [sm_b, small_b, i62_b, ixN_b, t_f_law_formula, b_f_law_formula, e1, e2, i0, compI, hN, lw]
  by_cases hrv : r < nd8 w
  · simp (disch := omega) [sm_b, small_b, i62_b, ixN_b, t_f_law_formula, b_f_law_formula, e1, e2, i0, compI, hN, lw, hx, hrv]
  · have w5 : w < 5 := by
      rcases hc with h | h | h
      · exact h
      · exact absurd h hx
      · exact absurd h hrv
    have n0 : nd8 w = 0 := by unfold nd8; rw [if_pos w5]
    have ww : w % 5 = w := by omega
    rw [ww] at e2
    rw [n0] at hN
    have hr0 : ¬ r < 0 := by omega
    simp (disch := omega) [sm_b, small_b, i62_b, ixN_b, t_f_law_formula, b_f_law_formula, e1, e2, i0, compI, hN, w5, hx, hr0]
def owW (w : Int) : OW := if w = 5 then .minus else if w = 6 then .not else if w = 8 then .add else if w = 9 then .sub else if w = 10 then .mul else if w = 11 then .div else if w = 12 then .cat else if w = 13 then .lt else if w = 14 then .eq else if w = 15 then .rest else .els
theorem ow8_at {w : Int} (hw : 5 ≤ w ∧ w < 17 ∧ w ≠ 7) : atI [D.str ⟨#[109, 105, 110, 117, 115]⟩, .str ⟨#[110, 111, 116]⟩, .str ⟨#[102, 105, 110, 100]⟩, .str ⟨#[43]⟩, .str ⟨#[45]⟩, .str ⟨#[42]⟩, .str ⟨#[47]⟩, .str ⟨#[38]⟩, .str ⟨#[60]⟩, .str ⟨#[61]⟩, .str ⟨#[114, 101, 115, 116]⟩, .str ⟨#[101, 108, 115, 101]⟩, .str ⟨#[105, 102]⟩] (w - 5) = some (.str (owW w).s) := by
  have hws : w = 5 ∨ w = 6 ∨ w = 8 ∨ w = 9 ∨ w = 10 ∨ w = 11 ∨ w = 12 ∨ w = 13 ∨ w = 14 ∨ w = 15 ∨ w = 16 := by omega
  rcases hws with rfl | rfl | rfl | rfl | rfl | rfl | rfl | rfl | rfl | rfl | rfl <;> simp only [owW] <;> simp [ow_s] <;> rfl
theorem if8_at : atI [D.str ⟨#[109, 105, 110, 117, 115]⟩, .str ⟨#[110, 111, 116]⟩, .str ⟨#[102, 105, 110, 100]⟩, .str ⟨#[43]⟩, .str ⟨#[45]⟩, .str ⟨#[42]⟩, .str ⟨#[47]⟩, .str ⟨#[38]⟩, .str ⟨#[60]⟩, .str ⟨#[61]⟩, .str ⟨#[114, 101, 115, 116]⟩, .str ⟨#[101, 108, 115, 101]⟩, .str ⟨#[105, 102]⟩] 12 = some (.str ⟨#[105, 102]⟩) := rfl
theorem m_form8 : ∀ (d k : Nat) (x : Int), x = d + 1 → d ≤ k → Drn (k + 1 + 1 + 1 + 1) x d
  | 0, k, x, hx, _ => fun n r hr => by
    obtain ⟨w, n1, e1, b1⟩ := dgt (k := k + 1 + 1) (n := n) (m := 18) (by decide) (by decide)
    exact dr_leaf e1 b1 hr (.inr (.inl (by omega)))
  | _ + 1, 0, _, _, h => by omega
  | d + 1, k + 1, x, hx, hk => fun n r hr => by
    obtain ⟨w, n1, e1, b1⟩ := dgt (k := k + 1 + 1 + 1) (n := n) (m := 18) (by decide) (by decide)
    by_cases hc : w < 5 ∨ x = 1 ∨ r < nd8 w
    · obtain ⟨f, n', r', h1, ⟨h2, h3⟩, h4⟩ := dr_leaf e1 b1 hr hc
      exact ⟨f, n', r', h1, ⟨h2, by omega⟩, h4⟩
    have w5 : ¬ w < 5 := fun h => hc (.inl h)
    have x1 : ¬ x = 1 := fun h => hc (.inr (.inl h))
    have rv : ¬ r < nd8 w := fun h => hc (.inr (.inr h))
    have hN := nd8_at b1
    have ih := m_form8 d k (x - 1) (by omega) (by omega)
    have i1 : i62 1 = true := i62_b (by decide) (by decide)
    have i2 : i62 2 = true := i62_b (by decide) (by decide)
    have i3 : i62 3 = true := i62_b (by decide) (by decide)
    by_cases w7 : w = 7
    · subst w7
      have hv : nd8 7 = 1 := by decide
      rw [hv] at hN rv
      obtain ⟨fs, n2, r2, e2, l2, o2, h2, s2⟩ := m_parts8 (x := x) (a3 := some (.int 7)) (a4 := some (.int 1)) ih [D.int 0] n1 (r - 1) (by omega)
      obtain ⟨f, rfl⟩ := len1 l2
      obtain ⟨a, b, c, e, n3, e3, hf⟩ := m_area8 (k := k + 1 + 1) (n := n2)
      obtain ⟨ps, n4, e4, l4, p4⟩ := m_pins8 (k := k + 1 + 1) (n := n3) (m := 4) (by decide)
      have e4 : tab (k + 1 + 1 + 1 + 1) .f_law_pins [.lst [.int n3], .int 4] = .ok (.tup (ps.map D.int)) [some (.lst [.int n4])] := e4
      have o := o2 f (by simp)
      simp at s2
      refine ⟨.find f [a, b, c, e] ps, n4, r2, ?_, ⟨⟨⟨o.1.1, ⟨rfl, l4⟩, fit_bd hf, p4⟩, ⟨o.1.2.1, hf⟩, o.1.2.2⟩, Nat.succ_le_succ o.2⟩, h2, by simp only [nF]; omega⟩
      simp (disch := omega) [sm_b, small_b, i62_b, ixN_b, t_f_law_formula, b_f_law_formula, e1, e2, e3, e4, i1, hN, w5, x1, rv, toD]
    by_cases w17 : w = 17
    · subst w17
      have hv : nd8 17 = 3 := by decide
      rw [hv] at hN rv
      obtain ⟨fs, n2, r2, e2, l2, o2, h2, s2⟩ := m_parts8 (x := x) (a3 := some (.int 17)) (a4 := some (.int 3)) ih ((List.range 3).map fun k => D.int (k : Nat)) n1 (r - 3) (by omega)
      obtain ⟨f, g, j, rfl⟩ := len3 l2
      have o := o2 f (by simp)
      have o' := o2 g (by simp)
      have o'' := o2 j (by simp)
      simp at s2
      refine ⟨.ifF f g j, n2, r2, ?_, ⟨⟨⟨o.1.1, o'.1.1, o''.1.1⟩, ⟨o.1.2.1, o'.1.2.1, o''.1.2.1⟩, o.1.2.2, o'.1.2.2, o''.1.2.2⟩, by have := o.2; have := o'.2; have := o''.2; simp only [dF]; omega⟩, h2, by simp only [nF]; omega⟩
      simp (disch := omega) [sm_b, small_b, i62_b, ixN_b, t_f_law_formula, b_f_law_formula, e1, e2, i3, hN, w5, x1, rv, toD, if8_at]
    have hO := ow8_at (w := w) (by omega)
    by_cases w8 : w < 8
    · have hv : nd8 w = 1 := by unfold nd8; rw [if_neg w5, if_pos w8]
      rw [hv] at hN rv
      obtain ⟨fs, n2, r2, e2, l2, o2, h2, s2⟩ := m_parts8 (x := x) (a3 := some (.int w)) (a4 := some (.int 1)) ih [D.int 0] n1 (r - 1) (by omega)
      obtain ⟨f, rfl⟩ := len1 l2
      have o := o2 f (by simp)
      simp at s2
      have hu : (owW w).un = true := by
        have : w = 5 ∨ w = 6 := by omega
        rcases this with rfl | rfl <;> rfl
      refine ⟨.op1 (owW w) f, n2, r2, ?_, ⟨⟨o.1.1, o.1.2.1, hu, o.1.2.2⟩, Nat.succ_le_succ o.2⟩, h2, by simp only [nF]; omega⟩
      simp (disch := omega) [sm_b, small_b, i62_b, ixN_b, t_f_law_formula, b_f_law_formula, e1, e2, i1, hN, w5, w7, x1, rv, toD, hO]
    · have hv : nd8 w = 2 := by unfold nd8; rw [if_neg w5, if_neg w8, if_pos (by omega)]
      rw [hv] at hN rv
      obtain ⟨fs, n2, r2, e2, l2, o2, h2, s2⟩ := m_parts8 (x := x) (a3 := some (.int w)) (a4 := some (.int 2)) ih ((List.range 2).map fun k => D.int (k : Nat)) n1 (r - 2) (by omega)
      obtain ⟨f, g, rfl⟩ := len2 l2
      have o := o2 f (by simp)
      have o' := o2 g (by simp)
      simp at s2
      have hu : (owW w).un = false := by
        have : w = 8 ∨ w = 9 ∨ w = 10 ∨ w = 11 ∨ w = 12 ∨ w = 13 ∨ w = 14 ∨ w = 15 ∨ w = 16 := by omega
        rcases this with rfl | rfl | rfl | rfl | rfl | rfl | rfl | rfl | rfl <;> rfl
      refine ⟨.op2 (owW w) f g, n2, r2, ?_, ⟨⟨⟨o.1.1, o'.1.1⟩, ⟨o.1.2.1, o'.1.2.1⟩, hu, o.1.2.2, o'.1.2.2⟩, by have := o.2; have := o'.2; simp only [dF]; omega⟩, h2, by simp only [nF]; omega⟩
      simp (disch := omega) [sm_b, small_b, i62_b, ixN_b, t_f_law_formula, b_f_law_formula, e1, e2, i2, hN, w5, w7, x1, rv, toD, hO]
end Ol

namespace Ol
open PySem PySem.Spec PyProof.Rows L2
/-! ## formulas that stand: made_formula tells them -/
theorem tr_map {ls : List Int} : ((ls.map D.int).map fun _ => D.bl true) = (ls.map fun _ => true).map D.bl := by
  rw [List.map_map, List.map_map]
  rfl
theorem bls_tr {α : Type} {ls : List α} : bls (ls.map (D.bl ∘ fun _ => true)) = some (ls.map fun _ => true) := by
  rw [← List.map_map]
  exact bls_map
theorem lt_one {c d : Nat} : ([c] < [d]) ↔ c < d := by simp [List.cons_lt_cons_iff]
theorem lit_q : Str.ofString "\"" = ⟨#[34]⟩ := by decide +kernel
theorem all_tr {α : Type} {ls : List α} : (ls.map fun _ => true).all id = true := by
  rw [List.all_map, List.all_eq_true]
  intro _ _
  rfl
theorem m_are_numbers {k : Nat} {ls : List Int} {n : Int} (h : ls.length < 1000) : tab (k + 1) .f_are_numbers [.tup (ls.map D.int), .int n] = .ok (.bl (decide ((ls.length : Int) = n))) [] := by
  have hc : compL false (gNm 2) (fun ρ => .ok true ρ) (e_are_numbers_1 (tab k)) [some (.tup (ls.map D.int)), some (.int n), none] (ls.map D.int) = some ((ls.map D.int).map fun _ => D.bl true) := by
    rw [compL_map (fun _ => D.bl true) (fun y hy => ?_)]
    obtain ⟨j, _, rfl⟩ := List.mem_map.mp hy
    refine ⟨fun z => (by cases z), _, [some (.tup (ls.map D.int)), some (.int n), some (.int j)], rfl, ?_⟩
    rw [e_are_numbers_1]
    simp (disch := omega) [sm_b, small_b, i62_b, ixN_b]
  rw [tr_map] at hc
  have i1 : ls.length < 16777216 := by omega
  by_cases h2 : (ls.length : Int) = n
  · simp (disch := omega) [sm_b, small_b, i62_b, ixN_b, t_f_are_numbers, b_f_are_numbers, hc, h2, i1, all_tr, bls_tr]
  · simp (disch := omega) [sm_b, small_b, i62_b, ixN_b, t_f_are_numbers, b_f_are_numbers, h2]
theorem m_are_pins {k : Nat} {ps : List Int} {n : Int} (h0 : 0 < ps.length ∧ ps.length < 1000) (hn : (ps.length : Int) = n) (hp : ∀ p ∈ ps, p = 0 ∨ p = 1) : tab (k + 1 + 1) .f_are_pins [.tup (ps.map D.int), .int n] = .ok (.bl true) [] := by
  have g1 := m_are_numbers (k := k) (ls := ps) (n := n) h0.2
  rw [decide_eq_true hn] at g1
  have hne : ps ≠ [] := by
    intro e
    rw [e] at h0
    exact absurd h0.1 (by decide)
  obtain ⟨z, g2, b2⟩ : ∃ z, minD [.tup (ps.map D.int)] = some (.int z) ∧ 0 ≤ z := by
    refine ⟨minL ps, ?_, ?_⟩
    · cases ps with
      | nil => exact absurd rfl hne
      | cons p ps => simp only [minD, intsOf_map]
    · have := hp _ (minL_mem hne)
      omega
  obtain ⟨w, g3, b3⟩ : ∃ z, maxD [.tup (ps.map D.int)] = some (.int z) ∧ z ≤ 1 := by
    refine ⟨maxL ps, ?_, ?_⟩
    · cases ps with
      | nil => exact absurd rfl hne
      | cons p ps => simp only [maxD, intsOf_map]
    · have := hp _ (maxL_mem hne)
      omega
  simp (disch := omega) [sm_b, small_b, i62_b, ixN_b, t_f_are_pins, b_f_are_pins, g1, g2, g3, b2, b3]
theorem m_fplace {k : Nat} {x y : Int} (h : fitL [x, y] = true) : tab (k + 1 + 1) .f_is_place [.tup [.int x, .int y]] = .ok (.bl true) [] := by
  unfold fitL lnR at h
  simp only [Bool.and_eq_true, decide_eq_true_eq] at h
  have g1 : tab (k + 1) .f_are_numbers [.tup [.int x, .int y], .int 2] = .ok (.bl true) [] := m_are_numbers (k := k) (ls := [x, y]) (n := 2) (by simp)
  have h1 : 0 ≤ x := by omega
  have h2 : x < 99 := by omega
  have h3 : 0 ≤ y := by omega
  have h4 : y < 26 := by omega
  simp (disch := omega) [sm_b, small_b, i62_b, ixN_b, t_f_is_place, b_f_is_place, g1, h1, h2, h3, h4]
theorem m_farea {k : Nat} {t l b q : Int} (h : fitL [t, l, b, q] = true) : tab (k + 1 + 1 + 1) .f_is_area [.tup [.int t, .int l, .int b, .int q]] = .ok (.bl true) [] := by
  have g1 : tab (k + 1 + 1) .f_are_numbers [.tup [.int t, .int l, .int b, .int q], .int 4] = .ok (.bl true) [] := m_are_numbers (k := k + 1) (ls := [t, l, b, q]) (n := 4) (by simp)
  have h0 := h
  unfold fitL lnR at h
  simp only [Bool.and_eq_true, decide_eq_true_eq] at h
  obtain ⟨⟨⟨⟨h1, h2⟩, h3⟩, h4⟩, h5, h6, h7⟩ := h
  have f2 : ∀ x y : Int, (0 ≤ x ∧ x ≤ 98) → (0 ≤ y ∧ y ≤ 25) → fitL [x, y] = true := fun x y hx hy => by
    unfold fitL lnR
    simp only [Bool.and_eq_true, decide_eq_true_eq]
    omega
  have g2 := m_fplace (k := k) (f2 t l (by omega) (by omega))
  have g3 := m_fplace (k := k) (f2 b q (by omega) (by omega))
  simp (disch := omega) [sm_b, small_b, i62_b, ixN_b, t_f_is_area, b_f_is_area, g1, g2, g3, h5, h6, h7, cutL_take, cutL_drop]
theorem m_plain {k : Nat} {x : Str} (h : plainT x) : tab (k + 1) .f_is_plain_text [.str x] = .ok (.bl true) [] := by
  obtain ⟨h1, h2⟩ := h
  have hc : compL false (gNm 1) (fun ρ => .ok true ρ) (e_is_plain_text_1 (tab k)) [some (.str x), none] (x.cps.toList.map fun c => D.str ⟨#[c]⟩) = some ((x.cps.toList.map fun c => D.str ⟨#[c]⟩).map fun _ => D.bl true) := by
    rw [compL_map (fun _ => D.bl true) (fun y hy => ?_)]
    obtain ⟨c, hc, rfl⟩ := List.mem_map.mp hy
    obtain ⟨c1, c2, c3, c4⟩ := h2 c hc
    refine ⟨fun z => (by cases z), _, [some (.str x), some (.str ⟨#[c]⟩)], rfl, ?_⟩
    rw [e_is_plain_text_1]
    have d1 : ¬ c < 32 := by omega
    have d2 : ¬ 126 < c := by omega
    have d4 : ¬ (c : Int) = 37 := by omega
    simp (disch := omega) [sm_b, small_b, i62_b, ixN_b, c1, c2, c3, c4, d1, d2, d4, lt_one, lit_q]
    exact d4
  rw [List.map_map, show ((fun _ => D.bl true) ∘ fun c => D.str ⟨#[c]⟩) = (fun _ : Nat => D.bl true) from rfl, show (x.cps.toList.map fun _ => D.bl true) = (x.cps.toList.map fun _ => true).map D.bl by rw [List.map_map]; rfl] at hc
  have h3 : ¬ 40 < x.length := by omega
  have h4 : x.length ≤ 16777216 := by omega
  have h5 : x.length < 16777216 := by omega
  have h6 : ¬ (40 : Int) < (x.length : Int) := by omega
  have h7 : x.cps.size < 16777216 := h5
  simp (disch := omega) [sm_b, small_b, i62_b, ixN_b, t_f_is_plain_text, b_f_is_plain_text, hc, h4, h5, h6, h7, all_tr, bls_tr]
/-- the parts that are formulas -/
def ptF : Fm → List Fm
  | .find k _ _ => [k]
  | .op1 _ x => [x]
  | .op2 _ x y => [x, y]
  | .ifF x y z => [x, y, z]
  | _ => []
theorem ok_s : PyData.strOk ⟨#[109, 105, 110, 117, 115]⟩ = true ∧ PyData.strOk ⟨#[110, 111, 116]⟩ = true ∧ PyData.strOk ⟨#[101, 108, 115, 101]⟩ = true ∧ PyData.strOk ⟨#[114, 101, 115, 116]⟩ = true ∧ PyData.strOk ⟨#[43]⟩ = true ∧ PyData.strOk ⟨#[45]⟩ = true ∧ PyData.strOk ⟨#[42]⟩ = true ∧ PyData.strOk ⟨#[47]⟩ = true ∧ PyData.strOk ⟨#[38]⟩ = true ∧ PyData.strOk ⟨#[60]⟩ = true ∧ PyData.strOk ⟨#[61]⟩ = true ∧ PyData.strOk ⟨#[97, 116]⟩ = true ∧ PyData.strOk ⟨#[115, 117, 109]⟩ = true ∧ PyData.strOk ⟨#[99, 111, 117, 110, 116]⟩ = true ∧ PyData.strOk ⟨#[108, 101, 97, 115, 116]⟩ = true ∧ PyData.strOk ⟨#[103, 114, 101, 97, 116, 101, 115, 116]⟩ = true ∧ PyData.strOk ⟨#[110, 117, 109]⟩ = true ∧ PyData.strOk ⟨#[116, 101, 120, 116]⟩ = true ∧ PyData.strOk ⟨#[108, 111, 115, 116]⟩ = true ∧ PyData.strOk ⟨#[102, 105, 110, 100]⟩ = true ∧ PyData.strOk ⟨#[105, 102]⟩ = true := by decide +kernel
theorem m_parts {k : Nat} {f : Fm} (o : fO 100 f) (h : fitF f) (v : vF f) (d : dF f ≤ 60) : tab (k + 1 + 1 + 1 + 1) .f_parts_of [toD f] = .ok (.tup ((ptF f).map toD)) [] := by
  have h63 : ∀ {g : Fm}, fO 100 g → dF g + 1 ≤ dF f → shN 63 (toD g) = true := fun og dg => shN_toD og (by omega)
  cases f with
  | num i =>
    have g1 : tab (k + 1 + 1 + 1) .f_are_numbers [.tup [.int i], .int 1] = .ok (.bl true) [] := m_are_numbers (k := k + 1 + 1) (ls := [i]) (n := 1) (by simp)
    obtain ⟨v1, v2⟩ := v
    simp (disch := omega) [sm_b, small_b, i62_b, ixN_b, t_f_parts_of, b_f_parts_of, ok_s, toD, ptF, g1, v1, v2, cutL_tail]
  | text x =>
    have g1 := m_plain (k := k + 1 + 1) v
    have o1 : PyData.strOk x = true := o
    simp (disch := omega) [sm_b, small_b, i62_b, ixN_b, t_f_parts_of, b_f_parts_of, ok_s, toD, ptF, g1, o1]
  | lost => simp (disch := omega) [sm_b, small_b, i62_b, ixN_b, t_f_parts_of, b_f_parts_of, ok_s, toD, ptF]
  | ref w ls ps =>
    cases w
    · obtain ⟨x, y, rfl⟩ := list2 o.1.1
      have g1 := m_fplace (k := k + 1) h
      have g2 := m_are_pins (k := k + 1) (ps := ps) (n := 2) (by rw [o.1.2]; simp) (by rw [o.1.2]; rfl) o.2.2
      simp (disch := omega) [sm_b, small_b, i62_b, ixN_b, t_f_parts_of, b_f_parts_of, ok_s, toD, ptF, g1, g2, rw_s]
    all_goals
      obtain ⟨t, l, b, q, rfl⟩ := list4 o.1.1
      have g1 := m_farea (k := k) h
      have g2 := m_are_pins (k := k + 1) (ps := ps) (n := 4) (by rw [o.1.2]; simp) (by rw [o.1.2]; rfl) o.2.2
      simp (disch := omega) [sm_b, small_b, i62_b, ixN_b, t_f_parts_of, b_f_parts_of, ok_s, toD, ptF, g1, g2, rw_s]
  | find x ls ps =>
    obtain ⟨t, l, b, q, rfl⟩ := list4 o.2.1.1
    have g1 := m_farea (k := k) h.2
    have g2 := m_are_pins (k := k + 1) (ps := ps) (n := 4) (by rw [o.2.1.2]; simp) (by rw [o.2.1.2]; rfl) o.2.2.2
    have g3 := h63 o.1 (Nat.le_refl _)
    simp (disch := omega) [sm_b, small_b, i62_b, ixN_b, t_f_parts_of, b_f_parts_of, ok_s, toD, ptF, g1, g2, g3]
  | op1 w x =>
    have g3 := h63 (g := x) o (Nat.le_refl _)
    have v1 := v.1
    cases w <;> first | (cases v1; done) | simp (disch := omega) [sm_b, small_b, i62_b, ixN_b, t_f_parts_of, b_f_parts_of, ok_s, toD, ptF, g3, ow_s, cutL_tail]
  | op2 w x y =>
    have g3 := h63 (g := x) o.1 (by simp only [dF]; omega)
    have g4 := h63 (g := y) o.2 (by simp only [dF]; omega)
    have v1 := v.1
    cases w <;> first | (cases v1; done) | simp (disch := omega) [sm_b, small_b, i62_b, ixN_b, t_f_parts_of, b_f_parts_of, ok_s, toD, ptF, g3, g4, ow_s, cutL_tail]
  | ifF x y z =>
    have g3 := h63 (g := x) o.1 (by simp only [dF]; omega)
    have g4 := h63 (g := y) o.2.1 (by simp only [dF]; omega)
    have g5 := h63 (g := z) o.2.2 (by simp only [dF]; omega)
    simp (disch := omega) [sm_b, small_b, i62_b, ixN_b, t_f_parts_of, b_f_parts_of, ok_s, toD, ptF, g3, g4, g5, cutL_tail]
end Ol

namespace Ol
open PySem PySem.Spec PyProof.Rows L2
/-! ## formulas that stand: pieces counted -/
theorem nF_pos : ∀ (f : Fm), 1 ≤ nF f
  | .num _ => Nat.le_refl _
  | .text _ => Nat.le_refl _
  | .lost => Nat.le_refl _
  | .ref _ _ _ => Nat.le_refl _
  | .find _ _ _ => Nat.succ_le_succ (Nat.zero_le _)
  | .op1 _ _ => Nat.succ_le_succ (Nat.zero_le _)
  | .op2 _ _ _ => Nat.succ_le_succ (Nat.zero_le _)
  | .ifF _ _ _ => Nat.succ_le_succ (Nat.zero_le _)
theorem m_left : ∀ (f : Fm) (k : Nat) (e l : Int), fO 100 f → fitF f → vF f → dF f ≤ 60 → dF f ≤ k → (dF f : Int) + 1 ≤ e → (nF f : Int) ≤ l → tab (k + 1 + 1 + 1 + 1 + 1) .f_pieces_left [toD f, .int e, .int l] = .ok (.int (l - nF f)) []
  | .num i, k, e, l, o, h, v, d, _, he, hl => by
    have p := m_parts (k := k) o h v d
    simp only [dF, nF, ptF, List.map] at he hl p
    have h1 : ¬ e < 1 := by omega
    have h2 : ¬ l < 1 := by omega
    simp (disch := omega) [sm_b, small_b, i62_b, ixN_b, t_f_pieces_left, b_f_pieces_left, p, h1, h2, nF]
  | .text i, k, e, l, o, h, v, d, _, he, hl => by
    have p := m_parts (k := k) o h v d
    simp only [dF, nF, ptF, List.map] at he hl p
    have h1 : ¬ e < 1 := by omega
    have h2 : ¬ l < 1 := by omega
    simp (disch := omega) [sm_b, small_b, i62_b, ixN_b, t_f_pieces_left, b_f_pieces_left, p, h1, h2, nF]
  | .lost, k, e, l, o, h, v, d, _, he, hl => by
    have p := m_parts (k := k) o h v d
    simp only [dF, nF, ptF, List.map] at he hl p
    have h1 : ¬ e < 1 := by omega
    have h2 : ¬ l < 1 := by omega
    simp (disch := omega) [sm_b, small_b, i62_b, ixN_b, t_f_pieces_left, b_f_pieces_left, p, h1, h2, nF]
  | .ref w ls ps, k, e, l, o, h, v, d, _, he, hl => by
    have p := m_parts (k := k) o h v d
    simp only [dF, nF, ptF, List.map] at he hl p
    have h1 : ¬ e < 1 := by omega
    have h2 : ¬ l < 1 := by omega
    simp (disch := omega) [sm_b, small_b, i62_b, ixN_b, t_f_pieces_left, b_f_pieces_left, p, h1, h2, nF]
  | .find x ls ps, k + 1, e, l, o, h, v, d, hk, he, hl => by
    have p := m_parts (k := k + 1) o h v d
    simp only [dF, nF, ptF, List.map] at he hl p d hk
    have ih := m_left x k (e - 1) (l - 1) o.1 h.1 v (by omega) (by omega) (by omega) (by omega)
    have := nF_pos x
    have h1 : ¬ e < 1 := by omega
    have h2 : ¬ l < 1 := by omega
    have h3 : 1 ≤ l := by omega
    simp (disch := omega) [sm_b, small_b, i62_b, ixN_b, t_f_pieces_left, b_f_pieces_left, p, h1, h2, h3, nF, l_pieces_left_1, ih]
    omega
  | .op1 w x, k + 1, e, l, o, h, v, d, hk, he, hl => by
    have p := m_parts (k := k + 1) o h v d
    simp only [dF, nF, ptF, List.map] at he hl p d hk
    have ih := m_left x k (e - 1) (l - 1) o h v.2 (by omega) (by omega) (by omega) (by omega)
    have := nF_pos x
    have h1 : ¬ e < 1 := by omega
    have h2 : ¬ l < 1 := by omega
    have h3 : 1 ≤ l := by omega
    simp (disch := omega) [sm_b, small_b, i62_b, ixN_b, t_f_pieces_left, b_f_pieces_left, p, h1, h2, h3, nF, l_pieces_left_1, ih]
    omega
  | .op2 w x y, k + 1, e, l, o, h, v, d, hk, he, hl => by
    have p := m_parts (k := k + 1) o h v d
    simp only [dF, nF, ptF, List.map] at he hl p d hk
    have ih := m_left x k (e - 1) (l - 1) o.1 h.1 v.2.1 (by omega) (by omega) (by omega) (by omega)
    have ih2 := m_left y k (e - 1) (l - 1 - nF x) o.2 h.2 v.2.2 (by omega) (by omega) (by omega) (by omega)
    have := nF_pos x
    have := nF_pos y
    have h1 : ¬ e < 1 := by omega
    have h2 : ¬ l < 1 := by omega
    have h3 : 1 ≤ l := by omega
    have h4 : (nF x : Int) ≤ l - 1 := by omega
    simp (disch := omega) [sm_b, small_b, i62_b, ixN_b, t_f_pieces_left, b_f_pieces_left, p, h1, h2, nF, l_pieces_left_1, h3, h4, ih, ih2]
    omega
  | .ifF x y z, k + 1, e, l, o, h, v, d, hk, he, hl => by
    have p := m_parts (k := k + 1) o h v d
    simp only [dF, nF, ptF, List.map] at he hl p d hk
    have ih := m_left x k (e - 1) (l - 1) o.1 h.1 v.1 (by omega) (by omega) (by omega) (by omega)
    have ih2 := m_left y k (e - 1) (l - 1 - nF x) o.2.1 h.2.1 v.2.1 (by omega) (by omega) (by omega) (by omega)
    have ih3 := m_left z k (e - 1) (l - 1 - nF x - nF y) o.2.2 h.2.2 v.2.2 (by omega) (by omega) (by omega) (by omega)
    have := nF_pos x
    have := nF_pos y
    have := nF_pos z
    have h1 : ¬ e < 1 := by omega
    have h2 : ¬ l < 1 := by omega
    have h3 : 1 ≤ l := by omega
    have h4 : (nF x : Int) ≤ l - 1 := by omega
    have h5 : (nF y : Int) ≤ l - 1 - nF x := by omega
    simp (disch := omega) [sm_b, small_b, i62_b, ixN_b, t_f_pieces_left, b_f_pieces_left, p, h1, h2, nF, l_pieces_left_1, h3, h4, h5, ih, ih2, ih3]
    omega
  | .find _ _ _, 0, _, _, _, _, _, _, hk, _, _ => by simp only [dF] at hk; omega
  | .op1 _ _, 0, _, _, _, _, _, _, hk, _, _ => by simp only [dF] at hk; omega
  | .op2 _ _ _, 0, _, _, _, _, _, _, hk, _, _ => by simp only [dF] at hk; omega
  | .ifF _ _ _, 0, _, _, _, _, _, _, hk, _, _ => by simp only [dF] at hk; omega
theorem m_made {k : Nat} {f : Fm} (o : fO 100 f) (h : fitF f) (v : vF f) (d : dF f ≤ 11) (n : nF f ≤ 60) : tab (k + 11 + 1 + 1 + 1 + 1 + 1 + 1) .f_made_formula [toD f] = .ok (toD f) [] := by
  have g := m_left f (k + 11) 12 60 o h v (by omega) (by omega) (by omega) (by omega)
  have h1 : ¬ (60 - (nF f : Int)) < 0 := by omega
  simp (disch := omega) [sm_b, small_b, i62_b, ixN_b, t_f_made_formula, b_f_made_formula, g, h1]
end Ol

namespace Ol
open PySem PySem.Spec PyProof.Rows L2
/-! ## the names of a formula, each once -/
def nD (ls : List Int) : D := .tup (ls.map D.int)
def twF : Fm → List (List Int)
  | .ref _ ls _ => [ls]
  | .find k ls _ => twF k ++ [ls]
  | .op1 _ x => twF x
  | .op2 _ x y => twF x ++ twF y
  | .ifF x y z => twF x ++ twF y ++ twF z
  | _ => []
theorem twF_len : ∀ {f : Fm}, (twF f).length ≤ nF f
  | .num _ => by simp [twF]
  | .text _ => by simp [twF]
  | .lost => by simp [twF]
  | .ref w ls ps => by simp [twF, nF]
  | .find k ls ps => by have := twF_len (f := k); simp [twF, nF]; omega
  | .op1 w x => by have := twF_len (f := x); simp [twF, nF]; omega
  | .op2 w x y => by have := twF_len (f := x); have := twF_len (f := y); simp [twF, nF]; omega
  | .ifF x y z => by have := twF_len (f := x); have := twF_len (f := y); have := twF_len (f := z); simp [twF, nF]; omega
@[simp] theorem imm_nD {l : List Int} : imm (nD l) = true := by unfold nD; simp [imm]
@[simp] theorem imms_nD {l : List (List Int)} : imms (l.map nD) = true := imms_map (fun p => imm_nD) l
theorem m_twice : ∀ (f : Fm) (k : Nat), fO 100 f → fitF f → vF f → dF f ≤ 60 → dF f ≤ k → nF f ≤ 1000 → tab (k + 1 + 1 + 1 + 1 + 1) .f_named_twice_in [toD f] = .ok (.lst ((twF f).map nD)) []
  | .num x, k, o, h, v, d, _, _ => by
    have g := m_parts (k := k) o h v d
    simp [toD, ptF] at g
    simp (disch := omega) [sm_b, small_b, i62_b, ixN_b, t_f_named_twice_in, b_f_named_twice_in, toD, twF, g]
  | .text x, k, o, h, v, d, _, _ => by
    have g := m_parts (k := k) o h v d
    simp [toD, ptF] at g
    simp (disch := omega) [sm_b, small_b, i62_b, ixN_b, t_f_named_twice_in, b_f_named_twice_in, toD, twF, g]
  | .lost, k, o, h, v, d, _, _ => by
    have g := m_parts (k := k) o h v d
    simp [toD, ptF] at g
    simp (disch := omega) [sm_b, small_b, i62_b, ixN_b, t_f_named_twice_in, b_f_named_twice_in, toD, twF, g]
  | .ref w ls ps, k, o, h, v, d, _, _ => by
    have g := m_parts (k := k) o h v d
    cases w <;> simp only [toD, ptF, List.map_nil, rw_s] at g <;> simp (disch := omega) [sm_b, small_b, i62_b, ixN_b, t_f_named_twice_in, b_f_named_twice_in, toD, twF, g, rw_s, nD]
  | .find x ls ps, k + 1, o, h, v, d, hk, n => by
    have g := m_parts (k := k + 1) o h v d
    simp only [dF] at d hk
    simp only [nF] at n
    have ih := m_twice x k o.1 h.1 v (by omega) (by omega) (by omega)
    have hn := twF_len (f := x)
    have h1 : (twF x).length ≤ 16777215 := by omega
    have h2 : (twF x).length ≤ 16777216 := by omega
    have h3 : (twF x).length < 16777216 := by omega
    simp [toD, ptF] at g
    simp (disch := omega) [sm_b, small_b, i62_b, ixN_b, t_f_named_twice_in, b_f_named_twice_in, toD, twF, g, ih, h1, h2, h3, nD, l_named_twice_in_1]
  | .op1 w x, k + 1, o, h, v, d, hk, n => by
    have g := m_parts (k := k + 1) o h v d
    simp only [dF] at d hk
    simp only [nF] at n
    have ih := m_twice x k o h v.2 (by omega) (by omega) (by omega)
    have hn := twF_len (f := x)
    have h2 : (twF x).length ≤ 16777216 := by omega
    cases w <;> simp only [toD, ptF, List.map_cons, List.map_nil, ow_s] at g <;> simp (disch := omega) [sm_b, small_b, i62_b, ixN_b, t_f_named_twice_in, b_f_named_twice_in, toD, twF, g, ih, h2, ow_s, l_named_twice_in_1]
  | .op2 w x y, k + 1, o, h, v, d, hk, n => by
    have g := m_parts (k := k + 1) o h v d
    simp only [dF] at d hk
    simp only [nF] at n
    have ih := m_twice x k o.1 h.1 v.2.1 (by omega) (by omega) (by omega)
    have ih2 := m_twice y k o.2 h.2 v.2.2 (by omega) (by omega) (by omega)
    have hn := twF_len (f := x)
    have hn2 := twF_len (f := y)
    have h2 : (twF x).length ≤ 16777216 := by omega
    have h3 : (twF x).length + (twF y).length ≤ 16777216 := by omega
    cases w <;> simp only [toD, ptF, List.map_cons, List.map_nil, ow_s] at g <;> simp (disch := omega) [sm_b, small_b, i62_b, ixN_b, t_f_named_twice_in, b_f_named_twice_in, toD, twF, g, ih, ih2, h2, h3, ow_s, l_named_twice_in_1]
  | .ifF x y z, k + 1, o, h, v, d, hk, n => by
    have g := m_parts (k := k + 1) o h v d
    simp only [dF] at d hk
    simp only [nF] at n
    have ih := m_twice x k o.1 h.1 v.1 (by omega) (by omega) (by omega)
    have ih2 := m_twice y k o.2.1 h.2.1 v.2.1 (by omega) (by omega) (by omega)
    have ih3 := m_twice z k o.2.2 h.2.2 v.2.2 (by omega) (by omega) (by omega)
    have hn := twF_len (f := x)
    have hn2 := twF_len (f := y)
    have hn3 := twF_len (f := z)
    have h2 : (twF x).length ≤ 16777216 := by omega
    have h3 : (twF x).length + (twF y).length ≤ 16777216 := by omega
    have h4 : (twF x).length + (twF y).length + (twF z).length ≤ 16777216 := by omega
    have h5 : (twF x).length + ((twF y).length + (twF z).length) ≤ 16777216 := by omega
    simp [toD, ptF] at g
    simp (disch := omega) [sm_b, small_b, i62_b, ixN_b, t_f_named_twice_in, b_f_named_twice_in, toD, twF, g, ih, ih2, ih3, h2, h3, h4, h5, l_named_twice_in_1]
  | .find _ _ _, 0, _, _, _, _, d, _ => by simp [dF] at d
  | .op1 _ _, 0, _, _, _, _, d, _ => by simp [dF] at d
  | .op2 _ _ _, 0, _, _, _, _, d, _ => by simp [dF] at d
  | .ifF _ _ _, 0, _, _, _, _, d, _ => by simp [dF] at d
/-- each once -/
def onceL : List (List Int) → List (List Int) → List (List Int)
  | acc, [] => acc
  | acc, x :: xs => onceL (if x ∈ acc then acc else acc ++ [x]) xs
theorem eqv_nD : ∀ {x y : List Int}, eqv (nD x) (nD y) = decide (x = y)
  | [], [] => by simp [nD]
  | [], _ :: _ => by simp [nD]
  | _ :: _, [] => by simp [nD]
  | a :: x, b :: y => by
    have ih := eqv_nD (x := x) (y := y)
    unfold nD at ih ⊢
    simp only [List.map_cons, eqv_tt, eqvs_cons] at ih ⊢
    rw [ih]
    by_cases h : a = b <;> simp [h]
theorem in_nD {x : List Int} {acc : List (List Int)} : inB (nD x) (.lst (acc.map nD)) = some (decide (x ∈ acc)) := by
  have s1 : shp (nD x) = true := by rw [shp_N]; unfold nD; simp
  have s2 : shp (.lst (acc.map nD)) = true := by
    rw [shp_N, shN_lst]
    refine shNs_all fun d hd => ?_
    obtain ⟨y, _, rfl⟩ := List.mem_map.mp hd
    unfold nD
    simp
  have hf : flatD (nD x) = false := by unfold nD; rfl
  have ha : (acc.map nD).any (fun y => eqv y (nD x)) = decide (x ∈ acc) := by
    rw [List.any_map, Bool.eq_iff_iff, List.any_eq_true, decide_eq_true_iff]
    constructor
    · rintro ⟨y, hy, e⟩
      have e : eqv (nD y) (nD x) = true := e
      rw [eqv_nD, decide_eq_true_iff] at e
      exact e ▸ hy
    · intro h
      exact ⟨x, h, by show eqv (nD x) (nD x) = true; rw [eqv_nD, decide_eq_true_iff]⟩
  rw [inB_lst', s1, s2, hf, ha]
  rfl
theorem once_go {F : Fn → List D → Res D} {X : D} : ∀ (xs acc : List (List Int)) (o : Option D), acc.length + xs.length ≤ 10000 → ∃ o', forL (gNm 2) (l_named_in_1 F) (xs.map nD) [some X, some (.lst (acc.map nD)), o] = .nx [some X, some (.lst ((onceL acc xs).map nD)), o']
  | [], acc, o, _ => ⟨o, rfl⟩
  | x :: xs, acc, o, h => by
    rw [List.length_cons] at h
    have hin := in_nD (x := x) (acc := acc)
    have hl : acc.length < 16777216 := by omega
    have e : ninVd (nD x) (.lst (acc.map nD)) = ninD (nD x) (.lst (acc.map nD)) := rfl
    unfold onceL
    by_cases c : x ∈ acc
    · obtain ⟨o', ih⟩ := once_go (F := F) (X := X) xs acc (some (nD x)) (by omega)
      rw [decide_eq_true c] at hin
      rw [if_pos c]
      have st : l_named_in_1 F [some X, some (.lst (acc.map nD)), some (nD x)] = .nx [some X, some (.lst (acc.map nD)), some (nD x)] := by
        rw [l_named_in_1]
        simp (disch := omega) [sm_b, small_b, i62_b, ixN_b, -inB_lst', e, hin]
      refine ⟨o', ?_⟩
      rw [List.map_cons]
      simp (disch := omega) [sm_b, small_b, i62_b, ixN_b, st]
      exact ih
    · obtain ⟨o', ih⟩ := once_go (F := F) (X := X) xs (acc ++ [x]) (some (nD x)) (by rw [List.length_append, List.length_singleton]; omega)
      rw [decide_eq_false c] at hin
      rw [if_neg c]
      have st : l_named_in_1 F [some X, some (.lst (acc.map nD)), some (nD x)] = .nx [some X, some (.lst ((acc ++ [x]).map nD)), some (nD x)] := by
        rw [l_named_in_1, List.map_append]
        simp (disch := omega) [sm_b, small_b, i62_b, ixN_b, -inB_lst', e, hin, hl]
      refine ⟨o', ?_⟩
      rw [List.map_cons]
      simp (disch := omega) [sm_b, small_b, i62_b, ixN_b, st]
      simp only [List.map_append, List.map_cons, List.map_nil] at ih
      exact ih
theorem m_named {k : Nat} {f : Fm} (o : fO 100 f) (h : fitF f) (v : vF f) (d : dF f ≤ 60) (hk : dF f ≤ k) (n : nF f ≤ 1000) : tab (k + 1 + 1 + 1 + 1 + 1 + 1) .f_named_in [toD f] = .ok (.lst ((onceL [] (twF f)).map nD)) [] := by
  have g := m_twice f k o h v d hk n
  have hn := twF_len (f := f)
  obtain ⟨o', e⟩ := once_go (F := tab (k + 1 + 1 + 1 + 1 + 1)) (X := toD f) (twF f) [] none (by simp; omega)
  simp only [List.map_nil] at e
  simp (disch := omega) [sm_b, small_b, i62_b, ixN_b, -forL_cons, t_f_named_in, b_f_named_in, g, e]
end Ol

namespace Ol
open PySem PySem.Spec PyProof.Rows L2
/-! ## pieces and depths -/
theorem mx0 {m : Int} : maxDfD [.lst [], .int m] = some (.int m) := rfl
theorem mx1 {a m : Int} : maxDfD [.lst [.int a], .int m] = some (.int a) := rfl
theorem mx2 {a b m : Int} : maxDfD [.lst [.int a, .int b], .int m] = some (.int (if b ≤ a then a else b)) := rfl
theorem mx3 {a b c m : Int} : maxDfD [.lst [.int a, .int b, .int c], .int m] = some (.int (if (if c ≤ b then b else c) ≤ a then a else (if c ≤ b then b else c))) := rfl
theorem my1 {a : Int} : maxD [.lst [.int a]] = some (.int a) := rfl
theorem my2 {a b : Int} : maxD [.lst [.int a, .int b]] = some (.int (if b ≤ a then a else b)) := rfl
theorem my3 {a b c : Int} : maxD [.lst [.int a, .int b, .int c]] = some (.int (if (if c ≤ b then b else c) ≤ a then a else (if c ≤ b then b else c))) := rfl
theorem my4 {a b c d : Int} : maxD [.lst [.int a, .int b, .int c, .int d]] = some (.int (if (if (if d ≤ c then c else d) ≤ b then b else (if d ≤ c then c else d)) ≤ a then a else (if (if d ≤ c then c else d) ≤ b then b else (if d ≤ c then c else d)))) := rfl
theorem m_many : ∀ (f : Fm) (k : Nat), W8 f → dF f ≤ 60 → dF f ≤ k → tab (k + 1 + 1 + 1 + 1 + 1) .f_piece_many [toD f] = .ok (.int (nF f)) []
  | .num i, k, h, d, _ => by
    have p := m_parts (k := k) h.1 h.2.1 h.2.2 d
    simp only [ptF, List.map] at p
    simp (disch := omega) [sm_b, small_b, i62_b, ixN_b, t_f_piece_many, b_f_piece_many, p, nF]
  | .text i, k, h, d, _ => by
    have p := m_parts (k := k) h.1 h.2.1 h.2.2 d
    simp only [ptF, List.map] at p
    simp (disch := omega) [sm_b, small_b, i62_b, ixN_b, t_f_piece_many, b_f_piece_many, p, nF]
  | .lost, k, h, d, _ => by
    have p := m_parts (k := k) h.1 h.2.1 h.2.2 d
    simp only [ptF, List.map] at p
    simp (disch := omega) [sm_b, small_b, i62_b, ixN_b, t_f_piece_many, b_f_piece_many, p, nF]
  | .ref w ls ps, k, h, d, _ => by
    have p := m_parts (k := k) h.1 h.2.1 h.2.2 d
    simp only [ptF, List.map] at p
    simp (disch := omega) [sm_b, small_b, i62_b, ixN_b, t_f_piece_many, b_f_piece_many, p, nF]
  | .find x ls ps, k + 1, h, d, hk => by
    have p := m_parts (k := k + 1) h.1 h.2.1 h.2.2 d
    simp only [ptF, List.map, dF] at p d hk
    have i1 := m_many x k ⟨h.1.1, h.2.1.1, h.2.2⟩ (by omega) (by omega)
    simp (disch := omega) [sm_b, small_b, i62_b, ixN_b, t_f_piece_many, b_f_piece_many, p, nF, compL_c, e_piece_many_1, i1]
    omega
  | .op1 w x, k + 1, h, d, hk => by
    have p := m_parts (k := k + 1) h.1 h.2.1 h.2.2 d
    simp only [ptF, List.map, dF] at p d hk
    have i1 := m_many x k ⟨h.1, h.2.1, h.2.2.2⟩ (by omega) (by omega)
    simp (disch := omega) [sm_b, small_b, i62_b, ixN_b, t_f_piece_many, b_f_piece_many, p, nF, compL_c, e_piece_many_1, i1]
    omega
  | .op2 w x y, k + 1, h, d, hk => by
    have p := m_parts (k := k + 1) h.1 h.2.1 h.2.2 d
    simp only [ptF, List.map, dF] at p d hk
    have i1 := m_many x k ⟨h.1.1, h.2.1.1, h.2.2.2.1⟩ (by omega) (by omega)
    have i2 := m_many y k ⟨h.1.2, h.2.1.2, h.2.2.2.2⟩ (by omega) (by omega)
    simp (disch := omega) [sm_b, small_b, i62_b, ixN_b, t_f_piece_many, b_f_piece_many, p, nF, compL_c, e_piece_many_1, i1, i2]
    omega
  | .ifF x y z, k + 1, h, d, hk => by
    have p := m_parts (k := k + 1) h.1 h.2.1 h.2.2 d
    simp only [ptF, List.map, dF] at p d hk
    have i1 := m_many x k ⟨h.1.1, h.2.1.1, h.2.2.1⟩ (by omega) (by omega)
    have i2 := m_many y k ⟨h.1.2.1, h.2.1.2.1, h.2.2.2.1⟩ (by omega) (by omega)
    have i3 := m_many z k ⟨h.1.2.2, h.2.1.2.2, h.2.2.2.2⟩ (by omega) (by omega)
    simp (disch := omega) [sm_b, small_b, i62_b, ixN_b, t_f_piece_many, b_f_piece_many, p, nF, compL_c, e_piece_many_1, i1, i2, i3]
    omega
  | .find _ _ _, 0, _, _, hk => by simp only [dF] at hk; omega
  | .op1 _ _, 0, _, _, hk => by simp only [dF] at hk; omega
  | .op2 _ _ _, 0, _, _, hk => by simp only [dF] at hk; omega
  | .ifF _ _ _, 0, _, _, hk => by simp only [dF] at hk; omega
theorem m_deep : ∀ (f : Fm) (k : Nat), W8 f → dF f ≤ 60 → dF f ≤ k → tab (k + 1 + 1 + 1 + 1 + 1) .f_depth_of [toD f] = .ok (.int (dF f + 1)) []
  | .num i, k, h, d, _ => by
    have p := m_parts (k := k) h.1 h.2.1 h.2.2 d
    simp only [ptF, List.map] at p
    simp (disch := omega) [sm_b, small_b, i62_b, ixN_b, t_f_depth_of, b_f_depth_of, p, dF, mx0]
  | .text i, k, h, d, _ => by
    have p := m_parts (k := k) h.1 h.2.1 h.2.2 d
    simp only [ptF, List.map] at p
    simp (disch := omega) [sm_b, small_b, i62_b, ixN_b, t_f_depth_of, b_f_depth_of, p, dF, mx0]
  | .lost, k, h, d, _ => by
    have p := m_parts (k := k) h.1 h.2.1 h.2.2 d
    simp only [ptF, List.map] at p
    simp (disch := omega) [sm_b, small_b, i62_b, ixN_b, t_f_depth_of, b_f_depth_of, p, dF, mx0]
  | .ref w ls ps, k, h, d, _ => by
    have p := m_parts (k := k) h.1 h.2.1 h.2.2 d
    simp only [ptF, List.map] at p
    simp (disch := omega) [sm_b, small_b, i62_b, ixN_b, t_f_depth_of, b_f_depth_of, p, dF, mx0]
  | .find x ls ps, k + 1, h, d, hk => by
    have p := m_parts (k := k + 1) h.1 h.2.1 h.2.2 d
    simp only [ptF, List.map, dF] at p d hk
    have i1 := m_deep x k ⟨h.1.1, h.2.1.1, h.2.2⟩ (by omega) (by omega)
    simp (disch := omega) [sm_b, small_b, i62_b, ixN_b, t_f_depth_of, b_f_depth_of, p, dF, compL_c, e_depth_of_1, i1, mx1]
    omega
  | .op1 w x, k + 1, h, d, hk => by
    have p := m_parts (k := k + 1) h.1 h.2.1 h.2.2 d
    simp only [ptF, List.map, dF] at p d hk
    have i1 := m_deep x k ⟨h.1, h.2.1, h.2.2.2⟩ (by omega) (by omega)
    simp (disch := omega) [sm_b, small_b, i62_b, ixN_b, t_f_depth_of, b_f_depth_of, p, dF, compL_c, e_depth_of_1, i1, mx1]
    omega
  | .op2 w x y, k + 1, h, d, hk => by
    have p := m_parts (k := k + 1) h.1 h.2.1 h.2.2 d
    simp only [ptF, List.map, dF] at p d hk
    have i1 := m_deep x k ⟨h.1.1, h.2.1.1, h.2.2.2.1⟩ (by omega) (by omega)
    have i2 := m_deep y k ⟨h.1.2, h.2.1.2, h.2.2.2.2⟩ (by omega) (by omega)
    simp (disch := omega) [sm_b, small_b, i62_b, ixN_b, t_f_depth_of, b_f_depth_of, p, dF, compL_c, e_depth_of_1, i1, i2, mx2]
    split <;> omega
  | .ifF x y z, k + 1, h, d, hk => by
    have p := m_parts (k := k + 1) h.1 h.2.1 h.2.2 d
    simp only [ptF, List.map, dF] at p d hk
    have i1 := m_deep x k ⟨h.1.1, h.2.1.1, h.2.2.1⟩ (by omega) (by omega)
    have i2 := m_deep y k ⟨h.1.2.1, h.2.1.2.1, h.2.2.2.1⟩ (by omega) (by omega)
    have i3 := m_deep z k ⟨h.1.2.2, h.2.1.2.2, h.2.2.2.2⟩ (by omega) (by omega)
    simp (disch := omega) [sm_b, small_b, i62_b, ixN_b, t_f_depth_of, b_f_depth_of, p, dF, compL_c, e_depth_of_1, i1, i2, i3, mx3]
    split <;> split <;> omega
  | .find _ _ _, 0, _, _, hk => by simp only [dF] at hk; omega
  | .op1 _ _, 0, _, _, hk => by simp only [dF] at hk; omega
  | .op2 _ _ _, 0, _, _, hk => by simp only [dF] at hk; omega
  | .ifF _ _ _, 0, _, _, hk => by simp only [dF] at hk; omega
theorem m_kids {k : Nat} {f : Fm} (v : vF f) : tab (k + 1) .f_law_kids [toD f] = .ok (.lst ((ptF f).map toD)) [] := by
  cases f with
  | num i => simp (disch := omega) [sm_b, small_b, i62_b, ixN_b, t_f_law_kids, b_f_law_kids, toD, ptF]
  | text i => simp (disch := omega) [sm_b, small_b, i62_b, ixN_b, t_f_law_kids, b_f_law_kids, toD, ptF]
  | lost => simp (disch := omega) [sm_b, small_b, i62_b, ixN_b, t_f_law_kids, b_f_law_kids, toD, ptF]
  | ref w ls ps => cases w <;> simp (disch := omega) [sm_b, small_b, i62_b, ixN_b, t_f_law_kids, b_f_law_kids, toD, ptF, rw_s]
  | find x ls ps => simp (disch := omega) [sm_b, small_b, i62_b, ixN_b, t_f_law_kids, b_f_law_kids, toD, ptF]
  | op1 w x => cases w <;> simp (disch := omega) [sm_b, small_b, i62_b, ixN_b, t_f_law_kids, b_f_law_kids, toD, ptF, ow_s, cutL_tail]
  | op2 w x y => cases w <;> simp (disch := omega) [sm_b, small_b, i62_b, ixN_b, t_f_law_kids, b_f_law_kids, toD, ptF, ow_s, cutL_tail]
  | ifF x y z => simp (disch := omega) [sm_b, small_b, i62_b, ixN_b, t_f_law_kids, b_f_law_kids, toD, ptF, cutL_tail]
theorem m_size : ∀ (f : Fm) (k : Nat), vF f → dF f ≤ k → tab (k + 1 + 1) .f_law_size [toD f] = .ok (.tup [.int (nF f), .int (dF f + 1)]) []
  | .num i, k, v, _ => by
    have p := m_kids (k := k) v
    simp only [ptF, List.map] at p
    simp (disch := omega) [sm_b, small_b, i62_b, ixN_b, t_f_law_size, b_f_law_size, p, nF, dF, my1]
  | .text i, k, v, _ => by
    have p := m_kids (k := k) v
    simp only [ptF, List.map] at p
    simp (disch := omega) [sm_b, small_b, i62_b, ixN_b, t_f_law_size, b_f_law_size, p, nF, dF, my1]
  | .lost, k, v, _ => by
    have p := m_kids (k := k) v
    simp only [ptF, List.map] at p
    simp (disch := omega) [sm_b, small_b, i62_b, ixN_b, t_f_law_size, b_f_law_size, p, nF, dF, my1]
  | .ref w ls ps, k, v, _ => by
    have p := m_kids (k := k) v
    simp only [ptF, List.map] at p
    simp (disch := omega) [sm_b, small_b, i62_b, ixN_b, t_f_law_size, b_f_law_size, p, nF, dF, my1]
  | .find x ls ps, k + 1, v, hk => by
    have p := m_kids (k := k + 1) v
    simp only [ptF, List.map, dF] at p hk
    have i1 := m_size x k v (by omega)
    simp (disch := omega) [sm_b, small_b, i62_b, ixN_b, t_f_law_size, b_f_law_size, p, nF, dF, compL_c, e_law_size_1, e_law_size_2, e_law_size_3, i1, my2]
    refine ⟨by omega, by split <;> omega⟩
  | .op1 w x, k + 1, v, hk => by
    have p := m_kids (k := k + 1) v
    simp only [ptF, List.map, dF] at p hk
    have i1 := m_size x k v.2 (by omega)
    simp (disch := omega) [sm_b, small_b, i62_b, ixN_b, t_f_law_size, b_f_law_size, p, nF, dF, compL_c, e_law_size_1, e_law_size_2, e_law_size_3, i1, my2]
    refine ⟨by omega, by split <;> omega⟩
  | .op2 w x y, k + 1, v, hk => by
    have p := m_kids (k := k + 1) v
    simp only [ptF, List.map, dF] at p hk
    have i1 := m_size x k v.2.1 (by omega)
    have i2 := m_size y k v.2.2 (by omega)
    simp (disch := omega) [sm_b, small_b, i62_b, ixN_b, t_f_law_size, b_f_law_size, p, nF, dF, compL_c, e_law_size_1, e_law_size_2, e_law_size_3, i1, i2, my3]
    refine ⟨by omega, by split <;> split <;> omega⟩
  | .ifF x y z, k + 1, v, hk => by
    have p := m_kids (k := k + 1) v
    simp only [ptF, List.map, dF] at p hk
    have i1 := m_size x k v.1 (by omega)
    have i2 := m_size y k v.2.1 (by omega)
    have i3 := m_size z k v.2.2 (by omega)
    simp (disch := omega) [sm_b, small_b, i62_b, ixN_b, t_f_law_size, b_f_law_size, p, nF, dF, compL_c, e_law_size_1, e_law_size_2, e_law_size_3, i1, i2, i3, my4]
    refine ⟨by omega, by split <;> split <;> split <;> omega⟩
  | .find _ _ _, 0, _, hk => by simp only [dF] at hk; omega
  | .op1 _ _, 0, _, hk => by simp only [dF] at hk; omega
  | .op2 _ _ _, 0, _, hk => by simp only [dF] at hk; omega
  | .ifF _ _ _, 0, _, hk => by simp only [dF] at hk; omega
end Ol

namespace Ol
open PySem PySem.Spec PyProof.Rows L2
/-! ## the names, by the law's own way -/
theorem once_app : ∀ (xs ys acc : List (List Int)), onceL acc (xs ++ ys) = onceL (onceL acc xs) ys
  | [], _, _ => rfl
  | x :: xs, ys, acc => by
    show onceL (if x ∈ acc then acc else acc ++ [x]) (xs ++ ys) = onceL (onceL (if x ∈ acc then acc else acc ++ [x]) xs) ys
    exact once_app xs ys _
theorem once_len : ∀ (xs acc : List (List Int)), (onceL acc xs).length ≤ acc.length + xs.length
  | [], _ => Nat.le_refl _
  | x :: xs, acc => by
    unfold onceL
    have h := once_len xs (if x ∈ acc then acc else acc ++ [x])
    rw [List.length_cons]
    split at h
    · rename_i c
      rw [if_pos c]
      omega
    · rename_i c
      rw [if_neg c]
      rw [List.length_append, List.length_singleton] at h
      omega
theorem in5 (w : RW) : inB (.str w.s) (.lst [.str ⟨#[97, 116]⟩, .str ⟨#[115, 117, 109]⟩, .str ⟨#[99, 111, 117, 110, 116]⟩, .str ⟨#[108, 101, 97, 115, 116]⟩, .str ⟨#[103, 114, 101, 97, 116, 101, 115, 116]⟩]) = some true := by cases w <;> simp only [rw_s] <;> simp
theorem in5f : inB (.str ⟨#[102, 105, 110, 100]⟩) (.lst [.str ⟨#[97, 116]⟩, .str ⟨#[115, 117, 109]⟩, .str ⟨#[99, 111, 117, 110, 116]⟩, .str ⟨#[108, 101, 97, 115, 116]⟩, .str ⟨#[103, 114, 101, 97, 116, 101, 115, 116]⟩]) = some false := by simp
theorem m_lnm : ∀ (f : Fm) (k : Nat) (acc : List (List Int)), vF f → dF f ≤ k → acc.length + nF f ≤ 10000 → tab (k + 1 + 1) .f_law_named [toD f, .lst (acc.map nD)] = .ok (.lst ((onceL acc (twF f)).map nD)) [some (.lst ((onceL acc (twF f)).map nD))]
  | .num i, k, acc, v, _, _ => by
    have p := m_kids (k := k) v
    simp [ptF, toD] at p
    simp (disch := omega) [sm_b, small_b, i62_b, ixN_b, t_f_law_named, b_f_law_named, p, toD, twF, onceL]
  | .text i, k, acc, v, _, _ => by
    have p := m_kids (k := k) v
    simp [ptF, toD] at p
    simp (disch := omega) [sm_b, small_b, i62_b, ixN_b, t_f_law_named, b_f_law_named, p, toD, twF, onceL]
  | .lost, k, acc, v, _, _ => by
    have p := m_kids (k := k) v
    simp [ptF, toD] at p
    simp (disch := omega) [sm_b, small_b, i62_b, ixN_b, t_f_law_named, b_f_law_named, p, toD, twF, onceL]
  | .ref w ls ps, k, acc, v, _, hn => by
    have p := m_kids (k := k) v
    simp only [ptF, List.map] at p
    have hin : inB (D.tup (ls.map D.int)) (.lst (acc.map nD)) = some (decide (ls ∈ acc)) := in_nD
    have hnD : nD ls = D.tup (ls.map D.int) := rfl
    have hl : acc.length < 16777216 := by omega
    have g5 := in5 w
    by_cases c : ls ∈ acc
    · rw [decide_eq_true c] at hin
      have e : onceL acc (twF (.ref w ls ps)) = acc := by simp [twF, onceL, c]
      rw [e]
      cases w <;> simp only [toD, rw_s] at p g5 <;> simp (disch := omega) [sm_b, small_b, i62_b, ixN_b, -inB_lst', t_f_law_named, b_f_law_named, p, toD, rw_s, hnD, g5, hin]
    · rw [decide_eq_false c] at hin
      have e : onceL acc (twF (.ref w ls ps)) = acc ++ [ls] := by simp [twF, onceL, c]
      rw [e, List.map_append]
      cases w <;> simp only [toD, rw_s] at p g5 <;> simp (disch := omega) [sm_b, small_b, i62_b, ixN_b, -inB_lst', t_f_law_named, b_f_law_named, p, toD, rw_s, hnD, g5, hin, hl]
  | .find x ls ps, k + 1, acc, v, hk, hn => by
    have p := m_kids (k := k + 1) v
    simp only [dF] at hk
    simp only [nF] at hn
    simp [ptF, toD] at p
    have hnD : nD ls = D.tup (ls.map D.int) := rfl
    have i1 := m_lnm x k acc v (by omega) (by omega)
    have ol := once_len (twF x) acc
    have tl := twF_len (f := x)
    have hin : inB (D.tup (ls.map D.int)) (.lst ((onceL acc (twF x)).map nD)) = some (decide (ls ∈ onceL acc (twF x))) := in_nD
    have e0 : onceL acc (twF (.find x ls ps)) = onceL (onceL acc (twF x)) [ls] := by simp only [twF]; exact once_app _ _ _
    rw [e0]
    generalize onceL acc (twF x) = ac2 at *
    have hl : ac2.length < 16777216 := by omega
    by_cases c : ls ∈ ac2
    · rw [decide_eq_true c] at hin
      have e : onceL ac2 [ls] = ac2 := by simp [onceL, c]
      rw [e]
      simp (disch := omega) [sm_b, small_b, i62_b, ixN_b, -inB_lst', t_f_law_named, b_f_law_named, p, toD, hnD, in5f, hin, l_law_named_1, i1]
    · rw [decide_eq_false c] at hin
      have e : onceL ac2 [ls] = ac2 ++ [ls] := by simp [onceL, c]
      rw [e, List.map_append]
      simp (disch := omega) [sm_b, small_b, i62_b, ixN_b, -inB_lst', t_f_law_named, b_f_law_named, p, toD, hnD, in5f, hin, hl, l_law_named_1, i1]
  | .op1 w x, k + 1, acc, v, hk, hn => by
    have p := m_kids (k := k + 1) v
    simp only [ptF, List.map, dF] at p hk
    simp only [nF] at hn
    have i1 := m_lnm x k acc v.2 (by omega) (by omega)
    cases w <;> simp only [toD, ow_s] at p <;> simp (disch := omega) [sm_b, small_b, i62_b, ixN_b, t_f_law_named, b_f_law_named, p, toD, ow_s, twF, l_law_named_1, i1]
  | .op2 w x y, k + 1, acc, v, hk, hn => by
    have p := m_kids (k := k + 1) v
    simp only [ptF, List.map, dF] at p hk
    simp only [nF] at hn
    have o1 := once_len (twF x) acc
    have t1 := twF_len (f := x)
    have i1 := m_lnm x k acc v.2.1 (by omega) (by omega)
    have i2 := m_lnm y k (onceL acc (twF x)) v.2.2 (by omega) (by omega)
    cases w <;> simp only [toD, ow_s] at p <;> simp (disch := omega) [sm_b, small_b, i62_b, ixN_b, t_f_law_named, b_f_law_named, p, toD, ow_s, twF, l_law_named_1, i1, i2, once_app]
  | .ifF x y z, k + 1, acc, v, hk, hn => by
    have p := m_kids (k := k + 1) v
    simp only [dF] at hk
    simp only [nF] at hn
    simp [ptF, toD] at p
    have o1 := once_len (twF x) acc
    have t1 := twF_len (f := x)
    have o2 := once_len (twF y) (onceL acc (twF x))
    have t2 := twF_len (f := y)
    have i1 := m_lnm x k acc v.1 (by omega) (by omega)
    have i2 := m_lnm y k (onceL acc (twF x)) v.2.1 (by omega) (by omega)
    have i3 := m_lnm z k (onceL (onceL acc (twF x)) (twF y)) v.2.2 (by omega) (by omega)
    simp (disch := omega) [sm_b, small_b, i62_b, ixN_b, t_f_law_named, b_f_law_named, p, toD, twF, l_law_named_1, i1, i2, i3, once_app]
  | .find _ _ _, 0, _, _, hk, _ => by simp only [dF] at hk; omega
  | .op1 _ _, 0, _, _, hk, _ => by simp only [dF] at hk; omega
  | .op2 _ _ _, 0, _, _, hk, _ => by simp only [dF] at hk; omega
  | .ifF _ _ _, 0, _, _, hk, _ => by simp only [dF] at hk; omega
/-! the same, part by part -/
def sameOk : Nat → D → Prop
  | _ + 1, .str _ => True
  | _ + 1, .int _ => True
  | n + 1, .tup xs => xs.length < 100000 ∧ ∀ x ∈ xs, sameOk n x
  | _, _ => False
theorem m_same8 : ∀ (n k : Nat) (d : D), n ≤ k → sameOk n d → tab (k + 1) .f_law_same [d, d] = .ok (.bl true) []
  | 0, _, _, _, h => by unfold sameOk at h; exact h.elim
  | n + 1, 0, _, hk, _ => by omega
  | n + 1, k + 1, d, hk, h => by
    cases d with
    | str x => simp (disch := omega) [sm_b, small_b, i62_b, ixN_b, t_f_law_same, b_f_law_same]
    | int i => simp (disch := omega) [sm_b, small_b, i62_b, ixN_b, t_f_law_same, b_f_law_same]
    | tup xs =>
      unfold sameOk at h
      obtain ⟨hl, hx⟩ := h
      obtain ⟨ρ', e, o, rfl⟩ := forL_all (g := gNm 2) (body := l_law_same_1 (tab (k + 1))) (fun ρ => ∃ o, ρ = [some (.tup xs), some (.tup xs), o]) (xs := (List.range xs.length).map fun i => D.int (i : Nat)) (ρ := [some (.tup xs), some (.tup xs), none]) ⟨none, rfl⟩ (by
        rintro x hx' ρ ⟨o, rfl⟩
        obtain ⟨j, hj, rfl⟩ := List.mem_map.mp hx'
        have hj := List.mem_range.mp hj
        have ha : atI xs (j : Int) = some xs[j] := atI_nat (List.getElem?_eq_getElem hj)
        have ih := m_same8 n k xs[j] (by omega) (hx _ (List.getElem_mem hj))
        refine ⟨[some (.tup xs), some (.tup xs), some (.int j)], [some (.tup xs), some (.tup xs), some (.int j)], rfl, .inl ?_, ⟨_, rfl⟩⟩
        rw [l_law_same_1]
        simp (disch := omega) [sm_b, small_b, i62_b, ixN_b, ha, ih])
      have i8 : i62 (xs.length : Int) = true := i62_b (by omega) (by omega)
      simp (disch := omega) [sm_b, small_b, i62_b, ixN_b, t_f_law_same, b_f_law_same, e, i8]
    | _ => unfold sameOk at h; exact h.elim
theorem same_ints {n : Nat} {ls : List Int} (h : ls.length < 100000) : sameOk (n + 1 + 1) (.tup (ls.map D.int)) := by
  unfold sameOk
  refine ⟨by simpa using h, fun x hx => ?_⟩
  obtain ⟨i, _, rfl⟩ := List.mem_map.mp hx
  exact trivial
theorem same_toD : ∀ (f : Fm) (n : Nat), fO 100 f → dF f ≤ n → sameOk (n + 1 + 1 + 1) (toD f)
  | .num i, n, _, _ => ⟨by simp, fun x hx => by simp at hx; rcases hx with rfl | rfl <;> exact trivial⟩
  | .text i, n, _, _ => ⟨by simp, fun x hx => by simp at hx; rcases hx with rfl | rfl <;> exact trivial⟩
  | .lost, n, _, _ => ⟨by simp, fun x hx => by simp at hx; rcases hx with rfl; exact trivial⟩
  | .ref w ls ps, n, h, _ => ⟨by simp, fun x hx => by
      have a := h.1.1
      have b := h.1.2
      have : ls.length ≤ 4 := by rw [a]; split <;> omega
      simp at hx
      rcases hx with rfl | rfl | rfl
      · exact trivial
      · exact same_ints (by omega)
      · exact same_ints (by omega)⟩
  | .find x ls ps, n + 1, h, hd => ⟨by simp, fun y hy => by
      have a := h.2.1.1
      have b := h.2.1.2
      have : ls.length ≤ 4 := by rw [a]; split <;> omega
      simp only [dF] at hd
      simp at hy
      rcases hy with rfl | rfl | rfl | rfl
      · exact trivial
      · exact same_toD x n h.1 (by omega)
      · exact same_ints (by omega)
      · exact same_ints (by omega)⟩
  | .op1 w x, n + 1, h, hd => ⟨by simp, fun y hy => by
      simp only [dF] at hd
      simp at hy
      rcases hy with rfl | rfl
      · exact trivial
      · exact same_toD x n h (by omega)⟩
  | .op2 w x z, n + 1, h, hd => ⟨by simp, fun y hy => by
      simp only [dF] at hd
      simp at hy
      rcases hy with rfl | rfl | rfl
      · exact trivial
      · exact same_toD x n h.1 (by omega)
      · exact same_toD z n h.2 (by omega)⟩
  | .ifF x z u, n + 1, h, hd => ⟨by simp, fun y hy => by
      simp only [dF] at hd
      simp at hy
      rcases hy with rfl | rfl | rfl | rfl
      · exact trivial
      · exact same_toD x n h.1 (by omega)
      · exact same_toD z n h.2.1 (by omega)
      · exact same_toD u n h.2.2 (by omega)⟩
  | .find _ _ _, 0, _, hk => by simp only [dF] at hk; omega
  | .op1 _ _, 0, _, hk => by simp only [dF] at hk; omega
  | .op2 _ _ _, 0, _, hk => by simp only [dF] at hk; omega
  | .ifF _ _ _, 0, _, hk => by simp only [dF] at hk; omega
end Ol

namespace Ol
open PySem PySem.Spec PyProof.Rows L2
theorem ne_lself {xs : List D} (h : shN 64 (.lst xs) = true) : neD (.lst xs) (.lst xs) = some (.bl false) := by
  rw [ne_ll, eqW_self h]
  rfl
theorem once_mem {x : List Int} : ∀ (xs acc : List (List Int)), x ∈ onceL acc xs → x ∈ acc ∨ x ∈ xs
  | [], _, h => .inl h
  | y :: xs, acc, h => by
    have h : x ∈ onceL (if y ∈ acc then acc else acc ++ [y]) xs := h
    rcases once_mem xs _ h with h | h
    · split at h
      · exact .inl h
      · rcases List.mem_append.mp h with h | h
        · exact .inl h
        · exact .inr (by rw [List.mem_singleton.mp h]; exact List.mem_cons_self)
    · exact .inr (List.mem_cons_of_mem _ h)
theorem tw_fit : ∀ {f : Fm}, fitF f → ∀ ls ∈ twF f, fitL ls = true
  | .num _, _, _, h => by cases h
  | .text _, _, _, h => by cases h
  | .lost, _, _, h => by cases h
  | .ref w ls ps, v, l, h => by
    simp only [twF, List.mem_singleton] at h
    subst h
    exact v
  | .find x ls ps, v, l, h => by
    simp only [twF, List.mem_append, List.mem_singleton] at h
    rcases h with h | rfl
    · exact tw_fit v.1 l h
    · exact v.2
  | .op1 w x, v, l, h => tw_fit (f := x) v l h
  | .op2 w x y, v, l, h => by
    simp only [twF, List.mem_append] at h
    rcases h with h | h
    · exact tw_fit v.1 l h
    · exact tw_fit v.2 l h
  | .ifF x y z, v, l, h => by
    simp only [twF, List.mem_append] at h
    rcases h with (h | h) | h
    · exact tw_fit v.1 l h
    · exact tw_fit v.2.1 l h
    · exact tw_fit v.2.2 l h
theorem fit_len {ls : List Int} (h : fitL ls = true) : ls.length ≤ 4 := by
  unfold fitL at h
  split at h
  · simp
  · simp
  · cases h
theorem m_whole8 {k : Nat} {i : Int} : tab (k + 1) .f_law_whole [.int i] = .ok (.bl true) [] := by
  simp (disch := omega) [sm_b, small_b, i62_b, ixN_b, t_f_law_whole, b_f_law_whole]
theorem l08 {ns : List Int} {c : Int} {o2 o3 o4 o5 o6 : Option D} : ∃ ρ2, l_law_1 (tab 59) [some (.lst (ns.map D.int)), some (.int c), o2, o3, o4, o5, o6] = .nx ρ2 ∧ ∃ p1 p2 p3 p4 p5 p6 : Option D, ρ2 = [some (.lst (ns.map D.int)), p1, p2, p3, p4, p5, p6] := by
  obtain ⟨n, e1⟩ := m_own (k := 58) (c := c)
  obtain ⟨f, n', r', e2, ⟨w, d⟩, h0, hs⟩ := m_form8 11 55 12 (by decide) (by decide) n 59 (by decide)
  have nn : nF f ≤ 60 := by omega
  have e3 : tab 59 .f_law_size [toD f] = .ok (.tup [.int (nF f), .int (dF f + 1)]) [] := m_size f 57 w.2.2 (by omega)
  have e4 : tab 59 .f_made_formula [toD f] = .ok (toD f) [] := m_made (k := 42) w.1 w.2.1 w.2.2 d nn
  have e5 : tab 59 .f_law_same [toD f, toD f] = .ok (.bl true) [] := m_same8 14 58 (toD f) (by decide) (same_toD f 11 w.1 d)
  have e6 : tab 59 .f_piece_many [toD f] = .ok (.int (nF f)) [] := m_many f 54 w (by omega) (by omega)
  have e7 : tab 59 .f_depth_of [toD f] = .ok (.int (dF f + 1)) [] := m_deep f 54 w (by omega) (by omega)
  have e8 : tab 59 .f_law_whole [.int (nF f)] = .ok (.bl true) [] := m_whole8 (k := 58)
  have e9 : tab 59 .f_law_whole [.int (dF f + 1)] = .ok (.bl true) [] := m_whole8 (k := 58)
  have e10 : tab 59 .f_law_named [toD f, .lst []] = .ok (.lst ((onceL [] (twF f)).map nD)) [some (.lst ((onceL [] (twF f)).map nD))] := m_lnm f 57 [] w.2.2 (by omega) (by simp; omega)
  have e11 : tab 59 .f_named_in [toD f] = .ok (.lst ((onceL [] (twF f)).map nD)) [] := m_named (k := 53) w.1 w.2.1 w.2.2 (by omega) (by omega) (by omega)
  have ol := once_len (twF f) []
  have tl := twF_len (f := f)
  have om : ∀ ls ∈ onceL [] (twF f), ls.length ≤ 4 := fun ls h => by
    rcases once_mem _ _ h with h | h
    · cases h
    · exact fit_len (tw_fit w.2.1 ls h)
  simp only [List.length_nil, Nat.zero_add] at ol
  generalize onceL [] (twF f) = L at e10 e11 ol om
  have e12 : tab 59 .f_law_same [.tup (L.map nD), .tup (L.map nD)] = .ok (.bl true) [] := m_same8 3 58 _ (by decide) ⟨by simp; omega, fun x hx => by
    obtain ⟨ls, hl, rfl⟩ := List.mem_map.mp hx
    exact same_ints (n := 0) (by have := om ls hl; omega)⟩
  have n1 : neD (.lst [.int (nF f), .int (dF f + 1)]) (.lst [.int (nF f), .int (dF f + 1)]) = some (.bl false) := ne_lself (by simp)
  have n2 : neD (.lst (L.map nD)) (.lst (L.map nD)) = some (.bl false) := ne_lself (by
    rw [shN_lst]
    refine shNs_all fun d hd => ?_
    obtain ⟨y, _, rfl⟩ := List.mem_map.mp hd
    unfold nD
    simp)
  have i1 : L.length < 16777216 := by omega
  have i2 : L.length ≤ 16777216 := by omega
  refine ⟨[some (.lst (ns.map D.int)), some (.int c), some (toD f), some (.tup [.int (nF f), .int (dF f + 1)]), some (.lst [.int (nF f), .int (dF f + 1)]), some (.lst (L.map nD)), some (.lst (L.map nD ++ [.tup [.int 0, .int 0]]))], ?_, _, _, _, _, _, _, rfl⟩
  rw [l_law_1]
  simp (disch := omega) [sm_b, small_b, i62_b, ixN_b, -ne_ll, e1, e2, e3, e4, e5, e6, e7, e8, e9, e10, e11, e12, n1, n2, i1, i2]
theorem law_true (ns : List Int) (hl : ns.length ≤ 63) (hb : ∀ z ∈ ns, Builtin.Int.intBits z ≤ 1048576) : tab 60 .flaw [.lst (ns.map D.int)] = .ok (.bl true) [] := by
  obtain ⟨ρ', e, o1, o2, o3, o4, o5, o6, rfl⟩ := forL_all (g := gNm 1) (body := l_law_1 (tab 59)) (fun ρ => ∃ o1 o2 o3 o4 o5 o6 : Option D, ρ = [some (.lst (ns.map D.int)), o1, o2, o3, o4, o5, o6]) (xs := (0 :: ns).map D.int) (ρ := [some (.lst (ns.map D.int)), none, none, none, none, none, none]) ⟨_, _, _, _, _, _, rfl⟩ (by
    rintro x hx ρ ⟨o1, o2, o3, o4, o5, o6, rfl⟩
    obtain ⟨c, _, rfl⟩ := List.mem_map.mp hx
    obtain ⟨ρ2, h1, h2⟩ := l08 (ns := ns) (c := c) (o2 := o2) (o3 := o3) (o4 := o4) (o5 := o5) (o6 := o6)
    exact ⟨_, ρ2, rfl, .inl h1, h2⟩)
  have i1 : ns.length + 1 ≤ 16777216 := by omega
  have i2 : 1 + ns.length ≤ 16777216 := by omega
  rw [List.map_cons] at e
  simp (disch := omega) [sm_b, small_b, i62_b, ixN_b, -forL_cons, t_flaw, b_flaw, e, i1, i2]
end Ol

namespace Ol
open PySem PySem.Spec PyProof.Rows L2
section
variable {P : Program} {w : World} {K : PySem.W.Frag} {mg : Str → Option Value} {base : Heap} {k : Nat}

theorem defsS (T : Txt K mg) (Ds : Defs P w K mg base k) : Defs P w K mg base (k + 1) where
  d_are_numbers := ok_are_numbers T Ds
  d_are_pins := ok_are_pins T Ds
  d_is_place := ok_is_place T Ds
  d_is_area := ok_is_area T Ds
  d_is_plain_text := ok_is_plain_text T Ds
  d_parts_of := ok_parts_of T Ds
  d_pieces_left := ok_pieces_left T Ds
  d_made_formula := ok_made_formula T Ds
  d_piece_many := ok_piece_many T Ds
  d_depth_of := ok_depth_of T Ds
  d_named_twice_in := ok_named_twice_in T Ds
  d_named_in := ok_named_in T Ds
  d__law_whole := ok__law_whole T Ds
  d__law_same := ok__law_same T Ds
  d__law_digit := ok__law_digit T Ds
  d__law_own := ok__law_own T Ds
  d__law_area := ok__law_area T Ds
  d__law_pins := ok__law_pins T Ds
  d__law_leaf := ok__law_leaf T Ds
  d__law_formula := ok__law_formula T Ds
  d__law_kids := ok__law_kids T Ds
  d__law_size := ok__law_size T Ds
  d__law_named := ok__law_named T Ds
  d_law := ok_law T Ds
theorem defs (T : Txt K mg) : ∀ k, Defs P w K mg base k
  | 0 => defs0 T
  | k + 1 => defsS T (defs T k)
theorem ok_law_all (T : Txt K mg) : Def P w K mg base 60 "law" ["script"] (spLawB K) := law_of ((defs T 60).d_law) fun ns hl hb => law_true ns hl hb
end
end Ol

namespace Ol
open PySem PySem.Spec PyProof.Rows L2
def loose : List Str := (["are_numbers", "are_pins", "is_place", "is_area", "is_plain_text", "parts_of", "pieces_left", "made_formula", "piece_many", "depth_of", "named_twice_in", "named_in"] : List Str) ++ (["_law_whole", "_law_same", "_law_digit", "_law_own", "_law_area", "_law_pins", "_law_leaf", "_law_formula", "_law_kids", "_law_size", "_law_named", "MOST_PIECES"] : List Str) ++ (["MOST_DEEP", "MOST_NUMBER", "MOST_SIGNS", "ROWS", "COLUMNS", "MOST_PLACES", "PAIRED", "GATHERING", "SheetError", "BadFormula"] : List Str)
abbrev R : PySem.W.OpenRow := PySem.W.OpenLaw.row PySem.Challenge.rw_onelook_k08_formulas_made
abbrev hk : PySem.W.Hook := He.hookX 4 fa fn [] [] ex
def ob (s : PySem.W.SharedT) : He.AlX := He.obsX 4 fa fn [] [] ex (HandSHeadRun.getT s)
theorem ob_eq (s : PySem.W.SharedT) : ob s = hk.obs s.abs := He.obsX_eq (HandSHeadRun.getT_eq s)
theorem run (w : World) : HandSHeadRun.RunEq R (PySem.W.view R.prog [37]) hk ob 4000 loose w := by
  intro os
  kernel_rfl
end Ol
open PySem PySem.W PySem.Calls PyProof.Rows
theorem PySem.Challenge.cw_onelook_k08_formulas_made_holds : PySem.Challenge.rw_onelook_k08_formulas_made.Holds := by
  w_on; o_law
  refine HandSHeadRun.head_any (r := OpenLaw.row PySem.Challenge.rw_onelook_k08_formulas_made) (q := view (OpenLaw.row PySem.Challenge.rw_onelook_k08_formulas_made).prog [37]) (H := Ol.hk) (ob := Ol.ob) (M := 4000) (loose := Ol.loose) (d := HandSHeadRun.topDef (OpenLaw.row PySem.Challenge.rw_onelook_k08_formulas_made).prog 37) (kwd := []) Ol.ob_eq
    (by kernel_rfl) (fun s => by kernel_rfl) Ol.run (by kernel_rfl) (by kernel_rfl) (by kernel_rfl) (by rfl) (by first | assumption | decide +kernel) (by decide +kernel) ⟨rfl, rfl, rfl, rfl, rfl, by decide +kernel⟩ ?hw ?hc
  case hw => w_witness2
  case hc =>
    refine Ol.walk_ofEB (l := PySem.Challenge.rw_onelook_k08_formulas_made) (n := 63) (k := 60) (x := "script") rfl (by decide) (by kernel_rfl) ⟨rfl, by decide, by decide⟩ ?F
    intro w mg fa h Y G hmg0
    obtain ⟨K, KX, c⟩ := Y
    have hmg : mg ("law" : PySem.Str) = some (.ref fa) := by
      have e : (HandSHeadRun.topDef (OpenLaw.row PySem.Challenge.rw_onelook_k08_formulas_made).prog 37).name = ("law" : PySem.Str) := by kernel_rfl
      rw [← e]
      exact hmg0
    exact Ol.law_end KX hmg (Ol.txt KX G c).g_law (fun base _ _ => Ol.ok_law_all (P := (PySem.Challenge.rw_onelook_k08_formulas_made).prog) (w := w) (base := base) (Ol.txt KX G c)) G
