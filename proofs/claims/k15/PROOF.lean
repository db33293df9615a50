import PyProof.Rows.All
import Wide.All
import OpenK.AllK
import Wide.FinOn
import KE.KStateDown
import HandS.RaiseMore
import HandS.SortInts
import HandS.Base
import HandS.Call
import HandS.List
import HandS.TupAny
import HandS.Comp
import HandS.Ends
import HandS.EndBits
import HandS.Exc
import HandS.ExcOwn
import HandS.ExcIs
import HandS.ExcInit
import HandS.ExcBuiltin
import HandS.TryOnly
import HandS.TryMany
import HandS.Words
import HandS.WordsList
import HandS.WordsExc
import HandS.Defaults
import HandS.Dict
import HandS.Iter
import HandS.Text
import HandS.More
import HandS.Head0
import HandS.Head1
import HandS.Head2
import HandS.HeadEnd
import HandS.HeadHook1
import HandS.HeadHook2
import HandS.HeadHook3
import HandS.HeadHook4
import HandS.Wide
import HandS.WideMore
import HandS.WideBits
import HandS.IsInst
import HandS.Small
import HandS.Conv
import HandS.Deep
import HandS.Zip
import PySem.Challenge.RW_onelook_k15_worths_of_one_and_two
set_option Elab.async false
set_option linter.all false
set_option maxRecDepth 100000
set_option maxHeartbeats 4000000
namespace Ol
open PySem PySem.Spec PyProof.Rows L2
/-! ### facts of the top -/
/-- a module's constant -/
structure GCon (K : PySem.W.Frag) (mg : Str → Option Value) (x : Str) (v : V) : Prop where
  ex : ∃ u, mg x = some u ∧ RelV v u
theorem gcon_int {K : PySem.W.Frag} {mg : Str → Option Value} {x : Str} {i : Int} (h : ∃ t, mg x = some (.int i t)) : GCon K mg x (.int i) := by
  obtain ⟨t, h⟩ := h
  exact ⟨_, h, t, rfl⟩
theorem gcon_str {K : PySem.W.Frag} {mg : Str → Option Value} {x z : Str} (h : ∃ t, mg x = some (.str z t)) : GCon K mg x (.str z) := by
  obtain ⟨t, h⟩ := h
  exact ⟨_, h, t, rfl⟩
theorem gcon_ref {K : PySem.W.Frag} {mg : Str → Option Value} {x : Str} {a : Addr} (h : mg x = some (.ref a)) : GCon K mg x (.ref a) := ⟨_, h, rfl⟩
theorem pe_con {X : Cx} {x : Str} {v : V} {pos : Pos} (h : GCon X.K X.mg x v) (hg : Gl X x) (hd : (x == ("__debug__" : Str)) = false := by decide) : PE X (.Name x pos) (tC v) := by
  obtain ⟨u, h1, h2⟩ := h.ex
  exact pe_glob hg h1 h2 hd
/-- an own exception class -/
def excCB (K : PySem.W.Frag) (D : Addr) : Bool :=
  decide (PySem.W.findIn K (.ref D) "__getattribute__" = some (some (.builtin "BaseException.__getattribute__"))) && (decide (PySem.W.findIn K (.ref D) "__getattr__" = some none) &&
  (decide (PySem.W.subIn K (.ref D) (.type "BaseException") = some true) && (PySem.W.hasDictIn K D && (decide (PySem.W.findIn K (.ref D) "__class__" = some (some (.builtin "object.__class__"))) &&
  (decide (PySem.W.specialIn K (.builtin "object.__class__") "__get__" = some (some (.builtin "getset_descriptor.__get__"))) && (decide (PySem.W.takesIn K (.builtin "object.__class__") = some true) && decide (PySem.W.mroIn K D (.type "object") = some true)))))))
theorem excCB_ok {K : PySem.W.Frag} {D : Addr} (h : excCB K D = true) : ExcC K D := by
  unfold excCB at h
  simp only [Bool.and_eq_true, decide_eq_true_eq] at h
  obtain ⟨h1, h2, h3, h4, h5, h6, h7, h8⟩ := h
  exact ⟨h1, h2, h3, h4, h5, h6, h7, h8⟩
structure XCls (K : PySem.W.Frag) (mg : Str → Option Value) (x : Str) : Prop where
  g : mg x = some (.ref (He.ga K x))
  e : PySem.W.excIn K (He.ga K x) He.veBase "ValueError.__new__" = true ∧ PySem.W.keepIn K (.ref (He.ga K x)) = true ∧ PySem.W.subIn K (.ref (He.ga K x)) (.type "BaseException") = some true ∧ PySem.W.typeIn K (.ref (He.ga K x)) = some (.type "type")
  c : ExcC K (He.ga K x)
theorem pe_clsv {X : Cx} {x : Str} {pos : Pos} (h : XCls X.K X.mg x) (hg : Gl X x) (hd : (x == ("__debug__" : Str)) = false := by decide) : PE X (.Name x pos) (tC (.ref (He.ga X.K x))) := pe_glob hg h.g rfl hd
theorem pmk_x {X : Cx} {x m : Str} {j : Nat} {p p2 pos : Pos} (h : XCls X.K X.mg x) (hg : Gl X x) (hdb : (x == ("__debug__" : Str)) = false := by decide) :
    PMk X (.Call (.Name x p) [.Constant (.str m) j p2] [] pos) (fun _ H Q => Q (.ref (He.ga X.K x)) none H) :=
  pmk_own PySem.F.excBase_ValueError h.e.1 h.g h.e.2.1 (raises_own h.e.2.2.1 h.e.2.2.2) hg hdb
/-! ### a def with its promise -/
structure Def (P : Program) (w : World) (K : PySem.W.Frag) (mg : Str → Option Value) (base : Heap) (k : Nat) (x : Str) (ps : List Str) (sp : Sp) : Prop where
  g : mg x = some (.ref (He.ga K x))
  kp : PySem.W.keepIn K (.ref (He.ga K x)) = true
  ok : ∃ fd, FnOk P w K mg base (L2.CX P w) k (He.ga K x) fd ps sp ∧ Binds K fd ps [] ∧ (∃ oc od sl, K.lookup (He.ga K x) = some ⟨oc, od, .func fd, sl⟩) ∧ ∀ (s : Shared) (us : List Value), us.length = ps.length → BindsTo s fd ⟨us, []⟩ (ps.zip us)
theorem def_of {P : Program} {w : World} {K : PySem.W.Frag} {mg : Str → Option Value} {base : Heap} {k : Nat} {x qual : Str} {N ps : List Str} {sp : Sp} {a : Arguments} {body : List Stmt} {scope : Scope}
    (hg : mg x = some (.ref (He.ga K x))) (F : ∃ fd, FunD K x qual a body scope [] [] (He.ga K x) fd) (S : FnScope N ps scope)
    (hb : ∀ (kV doc pm : Value) (an : Option Addr) (cdv ct : Value) (us : List Value), us.length = ps.length → bindArgs (PySem.W.fnOf x qual a body scope .none kV doc pm an cdv ct) ⟨us, []⟩ = pure (ps.zip us))
    (len : ∀ vs H Q E, sp vs H Q E → vs.length = ps.length)
    (hbody : ∀ (cdv : Value) (A : Around) (outer : List Env) (s : Shared) (H : Hp) (vs : List V) (Q : VK) (E : XK), Room k (A.deeper (envOfC qual scope s.heap.objs.size (He.ga K x) cdv)) → sp vs H Q E →
      ∃ t, PSs (cxOf (L2.CX P w) P w K mg base N qual scope (He.ga K x) cdv A outer s H E) body t ∧ t ⟨fun _ H' => Q .non H', Q, fun _ _ => False, fun _ _ => False⟩ (start N vs) H) : Def P w K mg base (k + 1) x ps sp := by
  obtain ⟨fd, F⟩ := F
  refine ⟨hg, F.kp, fd, F.ok S len hbody, F.bindsN hb, ?_, F.bindsA hb⟩
  obtain ⟨oc, od, _, _, _, _, _, _, _, osl, _, lk, _⟩ := F.ex
  exact ⟨oc, od, osl, lk⟩
theorem pe_dcall {X : Cx} {k : Nat} {x : Str} {ps : List Str} {sp : Sp} {E : XK} {e : Expr} {es : List Expr} {t : TA} {p pos : Pos} (D : Def X.prog X.w X.K X.mg X.base k x ps sp) (hr : Room k X.A) (hg : Gl X x) (hx : Passes (L2.CX X.prog X.w) X E)
    (ha : PA X (e :: es) t) (hdb : (x == ("__debug__" : Str)) = false := by decide) (he : starEach (e :: es) X.env = (false, eval e X.env) :: starEach es X.env := by rfl) (hpl : ∀ q : Pos, (backTo q (starEach es X.env)).any (·.1) = false := by intro _; rfl) :
    PE X (.Call (.Name x p) (e :: es) [] pos) (tCall sp [] E t) := by
  obtain ⟨fd, F, B, _⟩ := D.ok
  exact pe_call F hr hg D.g D.kp B .nil hx ha hdb he (hpl _)
theorem pe_dcallS {X : Cx} {k : Nat} {x : Str} {ps : List Str} {sp : Sp} {E : L2.St → XK} {e : Expr} {es : List Expr} {t : TA} {p pos : Pos} (D : Def X.prog X.w X.K X.mg X.base k x ps sp) (hr : Room k X.A) (hg : Gl X x) (hx : ∀ σ, PassesAt (L2.CX X.prog X.w) X σ (E σ))
    (ha : PA X (e :: es) t) (hdb : (x == ("__debug__" : Str)) = false := by decide) (he : starEach (e :: es) X.env = (false, eval e X.env) :: starEach es X.env := by rfl) (hpl : ∀ q : Pos, (backTo q (starEach es X.env)).any (·.1) = false := by intro _; rfl) :
    PE X (.Call (.Name x p) (e :: es) [] pos) (tCallS sp E t) := by
  obtain ⟨fd, F, B, _⟩ := D.ok
  exact pe_callS F hr hg D.g D.kp B hx ha hdb he (hpl _)
/-! ### the end of a law -/
def spLawB (K : PySem.W.Frag) : Sp := fun vs H Q _ => ∃ (a : Addr) (ns : List Int), vs = [.ref a] ∧ SqL K H a (ns.map V.int) ∧ ns.length ≤ 63 ∧ (∀ z ∈ ns, Builtin.Int.intBits z ≤ 1048576) ∧ ∀ H', Q (.bl true) H'
theorem walk_ofEB {l : PySem.W.OpenLaw} {n k : Nat} {q : Program} {loose : List Str} {XP : (Str → Option Value) → Heap → Prop} {YP : World → Heap → Prop} {d : DefRec} {x : Str}
    (hn : l.most = some n) (hn2 : n ≤ sizeLine) (hdf : d.params.defaults = []) (hr : Room k callerA)
    (F : ∀ (w : World) (mg : Str → Option Value) (fa : Addr) (h : Heap), YP w h → h.Ns mainGlobals mg → mg d.name = some (.ref fa) →
      ∃ (K : PySem.W.Frag) (fd : FuncData) (sp : Sp), K.In h ∧ (∀ (s : Shared) (u : Value), BindsTo s fd ⟨[u], []⟩ [(x, u)]) ∧
        (∀ (H : Hp) (a : Addr) (ns : List Int), ns.length ≤ n → (∀ z ∈ ns, Builtin.Int.intBits z ≤ 1048576) → SqL K H a (ns.map V.int) → sp [.ref a] H (fun v _ => v = .bl true) fun _ _ _ => False) ∧
        ∀ base : Heap, K.In base → base.Ns mainGlobals mg → FnOk l.prog w K mg base (L2.CX l.prog w) k fa fd [x] sp) :
    PySem.W.WalkO q loose XP YP l.row.toRowW d [] (fun f vs => PySem.call f vs) := by
  refine Att.attach_callB hn hdf fun w s0 s1 mg mb fa o pm cd doc a vs ns G Y ho hd hcd hmg hobj hints hlen hbits hg => ?_
  obtain ⟨K, fd, sp, KX, hb, hsp, hF⟩ := F w mg fa _ Y G.T.g hmg
  refine law_call KX G.T.g G.T.b G.T.builtins G.T.nolimit hg hobj hints (Nat.le_trans hlen hn2) hr hF hb (fun H hO hS => hsp H a ns hlen hbits hS) fun H e s' hc => ?_
  obtain ⟨_, _, _, _, _, _, _, _, _, _, _, _, z⟩ := hc
  exact z
theorem law_end {P : Program} {w : World} {K : PySem.W.Frag} {h : Heap} {mg : Str → Option Value} {k : Nat} {fa : Addr} (KX : K.In h) (hfa : mg ("law" : Str) = some (.ref fa)) (g : mg ("law" : Str) = some (.ref (He.ga K "law")))
    (D : ∀ base : Heap, K.In base → base.Ns mainGlobals mg → Def P w K mg base k "law" ["script"] (spLawB K)) (G : h.Ns mainGlobals mg) :
    ∃ (K : PySem.W.Frag) (fd : FuncData) (sp : Sp), K.In h ∧ (∀ (s : Shared) (u : Value), BindsTo s fd ⟨[u], []⟩ [("script", u)]) ∧
        (∀ (H : Hp) (a : Addr) (ns : List Int), ns.length ≤ 63 → (∀ z ∈ ns, Builtin.Int.intBits z ≤ 1048576) → SqL K H a (ns.map V.int) → sp [.ref a] H (fun v _ => v = .bl true) fun _ _ _ => False) ∧
        ∀ base : Heap, K.In base → base.Ns mainGlobals mg → FnOk P w K mg base (L2.CX P w) k fa fd ["script"] sp := by
  have e : fa = He.ga K "law" := by
    have z := hfa.symm.trans g
    injection z with z
    injection z
  subst e
  obtain ⟨fd, F, B, ⟨_, _, _, l1⟩, A⟩ := (D h KX G).ok
  refine ⟨K, fd, spLawB K, KX, fun s u => A s [u] rfl, fun H a ns hl hb hS => ⟨a, ns, rfl, hS, hl, hb, fun _ => rfl⟩, fun base hK hN => ?_⟩
  obtain ⟨fd2, F2, _, ⟨_, _, _, l2⟩, _⟩ := (D base hK hN).ok
  have e2 : fd2 = fd := by
    have z := l1.symm.trans l2
    injection z with z
    injection z with _ _ z _
    injection z with z
    exact z.symm
  exact e2 ▸ F2
end Ol

namespace Ol
open PySem PySem.Spec PyProof.Rows L2
/-! ### lengths -/
theorem ofS_len (s : String) : (Str.ofString s).length = s.length := by
  have e := congrArg List.length (PyProof.Rows.signs_ofString s)
  rw [List.length_map, String.length_toList] at e
  exact e
theorem sz_le {n : Nat} (h : n ≤ 16777216) : n ≤ sizeLine := by rw [sizeLine_eq]; exact h
theorem sz_lt {n : Nat} (h : n < 16777216) : n < sizeLine := by rw [sizeLine_eq]; exact h
theorem at_ex {α : Type} {xs : List α} {i : Int} (h0 : 0 ≤ i) (h1 : i < (xs.length : Int)) : ∃ v, xs[i.toNat]? = some v ∧ atI xs i = some v := by
  obtain ⟨n, rfl⟩ := Int.eq_ofNat_of_zero_le h0
  have hi : n < xs.length := by omega
  exact ⟨xs[n], List.getElem?_eq_getElem hi, atI_nat (List.getElem?_eq_getElem hi)⟩
theorem at_nat {α : Type} {xs : List α} {i : Nat} {v : α} (h : xs[i]? = some v) : atI xs (i : Int) = some v := atI_nat h
theorem int_at {ns : List Int} {i : Nat} {x : V} (h : (ns.map V.int)[i]? = some x) : ∃ z, x = V.int z := by
  rw [List.getElem?_map] at h
  cases e : ns[i]? with
  | none => rw [e] at h; cases h
  | some z => rw [e] at h; exact ⟨z, (Option.some.inj h).symm⟩
/-! ### rules that join -/
def rOr (r1 r2 : R2) : R2 := fun x y H Q => r1 x y H Q ∨ r2 x y H Q
theorem op_or2 {X : Cx} {f : Value → Value → Sem Value} {r1 r2 : R2} (h1 : OpR X f r1) (h2 : OpR X f r2) : OpR X f (rOr r1 r2) := fun pins s σ H x y v u Q I rx ry q =>
  q.elim (h1 pins s σ H x y v u Q I rx ry) (h2 pins s σ H x y v u Q I rx ry)
theorem call_or2 {X : Cx} {f : Value} {r1 r2 : List V → Hp → VK → Prop} (h1 : CallR X f r1) (h2 : CallR X f r2) : CallR X f (fun xs H Q => r1 xs H Q ∨ r2 xs H Q) := fun pins s σ H xs us Q I r q =>
  q.elim (h1 pins s σ H xs us Q I r) (h2 pins s σ H xs us Q I r)
/-- list + list, wherever they stand -/
def rCatL (K : PySem.W.Frag) : R2 := fun x y H Q => ∃ l b xs zs, x = .ref l ∧ y = .ref b ∧ SqL K H l xs ∧ SqL K H b zs ∧ xs.length + zs.length ≤ sizeLine ∧ ∀ p, H p = none → Q (.ref p) (upd H p (.lst (xs ++ zs)))
theorem op_catL {X : Cx} : OpR X (binaryOp .Add) (rCatL X.K) := by
  intro pins s σ H x y v u Q I rx ry h
  obtain ⟨l, b, xs, zs, rfl, rfl, hH, hB, hz, q⟩ := h
  cases rx
  cases ry
  obtain ⟨its, r, ⟨⟨cls, dd, data, sl⟩, n, ho, hc, hdd, hd⟩, _⟩ := I.list hH
  obtain ⟨its2, r2, ⟨⟨cls2, dd2, data2, sl2⟩, n2, ho2, hc2, hdd2, hd2⟩, _⟩ := I.list hB
  simp only at hc hd hc2 hd2
  subst hc hd hc2 hd2
  have e : its.toArray ++ its2.toArray = (its ++ its2).toArray := by simp
  have l1 := r.length
  have l2 := r2.length
  refine concat_meets ⟨_, ho, rfl⟩ ⟨_, ho2, rfl⟩ noFill_list_add seq_list_add PySem.F.slot_list_add PySem.F.entry_list_add (PySem.F.args_list_add_2 _ _) (list_addW l b its.toArray its2.toArray n n2 dd dd2 sl sl2 (by simpa [← l1, ← l2] using hz)) ⟨ho, ho2, ?_⟩
  rw [e]
  exact ⟨.ref _, _, I.lnew (t' := s.toks) (r.append r2) (by rw [List.length_append]; omega), rfl, q _ I.fresh⟩
def rStrCat : R2 := fun x y H Q => ∃ i j, x = .str i ∧ y = .str j ∧ i.length + j.length ≤ sizeLine ∧ Q (.str (i ++ j)) H
def rAddU (K : PySem.W.Frag) : R2 := rOr (rI0 fun i j => .int (i + j)) (rOr rStrCat (rOr (rCatL K) (rCatA K)))
theorem op_addU {X : Cx} {K : PySem.W.Frag} (hK : X.K = K := by rfl) : OpR X (binaryOp .Add) (rAddU K) := hK ▸ op_or2 op_add (op_or2 op_add_str (op_or2 op_catL op_catA))
/-- == of scalars, of nested data -/
def rEqU (K : PySem.W.Frag) : R2 := rOr rEq (rEqD K)
def rNeU (K : PySem.W.Frag) : R2 := rOr rNe (rNeD K)
theorem op_eqU {X : Cx} {K : PySem.W.Frag} (hu : X.A.units + 64 < cLine) (hK : X.K = K := by rfl) : OpR X (compareOp .Eq) (rEqU K) := hK ▸ op_or2 op_eq (op_eqD hu)
theorem op_neU {X : Cx} {K : PySem.W.Frag} (hu : X.A.units + 64 < cLine) (hK : X.K = K := by rfl) : OpR X (compareOp .NotEq) (rNeU K) := hK ▸ op_or2 op_ne (op_neD hu)
/-! ### the layer's rules, the written part told -/
theorem pg_seq {X : Cx} {K : PySem.W.Frag} {pos : Pos} {es : List Expr} {k : Nat} {t : TGs} {n : Nat} (hK : X.K = K) (hc : X.calm = true) (h : PGs X es t)
    (hn : (assignEach es X.env).length = n := by rfl) (hst : (assignEach es X.env).findIdx? (·.1) = none := by rfl) : PG X (.Tuple es k pos) (gTup K n t) := hK ▸ pg_tup hc h hn hst
theorem ix_seqK {X : Cx} {K : PySem.W.Frag} (hK : X.K = K := by rfl) : IxR X (rIx K) := hK ▸ ix_seq
theorem pi_listK {X : Cx} {K : PySem.W.Frag} {tg l : Expr} {tl : TE} (hl : PE X l tl) (hK : X.K = K := by rfl) : PI X tg l (iList K tl) := hK ▸ pi_list hl
theorem pi_tupK {X : Cx} {K : PySem.W.Frag} {tg l : Expr} {tl : TE} (hl : PE X l tl) (hK : X.K = K := by rfl) : PI X tg l (iTup K tl) := hK ▸ pi_tup hl
theorem sl_listK {X : Cx} {K : PySem.W.Frag} (hK : X.K = K := by rfl) : SlR X (rSlL K) := hK ▸ sl_list
theorem sl_tupK {X : Cx} {K : PySem.W.Frag} (hK : X.K = K := by rfl) : SlR X (rSlA K) := hK ▸ sl_tupA
theorem sl_strK {X : Cx} {K : PySem.W.Frag} (hK : X.K = K := by rfl) : SlR X rSlS := sl_str
theorem op_inK {X : Cx} {K : PySem.W.Frag} (hK : X.K = K := by rfl) : OpR X (compareOp .In) (rIn K false) := hK ▸ op_in_seq
theorem op_notInK {X : Cx} {K : PySem.W.Frag} (hK : X.K = K := by rfl) : OpR X (compareOp .NotIn) (rIn K true) := hK ▸ op_notIn_seq
theorem call_isiK {X : Cx} {K : PySem.W.Frag} (hK : X.K = K := by rfl) : CallR X (.builtin "isinstance") (rIsi K) := hK ▸ call_isi
theorem pt_truthK {X : Cx} {K : PySem.W.Frag} {a : Expr} {ta : TE} (ha : PE X a ta) (he : ∀ whole, isTrue a X.env whole = (do let v ← whole; standAt a.pos; holding [v] (truthy v))) (hK : X.K = K := by rfl) :
    PT X a (fun σ H Q => ta σ H fun x H' => ∃ k, TruV K x H' k ∧ Q k H') := hK ▸ pt_truth ha he
theorem pe_bmK {X : Cx} {K : PySem.W.Frag} {T name id : String} {r : V → List V → Hp → VK → Prop} {o e : Expr} {es : List Expr} {to : TE} {t : TA} {apos cpos : Pos} (hK : X.K = K) (pa : PlainAttrs T) (slot : Slot T name id) (hty : typeOf (.builtin id) = pure (.type "method_descriptor")) (hm : MtR X id r) (ho : PE X o to) (ha : PA X (e :: es) t)
    (hbase : attributeBase o name X.env (eval o X.env) = eval o X.env := by rfl)
    (hfew : ((backTo cpos (starEach (e :: es) X.env)).all (fun x => !x.1) && (backToKw cpos (keywordEach [] X.env)).all (fun x => x.1.isSome)
      && decide ((e :: es).length + ([] : List Keyword).length + (if ([] : List Keyword).isEmpty then 0 else 1) < 30)) = true := by rfl)
    (hline : (apos.endLine == cpos.line) = true := by rfl) (hs : starEach (e :: es) X.env = (false, eval e X.env) :: starEach es X.env := by rfl) (hplain : (backTo cpos (starEach es X.env)).any (·.1) = false := by rfl) :
    PE X (.Call (.Attribute o name apos) (e :: es) [] cpos) (tBM K T r to t) := hK ▸ pe_bm pa slot hty hm ho ha hbase hfew hline hs hplain
theorem pe_bm0K {X : Cx} {K : PySem.W.Frag} {T name id : String} {r : V → List V → Hp → VK → Prop} {o : Expr} {to : TE} {apos cpos : Pos} (hK : X.K = K) (pa : PlainAttrs T) (slot : Slot T name id) (hty : typeOf (.builtin id) = pure (.type "method_descriptor")) (hm : MtR X id r) (ho : PE X o to)
    (hbase : attributeBase o name X.env (eval o X.env) = eval o X.env := by rfl) (hline : (apos.endLine == cpos.line) = true := by rfl) : PE X (.Call (.Attribute o name apos) [] [] cpos) (tBM0 K T r to) := hK ▸ pe_bm0 pa slot hty hm ho hbase hline

/-! ### steps -/
section
variable {K : PySem.W.Frag} {σ : L2.St} {H H' : Hp} {Q rt : VK} {nx bk ct : L2.St → Hp → Prop} {ta tb te : TE} {QT : Bool → Hp → Prop} {QA : List V → Hp → Prop} {r : R2}
theorem s_seq {t u : TS} (h : t ⟨u ⟨nx, rt, bk, ct⟩, rt, bk, ct⟩ σ H) : tSeq t u ⟨nx, rt, bk, ct⟩ σ H := h
theorem s_asgN {i : Nat} (h : te σ H fun x H1 => nx (σ.set i (some x)) H1) : tAsg te (gName i) ⟨nx, rt, bk, ct⟩ σ H := h
theorem s_asg {g : TG} (h : te σ H fun x H1 => g x σ H1 nx) : tAsg te g ⟨nx, rt, bk, ct⟩ σ H := h
theorem s_ret (h : te σ H rt) : tRet te ⟨nx, rt, bk, ct⟩ σ H := h
theorem s_retN (h : rt .non H) : tRetN ⟨nx, rt, bk, ct⟩ σ H := h
theorem s_drop (h : te σ H fun _ H1 => nx σ H1) : tDrop te ⟨nx, rt, bk, ct⟩ σ H := h
theorem s_if {c : TT} {t u : TS} (h : c σ H fun b H1 => if b = true then t ⟨nx, rt, bk, ct⟩ σ H1 else u ⟨nx, rt, bk, ct⟩ σ H1) : tIfS c t u ⟨nx, rt, bk, ct⟩ σ H := h
theorem s_next (h : nx σ H) : tNext ⟨nx, rt, bk, ct⟩ σ H := h
theorem s_brk (h : bk σ H) : tBreak ⟨nx, rt, bk, ct⟩ σ H := h
theorem s_cont (h : ct σ H) : tCont ⟨nx, rt, bk, ct⟩ σ H := h
theorem s_nx (h : nx σ H) : Ends.nx ⟨nx, rt, bk, ct⟩ σ H := h
theorem s_bk (h : bk σ H) : Ends.bk ⟨nx, rt, bk, ct⟩ σ H := h
theorem s_ct (h : ct σ H) : Ends.ct ⟨nx, rt, bk, ct⟩ σ H := h
theorem s_rt {v : V} (h : rt v H) : Ends.rt ⟨nx, rt, bk, ct⟩ v H := h
theorem s_gname {i : Nat} {v : V} {q : L2.St → Hp → Prop} (h : q (σ.set i (some v)) H) : gName i v σ H q := h
theorem s_gtup {n : Nat} {t : TGs} {p : Addr} {xs : List V} {q : L2.St → Hp → Prop} (h : SqT K H p xs) (hn : xs.length = n) (h2 : t xs σ H q) : gTup K n t (.ref p) σ H q := ⟨p, xs, rfl, h, hn, h2⟩
theorem s_gcons {t : TG} {u : TGs} {v : V} {l : List V} {q : L2.St → Hp → Prop} (h : t v σ H fun s2 H2 => u l s2 H2 q) : gCons t u (v :: l) σ H q := ⟨v, l, rfl, h⟩
theorem s_gnil {q : L2.St → Hp → Prop} (h : q σ H) : gNil [] σ H q := ⟨rfl, h⟩
theorem s_gsub {to ti : TE} {ts : TSet} {v : V} {q : L2.St → Hp → Prop} (h : to σ H fun o H1 => ti σ H1 fun i H2 => ts o i v H2 fun H3 => q σ H3) : gSub to ti ts v σ H q := h
theorem s_setL {p : Addr} {i : Int} {v : V} {xs : List V} {j : Nat} {q : Hp → Prop} (h : H p = some (.lst xs)) (e : ixN xs.length i = some j) (h2 : q (upd H p (.lst (xs.set j v)))) : rSetL (.ref p) (.int i) v H q := ⟨p, xs, i, j, rfl, rfl, h, e, h2⟩
theorem s_test (h : te σ H fun x H1 => ∃ k, x = .bl k ∧ QT k H1) : tTest te σ H QT := h
theorem s_tB (h : te σ H fun x H1 => ∃ k, x = .bl k ∧ QT k H1) : tB te σ H QT := h
theorem s_isbl {b : Bool} (h : QT b H) : ∃ k, V.bl b = .bl k ∧ QT k H := ⟨b, rfl, h⟩
theorem s_and {t u : TT} (h : t σ H fun c H1 => if c = true then u σ H1 QT else QT false H1) : tAnd t u σ H QT := h
theorem s_or {t u : TT} (h : t σ H fun c H1 => if c = true then QT true H1 else u σ H1 QT) : tOr t u σ H QT := h
theorem s_not {t : TT} (h : t σ H fun c H1 => QT (!c) H1) : tNot t σ H QT := h
theorem s_andV (h : ta σ H fun x H1 => ∃ c, x = .bl c ∧ if c = true then tb σ H1 Q else Q (.bl false) H1) : tAndV ta tb σ H Q := h
theorem s_orV (h : ta σ H fun x H1 => ∃ c, x = .bl c ∧ if c = true then Q (.bl true) H1 else tb σ H1 Q) : tOrV ta tb σ H Q := h
theorem s_notV (h : ta σ H fun x H1 => ∃ c, x = .bl c ∧ Q (.bl (!c)) H1) : tNotV ta σ H Q := h
theorem s_isblP {b : Bool} {A B : Hp → Prop} (h : if b = true then A H else B H) : ∃ k, V.bl b = .bl k ∧ (if k = true then A H else B H) := ⟨b, rfl, h⟩
theorem s_ifE {t : TT} (h : t σ H fun c H1 => if c = true then ta σ H1 Q else tb σ H1 Q) : tIf t ta tb σ H Q := h
theorem s_var {i : Nat} {v : V} (e : σ[i]? = some (some v)) (h : Q v H) : tVar i σ H Q := ⟨v, e, h⟩
theorem s_c {v : V} (h : Q v H) : tC v σ H Q := h
theorem s_op (h : ta σ H fun x H1 => tb σ H1 fun y H2 => r x y H2 Q) : tOp r ta tb σ H Q := h
theorem s_un {u : V → Hp → VK → Prop} (h : ta σ H fun x H1 => u x H1 Q) : tUn u ta σ H Q := h
theorem s_cons {tr : TA} (h : ta σ H fun x H1 => tr σ H1 fun xs H2 => QA (x :: xs) H2) : tCons ta tr σ H QA := h
theorem s_nil (h : QA [] H) : tNil σ H QA := h
theorem s_cb {u : List V → Hp → VK → Prop} {t : TA} (h : t σ H fun vs H1 => u vs H1 Q) : tCB u t σ H Q := h
theorem s_call {sp : Sp} {E : XK} {t : TA} (h : t σ H fun vs H1 => sp (vs ++ []) H1 Q E) : tCall sp [] E t σ H Q := h
theorem s_callS {sp : Sp} {E : L2.St → XK} {t : TA} (h : t σ H fun vs H1 => sp vs H1 Q (E σ)) : tCallS sp E t σ H Q := h
theorem s_tup {t : TA} (h : t σ H fun xs H1 => xs.length ≤ sizeLine ∧ ∀ p, H1 p = none → Q (.ref p) (upd H1 p (.tup xs))) : tTup t σ H Q := h
theorem s_lst {t : TA} (h : t σ H fun xs H1 => xs.length ≤ sizeLine ∧ ∀ p, H1 p = none → Q (.ref p) (upd H1 p (.lst xs))) : tLst t σ H Q := h
theorem s_bm {T : String} {u : V → List V → Hp → VK → Prop} {t : TA} (h : te σ H fun x H1 => tyV K T x H1 ∧ t σ H1 fun xs H2 => u x xs H2 Q) : tBM K T u te t σ H Q := h
theorem s_bm0 {T : String} {u : V → List V → Hp → VK → Prop} (h : te σ H fun x H1 => tyV K T x H1 ∧ u x [] H1 Q) : tBM0 K T u te σ H Q := h
theorem s_rI0 {g : Int → Int → V} {i j : Int} (h : Q (g i j) H) : rI0 g (.int i) (.int j) H Q := ⟨i, j, rfl, rfl, h⟩
theorem s_rI {C : Int → Int → Prop} {g : Int → Int → V} {i j : Int} (c : C i j) (h : Q (g i j) H) : rI C g (.int i) (.int j) H Q := ⟨i, j, rfl, rfl, c, h⟩
theorem s_rU {g : Int → V} {i : Int} (h : Q (g i) H) : rU g (.int i) H Q := ⟨i, rfl, h⟩
theorem s_addI {i j : Int} (h : Q (.int (i + j)) H) : rAddU K (.int i) (.int j) H Q := .inl ⟨i, j, rfl, rfl, h⟩
theorem s_addS {i j : Str} (e : i.length + j.length ≤ sizeLine) (h : Q (.str (i ++ j)) H) : rAddU K (.str i) (.str j) H Q := .inr (.inl ⟨i, j, rfl, rfl, e, h⟩)
theorem s_addL {l b : Addr} {xs zs : List V} (h1 : SqL K H l xs) (h2 : SqL K H b zs) (e : xs.length + zs.length ≤ sizeLine) (h : ∀ p, H p = none → Q (.ref p) (upd H p (.lst (xs ++ zs)))) : rAddU K (.ref l) (.ref b) H Q := .inr (.inr (.inl ⟨l, b, xs, zs, rfl, rfl, h1, h2, e, h⟩))
theorem s_eqS {x y : V} (c : scal x y = true) (h : Q (.bl (decide (x = y))) H) : rEqU K x y H Q := .inl ⟨c, h⟩
theorem s_neS {x y : V} (c : scal x y = true) (h : Q (.bl (!decide (x = y))) H) : rNeU K x y H Q := .inl ⟨c, h⟩
theorem s_eqD {x y : V} {d e : PyData} (c : Dp K H x d) (c2 : Dp K H y e) (z : SeqAt.shaped d = true) (z2 : SeqAt.shaped e = true) (h : Q (.bl (PyData.eqv d e)) H) : rEqU K x y H Q := .inr ⟨d, e, c, c2, z, z2, h⟩
theorem s_neD {x y : V} {d e : PyData} (c : Dp K H x d) (c2 : Dp K H y e) (z : SeqAt.shaped d = true) (z2 : SeqAt.shaped e = true) (h : Q (.bl (!PyData.eqv d e)) H) : rNeU K x y H Q := .inr ⟨d, e, c, c2, z, z2, h⟩
theorem s_isN {x : V} (h : Q (.bl (decide (x = .non))) H) : (fun (x y : V) (H : Hp) (Q : VK) => y = .non ∧ Q (.bl (decide (x = .non))) H) x .non H Q := ⟨rfl, h⟩
theorem s_ixL {p : Addr} {xs : List V} {i : Int} {v : V} (h : SqL K H p xs) (e : atI xs i = some v) (q : Q v H) : rIx K (.ref p) (.int i) H Q := .inl ⟨p, xs, i, v, rfl, rfl, h, e, q⟩
theorem s_ixT {p : Addr} {xs : List V} {i : Int} {v : V} (h : SqT K H p xs) (e : atI xs i = some v) (q : Q v H) : rIx K (.ref p) (.int i) H Q := .inr (.inl ⟨p, xs, i, v, rfl, rfl, h, e, q⟩)
theorem s_ixS {z : Str} {i : Int} {c : Nat} (l : z.length ≤ sizeLine) (e : atI z.cps.toList i = some c) (q : Q (.str ⟨#[c]⟩) H) : rIx K (.str z) (.int i) H Q := .inr (.inr ⟨z, i, c, rfl, rfl, l, e, q⟩)
theorem s_append {l : Addr} {xs : List V} {y : V} (h : H l = some (.lst xs)) (e : xs.length < sizeLine) (q : Q .non (upd H l (.lst (xs ++ [y])))) : rAppend (.ref l) [y] H Q := ⟨l, xs, y, rfl, rfl, h, e, q⟩
theorem s_iteD {p : Prop} [Decidable p] {A B : Prop} (h1 : p → A) (h2 : ¬ p → B) : if decide p = true then A else B := by
  by_cases h : p
  · rw [decide_eq_true h]; exact h1 h
  · rw [decide_eq_false h]; exact h2 h
theorem s_iteN {p : Prop} [Decidable p] {A B : Prop} (h1 : ¬ p → A) (h2 : p → B) : if (!decide p) = true then A else B := by
  by_cases h : p
  · rw [decide_eq_true h]; exact h2 h
  · rw [decide_eq_false h]; exact h1 h
theorem s_iteB {b : Bool} {A B : Prop} (h1 : b = true → A) (h2 : b = false → B) : if b = true then A else B := by
  cases b
  · exact h2 rfl
  · exact h1 rfl
theorem s_yes {b : Bool} {A B : Prop} (e : b = true) (h : A) : if b = true then A else B := by
  rw [e]; exact h
theorem s_no {b : Bool} {A B : Prop} (e : b = false) (h : B) : if b = true then A else B := by
  rw [e]; exact h
theorem hf_new {q p : Addr} {o o2 : HO} (hq : H q = none) (h : H p = some o) : (upd H q o2) p = some o := by
  rw [upd_ne (ne_of_none h hq)]; exact h
theorem hf_ne {q p : Addr} {o o2 : HO} (hq : p ≠ q) (h : H p = some o) : (upd H q o2) p = some o := by
  rw [upd_ne hq]; exact h
theorem sl_of {p : Addr} {xs : List V} (h : H p = some (.lst xs)) : SqL K H p xs := .inl (.inl h)
theorem st_of {p : Addr} {xs : List V} (h : H p = some (.tup xs)) : SqT K H p xs := .inl (.inl h)
theorem Same.new {p : Addr} {o : HO} (h : H p = none) : Same H (upd H p o) := fun b x e => by
  rw [upd_ne (ne_of_none e h)]; exact e
/-- what H does not know may change -/
theorem Same.mut {p : Addr} {o : HO} (e : Same H H') (h : H p = none) : Same H (upd H' p o) := fun a u ha => by
  rw [upd_ne (ne_of_none ha h)]; exact e a u ha
theorem Same.tup {a : Addr} {xs : List V} (e : Same H H') (h : SqT K H a xs) : SqT K H' a xs := by
  rcases h with (h | ⟨o, h⟩) | h
  · exact .inl (.inl (e _ _ h))
  · exact .inl (.inr ⟨o, e _ _ h⟩)
  · exact .inr h
end
/-! ### named readings of the layer's rules -/
def rIsNo : R2 := fun x y H Q => y = .non ∧ Q (.bl (decide (x = .non))) H
def rNotNo : R2 := fun x y H Q => y = .non ∧ Q (.bl (!decide (x = .non))) H
theorem op_isNo {X : Cx} : OpR X (compareOp .Is) rIsNo := op_isN
theorem op_notNo {X : Cx} : OpR X (compareOp .IsNot) rNotNo := op_notN
def rStrI : List V → Hp → VK → Prop := fun xs H Q => ∃ i, xs = [.int i] ∧ i.natAbs.log2 < 1920 ∧ Q (.str (toString i)) H
theorem call_strI {X : Cx} : CallR X (.type "str") rStrI := call_str_int
def rAbsI : List V → Hp → VK → Prop := fun xs H Q => ∃ i, xs = [.int i] ∧ Q (.int (if i < 0 then -i else i)) H
theorem call_absI {X : Cx} : CallR X (.builtin "abs") rAbsI := call_abs
def rLenU (K : PySem.W.Frag) : List V → Hp → VK → Prop := fun xs H Q => ∃ x n, xs = [x] ∧ LenV K x H n ∧ Q (.int n) H
theorem call_lenU {X : Cx} {K : PySem.W.Frag} (hK : X.K = K := by rfl) : CallR X (.builtin "len") (rLenU K) := hK ▸ call_len
def rJoinU (K : PySem.W.Frag) : V → List V → Hp → VK → Prop := fun x xs H Q => ∃ a p, ∃ ys : List Str, x = .str a ∧ xs = [.ref p] ∧ (SqL K H p (ys.map V.str) ∨ SqT K H p (ys.map V.str)) ∧ (ys.map (·.length)).sum + ys.length * a.length ≤ 16777216 ∧ Q (.str (Txt.join a ys)) H
theorem mt_joinU {X : Cx} {K : PySem.W.Frag} (hK : X.K = K := by rfl) : MtR X "str.join" (rJoinU K) := hK ▸ mt_join
section
variable {K : PySem.W.Frag} {σ : L2.St} {H H' : Hp} {Q : VK}
theorem s_isNo {x : V} (h : Q (.bl (decide (x = .non))) H) : rIsNo x .non H Q := ⟨rfl, h⟩
theorem s_notNo {x : V} (h : Q (.bl (!decide (x = .non))) H) : rNotNo x .non H Q := ⟨rfl, h⟩
theorem s_strI {i : Int} (e : i.natAbs.log2 < 1920) (h : Q (.str (toString i)) H) : rStrI [.int i] H Q := ⟨i, rfl, e, h⟩
theorem s_absI {i : Int} (h : Q (.int (if i < 0 then -i else i)) H) : rAbsI [.int i] H Q := ⟨i, rfl, h⟩
theorem s_lenS {z : Str} (e : z.length ≤ sizeLine) (h : Q (.int (z.length : Nat)) H) : rLenU K [.str z] H Q := ⟨_, _, rfl, ⟨e, rfl⟩, h⟩
theorem s_lenL {p : Addr} {xs : List V} (e : SqL K H p xs) (h : Q (.int (xs.length : Nat)) H) : rLenU K [.ref p] H Q := ⟨_, _, rfl, .inl ⟨xs, e, rfl⟩, h⟩
theorem s_lenT {p : Addr} {xs : List V} (e : SqT K H p xs) (h : Q (.int (xs.length : Nat)) H) : rLenU K [.ref p] H Q := ⟨_, _, rfl, .inr ⟨xs, e, rfl⟩, h⟩
theorem s_joinL {a : Str} {p : Addr} {ys : List Str} (e : SqL K H p (ys.map V.str)) (l : (ys.map (·.length)).sum + ys.length * a.length ≤ 16777216) (h : Q (.str (Txt.join a ys)) H) : rJoinU K (.str a) [.ref p] H Q := ⟨a, p, ys, rfl, rfl, .inl e, l, h⟩
theorem s_joinT {a : Str} {p : Addr} {ys : List Str} (e : SqT K H p (ys.map V.str)) (l : (ys.map (·.length)).sum + ys.length * a.length ≤ 16777216) (h : Q (.str (Txt.join a ys)) H) : rJoinU K (.str a) [.ref p] H Q := ⟨a, p, ys, rfl, rfl, .inr e, l, h⟩
theorem s_tyS {z : Str} {A : Prop} (h : A) : tyV K "str" (.str z) H ∧ A := ⟨rfl, h⟩
theorem s_tyL {p : Addr} {xs : List V} {A : Prop} (e : SqL K H p xs) (h : A) : tyV K "list" (.ref p) H ∧ A := ⟨.inl ⟨rfl, _, e⟩, h⟩
/-- isinstance -/
theorem s_isi {x c : V} {t u : Value} {b : Bool} (k : ClsV c u) (ty : TyX K H x t) (e : PySem.W.kitOne K t u = some b) (h : Q (.bl b) H) : rIsi K [x, c] H Q := ⟨x, c, t, u, b, rfl, k, ty, e, h⟩
end
/-! ### steps found by the head of the reading -/
class Step (G : Prop) (G2 : outParam Prop) : Prop where
  go : G2 → G
/-- slot i of a frame -/
class Slot (s : L2.St) (i : Nat) (v : outParam V) : Prop where
  e : s[i]? = some (some v)
instance slot0 {v : V} {s : L2.St} : Slot (some v :: s) 0 v := ⟨rfl⟩
instance slotS {v : V} {s : L2.St} {a : Option V} {i : Nat} [h : Slot s i v] : Slot (a :: s) (i + 1) v := ⟨by rw [List.getElem?_cons_succ]; exact h.e⟩
class SetS (s : L2.St) (i : Nat) (f : outParam (V → L2.St)) : Prop where
  e : ∀ v, s.set i (some v) = f v
instance set0 {a : Option V} {s : L2.St} : SetS (a :: s) 0 (fun v => some v :: s) := ⟨fun _ => rfl⟩
instance setS {s : L2.St} {a : Option V} {i : Nat} {f : V → L2.St} [h : SetS s i f] : SetS (a :: s) (i + 1) (fun v => a :: f v) := ⟨fun v => by rw [List.set_cons_succ, h.e]⟩
class WipeS (s : L2.St) (vs : List Nat) (t : outParam L2.St) : Prop where
  e : wipe s vs = t
class NoneS (s : L2.St) (i : Nat) (t : outParam L2.St) : Prop where
  e : s.set i none = t
instance none0 {a : Option V} {s : L2.St} : NoneS (a :: s) 0 (none :: s) := ⟨rfl⟩
instance noneS {s t : L2.St} {a : Option V} {i : Nat} [h : NoneS s i t] : NoneS (a :: s) (i + 1) (a :: t) := ⟨by rw [List.set_cons_succ, h.e]⟩
instance wipe0 {s : L2.St} : WipeS s [] s := ⟨rfl⟩
instance wipe1 {s t u : L2.St} {v : Nat} {vs : List Nat} [h : WipeS s vs t] [k : NoneS t v u] : WipeS s (v :: vs) u := ⟨by show (wipe s vs).set v none = u; rw [h.e, k.e]⟩
/-! ### loops -/
section
variable {K : PySem.W.Frag} {σ : L2.St} {H H' : Hp} {Q rt : VK} {nx bk ct : L2.St → Hp → Prop} {ta tb te : TE}
/-- the turns of a for -/
def ForW (g : TG) (tb : TS) (D : Ends) (J : It) (σ : L2.St) (H1 : Hp) : Prop := ∃ W : Nat → Nat → L2.St → Hp → Prop, (∃ m, W 0 m σ H1) ∧ ∀ i m σ H, W i m σ H →
  (J.stop i H ∧ D.nx σ H) ∨ (J.go i H ∧ ∃ N : L2.St → Hp → Prop, (∀ σ' H', N σ' H' → ∃ m', m' < m ∧ W (i + 1) m' σ' H') ∧ ∀ x H', J.yld i H x H' → g x σ H' fun σ2 H2 => tb { D with nx := N, ct := N, bk := D.nx } σ2 H2)
theorem s_for {wi : TI} {g : TG} {t : TS} (h : wi σ H fun J H1 => ForW g t ⟨nx, rt, bk, ct⟩ J σ H1) : tFor wi g t ⟨nx, rt, bk, ct⟩ σ H := h
theorem s_iRng1 {ta : TA} {R : It → Hp → Prop} (h : ta σ H fun vs H1 => ∃ j : Int, vs = [.int j] ∧ -(2 ^ 62) ≤ j ∧ j < 2 ^ 62 ∧ R (Itr 0 j.toNat) H1) : iRng1 ta σ H R := h
theorem s_iRng2 {ta : TA} {R : It → Hp → Prop} (h : ta σ H fun vs H1 => ∃ i j : Int, vs = [.int i, .int j] ∧ (-(2 ^ 62) ≤ i ∧ i < 2 ^ 62 ∧ -(2 ^ 62) ≤ j ∧ j < 2 ^ 62) ∧ R (Itr i (j - i).toNat) H1) : iRng2 ta σ H R := h
theorem s_rng1 {j : Int} {g : TG} {t : TS} {D : Ends} (h1 : -(2 ^ 62) ≤ j) (h2 : j < 2 ^ 62) (h : ForW g t D (Itr 0 j.toNat) σ H) : ∃ k : Int, [V.int j] = [V.int k] ∧ -(2 ^ 62) ≤ k ∧ k < 2 ^ 62 ∧ ForW g t D (Itr 0 k.toNat) σ H := ⟨j, rfl, h1, h2, h⟩
theorem s_rng2 {i j : Int} {g : TG} {t : TS} {D : Ends} (h1 : -(2 ^ 62) ≤ i ∧ i < 2 ^ 62 ∧ -(2 ^ 62) ≤ j ∧ j < 2 ^ 62) (h : ForW g t D (Itr i (j - i).toNat) σ H) : ∃ a b : Int, [V.int i, V.int j] = [V.int a, V.int b] ∧ (-(2 ^ 62) ≤ a ∧ a < 2 ^ 62 ∧ -(2 ^ 62) ≤ b ∧ b < 2 ^ 62) ∧ ForW g t D (Itr a (b - a).toNat) σ H := ⟨i, j, rfl, h1, h⟩
theorem s_iList {R : It → Hp → Prop} (h : te σ H fun x H1 => ∃ a, x = .ref a ∧ (∃ xs, SqL K H1 a xs) ∧ R (Itl K a) H1) : iList K te σ H R := h
theorem s_iTup {R : It → Hp → Prop} (h : te σ H fun x H1 => ∃ a, x = .ref a ∧ (∃ xs, SqT K H1 a xs) ∧ R (Itt K a) H1) : iTup K te σ H R := h
theorem s_lst1 {p : Addr} {xs : List V} {g : TG} {t : TS} {D : Ends} (h1 : SqL K H p xs) (h : ForW g t D (Itl K p) σ H) : ∃ a, V.ref p = .ref a ∧ (∃ xs, SqL K H a xs) ∧ ForW g t D (Itl K a) σ H := ⟨p, rfl, ⟨xs, h1⟩, h⟩
theorem s_tup1 {p : Addr} {xs : List V} {g : TG} {t : TS} {D : Ends} (h1 : SqT K H p xs) (h : ForW g t D (Itt K p) σ H) : ∃ a, V.ref p = .ref a ∧ (∃ xs, SqT K H a xs) ∧ ForW g t D (Itt K a) σ H := ⟨p, rfl, ⟨xs, h1⟩, h⟩
theorem s_forR {lo : Int} {n : Nat} {g : TG} {t : TS} (Pv : Nat → L2.St → Hp → Prop) (h0 : Pv 0 σ H)
    (hs : ∀ i σ H, i < n → Pv i σ H → g (.int (lo + i)) σ H fun σ2 H2 => t ⟨Pv (i + 1), rt, nx, Pv (i + 1)⟩ σ2 H2) (hd : ∀ σ H, Pv n σ H → nx σ H) : ForW g t ⟨nx, rt, bk, ct⟩ (Itr lo n) σ H := for_range (D := ⟨nx, rt, bk, ct⟩) Pv h0 hs hd
theorem s_forR0 {n : Nat} {g : TG} {t : TS} (Pv : Nat → L2.St → Hp → Prop) (h0 : Pv 0 σ H)
    (hs : ∀ i σ H, i < n → Pv i σ H → g (.int (i : Nat)) σ H fun σ2 H2 => t ⟨Pv (i + 1), rt, nx, Pv (i + 1)⟩ σ2 H2) (hd : ∀ σ H, Pv n σ H → nx σ H) : ForW g t ⟨nx, rt, bk, ct⟩ (Itr 0 n) σ H :=
  s_forR Pv h0 (fun i σ H hi p => by rw [Int.zero_add]; exact hs i σ H hi p) hd
theorem s_forL {a : Addr} {xs : List V} {g : TG} {t : TS} (Pv : Nat → L2.St → Hp → Prop) (h0 : Pv 0 σ H) (hl : ∀ i σ H, i ≤ xs.length → Pv i σ H → SqL K H a xs)
    (hs : ∀ i x σ H, xs[i]? = some x → Pv i σ H → g x σ H fun σ2 H2 => t ⟨Pv (i + 1), rt, nx, Pv (i + 1)⟩ σ2 H2) (hd : ∀ σ H, Pv xs.length σ H → nx σ H) : ForW g t ⟨nx, rt, bk, ct⟩ (Itl K a) σ H := for_list (D := ⟨nx, rt, bk, ct⟩) Pv h0 hl hs hd
theorem s_forT {a : Addr} {xs : List V} {g : TG} {t : TS} (Pv : Nat → L2.St → Hp → Prop) (h0 : Pv 0 σ H) (hl : ∀ i σ H, i ≤ xs.length → Pv i σ H → SqT K H a xs)
    (hs : ∀ i x σ H, xs[i]? = some x → Pv i σ H → g x σ H fun σ2 H2 => t ⟨Pv (i + 1), rt, nx, Pv (i + 1)⟩ σ2 H2) (hd : ∀ σ H, Pv xs.length σ H → nx σ H) : ForW g t ⟨nx, rt, bk, ct⟩ (Itt K a) σ H := for_tup (D := ⟨nx, rt, bk, ct⟩) Pv h0 hl hs hd
/-- the turns of a comprehension -/
def LcW (g : TG) (tt : TT) (te : TE) (vs : List Nat) (σ : L2.St) (Q : VK) (J : It) (H1 : Hp) : Prop := ∀ D, H1 D = none → ∃ W : Nat → Nat → Hp → Prop, (∃ m, W 0 m (upd H1 D (.lst []))) ∧ ∀ i m H, W i m H →
  (J.stop i H ∧ Q (.ref D) H) ∨ (J.go i H ∧ ∃ Nx : Hp → Prop, (∀ H', Nx H' → ∃ m', m' < m ∧ W (i + 1) m' H') ∧ ∀ x H', J.yld i H x H' → g x (wipe σ vs) H' fun σ2 H2 => wipe σ2 vs = wipe σ vs ∧ tt σ2 H2 fun b H3 =>
    if b = true then te σ2 H3 fun y H4 => ∃ acc, H4 D = some (.lst acc) ∧ acc.length < sizeLine ∧ Nx (upd H4 D (.lst (acc ++ [y]))) else Nx H3)
theorem s_lc {wi : TI} {g : TG} {tt : TT} {vs : List Nat} (h : wi σ H (LcW g tt te vs σ Q)) : tLc wi g tt te vs σ H Q := h
theorem s_rng1c {j : Int} {g : TG} {tt : TT} {vs : List Nat} (h1 : -(2 ^ 62) ≤ j) (h2 : j < 2 ^ 62) (h : LcW g tt te vs σ Q (Itr 0 j.toNat) H) : ∃ k : Int, [V.int j] = [V.int k] ∧ -(2 ^ 62) ≤ k ∧ k < 2 ^ 62 ∧ LcW g tt te vs σ Q (Itr 0 k.toNat) H := ⟨j, rfl, h1, h2, h⟩
theorem s_rng2c {i j : Int} {g : TG} {tt : TT} {vs : List Nat} (h1 : -(2 ^ 62) ≤ i ∧ i < 2 ^ 62 ∧ -(2 ^ 62) ≤ j ∧ j < 2 ^ 62) (h : LcW g tt te vs σ Q (Itr i (j - i).toNat) H) : ∃ a b : Int, [V.int i, V.int j] = [V.int a, V.int b] ∧ (-(2 ^ 62) ≤ a ∧ a < 2 ^ 62 ∧ -(2 ^ 62) ≤ b ∧ b < 2 ^ 62) ∧ LcW g tt te vs σ Q (Itr a (b - a).toNat) H := ⟨i, j, rfl, h1, h⟩
theorem s_lst1c {p : Addr} {xs : List V} {g : TG} {tt : TT} {vs : List Nat} (h1 : SqL K H p xs) (h : LcW g tt te vs σ Q (Itl K p) H) : ∃ a, V.ref p = .ref a ∧ (∃ xs, SqL K H a xs) ∧ LcW g tt te vs σ Q (Itl K a) H := ⟨p, rfl, ⟨xs, h1⟩, h⟩
theorem s_tup1c {p : Addr} {xs : List V} {g : TG} {tt : TT} {vs : List Nat} (h1 : SqT K H p xs) (h : LcW g tt te vs σ Q (Itt K p) H) : ∃ a, V.ref p = .ref a ∧ (∃ xs, SqT K H a xs) ∧ LcW g tt te vs σ Q (Itt K a) H := ⟨p, rfl, ⟨xs, h1⟩, h⟩
theorem s_sz {n : Nat} {A : Prop} (h : n ≤ sizeLine) (a : A) : n ≤ sizeLine ∧ A := ⟨h, a⟩
theorem s_lcR0 {n : Nat} {g : TG} {tt : TT} {vs : List Nat} {τ : L2.St} [hw : WipeS σ vs τ] (Pv : Addr → Nat → Hp → Prop) (h0 : ∀ D, H D = none → Pv D 0 (upd H D (.lst [])))
    (hs : ∀ D i H1, H D = none → i < n → Pv D i H1 → g (.int (i : Nat)) τ H1 fun σ2 H2 => wipe σ2 vs = τ ∧ tt σ2 H2 fun b H3 =>
      if b = true then te σ2 H3 fun y H4 => ∃ acc, H4 D = some (.lst acc) ∧ acc.length < sizeLine ∧ Pv D (i + 1) (upd H4 D (.lst (acc ++ [y]))) else Pv D (i + 1) H3) (hd : ∀ D H1, H D = none → Pv D n H1 → Q (.ref D) H1) :
    LcW g tt te vs σ Q (Itr 0 n) H := by
  have e := hw.e
  subst e
  exact fun D hD => lc_range (lo := 0) (n := n) (Pv D) (h0 D hD) (fun i H1 hi p => by rw [Int.zero_add]; exact hs D i H1 hD hi p) fun H1 => hd D H1 hD
theorem s_lcL {a : Addr} {xs : List V} {g : TG} {tt : TT} {vs : List Nat} {τ : L2.St} [hw : WipeS σ vs τ] (Pv : Addr → Nat → Hp → Prop) (h0 : ∀ D, H D = none → Pv D 0 (upd H D (.lst []))) (hl : ∀ D i H1, H D = none → i ≤ xs.length → Pv D i H1 → SqL K H1 a xs)
    (hs : ∀ D i x H1, H D = none → xs[i]? = some x → Pv D i H1 → g x τ H1 fun σ2 H2 => wipe σ2 vs = τ ∧ tt σ2 H2 fun b H3 =>
      if b = true then te σ2 H3 fun y H4 => ∃ acc, H4 D = some (.lst acc) ∧ acc.length < sizeLine ∧ Pv D (i + 1) (upd H4 D (.lst (acc ++ [y]))) else Pv D (i + 1) H3) (hd : ∀ D H1, H D = none → Pv D xs.length H1 → Q (.ref D) H1) :
    LcW g tt te vs σ Q (Itl K a) H := by
  have e := hw.e
  subst e
  exact fun D hD => lc_list (K := K) (a := a) (xs := xs) (Pv D) (h0 D hD) (fun i H1 => hl D i H1 hD) (fun i x H1 => hs D i x H1 hD) fun H1 => hd D H1 hD
theorem s_lcT {a : Addr} {xs : List V} {g : TG} {tt : TT} {vs : List Nat} {τ : L2.St} [hw : WipeS σ vs τ] (Pv : Addr → Nat → Hp → Prop) (h0 : ∀ D, H D = none → Pv D 0 (upd H D (.lst []))) (hl : ∀ D i H1, H D = none → i ≤ xs.length → Pv D i H1 → SqT K H1 a xs)
    (hs : ∀ D i x H1, H D = none → xs[i]? = some x → Pv D i H1 → g x τ H1 fun σ2 H2 => wipe σ2 vs = τ ∧ tt σ2 H2 fun b H3 =>
      if b = true then te σ2 H3 fun y H4 => ∃ acc, H4 D = some (.lst acc) ∧ acc.length < sizeLine ∧ Pv D (i + 1) (upd H4 D (.lst (acc ++ [y]))) else Pv D (i + 1) H3) (hd : ∀ D H1, H D = none → Pv D xs.length H1 → Q (.ref D) H1) :
    LcW g tt te vs σ Q (Itt K a) H := by
  have e := hw.e
  subst e
  exact fun D hD => lc_tup (K := K) (a := a) (xs := xs) (Pv D) (h0 D hD) (fun i H1 => hl D i H1 hD) (fun i x H1 => hs D i x H1 hD) fun H1 => hd D H1 hD
theorem s_acc {D : Addr} {acc : List V} {y : V} {R : Hp → Prop} (h : H D = some (.lst acc)) (l : acc.length < sizeLine) (q : R (upd H D (.lst (acc ++ [y])))) : ∃ acc, H D = some (.lst acc) ∧ acc.length < sizeLine ∧ R (upd H D (.lst (acc ++ [y]))) := ⟨acc, h, l, q⟩
theorem s_tyes {QT : Bool → Hp → Prop} (h : QT true H) : tYes σ H QT := h
theorem s_wipe {A B : Prop} (e : A) (h : B) : A ∧ B := ⟨e, h⟩
/-- all but p -/
def But (p : Addr) (H H' : Hp) : Prop := ∀ b o, b ≠ p → H b = some o → H' b = some o
theorem But.refl {p : Addr} : But p H H := fun _ _ _ h => h
theorem But.trans {p : Addr} {H1 : Hp} (a : But p H H1) (b : But p H1 H') : But p H H' := fun c o n h => b c o n (a c o n h)
theorem But.same {p : Addr} (e : Same H H') : But p H H' := fun b o _ h => e b o h
theorem But.upd {p : Addr} {o : HO} : But p H (upd H p o) := fun b x n e => by
  rw [upd_ne n]; exact e
theorem But.new {p q : Addr} {o : HO} (h : H q = none) : But p H (L2.upd H q o) := But.same (Same.new h)
/-- p and what H does not know may change -/
theorem But.mut {p q : Addr} {o : HO} (b : But p H H') (h : H q = none) : But p H (L2.upd H' q o) := fun x y n e => by
  rw [upd_ne (ne_of_none e h)]; exact b x y n e
theorem But.put {p : Addr} {o : HO} (b : But p H H') : But p H (L2.upd H' p o) := fun x y n e => by
  rw [upd_ne n]; exact b x y n e
/-- what p was not in, may change -/
theorem But.toSame {p : Addr} {H1 : Hp} (a : Same H H1) (n : H p = none) (b : But p H1 H') : Same H H' := fun c o e => b c o (ne_of_none e n) (a c o e)
end
section
variable {K : PySem.W.Frag} {σ τ : L2.St} {H H' : Hp} {Q rt : VK} {nx bk ct : L2.St → Hp → Prop} {ta tb te : TE} {QT : Bool → Hp → Prop} {QA : List V → Hp → Prop} {r : R2}
instance {t u : TS} : Step (tSeq t u ⟨nx, rt, bk, ct⟩ σ H) (t ⟨u ⟨nx, rt, bk, ct⟩, rt, bk, ct⟩ σ H) := ⟨id⟩
instance (priority := 2000) {i : Nat} {f : V → L2.St} [h : SetS σ i f] : Step (tAsg te (gName i) ⟨nx, rt, bk, ct⟩ σ H) (te σ H fun x H1 => nx (f x) H1) := ⟨fun q => by
  have e : (fun x H1 => nx (f x) H1) = fun x H1 => gName i x σ H1 nx := by
    funext x H1
    show nx (f x) H1 = nx (σ.set i (some x)) H1
    rw [h.e]
  show te σ H (fun x H1 => gName i x σ H1 nx)
  rw [← e]
  exact q⟩
instance {g : TG} : Step (tAsg te g ⟨nx, rt, bk, ct⟩ σ H) (te σ H fun x H1 => g x σ H1 nx) := ⟨id⟩
instance : Step (tRet te ⟨nx, rt, bk, ct⟩ σ H) (te σ H rt) := ⟨id⟩
instance : Step (tRetN ⟨nx, rt, bk, ct⟩ σ H) (rt .non H) := ⟨id⟩
instance : Step (tDrop te ⟨nx, rt, bk, ct⟩ σ H) (te σ H fun _ H1 => nx σ H1) := ⟨id⟩
instance {c : TT} {t u : TS} : Step (tIfS c t u ⟨nx, rt, bk, ct⟩ σ H) (c σ H fun b H1 => if b = true then t ⟨nx, rt, bk, ct⟩ σ H1 else u ⟨nx, rt, bk, ct⟩ σ H1) := ⟨id⟩
instance : Step (tNext ⟨nx, rt, bk, ct⟩ σ H) (nx σ H) := ⟨id⟩
instance : Step (tBreak ⟨nx, rt, bk, ct⟩ σ H) (bk σ H) := ⟨id⟩
instance : Step (tCont ⟨nx, rt, bk, ct⟩ σ H) (ct σ H) := ⟨id⟩
instance : Step (Ends.nx ⟨nx, rt, bk, ct⟩ σ H) (nx σ H) := ⟨id⟩
instance : Step (Ends.bk ⟨nx, rt, bk, ct⟩ σ H) (bk σ H) := ⟨id⟩
instance : Step (Ends.ct ⟨nx, rt, bk, ct⟩ σ H) (ct σ H) := ⟨id⟩
instance {v : V} : Step (Ends.rt ⟨nx, rt, bk, ct⟩ v H) (rt v H) := ⟨id⟩
instance {i : Nat} {v : V} {q : L2.St → Hp → Prop} {f : V → L2.St} [h : SetS σ i f] : Step (gName i v σ H q) (q (f v) H) := ⟨fun z => by
  show q (σ.set i (some v)) H
  rw [h.e]
  exact z⟩
instance {t : TG} {u : TGs} {v : V} {l : List V} {q : L2.St → Hp → Prop} : Step (gCons t u (v :: l) σ H q) (t v σ H fun s2 H2 => u l s2 H2 q) := ⟨s_gcons⟩
instance {q : L2.St → Hp → Prop} : Step (gNil [] σ H q) (q σ H) := ⟨s_gnil⟩
instance {to ti : TE} {ts : TSet} {v : V} {q : L2.St → Hp → Prop} : Step (gSub to ti ts v σ H q) (to σ H fun o H1 => ti σ H1 fun i H2 => ts o i v H2 fun H3 => q σ H3) := ⟨id⟩
instance : Step (tTest te σ H QT) (te σ H fun x H1 => ∃ k, x = .bl k ∧ QT k H1) := ⟨id⟩
instance : Step (tB te σ H QT) (te σ H fun x H1 => ∃ k, x = .bl k ∧ QT k H1) := ⟨id⟩
instance {b : Bool} {F : Bool → Prop} : Step (∃ k, V.bl b = .bl k ∧ F k) (F b) := ⟨fun h => ⟨b, rfl, h⟩⟩
instance {t u : TT} : Step (tAnd t u σ H QT) (t σ H fun c H1 => if c = true then u σ H1 QT else QT false H1) := ⟨id⟩
instance {t u : TT} : Step (tOr t u σ H QT) (t σ H fun c H1 => if c = true then QT true H1 else u σ H1 QT) := ⟨id⟩
instance {t : TT} : Step (tNot t σ H QT) (t σ H fun c H1 => QT (!c) H1) := ⟨id⟩
instance : Step (tAndV ta tb σ H Q) (ta σ H fun x H1 => ∃ c, x = .bl c ∧ if c = true then tb σ H1 Q else Q (.bl false) H1) := ⟨id⟩
instance : Step (tOrV ta tb σ H Q) (ta σ H fun x H1 => ∃ c, x = .bl c ∧ if c = true then Q (.bl true) H1 else tb σ H1 Q) := ⟨id⟩
instance : Step (tNotV ta σ H Q) (ta σ H fun x H1 => ∃ c, x = .bl c ∧ Q (.bl (!c)) H1) := ⟨id⟩
instance {t : TT} : Step (tIf t ta tb σ H Q) (t σ H fun c H1 => if c = true then ta σ H1 Q else tb σ H1 Q) := ⟨id⟩
instance {i : Nat} {v : V} [h : Slot σ i v] : Step (tVar i σ H Q) (Q v H) := ⟨fun q => ⟨v, h.e, q⟩⟩
instance {v : V} : Step (tC v σ H Q) (Q v H) := ⟨id⟩
instance : Step (tOp r ta tb σ H Q) (ta σ H fun x H1 => tb σ H1 fun y H2 => r x y H2 Q) := ⟨id⟩
instance {u : V → Hp → VK → Prop} : Step (tUn u ta σ H Q) (ta σ H fun x H1 => u x H1 Q) := ⟨id⟩
instance {tr : TA} : Step (tCons ta tr σ H QA) (ta σ H fun x H1 => tr σ H1 fun xs H2 => QA (x :: xs) H2) := ⟨id⟩
instance : Step (tNil σ H QA) (QA [] H) := ⟨id⟩
instance {u : List V → Hp → VK → Prop} {t : TA} : Step (tCB u t σ H Q) (t σ H fun vs H1 => u vs H1 Q) := ⟨id⟩
instance {sp : Sp} {E : XK} {t : TA} : Step (tCall sp [] E t σ H Q) (t σ H fun vs H1 => sp vs H1 Q E) := ⟨fun h => by
  have e : (fun (vs : List V) (H1 : Hp) => sp (vs ++ []) H1 Q E) = fun vs H1 => sp vs H1 Q E := by
    funext vs H1
    rw [List.append_nil]
  show t σ H (fun vs H1 => sp (vs ++ []) H1 Q E)
  rw [e]
  exact h⟩
instance {sp : Sp} {E : L2.St → XK} {t : TA} : Step (tCallS sp E t σ H Q) (t σ H fun vs H1 => sp vs H1 Q (E σ)) := ⟨id⟩
instance {t : TA} : Step (tTup t σ H Q) (t σ H fun xs H1 => xs.length ≤ sizeLine ∧ ∀ p, H1 p = none → Q (.ref p) (upd H1 p (.tup xs))) := ⟨id⟩
instance {t : TA} : Step (tLst t σ H Q) (t σ H fun xs H1 => xs.length ≤ sizeLine ∧ ∀ p, H1 p = none → Q (.ref p) (upd H1 p (.lst xs))) := ⟨id⟩
instance {T : String} {u : V → List V → Hp → VK → Prop} {t : TA} : Step (tBM K T u te t σ H Q) (te σ H fun x H1 => tyV K T x H1 ∧ t σ H1 fun xs H2 => u x xs H2 Q) := ⟨id⟩
instance {T : String} {u : V → List V → Hp → VK → Prop} : Step (tBM0 K T u te σ H Q) (te σ H fun x H1 => tyV K T x H1 ∧ u x [] H1 Q) := ⟨id⟩
instance {g : Int → Int → V} {i j : Int} : Step (rI0 g (.int i) (.int j) H Q) (Q (g i j) H) := ⟨s_rI0⟩
instance {C : Int → Int → Prop} {g : Int → Int → V} {i j : Int} : Step (rI C g (.int i) (.int j) H Q) (C i j ∧ Q (g i j) H) := ⟨fun h => s_rI h.1 h.2⟩
instance {g : Int → V} {i : Int} : Step (rU g (.int i) H Q) (Q (g i) H) := ⟨s_rU⟩
instance {i j : Int} : Step (rAddU K (.int i) (.int j) H Q) (Q (.int (i + j)) H) := ⟨s_addI⟩
instance {i j : Str} : Step (rAddU K (.str i) (.str j) H Q) (i.length + j.length ≤ sizeLine ∧ Q (.str (i ++ j)) H) := ⟨fun h => s_addS h.1 h.2⟩
instance {i j : Int} : Step (rEqU K (.int i) (.int j) H Q) (Q (.bl (decide (i = j))) H) := ⟨fun h => s_eqS rfl (by
  have e : decide (V.int i = V.int j) = decide (i = j) := by by_cases z : i = j <;> simp [z]
  rw [e]; exact h)⟩
instance {i j : Str} : Step (rEqU K (.str i) (.str j) H Q) (Q (.bl (decide (i = j))) H) := ⟨fun h => s_eqS rfl (by
  have e : decide (V.str i = V.str j) = decide (i = j) := by by_cases z : i = j <;> simp [z]
  rw [e]; exact h)⟩
instance {i j : Int} : Step (rNeU K (.int i) (.int j) H Q) (Q (.bl (!decide (i = j))) H) := ⟨fun h => s_neS rfl (by
  have e : decide (V.int i = V.int j) = decide (i = j) := by by_cases z : i = j <;> simp [z]
  rw [e]; exact h)⟩
instance {i j : Str} : Step (rNeU K (.str i) (.str j) H Q) (Q (.bl (!decide (i = j))) H) := ⟨fun h => s_neS rfl (by
  have e : decide (V.str i = V.str j) = decide (i = j) := by by_cases z : i = j <;> simp [z]
  rw [e]; exact h)⟩
instance {i j : Bool} : Step (rEqU K (.bl i) (.bl j) H Q) (Q (.bl (decide (i = j))) H) := ⟨fun h => s_eqS rfl (by
  have e : decide (V.bl i = V.bl j) = decide (i = j) := by by_cases z : i = j <;> simp [z]
  rw [e]; exact h)⟩
instance {i j : Bool} : Step (rNeU K (.bl i) (.bl j) H Q) (Q (.bl (!decide (i = j))) H) := ⟨fun h => s_neS rfl (by
  have e : decide (V.bl i = V.bl j) = decide (i = j) := by by_cases z : i = j <;> simp [z]
  rw [e]; exact h)⟩
instance {x : V} : Step (rIsNo x .non H Q) (Q (.bl (decide (x = .non))) H) := ⟨s_isNo⟩
instance {x : V} : Step (rNotNo x .non H Q) (Q (.bl (!decide (x = .non))) H) := ⟨s_notNo⟩
instance {i : Int} : Step (rStrI [.int i] H Q) (i.natAbs.log2 < 1920 ∧ Q (.str (toString i)) H) := ⟨fun h => s_strI h.1 h.2⟩
instance {i : Int} : Step (rAbsI [.int i] H Q) (Q (.int (if i < 0 then -i else i)) H) := ⟨s_absI⟩
instance {z : Str} {A : Prop} : Step (tyV K "str" (.str z) H ∧ A) A := ⟨s_tyS⟩
instance {z : Str} : Step (rLenU K [.str z] H Q) (z.length ≤ sizeLine ∧ Q (.int (z.length : Nat)) H) := ⟨fun h => s_lenS h.1 h.2⟩
instance {wi : TI} {g : TG} {t : TS} : Step (tFor wi g t ⟨nx, rt, bk, ct⟩ σ H) (wi σ H fun J H1 => ForW g t ⟨nx, rt, bk, ct⟩ J σ H1) := ⟨id⟩
instance {ta : TA} {R : It → Hp → Prop} : Step (iRng1 ta σ H R) (ta σ H fun vs H1 => ∃ j : Int, vs = [.int j] ∧ -(2 ^ 62) ≤ j ∧ j < 2 ^ 62 ∧ R (Itr 0 j.toNat) H1) := ⟨id⟩
instance {ta : TA} {R : It → Hp → Prop} : Step (iRng2 ta σ H R) (ta σ H fun vs H1 => ∃ i j : Int, vs = [.int i, .int j] ∧ (-(2 ^ 62) ≤ i ∧ i < 2 ^ 62 ∧ -(2 ^ 62) ≤ j ∧ j < 2 ^ 62) ∧ R (Itr i (j - i).toNat) H1) := ⟨id⟩
instance {j : Int} {g : TG} {t : TS} {D : Ends} : Step (∃ k : Int, [V.int j] = [V.int k] ∧ -(2 ^ 62) ≤ k ∧ k < 2 ^ 62 ∧ ForW g t D (Itr 0 k.toNat) σ H) (-(2 ^ 62) ≤ j ∧ j < 2 ^ 62 ∧ ForW g t D (Itr 0 j.toNat) σ H) := ⟨fun h => s_rng1 h.1 h.2.1 h.2.2⟩
instance {i j : Int} {g : TG} {t : TS} {D : Ends} : Step (∃ a b : Int, [V.int i, V.int j] = [V.int a, V.int b] ∧ (-(2 ^ 62) ≤ a ∧ a < 2 ^ 62 ∧ -(2 ^ 62) ≤ b ∧ b < 2 ^ 62) ∧ ForW g t D (Itr a (b - a).toNat) σ H) ((-(2 ^ 62) ≤ i ∧ i < 2 ^ 62 ∧ -(2 ^ 62) ≤ j ∧ j < 2 ^ 62) ∧ ForW g t D (Itr i (j - i).toNat) σ H) := ⟨fun h => s_rng2 h.1 h.2⟩
instance {j : Int} {g : TG} {tt : TT} {vs : List Nat} : Step (∃ k : Int, [V.int j] = [V.int k] ∧ -(2 ^ 62) ≤ k ∧ k < 2 ^ 62 ∧ LcW g tt te vs σ Q (Itr 0 k.toNat) H) (-(2 ^ 62) ≤ j ∧ j < 2 ^ 62 ∧ LcW g tt te vs σ Q (Itr 0 j.toNat) H) := ⟨fun h => s_rng1c h.1 h.2.1 h.2.2⟩
instance {i j : Int} {g : TG} {tt : TT} {vs : List Nat} : Step (∃ a b : Int, [V.int i, V.int j] = [V.int a, V.int b] ∧ (-(2 ^ 62) ≤ a ∧ a < 2 ^ 62 ∧ -(2 ^ 62) ≤ b ∧ b < 2 ^ 62) ∧ LcW g tt te vs σ Q (Itr a (b - a).toNat) H) ((-(2 ^ 62) ≤ i ∧ i < 2 ^ 62 ∧ -(2 ^ 62) ≤ j ∧ j < 2 ^ 62) ∧ LcW g tt te vs σ Q (Itr i (j - i).toNat) H) := ⟨fun h => s_rng2c h.1 h.2⟩
instance {R : It → Hp → Prop} : Step (iList K te σ H R) (te σ H fun x H1 => ∃ a, x = .ref a ∧ (∃ xs, SqL K H1 a xs) ∧ R (Itl K a) H1) := ⟨id⟩
instance {R : It → Hp → Prop} : Step (iTup K te σ H R) (te σ H fun x H1 => ∃ a, x = .ref a ∧ (∃ xs, SqT K H1 a xs) ∧ R (Itt K a) H1) := ⟨id⟩
instance {wi : TI} {g : TG} {tt : TT} {vs : List Nat} : Step (tLc wi g tt te vs σ H Q) (wi σ H (LcW g tt te vs σ Q)) := ⟨id⟩
instance : Step (tYes σ H QT) (QT true H) := ⟨id⟩
instance {A B : Prop} : Step (if true = true then A else B) A := ⟨iteT⟩
instance {A B : Prop} : Step (if false = true then A else B) B := ⟨iteF⟩
instance {A B : Prop} : Step (if (!true) = true then A else B) B := ⟨iteF⟩
instance {A B : Prop} : Step (if (!false) = true then A else B) A := ⟨iteT⟩
instance {g : TG} {tt : TT} {x : Str} {i : Nat} {J : It} : Step (LcW g tt te (List.map (fun x => x.snd) [(x, i)]) σ Q J H) (LcW g tt te [i] σ Q J H) := ⟨id⟩
instance {g : TG} {tt : TT} {x y : Str} {i j : Nat} {J : It} : Step (LcW g tt te (List.map (fun x => x.snd) [(x, i), (y, j)]) σ Q J H) (LcW g tt te [i, j] σ Q J H) := ⟨id⟩
/-- which built-in class is under which -/
class Kit (a b : String) (r : outParam Bool) : Prop where
  e : kitB a b = some r
instance : Kit "NoneType" "str" false := ⟨by decide +kernel⟩
instance : Kit "NoneType" "int" false := ⟨by decide +kernel⟩
instance : Kit "NoneType" "tuple" false := ⟨by decide +kernel⟩
instance : Kit "NoneType" "list" false := ⟨by decide +kernel⟩
instance : Kit "NoneType" "bool" false := ⟨by decide +kernel⟩
instance : Kit "NoneType" "dict" false := ⟨by decide +kernel⟩
instance : Kit "bool" "str" false := ⟨by decide +kernel⟩
instance : Kit "bool" "int" true := ⟨by decide +kernel⟩
instance : Kit "bool" "tuple" false := ⟨by decide +kernel⟩
instance : Kit "bool" "list" false := ⟨by decide +kernel⟩
instance : Kit "bool" "bool" true := ⟨by decide +kernel⟩
instance : Kit "bool" "dict" false := ⟨by decide +kernel⟩
instance : Kit "int" "str" false := ⟨by decide +kernel⟩
instance : Kit "int" "int" true := ⟨by decide +kernel⟩
instance : Kit "int" "tuple" false := ⟨by decide +kernel⟩
instance : Kit "int" "list" false := ⟨by decide +kernel⟩
instance : Kit "int" "bool" false := ⟨by decide +kernel⟩
instance : Kit "int" "dict" false := ⟨by decide +kernel⟩
instance : Kit "str" "str" true := ⟨by decide +kernel⟩
instance : Kit "str" "int" false := ⟨by decide +kernel⟩
instance : Kit "str" "tuple" false := ⟨by decide +kernel⟩
instance : Kit "str" "list" false := ⟨by decide +kernel⟩
instance : Kit "str" "bool" false := ⟨by decide +kernel⟩
instance : Kit "str" "dict" false := ⟨by decide +kernel⟩
instance : Kit "tuple" "str" false := ⟨by decide +kernel⟩
instance : Kit "tuple" "int" false := ⟨by decide +kernel⟩
instance : Kit "tuple" "tuple" true := ⟨by decide +kernel⟩
instance : Kit "tuple" "list" false := ⟨by decide +kernel⟩
instance : Kit "tuple" "bool" false := ⟨by decide +kernel⟩
instance : Kit "tuple" "dict" false := ⟨by decide +kernel⟩
instance : Kit "list" "str" false := ⟨by decide +kernel⟩
instance : Kit "list" "int" false := ⟨by decide +kernel⟩
instance : Kit "list" "tuple" false := ⟨by decide +kernel⟩
instance : Kit "list" "list" true := ⟨by decide +kernel⟩
instance : Kit "list" "bool" false := ⟨by decide +kernel⟩
instance : Kit "list" "dict" false := ⟨by decide +kernel⟩
instance : Kit "dict" "str" false := ⟨by decide +kernel⟩
instance : Kit "dict" "int" false := ⟨by decide +kernel⟩
instance : Kit "dict" "tuple" false := ⟨by decide +kernel⟩
instance : Kit "dict" "list" false := ⟨by decide +kernel⟩
instance : Kit "dict" "bool" false := ⟨by decide +kernel⟩
instance : Kit "dict" "dict" true := ⟨by decide +kernel⟩
theorem s_isiT {x : V} {a b : String} {r : Bool} [k : Kit a b r] (ty : TyOf K H x (.type a)) (h : Q (.bl r) H) : rIsi K [x, .ty b] H Q := s_isi (.ty b) (.base ty) (kit_ty k.e) h
instance {b : String} {r : Bool} [k : Kit "NoneType" b r] : Step (rIsi K [.non, .ty b] H Q) (Q (.bl r) H) := ⟨s_isiT .non⟩
instance {i : Int} {b : String} {r : Bool} [k : Kit "int" b r] : Step (rIsi K [.int i, .ty b] H Q) (Q (.bl r) H) := ⟨s_isiT (.int i)⟩
instance {i : Bool} {b : String} {r : Bool} [k : Kit "bool" b r] : Step (rIsi K [.bl i, .ty b] H Q) (Q (.bl r) H) := ⟨s_isiT (.bl i)⟩
instance {i : Str} {b : String} {r : Bool} [k : Kit "str" b r] : Step (rIsi K [.str i, .ty b] H Q) (Q (.bl r) H) := ⟨s_isiT (.str i)⟩
theorem s_isiTup {p : Addr} {xs : List V} {b : String} {r : Bool} [k : Kit "tuple" b r] (e : H p = some (.tup xs)) (h : Q (.bl r) H) : rIsi K [.ref p, .ty b] H Q := s_isiT (.tup e) h
theorem s_isiLst {p : Addr} {xs : List V} {b : String} {r : Bool} [k : Kit "list" b r] (e : H p = some (.lst xs)) (h : Q (.bl r) H) : rIsi K [.ref p, .ty b] H Q := s_isiT (.lst e) h
end
end Ol

namespace Ol
open PySem PySem.Spec PyProof.Rows L2
/-! ### more rules by names -/
/-- // and % by any divisor but nought -/
def CDivA (_ j : Int) : Prop := j ≠ 0 ∧ j.natAbs.log2 < 9000
theorem op_fdivA {X : Cx} : OpR X (binaryOp .FloorDiv) (rI CDivA fun i j => .int (i.fdiv j)) := opI fun _ _ _ _ _ _ _ hc q => floordiv_int hc.1 q (.inl (PyProof.noPylong_of_log2 hc.2))
def rDivmodA : List V → Hp → VK → Prop := fun xs H Q => ∃ i j, xs = [.int i, .int j] ∧ CDivA i j ∧ ∀ p, H p = none → Q (.ref p) (upd H p (.tup [.int (i.fdiv j), .int (i.fmod j)]))
theorem call_divmodA {X : Cx} : CallR X (.builtin "divmod") rDivmodA := by
  intro pins s σ H xs us Q I r h
  obtain ⟨i, j, rfl, ⟨h1, h2⟩, q⟩ := h
  have hn : H s.heap.objs.size = none := I.hok.fresh (Nat.le_refl _)
  cases r with
  | cons r1 r2 =>
    cases r2 with
    | cons r2 r3 =>
      cases r3
      obtain ⟨t, rfl⟩ := r1
      obtain ⟨t', rfl⟩ := r2
      refine divmod_int h1 ?_ (.inl (PyProof.noPylong_of_log2 h2))
      refine ⟨.ref s.heap.objs.size, _, ?_, rfl, q _ hn⟩
      refine I.laid (fun b o e => Heap.get?_push_of_some _ e) (Nat.le_refl _) ⟨by simp only [List.length_cons, List.length_nil]; rw [sizeLine_eq]; decide, [.int (i.fdiv j) s.toks, .int (i.fmod j) (s.toks + 1)], .cons ⟨_, rfl⟩ (.cons ⟨_, rfl⟩ .nil), ?_⟩
      exact ⟨_, Heap.get?_push_size s.heap rfl, rfl, 0, rfl⟩
/-- a text times a number -/
def repS (x : Str) (n : Nat) : Str := ⟨(List.replicate n x.cps).foldl (· ++ ·) #[]⟩
theorem rep_size (a : Array Nat) : ∀ (n : Nat) (b : Array Nat), ((List.replicate n a).foldl (· ++ ·) b).size = b.size + n * a.size
  | 0, b => by simp
  | n + 1, b => by
    rw [List.replicate_succ, List.foldl_cons, rep_size a n, Array.size_append, Nat.succ_mul]
    omega
theorem repS_len (z : Str) (n : Nat) : (repS z n).length = n * z.length := by
  have h := rep_size z.cps n #[]
  show ((List.replicate n z.cps).foldl (· ++ ·) #[]).size = n * z.cps.size
  rw [h]
  simp
def rMulS : R2 := fun x y H Q => ∃ z n, x = .str z ∧ y = .int n ∧ 2 ≤ n ∧ 0 < z.length ∧ z.length * n.toNat ≤ 1000000 ∧ Q (.str (repS z n.toNat)) H
theorem op_mulS {X : Cx} : OpR X (binaryOp .Mult) rMulS := by
  intro pins s σ H x y v u Q I rx ry h
  obtain ⟨z, n, rfl, rfl, h2, hz, hl, q⟩ := h
  obtain ⟨t, rfl⟩ := rx
  obtain ⟨t2, rfl⟩ := ry
  have hn : n ≤ 1000000 := by
    have h3 : 1 * n.toNat ≤ z.length * n.toNat := Nat.mul_le_mul_right _ hz
    omega
  have hm : (z.length : Int) ≤ 1000000 := by
    have h3 : z.length * 1 ≤ z.length * n.toNat := Nat.mul_le_mul_left _ (by omega)
    omega
  refine PySem.P.mul_str (by
      have a1 : ¬ n < -(2 ^ 63 : Int) := by omega
      have a2 : ¬ n ≥ (2 ^ 63 : Int) := by omega
      rw [decide_eq_false a1, decide_eq_false a2]; rfl) (fun _ _ => ?_) (fun _ _ => ?_) ?_
  · have h5 : (2 ^ 63 - 1 : Int) / n ≥ 1000001 := by
      refine (Int.le_ediv_iff_mul_le (by omega)).mpr ?_
      omega
    omega
  · have h6 : ¬ z.length * n.toNat > 16777216 := by omega
    exact decide_eq_false (show ¬ z.length * n.toNat > sizeLine by rw [sizeLine_eq]; omega)
  · rw [if_neg (show ¬ n < 1 by omega), if_neg (by
      have h7 : (n == 1) = false := by
        rw [beq_eq_false_iff_ne]; omega
      have h8 : (z.length == 0) = false := by
        rw [beq_eq_false_iff_ne]; omega
      rw [h7, h8]; exact Bool.false_ne_true)]
    refine ⟨?_, .str _, H, I.tok _, ⟨_, rfl⟩, q⟩
    have h9 := repS_len z n.toNat
    rw [Nat.mul_comm] at h9
    show (repS z n.toNat).length ≤ 16777216
    omega
def rMulU : R2 := rOr (rI CMulW fun i j => .int (i * j)) (rOr rMulS rRep)
theorem op_mulU {X : Cx} : OpR X (binaryOp .Mult) rMulU := op_or2 op_mulW (op_or2 op_mulS op_rep)
def rStrU : List V → Hp → VK → Prop := fun xs H Q => rStrI xs H Q ∨ ∃ a, xs = [.str a] ∧ Q (.str a) H
theorem call_strU {X : Cx} : CallR X (.type "str") rStrU := call_or2 call_strI SkE.call_str_str
def rIntU : List V → Hp → VK → Prop := fun xs H Q => ((∃ i, xs = [.int i] ∧ Q (.int i) H) ∨ ∃ k, xs = [.bl k] ∧ Q (.int (if k then 1 else 0)) H) ∨ ∃ a n, xs = [.str a] ∧ PySem.intText? a = some n ∧ a.length ≤ 640 ∧ Q (.int n) H
theorem call_intU {X : Cx} : CallR X (.type "int") rIntU := call_or2 call_int1 call_int_str
def rMax2 : List V → Hp → VK → Prop := fun xs H Q => ∃ i j, xs = [.int i, .int j] ∧ Q (.int (if j > i then j else i)) H
def rMin2 : List V → Hp → VK → Prop := fun xs H Q => ∃ i j, xs = [.int i, .int j] ∧ Q (.int (if j < i then j else i)) H
theorem call_maxP {X : Cx} (hc : X.calm = true := by rfl) : CallR X (.builtin "max") rMax2 := call_max2 hc
theorem call_minP {X : Cx} (hc : X.calm = true := by rfl) : CallR X (.builtin "min") rMin2 := call_min2 hc
theorem call_maxL {X : Cx} {K : PySem.W.Frag} (hc : X.calm = true := by rfl) (hK : X.K = K := by rfl) : CallR X (.builtin "max") (rMax K) := hK ▸ cr_max hc
theorem call_minL {X : Cx} {K : PySem.W.Frag} (hc : X.calm = true := by rfl) (hK : X.K = K := by rfl) : CallR X (.builtin "min") (rMin K) := hK ▸ cr_min hc
theorem call_sumL {X : Cx} {K : PySem.W.Frag} (hc : X.calm = true := by rfl) (hK : X.K = K := by rfl) : CallR X (.builtin "sum") (rSum K) := hK ▸ cr_sum hc
theorem call_sortedL {X : Cx} {K : PySem.W.Frag} (hK : X.K = K := by rfl) : CallR X (.builtin "sorted") (rSortedI K) := hK ▸ cr_sortedI
def rListOf (K : PySem.W.Frag) : List V → Hp → VK → Prop := fun xs H Q => ∃ p ys, xs = [.ref p] ∧ (SqL K H p ys ∨ SqT K H p ys) ∧ ∀ l, H l = none → Q (.ref l) (upd H l (.lst ys))
theorem call_listL {X : Cx} {K : PySem.W.Frag} (hK : X.K = K := by rfl) : CallR X (.type "list") (rListOf K) := hK ▸ call_list_of
def rLtU : R2 := rOr (rI0 fun i j => .bl (decide (i < j))) fun x y H Q => ∃ i j, x = .str i ∧ y = .str j ∧ Q (.bl (decide (i.cps.toList < j.cps.toList))) H
theorem op_ltU {X : Cx} : OpR X (compareOp .Lt) rLtU := op_or2 op_lt op_lt_str
section
variable {K : PySem.W.Frag} {σ : L2.St} {H H' : Hp} {Q : VK}
instance {i j : Int} : Step (rMulU (.int i) (.int j) H Q) (CMulW i j ∧ Q (.int (i * j)) H) := ⟨fun h => .inl ⟨i, j, rfl, rfl, h.1, h.2⟩⟩
instance {z : Str} {n : Int} : Step (rMulU (.str z) (.int n) H Q) ((2 ≤ n ∧ 0 < z.length ∧ z.length * n.toNat ≤ 1000000) ∧ Q (.str (repS z n.toNat)) H) := ⟨fun h => .inr (.inl ⟨z, n, rfl, rfl, h.1.1, h.1.2.1, h.1.2.2, h.2⟩)⟩
theorem s_mulL {p : Addr} {xs : List V} {k : Int} (h : H p = some (.lst xs)) (e : -(2 ^ 63) ≤ k ∧ k < 2 ^ 63 ∧ xs.length * k.toNat ≤ sizeLine) (q : ∀ p, H p = none → Q (.ref p) (upd H p (.lst (List.replicate k.toNat xs).flatten))) : rMulU (.ref p) (.int k) H Q :=
  .inr (.inr ⟨p, k, xs, rfl, rfl, h, e.1, e.2.1, e.2.2, q⟩)
instance {i : Int} : Step (rStrU [.int i] H Q) (i.natAbs.log2 < 1920 ∧ Q (.str (toString i)) H) := ⟨fun h => .inl (s_strI h.1 h.2)⟩
instance {z : Str} : Step (rStrU [.str z] H Q) (Q (.str z) H) := ⟨fun h => .inr ⟨z, rfl, h⟩⟩
instance {i : Int} : Step (rIntU [.int i] H Q) (Q (.int i) H) := ⟨fun h => .inl (.inl ⟨i, rfl, h⟩)⟩
instance {k : Bool} : Step (rIntU [.bl k] H Q) (Q (.int (if k then 1 else 0)) H) := ⟨fun h => .inl (.inr ⟨k, rfl, h⟩)⟩
theorem s_intS {a : Str} {n : Int} (e : PySem.intText? a = some n) (l : a.length ≤ 640) (h : Q (.int n) H) : rIntU [.str a] H Q := .inr ⟨a, n, rfl, e, l, h⟩
instance {i j : Int} : Step (rDivmodA [.int i, .int j] H Q) (CDivA i j ∧ ∀ p, H p = none → Q (.ref p) (upd H p (.tup [.int (i.fdiv j), .int (i.fmod j)]))) := ⟨fun h => ⟨i, j, rfl, h.1, h.2⟩⟩
instance {i j : Int} : Step (rMax2 [.int i, .int j] H Q) (Q (.int (if j > i then j else i)) H) := ⟨fun h => ⟨i, j, rfl, h⟩⟩
instance {i j : Int} : Step (rMin2 [.int i, .int j] H Q) (Q (.int (if j < i then j else i)) H) := ⟨fun h => ⟨i, j, rfl, h⟩⟩
instance {i j : Int} : Step (rLtU (.int i) (.int j) H Q) (Q (.bl (decide (i < j))) H) := ⟨fun h => .inl ⟨i, j, rfl, rfl, h⟩⟩
instance {i j : Str} : Step (rLtU (.str i) (.str j) H Q) (Q (.bl (decide (i.cps.toList < j.cps.toList))) H) := ⟨fun h => .inr ⟨i, j, rfl, rfl, h⟩⟩
theorem s_listL {p : Addr} {xs : List V} (h : SqL K H p xs) (q : ∀ l, H l = none → Q (.ref l) (upd H l (.lst xs))) : rListOf K [.ref p] H Q := ⟨p, xs, rfl, .inl h, q⟩
theorem s_listT {p : Addr} {xs : List V} (h : SqT K H p xs) (q : ∀ l, H l = none → Q (.ref l) (upd H l (.lst xs))) : rListOf K [.ref p] H Q := ⟨p, xs, rfl, .inr h, q⟩
theorem s_sumL {p : Addr} {ns : List Int} (h : SqL K H p (ns.map V.int)) (q : Q (.int ns.sum) H) : rSum K [.ref p] H Q := ⟨p, ns, rfl, h, q⟩
theorem s_sortedL {p : Addr} {ns : List Int} (h : SqL K H p (ns.map V.int)) (q : ∀ (ns' : List Int) (p : Addr), ns'.Perm ns → ns'.Pairwise (· ≤ ·) → H p = none → Q (.ref p) (upd H p (.lst (ns'.map V.int)))) : rSortedI K [.ref p] H Q := ⟨p, ns, rfl, h, q⟩
theorem s_minL {p : Addr} {ns : List Int} (h : SqL K H p (ns.map V.int)) (l : 0 < ns.length) (q : ∀ m, m ∈ ns → (∀ y, y ∈ ns → m ≤ y) → Q (.int m) H) : rMin K [.ref p] H Q := ⟨p, ns, rfl, h, l, q⟩
theorem s_maxL {p : Addr} {ns : List Int} (h : SqL K H p (ns.map V.int)) (l : 0 < ns.length) (q : ∀ m, m ∈ ns → (∀ y, y ∈ ns → y ≤ m) → Q (.int m) H) : rMax K [.ref p] H Q := ⟨p, ns, rfl, h, l, q⟩
/-! slices -/
instance {r : V → Option Int → Option Int → Hp → VK → Prop} {te : TE} {tl th : TO} : Step (tSl r te tl th σ H Q) (te σ H fun x H1 => tl σ H1 fun l H2 => th σ H2 fun u H3 => r x l u H3 Q) := ⟨id⟩
instance {R : Option Int → Hp → Prop} : Step (tNoPart σ H R) (R none H) := ⟨id⟩
instance {t : TE} {R : Option Int → Hp → Prop} : Step (tPart t σ H R) (t σ H fun x H1 => ∃ i, x = .int i ∧ R (some i) H1) := ⟨id⟩
instance {i : Int} {F : Int → Prop} : Step (∃ j, V.int i = .int j ∧ F j) (F i) := ⟨fun h => ⟨i, rfl, h⟩⟩
instance {z : Str} {lo hi : Option Int} : Step (rSlS (.str z) lo hi H Q) (z.length ≤ sizeLine ∧ Q (.str (cutS z lo hi)) H) := ⟨fun h => ⟨z, rfl, h.1, h.2⟩⟩
theorem s_slL {p : Addr} {xs : List V} {lo hi : Option Int} (h : SqL K H p xs) (q : ∀ p, H p = none → Q (.ref p) (upd H p (.lst (cutV xs lo hi)))) : rSlL K (.ref p) lo hi H Q := ⟨p, xs, rfl, h, q⟩
/-! truth -/
instance {b : Bool} {F : Bool → Prop} : Step (∃ k, TruV K (.bl b) H k ∧ F k) (F b) := ⟨fun h => ⟨b, rfl, h⟩⟩
instance {F : Bool → Prop} : Step (∃ k, TruV K .non H k ∧ F k) (F false) := ⟨fun h => ⟨false, rfl, h⟩⟩
/-! in, not in -/
theorem s_inL {neg : Bool} {p : Addr} {xs : List V} {x : V} (h : SqL K H p xs) (hx : flatV x = true) (ha : xs.all flatV = true) (q : Q (.bl (if neg then !inV x xs else inV x xs)) H) : rIn K neg x (.ref p) H Q := ⟨p, xs, rfl, .inl h, hx, ha, q⟩
theorem s_inT {neg : Bool} {p : Addr} {xs : List V} {x : V} (h : SqT K H p xs) (hx : flatV x = true) (ha : xs.all flatV = true) (q : Q (.bl (if neg then !inV x xs else inV x xs)) H) : rIn K neg x (.ref p) H Q := ⟨p, xs, rfl, .inr h, hx, ha, q⟩
/-! what kind a sequence is, wherever it stands -/
theorem ty_sqT {p : Addr} {xs : List V} (h : SqT K H p xs) : TyX K H (.ref p) (.type "tuple") := by
  rcases h with (h | ⟨o, h⟩) | ⟨o, _, _, h, c, _⟩
  · exact .base (.tup h)
  · exact .fTuple h
  · exact .kTuple h c
theorem ty_sqL {p : Addr} {xs : List V} (h : SqL K H p xs) : TyX K H (.ref p) (.type "list") := by
  rcases h with (h | ⟨o, h⟩) | ⟨o, _, _, h, c, _⟩
  · exact .base (.lst h)
  · exact .base (.frz h)
  · exact .kList h c
theorem s_isiSqT {p : Addr} {xs : List V} {b : String} {r : Bool} [k : Kit "tuple" b r] (e : SqT K H p xs) (h : Q (.bl r) H) : rIsi K [.ref p, .ty b] H Q := s_isi (.ty b) (ty_sqT e) (kit_ty k.e) h
theorem s_isiSqL {p : Addr} {xs : List V} {b : String} {r : Bool} [k : Kit "list" b r] (e : SqL K H p xs) (h : Q (.bl r) H) : rIsi K [.ref p, .ty b] H Q := s_isi (.ty b) (ty_sqL e) (kit_ty k.e) h
/-! ### exceptions -/
end
end Ol

namespace Ol
open PySem PySem.Spec PyProof.Rows L2
/-! ### the text by places -/
def top (i : Nat) : Stmt := PySem.Challenge.pw_onelook_k15_worths_of_one_and_two.main.body.getD i (.Pass ⟨0, 0, 0, 0⟩)
abbrev s_fault : Stmt := top 3
abbrev N_fault : List Str := ["word"]
theorem st_fault (a0 : V) : L2.start N_fault [a0] = [some a0] := rfl
theorem sc_fault : FnScope N_fault ["word"] (defScope s_fault) := ⟨rfl, rfl, rfl, by decide +kernel, rfl, by decide +kernel, by decide +kernel⟩
abbrev s_is_fault : Stmt := top 4
abbrev N_is_fault : List Str := ["worth"]
theorem st_is_fault (a0 : V) : L2.start N_is_fault [a0] = [some a0] := rfl
theorem sc_is_fault : FnScope N_is_fault ["worth"] (defScope s_is_fault) := ⟨rfl, rfl, rfl, by decide +kernel, rfl, by decide +kernel, by decide +kernel⟩
abbrev s_is_text : Stmt := top 5
abbrev N_is_text : List Str := ["worth"]
theorem st_is_text (a0 : V) : L2.start N_is_text [a0] = [some a0] := rfl
theorem sc_is_text : FnScope N_is_text ["worth"] (defScope s_is_text) := ⟨rfl, rfl, rfl, by decide +kernel, rfl, by decide +kernel, by decide +kernel⟩
abbrev s_held_number : Stmt := top 6
abbrev N_held_number : List Str := ["number"]
theorem st_held_number (a0 : V) : L2.start N_held_number [a0] = [some a0] := rfl
theorem sc_held_number : FnScope N_held_number ["number"] (defScope s_held_number) := ⟨rfl, rfl, rfl, by decide +kernel, rfl, by decide +kernel, by decide +kernel⟩
abbrev s_as_number : Stmt := top 7
abbrev N_as_number : List Str := ["worth"]
theorem st_as_number (a0 : V) : L2.start N_as_number [a0] = [some a0] := rfl
theorem sc_as_number : FnScope N_as_number ["worth"] (defScope s_as_number) := ⟨rfl, rfl, rfl, by decide +kernel, rfl, by decide +kernel, by decide +kernel⟩
abbrev s_as_text : Stmt := top 8
abbrev N_as_text : List Str := ["worth"]
theorem st_as_text (a0 : V) : L2.start N_as_text [a0] = [some a0] := rfl
theorem sc_as_text : FnScope N_as_text ["worth"] (defScope s_as_text) := ⟨rfl, rfl, rfl, by decide +kernel, rfl, by decide +kernel, by decide +kernel⟩
abbrev s_single : Stmt := top 9
abbrev N_single : List Str := ["word", "one"]
theorem st_single (a0 a1 : V) : L2.start N_single [a0, a1] = [some a0, some a1] := rfl
theorem sc_single : FnScope N_single ["word", "one"] (defScope s_single) := ⟨rfl, rfl, rfl, by decide +kernel, rfl, by decide +kernel, by decide +kernel⟩
abbrev s_divided : Stmt := top 10
abbrev N_divided : List Str := ["op", "one", "other"]
theorem st_divided (a0 a1 a2 : V) : L2.start N_divided [a0, a1, a2] = [some a0, some a1, some a2] := rfl
theorem sc_divided : FnScope N_divided ["op", "one", "other"] (defScope s_divided) := ⟨rfl, rfl, rfl, by decide +kernel, rfl, by decide +kernel, by decide +kernel⟩
abbrev s_reckoned : Stmt := top 11
abbrev N_reckoned : List Str := ["op", "one", "other"]
theorem st_reckoned (a0 a1 a2 : V) : L2.start N_reckoned [a0, a1, a2] = [some a0, some a1, some a2] := rfl
theorem sc_reckoned : FnScope N_reckoned ["op", "one", "other"] (defScope s_reckoned) := ⟨rfl, rfl, rfl, by decide +kernel, rfl, by decide +kernel, by decide +kernel⟩
abbrev s_joined : Stmt := top 12
abbrev N_joined : List Str := ["one", "other", "text"]
theorem st_joined (a0 a1 : V) : L2.start N_joined [a0, a1] = [some a0, some a1, none] := rfl
theorem sc_joined : FnScope N_joined ["one", "other"] (defScope s_joined) := ⟨rfl, rfl, rfl, by decide +kernel, rfl, by decide +kernel, by decide +kernel⟩
abbrev s_same_worth : Stmt := top 13
abbrev N_same_worth : List Str := ["one", "other"]
theorem st_same_worth (a0 a1 : V) : L2.start N_same_worth [a0, a1] = [some a0, some a1] := rfl
theorem sc_same_worth : FnScope N_same_worth ["one", "other"] (defScope s_same_worth) := ⟨rfl, rfl, rfl, by decide +kernel, rfl, by decide +kernel, by decide +kernel⟩
abbrev s_ahead_of : Stmt := top 14
abbrev N_ahead_of : List Str := ["one", "other"]
theorem st_ahead_of (a0 a1 : V) : L2.start N_ahead_of [a0, a1] = [some a0, some a1] := rfl
theorem sc_ahead_of : FnScope N_ahead_of ["one", "other"] (defScope s_ahead_of) := ⟨rfl, rfl, rfl, by decide +kernel, rfl, by decide +kernel, by decide +kernel⟩
abbrev s_paired : Stmt := top 15
abbrev N_paired : List Str := ["op", "one", "other"]
theorem st_paired (a0 a1 a2 : V) : L2.start N_paired [a0, a1, a2] = [some a0, some a1, some a2] := rfl
theorem sc_paired : FnScope N_paired ["op", "one", "other"] (defScope s_paired) := ⟨rfl, rfl, rfl, by decide +kernel, rfl, by decide +kernel, by decide +kernel⟩
abbrev s__law_cell_at : Stmt := top 17
abbrev N__law_cell_at : List Str := ["script", "k"]
theorem st__law_cell_at (a0 a1 : V) : L2.start N__law_cell_at [a0, a1] = [some a0, some a1] := rfl
theorem sc__law_cell_at : FnScope N__law_cell_at ["script", "k"] (defScope s__law_cell_at) := ⟨rfl, rfl, rfl, by decide +kernel, rfl, by decide +kernel, by decide +kernel⟩
abbrev s__law_mixed : Stmt := top 18
abbrev N__law_mixed : List Str := ["cell", "k", "stir"]
theorem st__law_mixed (a0 a1 : V) : L2.start N__law_mixed [a0, a1] = [some a0, some a1, none] := rfl
theorem sc__law_mixed : FnScope N__law_mixed ["cell", "k"] (defScope s__law_mixed) := ⟨rfl, rfl, rfl, by decide +kernel, rfl, by decide +kernel, by decide +kernel⟩
abbrev s__law_stream : Stmt := top 19
abbrev N__law_stream : List Str := ["script", "k", "cell", "j", "found", "drawn"]
theorem st__law_stream (a0 a1 : V) : L2.start N__law_stream [a0, a1] = [some a0, some a1, none, none, none, none] := rfl
theorem sc__law_stream : FnScope N__law_stream ["script", "k"] (defScope s__law_stream) := ⟨rfl, rfl, rfl, by decide +kernel, rfl, by decide +kernel, by decide +kernel⟩
abbrev s__law_digit : Stmt := top 20
abbrev N__law_digit : List Str := ["row", "many", "digit"]
theorem st__law_digit (a0 a1 : V) : L2.start N__law_digit [a0, a1] = [some a0, some a1, none] := rfl
theorem sc__law_digit : FnScope N__law_digit ["row", "many"] (defScope s__law_digit) := ⟨rfl, rfl, rfl, by decide +kernel, rfl, by decide +kernel, by decide +kernel⟩
abbrev s__law_worth : Stmt := top 21
abbrev N__law_worth : List Str := ["row", "way"]
theorem st__law_worth (a0 : V) : L2.start N__law_worth [a0] = [some a0, none] := rfl
theorem sc__law_worth : FnScope N__law_worth ["row"] (defScope s__law_worth) := ⟨rfl, rfl, rfl, by decide +kernel, rfl, by decide +kernel, by decide +kernel⟩
abbrev s__law_same : Stmt := top 22
abbrev N__law_same : List Str := ["one", "other"]
theorem st__law_same (a0 a1 : V) : L2.start N__law_same [a0, a1] = [some a0, some a1] := rfl
theorem sc__law_same : FnScope N__law_same ["one", "other"] (defScope s__law_same) := ⟨rfl, rfl, rfl, by decide +kernel, rfl, by decide +kernel, by decide +kernel⟩
abbrev s__law_number : Stmt := top 23
abbrev N__law_number : List Str := ["worth"]
theorem st__law_number (a0 : V) : L2.start N__law_number [a0] = [some a0] := rfl
theorem sc__law_number : FnScope N__law_number ["worth"] (defScope s__law_number) := ⟨rfl, rfl, rfl, by decide +kernel, rfl, by decide +kernel, by decide +kernel⟩
abbrev s__law_held : Stmt := top 24
abbrev N__law_held : List Str := ["number"]
theorem st__law_held (a0 : V) : L2.start N__law_held [a0] = [some a0] := rfl
theorem sc__law_held : FnScope N__law_held ["number"] (defScope s__law_held) := ⟨rfl, rfl, rfl, by decide +kernel, rfl, by decide +kernel, by decide +kernel⟩
abbrev s__law_text : Stmt := top 25
abbrev N__law_text : List Str := ["worth"]
theorem st__law_text (a0 : V) : L2.start N__law_text [a0] = [some a0] := rfl
theorem sc__law_text : FnScope N__law_text ["worth"] (defScope s__law_text) := ⟨rfl, rfl, rfl, by decide +kernel, rfl, by decide +kernel, by decide +kernel⟩
abbrev s__law_joined : Stmt := top 26
abbrev N__law_joined : List Str := ["one", "other", "text"]
theorem st__law_joined (a0 a1 : V) : L2.start N__law_joined [a0, a1] = [some a0, some a1, none] := rfl
theorem sc__law_joined : FnScope N__law_joined ["one", "other"] (defScope s__law_joined) := ⟨rfl, rfl, rfl, by decide +kernel, rfl, by decide +kernel, by decide +kernel⟩
abbrev s__law_alike : Stmt := top 27
abbrev N__law_alike : List Str := ["one", "other"]
theorem st__law_alike (a0 a1 : V) : L2.start N__law_alike [a0, a1] = [some a0, some a1] := rfl
theorem sc__law_alike : FnScope N__law_alike ["one", "other"] (defScope s__law_alike) := ⟨rfl, rfl, rfl, by decide +kernel, rfl, by decide +kernel, by decide +kernel⟩
abbrev s__law_less : Stmt := top 28
abbrev N__law_less : List Str := ["one", "other"]
theorem st__law_less (a0 a1 : V) : L2.start N__law_less [a0, a1] = [some a0, some a1] := rfl
theorem sc__law_less : FnScope N__law_less ["one", "other"] (defScope s__law_less) := ⟨rfl, rfl, rfl, by decide +kernel, rfl, by decide +kernel, by decide +kernel⟩
abbrev s__law_parted : Stmt := top 29
abbrev N__law_parted : List Str := ["op", "one", "other", "quotient", "left"]
theorem st__law_parted (a0 a1 a2 : V) : L2.start N__law_parted [a0, a1, a2] = [some a0, some a1, some a2, none, none] := rfl
theorem sc__law_parted : FnScope N__law_parted ["op", "one", "other"] (defScope s__law_parted) := ⟨rfl, rfl, rfl, by decide +kernel, rfl, by decide +kernel, by decide +kernel⟩
abbrev s__law_paired : Stmt := top 30
abbrev N__law_paired : List Str := ["op", "one", "other"]
theorem st__law_paired (a0 a1 a2 : V) : L2.start N__law_paired [a0, a1, a2] = [some a0, some a1, some a2] := rfl
theorem sc__law_paired : FnScope N__law_paired ["op", "one", "other"] (defScope s__law_paired) := ⟨rfl, rfl, rfl, by decide +kernel, rfl, by decide +kernel, by decide +kernel⟩
abbrev s__law_single : Stmt := top 31
abbrev N__law_single : List Str := ["word", "one"]
theorem st__law_single (a0 a1 : V) : L2.start N__law_single [a0, a1] = [some a0, some a1] := rfl
theorem sc__law_single : FnScope N__law_single ["word", "one"] (defScope s__law_single) := ⟨rfl, rfl, rfl, by decide +kernel, rfl, by decide +kernel, by decide +kernel⟩
abbrev s_law : Stmt := top 32
abbrev N_law : List Str := ["script", "cell", "row", "one", "other", "a", "b", "op", "word"]
theorem st_law (a0 : V) : L2.start N_law [a0] = [some a0, none, none, none, none, none, none, none, none] := rfl
theorem sc_law : FnScope N_law ["script"] (defScope s_law) := ⟨rfl, rfl, rfl, by decide +kernel, rfl, by decide +kernel, by decide +kernel⟩
@[simp] theorem ll_0 : (Str.ofString "fault").length = 5 := by decide +kernel
@[simp] theorem ll_1 : (Str.ofString "great").length = 5 := by decide +kernel
@[simp] theorem ll_2 : (Str.ofString "").length = 0 := by decide +kernel
@[simp] theorem ll_3 : (Str.ofString "minus").length = 5 := by decide +kernel
@[simp] theorem ll_4 : (Str.ofString "kind").length = 4 := by decide +kernel
@[simp] theorem ll_5 : (Str.ofString "/").length = 1 := by decide +kernel
@[simp] theorem ll_6 : (Str.ofString "nought").length = 6 := by decide +kernel
@[simp] theorem ll_7 : (Str.ofString "+").length = 1 := by decide +kernel
@[simp] theorem ll_8 : (Str.ofString "-").length = 1 := by decide +kernel
@[simp] theorem ll_9 : (Str.ofString "*").length = 1 := by decide +kernel
@[simp] theorem ll_10 : (Str.ofString "&").length = 1 := by decide +kernel
@[simp] theorem ll_11 : (Str.ofString "=").length = 1 := by decide +kernel
@[simp] theorem ll_12 : (Str.ofString "<").length = 1 := by decide +kernel
@[simp] theorem ll_13 : (Str.ofString "a").length = 1 := by decide +kernel
@[simp] theorem ll_14 : (Str.ofString "b7").length = 2 := by decide +kernel
@[simp] theorem ll_15 : (Str.ofString "no").length = 2 := by decide +kernel
@[simp] theorem ll_16 : (Str.ofString "-1").length = 2 := by decide +kernel
@[simp] theorem ll_17 : (Str.ofString "none").length = 4 := by decide +kernel
@[simp] theorem ll_18 : (Str.ofString "lost").length = 4 := by decide +kernel
@[simp] theorem ll_19 : (Str.ofString "rest").length = 4 := by decide +kernel
@[simp] theorem ll_20 : (Str.ofString "not").length = 3 := by decide +kernel
/-! ### the facts of the top -/
def d_fault : He.DefD := ⟨("fault", none), "fault", "fault", defArgs s_fault, defBody s_fault, defScope s_fault, [], []⟩
def d_is_fault : He.DefD := ⟨("is_fault", none), "is_fault", "is_fault", defArgs s_is_fault, defBody s_is_fault, defScope s_is_fault, [], []⟩
def d_is_text : He.DefD := ⟨("is_text", none), "is_text", "is_text", defArgs s_is_text, defBody s_is_text, defScope s_is_text, [], []⟩
def d_held_number : He.DefD := ⟨("held_number", none), "held_number", "held_number", defArgs s_held_number, defBody s_held_number, defScope s_held_number, [], []⟩
def d_as_number : He.DefD := ⟨("as_number", none), "as_number", "as_number", defArgs s_as_number, defBody s_as_number, defScope s_as_number, [], []⟩
def d_as_text : He.DefD := ⟨("as_text", none), "as_text", "as_text", defArgs s_as_text, defBody s_as_text, defScope s_as_text, [], []⟩
def d_single : He.DefD := ⟨("single", none), "single", "single", defArgs s_single, defBody s_single, defScope s_single, [], []⟩
def d_divided : He.DefD := ⟨("divided", none), "divided", "divided", defArgs s_divided, defBody s_divided, defScope s_divided, [], []⟩
def d_reckoned : He.DefD := ⟨("reckoned", none), "reckoned", "reckoned", defArgs s_reckoned, defBody s_reckoned, defScope s_reckoned, [], []⟩
def d_joined : He.DefD := ⟨("joined", none), "joined", "joined", defArgs s_joined, defBody s_joined, defScope s_joined, [], []⟩
def d_same_worth : He.DefD := ⟨("same_worth", none), "same_worth", "same_worth", defArgs s_same_worth, defBody s_same_worth, defScope s_same_worth, [], []⟩
def d_ahead_of : He.DefD := ⟨("ahead_of", none), "ahead_of", "ahead_of", defArgs s_ahead_of, defBody s_ahead_of, defScope s_ahead_of, [], []⟩
def d_paired : He.DefD := ⟨("paired", none), "paired", "paired", defArgs s_paired, defBody s_paired, defScope s_paired, [], []⟩
def d__law_cell_at : He.DefD := ⟨("_law_cell_at", none), "_law_cell_at", "_law_cell_at", defArgs s__law_cell_at, defBody s__law_cell_at, defScope s__law_cell_at, [], []⟩
def d__law_mixed : He.DefD := ⟨("_law_mixed", none), "_law_mixed", "_law_mixed", defArgs s__law_mixed, defBody s__law_mixed, defScope s__law_mixed, [], []⟩
def d__law_stream : He.DefD := ⟨("_law_stream", none), "_law_stream", "_law_stream", defArgs s__law_stream, defBody s__law_stream, defScope s__law_stream, [], []⟩
def d__law_digit : He.DefD := ⟨("_law_digit", none), "_law_digit", "_law_digit", defArgs s__law_digit, defBody s__law_digit, defScope s__law_digit, [], []⟩
def d__law_worth : He.DefD := ⟨("_law_worth", none), "_law_worth", "_law_worth", defArgs s__law_worth, defBody s__law_worth, defScope s__law_worth, [], []⟩
def d__law_same : He.DefD := ⟨("_law_same", none), "_law_same", "_law_same", defArgs s__law_same, defBody s__law_same, defScope s__law_same, [], []⟩
def d__law_number : He.DefD := ⟨("_law_number", none), "_law_number", "_law_number", defArgs s__law_number, defBody s__law_number, defScope s__law_number, [], []⟩
def d__law_held : He.DefD := ⟨("_law_held", none), "_law_held", "_law_held", defArgs s__law_held, defBody s__law_held, defScope s__law_held, [], []⟩
def d__law_text : He.DefD := ⟨("_law_text", none), "_law_text", "_law_text", defArgs s__law_text, defBody s__law_text, defScope s__law_text, [], []⟩
def d__law_joined : He.DefD := ⟨("_law_joined", none), "_law_joined", "_law_joined", defArgs s__law_joined, defBody s__law_joined, defScope s__law_joined, [], []⟩
def d__law_alike : He.DefD := ⟨("_law_alike", none), "_law_alike", "_law_alike", defArgs s__law_alike, defBody s__law_alike, defScope s__law_alike, [], []⟩
def d__law_less : He.DefD := ⟨("_law_less", none), "_law_less", "_law_less", defArgs s__law_less, defBody s__law_less, defScope s__law_less, [], []⟩
def d__law_parted : He.DefD := ⟨("_law_parted", none), "_law_parted", "_law_parted", defArgs s__law_parted, defBody s__law_parted, defScope s__law_parted, [], []⟩
def d__law_paired : He.DefD := ⟨("_law_paired", none), "_law_paired", "_law_paired", defArgs s__law_paired, defBody s__law_paired, defScope s__law_paired, [], []⟩
def d__law_single : He.DefD := ⟨("_law_single", none), "_law_single", "_law_single", defArgs s__law_single, defBody s__law_single, defScope s__law_single, [], []⟩
def d_law : He.DefD := ⟨("law", none), "law", "law", defArgs s_law, defBody s_law, defScope s_law, [], []⟩
def fn : List He.DefD := [d_fault, d_is_fault, d_is_text, d_held_number, d_as_number, d_as_text, d_single, d_divided, d_reckoned, d_joined, d_same_worth, d_ahead_of, d_paired, d__law_cell_at, d__law_mixed, d__law_stream, d__law_digit, d__law_worth, d__law_same, d__law_number, d__law_held, d__law_text, d__law_joined, d__law_alike, d__law_less, d__law_parted, d__law_paired, d__law_single, d_law]
def fa0 : List He.Fa := [.glo "fault", .glo "is_fault", .glo "is_text", .glo "held_number", .glo "as_number", .glo "as_text", .glo "single", .glo "divided", .glo "reckoned", .glo "joined", .glo "same_worth", .glo "ahead_of", .glo "paired", .glo "_law_cell_at", .glo "_law_mixed", .glo "_law_stream", .glo "_law_digit", .glo "_law_worth", .glo "_law_same", .glo "_law_number", .glo "_law_held", .glo "_law_text", .glo "_law_joined", .glo "_law_alike", .glo "_law_less", .glo "_law_parted", .glo "_law_paired", .glo "_law_single", .glo "law", .free "abs"]
def fa30 : List He.Fa := [.free "bool", .free "divmod", .free "int", .free "isinstance", .free "len", .free "range", .free "str", .free "sum", .free "tuple", .int "MOST_NUMBER" (1000000000000000000000000000000000000000000000000000000000000), .int "MOST_SIGNS" (200)]
def fa : List He.Fa := fa0 ++ fa30
def exs0 : List (PySem.W.Frag → Bool) := []
def exs : List (PySem.W.Frag → Bool) := exs0
def ex (K : PySem.W.Frag) : Bool := exs.all fun f => f K
theorem ex_at {K : PySem.W.Frag} {f : PySem.W.Frag → Bool} (h : ex K = true) (i : Nat) (e : exs[i]? = some f) : f K = true := List.all_eq_true.mp h f (List.mem_of_getElem? e)
structure Txt (K : PySem.W.Frag) (mg : Str → Option Value) : Prop where
  g_fault : mg "fault" = some (.ref (He.ga K "fault"))
  f_fault : ∃ fd, FunD K "fault" "fault" (defArgs s_fault) (defBody s_fault) (defScope s_fault) [] [] (He.ga K "fault") fd
  g_is_fault : mg "is_fault" = some (.ref (He.ga K "is_fault"))
  f_is_fault : ∃ fd, FunD K "is_fault" "is_fault" (defArgs s_is_fault) (defBody s_is_fault) (defScope s_is_fault) [] [] (He.ga K "is_fault") fd
  g_is_text : mg "is_text" = some (.ref (He.ga K "is_text"))
  f_is_text : ∃ fd, FunD K "is_text" "is_text" (defArgs s_is_text) (defBody s_is_text) (defScope s_is_text) [] [] (He.ga K "is_text") fd
  g_held_number : mg "held_number" = some (.ref (He.ga K "held_number"))
  f_held_number : ∃ fd, FunD K "held_number" "held_number" (defArgs s_held_number) (defBody s_held_number) (defScope s_held_number) [] [] (He.ga K "held_number") fd
  g_as_number : mg "as_number" = some (.ref (He.ga K "as_number"))
  f_as_number : ∃ fd, FunD K "as_number" "as_number" (defArgs s_as_number) (defBody s_as_number) (defScope s_as_number) [] [] (He.ga K "as_number") fd
  g_as_text : mg "as_text" = some (.ref (He.ga K "as_text"))
  f_as_text : ∃ fd, FunD K "as_text" "as_text" (defArgs s_as_text) (defBody s_as_text) (defScope s_as_text) [] [] (He.ga K "as_text") fd
  g_single : mg "single" = some (.ref (He.ga K "single"))
  f_single : ∃ fd, FunD K "single" "single" (defArgs s_single) (defBody s_single) (defScope s_single) [] [] (He.ga K "single") fd
  g_divided : mg "divided" = some (.ref (He.ga K "divided"))
  f_divided : ∃ fd, FunD K "divided" "divided" (defArgs s_divided) (defBody s_divided) (defScope s_divided) [] [] (He.ga K "divided") fd
  g_reckoned : mg "reckoned" = some (.ref (He.ga K "reckoned"))
  f_reckoned : ∃ fd, FunD K "reckoned" "reckoned" (defArgs s_reckoned) (defBody s_reckoned) (defScope s_reckoned) [] [] (He.ga K "reckoned") fd
  g_joined : mg "joined" = some (.ref (He.ga K "joined"))
  f_joined : ∃ fd, FunD K "joined" "joined" (defArgs s_joined) (defBody s_joined) (defScope s_joined) [] [] (He.ga K "joined") fd
  g_same_worth : mg "same_worth" = some (.ref (He.ga K "same_worth"))
  f_same_worth : ∃ fd, FunD K "same_worth" "same_worth" (defArgs s_same_worth) (defBody s_same_worth) (defScope s_same_worth) [] [] (He.ga K "same_worth") fd
  g_ahead_of : mg "ahead_of" = some (.ref (He.ga K "ahead_of"))
  f_ahead_of : ∃ fd, FunD K "ahead_of" "ahead_of" (defArgs s_ahead_of) (defBody s_ahead_of) (defScope s_ahead_of) [] [] (He.ga K "ahead_of") fd
  g_paired : mg "paired" = some (.ref (He.ga K "paired"))
  f_paired : ∃ fd, FunD K "paired" "paired" (defArgs s_paired) (defBody s_paired) (defScope s_paired) [] [] (He.ga K "paired") fd
  g__law_cell_at : mg "_law_cell_at" = some (.ref (He.ga K "_law_cell_at"))
  f__law_cell_at : ∃ fd, FunD K "_law_cell_at" "_law_cell_at" (defArgs s__law_cell_at) (defBody s__law_cell_at) (defScope s__law_cell_at) [] [] (He.ga K "_law_cell_at") fd
  g__law_mixed : mg "_law_mixed" = some (.ref (He.ga K "_law_mixed"))
  f__law_mixed : ∃ fd, FunD K "_law_mixed" "_law_mixed" (defArgs s__law_mixed) (defBody s__law_mixed) (defScope s__law_mixed) [] [] (He.ga K "_law_mixed") fd
  g__law_stream : mg "_law_stream" = some (.ref (He.ga K "_law_stream"))
  f__law_stream : ∃ fd, FunD K "_law_stream" "_law_stream" (defArgs s__law_stream) (defBody s__law_stream) (defScope s__law_stream) [] [] (He.ga K "_law_stream") fd
  g__law_digit : mg "_law_digit" = some (.ref (He.ga K "_law_digit"))
  f__law_digit : ∃ fd, FunD K "_law_digit" "_law_digit" (defArgs s__law_digit) (defBody s__law_digit) (defScope s__law_digit) [] [] (He.ga K "_law_digit") fd
  g__law_worth : mg "_law_worth" = some (.ref (He.ga K "_law_worth"))
  f__law_worth : ∃ fd, FunD K "_law_worth" "_law_worth" (defArgs s__law_worth) (defBody s__law_worth) (defScope s__law_worth) [] [] (He.ga K "_law_worth") fd
  g__law_same : mg "_law_same" = some (.ref (He.ga K "_law_same"))
  f__law_same : ∃ fd, FunD K "_law_same" "_law_same" (defArgs s__law_same) (defBody s__law_same) (defScope s__law_same) [] [] (He.ga K "_law_same") fd
  g__law_number : mg "_law_number" = some (.ref (He.ga K "_law_number"))
  f__law_number : ∃ fd, FunD K "_law_number" "_law_number" (defArgs s__law_number) (defBody s__law_number) (defScope s__law_number) [] [] (He.ga K "_law_number") fd
  g__law_held : mg "_law_held" = some (.ref (He.ga K "_law_held"))
  f__law_held : ∃ fd, FunD K "_law_held" "_law_held" (defArgs s__law_held) (defBody s__law_held) (defScope s__law_held) [] [] (He.ga K "_law_held") fd
  g__law_text : mg "_law_text" = some (.ref (He.ga K "_law_text"))
  f__law_text : ∃ fd, FunD K "_law_text" "_law_text" (defArgs s__law_text) (defBody s__law_text) (defScope s__law_text) [] [] (He.ga K "_law_text") fd
  g__law_joined : mg "_law_joined" = some (.ref (He.ga K "_law_joined"))
  f__law_joined : ∃ fd, FunD K "_law_joined" "_law_joined" (defArgs s__law_joined) (defBody s__law_joined) (defScope s__law_joined) [] [] (He.ga K "_law_joined") fd
  g__law_alike : mg "_law_alike" = some (.ref (He.ga K "_law_alike"))
  f__law_alike : ∃ fd, FunD K "_law_alike" "_law_alike" (defArgs s__law_alike) (defBody s__law_alike) (defScope s__law_alike) [] [] (He.ga K "_law_alike") fd
  g__law_less : mg "_law_less" = some (.ref (He.ga K "_law_less"))
  f__law_less : ∃ fd, FunD K "_law_less" "_law_less" (defArgs s__law_less) (defBody s__law_less) (defScope s__law_less) [] [] (He.ga K "_law_less") fd
  g__law_parted : mg "_law_parted" = some (.ref (He.ga K "_law_parted"))
  f__law_parted : ∃ fd, FunD K "_law_parted" "_law_parted" (defArgs s__law_parted) (defBody s__law_parted) (defScope s__law_parted) [] [] (He.ga K "_law_parted") fd
  g__law_paired : mg "_law_paired" = some (.ref (He.ga K "_law_paired"))
  f__law_paired : ∃ fd, FunD K "_law_paired" "_law_paired" (defArgs s__law_paired) (defBody s__law_paired) (defScope s__law_paired) [] [] (He.ga K "_law_paired") fd
  g__law_single : mg "_law_single" = some (.ref (He.ga K "_law_single"))
  f__law_single : ∃ fd, FunD K "_law_single" "_law_single" (defArgs s__law_single) (defBody s__law_single) (defScope s__law_single) [] [] (He.ga K "_law_single") fd
  g_law : mg "law" = some (.ref (He.ga K "law"))
  f_law : ∃ fd, FunD K "law" "law" (defArgs s_law) (defBody s_law) (defScope s_law) [] [] (He.ga K "law") fd
  n_abs : mg "abs" = none
  n_bool : mg "bool" = none
  n_divmod : mg "divmod" = none
  n_int : mg "int" = none
  n_isinstance : mg "isinstance" = none
  n_len : mg "len" = none
  n_range : mg "range" = none
  n_str : mg "str" = none
  n_sum : mg "sum" = none
  n_tuple : mg "tuple" = none
  c_MOST_NUMBER : GCon K mg "MOST_NUMBER" (.int (1000000000000000000000000000000000000000000000000000000000000))
  c_MOST_SIGNS : GCon K mg "MOST_SIGNS" (.int (200))
theorem txt {w : World} {K : PySem.W.Frag} {h h1 : Heap} {mg : Str → Option Value} (X : K.In h) (G : h.Ns mainGlobals mg) (c : He.SaysX fa fn [] [] ex w h1 K) : Txt K mg :=
  ⟨He.glo_ok X G (c.t.d.fact 0 (f := .glo "fault") rfl),
   c.t.d.def_ 0 (d := d_fault) rfl,
   He.glo_ok X G (c.t.d.fact 1 (f := .glo "is_fault") rfl),
   c.t.d.def_ 1 (d := d_is_fault) rfl,
   He.glo_ok X G (c.t.d.fact 2 (f := .glo "is_text") rfl),
   c.t.d.def_ 2 (d := d_is_text) rfl,
   He.glo_ok X G (c.t.d.fact 3 (f := .glo "held_number") rfl),
   c.t.d.def_ 3 (d := d_held_number) rfl,
   He.glo_ok X G (c.t.d.fact 4 (f := .glo "as_number") rfl),
   c.t.d.def_ 4 (d := d_as_number) rfl,
   He.glo_ok X G (c.t.d.fact 5 (f := .glo "as_text") rfl),
   c.t.d.def_ 5 (d := d_as_text) rfl,
   He.glo_ok X G (c.t.d.fact 6 (f := .glo "single") rfl),
   c.t.d.def_ 6 (d := d_single) rfl,
   He.glo_ok X G (c.t.d.fact 7 (f := .glo "divided") rfl),
   c.t.d.def_ 7 (d := d_divided) rfl,
   He.glo_ok X G (c.t.d.fact 8 (f := .glo "reckoned") rfl),
   c.t.d.def_ 8 (d := d_reckoned) rfl,
   He.glo_ok X G (c.t.d.fact 9 (f := .glo "joined") rfl),
   c.t.d.def_ 9 (d := d_joined) rfl,
   He.glo_ok X G (c.t.d.fact 10 (f := .glo "same_worth") rfl),
   c.t.d.def_ 10 (d := d_same_worth) rfl,
   He.glo_ok X G (c.t.d.fact 11 (f := .glo "ahead_of") rfl),
   c.t.d.def_ 11 (d := d_ahead_of) rfl,
   He.glo_ok X G (c.t.d.fact 12 (f := .glo "paired") rfl),
   c.t.d.def_ 12 (d := d_paired) rfl,
   He.glo_ok X G (c.t.d.fact 13 (f := .glo "_law_cell_at") rfl),
   c.t.d.def_ 13 (d := d__law_cell_at) rfl,
   He.glo_ok X G (c.t.d.fact 14 (f := .glo "_law_mixed") rfl),
   c.t.d.def_ 14 (d := d__law_mixed) rfl,
   He.glo_ok X G (c.t.d.fact 15 (f := .glo "_law_stream") rfl),
   c.t.d.def_ 15 (d := d__law_stream) rfl,
   He.glo_ok X G (c.t.d.fact 16 (f := .glo "_law_digit") rfl),
   c.t.d.def_ 16 (d := d__law_digit) rfl,
   He.glo_ok X G (c.t.d.fact 17 (f := .glo "_law_worth") rfl),
   c.t.d.def_ 17 (d := d__law_worth) rfl,
   He.glo_ok X G (c.t.d.fact 18 (f := .glo "_law_same") rfl),
   c.t.d.def_ 18 (d := d__law_same) rfl,
   He.glo_ok X G (c.t.d.fact 19 (f := .glo "_law_number") rfl),
   c.t.d.def_ 19 (d := d__law_number) rfl,
   He.glo_ok X G (c.t.d.fact 20 (f := .glo "_law_held") rfl),
   c.t.d.def_ 20 (d := d__law_held) rfl,
   He.glo_ok X G (c.t.d.fact 21 (f := .glo "_law_text") rfl),
   c.t.d.def_ 21 (d := d__law_text) rfl,
   He.glo_ok X G (c.t.d.fact 22 (f := .glo "_law_joined") rfl),
   c.t.d.def_ 22 (d := d__law_joined) rfl,
   He.glo_ok X G (c.t.d.fact 23 (f := .glo "_law_alike") rfl),
   c.t.d.def_ 23 (d := d__law_alike) rfl,
   He.glo_ok X G (c.t.d.fact 24 (f := .glo "_law_less") rfl),
   c.t.d.def_ 24 (d := d__law_less) rfl,
   He.glo_ok X G (c.t.d.fact 25 (f := .glo "_law_parted") rfl),
   c.t.d.def_ 25 (d := d__law_parted) rfl,
   He.glo_ok X G (c.t.d.fact 26 (f := .glo "_law_paired") rfl),
   c.t.d.def_ 26 (d := d__law_paired) rfl,
   He.glo_ok X G (c.t.d.fact 27 (f := .glo "_law_single") rfl),
   c.t.d.def_ 27 (d := d__law_single) rfl,
   He.glo_ok X G (c.t.d.fact 28 (f := .glo "law") rfl),
   c.t.d.def_ 28 (d := d_law) rfl,
   He.free_ok X G (c.t.d.fact 29 (f := .free "abs") rfl),
   He.free_ok X G (c.t.d.fact 30 (f := .free "bool") rfl),
   He.free_ok X G (c.t.d.fact 31 (f := .free "divmod") rfl),
   He.free_ok X G (c.t.d.fact 32 (f := .free "int") rfl),
   He.free_ok X G (c.t.d.fact 33 (f := .free "isinstance") rfl),
   He.free_ok X G (c.t.d.fact 34 (f := .free "len") rfl),
   He.free_ok X G (c.t.d.fact 35 (f := .free "range") rfl),
   He.free_ok X G (c.t.d.fact 36 (f := .free "str") rfl),
   He.free_ok X G (c.t.d.fact 37 (f := .free "sum") rfl),
   He.free_ok X G (c.t.d.fact 38 (f := .free "tuple") rfl),
   gcon_int (He.int_ok X G (c.t.d.fact 39 (f := .int "MOST_NUMBER" (1000000000000000000000000000000000000000000000000000000000000)) rfl)),
   gcon_int (He.int_ok X G (c.t.d.fact 40 (f := .int "MOST_SIGNS" (200)) rfl))⟩
end Ol
/-! the steps by name -/
local macro_rules | `(tactic| walk_at "side") => `(tactic| with_unfolding_all first | with_reducible assumption | rfl | decide | omega | decide +kernel | exact Nat.le_of_ble_eq_true rfl | (refine Ol.sz_le ?_; walk_at "len") | (refine Ol.sz_lt ?_; walk_at "len") | exact ⟨by decide, by decide, by decide⟩ | (unfold L2.CMulW; decide +kernel) | exact ⟨by decide, by decide +kernel⟩)
local macro_rules | `(tactic| walk_at "len") => `(tactic| ((try simp [PySem.Str.length_append]); first | omega | decide))
local macro_rules | `(tactic| walk_at "hf") => `(tactic| first | with_unfolding_all assumption | (with_reducible show L2.upd _ _ _ _ = _; first | with_unfolding_all exact L2.upd_same | exact Ol.hf_new (by assumption) (by walk_at "hf") | exact Ol.hf_ne (by assumption) (by walk_at "hf")) | exact (by assumption : L2.Same _ _) _ _ (by walk_at "hf"))
local macro_rules | `(tactic| walk_at "sq") => `(tactic| first | with_unfolding_all assumption | (with_reducible show L2.SqL _ (L2.upd _ _ _) _ _; first | exact Ol.sl_of (by walk_at "hf") | exact L2.Same.seq (Ol.Same.new (by assumption)) (by walk_at "sq")) | (with_reducible show L2.SqL _ _ _ _; first | exact Ol.sl_of (by walk_at "hf") | exact L2.Same.seq (by assumption) (by walk_at "sq")) | (with_reducible show L2.SqT _ (L2.upd _ _ _) _ _; first | exact Ol.st_of (by walk_at "hf") | exact Ol.Same.tup (Ol.Same.new (by assumption)) (by walk_at "sq")) | (with_reducible show L2.SqT _ _ _ _; first | exact Ol.st_of (by walk_at "hf") | exact Ol.Same.tup (by assumption) (by walk_at "sq")))
local macro_rules | `(tactic| walk_at "ty") => `(tactic| with_unfolding_all first | exact L2.TyOf.non | exact L2.TyOf.int _ | exact L2.TyOf.str _ | exact L2.TyOf.bl _ | exact L2.TyOf.tup (by walk_at "hf") | exact L2.TyOf.lst (by walk_at "hf"))
local macro_rules | `(tactic| walk_at "eq") => `(tactic| with_unfolding_all first | rfl | assumption)
local macro_rules | `(tactic| walk_at "rd1") => `(tactic| with_reducible first
  | refine Ol.Step.go ?_
  | (show L2.rIx _ (L2.V.ref _) (L2.V.int _) _ _; first | refine Ol.s_ixL (by walk_at "sq") (by walk_at "eq") ?_ | refine Ol.s_ixT (by walk_at "sq") (by walk_at "eq") ?_)
  | (show Ol.rAddU _ (L2.V.ref _) (L2.V.ref _) _ _; refine Ol.s_addL (by walk_at "sq") (by walk_at "sq") (by walk_at "side") ?_)
  | (show L2.gTup _ _ _ _ _ _ _; refine Ol.s_gtup (by walk_at "sq") (by walk_at "eq") ?_)
  | (show L2.rSetL _ _ _ _ _; refine Ol.s_setL (by walk_at "hf") (by walk_at "eq") ?_)
  | (show L2.rAppend _ _ _ _; refine Ol.s_append (by walk_at "hf") (by walk_at "side") ?_)
  | (show ∃ acc, _ = some (L2.HO.lst acc) ∧ _ ∧ _; refine Ol.s_acc (by walk_at "hf") (by walk_at "side") ?_)
  | (show Ol.rLenU _ _ _ _; first | refine Ol.s_lenL (by walk_at "sq") ?_ | refine Ol.s_lenT (by walk_at "sq") ?_)
  | (show L2.rIsi _ [L2.V.ref _, _] _ _; first | refine Ol.s_isiTup (by walk_at "hf") ?_ | refine Ol.s_isiLst (by walk_at "hf") ?_ | refine Ol.s_isiSqT (by walk_at "sq") ?_ | refine Ol.s_isiSqL (by walk_at "sq") ?_)
  | (show Ol.rListOf _ _ _ _; first | refine Ol.s_listL (by walk_at "sq") ?_ | refine Ol.s_listT (by walk_at "sq") ?_)
  | (show L2.rSlL _ (L2.V.ref _) _ _ _ _; refine Ol.s_slL (by walk_at "sq") ?_)
  | (show L2.tyV _ "list" _ _ ∧ _; refine Ol.s_tyL (by walk_at "sq") ?_)
  | (show ∃ a, L2.V.ref _ = L2.V.ref a ∧ (∃ xs, _) ∧ _; first | refine Ol.s_lst1 (by walk_at "sq") ?_ | refine Ol.s_tup1 (by walk_at "sq") ?_ | refine Ol.s_lst1c (by walk_at "sq") ?_ | refine Ol.s_tup1c (by walk_at "sq") ?_)
  | (show _ ∧ _; refine And.intro (by walk_at "side") ?_)
  | (show ite (_ = true) _ _; first | refine Ol.s_yes (by decide +kernel) ?_ | refine Ol.s_no (by decide +kernel) ?_ | refine Ol.s_yes (by with_unfolding_all rfl) ?_ | refine Ol.s_no (by with_unfolding_all rfl) ?_))
local macro_rules | `(tactic| walk_at "rd") => `(tactic| repeat (walk_at "rd1"))
namespace Ol
open PySem PySem.Spec PyProof.Rows L2
section
variable {P : Program} {w : World} {K : PySem.W.Frag} {mg : Str → Option Value} {base : Heap}

def spDigit : Sp := fun vs H Q _ => ∃ p n m, vs = [.ref p, .int m] ∧ H p = some (.lst [.int n]) ∧ 0 < m ∧ m.natAbs.log2 < 9000 ∧ Q (.int (n % m)) (upd H p (.lst [.int (n / m)]))
theorem ok_digit (T : Txt K mg) : Def P w K mg base 1 "_law_digit" ["row", "many"] spDigit := by
  refine def_of T.g__law_digit T.f__law_digit sc__law_digit (fun _ _ _ _ _ _ us hl => match us, hl with | [_, _], _ => rfl) (fun vs H Q E h => ?_) (fun cdv A outer s H vs Q E hrm h => ?_)
  · obtain ⟨p, n, m, rfl, _⟩ := h
    rfl
  · obtain ⟨p, n, m, rfl, hp, h0, hm, q⟩ := h
    refine ⟨_, (pss_cons (ps_set (i := 2) sc__law_digit.nd rfl (Or.inl rfl) (pe_op op_mod (pe_ix (ix_seqK (K := K)) (pv 0) pe_int (fun _ _ => rfl)) (pv 1)))
 (pss_cons (ps_asg (pe_op op_fdivW (pe_ix (ix_seqK (K := K)) (pv 0) pe_int (fun _ _ => rfl)) (pv 1)) (pg_sub (pv 0) pe_int set_list))
 (pss_one (ps_ret (pv 2))))), ?_⟩
    rw [st__law_digit]
    try dsimp only [L2.cxOf]
    walk_at "rd"
    refine ⟨⟨h0, hm⟩, ?_⟩
    walk_at "rd"
    exact q
theorem s_digit {p : Addr} {n m : Int} {H : Hp} {Q : VK} {E : XK} (h : H p = some (.lst [.int n])) (h0 : 0 < m) (h1 : m.natAbs.log2 < 9000) (q : Q (.int (n % m)) (upd H p (.lst [.int (n / m)]))) : spDigit [.ref p, .int m] H Q E := ⟨p, n, m, rfl, h, h0, h1, q⟩
theorem log_le {y b k : Nat} (h : y ≤ b) (h0 : 0 < k) (h1 : b < 2 ^ k) : y.log2 < k := PySem.Flt.log2_lt_of h0 (Nat.lt_of_le_of_lt h h1)
theorem log_9000 {m : Int} (h : m.natAbs ≤ 10 ^ 600) : m.natAbs.log2 < 9000 := log_le h (by decide) (by decide +kernel)
theorem log_1920 {m : Int} (h : m.natAbs ≤ 10 ^ 300) : m.natAbs.log2 < 1920 := log_le h (by decide) (by decide +kernel)
theorem wide_small {i j : Int} (h1 : i.natAbs < 4294967296) (h2 : j.natAbs < 4294967296) : CMulW i j := wide_mul (a := 32) (b := 32) (by omega) (by omega) (by decide) (by decide) (by decide)
theorem wide_600 {i j : Int} (h1 : i.natAbs ≤ 10 ^ 600) (h2 : j.natAbs ≤ 10 ^ 600) : CMulW i j := wide_mul (a := 9000) (b := 9000) (Nat.lt_of_le_of_lt h1 (by decide +kernel)) (Nat.lt_of_le_of_lt h2 (by decide +kernel)) (by decide) (by decide) (by decide)

/-- a worth -/
inductive Wo where
  | non
  | int (i : Int)
  | str (s : Str)
  | flt (w : Str)
def RW (K : PySem.W.Frag) (H : Hp) (v : V) : Wo → Prop
  | .non => v = .non
  | .int i => v = .int i
  | .str s => v = .str s
  | .flt w => ∃ p, v = .ref p ∧ SqT K H p [.str "fault", .str w]
theorem RW.mono {H H' : Hp} {v : V} {a : Wo} (e : Same H H') (h : RW K H v a) : RW K H' v a := by
  cases a with
  | flt w => obtain ⟨p, h1, h2⟩ := h; exact ⟨p, h1, Same.tup e h2⟩
  | _ => exact h
def Wo.isF : Wo → Bool
  | .flt _ => true
  | _ => false
def Wo.isS : Wo → Bool
  | .str _ => true
  | _ => false
def Wo.ok : Wo → Prop
  | .non => True
  | .int i => i.natAbs ≤ 10 ^ 60
  | .str s => s.length ≤ 200 ∧ PyData.strOk s = true
  | .flt w => w.length ≤ 20 ∧ PyData.strOk w = true
/-- a worth comes, nothing else changes -/
def RetW (K : PySem.W.Frag) (H : Hp) (Q : VK) (a : Wo) : Prop := ∀ H' v, Same H H' → RW K H' v a → Q v H'
theorem RW.n {H : Hp} : RW K H .non .non := rfl
theorem RW.i {H : Hp} {i : Int} : RW K H (.int i) (.int i) := rfl
theorem RW.s {H : Hp} {z : Str} : RW K H (.str z) (.str z) := rfl
instance {A B : Prop} : Step (if Wo.isF .non = true then A else B) B := ⟨iteF⟩
instance {i : Int} {A B : Prop} : Step (if Wo.isF (.int i) = true then A else B) B := ⟨iteF⟩
instance {i : Str} {A B : Prop} : Step (if Wo.isF (.str i) = true then A else B) B := ⟨iteF⟩
instance {i : Str} {A B : Prop} : Step (if Wo.isF (.flt i) = true then A else B) A := ⟨iteT⟩
instance {A B : Prop} : Step (if Wo.isS .non = true then A else B) B := ⟨iteF⟩
instance {i : Int} {A B : Prop} : Step (if Wo.isS (.int i) = true then A else B) B := ⟨iteF⟩
instance {i : Str} {A B : Prop} : Step (if Wo.isS (.str i) = true then A else B) A := ⟨iteT⟩
instance {i : Str} {A B : Prop} : Step (if Wo.isS (.flt i) = true then A else B) B := ⟨iteF⟩
instance {A B : Prop} : Step (if decide (V.non = V.non) = true then A else B) A := ⟨iteT⟩
instance {i : Int} {A B : Prop} : Step (if decide (V.int i = V.non) = true then A else B) B := ⟨iteF⟩
instance {i : Str} {A B : Prop} : Step (if decide (V.str i = V.non) = true then A else B) B := ⟨iteF⟩
instance {i : Addr} {A B : Prop} : Step (if decide (V.ref i = V.non) = true then A else B) B := ⟨iteF⟩
instance {A B : Prop} : Step (if (!decide (V.non = V.non)) = true then A else B) B := ⟨iteF⟩
instance {i : Int} {A B : Prop} : Step (if (!decide (V.int i = V.non)) = true then A else B) A := ⟨iteT⟩
instance {i : Str} {A B : Prop} : Step (if (!decide (V.str i = V.non)) = true then A else B) A := ⟨iteT⟩
instance {i : Addr} {A B : Prop} : Step (if (!decide (V.ref i = V.non)) = true then A else B) A := ⟨iteT⟩
def spIsFault (K : PySem.W.Frag) : Sp := fun vs H Q _ => ∃ v a, vs = [v] ∧ RW K H v a ∧ Q (.bl a.isF) H
theorem s_isF {H : Hp} {Q : VK} {E : XK} {v : V} {a : Wo} (h : RW K H v a) (q : Q (.bl a.isF) H) : spIsFault K [v] H Q E := ⟨v, a, rfl, h, q⟩
theorem ok_is_fault (T : Txt K mg) : Def P w K mg base 1 "is_fault" ["worth"] (spIsFault K) := by
  refine def_of T.g_is_fault T.f_is_fault sc_is_fault (fun _ _ _ _ _ _ us hl => match us, hl with | [_], _ => rfl) (fun vs H Q E h => ?_) (fun cdv A outer s H vs Q E hrm h => ?_)
  · obtain ⟨v, a, rfl, _⟩ := h
    rfl
  · obtain ⟨v, a, rfl, hv, q⟩ := h
    refine ⟨_, (pss_one (ps_ret (pe_callB (call_isiK (K := K)) (by rfl) T.n_isinstance (by decide +kernel) (pa_cons (pv 0) (pa_cons (pe_bltn (v := .ty "tuple") (u := .type "tuple") rfl T.n_tuple (by decide +kernel) (by rfl)) pa_nil))))), ?_⟩
    rw [st_is_fault]
    try dsimp only [L2.cxOf]
    walk_at "rd"
    cases a with
    | flt w =>
      obtain ⟨p, rfl, hp⟩ := hv
      refine s_isiSqT hp ?_
      exact q
    | _ =>
      obtain rfl := hv
      walk_at "rd"
      exact q
def spIsText (K : PySem.W.Frag) : Sp := fun vs H Q _ => ∃ v a, vs = [v] ∧ RW K H v a ∧ Q (.bl a.isS) H
theorem s_isS {H : Hp} {Q : VK} {E : XK} {v : V} {a : Wo} (h : RW K H v a) (q : Q (.bl a.isS) H) : spIsText K [v] H Q E := ⟨v, a, rfl, h, q⟩
theorem ok_is_text (T : Txt K mg) : Def P w K mg base 1 "is_text" ["worth"] (spIsText K) := by
  refine def_of T.g_is_text T.f_is_text sc_is_text (fun _ _ _ _ _ _ us hl => match us, hl with | [_], _ => rfl) (fun vs H Q E h => ?_) (fun cdv A outer s H vs Q E hrm h => ?_)
  · obtain ⟨v, a, rfl, _⟩ := h
    rfl
  · obtain ⟨v, a, rfl, hv, q⟩ := h
    refine ⟨_, (pss_one (ps_ret (pe_callB (call_isiK (K := K)) (by rfl) T.n_isinstance (by decide +kernel) (pa_cons (pv 0) (pa_cons (pe_bltn (v := .ty "str") (u := .type "str") rfl T.n_str (by decide +kernel) (by rfl)) pa_nil))))), ?_⟩
    rw [st_is_text]
    try dsimp only [L2.cxOf]
    walk_at "rd"
    cases a with
    | flt w =>
      obtain ⟨p, rfl, hp⟩ := hv
      refine s_isiSqT hp ?_
      exact q
    | _ =>
      obtain rfl := hv
      walk_at "rd"
      exact q
def spFault (K : PySem.W.Frag) : Sp := fun vs H Q _ => ∃ w, vs = [.str w] ∧ RetW K H Q (.flt w)
theorem s_fltW {H : Hp} {Q : VK} {E : XK} {z : Str} (q : RetW K H Q (.flt z)) : spFault K [.str z] H Q E := ⟨z, rfl, q⟩
theorem ok_fault (T : Txt K mg) : Def P w K mg base 1 "fault" ["word"] (spFault K) := by
  refine def_of T.g_fault T.f_fault sc_fault (fun _ _ _ _ _ _ us hl => match us, hl with | [_], _ => rfl) (fun vs H Q E h => ?_) (fun cdv A outer s H vs Q E hrm h => ?_)
  · obtain ⟨w, rfl, _⟩ := h
    rfl
  · obtain ⟨w, rfl, q⟩ := h
    refine ⟨_, (pss_one (ps_ret (pe_tup (pa_cons pe_str (pa_cons (pv 0) pa_nil))))), ?_⟩
    rw [st_fault]
    try dsimp only [L2.cxOf]
    walk_at "rd"
    exact fun p hp => q _ _ (Same.new hp) ⟨p, rfl, st_of upd_same⟩
def heldN (n : Int) : Wo := if 10 ^ 60 < n.natAbs then .flt "great" else .int n
def spHeld (K : PySem.W.Frag) : Sp := fun vs H Q _ => ∃ n, vs = [.int n] ∧ RetW K H Q (heldN n)
theorem s_held {H : Hp} {Q : VK} {E : XK} {n : Int} (q : RetW K H Q (heldN n)) : spHeld K [.int n] H Q E := ⟨n, rfl, q⟩
theorem ok_held (T : Txt K mg) (D_fault : Def P w K mg base 1 "fault" ["word"] (spFault K)) : Def P w K mg base 2 "held_number" ["number"] (spHeld K) := by
  refine def_of T.g_held_number T.f_held_number sc_held_number (fun _ _ _ _ _ _ us hl => match us, hl with | [_], _ => rfl) (fun vs H Q E h => ?_) (fun cdv A outer s H vs Q E hrm h => ?_)
  · obtain ⟨n, rfl, _⟩ := h
    rfl
  · obtain ⟨n, rfl, q⟩ := h
    refine ⟨_, (pss_cons (ps_if (pt_cmpR op_gt (pe_callB call_absI (by rfl) T.n_abs (by decide +kernel) (pa_cons (pv 0) pa_nil)) (pe_con T.c_MOST_NUMBER (by rfl)) (nomark _))
 (pss_one (ps_ret (pe_dcall D_fault (hrm.mono (by decide)) (by rfl) passL (pa_cons pe_str pa_nil))))
 pss_nil)
 (pss_one (ps_ret (pv 0)))), ?_⟩
    rw [st_held_number]
    try dsimp only [L2.cxOf]
    walk_at "rd"
    refine s_iteD (fun c => ?_) (fun c => ?_)
    · walk_at "rd"
      have e : heldN n = .flt "great" := if_pos (by split at c <;> omega)
      rw [e] at q
      exact ⟨_, rfl, q⟩
    · walk_at "rd"
      have e : heldN n = .int n := if_neg (by split at c <;> omega)
      rw [e] at q
      exact q _ _ (Same.refl H) rfl
def Wo.num : Wo → Int
  | .int i => i
  | _ => 0
def spAsNumber (K : PySem.W.Frag) : Sp := fun vs H Q _ => ∃ v a, vs = [v] ∧ RW K H v a ∧ a.isF = false ∧ a.isS = false ∧ Q (.int a.num) H
theorem s_asN {H : Hp} {Q : VK} {E : XK} {v : V} {a : Wo} (h : RW K H v a) (h1 : a.isF = false) (h2 : a.isS = false) (q : Q (.int a.num) H) : spAsNumber K [v] H Q E := ⟨v, a, rfl, h, h1, h2, q⟩
theorem ok_as_number (T : Txt K mg) : Def P w K mg base 1 "as_number" ["worth"] (spAsNumber K) := by
  refine def_of T.g_as_number T.f_as_number sc_as_number (fun _ _ _ _ _ _ us hl => match us, hl with | [_], _ => rfl) (fun vs H Q E h => ?_) (fun cdv A outer s H vs Q E hrm h => ?_)
  · obtain ⟨v, a, rfl, _⟩ := h
    rfl
  · obtain ⟨v, a, rfl, hv, h1, h2, q⟩ := h
    refine ⟨_, (pss_cons (ps_if (pt_cmpR op_isNo (pv 0) pe_non (nomark _))
 (pss_one (ps_ret pe_int))
 pss_nil)
 (pss_one (ps_ret (pv 0)))), ?_⟩
    rw [st_as_number]
    try dsimp only [L2.cxOf]
    walk_at "rd"
    cases a with
    | flt w => cases h1
    | str s => cases h2
    | non =>
      obtain rfl := hv
      refine s_yes rfl ?_
      walk_at "rd"
      exact q
    | int i =>
      obtain rfl := hv
      refine s_no rfl ?_
      walk_at "rd"
      exact q
def Wo.txt : Wo → Str
  | .int i => toString i
  | .str s => s
  | _ => ""
def spAsText (K : PySem.W.Frag) : Sp := fun vs H Q _ => ∃ v a, vs = [v] ∧ RW K H v a ∧ a.isF = false ∧ a.ok ∧ Q (.str a.txt) H
theorem s_asT {H : Hp} {Q : VK} {E : XK} {v : V} {a : Wo} (h : RW K H v a) (h1 : a.isF = false) (h2 : a.ok) (q : Q (.str a.txt) H) : spAsText K [v] H Q E := ⟨v, a, rfl, h, h1, h2, q⟩
theorem ok_as_text (T : Txt K mg) : Def P w K mg base 1 "as_text" ["worth"] (spAsText K) := by
  refine def_of T.g_as_text T.f_as_text sc_as_text (fun _ _ _ _ _ _ us hl => match us, hl with | [_], _ => rfl) (fun vs H Q E h => ?_) (fun cdv A outer s H vs Q E hrm h => ?_)
  · obtain ⟨v, a, rfl, _⟩ := h
    rfl
  · obtain ⟨v, a, rfl, hv, h1, h2, q⟩ := h
    refine ⟨_, (pss_cons (ps_if (pt_cmpR op_isNo (pv 0) pe_non (nomark _))
 (pss_one (ps_ret pe_str))
 pss_nil)
 (pss_one (ps_ret (pe_callTy call_strU (by rfl) T.n_str (by decide +kernel) (pa_cons (pv 0) pa_nil))))), ?_⟩
    rw [st_as_text]
    try dsimp only [L2.cxOf]
    walk_at "rd"
    cases a with
    | flt w => cases h1
    | str s =>
      obtain rfl := hv
      refine s_no rfl ?_
      walk_at "rd"
      exact q
    | non =>
      obtain rfl := hv
      refine s_yes rfl ?_
      walk_at "rd"
      exact q
    | int i =>
      obtain rfl := hv
      refine s_no rfl ?_
      walk_at "rd"
      refine ⟨log_1920 (Nat.le_trans h2 (by decide +kernel)), ?_⟩
      exact q

end
end Ol

local macro_rules | `(tactic| walk_at "rw") => `(tactic| first | exact Ol.RW.n | exact Ol.RW.i | exact Ol.RW.s | assumption | exact Ol.RW.mono (by assumption) (by walk_at "rw"))
local macro_rules | `(tactic| walk_at "rd1") => `(tactic| with_reducible first
  | (show Ol.spIsFault _ _ _ _ _; refine Ol.s_isF (by with_unfolding_all walk_at "rw") ?_)
  | (show Ol.spIsText _ _ _ _ _; refine Ol.s_isS (by with_unfolding_all walk_at "rw") ?_)
  | (show Ol.spFault _ _ _ _ _; refine Ol.s_fltW ?_))

local macro_rules | `(tactic| walk_at "rd1") => `(tactic| with_reducible first
  | (show Ol.spHeld _ _ _ _ _; refine Ol.s_held ?_)
  | (show Ol.spAsNumber _ _ _ _ _; refine Ol.s_asN (by with_unfolding_all walk_at "rw") (by with_unfolding_all rfl) (by with_unfolding_all rfl) ?_)
  | (show Ol.spAsText _ _ _ _ _; refine Ol.s_asT (by with_unfolding_all walk_at "rw") (by with_unfolding_all rfl) (by first | assumption | trivial) ?_))

namespace Ol
open PySem PySem.Spec PyProof.Rows L2
section
variable {P : Program} {w : World} {K : PySem.W.Frag} {mg : Str → Option Value} {base : Heap}

/-- = of two worths -/
def sameW : Wo → Wo → Bool
  | .flt _, _ => false
  | _, .flt _ => false
  | .str s, .str t => decide (s = t)
  | .str s, .non => decide (s = "")
  | .non, .str t => decide ((Str.ofString "") = t)
  | .str _, .int _ => false
  | .int _, .str _ => false
  | a, b => decide (a.num = b.num)
def spSame (K : PySem.W.Frag) : Sp := fun vs H Q _ => ∃ v u a b, vs = [v, u] ∧ RW K H v a ∧ RW K H u b ∧ a.ok ∧ b.ok ∧ Q (.bl (sameW a b)) H
theorem ok_same (T : Txt K mg) (D_is_fault : Def P w K mg base 1 "is_fault" ["worth"] (spIsFault K)) (D_is_text : Def P w K mg base 1 "is_text" ["worth"] (spIsText K)) (D_as_number : Def P w K mg base 1 "as_number" ["worth"] (spAsNumber K)) (D_as_text : Def P w K mg base 1 "as_text" ["worth"] (spAsText K)) : Def P w K mg base 2 "same_worth" ["one", "other"] (spSame K) := by
  refine def_of T.g_same_worth T.f_same_worth sc_same_worth (fun _ _ _ _ _ _ us hl => match us, hl with | [_, _], _ => rfl) (fun vs H Q E h => ?_) (fun cdv A outer s H vs Q E hrm h => ?_)
  · obtain ⟨v, u, a, b, rfl, _⟩ := h
    rfl
  · obtain ⟨v, u, a, b, rfl, hv, hu, ka, kb, q⟩ := h
    refine ⟨_, (pss_cons (ps_if (PW.pt (pw_or (pt_val (pe_dcall D_is_fault (hrm.mono (by decide)) (by rfl) passL (pa_cons (pv 0) pa_nil))) (pw_or1 (pt_val (pe_dcall D_is_fault (hrm.mono (by decide)) (by rfl) passL (pa_cons (pv 1) pa_nil))))))
 (pss_one (ps_ret pe_bl))
 pss_nil)
 (pss_cons (ps_if (PW.pt (pw_or (pt_val (pe_dcall D_is_text (hrm.mono (by decide)) (by rfl) passL (pa_cons (pv 0) pa_nil))) (pw_or1 (pt_val (pe_dcall D_is_text (hrm.mono (by decide)) (by rfl) passL (pa_cons (pv 1) pa_nil))))))
 (pss_cons (ps_if (PW.pt (pw_or (pt_cmpR op_isNo (pv 0) pe_non (nomark _)) (pw_or1 (pt_cmpR op_isNo (pv 1) pe_non (nomark _)))))
 (pss_one (ps_ret (pe_cmpR (op_eqU (K := K) hrm.units) (pe_dcall D_as_text (hrm.mono (by decide)) (by rfl) passL (pa_cons (pv 0) pa_nil)) (pe_dcall D_as_text (hrm.mono (by decide)) (by rfl) passL (pa_cons (pv 1) pa_nil)) (nomark _))))
 pss_nil)
 (pss_one (ps_ret (pe_and (pe_dcall D_is_text (hrm.mono (by decide)) (by rfl) passL (pa_cons (pv 0) pa_nil)) (pe_and (pe_dcall D_is_text (hrm.mono (by decide)) (by rfl) passL (pa_cons (pv 1) pa_nil)) (pe_one (pe_cmpR (op_eqU (K := K) hrm.units) (pv 0) (pv 1) (nomark _))))))))
 pss_nil)
 (pss_one (ps_ret (pe_cmpR (op_eqU (K := K) hrm.units) (pe_dcall D_as_number (hrm.mono (by decide)) (by rfl) passL (pa_cons (pv 0) pa_nil)) (pe_dcall D_as_number (hrm.mono (by decide)) (by rfl) passL (pa_cons (pv 1) pa_nil)) (nomark _)))))), ?_⟩
    rw [st_same_worth]
    try dsimp only [L2.cxOf]
    walk_at "rd"
    cases a with
    | flt s =>
      obtain ⟨p, rfl, hp⟩ := id hv
      walk_at "rd"
      exact q
    | non =>
      have e : v = .non := hv
      subst e
      cases b with
      | flt s =>
        obtain ⟨p, rfl, hp⟩ := id hu
        walk_at "rd"
        exact q
      | non =>
        have e : u = .non := hu
        subst e
        walk_at "rd"
        exact q
      | int i =>
        have e : u = .int i := hu
        subst e
        walk_at "rd"
        exact q
      | str i =>
        have e : u = .str i := hu
        subst e
        walk_at "rd"
        exact q
    | int j =>
      have e : v = .int j := hv
      subst e
      cases b with
      | flt s =>
        obtain ⟨p, rfl, hp⟩ := id hu
        walk_at "rd"
        exact q
      | non =>
        have e : u = .non := hu
        subst e
        walk_at "rd"
        exact q
      | int i =>
        have e : u = .int i := hu
        subst e
        walk_at "rd"
        exact q
      | str i =>
        have e : u = .str i := hu
        subst e
        walk_at "rd"
        exact q
    | str j =>
      have e : v = .str j := hv
      subst e
      cases b with
      | flt s =>
        obtain ⟨p, rfl, hp⟩ := id hu
        walk_at "rd"
        exact q
      | non =>
        have e : u = .non := hu
        subst e
        walk_at "rd"
        exact q
      | int i =>
        have e : u = .int i := hu
        subst e
        walk_at "rd"
        exact q
      | str i =>
        have e : u = .str i := hu
        subst e
        walk_at "rd"
        exact q

end
end Ol

local macro_rules | `(tactic| walk_at "rw") => `(tactic| first | exact Ol.RW.n | exact Ol.RW.i | exact Ol.RW.s | assumption | exact Ol.RW.mono (by assumption) (by walk_at "rw"))
local macro_rules | `(tactic| walk_at "rd1") => `(tactic| with_reducible first
  | (show Ol.spIsFault _ _ _ _ _; refine Ol.s_isF (by with_unfolding_all walk_at "rw") ?_)
  | (show Ol.spIsText _ _ _ _ _; refine Ol.s_isS (by with_unfolding_all walk_at "rw") ?_)
  | (show Ol.spFault _ _ _ _ _; refine Ol.s_fltW ?_))

local macro_rules | `(tactic| walk_at "rd1") => `(tactic| with_reducible first
  | (show Ol.spHeld _ _ _ _ _; refine Ol.s_held ?_)
  | (show Ol.spAsNumber _ _ _ _ _; refine Ol.s_asN (by with_unfolding_all walk_at "rw") (by with_unfolding_all rfl) (by with_unfolding_all rfl) ?_)
  | (show Ol.spAsText _ _ _ _ _; refine Ol.s_asT (by with_unfolding_all walk_at "rw") (by with_unfolding_all rfl) (by first | assumption | trivial) ?_))

namespace Ol
open PySem PySem.Spec PyProof.Rows L2
section
variable {P : Program} {w : World} {K : PySem.W.Frag} {mg : Str → Option Value} {base : Heap}

def aheadW (a b : Wo) : Wo :=
  match a, b with
  | .str s, .str t => .int (if s.cps.toList < t.cps.toList then 1 else 0)
  | .str s, .non => .int (if s.cps.toList < (Str.ofString "").cps.toList then 1 else 0)
  | .non, .str t => .int (if (Str.ofString "").cps.toList < t.cps.toList then 1 else 0)
  | .str _, .int _ => .flt "kind"
  | .int _, .str _ => .flt "kind"
  | a, b => .int (if a.num < b.num then 1 else 0)
def spAhead (K : PySem.W.Frag) : Sp := fun vs H Q _ => ∃ v u a b, vs = [v, u] ∧ RW K H v a ∧ RW K H u b ∧ a.ok ∧ b.ok ∧ a.isF = false ∧ b.isF = false ∧ RetW K H Q (aheadW a b)
theorem int_ite {p : Prop} [Decidable p] : (if decide p = true then (1 : Int) else 0) = if p then 1 else 0 := by by_cases h : p <;> simp [h]
theorem ok_ahead (T : Txt K mg) (D_is_text : Def P w K mg base 1 "is_text" ["worth"] (spIsText K)) (D_as_number : Def P w K mg base 1 "as_number" ["worth"] (spAsNumber K)) (D_as_text : Def P w K mg base 1 "as_text" ["worth"] (spAsText K)) (D_fault : Def P w K mg base 1 "fault" ["word"] (spFault K)) : Def P w K mg base 2 "ahead_of" ["one", "other"] (spAhead K) := by
  refine def_of T.g_ahead_of T.f_ahead_of sc_ahead_of (fun _ _ _ _ _ _ us hl => match us, hl with | [_, _], _ => rfl) (fun vs H Q E h => ?_) (fun cdv A outer s H vs Q E hrm h => ?_)
  · obtain ⟨v, u, a, b, rfl, _⟩ := h
    rfl
  · obtain ⟨v, u, a, b, rfl, hv, hu, ka, kb, fa, fb, q⟩ := h
    refine ⟨_, (pss_cons (ps_if (PW.pt (pw_or (pt_val (pe_dcall D_is_text (hrm.mono (by decide)) (by rfl) passL (pa_cons (pv 0) pa_nil))) (pw_or1 (pt_val (pe_dcall D_is_text (hrm.mono (by decide)) (by rfl) passL (pa_cons (pv 1) pa_nil))))))
 (pss_cons (ps_if (PW.pt (pw_and (pt_cmpR op_notNo (pv 0) pe_non (nomark _)) (pw_and (pt_cmpR op_notNo (pv 1) pe_non (nomark _)) (pw_and1 (pt_cmpR (op_neU (K := K) hrm.units) (pe_dcall D_is_text (hrm.mono (by decide)) (by rfl) passL (pa_cons (pv 0) pa_nil)) (pe_dcall D_is_text (hrm.mono (by decide)) (by rfl) passL (pa_cons (pv 1) pa_nil)) (nomark _))))))
 (pss_one (ps_ret (pe_dcall D_fault (hrm.mono (by decide)) (by rfl) passL (pa_cons pe_str pa_nil))))
 pss_nil)
 (pss_one (ps_ret (pe_callTy call_intU (by rfl) T.n_int (by decide +kernel) (pa_cons (pe_cmpR op_ltU (pe_dcall D_as_text (hrm.mono (by decide)) (by rfl) passL (pa_cons (pv 0) pa_nil)) (pe_dcall D_as_text (hrm.mono (by decide)) (by rfl) passL (pa_cons (pv 1) pa_nil)) (nomark _)) pa_nil)))))
 pss_nil)
 (pss_one (ps_ret (pe_callTy call_intU (by rfl) T.n_int (by decide +kernel) (pa_cons (pe_cmpR op_ltU (pe_dcall D_as_number (hrm.mono (by decide)) (by rfl) passL (pa_cons (pv 0) pa_nil)) (pe_dcall D_as_number (hrm.mono (by decide)) (by rfl) passL (pa_cons (pv 1) pa_nil)) (nomark _)) pa_nil))))), ?_⟩
    rw [st_ahead_of]
    try dsimp only [L2.cxOf]
    walk_at "rd"
    cases a with
    | flt s => cases fa
    | non =>
      have e : v = .non := hv
      subst e
      cases b with
      | flt s => cases fb
      | non =>
        have e : u = .non := hu
        subst e
        walk_at "rd"
        refine q _ _ (Same.refl H) (by rw [int_ite]; rfl)
      | int i =>
        have e : u = .int i := hu
        subst e
        walk_at "rd"
        refine q _ _ (Same.refl H) (by rw [int_ite]; rfl)
      | str i =>
        have e : u = .str i := hu
        subst e
        walk_at "rd"
        refine q _ _ (Same.refl H) (by rw [int_ite]; rfl)
    | int j =>
      have e : v = .int j := hv
      subst e
      cases b with
      | flt s => cases fb
      | non =>
        have e : u = .non := hu
        subst e
        walk_at "rd"
        refine q _ _ (Same.refl H) (by rw [int_ite]; rfl)
      | int i =>
        have e : u = .int i := hu
        subst e
        walk_at "rd"
        refine q _ _ (Same.refl H) (by rw [int_ite]; rfl)
      | str i =>
        have e : u = .str i := hu
        subst e
        walk_at "rd"
        exact q
    | str j =>
      have e : v = .str j := hv
      subst e
      cases b with
      | flt s => cases fb
      | non =>
        have e : u = .non := hu
        subst e
        walk_at "rd"
        refine q _ _ (Same.refl H) (by rw [int_ite]; rfl)
      | int i =>
        have e : u = .int i := hu
        subst e
        walk_at "rd"
        exact q
      | str i =>
        have e : u = .str i := hu
        subst e
        walk_at "rd"
        refine q _ _ (Same.refl H) (by rw [int_ite]; rfl)
def dividedW (op : Str) (i j : Int) : Wo := if j = 0 then .flt "nought" else if op = "/" then .int (i.fdiv j) else .int (i.fmod j)
def spDivided (K : PySem.W.Frag) : Sp := fun vs H Q _ => ∃ op i j, vs = [.str op, .int i, .int j] ∧ j.natAbs ≤ 10 ^ 60 ∧ RetW K H Q (dividedW op i j)
theorem ok_divided (T : Txt K mg) (D_fault : Def P w K mg base 1 "fault" ["word"] (spFault K)) : Def P w K mg base 2 "divided" ["op", "one", "other"] (spDivided K) := by
  refine def_of T.g_divided T.f_divided sc_divided (fun _ _ _ _ _ _ us hl => match us, hl with | [_, _, _], _ => rfl) (fun vs H Q E h => ?_) (fun cdv A outer s H vs Q E hrm h => ?_)
  · obtain ⟨op, i, j, rfl, _⟩ := h
    rfl
  · obtain ⟨op, i, j, rfl, hj, q⟩ := h
    refine ⟨_, (pss_cons (ps_if (pt_cmpR (op_eqU (K := K) hrm.units) (pv 2) pe_int (nomark _))
 (pss_one (ps_ret (pe_dcall D_fault (hrm.mono (by decide)) (by rfl) passL (pa_cons pe_str pa_nil))))
 pss_nil)
 (pss_cons (ps_if (pt_cmpR (op_eqU (K := K) hrm.units) (pv 0) pe_str (nomark _))
 (pss_one (ps_ret (pe_op op_fdivA (pv 1) (pv 2))))
 pss_nil)
 (pss_one (ps_ret (pe_op op_modN (pv 1) (pv 2)))))), ?_⟩
    rw [st_divided]
    try dsimp only [L2.cxOf]
    walk_at "rd"
    unfold dividedW at q
    refine s_iteD (fun c => ?_) (fun c => ?_)
    · walk_at "rd"
      rw [if_pos c] at q
      exact q
    · rw [if_neg c] at q
      walk_at "rd"
      refine s_iteD (fun c2 => ?_) (fun c2 => ?_)
      · rw [if_pos c2] at q
        walk_at "rd"
        refine ⟨⟨c, log_9000 (Nat.le_trans hj (by decide +kernel))⟩, ?_⟩
        exact q _ _ (Same.refl H) rfl
      · rw [if_neg c2] at q
        walk_at "rd"
        exact q _ _ (Same.refl H) rfl
def reckW (op : Str) (i j : Int) : Wo := if op = "+" then heldN (i + j) else if op = "-" then heldN (i - j) else if op = "*" then heldN (i * j) else dividedW op i j
def spReckoned (K : PySem.W.Frag) : Sp := fun vs H Q _ => ∃ op i j, vs = [.str op, .int i, .int j] ∧ i.natAbs ≤ 10 ^ 60 ∧ j.natAbs ≤ 10 ^ 60 ∧ RetW K H Q (reckW op i j)
theorem ok_reckoned (T : Txt K mg) (D_held_number : Def P w K mg base 2 "held_number" ["number"] (spHeld K)) (D_divided : Def P w K mg base 2 "divided" ["op", "one", "other"] (spDivided K)) : Def P w K mg base 3 "reckoned" ["op", "one", "other"] (spReckoned K) := by
  refine def_of T.g_reckoned T.f_reckoned sc_reckoned (fun _ _ _ _ _ _ us hl => match us, hl with | [_, _, _], _ => rfl) (fun vs H Q E h => ?_) (fun cdv A outer s H vs Q E hrm h => ?_)
  · obtain ⟨op, i, j, rfl, _⟩ := h
    rfl
  · obtain ⟨op, i, j, rfl, hi, hj, q⟩ := h
    refine ⟨_, (pss_cons (ps_if (pt_cmpR (op_eqU (K := K) hrm.units) (pv 0) pe_str (nomark _))
 (pss_one (ps_ret (pe_dcall D_held_number (hrm.mono (by decide)) (by rfl) passL (pa_cons (pe_op (op_addU (K := K)) (pv 1) (pv 2)) pa_nil))))
 pss_nil)
 (pss_cons (ps_if (pt_cmpR (op_eqU (K := K) hrm.units) (pv 0) pe_str (nomark _))
 (pss_one (ps_ret (pe_dcall D_held_number (hrm.mono (by decide)) (by rfl) passL (pa_cons (pe_op op_sub (pv 1) (pv 2)) pa_nil))))
 pss_nil)
 (pss_cons (ps_if (pt_cmpR (op_eqU (K := K) hrm.units) (pv 0) pe_str (nomark _))
 (pss_one (ps_ret (pe_dcall D_held_number (hrm.mono (by decide)) (by rfl) passL (pa_cons (pe_op op_mulU (pv 1) (pv 2)) pa_nil))))
 pss_nil)
 (pss_one (ps_ret (pe_dcall D_divided (hrm.mono (by decide)) (by rfl) passL (pa_cons (pv 0) (pa_cons (pv 1) (pa_cons (pv 2) pa_nil))))))))), ?_⟩
    rw [st_reckoned]
    try dsimp only [L2.cxOf]
    walk_at "rd"
    unfold reckW at q
    refine s_iteD (fun c => ?_) (fun c => ?_)
    · rw [if_pos c] at q
      walk_at "rd"
      exact q
    rw [if_neg c] at q
    walk_at "rd"
    refine s_iteD (fun c => ?_) (fun c => ?_)
    · rw [if_pos c] at q
      walk_at "rd"
      exact q
    rw [if_neg c] at q
    walk_at "rd"
    refine s_iteD (fun c => ?_) (fun c => ?_)
    · rw [if_pos c] at q
      walk_at "rd"
      refine ⟨wide_600 (Nat.le_trans hi (by decide +kernel)) (Nat.le_trans hj (by decide +kernel)), ?_⟩
      walk_at "rd"
      exact q
    rw [if_neg c] at q
    walk_at "rd"
    exact ⟨op, i, j, rfl, hj, q⟩
def joinedW (a b : Wo) : Wo := if 200 < (a.txt ++ b.txt).length then .flt "great" else .str (a.txt ++ b.txt)
def spJoined (K : PySem.W.Frag) : Sp := fun vs H Q _ => ∃ v u a b, vs = [v, u] ∧ RW K H v a ∧ RW K H u b ∧ a.ok ∧ b.ok ∧ a.isF = false ∧ b.isF = false ∧ RetW K H Q (joinedW a b)
theorem txt_len {a : Wo} (h : a.ok) : a.txt.length ≤ 200 := by
  cases a with
  | str s => exact h.1
  | int i =>
    have h1 : i.natAbs < 10 ^ 61 := Nat.lt_of_le_of_lt h (by decide +kernel)
    have h2 := int_text_length_le10 (by decide) h1
    show (Str.ofString (toString i)).length ≤ 200
    rw [ofS_len]
    omega
  | non => exact Nat.zero_le _
  | flt w => exact Nat.zero_le _
theorem ok_joined (T : Txt K mg) (D_as_text : Def P w K mg base 1 "as_text" ["worth"] (spAsText K)) (D_fault : Def P w K mg base 1 "fault" ["word"] (spFault K)) : Def P w K mg base 2 "joined" ["one", "other"] (spJoined K) := by
  refine def_of T.g_joined T.f_joined sc_joined (fun _ _ _ _ _ _ us hl => match us, hl with | [_, _], _ => rfl) (fun vs H Q E h => ?_) (fun cdv A outer s H vs Q E hrm h => ?_)
  · obtain ⟨v, u, a, b, rfl, _⟩ := h
    rfl
  · obtain ⟨v, u, a, b, rfl, hv, hu, ka, kb, fa, fb, q⟩ := h
    refine ⟨_, (pss_cons (ps_set (i := 2) sc_joined.nd rfl (Or.inl rfl) (pe_op (op_addU (K := K)) (pe_dcall D_as_text (hrm.mono (by decide)) (by rfl) passL (pa_cons (pv 0) pa_nil)) (pe_dcall D_as_text (hrm.mono (by decide)) (by rfl) passL (pa_cons (pv 1) pa_nil))))
 (pss_cons (ps_if (pt_cmpR op_gt (pe_callB (call_lenU (K := K)) (by rfl) T.n_len (by decide +kernel) (pa_cons (pv 2) pa_nil)) (pe_con T.c_MOST_SIGNS (by rfl)) (nomark _))
 (pss_one (ps_ret (pe_dcall D_fault (hrm.mono (by decide)) (by rfl) passL (pa_cons pe_str pa_nil))))
 pss_nil)
 (pss_one (ps_ret (pv 2))))), ?_⟩
    rw [st_joined]
    try dsimp only [L2.cxOf]
    walk_at "rd"
    refine s_asT hv fa ka ?_
    walk_at "rd"
    refine s_asT hu fb kb ?_
    walk_at "rd"
    have h1 := txt_len ka
    have h2 := txt_len kb
    refine ⟨sz_le (by omega), ?_⟩
    walk_at "rd"
    unfold joinedW at q
    refine s_iteD (fun c => ?_) (fun c => ?_)
    · rw [if_pos (by omega)] at q
      walk_at "rd"
      exact q
    · rw [if_neg (by omega)] at q
      walk_at "rd"
      exact q _ _ (Same.refl H) rfl
def pairedW (op : Str) (a b : Wo) : Wo :=
  if a.isF = true then a else if b.isF = true then b else if op = "&" then joinedW a b else if op = "=" then .int (if sameW a b then 1 else 0) else if op = "<" then aheadW a b else
  if a.isS = true ∨ b.isS = true then .flt "kind" else reckW op a.num b.num
def spPaired (K : PySem.W.Frag) : Sp := fun vs H Q _ => ∃ op v u a b, vs = [.str op, v, u] ∧ RW K H v a ∧ RW K H u b ∧ a.ok ∧ b.ok ∧ RetW K H Q (pairedW op a b)
theorem num_ok {a : Wo} (h : a.ok) : a.num.natAbs ≤ 10 ^ 60 := by
  cases a with
  | int i => exact h
  | _ => exact Nat.zero_le _
theorem ok_paired (T : Txt K mg) (D_is_fault : Def P w K mg base 1 "is_fault" ["worth"] (spIsFault K)) (D_is_text : Def P w K mg base 1 "is_text" ["worth"] (spIsText K)) (D_as_number : Def P w K mg base 1 "as_number" ["worth"] (spAsNumber K)) (D_fault : Def P w K mg base 1 "fault" ["word"] (spFault K))
    (D_joined : Def P w K mg base 2 "joined" ["one", "other"] (spJoined K)) (D_same_worth : Def P w K mg base 2 "same_worth" ["one", "other"] (spSame K)) (D_ahead_of : Def P w K mg base 2 "ahead_of" ["one", "other"] (spAhead K)) (D_reckoned : Def P w K mg base 3 "reckoned" ["op", "one", "other"] (spReckoned K)) : Def P w K mg base 4 "paired" ["op", "one", "other"] (spPaired K) := by
  refine def_of T.g_paired T.f_paired sc_paired (fun _ _ _ _ _ _ us hl => match us, hl with | [_, _, _], _ => rfl) (fun vs H Q E h => ?_) (fun cdv A outer s H vs Q E hrm h => ?_)
  · obtain ⟨op, v, u, a, b, rfl, _⟩ := h
    rfl
  · obtain ⟨op, v, u, a, b, rfl, hv, hu, ka, kb, q⟩ := h
    refine ⟨_, (pss_cons (ps_if (pt_val (pe_dcall D_is_fault (hrm.mono (by decide)) (by rfl) passL (pa_cons (pv 1) pa_nil)))
 (pss_one (ps_ret (pv 1)))
 pss_nil)
 (pss_cons (ps_if (pt_val (pe_dcall D_is_fault (hrm.mono (by decide)) (by rfl) passL (pa_cons (pv 2) pa_nil)))
 (pss_one (ps_ret (pv 2)))
 pss_nil)
 (pss_cons (ps_if (pt_cmpR (op_eqU (K := K) hrm.units) (pv 0) pe_str (nomark _))
 (pss_one (ps_ret (pe_dcall D_joined (hrm.mono (by decide)) (by rfl) passL (pa_cons (pv 1) (pa_cons (pv 2) pa_nil)))))
 pss_nil)
 (pss_cons (ps_if (pt_cmpR (op_eqU (K := K) hrm.units) (pv 0) pe_str (nomark _))
 (pss_one (ps_ret (pe_callTy call_intU (by rfl) T.n_int (by decide +kernel) (pa_cons (pe_dcall D_same_worth (hrm.mono (by decide)) (by rfl) passL (pa_cons (pv 1) (pa_cons (pv 2) pa_nil))) pa_nil))))
 pss_nil)
 (pss_cons (ps_if (pt_cmpR (op_eqU (K := K) hrm.units) (pv 0) pe_str (nomark _))
 (pss_one (ps_ret (pe_dcall D_ahead_of (hrm.mono (by decide)) (by rfl) passL (pa_cons (pv 1) (pa_cons (pv 2) pa_nil)))))
 pss_nil)
 (pss_cons (ps_if (PW.pt (pw_or (pt_val (pe_dcall D_is_text (hrm.mono (by decide)) (by rfl) passL (pa_cons (pv 1) pa_nil))) (pw_or1 (pt_val (pe_dcall D_is_text (hrm.mono (by decide)) (by rfl) passL (pa_cons (pv 2) pa_nil))))))
 (pss_one (ps_ret (pe_dcall D_fault (hrm.mono (by decide)) (by rfl) passL (pa_cons pe_str pa_nil))))
 pss_nil)
 (pss_one (ps_ret (pe_dcall D_reckoned (hrm.mono (by decide)) (by rfl) passL (pa_cons (pv 0) (pa_cons (pe_dcall D_as_number (hrm.mono (by decide)) (by rfl) passL (pa_cons (pv 1) pa_nil)) (pa_cons (pe_dcall D_as_number (hrm.mono (by decide)) (by rfl) passL (pa_cons (pv 2) pa_nil)) pa_nil)))))))))))), ?_⟩
    rw [st_paired]
    try dsimp only [L2.cxOf]
    walk_at "rd"
    unfold pairedW at q
    refine s_iteB (fun fa => ?_) (fun fa => ?_)
    · rw [if_pos fa] at q
      walk_at "rd"
      exact q _ _ (Same.refl H) hv
    rw [if_neg (by rw [fa]; exact Bool.false_ne_true)] at q
    walk_at "rd"
    refine s_iteB (fun fb => ?_) (fun fb => ?_)
    · rw [if_pos fb] at q
      walk_at "rd"
      exact q _ _ (Same.refl H) hu
    rw [if_neg (by rw [fb]; exact Bool.false_ne_true)] at q
    walk_at "rd"
    refine s_iteD (fun c => ?_) (fun c => ?_)
    · rw [if_pos c] at q
      walk_at "rd"
      exact ⟨_, _, _, _, rfl, hv, hu, ka, kb, fa, fb, q⟩
    rw [if_neg c] at q
    walk_at "rd"
    refine s_iteD (fun c => ?_) (fun c => ?_)
    · rw [if_pos c] at q
      walk_at "rd"
      refine ⟨_, _, _, _, rfl, hv, hu, ka, kb, ?_⟩
      walk_at "rd"
      exact q _ _ (Same.refl H) rfl
    rw [if_neg c] at q
    walk_at "rd"
    refine s_iteD (fun c => ?_) (fun c => ?_)
    · rw [if_pos c] at q
      walk_at "rd"
      exact ⟨_, _, _, _, rfl, hv, hu, ka, kb, fa, fb, q⟩
    rw [if_neg c] at q
    walk_at "rd"
    refine s_iteB (fun sa => ?_) (fun sa => ?_)
    · rw [if_pos (.inl sa)] at q
      walk_at "rd"
      exact q
    walk_at "rd"
    refine s_iteB (fun sb => ?_) (fun sb => ?_)
    · rw [if_pos (.inr sb)] at q
      walk_at "rd"
      exact q
    rw [if_neg (by rw [sa, sb]; simp)] at q
    walk_at "rd"
    refine s_asN hv fa sa ?_
    walk_at "rd"
    refine s_asN hu fb sb ?_
    walk_at "rd"
    exact ⟨_, _, _, rfl, num_ok ka, num_ok kb, q⟩

end
end Ol

local macro_rules | `(tactic| walk_at "rw") => `(tactic| first | exact Ol.RW.n | exact Ol.RW.i | exact Ol.RW.s | assumption | exact Ol.RW.mono (by assumption) (by walk_at "rw"))
local macro_rules | `(tactic| walk_at "rd1") => `(tactic| with_reducible first
  | (show Ol.spIsFault _ _ _ _ _; refine Ol.s_isF (by with_unfolding_all walk_at "rw") ?_)
  | (show Ol.spIsText _ _ _ _ _; refine Ol.s_isS (by with_unfolding_all walk_at "rw") ?_)
  | (show Ol.spFault _ _ _ _ _; refine Ol.s_fltW ?_))

namespace Ol
open PySem PySem.Spec PyProof.Rows L2
section
variable {P : Program} {w : World} {K : PySem.W.Frag} {mg : Str → Option Value} {base : Heap}

/-- a drawn worth: some worth, the row gone on -/
def spWorth (K : PySem.W.Frag) : Sp := fun vs H Q _ => ∃ p n, vs = [.ref p] ∧ H p = some (.lst [.int n]) ∧ ∀ H' v a n', But p H H' → H' p = some (.lst [.int n']) → RW K H' v a → a.ok → Q v H'
theorem ok_worth (T : Txt K mg) (D__law_digit : Def P w K mg base 1 "_law_digit" ["row", "many"] spDigit) : Def P w K mg base 2 "_law_worth" ["row"] (spWorth K) := by
  refine def_of T.g__law_worth T.f__law_worth sc__law_worth (fun _ _ _ _ _ _ us hl => match us, hl with | [_], _ => rfl) (fun vs H Q E h => ?_) (fun cdv A outer s H vs Q E hrm h => ?_)
  · obtain ⟨p, n, rfl, _⟩ := h
    rfl
  · obtain ⟨p, n, rfl, hp, q⟩ := h
    refine ⟨_, (pss_cons (ps_set (i := 1) sc__law_worth.nd rfl (Or.inl rfl) (pe_dcall D__law_digit (hrm.mono (by decide)) (by rfl) passL (pa_cons (pv 0) (pa_cons pe_int pa_nil))))
 (pss_cons (ps_if (pt_cmpR (op_eqU (K := K) hrm.units) (pv 1) pe_int (nomark _))
 (pss_one (ps_ret pe_non))
 pss_nil)
 (pss_cons (ps_if (pt_cmpR (op_eqU (K := K) hrm.units) (pv 1) pe_int (nomark _))
 (pss_one (ps_ret (pe_tup (pa_cons pe_str (pa_cons (pe_ix (ix_seqK (K := K)) (pe_lst (pa_cons pe_str (pa_cons pe_str (pa_cons pe_str (pa_cons pe_str (pa_cons pe_str pa_nil)))))) (pe_dcall D__law_digit (hrm.mono (by decide)) (by rfl) passL (pa_cons (pv 0) (pa_cons pe_int pa_nil))) (fun _ _ => rfl)) pa_nil)))))
 pss_nil)
 (pss_cons (ps_if (pt_cmpR (op_eqU (K := K) hrm.units) (pv 1) pe_int (nomark _))
 (pss_one (ps_ret (pe_ix (ix_seqK (K := K)) (pe_lst (pa_cons pe_str (pa_cons pe_str (pa_cons pe_str (pa_cons pe_str (pa_cons (pe_op op_mulU pe_str pe_int) (pa_cons pe_str pa_nil))))))) (pe_dcall D__law_digit (hrm.mono (by decide)) (by rfl) passL (pa_cons (pv 0) (pa_cons pe_int pa_nil))) (fun _ _ => rfl))))
 pss_nil)
 (pss_cons (ps_if (pt_cmpR (op_eqU (K := K) hrm.units) (pv 1) pe_int (nomark _))
 (pss_one (ps_ret (pe_op op_sub (pe_dcall D__law_digit (hrm.mono (by decide)) (by rfl) passL (pa_cons (pv 0) (pa_cons (pe_op (op_addU (K := K)) (pe_op op_mulU pe_int (pe_op op_pow pe_int pe_int)) pe_int) pa_nil))) (pe_op op_pow pe_int pe_int))))
 pss_nil)
 (pss_cons (ps_if (pt_cmpR (op_eqU (K := K) hrm.units) (pv 1) pe_int (nomark _))
 (pss_one (ps_ret (pe_ix (ix_seqK (K := K)) (pe_lst (pa_cons (pe_op op_pow pe_int pe_int) (pa_cons (pe_un un_neg (pe_op op_pow pe_int pe_int)) (pa_cons (pe_op op_pow pe_int pe_int) (pa_cons (pe_op op_sub pe_int (pe_op op_pow pe_int pe_int)) pa_nil))))) (pe_dcall D__law_digit (hrm.mono (by decide)) (by rfl) passL (pa_cons (pv 0) (pa_cons pe_int pa_nil))) (fun _ _ => rfl))))
 pss_nil)
 (pss_one (ps_ret (pe_op op_sub (pe_dcall D__law_digit (hrm.mono (by decide)) (by rfl) passL (pa_cons (pv 0) (pa_cons pe_int pa_nil))) pe_int))))))))), ?_⟩
    rw [st__law_worth]
    try dsimp only [L2.cxOf]
    walk_at "rd"
    refine s_digit (m := 8) hp (by decide) (by decide +kernel) ?_
    walk_at "rd"
    have b1 : But p H (upd H p (HO.lst [V.int (n / 8)])) := But.upd
    have hp1 : (upd H p (HO.lst [V.int (n / 8)])) p = some (.lst [.int (n / 8)]) := upd_same
    generalize upd H p (HO.lst [V.int (n / 8)]) = H1 at *
    generalize n / 8 = n1 at *
    refine s_iteD (fun _ => ?_) (fun _ => ?_)
    · walk_at "rd"
      exact q _ _ .non _ b1 hp1 rfl trivial
    walk_at "rd"
    refine s_iteD (fun _ => ?_) (fun _ => ?_)
    · walk_at "rd"
      intro l hl
      walk_at "rd"
      refine s_digit (m := 5) (hf_new hl hp1) (by decide) (by decide +kernel) ?_
      have hpl : p ≠ l := ne_of_none hp1 hl
      have hm : ∃ m : Str, atI [V.str (Str.ofString "kind"), V.str (Str.ofString "great"), V.str (Str.ofString "nought"), V.str (Str.ofString "none"), V.str (Str.ofString "lost")] (n1 % 5) = some (.str m) ∧ m.length ≤ 20 ∧ PyData.strOk m = true := by
        rcases (show n1 % 5 = 0 ∨ n1 % 5 = 1 ∨ n1 % 5 = 2 ∨ n1 % 5 = 3 ∨ n1 % 5 = 4 by omega) with e | e | e | e | e <;> rw [e]
        all_goals exact ⟨_, rfl, by decide +kernel, by decide +kernel⟩
      obtain ⟨m, hm, m0⟩ := hm
      refine s_ixL (sl_of (hf_ne hpl.symm upd_same)) hm ?_
      walk_at "rd"
      intro t ht
      exact q _ _ (.flt m) _ ((b1.trans (But.new hl)).put.trans (But.new ht)) (hf_new ht upd_same) ⟨t, rfl, st_of upd_same⟩ m0
    walk_at "rd"
    refine s_iteD (fun _ => ?_) (fun _ => ?_)
    · walk_at "rd"
      intro l hl
      walk_at "rd"
      refine s_digit (m := 6) (hf_new hl hp1) (by decide) (by decide +kernel) ?_
      have hpl : p ≠ l := ne_of_none hp1 hl
      have hm : ∃ m : Str, atI [V.str (Str.ofString ""), V.str (Str.ofString "a"), V.str (Str.ofString "b7"), V.str (Str.ofString "no"), V.str (repS (Str.ofString "a") (Int.toNat 199)), V.str (Str.ofString "-1")] (n1 % 6) = some (.str m) ∧ m.length ≤ 200 ∧ PyData.strOk m = true := by
        rcases (show n1 % 6 = 0 ∨ n1 % 6 = 1 ∨ n1 % 6 = 2 ∨ n1 % 6 = 3 ∨ n1 % 6 = 4 ∨ n1 % 6 = 5 by omega) with e | e | e | e | e | e <;> rw [e]
        all_goals exact ⟨_, rfl, by decide +kernel, by decide +kernel⟩
      obtain ⟨m, hm, m0⟩ := hm
      refine s_ixL (sl_of (hf_ne hpl.symm upd_same)) hm ?_
      walk_at "rd"
      exact q _ _ (.str m) _ (b1.trans (But.new hl)).put upd_same rfl m0
    walk_at "rd"
    refine s_iteD (fun _ => ?_) (fun _ => ?_)
    · walk_at "rd"
      refine s_digit hp1 (by decide +kernel) (by decide +kernel) ?_
      walk_at "rd"
      refine q _ _ (.int _) _ (b1.put) upd_same rfl ?_
      have e : (10 : Int) ^ Int.toNat 60 = 10 ^ 60 := rfl
      rw [e]
      have h0 := Int.emod_nonneg n1 (show (2 * 10 ^ 60 + 1 : Int) ≠ 0 by decide +kernel)
      have h1 := Int.emod_lt_of_pos n1 (show (0 : Int) < (2 * 10 ^ 60 + 1 : Int) by decide +kernel)
      show Int.natAbs _ ≤ 10 ^ 60
      omega
    walk_at "rd"
    refine s_iteD (fun _ => ?_) (fun _ => ?_)
    · walk_at "rd"
      intro l hl
      walk_at "rd"
      refine s_digit (m := 4) (hf_new hl hp1) (by decide) (by decide +kernel) ?_
      have hpl : p ≠ l := ne_of_none hp1 hl
      have hm : ∃ m : Int, atI [V.int (10 ^ Int.toNat 60), V.int (-10 ^ Int.toNat 60), V.int (10 ^ Int.toNat 30), V.int (1 - 10 ^ Int.toNat 60)] (n1 % 4) = some (.int m) ∧ m.natAbs ≤ 10 ^ 60 := by
        rcases (show n1 % 4 = 0 ∨ n1 % 4 = 1 ∨ n1 % 4 = 2 ∨ n1 % 4 = 3 by omega) with e | e | e | e <;> rw [e]
        all_goals exact ⟨_, rfl, by decide +kernel⟩
      obtain ⟨m, hm, m0⟩ := hm
      refine s_ixL (sl_of (hf_ne hpl.symm upd_same)) hm ?_
      walk_at "rd"
      exact q _ _ (.int m) _ (b1.trans (But.new hl)).put upd_same rfl m0
    walk_at "rd"
    refine s_digit (m := 7) hp1 (by decide) (by decide +kernel) ?_
    walk_at "rd"
    refine q _ _ (.int _) _ b1.put upd_same rfl ?_
    show Int.natAbs _ ≤ 10 ^ 60
    omega

/-! worths as data -/
def Wo.d : Wo → PyData
  | .non => .none
  | .int i => .int i
  | .str s => .str s
  | .flt w => .tuple [.str "fault", .str w]
theorem RW.dp {H : Hp} {v : V} {a : Wo} (h : RW K H v a) : Dp K H v a.d := by
  cases a with
  | non => obtain rfl : v = .non := h; exact .non
  | int i => obtain rfl : v = .int i := h; exact .int i
  | str s => obtain rfl : v = .str s := h; exact .str s
  | flt w =>
    obtain ⟨p, rfl, hp⟩ := h
    exact .tup hp (.cons (.str _) (.cons (.str _) .nil))
theorem shaped_wo {a : Wo} (h : a.ok) : SeqAt.shaped a.d = true := by
  cases a with
  | non => rfl
  | int i => rfl
  | str s =>
    show (PyData.strOk s && decide (PyData.depth (.str s) ≤ 64)) = true
    rw [h.2]
    rfl
  | flt w =>
    show ((PyData.strOk "fault" && (PyData.strOk w && true)) && decide (PyData.depth (.tuple [.str "fault", .str w]) ≤ 64)) = true
    rw [h.2, show PyData.strOk (Str.ofString "fault") = true by decide +kernel]
    rfl
theorem s_eqW {H : Hp} {Q : VK} {v u : V} {a b : Wo} (h : RW K H v a) (h2 : RW K H u b) (ka : a.ok) (kb : b.ok) (q : Q (.bl (PyData.eqv a.d b.d)) H) : rEqU K v u H Q := s_eqD h.dp h2.dp (shaped_wo ka) (shaped_wo kb) q
theorem s_isiF {H : Hp} {Q : VK} {v : V} {a : Wo} (h : RW K H v a) (q : Q (.bl a.isF) H) : rIsi K [v, .ty "tuple"] H Q := by
  cases a with
  | flt w =>
    obtain ⟨p, rfl, hp⟩ := h
    exact s_isiSqT hp q
  | non => obtain rfl : v = .non := h; exact s_isiT .non q
  | int i => obtain rfl : v = .int i := h; exact s_isiT (.int i) q
  | str s => obtain rfl : v = .str s := h; exact s_isiT (.str s) q
theorem RW.but {H H' : Hp} {p : Addr} {xs : List V} {v : V} {a : Wo} (b : But p H H') (hp : H p = some (.lst xs)) (h : RW K H v a) : RW K H' v a := by
  cases a with
  | flt w =>
    obtain ⟨r, h1, h2⟩ := h
    refine ⟨r, h1, ?_⟩
    rcases h2 with (h2 | ⟨o, h2⟩) | h2
    · exact .inl (.inl (b _ _ (ne_of h2 hp (by intro z; cases z)) h2))
    · exact .inl (.inr ⟨o, b _ _ (ne_of h2 hp (by intro z; cases z)) h2⟩)
    · exact .inr h2
  | _ => exact h

/-! worths that may be asked for = -/
def Wo.fine : Wo → Prop
  | .str s => PyData.strOk s = true
  | .flt w => PyData.strOk w = true
  | _ => True
theorem Wo.ok.fine {a : Wo} (h : a.ok) : a.fine := by
  cases a with
  | str s => exact h.2
  | flt w => exact h.2
  | _ => trivial
theorem shaped_fine {a : Wo} (h : a.fine) : SeqAt.shaped a.d = true := by
  cases a with
  | non => rfl
  | int i => rfl
  | str s =>
    have h2 : PyData.strOk s = true := h
    show (PyData.strOk s && decide (PyData.depth (.str s) ≤ 64)) = true
    rw [h2]
    rfl
  | flt w =>
    have h2 : PyData.strOk w = true := h
    show ((PyData.strOk "fault" && (PyData.strOk w && true)) && decide (PyData.depth (.tuple [.str "fault", .str w]) ≤ 64)) = true
    rw [h2, show PyData.strOk (Str.ofString "fault") = true by decide +kernel]
    rfl
theorem strOk_ofString (s : String) : PyData.strOk (Str.ofString s) = true := by
  unfold PyData.strOk
  rw [← Array.all_toList, PyProof.Rows.signs_ofString, List.all_map, List.all_eq_true]
  intro c _
  have h := c.valid
  simp only [Function.comp, decide_eq_true_eq]
  show c.val.toNat < 0x110000
  rcases h with h | ⟨_, h⟩
  · have : c.val.toNat < 0xd800 := h
    omega
  · exact h
theorem strOk_append {a b : Str} (ha : PyData.strOk a = true) (hb : PyData.strOk b = true) : PyData.strOk (a ++ b) = true := by
  unfold PyData.strOk at *
  rw [Str.cps_append, Array.all_append, ha, hb]
  rfl
theorem txt_fine {a : Wo} (h : a.fine) : PyData.strOk a.txt = true := by
  cases a with
  | str s => exact h
  | int i => exact strOk_ofString _
  | non => exact strOk_ofString _
  | flt w => exact strOk_ofString _
def spSameF (K : PySem.W.Frag) : Sp := fun vs H Q _ => ∃ v u a, vs = [v, u] ∧ RW K H v a ∧ RW K H u a ∧ a.fine ∧ Q (.bl true) H
theorem ok_sameF (T : Txt K mg) : Def P w K mg base 1 "_law_same" ["one", "other"] (spSameF K) := by
  refine def_of T.g__law_same T.f__law_same sc__law_same (fun _ _ _ _ _ _ us hl => match us, hl with | [_, _], _ => rfl) (fun vs H Q E h => ?_) (fun cdv A outer s H vs Q E hrm h => ?_)
  · obtain ⟨v, u, a, rfl, _⟩ := h
    rfl
  · obtain ⟨v, u, a, rfl, hv, hu, ka, q⟩ := h
    refine ⟨_, (pss_cons (ps_if (PW.pt (pw_or (pt_val (pe_callB (call_isiK (K := K)) (by rfl) T.n_isinstance (by decide +kernel) (pa_cons (pv 0) (pa_cons (pe_bltn (v := .ty "bool") (u := .type "bool") rfl T.n_bool (by decide +kernel) (by rfl)) pa_nil)))) (pw_or1 (pt_val (pe_callB (call_isiK (K := K)) (by rfl) T.n_isinstance (by decide +kernel) (pa_cons (pv 1) (pa_cons (pe_bltn (v := .ty "bool") (u := .type "bool") rfl T.n_bool (by decide +kernel) (by rfl)) pa_nil)))))))
 (pss_one (ps_ret pe_bl))
 pss_nil)
 (pss_cons (ps_if (PW.pt (pw_or (pt_cmpR (op_neU (K := K) hrm.units) (pe_callB (call_isiK (K := K)) (by rfl) T.n_isinstance (by decide +kernel) (pa_cons (pv 0) (pa_cons (pe_bltn (v := .ty "int") (u := .type "int") rfl T.n_int (by decide +kernel) (by rfl)) pa_nil))) (pe_callB (call_isiK (K := K)) (by rfl) T.n_isinstance (by decide +kernel) (pa_cons (pv 1) (pa_cons (pe_bltn (v := .ty "int") (u := .type "int") rfl T.n_int (by decide +kernel) (by rfl)) pa_nil))) (nomark _)) (pw_or1 (pt_cmpR (op_neU (K := K) hrm.units) (pe_callB (call_isiK (K := K)) (by rfl) T.n_isinstance (by decide +kernel) (pa_cons (pv 0) (pa_cons (pe_bltn (v := .ty "str") (u := .type "str") rfl T.n_str (by decide +kernel) (by rfl)) pa_nil))) (pe_callB (call_isiK (K := K)) (by rfl) T.n_isinstance (by decide +kernel) (pa_cons (pv 1) (pa_cons (pe_bltn (v := .ty "str") (u := .type "str") rfl T.n_str (by decide +kernel) (by rfl)) pa_nil))) (nomark _)))))
 (pss_one (ps_ret pe_bl))
 pss_nil)
 (pss_one (ps_ret (pe_and (pe_cmpR (op_eqU (K := K) hrm.units) (pe_callB (call_isiK (K := K)) (by rfl) T.n_isinstance (by decide +kernel) (pa_cons (pv 0) (pa_cons (pe_bltn (v := .ty "tuple") (u := .type "tuple") rfl T.n_tuple (by decide +kernel) (by rfl)) pa_nil))) (pe_callB (call_isiK (K := K)) (by rfl) T.n_isinstance (by decide +kernel) (pa_cons (pv 1) (pa_cons (pe_bltn (v := .ty "tuple") (u := .type "tuple") rfl T.n_tuple (by decide +kernel) (by rfl)) pa_nil))) (nomark _)) (pe_one (pe_cmpR (op_eqU (K := K) hrm.units) (pv 0) (pv 1) (nomark _)))))))), ?_⟩
    rw [st__law_same]
    try dsimp only [L2.cxOf]
    walk_at "rd"
    cases a with
    | non =>
      obtain rfl : v = .non := hv
      obtain rfl : u = .non := hu
      walk_at "rd"
      exact s_eqD .non .non rfl rfl q
    | int i =>
      obtain rfl : v = .int i := hv
      obtain rfl : u = .int i := hu
      walk_at "rd"
      rw [decide_eq_true rfl]
      exact q
    | str i =>
      obtain rfl : v = .str i := hv
      obtain rfl : u = .str i := hu
      walk_at "rd"
      rw [decide_eq_true rfl]
      exact q
    | flt z =>
      obtain ⟨p, rfl, hp⟩ := id hv
      obtain ⟨p2, rfl, hp2⟩ := id hu
      walk_at "rd"
      refine s_eqD hv.dp hu.dp (shaped_fine ka) (shaped_fine ka) ?_
      rw [SeqAt.eqv_refl _ (Bool.and_eq_true_iff.mp (shaped_fine ka)).1]
      exact q

end
end Ol

local macro_rules | `(tactic| walk_at "rw") => `(tactic| first | exact Ol.RW.n | exact Ol.RW.i | exact Ol.RW.s | assumption | exact Ol.RW.mono (by assumption) (by walk_at "rw"))
local macro_rules | `(tactic| walk_at "rd1") => `(tactic| with_reducible first
  | (show Ol.spIsFault _ _ _ _ _; refine Ol.s_isF (by with_unfolding_all walk_at "rw") ?_)
  | (show Ol.spIsText _ _ _ _ _; refine Ol.s_isS (by with_unfolding_all walk_at "rw") ?_)
  | (show Ol.spFault _ _ _ _ _; refine Ol.s_fltW ?_))

local macro_rules | `(tactic| walk_at "rd1") => `(tactic| with_reducible first
  | (show Ol.spHeld _ _ _ _ _; refine Ol.s_held ?_)
  | (show Ol.spAsNumber _ _ _ _ _; refine Ol.s_asN (by with_unfolding_all walk_at "rw") (by with_unfolding_all rfl) (by with_unfolding_all rfl) ?_)
  | (show Ol.spAsText _ _ _ _ _; refine Ol.s_asT (by with_unfolding_all walk_at "rw") (by with_unfolding_all rfl) (by first | assumption | trivial) ?_))

namespace Ol
open PySem PySem.Spec PyProof.Rows L2
section
variable {P : Program} {w : World} {K : PySem.W.Frag} {mg : Str → Option Value} {base : Heap}

theorem ok_lnumber (T : Txt K mg) : Def P w K mg base 1 "_law_number" ["worth"] (spAsNumber K) := by
  refine def_of T.g__law_number T.f__law_number sc__law_number (fun _ _ _ _ _ _ us hl => match us, hl with | [_], _ => rfl) (fun vs H Q E h => ?_) (fun cdv A outer s H vs Q E hrm h => ?_)
  · obtain ⟨v, a, rfl, _⟩ := h
    rfl
  · obtain ⟨v, a, rfl, hv, h1, h2, q⟩ := h
    refine ⟨_, (pss_cons (ps_if (pt_cmpR op_isNo (pv 0) pe_non (nomark _))
 (pss_one (ps_ret pe_int))
 pss_nil)
 (pss_one (ps_ret (pv 0)))), ?_⟩
    rw [st__law_number]
    try dsimp only [L2.cxOf]
    walk_at "rd"
    cases a with
    | flt w => cases h1
    | str s => cases h2
    | non =>
      obtain rfl := hv
      walk_at "rd"
      exact q
    | int i =>
      obtain rfl := hv
      walk_at "rd"
      exact q
theorem ok_ltext (T : Txt K mg) : Def P w K mg base 1 "_law_text" ["worth"] (spAsText K) := by
  refine def_of T.g__law_text T.f__law_text sc__law_text (fun _ _ _ _ _ _ us hl => match us, hl with | [_], _ => rfl) (fun vs H Q E h => ?_) (fun cdv A outer s H vs Q E hrm h => ?_)
  · obtain ⟨v, a, rfl, _⟩ := h
    rfl
  · obtain ⟨v, a, rfl, hv, h1, h2, q⟩ := h
    refine ⟨_, (pss_cons (ps_if (pt_cmpR op_isNo (pv 0) pe_non (nomark _))
 (pss_one (ps_ret pe_str))
 pss_nil)
 (pss_one (ps_ret (pe_callTy call_strU (by rfl) T.n_str (by decide +kernel) (pa_cons (pv 0) pa_nil))))), ?_⟩
    rw [st__law_text]
    try dsimp only [L2.cxOf]
    walk_at "rd"
    cases a with
    | flt w => cases h1
    | str s =>
      obtain rfl := hv
      walk_at "rd"
      exact q
    | non =>
      obtain rfl := hv
      walk_at "rd"
      exact q
    | int i =>
      obtain rfl := hv
      walk_at "rd"
      refine ⟨log_1920 (Nat.le_trans h2 (by decide +kernel)), ?_⟩
      exact q
theorem ok_lheld (T : Txt K mg) : Def P w K mg base 1 "_law_held" ["number"] (spHeld K) := by
  refine def_of T.g__law_held T.f__law_held sc__law_held (fun _ _ _ _ _ _ us hl => match us, hl with | [_], _ => rfl) (fun vs H Q E h => ?_) (fun cdv A outer s H vs Q E hrm h => ?_)
  · obtain ⟨n, rfl, _⟩ := h
    rfl
  · obtain ⟨n, rfl, q⟩ := h
    refine ⟨_, (pss_cons (ps_if (PW.pt (pw_or (pt_cmpR op_gt (pv 0) (pe_op op_pow pe_int pe_int) (nomark _)) (pw_or1 (pt_cmpR op_ltU (pv 0) (pe_un un_neg (pe_op op_pow pe_int pe_int)) (nomark _)))))
 (pss_one (ps_ret (pe_tup (pa_cons pe_str (pa_cons pe_str pa_nil)))))
 pss_nil)
 (pss_one (ps_ret (pv 0)))), ?_⟩
    rw [st__law_held]
    try dsimp only [L2.cxOf]
    walk_at "rd"
    have e60 : (10 : Int) ^ Int.toNat 60 = 10 ^ 60 := rfl
    rw [e60]
    unfold heldN at q
    refine s_iteD (fun c => ?_) (fun c => ?_)
    · walk_at "rd"
      rw [if_pos (by omega)] at q
      exact fun t ht => q _ _ (Same.new ht) ⟨t, rfl, st_of upd_same⟩
    · walk_at "rd"
      rw [e60]
      refine s_iteD (fun c2 => ?_) (fun c2 => ?_)
      · walk_at "rd"
        rw [if_pos (by omega)] at q
        exact fun t ht => q _ _ (Same.new ht) ⟨t, rfl, st_of upd_same⟩
      · walk_at "rd"
        rw [if_neg (by omega)] at q
        exact q _ _ (Same.refl H) rfl
theorem ok_ljoined (T : Txt K mg) (D__law_text : Def P w K mg base 1 "_law_text" ["worth"] (spAsText K)) : Def P w K mg base 2 "_law_joined" ["one", "other"] (spJoined K) := by
  refine def_of T.g__law_joined T.f__law_joined sc__law_joined (fun _ _ _ _ _ _ us hl => match us, hl with | [_, _], _ => rfl) (fun vs H Q E h => ?_) (fun cdv A outer s H vs Q E hrm h => ?_)
  · obtain ⟨v, u, a, b, rfl, _⟩ := h
    rfl
  · obtain ⟨v, u, a, b, rfl, hv, hu, ka, kb, fa, fb, q⟩ := h
    refine ⟨_, (pss_cons (ps_set (i := 2) sc__law_joined.nd rfl (Or.inl rfl) (pe_op (op_addU (K := K)) (pe_dcall D__law_text (hrm.mono (by decide)) (by rfl) passL (pa_cons (pv 0) pa_nil)) (pe_dcall D__law_text (hrm.mono (by decide)) (by rfl) passL (pa_cons (pv 1) pa_nil))))
 (pss_cons (ps_if (pt_cmpR op_gt (pe_callB (call_lenU (K := K)) (by rfl) T.n_len (by decide +kernel) (pa_cons (pv 2) pa_nil)) pe_int (nomark _))
 (pss_one (ps_ret (pe_tup (pa_cons pe_str (pa_cons pe_str pa_nil)))))
 pss_nil)
 (pss_one (ps_ret (pv 2))))), ?_⟩
    rw [st__law_joined]
    try dsimp only [L2.cxOf]
    walk_at "rd"
    refine s_asT hv fa ka ?_
    walk_at "rd"
    refine s_asT hu fb kb ?_
    walk_at "rd"
    have h1 := txt_len ka
    have h2 := txt_len kb
    refine ⟨sz_le (by omega), ?_⟩
    walk_at "rd"
    unfold joinedW at q
    refine s_iteD (fun c => ?_) (fun c => ?_)
    · rw [if_pos (by omega)] at q
      walk_at "rd"
      exact fun t ht => q _ _ (Same.new ht) ⟨t, rfl, st_of upd_same⟩
    · rw [if_neg (by omega)] at q
      walk_at "rd"
      exact q _ _ (Same.refl H) rfl
def spAlike (K : PySem.W.Frag) : Sp := fun vs H Q _ => ∃ v u a b, vs = [v, u] ∧ RW K H v a ∧ RW K H u b ∧ a.ok ∧ b.ok ∧ a.isF = false ∧ b.isF = false ∧ Q (.int (if sameW a b then 1 else 0)) H
theorem ok_lalike (T : Txt K mg) (D__law_number : Def P w K mg base 1 "_law_number" ["worth"] (spAsNumber K)) (D__law_text : Def P w K mg base 1 "_law_text" ["worth"] (spAsText K)) : Def P w K mg base 2 "_law_alike" ["one", "other"] (spAlike K) := by
  refine def_of T.g__law_alike T.f__law_alike sc__law_alike (fun _ _ _ _ _ _ us hl => match us, hl with | [_, _], _ => rfl) (fun vs H Q E h => ?_) (fun cdv A outer s H vs Q E hrm h => ?_)
  · obtain ⟨v, u, a, b, rfl, _⟩ := h
    rfl
  · obtain ⟨v, u, a, b, rfl, hv, hu, ka, kb, fa, fb, q⟩ := h
    refine ⟨_, (pss_cons (ps_if (PW.pt (pw_or (PW.pt (pw_and (pt_val (pe_callB (call_isiK (K := K)) (by rfl) T.n_isinstance (by decide +kernel) (pa_cons (pv 0) (pa_cons (pe_bltn (v := .ty "str") (u := .type "str") rfl T.n_str (by decide +kernel) (by rfl)) pa_nil)))) (pw_and1 (pt_val (pe_callB (call_isiK (K := K)) (by rfl) T.n_isinstance (by decide +kernel) (pa_cons (pv 1) (pa_cons (pe_bltn (v := .ty "int") (u := .type "int") rfl T.n_int (by decide +kernel) (by rfl)) pa_nil))))))) (pw_or1 (PW.pt (pw_and (pt_val (pe_callB (call_isiK (K := K)) (by rfl) T.n_isinstance (by decide +kernel) (pa_cons (pv 0) (pa_cons (pe_bltn (v := .ty "int") (u := .type "int") rfl T.n_int (by decide +kernel) (by rfl)) pa_nil)))) (pw_and1 (pt_val (pe_callB (call_isiK (K := K)) (by rfl) T.n_isinstance (by decide +kernel) (pa_cons (pv 1) (pa_cons (pe_bltn (v := .ty "str") (u := .type "str") rfl T.n_str (by decide +kernel) (by rfl)) pa_nil))))))))))
 (pss_one (ps_ret pe_int))
 pss_nil)
 (pss_cons (ps_if (PW.pt (pw_or (pt_val (pe_callB (call_isiK (K := K)) (by rfl) T.n_isinstance (by decide +kernel) (pa_cons (pv 0) (pa_cons (pe_bltn (v := .ty "str") (u := .type "str") rfl T.n_str (by decide +kernel) (by rfl)) pa_nil)))) (pw_or1 (pt_val (pe_callB (call_isiK (K := K)) (by rfl) T.n_isinstance (by decide +kernel) (pa_cons (pv 1) (pa_cons (pe_bltn (v := .ty "str") (u := .type "str") rfl T.n_str (by decide +kernel) (by rfl)) pa_nil)))))))
 (pss_one (ps_ret (pe_callTy call_intU (by rfl) T.n_int (by decide +kernel) (pa_cons (pe_cmpR (op_eqU (K := K) hrm.units) (pe_dcall D__law_text (hrm.mono (by decide)) (by rfl) passL (pa_cons (pv 0) pa_nil)) (pe_dcall D__law_text (hrm.mono (by decide)) (by rfl) passL (pa_cons (pv 1) pa_nil)) (nomark _)) pa_nil))))
 pss_nil)
 (pss_one (ps_ret (pe_callTy call_intU (by rfl) T.n_int (by decide +kernel) (pa_cons (pe_cmpR (op_eqU (K := K) hrm.units) (pe_dcall D__law_number (hrm.mono (by decide)) (by rfl) passL (pa_cons (pv 0) pa_nil)) (pe_dcall D__law_number (hrm.mono (by decide)) (by rfl) passL (pa_cons (pv 1) pa_nil)) (nomark _)) pa_nil)))))), ?_⟩
    rw [st__law_alike]
    try dsimp only [L2.cxOf]
    walk_at "rd"
    cases a with
    | flt s => cases fa
    | non =>
      have e : v = .non := hv
      subst e
      cases b with
      | flt s => cases fb
      | non => have e : u = .non := hu; subst e; walk_at "rd"; exact q
      | int i => have e : u = .int i := hu; subst e; walk_at "rd"; exact q
      | str i => have e : u = .str i := hu; subst e; walk_at "rd"; exact q
    | int j =>
      have e : v = .int j := hv
      subst e
      cases b with
      | flt s => cases fb
      | non => have e : u = .non := hu; subst e; walk_at "rd"; exact q
      | int i => have e : u = .int i := hu; subst e; walk_at "rd"; exact q
      | str i => have e : u = .str i := hu; subst e; walk_at "rd"; exact q
    | str j =>
      have e : v = .str j := hv
      subst e
      cases b with
      | flt s => cases fb
      | non => have e : u = .non := hu; subst e; walk_at "rd"; exact q
      | int i => have e : u = .int i := hu; subst e; walk_at "rd"; exact q
      | str i => have e : u = .str i := hu; subst e; walk_at "rd"; exact q
theorem ok_lless (T : Txt K mg) (D__law_number : Def P w K mg base 1 "_law_number" ["worth"] (spAsNumber K)) (D__law_text : Def P w K mg base 1 "_law_text" ["worth"] (spAsText K)) : Def P w K mg base 2 "_law_less" ["one", "other"] (spAhead K) := by
  refine def_of T.g__law_less T.f__law_less sc__law_less (fun _ _ _ _ _ _ us hl => match us, hl with | [_, _], _ => rfl) (fun vs H Q E h => ?_) (fun cdv A outer s H vs Q E hrm h => ?_)
  · obtain ⟨v, u, a, b, rfl, _⟩ := h
    rfl
  · obtain ⟨v, u, a, b, rfl, hv, hu, ka, kb, fa, fb, q⟩ := h
    refine ⟨_, (pss_cons (ps_if (PW.pt (pw_or (PW.pt (pw_and (pt_val (pe_callB (call_isiK (K := K)) (by rfl) T.n_isinstance (by decide +kernel) (pa_cons (pv 0) (pa_cons (pe_bltn (v := .ty "str") (u := .type "str") rfl T.n_str (by decide +kernel) (by rfl)) pa_nil)))) (pw_and1 (pt_val (pe_callB (call_isiK (K := K)) (by rfl) T.n_isinstance (by decide +kernel) (pa_cons (pv 1) (pa_cons (pe_bltn (v := .ty "int") (u := .type "int") rfl T.n_int (by decide +kernel) (by rfl)) pa_nil))))))) (pw_or1 (PW.pt (pw_and (pt_val (pe_callB (call_isiK (K := K)) (by rfl) T.n_isinstance (by decide +kernel) (pa_cons (pv 0) (pa_cons (pe_bltn (v := .ty "int") (u := .type "int") rfl T.n_int (by decide +kernel) (by rfl)) pa_nil)))) (pw_and1 (pt_val (pe_callB (call_isiK (K := K)) (by rfl) T.n_isinstance (by decide +kernel) (pa_cons (pv 1) (pa_cons (pe_bltn (v := .ty "str") (u := .type "str") rfl T.n_str (by decide +kernel) (by rfl)) pa_nil))))))))))
 (pss_one (ps_ret (pe_tup (pa_cons pe_str (pa_cons pe_str pa_nil)))))
 pss_nil)
 (pss_cons (ps_if (PW.pt (pw_or (pt_val (pe_callB (call_isiK (K := K)) (by rfl) T.n_isinstance (by decide +kernel) (pa_cons (pv 0) (pa_cons (pe_bltn (v := .ty "str") (u := .type "str") rfl T.n_str (by decide +kernel) (by rfl)) pa_nil)))) (pw_or1 (pt_val (pe_callB (call_isiK (K := K)) (by rfl) T.n_isinstance (by decide +kernel) (pa_cons (pv 1) (pa_cons (pe_bltn (v := .ty "str") (u := .type "str") rfl T.n_str (by decide +kernel) (by rfl)) pa_nil)))))))
 (pss_one (ps_ret (pe_callTy call_intU (by rfl) T.n_int (by decide +kernel) (pa_cons (pe_cmpR op_ltU (pe_dcall D__law_text (hrm.mono (by decide)) (by rfl) passL (pa_cons (pv 0) pa_nil)) (pe_dcall D__law_text (hrm.mono (by decide)) (by rfl) passL (pa_cons (pv 1) pa_nil)) (nomark _)) pa_nil))))
 pss_nil)
 (pss_one (ps_ret (pe_callTy call_intU (by rfl) T.n_int (by decide +kernel) (pa_cons (pe_cmpR op_ltU (pe_dcall D__law_number (hrm.mono (by decide)) (by rfl) passL (pa_cons (pv 0) pa_nil)) (pe_dcall D__law_number (hrm.mono (by decide)) (by rfl) passL (pa_cons (pv 1) pa_nil)) (nomark _)) pa_nil)))))), ?_⟩
    rw [st__law_less]
    try dsimp only [L2.cxOf]
    walk_at "rd"
    cases a with
    | flt s => cases fa
    | non =>
      have e : v = .non := hv
      subst e
      cases b with
      | flt s => cases fb
      | non => have e : u = .non := hu; subst e; walk_at "rd"; exact q _ _ (Same.refl H) (by rw [int_ite]; rfl)
      | int i => have e : u = .int i := hu; subst e; walk_at "rd"; exact q _ _ (Same.refl H) (by rw [int_ite]; rfl)
      | str i => have e : u = .str i := hu; subst e; walk_at "rd"; exact q _ _ (Same.refl H) (by rw [int_ite]; rfl)
    | int j =>
      have e : v = .int j := hv
      subst e
      cases b with
      | flt s => cases fb
      | non => have e : u = .non := hu; subst e; walk_at "rd"; exact q _ _ (Same.refl H) (by rw [int_ite]; rfl)
      | int i => have e : u = .int i := hu; subst e; walk_at "rd"; exact q _ _ (Same.refl H) (by rw [int_ite]; rfl)
      | str i => have e : u = .str i := hu; subst e; walk_at "rd"; exact fun t ht => q _ _ (Same.new ht) ⟨t, rfl, st_of upd_same⟩
    | str j =>
      have e : v = .str j := hv
      subst e
      cases b with
      | flt s => cases fb
      | non => have e : u = .non := hu; subst e; walk_at "rd"; exact q _ _ (Same.refl H) (by rw [int_ite]; rfl)
      | int i => have e : u = .int i := hu; subst e; walk_at "rd"; exact fun t ht => q _ _ (Same.new ht) ⟨t, rfl, st_of upd_same⟩
      | str i => have e : u = .str i := hu; subst e; walk_at "rd"; exact q _ _ (Same.refl H) (by rw [int_ite]; rfl)
def spParted (K : PySem.W.Frag) : Sp := fun vs H Q _ => ∃ op i j, vs = [.str op, .int i, .int j] ∧ (op = "/" ∨ op = "rest") ∧ j.natAbs ≤ 10 ^ 60 ∧ RetW K H Q (dividedW op i j)
theorem ok_lparted (T : Txt K mg) : Def P w K mg base 1 "_law_parted" ["op", "one", "other"] (spParted K) := by
  refine def_of T.g__law_parted T.f__law_parted sc__law_parted (fun _ _ _ _ _ _ us hl => match us, hl with | [_, _, _], _ => rfl) (fun vs H Q E h => ?_) (fun cdv A outer s H vs Q E hrm h => ?_)
  · obtain ⟨op, i, j, rfl, _⟩ := h
    rfl
  · obtain ⟨op, i, j, rfl, hop, hj, q⟩ := h
    refine ⟨_, (pss_cons (ps_if (pt_cmpR (op_eqU (K := K) hrm.units) (pv 2) pe_int (nomark _))
 (pss_one (ps_ret (pe_tup (pa_cons pe_str (pa_cons pe_str pa_nil)))))
 pss_nil)
 (pss_cons (ps_asg (pe_callB call_divmodA (by rfl) T.n_divmod (by decide +kernel) (pa_cons (pv 1) (pa_cons (pv 2) pa_nil))) (pg_seq (K := K) (n := 2) rfl (by rfl) (pgs_cons (pg_name (i := 3) sc__law_parted.nd rfl (Or.inl rfl)) (pgs_cons (pg_name (i := 4) sc__law_parted.nd rfl (Or.inl rfl)) pgs_nil))))
 (pss_one (ps_ret (pe_ix (ix_seqK (K := K)) (pe_lst (pa_cons (pv 3) (pa_cons (pv 4) pa_nil))) (pe_callTy call_intU (by rfl) T.n_int (by decide +kernel) (pa_cons (pe_cmpR (op_eqU (K := K) hrm.units) (pv 0) pe_str (nomark _)) pa_nil)) (fun _ _ => rfl)))))), ?_⟩
    rw [st__law_parted]
    try dsimp only [L2.cxOf]
    walk_at "rd"
    unfold dividedW at q
    refine s_iteD (fun c => ?_) (fun c => ?_)
    · walk_at "rd"
      rw [if_pos c] at q
      exact fun t ht => q _ _ (Same.new ht) ⟨t, rfl, st_of upd_same⟩
    rw [if_neg c] at q
    walk_at "rd"
    refine ⟨⟨c, log_9000 (Nat.le_trans hj (by decide +kernel))⟩, fun t ht => ?_⟩
    walk_at "rd"
    intro l hl
    walk_at "rd"
    rcases hop with rfl | rfl
    · rw [if_pos rfl] at q
      refine s_ixL (sl_of upd_same) (v := .int (i.fdiv j)) rfl ?_
      exact q _ _ ((Same.new ht).trans (Same.new hl)) rfl
    · rw [if_neg (by decide +kernel)] at q
      refine s_ixL (sl_of upd_same) (v := .int (i.fmod j)) rfl ?_
      exact q _ _ ((Same.new ht).trans (Same.new hl)) rfl
def eightOps : List Str := ["+", "-", "*", "/", "rest", "&", "<", "="]
def spLPaired (K : PySem.W.Frag) : Sp := fun vs H Q _ => ∃ op v u a b, vs = [.str op, v, u] ∧ op ∈ eightOps ∧ RW K H v a ∧ RW K H u b ∧ a.ok ∧ b.ok ∧ RetW K H Q (pairedW op a b)
theorem ops_left {op : Str} (h : op ∈ eightOps) (h1 : ¬ op = "&") (h2 : ¬ op = "=") (h3 : ¬ op = "<") (h4 : ¬ op = "+") (h5 : ¬ op = "-") (h6 : ¬ op = "*") : op = "/" ∨ op = "rest" := by
  simp only [eightOps, List.mem_cons, List.not_mem_nil, or_false] at h
  rcases h with h | h | h | h | h | h | h | h
  · exact absurd h h4
  · exact absurd h h5
  · exact absurd h h6
  · exact .inl h
  · exact .inr h
  · exact absurd h h1
  · exact absurd h h3
  · exact absurd h h2
theorem s_isiS {H : Hp} {Q : VK} {v : V} {a : Wo} (h : RW K H v a) (q : Q (.bl a.isS) H) : rIsi K [v, .ty "str"] H Q := by
  cases a with
  | flt w =>
    obtain ⟨p, rfl, hp⟩ := h
    exact s_isiSqT hp q
  | non => obtain rfl : v = .non := h; exact s_isiT .non q
  | int i => obtain rfl : v = .int i := h; exact s_isiT (.int i) q
  | str s => obtain rfl : v = .str s := h; exact s_isiT (.str s) q
theorem ok_lpaired (T : Txt K mg) (D__law_number : Def P w K mg base 1 "_law_number" ["worth"] (spAsNumber K)) (D__law_held : Def P w K mg base 1 "_law_held" ["number"] (spHeld K)) (D__law_joined : Def P w K mg base 2 "_law_joined" ["one", "other"] (spJoined K)) (D__law_alike : Def P w K mg base 2 "_law_alike" ["one", "other"] (spAlike K))
    (D__law_less : Def P w K mg base 2 "_law_less" ["one", "other"] (spAhead K)) (D__law_parted : Def P w K mg base 1 "_law_parted" ["op", "one", "other"] (spParted K)) : Def P w K mg base 3 "_law_paired" ["op", "one", "other"] (spLPaired K) := by
  refine def_of T.g__law_paired T.f__law_paired sc__law_paired (fun _ _ _ _ _ _ us hl => match us, hl with | [_, _, _], _ => rfl) (fun vs H Q E h => ?_) (fun cdv A outer s H vs Q E hrm h => ?_)
  · obtain ⟨op, v, u, a, b, rfl, _⟩ := h
    rfl
  · obtain ⟨op, v, u, a, b, rfl, hop, hv, hu, ka, kb, q⟩ := h
    refine ⟨_, (pss_cons (ps_if (pt_val (pe_callB (call_isiK (K := K)) (by rfl) T.n_isinstance (by decide +kernel) (pa_cons (pv 1) (pa_cons (pe_bltn (v := .ty "tuple") (u := .type "tuple") rfl T.n_tuple (by decide +kernel) (by rfl)) pa_nil))))
 (pss_one (ps_ret (pv 1)))
 pss_nil)
 (pss_cons (ps_if (pt_val (pe_callB (call_isiK (K := K)) (by rfl) T.n_isinstance (by decide +kernel) (pa_cons (pv 2) (pa_cons (pe_bltn (v := .ty "tuple") (u := .type "tuple") rfl T.n_tuple (by decide +kernel) (by rfl)) pa_nil))))
 (pss_one (ps_ret (pv 2)))
 pss_nil)
 (pss_cons (ps_if (pt_cmpR (op_eqU (K := K) hrm.units) (pv 0) pe_str (nomark _))
 (pss_one (ps_ret (pe_dcall D__law_joined (hrm.mono (by decide)) (by rfl) passL (pa_cons (pv 1) (pa_cons (pv 2) pa_nil)))))
 pss_nil)
 (pss_cons (ps_if (pt_cmpR (op_eqU (K := K) hrm.units) (pv 0) pe_str (nomark _))
 (pss_one (ps_ret (pe_dcall D__law_alike (hrm.mono (by decide)) (by rfl) passL (pa_cons (pv 1) (pa_cons (pv 2) pa_nil)))))
 pss_nil)
 (pss_cons (ps_if (pt_cmpR (op_eqU (K := K) hrm.units) (pv 0) pe_str (nomark _))
 (pss_one (ps_ret (pe_dcall D__law_less (hrm.mono (by decide)) (by rfl) passL (pa_cons (pv 1) (pa_cons (pv 2) pa_nil)))))
 pss_nil)
 (pss_cons (ps_if (PW.pt (pw_or (pt_val (pe_callB (call_isiK (K := K)) (by rfl) T.n_isinstance (by decide +kernel) (pa_cons (pv 1) (pa_cons (pe_bltn (v := .ty "str") (u := .type "str") rfl T.n_str (by decide +kernel) (by rfl)) pa_nil)))) (pw_or1 (pt_val (pe_callB (call_isiK (K := K)) (by rfl) T.n_isinstance (by decide +kernel) (pa_cons (pv 2) (pa_cons (pe_bltn (v := .ty "str") (u := .type "str") rfl T.n_str (by decide +kernel) (by rfl)) pa_nil)))))))
 (pss_one (ps_ret (pe_tup (pa_cons pe_str (pa_cons pe_str pa_nil)))))
 pss_nil)
 (pss_cons (ps_set (i := 1) sc__law_paired.nd rfl (Or.inl rfl) (pe_dcall D__law_number (hrm.mono (by decide)) (by rfl) passL (pa_cons (pv 1) pa_nil)))
 (pss_cons (ps_set (i := 2) sc__law_paired.nd rfl (Or.inl rfl) (pe_dcall D__law_number (hrm.mono (by decide)) (by rfl) passL (pa_cons (pv 2) pa_nil)))
 (pss_cons (ps_if (pt_cmpR (op_eqU (K := K) hrm.units) (pv 0) pe_str (nomark _))
 (pss_one (ps_ret (pe_dcall D__law_held (hrm.mono (by decide)) (by rfl) passL (pa_cons (pe_op (op_addU (K := K)) (pv 1) (pv 2)) pa_nil))))
 pss_nil)
 (pss_cons (ps_if (pt_cmpR (op_eqU (K := K) hrm.units) (pv 0) pe_str (nomark _))
 (pss_one (ps_ret (pe_dcall D__law_held (hrm.mono (by decide)) (by rfl) passL (pa_cons (pe_op op_sub (pv 1) (pv 2)) pa_nil))))
 pss_nil)
 (pss_cons (ps_if (pt_cmpR (op_eqU (K := K) hrm.units) (pv 0) pe_str (nomark _))
 (pss_one (ps_ret (pe_dcall D__law_held (hrm.mono (by decide)) (by rfl) passL (pa_cons (pe_op op_mulU (pv 1) (pv 2)) pa_nil))))
 pss_nil)
 (pss_one (ps_ret (pe_dcall D__law_parted (hrm.mono (by decide)) (by rfl) passL (pa_cons (pv 0) (pa_cons (pv 1) (pa_cons (pv 2) pa_nil))))))))))))))))), ?_⟩
    rw [st__law_paired]
    try dsimp only [L2.cxOf]
    walk_at "rd"
    unfold pairedW at q
    refine s_isiF hv ?_
    walk_at "rd"
    refine s_iteB (fun fa => ?_) (fun fa => ?_)
    · rw [if_pos fa] at q
      walk_at "rd"
      exact q _ _ (Same.refl H) hv
    rw [if_neg (by rw [fa]; exact Bool.false_ne_true)] at q
    walk_at "rd"
    refine s_isiF hu ?_
    walk_at "rd"
    refine s_iteB (fun fb => ?_) (fun fb => ?_)
    · rw [if_pos fb] at q
      walk_at "rd"
      exact q _ _ (Same.refl H) hu
    rw [if_neg (by rw [fb]; exact Bool.false_ne_true)] at q
    walk_at "rd"
    refine s_iteD (fun c => ?_) (fun c1 => ?_)
    · rw [if_pos c] at q
      walk_at "rd"
      exact ⟨_, _, _, _, rfl, hv, hu, ka, kb, fa, fb, q⟩
    rw [if_neg c1] at q
    walk_at "rd"
    refine s_iteD (fun c => ?_) (fun c2 => ?_)
    · rw [if_pos c] at q
      walk_at "rd"
      exact ⟨_, _, _, _, rfl, hv, hu, ka, kb, fa, fb, q _ _ (Same.refl H) rfl⟩
    rw [if_neg c2] at q
    walk_at "rd"
    refine s_iteD (fun c => ?_) (fun c3 => ?_)
    · rw [if_pos c] at q
      walk_at "rd"
      exact ⟨_, _, _, _, rfl, hv, hu, ka, kb, fa, fb, q⟩
    rw [if_neg c3] at q
    walk_at "rd"
    refine s_isiS hv ?_
    walk_at "rd"
    refine s_iteB (fun sa => ?_) (fun sa => ?_)
    · rw [if_pos (.inl sa)] at q
      walk_at "rd"
      exact fun t ht => q _ _ (Same.new ht) ⟨t, rfl, st_of upd_same⟩
    walk_at "rd"
    refine s_isiS hu ?_
    walk_at "rd"
    refine s_iteB (fun sb => ?_) (fun sb => ?_)
    · rw [if_pos (.inr sb)] at q
      walk_at "rd"
      exact fun t ht => q _ _ (Same.new ht) ⟨t, rfl, st_of upd_same⟩
    rw [if_neg (by rw [sa, sb]; simp)] at q
    walk_at "rd"
    refine s_asN hv fa sa ?_
    walk_at "rd"
    refine s_asN hu fb sb ?_
    walk_at "rd"
    unfold reckW at q
    refine s_iteD (fun c => ?_) (fun c4 => ?_)
    · rw [if_pos c] at q
      walk_at "rd"
      exact q
    rw [if_neg c4] at q
    walk_at "rd"
    refine s_iteD (fun c => ?_) (fun c5 => ?_)
    · rw [if_pos c] at q
      walk_at "rd"
      exact q
    rw [if_neg c5] at q
    walk_at "rd"
    refine s_iteD (fun c => ?_) (fun c6 => ?_)
    · rw [if_pos c] at q
      walk_at "rd"
      refine ⟨wide_600 (Nat.le_trans (num_ok ka) (by decide +kernel)) (Nat.le_trans (num_ok kb) (by decide +kernel)), ?_⟩
      walk_at "rd"
      exact q
    rw [if_neg c6] at q
    walk_at "rd"
    exact ⟨op, _, _, rfl, ops_left hop c1 c2 c3 c4 c5 c6, num_ok kb, q⟩
def singleW (word : Str) (a : Wo) : Wo := if a.isF = true then a else if a.isS = true then .flt "kind" else if word = "minus" then .int (-a.num) else .int (if a.num = 0 then 1 else 0)
def spSingle (K : PySem.W.Frag) : Sp := fun vs H Q _ => ∃ word v a, vs = [.str word, v] ∧ RW K H v a ∧ RetW K H Q (singleW word a)
theorem ok_single (T : Txt K mg) (D_is_fault : Def P w K mg base 1 "is_fault" ["worth"] (spIsFault K)) (D_is_text : Def P w K mg base 1 "is_text" ["worth"] (spIsText K)) (D_as_number : Def P w K mg base 1 "as_number" ["worth"] (spAsNumber K)) (D_fault : Def P w K mg base 1 "fault" ["word"] (spFault K)) : Def P w K mg base 2 "single" ["word", "one"] (spSingle K) := by
  refine def_of T.g_single T.f_single sc_single (fun _ _ _ _ _ _ us hl => match us, hl with | [_, _], _ => rfl) (fun vs H Q E h => ?_) (fun cdv A outer s H vs Q E hrm h => ?_)
  · obtain ⟨word, v, a, rfl, _⟩ := h
    rfl
  · obtain ⟨word, v, a, rfl, hv, q⟩ := h
    refine ⟨_, (pss_cons (ps_if (pt_val (pe_dcall D_is_fault (hrm.mono (by decide)) (by rfl) passL (pa_cons (pv 1) pa_nil)))
 (pss_one (ps_ret (pv 1)))
 pss_nil)
 (pss_cons (ps_if (pt_val (pe_dcall D_is_text (hrm.mono (by decide)) (by rfl) passL (pa_cons (pv 1) pa_nil)))
 (pss_one (ps_ret (pe_dcall D_fault (hrm.mono (by decide)) (by rfl) passL (pa_cons pe_str pa_nil))))
 pss_nil)
 (pss_cons (ps_if (pt_cmpR (op_eqU (K := K) hrm.units) (pv 0) pe_str (nomark _))
 (pss_one (ps_ret (pe_un un_neg (pe_dcall D_as_number (hrm.mono (by decide)) (by rfl) passL (pa_cons (pv 1) pa_nil)))))
 pss_nil)
 (pss_one (ps_ret (pe_callTy call_intU (by rfl) T.n_int (by decide +kernel) (pa_cons (pe_cmpR (op_eqU (K := K) hrm.units) (pe_dcall D_as_number (hrm.mono (by decide)) (by rfl) passL (pa_cons (pv 1) pa_nil)) pe_int (nomark _)) pa_nil))))))), ?_⟩
    rw [st_single]
    try dsimp only [L2.cxOf]
    walk_at "rd"
    unfold singleW at q
    refine s_iteB (fun fa => ?_) (fun fa => ?_)
    · rw [if_pos fa] at q
      walk_at "rd"
      exact q _ _ (Same.refl H) hv
    rw [if_neg (by rw [fa]; exact Bool.false_ne_true)] at q
    walk_at "rd"
    refine s_iteB (fun sa => ?_) (fun sa => ?_)
    · rw [if_pos sa] at q
      walk_at "rd"
      exact q
    rw [if_neg (by rw [sa]; exact Bool.false_ne_true)] at q
    walk_at "rd"
    refine s_iteD (fun c => ?_) (fun c => ?_)
    · rw [if_pos c] at q
      walk_at "rd"
      refine s_asN hv fa sa ?_
      walk_at "rd"
      exact q _ _ (Same.refl H) rfl
    · rw [if_neg c] at q
      walk_at "rd"
      refine s_asN hv fa sa ?_
      walk_at "rd"
      exact q _ _ (Same.refl H) (by rw [int_ite]; rfl)
theorem ok_lsingle (T : Txt K mg) (D__law_number : Def P w K mg base 1 "_law_number" ["worth"] (spAsNumber K)) : Def P w K mg base 2 "_law_single" ["word", "one"] (spSingle K) := by
  refine def_of T.g__law_single T.f__law_single sc__law_single (fun _ _ _ _ _ _ us hl => match us, hl with | [_, _], _ => rfl) (fun vs H Q E h => ?_) (fun cdv A outer s H vs Q E hrm h => ?_)
  · obtain ⟨word, v, a, rfl, _⟩ := h
    rfl
  · obtain ⟨word, v, a, rfl, hv, q⟩ := h
    refine ⟨_, (pss_cons (ps_if (pt_val (pe_callB (call_isiK (K := K)) (by rfl) T.n_isinstance (by decide +kernel) (pa_cons (pv 1) (pa_cons (pe_bltn (v := .ty "tuple") (u := .type "tuple") rfl T.n_tuple (by decide +kernel) (by rfl)) pa_nil))))
 (pss_one (ps_ret (pv 1)))
 pss_nil)
 (pss_cons (ps_if (pt_val (pe_callB (call_isiK (K := K)) (by rfl) T.n_isinstance (by decide +kernel) (pa_cons (pv 1) (pa_cons (pe_bltn (v := .ty "str") (u := .type "str") rfl T.n_str (by decide +kernel) (by rfl)) pa_nil))))
 (pss_one (ps_ret (pe_tup (pa_cons pe_str (pa_cons pe_str pa_nil)))))
 pss_nil)
 (pss_cons (ps_if (pt_cmpR (op_eqU (K := K) hrm.units) (pv 0) pe_str (nomark _))
 (pss_one (ps_ret (pe_op op_sub pe_int (pe_dcall D__law_number (hrm.mono (by decide)) (by rfl) passL (pa_cons (pv 1) pa_nil)))))
 pss_nil)
 (pss_one (ps_ret (pe_callTy call_intU (by rfl) T.n_int (by decide +kernel) (pa_cons (pe_cmpR (op_eqU (K := K) hrm.units) (pe_dcall D__law_number (hrm.mono (by decide)) (by rfl) passL (pa_cons (pv 1) pa_nil)) pe_int (nomark _)) pa_nil))))))), ?_⟩
    rw [st__law_single]
    try dsimp only [L2.cxOf]
    walk_at "rd"
    unfold singleW at q
    refine s_isiF hv ?_
    walk_at "rd"
    refine s_iteB (fun fa => ?_) (fun fa => ?_)
    · rw [if_pos fa] at q
      walk_at "rd"
      exact q _ _ (Same.refl H) hv
    rw [if_neg (by rw [fa]; exact Bool.false_ne_true)] at q
    walk_at "rd"
    refine s_isiS hv ?_
    walk_at "rd"
    refine s_iteB (fun sa => ?_) (fun sa => ?_)
    · rw [if_pos sa] at q
      walk_at "rd"
      exact fun t ht => q _ _ (Same.new ht) ⟨t, rfl, st_of upd_same⟩
    rw [if_neg (by rw [sa]; exact Bool.false_ne_true)] at q
    walk_at "rd"
    refine s_iteD (fun c => ?_) (fun c => ?_)
    · rw [if_pos c] at q
      walk_at "rd"
      refine s_asN hv fa sa ?_
      walk_at "rd"
      refine q _ _ (Same.refl H) ?_
      rw [Int.zero_sub]
      rfl
    · rw [if_neg c] at q
      walk_at "rd"
      refine s_asN hv fa sa ?_
      walk_at "rd"
      exact q _ _ (Same.refl H) (by rw [int_ite]; rfl)

end
end Ol

local macro_rules | `(tactic| walk_at "rw") => `(tactic| first | exact Ol.RW.n | exact Ol.RW.i | exact Ol.RW.s | assumption | exact Ol.RW.mono (by assumption) (by walk_at "rw"))
local macro_rules | `(tactic| walk_at "rd1") => `(tactic| with_reducible first
  | (show Ol.spIsFault _ _ _ _ _; refine Ol.s_isF (by with_unfolding_all walk_at "rw") ?_)
  | (show Ol.spIsText _ _ _ _ _; refine Ol.s_isS (by with_unfolding_all walk_at "rw") ?_)
  | (show Ol.spFault _ _ _ _ _; refine Ol.s_fltW ?_))

namespace Ol
open PySem PySem.Spec PyProof.Rows L2
section
variable {P : Program} {w : World} {K : PySem.W.Frag} {mg : Str → Option Value} {base : Heap}

theorem held_fine (n : Int) : (heldN n).fine := by
  unfold heldN
  split
  · exact (by decide +kernel : PyData.strOk (Str.ofString "great") = true)
  · trivial
theorem paired_fine {op : Str} {a b : Wo} (ka : a.fine) (kb : b.fine) : (pairedW op a b).fine := by
  have kind : (Wo.flt "kind").fine := (by decide +kernel : PyData.strOk (Str.ofString "kind") = true)
  unfold pairedW
  split
  · exact ka
  split
  · exact kb
  split
  · unfold joinedW
    split
    · exact (by decide +kernel : PyData.strOk (Str.ofString "great") = true)
    · exact strOk_append (txt_fine ka) (txt_fine kb)
  split
  · trivial
  split
  · cases a <;> cases b <;> first | exact kind | trivial
  split
  · exact kind
  · unfold reckW
    split
    · exact held_fine _
    split
    · exact held_fine _
    split
    · exact held_fine _
    unfold dividedW
    split
    · exact (by decide +kernel : PyData.strOk (Str.ofString "nought") = true)
    split <;> trivial
theorem single_fine {op : Str} {a : Wo} (ka : a.fine) : (singleW op a).fine := by
  unfold singleW
  split
  · exact ka
  split
  · exact (by decide +kernel : PyData.strOk (Str.ofString "kind") = true)
  split <;> trivial
theorem ok_law (T : Txt K mg) : Def P w K mg base 5 "law" ["script"] (spLawB K) := by
  have D__law_digit : Def P w K mg base 1 "_law_digit" ["row", "many"] spDigit := ok_digit T
  have D__law_worth : Def P w K mg base 2 "_law_worth" ["row"] (spWorth K) := ok_worth T D__law_digit
  have D_is_fault : Def P w K mg base 1 "is_fault" ["worth"] (spIsFault K) := ok_is_fault T
  have D_is_text : Def P w K mg base 1 "is_text" ["worth"] (spIsText K) := ok_is_text T
  have D_fault : Def P w K mg base 1 "fault" ["word"] (spFault K) := ok_fault T
  have D_held_number : Def P w K mg base 2 "held_number" ["number"] (spHeld K) := ok_held T D_fault
  have D_as_number : Def P w K mg base 1 "as_number" ["worth"] (spAsNumber K) := ok_as_number T
  have D_as_text : Def P w K mg base 1 "as_text" ["worth"] (spAsText K) := ok_as_text T
  have D_same_worth : Def P w K mg base 2 "same_worth" ["one", "other"] (spSame K) := ok_same T D_is_fault D_is_text D_as_number D_as_text
  have D_divided : Def P w K mg base 2 "divided" ["op", "one", "other"] (spDivided K) := ok_divided T D_fault
  have D_reckoned : Def P w K mg base 3 "reckoned" ["op", "one", "other"] (spReckoned K) := ok_reckoned T D_held_number D_divided
  have D_joined : Def P w K mg base 2 "joined" ["one", "other"] (spJoined K) := ok_joined T D_as_text D_fault
  have D_ahead_of : Def P w K mg base 2 "ahead_of" ["one", "other"] (spAhead K) := ok_ahead T D_is_text D_as_number D_as_text D_fault
  have D_paired : Def P w K mg base 4 "paired" ["op", "one", "other"] (spPaired K) := ok_paired T D_is_fault D_is_text D_as_number D_fault D_joined D_same_worth D_ahead_of D_reckoned
  have D_single : Def P w K mg base 2 "single" ["word", "one"] (spSingle K) := ok_single T D_is_fault D_is_text D_as_number D_fault
  have D__law_same : Def P w K mg base 1 "_law_same" ["one", "other"] (spSameF K) := ok_sameF T
  have D__law_number : Def P w K mg base 1 "_law_number" ["worth"] (spAsNumber K) := ok_lnumber T
  have D__law_text : Def P w K mg base 1 "_law_text" ["worth"] (spAsText K) := ok_ltext T
  have D__law_held : Def P w K mg base 1 "_law_held" ["number"] (spHeld K) := ok_lheld T
  have D__law_joined : Def P w K mg base 2 "_law_joined" ["one", "other"] (spJoined K) := ok_ljoined T D__law_text
  have D__law_alike : Def P w K mg base 2 "_law_alike" ["one", "other"] (spAlike K) := ok_lalike T D__law_number D__law_text
  have D__law_less : Def P w K mg base 2 "_law_less" ["one", "other"] (spAhead K) := ok_lless T D__law_number D__law_text
  have D__law_parted : Def P w K mg base 1 "_law_parted" ["op", "one", "other"] (spParted K) := ok_lparted T
  have D__law_paired : Def P w K mg base 3 "_law_paired" ["op", "one", "other"] (spLPaired K) := ok_lpaired T D__law_number D__law_held D__law_joined D__law_alike D__law_less D__law_parted
  have D__law_single : Def P w K mg base 2 "_law_single" ["word", "one"] (spSingle K) := ok_lsingle T D__law_number
  refine def_of T.g_law T.f_law sc_law (fun _ _ _ _ _ _ us hl => match us, hl with | [_], _ => rfl) (fun vs H Q E h => ?_) (fun cdv A outer s H vs Q E hrm h => ?_)
  · obtain ⟨a, ns, rfl, _⟩ := h
    rfl
  · obtain ⟨a, ns, rfl, hS, hl, hb, q⟩ := h
    refine ⟨_, (pss_cons (ps_for (passes_of rfl) rfl (pi_listK (K := K) (pe_op (op_addU (K := K)) (pe_lst (pa_cons pe_int pa_nil)) (pv 0))) (pg_name (i := 1) sc_law.nd rfl (Or.inl rfl))
 (pss_cons (ps_set (i := 2) sc_law.nd rfl (Or.inl rfl) (pe_lst (pa_cons (pe_op op_mod (pv 1) (pe_op op_mulU (pe_op op_pow pe_int pe_int) (pe_op op_pow pe_int pe_int))) pa_nil)))
 (pss_cons (ps_set (i := 3) sc_law.nd rfl (Or.inl rfl) (pe_dcall D__law_worth (hrm.mono (by decide)) (by rfl) passL (pa_cons (pv 2) pa_nil)))
 (pss_cons (ps_set (i := 4) sc_law.nd rfl (Or.inl rfl) (pe_dcall D__law_worth (hrm.mono (by decide)) (by rfl) passL (pa_cons (pv 2) pa_nil)))
 (pss_one (ps_for (passes_of rfl) rfl (pi_listK (K := K) (pe_lst (pa_cons (pe_tup (pa_cons (pv 3) (pa_cons (pv 4) pa_nil))) (pa_cons (pe_tup (pa_cons (pv 4) (pa_cons (pv 3) pa_nil))) (pa_cons (pe_tup (pa_cons (pv 3) (pa_cons (pv 3) pa_nil))) pa_nil))))) (pg_seq (K := K) (n := 2) rfl (by rfl) (pgs_cons (pg_name (i := 5) sc_law.nd rfl (Or.inl rfl)) (pgs_cons (pg_name (i := 6) sc_law.nd rfl (Or.inl rfl)) pgs_nil)))
 (pss_cons (ps_for (passes_of rfl) rfl (pi_listK (K := K) (pe_lst (pa_cons pe_str (pa_cons pe_str (pa_cons pe_str (pa_cons pe_str (pa_cons pe_str (pa_cons pe_str (pa_cons pe_str (pa_cons pe_str pa_nil)))))))))) (pg_name (i := 7) sc_law.nd rfl (Or.inl rfl))
 (pss_one (ps_if (pt_not (pt_val (pe_dcall D__law_same (hrm.mono (by decide)) (by rfl) passL (pa_cons (pe_dcall D_paired (hrm.mono (by decide)) (by rfl) passL (pa_cons (pv 7) (pa_cons (pv 5) (pa_cons (pv 6) pa_nil)))) (pa_cons (pe_dcall D__law_paired (hrm.mono (by decide)) (by rfl) passL (pa_cons (pv 7) (pa_cons (pv 5) (pa_cons (pv 6) pa_nil)))) pa_nil)))))
 (pss_one (ps_ret pe_bl))
 pss_nil)))
 (pss_one (ps_for (passes_of rfl) rfl (pi_listK (K := K) (pe_lst (pa_cons pe_str (pa_cons pe_str pa_nil)))) (pg_name (i := 8) sc_law.nd rfl (Or.inl rfl))
 (pss_one (ps_if (pt_not (pt_val (pe_dcall D__law_same (hrm.mono (by decide)) (by rfl) passL (pa_cons (pe_dcall D_single (hrm.mono (by decide)) (by rfl) passL (pa_cons (pv 8) (pa_cons (pv 5) pa_nil))) (pa_cons (pe_dcall D__law_single (hrm.mono (by decide)) (by rfl) passL (pa_cons (pv 8) (pa_cons (pv 5) pa_nil))) pa_nil)))))
 (pss_one (ps_ret pe_bl))
 pss_nil)))))))))))
 (pss_one (ps_ret pe_bl))), ?_⟩
    rw [st_law]
    try dsimp only [L2.cxOf]
    walk_at "rd"
    intro l hl
    walk_at "rd"
    intro c hc
    walk_at "rd"
    have hx : [V.int 0] ++ ns.map V.int = ([0] ++ ns).map V.int := by rw [List.map_append]; rfl
    have s1 : Same H (upd (upd H l (HO.lst [V.int 0])) c (HO.lst ([V.int 0] ++ ns.map V.int))) := (Same.new hl).trans (Same.new hc)
    have h1 : (upd (upd H l (HO.lst [V.int 0])) c (HO.lst ([V.int 0] ++ ns.map V.int))) c = some (.lst (([0] ++ ns).map V.int)) := by rw [upd_same, hx]
    generalize upd (upd H l (HO.lst [V.int 0])) c (HO.lst ([V.int 0] ++ ns.map V.int)) = H1 at *
    refine s_forL (xs := ([0] ++ ns).map V.int) (fun i σ H' => ∃ v1 v2 v3 v4 v5 v6 v7 v8, σ = [some (.ref a), v1, v2, v3, v4, v5, v6, v7, v8] ∧ Same H1 H') ⟨_, _, _, _, _, _, _, _, rfl, Same.refl _⟩ (fun i σ H' _ ⟨_, _, _, _, _, _, _, _, _, e⟩ => sl_of (e _ _ h1)) ?_ ?_
    · rintro i x σ H' hi ⟨v1, v2, v3, v4, v5, v6, v7, v8, rfl, e⟩
      obtain ⟨z, rfl⟩ := int_at hi
      walk_at "rd"
      intro p hp
      walk_at "rd"
      refine ⟨p, _, rfl, upd_same, fun H2 u1 a1 n1 b1 hp2 w1 k1 => ?_⟩
      walk_at "rd"
      refine ⟨p, _, rfl, hp2, fun H3 u2 a2 n2 b2 hp3 w2 k2 => ?_⟩
      have w1 := w1.but b2 hp2
      have e3 : Same H1 H3 := But.toSame (e.trans (Same.new hp)) (e.free hp) (b1.trans b2)
      walk_at "rd"
      intro t1 ht1
      walk_at "rd"
      intro t2 ht2
      walk_at "rd"
      intro t3 ht3
      walk_at "rd"
      intro l3 hl3
      walk_at "rd"
      have e4 : Same H3 (upd (upd (upd (upd H3 t1 (HO.tup [u1, u2])) t2 (HO.tup [u2, u1])) t3 (HO.tup [u1, u1])) l3 (HO.lst [V.ref t1, V.ref t2, V.ref t3])) := (((Same.new ht1).trans (Same.new ht2)).trans (Same.new ht3)).trans (Same.new hl3)
      have h4 : (upd (upd (upd (upd H3 t1 (HO.tup [u1, u2])) t2 (HO.tup [u2, u1])) t3 (HO.tup [u1, u1])) l3 (HO.lst [V.ref t1, V.ref t2, V.ref t3])) l3 = some (.lst [V.ref t1, V.ref t2, V.ref t3]) := upd_same
      have g1 : (upd (upd (upd (upd H3 t1 (HO.tup [u1, u2])) t2 (HO.tup [u2, u1])) t3 (HO.tup [u1, u1])) l3 (HO.lst [V.ref t1, V.ref t2, V.ref t3])) t1 = some (.tup [u1, u2]) := hf_new hl3 (hf_new ht3 (hf_new ht2 upd_same))
      have g2 : (upd (upd (upd (upd H3 t1 (HO.tup [u1, u2])) t2 (HO.tup [u2, u1])) t3 (HO.tup [u1, u1])) l3 (HO.lst [V.ref t1, V.ref t2, V.ref t3])) t2 = some (.tup [u2, u1]) := hf_new hl3 (hf_new ht3 upd_same)
      have g3 : (upd (upd (upd (upd H3 t1 (HO.tup [u1, u2])) t2 (HO.tup [u2, u1])) t3 (HO.tup [u1, u1])) l3 (HO.lst [V.ref t1, V.ref t2, V.ref t3])) t3 = some (.tup [u1, u1]) := hf_new hl3 upd_same
      generalize upd (upd (upd (upd H3 t1 (HO.tup [u1, u2])) t2 (HO.tup [u2, u1])) t3 (HO.tup [u1, u1])) l3 (HO.lst [V.ref t1, V.ref t2, V.ref t3]) = H4 at *
      have w1 := w1.mono e4
      have w2 := w2.mono e4
      have all : ∀ (j : Nat) (x : V), [V.ref t1, V.ref t2, V.ref t3][j]? = some x → ∃ t x1 x2 b1 b2, x = .ref t ∧ H4 t = some (.tup [x1, x2]) ∧ RW K H4 x1 b1 ∧ RW K H4 x2 b2 ∧ b1.ok ∧ b2.ok := fun j x hj => by
        match j, hj with
        | 0, hj => exact ⟨t1, _, _, _, _, (Option.some.inj hj).symm, g1, w1, w2, k1, k2⟩
        | 1, hj => exact ⟨t2, _, _, _, _, (Option.some.inj hj).symm, g2, w2, w1, k2, k1⟩
        | 2, hj => exact ⟨t3, _, _, _, _, (Option.some.inj hj).symm, g3, w1, w1, k1, k1⟩
      refine s_forL (xs := [V.ref t1, V.ref t2, V.ref t3]) (fun i σ H' => ∃ v5 v6 v7 v8, σ = [some (.ref a), some (.int z), some (.ref p), some u1, some u2, v5, v6, v7, v8] ∧ Same H4 H') ⟨_, _, _, _, rfl, Same.refl _⟩ (fun i σ H' _ ⟨_, _, _, _, _, e⟩ => sl_of (e _ _ h4)) ?_ ?_
      · rintro j x σ H5 hj ⟨v5, v6, v7, v8, rfl, e5⟩
        obtain ⟨t, x1, x2, c1, c2, rfl, ht, r1, r2, o1, o2⟩ := all j x hj
        have ht := e5 _ _ ht
        have r1 := r1.mono e5
        have r2 := r2.mono e5
        walk_at "rd"
        intro l8 hl8
        walk_at "rd"
        have e6 := Same.new (H := H5) (o := HO.lst [V.str (Str.ofString "+"), V.str (Str.ofString "-"), V.str (Str.ofString "*"), V.str (Str.ofString "/"), V.str (Str.ofString "rest"), V.str (Str.ofString "&"), V.str (Str.ofString "<"), V.str (Str.ofString "=")]) hl8
        have h6 : (upd H5 l8 (HO.lst [V.str (Str.ofString "+"), V.str (Str.ofString "-"), V.str (Str.ofString "*"), V.str (Str.ofString "/"), V.str (Str.ofString "rest"), V.str (Str.ofString "&"), V.str (Str.ofString "<"), V.str (Str.ofString "=")])) l8 = some (.lst (eightOps.map V.str)) := upd_same
        generalize upd H5 l8 (HO.lst [V.str (Str.ofString "+"), V.str (Str.ofString "-"), V.str (Str.ofString "*"), V.str (Str.ofString "/"), V.str (Str.ofString "rest"), V.str (Str.ofString "&"), V.str (Str.ofString "<"), V.str (Str.ofString "=")]) = H6 at *
        have r1 := r1.mono e6
        have r2 := r2.mono e6
        refine s_forL (xs := eightOps.map V.str) (fun i σ H' => ∃ v7, σ = [some (.ref a), some (.int z), some (.ref p), some u1, some u2, some x1, some x2, v7, v8] ∧ Same H6 H') ⟨_, rfl, Same.refl _⟩ (fun i σ H' _ ⟨_, _, e⟩ => sl_of (e _ _ h6)) ?_ ?_
        · rintro i2 y σ H7 hy ⟨v7, rfl, e7⟩
          obtain ⟨op, hop, rfl⟩ : ∃ op, op ∈ eightOps ∧ y = V.str op := by
            have := List.mem_of_getElem? hy
            obtain ⟨op, h1, h2⟩ := List.mem_map.mp this
            exact ⟨op, h1, h2.symm⟩
          walk_at "rd"
          refine ⟨op, _, _, _, _, rfl, r1.mono e7, r2.mono e7, o1, o2, fun H8 y1 e8 w8 => ?_⟩
          walk_at "rd"
          refine ⟨op, _, _, _, _, rfl, hop, (r1.mono e7).mono e8, (r2.mono e7).mono e8, o1, o2, fun H9 y2 e9 w9 => ?_⟩
          walk_at "rd"
          refine ⟨_, _, _, rfl, w8.mono e9, w9, paired_fine o1.fine o2.fine, ?_⟩
          walk_at "rd"
          exact ⟨_, rfl, (e7.trans e8).trans e9⟩
        · rintro σ H7 ⟨v7, rfl, e7⟩
          have r1 := r1.mono e7
          walk_at "rd"
          intro l9 hl9
          walk_at "rd"
          have e8 := Same.new (H := H7) (o := HO.lst [V.str (Str.ofString "minus"), V.str (Str.ofString "not")]) hl9
          have h8 : (upd H7 l9 (HO.lst [V.str (Str.ofString "minus"), V.str (Str.ofString "not")])) l9 = some (.lst (([Str.ofString "minus", Str.ofString "not"]).map V.str)) := upd_same
          generalize upd H7 l9 (HO.lst [V.str (Str.ofString "minus"), V.str (Str.ofString "not")]) = H8 at *
          have r1 := r1.mono e8
          refine s_forL (xs := ([Str.ofString "minus", Str.ofString "not"]).map V.str) (fun i σ H' => ∃ v8, σ = [some (.ref a), some (.int z), some (.ref p), some u1, some u2, some x1, some x2, v7, v8] ∧ Same H8 H') ⟨_, rfl, Same.refl _⟩ (fun i σ H' _ ⟨_, _, e⟩ => sl_of (e _ _ h8)) ?_ ?_
          · rintro i2 y σ H9 hy ⟨v8, rfl, e9⟩
            obtain ⟨op, hop, rfl⟩ : ∃ op, op ∈ [Str.ofString "minus", Str.ofString "not"] ∧ y = V.str op := by
              have := List.mem_of_getElem? hy
              obtain ⟨op, h1, h2⟩ := List.mem_map.mp this
              exact ⟨op, h1, h2.symm⟩
            walk_at "rd"
            refine ⟨op, _, _, rfl, r1.mono e9, fun H10 y1 e10 w10 => ?_⟩
            walk_at "rd"
            refine ⟨op, _, _, rfl, (r1.mono e9).mono e10, fun H11 y2 e11 w11 => ?_⟩
            walk_at "rd"
            refine ⟨_, _, _, rfl, w10.mono e11, w11, single_fine o1.fine, ?_⟩
            walk_at "rd"
            exact ⟨_, rfl, (e9.trans e10).trans e11⟩
          · rintro σ H9 ⟨v8, rfl, e9⟩
            exact ⟨_, _, _, _, rfl, (((e5.trans e6).trans e7).trans e8).trans e9⟩
      · rintro σ H5 ⟨v5, v6, v7, v8, rfl, e5⟩
        exact ⟨_, _, _, _, _, _, _, _, rfl, (e3.trans e4).trans e5⟩
    · rintro σ H' ⟨v1, v2, v3, v4, v5, v6, v7, v8, rfl, e⟩
      walk_at "rd"
      exact q _
end
end Ol


namespace Ol
open PySem PySem.Spec PyProof.Rows L2
def loose : List Str := (["fault", "is_fault", "is_text", "held_number", "as_number", "as_text", "single", "divided", "reckoned", "joined", "same_worth", "ahead_of", "paired", "_law_cell_at", "_law_mixed", "_law_stream", "_law_digit", "_law_worth", "_law_same", "_law_number", "_law_held", "_law_text", "_law_joined", "_law_alike", "_law_less", "_law_parted", "_law_paired", "_law_single", "MOST_NUMBER", "MOST_SIGNS"] : List Str)
abbrev R : PySem.W.OpenRow := PySem.W.OpenLaw.row PySem.Challenge.rw_onelook_k15_worths_of_one_and_two
abbrev hk : PySem.W.Hook := He.hookX 4 fa fn [] [] ex
def ob (s : PySem.W.SharedT) : He.AlX := He.obsX 4 fa fn [] [] ex (HandSHeadRun.getT s)
theorem ob_eq (s : PySem.W.SharedT) : ob s = hk.obs s.abs := He.obsX_eq (HandSHeadRun.getT_eq s)
theorem run (w : World) : HandSHeadRun.RunEq R (PySem.W.view R.prog [32]) hk ob 4000 loose w := by
  intro os
  kernel_rfl
end Ol
open PySem PySem.W PySem.Calls PyProof.Rows
theorem PySem.Challenge.cw_onelook_k15_worths_of_one_and_two_holds : PySem.Challenge.rw_onelook_k15_worths_of_one_and_two.Holds := by
  w_on; o_law
  refine HandSHeadRun.head_any (r := OpenLaw.row PySem.Challenge.rw_onelook_k15_worths_of_one_and_two) (q := view (OpenLaw.row PySem.Challenge.rw_onelook_k15_worths_of_one_and_two).prog [32]) (H := Ol.hk) (ob := Ol.ob) (M := 4000) (loose := Ol.loose) (d := HandSHeadRun.topDef (OpenLaw.row PySem.Challenge.rw_onelook_k15_worths_of_one_and_two).prog 32) (kwd := []) Ol.ob_eq
    (by kernel_rfl) (fun s => by kernel_rfl) Ol.run (by kernel_rfl) (by kernel_rfl) (by kernel_rfl) (by rfl) (by first | assumption | decide +kernel) (by decide +kernel) ⟨rfl, rfl, rfl, rfl, rfl, by decide +kernel⟩ ?hw ?hc
  case hw => w_witness2
  case hc =>
    refine Ol.walk_ofEB (l := PySem.Challenge.rw_onelook_k15_worths_of_one_and_two) (n := 63) (k := 5) (x := "script") rfl (by decide) (by kernel_rfl) ⟨rfl, by decide, by decide⟩ ?F
    intro w mg fa h Y G hmg0
    obtain ⟨K, KX, c⟩ := Y
    have hmg : mg ("law" : PySem.Str) = some (.ref fa) := by
      have e : (HandSHeadRun.topDef (OpenLaw.row PySem.Challenge.rw_onelook_k15_worths_of_one_and_two).prog 32).name = ("law" : PySem.Str) := by kernel_rfl
      rw [← e]
      exact hmg0
    exact Ol.law_end KX hmg (Ol.txt KX G c).g_law (fun base _ _ => Ol.ok_law (P := (PySem.Challenge.rw_onelook_k15_worths_of_one_and_two).prog) (w := w) (base := base) (Ol.txt KX G c)) G

