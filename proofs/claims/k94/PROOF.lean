import PyProof.Rows.All
import Wide.All
import OpenK.AllK
import Wide.FinOn
import KE.KStateDown
import HandS.Base
import HandS.Call
import HandS.List
import HandS.TupAny
import HandS.Comp
import HandS.Ends
import HandS.EndBits
import HandS.Exc
import HandS.ExcOwn
import HandS.ExcIs
import HandS.ExcInit
import HandS.ExcBuiltin
import HandS.TryOnly
import HandS.TryMany
import HandS.Words
import HandS.WordsList
import HandS.WordsExc
import HandS.Defaults
import HandS.Dict
import HandS.Iter
import HandS.Text
import HandS.More
import HandS.Head0
import HandS.Head1
import HandS.Head2
import HandS.HeadEnd
import HandS.HeadHook1
import HandS.HeadHook2
import HandS.HeadHook3
import HandS.HeadHook4
import HandS.Wide
import HandS.WideMore
import HandS.WideBits
import HandS.IsInst
import HandS.Small
import HandS.Conv
import HandS.Deep
import HandS.Zip
import PySem.Challenge.RW_onelook_k94_worths_written
set_option Elab.async false
set_option linter.all false
set_option maxRecDepth 100000
set_option maxHeartbeats 4000000
namespace Ol
open PySem PySem.Spec PyProof.Rows L2
/-! ### facts of the top -/
/-- a module's constant -/
structure GCon (K : PySem.W.Frag) (mg : Str → Option Value) (x : Str) (v : V) : Prop where
  ex : ∃ u, mg x = some u ∧ RelV v u
theorem gcon_int {K : PySem.W.Frag} {mg : Str → Option Value} {x : Str} {i : Int} (h : ∃ t, mg x = some (.int i t)) : GCon K mg x (.int i) := by
  obtain ⟨t, h⟩ := h
  exact ⟨_, h, t, rfl⟩
theorem gcon_str {K : PySem.W.Frag} {mg : Str → Option Value} {x z : Str} (h : ∃ t, mg x = some (.str z t)) : GCon K mg x (.str z) := by
  obtain ⟨t, h⟩ := h
  exact ⟨_, h, t, rfl⟩
theorem gcon_ref {K : PySem.W.Frag} {mg : Str → Option Value} {x : Str} {a : Addr} (h : mg x = some (.ref a)) : GCon K mg x (.ref a) := ⟨_, h, rfl⟩
theorem pe_con {X : Cx} {x : Str} {v : V} {pos : Pos} (h : GCon X.K X.mg x v) (hg : Gl X x) (hd : (x == ("__debug__" : Str)) = false := by decide) : PE X (.Name x pos) (tC v) := by
  obtain ⟨u, h1, h2⟩ := h.ex
  exact pe_glob hg h1 h2 hd
/-- an own exception class -/
def excCB (K : PySem.W.Frag) (D : Addr) : Bool :=
  decide (PySem.W.findIn K (.ref D) "__getattribute__" = some (some (.builtin "BaseException.__getattribute__"))) && (decide (PySem.W.findIn K (.ref D) "__getattr__" = some none) &&
  (decide (PySem.W.subIn K (.ref D) (.type "BaseException") = some true) && (PySem.W.hasDictIn K D && (decide (PySem.W.findIn K (.ref D) "__class__" = some (some (.builtin "object.__class__"))) &&
  (decide (PySem.W.specialIn K (.builtin "object.__class__") "__get__" = some (some (.builtin "getset_descriptor.__get__"))) && (decide (PySem.W.takesIn K (.builtin "object.__class__") = some true) && decide (PySem.W.mroIn K D (.type "object") = some true)))))))
theorem excCB_ok {K : PySem.W.Frag} {D : Addr} (h : excCB K D = true) : ExcC K D := by
  unfold excCB at h
  simp only [Bool.and_eq_true, decide_eq_true_eq] at h
  obtain ⟨h1, h2, h3, h4, h5, h6, h7, h8⟩ := h
  exact ⟨h1, h2, h3, h4, h5, h6, h7, h8⟩
structure XCls (K : PySem.W.Frag) (mg : Str → Option Value) (x : Str) : Prop where
  g : mg x = some (.ref (He.ga K x))
  e : PySem.W.excIn K (He.ga K x) He.veBase "ValueError.__new__" = true ∧ PySem.W.keepIn K (.ref (He.ga K x)) = true ∧ PySem.W.subIn K (.ref (He.ga K x)) (.type "BaseException") = some true ∧ PySem.W.typeIn K (.ref (He.ga K x)) = some (.type "type")
  c : ExcC K (He.ga K x)
theorem pe_clsv {X : Cx} {x : Str} {pos : Pos} (h : XCls X.K X.mg x) (hg : Gl X x) (hd : (x == ("__debug__" : Str)) = false := by decide) : PE X (.Name x pos) (tC (.ref (He.ga X.K x))) := pe_glob hg h.g rfl hd
theorem pmk_x {X : Cx} {x m : Str} {j : Nat} {p p2 pos : Pos} (h : XCls X.K X.mg x) (hg : Gl X x) (hdb : (x == ("__debug__" : Str)) = false := by decide) :
    PMk X (.Call (.Name x p) [.Constant (.str m) j p2] [] pos) (fun _ H Q => Q (.ref (He.ga X.K x)) none H) :=
  pmk_own PySem.F.excBase_ValueError h.e.1 h.g h.e.2.1 (raises_own h.e.2.2.1 h.e.2.2.2) hg hdb
/-! ### a def with its promise -/
structure Def (P : Program) (w : World) (K : PySem.W.Frag) (mg : Str → Option Value) (base : Heap) (k : Nat) (x : Str) (ps : List Str) (sp : Sp) : Prop where
  g : mg x = some (.ref (He.ga K x))
  kp : PySem.W.keepIn K (.ref (He.ga K x)) = true
  ok : ∃ fd, FnOk P w K mg base (L2.CX P w) k (He.ga K x) fd ps sp ∧ Binds K fd ps [] ∧ (∃ oc od sl, K.lookup (He.ga K x) = some ⟨oc, od, .func fd, sl⟩) ∧ ∀ (s : Shared) (us : List Value), us.length = ps.length → BindsTo s fd ⟨us, []⟩ (ps.zip us)
theorem def_of {P : Program} {w : World} {K : PySem.W.Frag} {mg : Str → Option Value} {base : Heap} {k : Nat} {x qual : Str} {N ps : List Str} {sp : Sp} {a : Arguments} {body : List Stmt} {scope : Scope}
    (hg : mg x = some (.ref (He.ga K x))) (F : ∃ fd, FunD K x qual a body scope [] [] (He.ga K x) fd) (S : FnScope N ps scope)
    (hb : ∀ (kV doc pm : Value) (an : Option Addr) (cdv ct : Value) (us : List Value), us.length = ps.length → bindArgs (PySem.W.fnOf x qual a body scope .none kV doc pm an cdv ct) ⟨us, []⟩ = pure (ps.zip us))
    (len : ∀ vs H Q E, sp vs H Q E → vs.length = ps.length)
    (hbody : ∀ (cdv : Value) (A : Around) (outer : List Env) (s : Shared) (H : Hp) (vs : List V) (Q : VK) (E : XK), Room k (A.deeper (envOfC qual scope s.heap.objs.size (He.ga K x) cdv)) → sp vs H Q E →
      ∃ t, PSs (cxOf (L2.CX P w) P w K mg base N qual scope (He.ga K x) cdv A outer s H E) body t ∧ t ⟨fun _ H' => Q .non H', Q, fun _ _ => False, fun _ _ => False⟩ (start N vs) H) : Def P w K mg base (k + 1) x ps sp := by
  obtain ⟨fd, F⟩ := F
  refine ⟨hg, F.kp, fd, F.ok S len hbody, F.bindsN hb, ?_, F.bindsA hb⟩
  obtain ⟨oc, od, _, _, _, _, _, _, _, osl, _, lk, _⟩ := F.ex
  exact ⟨oc, od, osl, lk⟩
theorem pe_dcall {X : Cx} {k : Nat} {x : Str} {ps : List Str} {sp : Sp} {E : XK} {e : Expr} {es : List Expr} {t : TA} {p pos : Pos} (D : Def X.prog X.w X.K X.mg X.base k x ps sp) (hr : Room k X.A) (hg : Gl X x) (hx : Passes (L2.CX X.prog X.w) X E)
    (ha : PA X (e :: es) t) (hdb : (x == ("__debug__" : Str)) = false := by decide) (he : starEach (e :: es) X.env = (false, eval e X.env) :: starEach es X.env := by rfl) (hpl : ∀ q : Pos, (backTo q (starEach es X.env)).any (·.1) = false := by intro _; rfl) :
    PE X (.Call (.Name x p) (e :: es) [] pos) (tCall sp [] E t) := by
  obtain ⟨fd, F, B, _⟩ := D.ok
  exact pe_call F hr hg D.g D.kp B .nil hx ha hdb he (hpl _)
theorem pe_dcallS {X : Cx} {k : Nat} {x : Str} {ps : List Str} {sp : Sp} {E : L2.St → XK} {e : Expr} {es : List Expr} {t : TA} {p pos : Pos} (D : Def X.prog X.w X.K X.mg X.base k x ps sp) (hr : Room k X.A) (hg : Gl X x) (hx : ∀ σ, PassesAt (L2.CX X.prog X.w) X σ (E σ))
    (ha : PA X (e :: es) t) (hdb : (x == ("__debug__" : Str)) = false := by decide) (he : starEach (e :: es) X.env = (false, eval e X.env) :: starEach es X.env := by rfl) (hpl : ∀ q : Pos, (backTo q (starEach es X.env)).any (·.1) = false := by intro _; rfl) :
    PE X (.Call (.Name x p) (e :: es) [] pos) (tCallS sp E t) := by
  obtain ⟨fd, F, B, _⟩ := D.ok
  exact pe_callS F hr hg D.g D.kp B hx ha hdb he (hpl _)
/-! ### the end of a law -/
def spLawB (K : PySem.W.Frag) : Sp := fun vs H Q _ => ∃ (a : Addr) (ns : List Int), vs = [.ref a] ∧ SqL K H a (ns.map V.int) ∧ ns.length ≤ 63 ∧ (∀ z ∈ ns, Builtin.Int.intBits z ≤ 1048576) ∧ ∀ H', Q (.bl true) H'
theorem walk_ofEB {l : PySem.W.OpenLaw} {n k : Nat} {q : Program} {loose : List Str} {XP : (Str → Option Value) → Heap → Prop} {YP : World → Heap → Prop} {d : DefRec} {x : Str}
    (hn : l.most = some n) (hn2 : n ≤ sizeLine) (hdf : d.params.defaults = []) (hr : Room k callerA)
    (F : ∀ (w : World) (mg : Str → Option Value) (fa : Addr) (h : Heap), YP w h → h.Ns mainGlobals mg → mg d.name = some (.ref fa) →
      ∃ (K : PySem.W.Frag) (fd : FuncData) (sp : Sp), K.In h ∧ (∀ (s : Shared) (u : Value), BindsTo s fd ⟨[u], []⟩ [(x, u)]) ∧
        (∀ (H : Hp) (a : Addr) (ns : List Int), ns.length ≤ n → (∀ z ∈ ns, Builtin.Int.intBits z ≤ 1048576) → SqL K H a (ns.map V.int) → sp [.ref a] H (fun v _ => v = .bl true) fun _ _ _ => False) ∧
        ∀ base : Heap, K.In base → base.Ns mainGlobals mg → FnOk l.prog w K mg base (L2.CX l.prog w) k fa fd [x] sp) :
    PySem.W.WalkO q loose XP YP l.row.toRowW d [] (fun f vs => PySem.call f vs) := by
  refine Att.attach_callB hn hdf fun w s0 s1 mg mb fa o pm cd doc a vs ns G Y ho hd hcd hmg hobj hints hlen hbits hg => ?_
  obtain ⟨K, fd, sp, KX, hb, hsp, hF⟩ := F w mg fa _ Y G.T.g hmg
  refine law_call KX G.T.g G.T.b G.T.builtins G.T.nolimit hg hobj hints (Nat.le_trans hlen hn2) hr hF hb (fun H hO hS => hsp H a ns hlen hbits hS) fun H e s' hc => ?_
  obtain ⟨_, _, _, _, _, _, _, _, _, _, _, _, z⟩ := hc
  exact z
theorem law_end {P : Program} {w : World} {K : PySem.W.Frag} {h : Heap} {mg : Str → Option Value} {k : Nat} {fa : Addr} (KX : K.In h) (hfa : mg ("law" : Str) = some (.ref fa)) (g : mg ("law" : Str) = some (.ref (He.ga K "law")))
    (D : ∀ base : Heap, K.In base → base.Ns mainGlobals mg → Def P w K mg base k "law" ["script"] (spLawB K)) (G : h.Ns mainGlobals mg) :
    ∃ (K : PySem.W.Frag) (fd : FuncData) (sp : Sp), K.In h ∧ (∀ (s : Shared) (u : Value), BindsTo s fd ⟨[u], []⟩ [("script", u)]) ∧
        (∀ (H : Hp) (a : Addr) (ns : List Int), ns.length ≤ 63 → (∀ z ∈ ns, Builtin.Int.intBits z ≤ 1048576) → SqL K H a (ns.map V.int) → sp [.ref a] H (fun v _ => v = .bl true) fun _ _ _ => False) ∧
        ∀ base : Heap, K.In base → base.Ns mainGlobals mg → FnOk P w K mg base (L2.CX P w) k fa fd ["script"] sp := by
  have e : fa = He.ga K "law" := by
    have z := hfa.symm.trans g
    injection z with z
    injection z
  subst e
  obtain ⟨fd, F, B, ⟨_, _, _, l1⟩, A⟩ := (D h KX G).ok
  refine ⟨K, fd, spLawB K, KX, fun s u => A s [u] rfl, fun H a ns hl hb hS => ⟨a, ns, rfl, hS, hl, hb, fun _ => rfl⟩, fun base hK hN => ?_⟩
  obtain ⟨fd2, F2, _, ⟨_, _, _, l2⟩, _⟩ := (D base hK hN).ok
  have e2 : fd2 = fd := by
    have z := l1.symm.trans l2
    injection z with z
    injection z with _ _ z _
    injection z with z
    exact z.symm
  exact e2 ▸ F2
end Ol

namespace Ol
open PySem PySem.Spec PyProof.Rows L2
/-! ### lengths -/
theorem ofS_len (s : String) : (Str.ofString s).length = s.length := by
  have e := congrArg List.length (PyProof.Rows.signs_ofString s)
  rw [List.length_map, String.length_toList] at e
  exact e
theorem sz_le {n : Nat} (h : n ≤ 16777216) : n ≤ sizeLine := by rw [sizeLine_eq]; exact h
theorem sz_lt {n : Nat} (h : n < 16777216) : n < sizeLine := by rw [sizeLine_eq]; exact h
theorem at_ex {α : Type} {xs : List α} {i : Int} (h0 : 0 ≤ i) (h1 : i < (xs.length : Int)) : ∃ v, xs[i.toNat]? = some v ∧ atI xs i = some v := by
  obtain ⟨n, rfl⟩ := Int.eq_ofNat_of_zero_le h0
  have hi : n < xs.length := by omega
  exact ⟨xs[n], List.getElem?_eq_getElem hi, atI_nat (List.getElem?_eq_getElem hi)⟩
theorem at_nat {α : Type} {xs : List α} {i : Nat} {v : α} (h : xs[i]? = some v) : atI xs (i : Int) = some v := atI_nat h
theorem int_at {ns : List Int} {i : Nat} {x : V} (h : (ns.map V.int)[i]? = some x) : ∃ z, x = V.int z := by
  rw [List.getElem?_map] at h
  cases e : ns[i]? with
  | none => rw [e] at h; cases h
  | some z => rw [e] at h; exact ⟨z, (Option.some.inj h).symm⟩
/-! ### rules that join -/
def rOr (r1 r2 : R2) : R2 := fun x y H Q => r1 x y H Q ∨ r2 x y H Q
theorem op_or2 {X : Cx} {f : Value → Value → Sem Value} {r1 r2 : R2} (h1 : OpR X f r1) (h2 : OpR X f r2) : OpR X f (rOr r1 r2) := fun pins s σ H x y v u Q I rx ry q =>
  q.elim (h1 pins s σ H x y v u Q I rx ry) (h2 pins s σ H x y v u Q I rx ry)
theorem call_or2 {X : Cx} {f : Value} {r1 r2 : List V → Hp → VK → Prop} (h1 : CallR X f r1) (h2 : CallR X f r2) : CallR X f (fun xs H Q => r1 xs H Q ∨ r2 xs H Q) := fun pins s σ H xs us Q I r q =>
  q.elim (h1 pins s σ H xs us Q I r) (h2 pins s σ H xs us Q I r)
/-- list + list, wherever they stand -/
def rCatL (K : PySem.W.Frag) : R2 := fun x y H Q => ∃ l b xs zs, x = .ref l ∧ y = .ref b ∧ SqL K H l xs ∧ SqL K H b zs ∧ xs.length + zs.length ≤ sizeLine ∧ ∀ p, H p = none → Q (.ref p) (upd H p (.lst (xs ++ zs)))
theorem op_catL {X : Cx} : OpR X (binaryOp .Add) (rCatL X.K) := by
  intro pins s σ H x y v u Q I rx ry h
  obtain ⟨l, b, xs, zs, rfl, rfl, hH, hB, hz, q⟩ := h
  cases rx
  cases ry
  obtain ⟨its, r, ⟨⟨cls, dd, data, sl⟩, n, ho, hc, hdd, hd⟩, _⟩ := I.list hH
  obtain ⟨its2, r2, ⟨⟨cls2, dd2, data2, sl2⟩, n2, ho2, hc2, hdd2, hd2⟩, _⟩ := I.list hB
  simp only at hc hd hc2 hd2
  subst hc hd hc2 hd2
  have e : its.toArray ++ its2.toArray = (its ++ its2).toArray := by simp
  have l1 := r.length
  have l2 := r2.length
  refine concat_meets ⟨_, ho, rfl⟩ ⟨_, ho2, rfl⟩ noFill_list_add seq_list_add PySem.F.slot_list_add PySem.F.entry_list_add (PySem.F.args_list_add_2 _ _) (list_addW l b its.toArray its2.toArray n n2 dd dd2 sl sl2 (by simpa [← l1, ← l2] using hz)) ⟨ho, ho2, ?_⟩
  rw [e]
  exact ⟨.ref _, _, I.lnew (t' := s.toks) (r.append r2) (by rw [List.length_append]; omega), rfl, q _ I.fresh⟩
def rStrCat : R2 := fun x y H Q => ∃ i j, x = .str i ∧ y = .str j ∧ i.length + j.length ≤ sizeLine ∧ Q (.str (i ++ j)) H
def rAddU (K : PySem.W.Frag) : R2 := rOr (rI0 fun i j => .int (i + j)) (rOr rStrCat (rOr (rCatL K) (rCatA K)))
theorem op_addU {X : Cx} {K : PySem.W.Frag} (hK : X.K = K := by rfl) : OpR X (binaryOp .Add) (rAddU K) := hK ▸ op_or2 op_add (op_or2 op_add_str (op_or2 op_catL op_catA))
/-- == of scalars, of nested data -/
def rEqU (K : PySem.W.Frag) : R2 := rOr rEq (rEqD K)
def rNeU (K : PySem.W.Frag) : R2 := rOr rNe (rNeD K)
theorem op_eqU {X : Cx} {K : PySem.W.Frag} (hu : X.A.units + 64 < cLine) (hK : X.K = K := by rfl) : OpR X (compareOp .Eq) (rEqU K) := hK ▸ op_or2 op_eq (op_eqD hu)
theorem op_neU {X : Cx} {K : PySem.W.Frag} (hu : X.A.units + 64 < cLine) (hK : X.K = K := by rfl) : OpR X (compareOp .NotEq) (rNeU K) := hK ▸ op_or2 op_ne (op_neD hu)
/-! ### the layer's rules, the written part told -/
theorem pg_seq {X : Cx} {K : PySem.W.Frag} {pos : Pos} {es : List Expr} {k : Nat} {t : TGs} {n : Nat} (hK : X.K = K) (hc : X.calm = true) (h : PGs X es t)
    (hn : (assignEach es X.env).length = n := by rfl) (hst : (assignEach es X.env).findIdx? (·.1) = none := by rfl) : PG X (.Tuple es k pos) (gTup K n t) := hK ▸ pg_tup hc h hn hst
theorem ix_seqK {X : Cx} {K : PySem.W.Frag} (hK : X.K = K := by rfl) : IxR X (rIx K) := hK ▸ ix_seq
theorem pi_listK {X : Cx} {K : PySem.W.Frag} {tg l : Expr} {tl : TE} (hl : PE X l tl) (hK : X.K = K := by rfl) : PI X tg l (iList K tl) := hK ▸ pi_list hl
theorem pi_tupK {X : Cx} {K : PySem.W.Frag} {tg l : Expr} {tl : TE} (hl : PE X l tl) (hK : X.K = K := by rfl) : PI X tg l (iTup K tl) := hK ▸ pi_tup hl
theorem sl_listK {X : Cx} {K : PySem.W.Frag} (hK : X.K = K := by rfl) : SlR X (rSlL K) := hK ▸ sl_list
theorem sl_tupK {X : Cx} {K : PySem.W.Frag} (hK : X.K = K := by rfl) : SlR X (rSlA K) := hK ▸ sl_tupA
theorem sl_strK {X : Cx} {K : PySem.W.Frag} (hK : X.K = K := by rfl) : SlR X rSlS := sl_str
theorem op_inK {X : Cx} {K : PySem.W.Frag} (hK : X.K = K := by rfl) : OpR X (compareOp .In) (rIn K false) := hK ▸ op_in_seq
theorem op_notInK {X : Cx} {K : PySem.W.Frag} (hK : X.K = K := by rfl) : OpR X (compareOp .NotIn) (rIn K true) := hK ▸ op_notIn_seq
theorem call_isiK {X : Cx} {K : PySem.W.Frag} (hK : X.K = K := by rfl) : CallR X (.builtin "isinstance") (rIsi K) := hK ▸ call_isi
theorem pt_truthK {X : Cx} {K : PySem.W.Frag} {a : Expr} {ta : TE} (ha : PE X a ta) (he : ∀ whole, isTrue a X.env whole = (do let v ← whole; standAt a.pos; holding [v] (truthy v))) (hK : X.K = K := by rfl) :
    PT X a (fun σ H Q => ta σ H fun x H' => ∃ k, TruV K x H' k ∧ Q k H') := hK ▸ pt_truth ha he
theorem pe_bmK {X : Cx} {K : PySem.W.Frag} {T name id : String} {r : V → List V → Hp → VK → Prop} {o e : Expr} {es : List Expr} {to : TE} {t : TA} {apos cpos : Pos} (hK : X.K = K) (pa : PlainAttrs T) (slot : Slot T name id) (hty : typeOf (.builtin id) = pure (.type "method_descriptor")) (hm : MtR X id r) (ho : PE X o to) (ha : PA X (e :: es) t)
    (hbase : attributeBase o name X.env (eval o X.env) = eval o X.env := by rfl)
    (hfew : ((backTo cpos (starEach (e :: es) X.env)).all (fun x => !x.1) && (backToKw cpos (keywordEach [] X.env)).all (fun x => x.1.isSome)
      && decide ((e :: es).length + ([] : List Keyword).length + (if ([] : List Keyword).isEmpty then 0 else 1) < 30)) = true := by rfl)
    (hline : (apos.endLine == cpos.line) = true := by rfl) (hs : starEach (e :: es) X.env = (false, eval e X.env) :: starEach es X.env := by rfl) (hplain : (backTo cpos (starEach es X.env)).any (·.1) = false := by rfl) :
    PE X (.Call (.Attribute o name apos) (e :: es) [] cpos) (tBM K T r to t) := hK ▸ pe_bm pa slot hty hm ho ha hbase hfew hline hs hplain
theorem pe_bm0K {X : Cx} {K : PySem.W.Frag} {T name id : String} {r : V → List V → Hp → VK → Prop} {o : Expr} {to : TE} {apos cpos : Pos} (hK : X.K = K) (pa : PlainAttrs T) (slot : Slot T name id) (hty : typeOf (.builtin id) = pure (.type "method_descriptor")) (hm : MtR X id r) (ho : PE X o to)
    (hbase : attributeBase o name X.env (eval o X.env) = eval o X.env := by rfl) (hline : (apos.endLine == cpos.line) = true := by rfl) : PE X (.Call (.Attribute o name apos) [] [] cpos) (tBM0 K T r to) := hK ▸ pe_bm0 pa slot hty hm ho hbase hline

/-! ### steps -/
section
variable {K : PySem.W.Frag} {σ : L2.St} {H H' : Hp} {Q rt : VK} {nx bk ct : L2.St → Hp → Prop} {ta tb te : TE} {QT : Bool → Hp → Prop} {QA : List V → Hp → Prop} {r : R2}
theorem s_seq {t u : TS} (h : t ⟨u ⟨nx, rt, bk, ct⟩, rt, bk, ct⟩ σ H) : tSeq t u ⟨nx, rt, bk, ct⟩ σ H := h
theorem s_asgN {i : Nat} (h : te σ H fun x H1 => nx (σ.set i (some x)) H1) : tAsg te (gName i) ⟨nx, rt, bk, ct⟩ σ H := h
theorem s_asg {g : TG} (h : te σ H fun x H1 => g x σ H1 nx) : tAsg te g ⟨nx, rt, bk, ct⟩ σ H := h
theorem s_ret (h : te σ H rt) : tRet te ⟨nx, rt, bk, ct⟩ σ H := h
theorem s_retN (h : rt .non H) : tRetN ⟨nx, rt, bk, ct⟩ σ H := h
theorem s_drop (h : te σ H fun _ H1 => nx σ H1) : tDrop te ⟨nx, rt, bk, ct⟩ σ H := h
theorem s_if {c : TT} {t u : TS} (h : c σ H fun b H1 => if b = true then t ⟨nx, rt, bk, ct⟩ σ H1 else u ⟨nx, rt, bk, ct⟩ σ H1) : tIfS c t u ⟨nx, rt, bk, ct⟩ σ H := h
theorem s_next (h : nx σ H) : tNext ⟨nx, rt, bk, ct⟩ σ H := h
theorem s_brk (h : bk σ H) : tBreak ⟨nx, rt, bk, ct⟩ σ H := h
theorem s_cont (h : ct σ H) : tCont ⟨nx, rt, bk, ct⟩ σ H := h
theorem s_nx (h : nx σ H) : Ends.nx ⟨nx, rt, bk, ct⟩ σ H := h
theorem s_bk (h : bk σ H) : Ends.bk ⟨nx, rt, bk, ct⟩ σ H := h
theorem s_ct (h : ct σ H) : Ends.ct ⟨nx, rt, bk, ct⟩ σ H := h
theorem s_rt {v : V} (h : rt v H) : Ends.rt ⟨nx, rt, bk, ct⟩ v H := h
theorem s_gname {i : Nat} {v : V} {q : L2.St → Hp → Prop} (h : q (σ.set i (some v)) H) : gName i v σ H q := h
theorem s_gtup {n : Nat} {t : TGs} {p : Addr} {xs : List V} {q : L2.St → Hp → Prop} (h : SqT K H p xs) (hn : xs.length = n) (h2 : t xs σ H q) : gTup K n t (.ref p) σ H q := ⟨p, xs, rfl, h, hn, h2⟩
theorem s_gcons {t : TG} {u : TGs} {v : V} {l : List V} {q : L2.St → Hp → Prop} (h : t v σ H fun s2 H2 => u l s2 H2 q) : gCons t u (v :: l) σ H q := ⟨v, l, rfl, h⟩
theorem s_gnil {q : L2.St → Hp → Prop} (h : q σ H) : gNil [] σ H q := ⟨rfl, h⟩
theorem s_gsub {to ti : TE} {ts : TSet} {v : V} {q : L2.St → Hp → Prop} (h : to σ H fun o H1 => ti σ H1 fun i H2 => ts o i v H2 fun H3 => q σ H3) : gSub to ti ts v σ H q := h
theorem s_setL {p : Addr} {i : Int} {v : V} {xs : List V} {j : Nat} {q : Hp → Prop} (h : H p = some (.lst xs)) (e : ixN xs.length i = some j) (h2 : q (upd H p (.lst (xs.set j v)))) : rSetL (.ref p) (.int i) v H q := ⟨p, xs, i, j, rfl, rfl, h, e, h2⟩
theorem s_test (h : te σ H fun x H1 => ∃ k, x = .bl k ∧ QT k H1) : tTest te σ H QT := h
theorem s_tB (h : te σ H fun x H1 => ∃ k, x = .bl k ∧ QT k H1) : tB te σ H QT := h
theorem s_isbl {b : Bool} (h : QT b H) : ∃ k, V.bl b = .bl k ∧ QT k H := ⟨b, rfl, h⟩
theorem s_and {t u : TT} (h : t σ H fun c H1 => if c = true then u σ H1 QT else QT false H1) : tAnd t u σ H QT := h
theorem s_or {t u : TT} (h : t σ H fun c H1 => if c = true then QT true H1 else u σ H1 QT) : tOr t u σ H QT := h
theorem s_not {t : TT} (h : t σ H fun c H1 => QT (!c) H1) : tNot t σ H QT := h
theorem s_andV (h : ta σ H fun x H1 => ∃ c, x = .bl c ∧ if c = true then tb σ H1 Q else Q (.bl false) H1) : tAndV ta tb σ H Q := h
theorem s_orV (h : ta σ H fun x H1 => ∃ c, x = .bl c ∧ if c = true then Q (.bl true) H1 else tb σ H1 Q) : tOrV ta tb σ H Q := h
theorem s_notV (h : ta σ H fun x H1 => ∃ c, x = .bl c ∧ Q (.bl (!c)) H1) : tNotV ta σ H Q := h
theorem s_isblP {b : Bool} {A B : Hp → Prop} (h : if b = true then A H else B H) : ∃ k, V.bl b = .bl k ∧ (if k = true then A H else B H) := ⟨b, rfl, h⟩
theorem s_ifE {t : TT} (h : t σ H fun c H1 => if c = true then ta σ H1 Q else tb σ H1 Q) : tIf t ta tb σ H Q := h
theorem s_var {i : Nat} {v : V} (e : σ[i]? = some (some v)) (h : Q v H) : tVar i σ H Q := ⟨v, e, h⟩
theorem s_c {v : V} (h : Q v H) : tC v σ H Q := h
theorem s_op (h : ta σ H fun x H1 => tb σ H1 fun y H2 => r x y H2 Q) : tOp r ta tb σ H Q := h
theorem s_un {u : V → Hp → VK → Prop} (h : ta σ H fun x H1 => u x H1 Q) : tUn u ta σ H Q := h
theorem s_cons {tr : TA} (h : ta σ H fun x H1 => tr σ H1 fun xs H2 => QA (x :: xs) H2) : tCons ta tr σ H QA := h
theorem s_nil (h : QA [] H) : tNil σ H QA := h
theorem s_cb {u : List V → Hp → VK → Prop} {t : TA} (h : t σ H fun vs H1 => u vs H1 Q) : tCB u t σ H Q := h
theorem s_call {sp : Sp} {E : XK} {t : TA} (h : t σ H fun vs H1 => sp (vs ++ []) H1 Q E) : tCall sp [] E t σ H Q := h
theorem s_callS {sp : Sp} {E : L2.St → XK} {t : TA} (h : t σ H fun vs H1 => sp vs H1 Q (E σ)) : tCallS sp E t σ H Q := h
theorem s_tup {t : TA} (h : t σ H fun xs H1 => xs.length ≤ sizeLine ∧ ∀ p, H1 p = none → Q (.ref p) (upd H1 p (.tup xs))) : tTup t σ H Q := h
theorem s_lst {t : TA} (h : t σ H fun xs H1 => xs.length ≤ sizeLine ∧ ∀ p, H1 p = none → Q (.ref p) (upd H1 p (.lst xs))) : tLst t σ H Q := h
theorem s_bm {T : String} {u : V → List V → Hp → VK → Prop} {t : TA} (h : te σ H fun x H1 => tyV K T x H1 ∧ t σ H1 fun xs H2 => u x xs H2 Q) : tBM K T u te t σ H Q := h
theorem s_bm0 {T : String} {u : V → List V → Hp → VK → Prop} (h : te σ H fun x H1 => tyV K T x H1 ∧ u x [] H1 Q) : tBM0 K T u te σ H Q := h
theorem s_rI0 {g : Int → Int → V} {i j : Int} (h : Q (g i j) H) : rI0 g (.int i) (.int j) H Q := ⟨i, j, rfl, rfl, h⟩
theorem s_rI {C : Int → Int → Prop} {g : Int → Int → V} {i j : Int} (c : C i j) (h : Q (g i j) H) : rI C g (.int i) (.int j) H Q := ⟨i, j, rfl, rfl, c, h⟩
theorem s_rU {g : Int → V} {i : Int} (h : Q (g i) H) : rU g (.int i) H Q := ⟨i, rfl, h⟩
theorem s_addI {i j : Int} (h : Q (.int (i + j)) H) : rAddU K (.int i) (.int j) H Q := .inl ⟨i, j, rfl, rfl, h⟩
theorem s_addS {i j : Str} (e : i.length + j.length ≤ sizeLine) (h : Q (.str (i ++ j)) H) : rAddU K (.str i) (.str j) H Q := .inr (.inl ⟨i, j, rfl, rfl, e, h⟩)
theorem s_addL {l b : Addr} {xs zs : List V} (h1 : SqL K H l xs) (h2 : SqL K H b zs) (e : xs.length + zs.length ≤ sizeLine) (h : ∀ p, H p = none → Q (.ref p) (upd H p (.lst (xs ++ zs)))) : rAddU K (.ref l) (.ref b) H Q := .inr (.inr (.inl ⟨l, b, xs, zs, rfl, rfl, h1, h2, e, h⟩))
theorem s_eqS {x y : V} (c : scal x y = true) (h : Q (.bl (decide (x = y))) H) : rEqU K x y H Q := .inl ⟨c, h⟩
theorem s_neS {x y : V} (c : scal x y = true) (h : Q (.bl (!decide (x = y))) H) : rNeU K x y H Q := .inl ⟨c, h⟩
theorem s_eqD {x y : V} {d e : PyData} (c : Dp K H x d) (c2 : Dp K H y e) (z : SeqAt.shaped d = true) (z2 : SeqAt.shaped e = true) (h : Q (.bl (PyData.eqv d e)) H) : rEqU K x y H Q := .inr ⟨d, e, c, c2, z, z2, h⟩
theorem s_neD {x y : V} {d e : PyData} (c : Dp K H x d) (c2 : Dp K H y e) (z : SeqAt.shaped d = true) (z2 : SeqAt.shaped e = true) (h : Q (.bl (!PyData.eqv d e)) H) : rNeU K x y H Q := .inr ⟨d, e, c, c2, z, z2, h⟩
theorem s_isN {x : V} (h : Q (.bl (decide (x = .non))) H) : (fun (x y : V) (H : Hp) (Q : VK) => y = .non ∧ Q (.bl (decide (x = .non))) H) x .non H Q := ⟨rfl, h⟩
theorem s_ixL {p : Addr} {xs : List V} {i : Int} {v : V} (h : SqL K H p xs) (e : atI xs i = some v) (q : Q v H) : rIx K (.ref p) (.int i) H Q := .inl ⟨p, xs, i, v, rfl, rfl, h, e, q⟩
theorem s_ixT {p : Addr} {xs : List V} {i : Int} {v : V} (h : SqT K H p xs) (e : atI xs i = some v) (q : Q v H) : rIx K (.ref p) (.int i) H Q := .inr (.inl ⟨p, xs, i, v, rfl, rfl, h, e, q⟩)
theorem s_ixS {z : Str} {i : Int} {c : Nat} (l : z.length ≤ sizeLine) (e : atI z.cps.toList i = some c) (q : Q (.str ⟨#[c]⟩) H) : rIx K (.str z) (.int i) H Q := .inr (.inr ⟨z, i, c, rfl, rfl, l, e, q⟩)
theorem s_append {l : Addr} {xs : List V} {y : V} (h : H l = some (.lst xs)) (e : xs.length < sizeLine) (q : Q .non (upd H l (.lst (xs ++ [y])))) : rAppend (.ref l) [y] H Q := ⟨l, xs, y, rfl, rfl, h, e, q⟩
theorem s_iteD {p : Prop} [Decidable p] {A B : Prop} (h1 : p → A) (h2 : ¬ p → B) : if decide p = true then A else B := by
  by_cases h : p
  · rw [decide_eq_true h]; exact h1 h
  · rw [decide_eq_false h]; exact h2 h
theorem s_iteN {p : Prop} [Decidable p] {A B : Prop} (h1 : ¬ p → A) (h2 : p → B) : if (!decide p) = true then A else B := by
  by_cases h : p
  · rw [decide_eq_true h]; exact h2 h
  · rw [decide_eq_false h]; exact h1 h
theorem s_iteB {b : Bool} {A B : Prop} (h1 : b = true → A) (h2 : b = false → B) : if b = true then A else B := by
  cases b
  · exact h2 rfl
  · exact h1 rfl
theorem s_yes {b : Bool} {A B : Prop} (e : b = true) (h : A) : if b = true then A else B := by
  rw [e]; exact h
theorem s_no {b : Bool} {A B : Prop} (e : b = false) (h : B) : if b = true then A else B := by
  rw [e]; exact h
theorem hf_new {q p : Addr} {o o2 : HO} (hq : H q = none) (h : H p = some o) : (upd H q o2) p = some o := by
  rw [upd_ne (ne_of_none h hq)]; exact h
theorem hf_ne {q p : Addr} {o o2 : HO} (hq : p ≠ q) (h : H p = some o) : (upd H q o2) p = some o := by
  rw [upd_ne hq]; exact h
theorem sl_of {p : Addr} {xs : List V} (h : H p = some (.lst xs)) : SqL K H p xs := .inl (.inl h)
theorem st_of {p : Addr} {xs : List V} (h : H p = some (.tup xs)) : SqT K H p xs := .inl (.inl h)
theorem Same.new {p : Addr} {o : HO} (h : H p = none) : Same H (upd H p o) := fun b x e => by
  rw [upd_ne (ne_of_none e h)]; exact e
/-- what H does not know may change -/
theorem Same.mut {p : Addr} {o : HO} (e : Same H H') (h : H p = none) : Same H (upd H' p o) := fun a u ha => by
  rw [upd_ne (ne_of_none ha h)]; exact e a u ha
theorem Same.tup {a : Addr} {xs : List V} (e : Same H H') (h : SqT K H a xs) : SqT K H' a xs := by
  rcases h with (h | ⟨o, h⟩) | h
  · exact .inl (.inl (e _ _ h))
  · exact .inl (.inr ⟨o, e _ _ h⟩)
  · exact .inr h
end
/-! ### named readings of the layer's rules -/
def rIsNo : R2 := fun x y H Q => y = .non ∧ Q (.bl (decide (x = .non))) H
def rNotNo : R2 := fun x y H Q => y = .non ∧ Q (.bl (!decide (x = .non))) H
theorem op_isNo {X : Cx} : OpR X (compareOp .Is) rIsNo := op_isN
theorem op_notNo {X : Cx} : OpR X (compareOp .IsNot) rNotNo := op_notN
def rStrI : List V → Hp → VK → Prop := fun xs H Q => ∃ i, xs = [.int i] ∧ i.natAbs.log2 < 1920 ∧ Q (.str (toString i)) H
theorem call_strI {X : Cx} : CallR X (.type "str") rStrI := call_str_int
def rAbsI : List V → Hp → VK → Prop := fun xs H Q => ∃ i, xs = [.int i] ∧ Q (.int (if i < 0 then -i else i)) H
theorem call_absI {X : Cx} : CallR X (.builtin "abs") rAbsI := call_abs
def rLenU (K : PySem.W.Frag) : List V → Hp → VK → Prop := fun xs H Q => ∃ x n, xs = [x] ∧ LenV K x H n ∧ Q (.int n) H
theorem call_lenU {X : Cx} {K : PySem.W.Frag} (hK : X.K = K := by rfl) : CallR X (.builtin "len") (rLenU K) := hK ▸ call_len
def rJoinU (K : PySem.W.Frag) : V → List V → Hp → VK → Prop := fun x xs H Q => ∃ a p, ∃ ys : List Str, x = .str a ∧ xs = [.ref p] ∧ (SqL K H p (ys.map V.str) ∨ SqT K H p (ys.map V.str)) ∧ (ys.map (·.length)).sum + ys.length * a.length ≤ 16777216 ∧ Q (.str (Txt.join a ys)) H
theorem mt_joinU {X : Cx} {K : PySem.W.Frag} (hK : X.K = K := by rfl) : MtR X "str.join" (rJoinU K) := hK ▸ mt_join
section
variable {K : PySem.W.Frag} {σ : L2.St} {H H' : Hp} {Q : VK}
theorem s_isNo {x : V} (h : Q (.bl (decide (x = .non))) H) : rIsNo x .non H Q := ⟨rfl, h⟩
theorem s_notNo {x : V} (h : Q (.bl (!decide (x = .non))) H) : rNotNo x .non H Q := ⟨rfl, h⟩
theorem s_strI {i : Int} (e : i.natAbs.log2 < 1920) (h : Q (.str (toString i)) H) : rStrI [.int i] H Q := ⟨i, rfl, e, h⟩
theorem s_absI {i : Int} (h : Q (.int (if i < 0 then -i else i)) H) : rAbsI [.int i] H Q := ⟨i, rfl, h⟩
theorem s_lenS {z : Str} (e : z.length ≤ sizeLine) (h : Q (.int (z.length : Nat)) H) : rLenU K [.str z] H Q := ⟨_, _, rfl, ⟨e, rfl⟩, h⟩
theorem s_lenL {p : Addr} {xs : List V} (e : SqL K H p xs) (h : Q (.int (xs.length : Nat)) H) : rLenU K [.ref p] H Q := ⟨_, _, rfl, .inl ⟨xs, e, rfl⟩, h⟩
theorem s_lenT {p : Addr} {xs : List V} (e : SqT K H p xs) (h : Q (.int (xs.length : Nat)) H) : rLenU K [.ref p] H Q := ⟨_, _, rfl, .inr ⟨xs, e, rfl⟩, h⟩
theorem s_joinL {a : Str} {p : Addr} {ys : List Str} (e : SqL K H p (ys.map V.str)) (l : (ys.map (·.length)).sum + ys.length * a.length ≤ 16777216) (h : Q (.str (Txt.join a ys)) H) : rJoinU K (.str a) [.ref p] H Q := ⟨a, p, ys, rfl, rfl, .inl e, l, h⟩
theorem s_joinT {a : Str} {p : Addr} {ys : List Str} (e : SqT K H p (ys.map V.str)) (l : (ys.map (·.length)).sum + ys.length * a.length ≤ 16777216) (h : Q (.str (Txt.join a ys)) H) : rJoinU K (.str a) [.ref p] H Q := ⟨a, p, ys, rfl, rfl, .inr e, l, h⟩
theorem s_tyS {z : Str} {A : Prop} (h : A) : tyV K "str" (.str z) H ∧ A := ⟨rfl, h⟩
theorem s_tyL {p : Addr} {xs : List V} {A : Prop} (e : SqL K H p xs) (h : A) : tyV K "list" (.ref p) H ∧ A := ⟨.inl ⟨rfl, _, e⟩, h⟩
/-- isinstance -/
theorem s_isi {x c : V} {t u : Value} {b : Bool} (k : ClsV c u) (ty : TyX K H x t) (e : PySem.W.kitOne K t u = some b) (h : Q (.bl b) H) : rIsi K [x, c] H Q := ⟨x, c, t, u, b, rfl, k, ty, e, h⟩
end
/-! ### steps found by the head of the reading -/
class Step (G : Prop) (G2 : outParam Prop) : Prop where
  go : G2 → G
/-- slot i of a frame -/
class Slot (s : L2.St) (i : Nat) (v : outParam V) : Prop where
  e : s[i]? = some (some v)
instance slot0 {v : V} {s : L2.St} : Slot (some v :: s) 0 v := ⟨rfl⟩
instance slotS {v : V} {s : L2.St} {a : Option V} {i : Nat} [h : Slot s i v] : Slot (a :: s) (i + 1) v := ⟨by rw [List.getElem?_cons_succ]; exact h.e⟩
class SetS (s : L2.St) (i : Nat) (f : outParam (V → L2.St)) : Prop where
  e : ∀ v, s.set i (some v) = f v
instance set0 {a : Option V} {s : L2.St} : SetS (a :: s) 0 (fun v => some v :: s) := ⟨fun _ => rfl⟩
instance setS {s : L2.St} {a : Option V} {i : Nat} {f : V → L2.St} [h : SetS s i f] : SetS (a :: s) (i + 1) (fun v => a :: f v) := ⟨fun v => by rw [List.set_cons_succ, h.e]⟩
class WipeS (s : L2.St) (vs : List Nat) (t : outParam L2.St) : Prop where
  e : wipe s vs = t
class NoneS (s : L2.St) (i : Nat) (t : outParam L2.St) : Prop where
  e : s.set i none = t
instance none0 {a : Option V} {s : L2.St} : NoneS (a :: s) 0 (none :: s) := ⟨rfl⟩
instance noneS {s t : L2.St} {a : Option V} {i : Nat} [h : NoneS s i t] : NoneS (a :: s) (i + 1) (a :: t) := ⟨by rw [List.set_cons_succ, h.e]⟩
instance wipe0 {s : L2.St} : WipeS s [] s := ⟨rfl⟩
instance wipe1 {s t u : L2.St} {v : Nat} {vs : List Nat} [h : WipeS s vs t] [k : NoneS t v u] : WipeS s (v :: vs) u := ⟨by show (wipe s vs).set v none = u; rw [h.e, k.e]⟩
/-! ### loops -/
section
variable {K : PySem.W.Frag} {σ : L2.St} {H H' : Hp} {Q rt : VK} {nx bk ct : L2.St → Hp → Prop} {ta tb te : TE}
/-- the turns of a for -/
def ForW (g : TG) (tb : TS) (D : Ends) (J : It) (σ : L2.St) (H1 : Hp) : Prop := ∃ W : Nat → Nat → L2.St → Hp → Prop, (∃ m, W 0 m σ H1) ∧ ∀ i m σ H, W i m σ H →
  (J.stop i H ∧ D.nx σ H) ∨ (J.go i H ∧ ∃ N : L2.St → Hp → Prop, (∀ σ' H', N σ' H' → ∃ m', m' < m ∧ W (i + 1) m' σ' H') ∧ ∀ x H', J.yld i H x H' → g x σ H' fun σ2 H2 => tb { D with nx := N, ct := N, bk := D.nx } σ2 H2)
theorem s_for {wi : TI} {g : TG} {t : TS} (h : wi σ H fun J H1 => ForW g t ⟨nx, rt, bk, ct⟩ J σ H1) : tFor wi g t ⟨nx, rt, bk, ct⟩ σ H := h
theorem s_iRng1 {ta : TA} {R : It → Hp → Prop} (h : ta σ H fun vs H1 => ∃ j : Int, vs = [.int j] ∧ -(2 ^ 62) ≤ j ∧ j < 2 ^ 62 ∧ R (Itr 0 j.toNat) H1) : iRng1 ta σ H R := h
theorem s_iRng2 {ta : TA} {R : It → Hp → Prop} (h : ta σ H fun vs H1 => ∃ i j : Int, vs = [.int i, .int j] ∧ (-(2 ^ 62) ≤ i ∧ i < 2 ^ 62 ∧ -(2 ^ 62) ≤ j ∧ j < 2 ^ 62) ∧ R (Itr i (j - i).toNat) H1) : iRng2 ta σ H R := h
theorem s_rng1 {j : Int} {g : TG} {t : TS} {D : Ends} (h1 : -(2 ^ 62) ≤ j) (h2 : j < 2 ^ 62) (h : ForW g t D (Itr 0 j.toNat) σ H) : ∃ k : Int, [V.int j] = [V.int k] ∧ -(2 ^ 62) ≤ k ∧ k < 2 ^ 62 ∧ ForW g t D (Itr 0 k.toNat) σ H := ⟨j, rfl, h1, h2, h⟩
theorem s_rng2 {i j : Int} {g : TG} {t : TS} {D : Ends} (h1 : -(2 ^ 62) ≤ i ∧ i < 2 ^ 62 ∧ -(2 ^ 62) ≤ j ∧ j < 2 ^ 62) (h : ForW g t D (Itr i (j - i).toNat) σ H) : ∃ a b : Int, [V.int i, V.int j] = [V.int a, V.int b] ∧ (-(2 ^ 62) ≤ a ∧ a < 2 ^ 62 ∧ -(2 ^ 62) ≤ b ∧ b < 2 ^ 62) ∧ ForW g t D (Itr a (b - a).toNat) σ H := ⟨i, j, rfl, h1, h⟩
theorem s_iList {R : It → Hp → Prop} (h : te σ H fun x H1 => ∃ a, x = .ref a ∧ (∃ xs, SqL K H1 a xs) ∧ R (Itl K a) H1) : iList K te σ H R := h
theorem s_iTup {R : It → Hp → Prop} (h : te σ H fun x H1 => ∃ a, x = .ref a ∧ (∃ xs, SqT K H1 a xs) ∧ R (Itt K a) H1) : iTup K te σ H R := h
theorem s_lst1 {p : Addr} {xs : List V} {g : TG} {t : TS} {D : Ends} (h1 : SqL K H p xs) (h : ForW g t D (Itl K p) σ H) : ∃ a, V.ref p = .ref a ∧ (∃ xs, SqL K H a xs) ∧ ForW g t D (Itl K a) σ H := ⟨p, rfl, ⟨xs, h1⟩, h⟩
theorem s_tup1 {p : Addr} {xs : List V} {g : TG} {t : TS} {D : Ends} (h1 : SqT K H p xs) (h : ForW g t D (Itt K p) σ H) : ∃ a, V.ref p = .ref a ∧ (∃ xs, SqT K H a xs) ∧ ForW g t D (Itt K a) σ H := ⟨p, rfl, ⟨xs, h1⟩, h⟩
theorem s_forR {lo : Int} {n : Nat} {g : TG} {t : TS} (Pv : Nat → L2.St → Hp → Prop) (h0 : Pv 0 σ H)
    (hs : ∀ i σ H, i < n → Pv i σ H → g (.int (lo + i)) σ H fun σ2 H2 => t ⟨Pv (i + 1), rt, nx, Pv (i + 1)⟩ σ2 H2) (hd : ∀ σ H, Pv n σ H → nx σ H) : ForW g t ⟨nx, rt, bk, ct⟩ (Itr lo n) σ H := for_range (D := ⟨nx, rt, bk, ct⟩) Pv h0 hs hd
theorem s_forR0 {n : Nat} {g : TG} {t : TS} (Pv : Nat → L2.St → Hp → Prop) (h0 : Pv 0 σ H)
    (hs : ∀ i σ H, i < n → Pv i σ H → g (.int (i : Nat)) σ H fun σ2 H2 => t ⟨Pv (i + 1), rt, nx, Pv (i + 1)⟩ σ2 H2) (hd : ∀ σ H, Pv n σ H → nx σ H) : ForW g t ⟨nx, rt, bk, ct⟩ (Itr 0 n) σ H :=
  s_forR Pv h0 (fun i σ H hi p => by rw [Int.zero_add]; exact hs i σ H hi p) hd
theorem s_forL {a : Addr} {xs : List V} {g : TG} {t : TS} (Pv : Nat → L2.St → Hp → Prop) (h0 : Pv 0 σ H) (hl : ∀ i σ H, i ≤ xs.length → Pv i σ H → SqL K H a xs)
    (hs : ∀ i x σ H, xs[i]? = some x → Pv i σ H → g x σ H fun σ2 H2 => t ⟨Pv (i + 1), rt, nx, Pv (i + 1)⟩ σ2 H2) (hd : ∀ σ H, Pv xs.length σ H → nx σ H) : ForW g t ⟨nx, rt, bk, ct⟩ (Itl K a) σ H := for_list (D := ⟨nx, rt, bk, ct⟩) Pv h0 hl hs hd
theorem s_forT {a : Addr} {xs : List V} {g : TG} {t : TS} (Pv : Nat → L2.St → Hp → Prop) (h0 : Pv 0 σ H) (hl : ∀ i σ H, i ≤ xs.length → Pv i σ H → SqT K H a xs)
    (hs : ∀ i x σ H, xs[i]? = some x → Pv i σ H → g x σ H fun σ2 H2 => t ⟨Pv (i + 1), rt, nx, Pv (i + 1)⟩ σ2 H2) (hd : ∀ σ H, Pv xs.length σ H → nx σ H) : ForW g t ⟨nx, rt, bk, ct⟩ (Itt K a) σ H := for_tup (D := ⟨nx, rt, bk, ct⟩) Pv h0 hl hs hd
/-- the turns of a comprehension -/
def LcW (g : TG) (tt : TT) (te : TE) (vs : List Nat) (σ : L2.St) (Q : VK) (J : It) (H1 : Hp) : Prop := ∀ D, H1 D = none → ∃ W : Nat → Nat → Hp → Prop, (∃ m, W 0 m (upd H1 D (.lst []))) ∧ ∀ i m H, W i m H →
  (J.stop i H ∧ Q (.ref D) H) ∨ (J.go i H ∧ ∃ Nx : Hp → Prop, (∀ H', Nx H' → ∃ m', m' < m ∧ W (i + 1) m' H') ∧ ∀ x H', J.yld i H x H' → g x (wipe σ vs) H' fun σ2 H2 => wipe σ2 vs = wipe σ vs ∧ tt σ2 H2 fun b H3 =>
    if b = true then te σ2 H3 fun y H4 => ∃ acc, H4 D = some (.lst acc) ∧ acc.length < sizeLine ∧ Nx (upd H4 D (.lst (acc ++ [y]))) else Nx H3)
theorem s_lc {wi : TI} {g : TG} {tt : TT} {vs : List Nat} (h : wi σ H (LcW g tt te vs σ Q)) : tLc wi g tt te vs σ H Q := h
theorem s_rng1c {j : Int} {g : TG} {tt : TT} {vs : List Nat} (h1 : -(2 ^ 62) ≤ j) (h2 : j < 2 ^ 62) (h : LcW g tt te vs σ Q (Itr 0 j.toNat) H) : ∃ k : Int, [V.int j] = [V.int k] ∧ -(2 ^ 62) ≤ k ∧ k < 2 ^ 62 ∧ LcW g tt te vs σ Q (Itr 0 k.toNat) H := ⟨j, rfl, h1, h2, h⟩
theorem s_rng2c {i j : Int} {g : TG} {tt : TT} {vs : List Nat} (h1 : -(2 ^ 62) ≤ i ∧ i < 2 ^ 62 ∧ -(2 ^ 62) ≤ j ∧ j < 2 ^ 62) (h : LcW g tt te vs σ Q (Itr i (j - i).toNat) H) : ∃ a b : Int, [V.int i, V.int j] = [V.int a, V.int b] ∧ (-(2 ^ 62) ≤ a ∧ a < 2 ^ 62 ∧ -(2 ^ 62) ≤ b ∧ b < 2 ^ 62) ∧ LcW g tt te vs σ Q (Itr a (b - a).toNat) H := ⟨i, j, rfl, h1, h⟩
theorem s_lst1c {p : Addr} {xs : List V} {g : TG} {tt : TT} {vs : List Nat} (h1 : SqL K H p xs) (h : LcW g tt te vs σ Q (Itl K p) H) : ∃ a, V.ref p = .ref a ∧ (∃ xs, SqL K H a xs) ∧ LcW g tt te vs σ Q (Itl K a) H := ⟨p, rfl, ⟨xs, h1⟩, h⟩
theorem s_tup1c {p : Addr} {xs : List V} {g : TG} {tt : TT} {vs : List Nat} (h1 : SqT K H p xs) (h : LcW g tt te vs σ Q (Itt K p) H) : ∃ a, V.ref p = .ref a ∧ (∃ xs, SqT K H a xs) ∧ LcW g tt te vs σ Q (Itt K a) H := ⟨p, rfl, ⟨xs, h1⟩, h⟩
theorem s_sz {n : Nat} {A : Prop} (h : n ≤ sizeLine) (a : A) : n ≤ sizeLine ∧ A := ⟨h, a⟩
theorem s_lcR0 {n : Nat} {g : TG} {tt : TT} {vs : List Nat} {τ : L2.St} [hw : WipeS σ vs τ] (Pv : Addr → Nat → Hp → Prop) (h0 : ∀ D, H D = none → Pv D 0 (upd H D (.lst [])))
    (hs : ∀ D i H1, H D = none → i < n → Pv D i H1 → g (.int (i : Nat)) τ H1 fun σ2 H2 => wipe σ2 vs = τ ∧ tt σ2 H2 fun b H3 =>
      if b = true then te σ2 H3 fun y H4 => ∃ acc, H4 D = some (.lst acc) ∧ acc.length < sizeLine ∧ Pv D (i + 1) (upd H4 D (.lst (acc ++ [y]))) else Pv D (i + 1) H3) (hd : ∀ D H1, H D = none → Pv D n H1 → Q (.ref D) H1) :
    LcW g tt te vs σ Q (Itr 0 n) H := by
  have e := hw.e
  subst e
  exact fun D hD => lc_range (lo := 0) (n := n) (Pv D) (h0 D hD) (fun i H1 hi p => by rw [Int.zero_add]; exact hs D i H1 hD hi p) fun H1 => hd D H1 hD
theorem s_lcL {a : Addr} {xs : List V} {g : TG} {tt : TT} {vs : List Nat} {τ : L2.St} [hw : WipeS σ vs τ] (Pv : Addr → Nat → Hp → Prop) (h0 : ∀ D, H D = none → Pv D 0 (upd H D (.lst []))) (hl : ∀ D i H1, H D = none → i ≤ xs.length → Pv D i H1 → SqL K H1 a xs)
    (hs : ∀ D i x H1, H D = none → xs[i]? = some x → Pv D i H1 → g x τ H1 fun σ2 H2 => wipe σ2 vs = τ ∧ tt σ2 H2 fun b H3 =>
      if b = true then te σ2 H3 fun y H4 => ∃ acc, H4 D = some (.lst acc) ∧ acc.length < sizeLine ∧ Pv D (i + 1) (upd H4 D (.lst (acc ++ [y]))) else Pv D (i + 1) H3) (hd : ∀ D H1, H D = none → Pv D xs.length H1 → Q (.ref D) H1) :
    LcW g tt te vs σ Q (Itl K a) H := by
  have e := hw.e
  subst e
  exact fun D hD => lc_list (K := K) (a := a) (xs := xs) (Pv D) (h0 D hD) (fun i H1 => hl D i H1 hD) (fun i x H1 => hs D i x H1 hD) fun H1 => hd D H1 hD
theorem s_lcT {a : Addr} {xs : List V} {g : TG} {tt : TT} {vs : List Nat} {τ : L2.St} [hw : WipeS σ vs τ] (Pv : Addr → Nat → Hp → Prop) (h0 : ∀ D, H D = none → Pv D 0 (upd H D (.lst []))) (hl : ∀ D i H1, H D = none → i ≤ xs.length → Pv D i H1 → SqT K H1 a xs)
    (hs : ∀ D i x H1, H D = none → xs[i]? = some x → Pv D i H1 → g x τ H1 fun σ2 H2 => wipe σ2 vs = τ ∧ tt σ2 H2 fun b H3 =>
      if b = true then te σ2 H3 fun y H4 => ∃ acc, H4 D = some (.lst acc) ∧ acc.length < sizeLine ∧ Pv D (i + 1) (upd H4 D (.lst (acc ++ [y]))) else Pv D (i + 1) H3) (hd : ∀ D H1, H D = none → Pv D xs.length H1 → Q (.ref D) H1) :
    LcW g tt te vs σ Q (Itt K a) H := by
  have e := hw.e
  subst e
  exact fun D hD => lc_tup (K := K) (a := a) (xs := xs) (Pv D) (h0 D hD) (fun i H1 => hl D i H1 hD) (fun i x H1 => hs D i x H1 hD) fun H1 => hd D H1 hD
theorem s_acc {D : Addr} {acc : List V} {y : V} {R : Hp → Prop} (h : H D = some (.lst acc)) (l : acc.length < sizeLine) (q : R (upd H D (.lst (acc ++ [y])))) : ∃ acc, H D = some (.lst acc) ∧ acc.length < sizeLine ∧ R (upd H D (.lst (acc ++ [y]))) := ⟨acc, h, l, q⟩
theorem s_tyes {QT : Bool → Hp → Prop} (h : QT true H) : tYes σ H QT := h
theorem s_wipe {A B : Prop} (e : A) (h : B) : A ∧ B := ⟨e, h⟩
/-- all but p -/
def But (p : Addr) (H H' : Hp) : Prop := ∀ b o, b ≠ p → H b = some o → H' b = some o
theorem But.refl {p : Addr} : But p H H := fun _ _ _ h => h
theorem But.trans {p : Addr} {H1 : Hp} (a : But p H H1) (b : But p H1 H') : But p H H' := fun c o n h => b c o n (a c o n h)
theorem But.same {p : Addr} (e : Same H H') : But p H H' := fun b o _ h => e b o h
theorem But.upd {p : Addr} {o : HO} : But p H (upd H p o) := fun b x n e => by
  rw [upd_ne n]; exact e
theorem But.new {p q : Addr} {o : HO} (h : H q = none) : But p H (L2.upd H q o) := But.same (Same.new h)
/-- p and what H does not know may change -/
theorem But.mut {p q : Addr} {o : HO} (b : But p H H') (h : H q = none) : But p H (L2.upd H' q o) := fun x y n e => by
  rw [upd_ne (ne_of_none e h)]; exact b x y n e
theorem But.put {p : Addr} {o : HO} (b : But p H H') : But p H (L2.upd H' p o) := fun x y n e => by
  rw [upd_ne n]; exact b x y n e
/-- what p was not in, may change -/
theorem But.toSame {p : Addr} {H1 : Hp} (a : Same H H1) (n : H p = none) (b : But p H1 H') : Same H H' := fun c o e => b c o (ne_of_none e n) (a c o e)
end
section
variable {K : PySem.W.Frag} {σ τ : L2.St} {H H' : Hp} {Q rt : VK} {nx bk ct : L2.St → Hp → Prop} {ta tb te : TE} {QT : Bool → Hp → Prop} {QA : List V → Hp → Prop} {r : R2}
instance {t u : TS} : Step (tSeq t u ⟨nx, rt, bk, ct⟩ σ H) (t ⟨u ⟨nx, rt, bk, ct⟩, rt, bk, ct⟩ σ H) := ⟨id⟩
instance (priority := 2000) {i : Nat} {f : V → L2.St} [h : SetS σ i f] : Step (tAsg te (gName i) ⟨nx, rt, bk, ct⟩ σ H) (te σ H fun x H1 => nx (f x) H1) := ⟨fun q => by
  have e : (fun x H1 => nx (f x) H1) = fun x H1 => gName i x σ H1 nx := by
    funext x H1
    show nx (f x) H1 = nx (σ.set i (some x)) H1
    rw [h.e]
  show te σ H (fun x H1 => gName i x σ H1 nx)
  rw [← e]
  exact q⟩
instance {g : TG} : Step (tAsg te g ⟨nx, rt, bk, ct⟩ σ H) (te σ H fun x H1 => g x σ H1 nx) := ⟨id⟩
instance : Step (tRet te ⟨nx, rt, bk, ct⟩ σ H) (te σ H rt) := ⟨id⟩
instance : Step (tRetN ⟨nx, rt, bk, ct⟩ σ H) (rt .non H) := ⟨id⟩
instance : Step (tDrop te ⟨nx, rt, bk, ct⟩ σ H) (te σ H fun _ H1 => nx σ H1) := ⟨id⟩
instance {c : TT} {t u : TS} : Step (tIfS c t u ⟨nx, rt, bk, ct⟩ σ H) (c σ H fun b H1 => if b = true then t ⟨nx, rt, bk, ct⟩ σ H1 else u ⟨nx, rt, bk, ct⟩ σ H1) := ⟨id⟩
instance : Step (tNext ⟨nx, rt, bk, ct⟩ σ H) (nx σ H) := ⟨id⟩
instance : Step (tBreak ⟨nx, rt, bk, ct⟩ σ H) (bk σ H) := ⟨id⟩
instance : Step (tCont ⟨nx, rt, bk, ct⟩ σ H) (ct σ H) := ⟨id⟩
instance : Step (Ends.nx ⟨nx, rt, bk, ct⟩ σ H) (nx σ H) := ⟨id⟩
instance : Step (Ends.bk ⟨nx, rt, bk, ct⟩ σ H) (bk σ H) := ⟨id⟩
instance : Step (Ends.ct ⟨nx, rt, bk, ct⟩ σ H) (ct σ H) := ⟨id⟩
instance {v : V} : Step (Ends.rt ⟨nx, rt, bk, ct⟩ v H) (rt v H) := ⟨id⟩
instance {i : Nat} {v : V} {q : L2.St → Hp → Prop} {f : V → L2.St} [h : SetS σ i f] : Step (gName i v σ H q) (q (f v) H) := ⟨fun z => by
  show q (σ.set i (some v)) H
  rw [h.e]
  exact z⟩
instance {t : TG} {u : TGs} {v : V} {l : List V} {q : L2.St → Hp → Prop} : Step (gCons t u (v :: l) σ H q) (t v σ H fun s2 H2 => u l s2 H2 q) := ⟨s_gcons⟩
instance {q : L2.St → Hp → Prop} : Step (gNil [] σ H q) (q σ H) := ⟨s_gnil⟩
instance {to ti : TE} {ts : TSet} {v : V} {q : L2.St → Hp → Prop} : Step (gSub to ti ts v σ H q) (to σ H fun o H1 => ti σ H1 fun i H2 => ts o i v H2 fun H3 => q σ H3) := ⟨id⟩
instance : Step (tTest te σ H QT) (te σ H fun x H1 => ∃ k, x = .bl k ∧ QT k H1) := ⟨id⟩
instance : Step (tB te σ H QT) (te σ H fun x H1 => ∃ k, x = .bl k ∧ QT k H1) := ⟨id⟩
instance {b : Bool} {F : Bool → Prop} : Step (∃ k, V.bl b = .bl k ∧ F k) (F b) := ⟨fun h => ⟨b, rfl, h⟩⟩
instance {t u : TT} : Step (tAnd t u σ H QT) (t σ H fun c H1 => if c = true then u σ H1 QT else QT false H1) := ⟨id⟩
instance {t u : TT} : Step (tOr t u σ H QT) (t σ H fun c H1 => if c = true then QT true H1 else u σ H1 QT) := ⟨id⟩
instance {t : TT} : Step (tNot t σ H QT) (t σ H fun c H1 => QT (!c) H1) := ⟨id⟩
instance : Step (tAndV ta tb σ H Q) (ta σ H fun x H1 => ∃ c, x = .bl c ∧ if c = true then tb σ H1 Q else Q (.bl false) H1) := ⟨id⟩
instance : Step (tOrV ta tb σ H Q) (ta σ H fun x H1 => ∃ c, x = .bl c ∧ if c = true then Q (.bl true) H1 else tb σ H1 Q) := ⟨id⟩
instance : Step (tNotV ta σ H Q) (ta σ H fun x H1 => ∃ c, x = .bl c ∧ Q (.bl (!c)) H1) := ⟨id⟩
instance {t : TT} : Step (tIf t ta tb σ H Q) (t σ H fun c H1 => if c = true then ta σ H1 Q else tb σ H1 Q) := ⟨id⟩
instance {i : Nat} {v : V} [h : Slot σ i v] : Step (tVar i σ H Q) (Q v H) := ⟨fun q => ⟨v, h.e, q⟩⟩
instance {v : V} : Step (tC v σ H Q) (Q v H) := ⟨id⟩
instance : Step (tOp r ta tb σ H Q) (ta σ H fun x H1 => tb σ H1 fun y H2 => r x y H2 Q) := ⟨id⟩
instance {u : V → Hp → VK → Prop} : Step (tUn u ta σ H Q) (ta σ H fun x H1 => u x H1 Q) := ⟨id⟩
instance {tr : TA} : Step (tCons ta tr σ H QA) (ta σ H fun x H1 => tr σ H1 fun xs H2 => QA (x :: xs) H2) := ⟨id⟩
instance : Step (tNil σ H QA) (QA [] H) := ⟨id⟩
instance {u : List V → Hp → VK → Prop} {t : TA} : Step (tCB u t σ H Q) (t σ H fun vs H1 => u vs H1 Q) := ⟨id⟩
instance {sp : Sp} {E : XK} {t : TA} : Step (tCall sp [] E t σ H Q) (t σ H fun vs H1 => sp vs H1 Q E) := ⟨fun h => by
  have e : (fun (vs : List V) (H1 : Hp) => sp (vs ++ []) H1 Q E) = fun vs H1 => sp vs H1 Q E := by
    funext vs H1
    rw [List.append_nil]
  show t σ H (fun vs H1 => sp (vs ++ []) H1 Q E)
  rw [e]
  exact h⟩
instance {sp : Sp} {E : L2.St → XK} {t : TA} : Step (tCallS sp E t σ H Q) (t σ H fun vs H1 => sp vs H1 Q (E σ)) := ⟨id⟩
instance {t : TA} : Step (tTup t σ H Q) (t σ H fun xs H1 => xs.length ≤ sizeLine ∧ ∀ p, H1 p = none → Q (.ref p) (upd H1 p (.tup xs))) := ⟨id⟩
instance {t : TA} : Step (tLst t σ H Q) (t σ H fun xs H1 => xs.length ≤ sizeLine ∧ ∀ p, H1 p = none → Q (.ref p) (upd H1 p (.lst xs))) := ⟨id⟩
instance {T : String} {u : V → List V → Hp → VK → Prop} {t : TA} : Step (tBM K T u te t σ H Q) (te σ H fun x H1 => tyV K T x H1 ∧ t σ H1 fun xs H2 => u x xs H2 Q) := ⟨id⟩
instance {T : String} {u : V → List V → Hp → VK → Prop} : Step (tBM0 K T u te σ H Q) (te σ H fun x H1 => tyV K T x H1 ∧ u x [] H1 Q) := ⟨id⟩
instance {g : Int → Int → V} {i j : Int} : Step (rI0 g (.int i) (.int j) H Q) (Q (g i j) H) := ⟨s_rI0⟩
instance {C : Int → Int → Prop} {g : Int → Int → V} {i j : Int} : Step (rI C g (.int i) (.int j) H Q) (C i j ∧ Q (g i j) H) := ⟨fun h => s_rI h.1 h.2⟩
instance {g : Int → V} {i : Int} : Step (rU g (.int i) H Q) (Q (g i) H) := ⟨s_rU⟩
instance {i j : Int} : Step (rAddU K (.int i) (.int j) H Q) (Q (.int (i + j)) H) := ⟨s_addI⟩
instance {i j : Str} : Step (rAddU K (.str i) (.str j) H Q) (i.length + j.length ≤ sizeLine ∧ Q (.str (i ++ j)) H) := ⟨fun h => s_addS h.1 h.2⟩
instance {i j : Int} : Step (rEqU K (.int i) (.int j) H Q) (Q (.bl (decide (i = j))) H) := ⟨fun h => s_eqS rfl (by
  have e : decide (V.int i = V.int j) = decide (i = j) := by by_cases z : i = j <;> simp [z]
  rw [e]; exact h)⟩
instance {i j : Str} : Step (rEqU K (.str i) (.str j) H Q) (Q (.bl (decide (i = j))) H) := ⟨fun h => s_eqS rfl (by
  have e : decide (V.str i = V.str j) = decide (i = j) := by by_cases z : i = j <;> simp [z]
  rw [e]; exact h)⟩
instance {i j : Int} : Step (rNeU K (.int i) (.int j) H Q) (Q (.bl (!decide (i = j))) H) := ⟨fun h => s_neS rfl (by
  have e : decide (V.int i = V.int j) = decide (i = j) := by by_cases z : i = j <;> simp [z]
  rw [e]; exact h)⟩
instance {i j : Str} : Step (rNeU K (.str i) (.str j) H Q) (Q (.bl (!decide (i = j))) H) := ⟨fun h => s_neS rfl (by
  have e : decide (V.str i = V.str j) = decide (i = j) := by by_cases z : i = j <;> simp [z]
  rw [e]; exact h)⟩
instance {x : V} : Step (rIsNo x .non H Q) (Q (.bl (decide (x = .non))) H) := ⟨s_isNo⟩
instance {x : V} : Step (rNotNo x .non H Q) (Q (.bl (!decide (x = .non))) H) := ⟨s_notNo⟩
instance {i : Int} : Step (rStrI [.int i] H Q) (i.natAbs.log2 < 1920 ∧ Q (.str (toString i)) H) := ⟨fun h => s_strI h.1 h.2⟩
instance {i : Int} : Step (rAbsI [.int i] H Q) (Q (.int (if i < 0 then -i else i)) H) := ⟨s_absI⟩
instance {z : Str} {A : Prop} : Step (tyV K "str" (.str z) H ∧ A) A := ⟨s_tyS⟩
instance {z : Str} : Step (rLenU K [.str z] H Q) (z.length ≤ sizeLine ∧ Q (.int (z.length : Nat)) H) := ⟨fun h => s_lenS h.1 h.2⟩
instance {wi : TI} {g : TG} {t : TS} : Step (tFor wi g t ⟨nx, rt, bk, ct⟩ σ H) (wi σ H fun J H1 => ForW g t ⟨nx, rt, bk, ct⟩ J σ H1) := ⟨id⟩
instance {ta : TA} {R : It → Hp → Prop} : Step (iRng1 ta σ H R) (ta σ H fun vs H1 => ∃ j : Int, vs = [.int j] ∧ -(2 ^ 62) ≤ j ∧ j < 2 ^ 62 ∧ R (Itr 0 j.toNat) H1) := ⟨id⟩
instance {ta : TA} {R : It → Hp → Prop} : Step (iRng2 ta σ H R) (ta σ H fun vs H1 => ∃ i j : Int, vs = [.int i, .int j] ∧ (-(2 ^ 62) ≤ i ∧ i < 2 ^ 62 ∧ -(2 ^ 62) ≤ j ∧ j < 2 ^ 62) ∧ R (Itr i (j - i).toNat) H1) := ⟨id⟩
instance {j : Int} {g : TG} {t : TS} {D : Ends} : Step (∃ k : Int, [V.int j] = [V.int k] ∧ -(2 ^ 62) ≤ k ∧ k < 2 ^ 62 ∧ ForW g t D (Itr 0 k.toNat) σ H) (-(2 ^ 62) ≤ j ∧ j < 2 ^ 62 ∧ ForW g t D (Itr 0 j.toNat) σ H) := ⟨fun h => s_rng1 h.1 h.2.1 h.2.2⟩
instance {i j : Int} {g : TG} {t : TS} {D : Ends} : Step (∃ a b : Int, [V.int i, V.int j] = [V.int a, V.int b] ∧ (-(2 ^ 62) ≤ a ∧ a < 2 ^ 62 ∧ -(2 ^ 62) ≤ b ∧ b < 2 ^ 62) ∧ ForW g t D (Itr a (b - a).toNat) σ H) ((-(2 ^ 62) ≤ i ∧ i < 2 ^ 62 ∧ -(2 ^ 62) ≤ j ∧ j < 2 ^ 62) ∧ ForW g t D (Itr i (j - i).toNat) σ H) := ⟨fun h => s_rng2 h.1 h.2⟩
instance {j : Int} {g : TG} {tt : TT} {vs : List Nat} : Step (∃ k : Int, [V.int j] = [V.int k] ∧ -(2 ^ 62) ≤ k ∧ k < 2 ^ 62 ∧ LcW g tt te vs σ Q (Itr 0 k.toNat) H) (-(2 ^ 62) ≤ j ∧ j < 2 ^ 62 ∧ LcW g tt te vs σ Q (Itr 0 j.toNat) H) := ⟨fun h => s_rng1c h.1 h.2.1 h.2.2⟩
instance {i j : Int} {g : TG} {tt : TT} {vs : List Nat} : Step (∃ a b : Int, [V.int i, V.int j] = [V.int a, V.int b] ∧ (-(2 ^ 62) ≤ a ∧ a < 2 ^ 62 ∧ -(2 ^ 62) ≤ b ∧ b < 2 ^ 62) ∧ LcW g tt te vs σ Q (Itr a (b - a).toNat) H) ((-(2 ^ 62) ≤ i ∧ i < 2 ^ 62 ∧ -(2 ^ 62) ≤ j ∧ j < 2 ^ 62) ∧ LcW g tt te vs σ Q (Itr i (j - i).toNat) H) := ⟨fun h => s_rng2c h.1 h.2⟩
instance {R : It → Hp → Prop} : Step (iList K te σ H R) (te σ H fun x H1 => ∃ a, x = .ref a ∧ (∃ xs, SqL K H1 a xs) ∧ R (Itl K a) H1) := ⟨id⟩
instance {R : It → Hp → Prop} : Step (iTup K te σ H R) (te σ H fun x H1 => ∃ a, x = .ref a ∧ (∃ xs, SqT K H1 a xs) ∧ R (Itt K a) H1) := ⟨id⟩
instance {wi : TI} {g : TG} {tt : TT} {vs : List Nat} : Step (tLc wi g tt te vs σ H Q) (wi σ H (LcW g tt te vs σ Q)) := ⟨id⟩
instance : Step (tYes σ H QT) (QT true H) := ⟨id⟩
instance {A B : Prop} : Step (if true = true then A else B) A := ⟨iteT⟩
instance {A B : Prop} : Step (if false = true then A else B) B := ⟨iteF⟩
instance {A B : Prop} : Step (if (!true) = true then A else B) B := ⟨iteF⟩
instance {A B : Prop} : Step (if (!false) = true then A else B) A := ⟨iteT⟩
instance {g : TG} {tt : TT} {x : Str} {i : Nat} {J : It} : Step (LcW g tt te (List.map (fun x => x.snd) [(x, i)]) σ Q J H) (LcW g tt te [i] σ Q J H) := ⟨id⟩
instance {g : TG} {tt : TT} {x y : Str} {i j : Nat} {J : It} : Step (LcW g tt te (List.map (fun x => x.snd) [(x, i), (y, j)]) σ Q J H) (LcW g tt te [i, j] σ Q J H) := ⟨id⟩
/-- which built-in class is under which -/
class Kit (a b : String) (r : outParam Bool) : Prop where
  e : kitB a b = some r
instance : Kit "NoneType" "str" false := ⟨by decide +kernel⟩
instance : Kit "NoneType" "int" false := ⟨by decide +kernel⟩
instance : Kit "NoneType" "tuple" false := ⟨by decide +kernel⟩
instance : Kit "NoneType" "list" false := ⟨by decide +kernel⟩
instance : Kit "NoneType" "bool" false := ⟨by decide +kernel⟩
instance : Kit "NoneType" "dict" false := ⟨by decide +kernel⟩
instance : Kit "bool" "str" false := ⟨by decide +kernel⟩
instance : Kit "bool" "int" true := ⟨by decide +kernel⟩
instance : Kit "bool" "tuple" false := ⟨by decide +kernel⟩
instance : Kit "bool" "list" false := ⟨by decide +kernel⟩
instance : Kit "bool" "bool" true := ⟨by decide +kernel⟩
instance : Kit "bool" "dict" false := ⟨by decide +kernel⟩
instance : Kit "int" "str" false := ⟨by decide +kernel⟩
instance : Kit "int" "int" true := ⟨by decide +kernel⟩
instance : Kit "int" "tuple" false := ⟨by decide +kernel⟩
instance : Kit "int" "list" false := ⟨by decide +kernel⟩
instance : Kit "int" "bool" false := ⟨by decide +kernel⟩
instance : Kit "int" "dict" false := ⟨by decide +kernel⟩
instance : Kit "str" "str" true := ⟨by decide +kernel⟩
instance : Kit "str" "int" false := ⟨by decide +kernel⟩
instance : Kit "str" "tuple" false := ⟨by decide +kernel⟩
instance : Kit "str" "list" false := ⟨by decide +kernel⟩
instance : Kit "str" "bool" false := ⟨by decide +kernel⟩
instance : Kit "str" "dict" false := ⟨by decide +kernel⟩
instance : Kit "tuple" "str" false := ⟨by decide +kernel⟩
instance : Kit "tuple" "int" false := ⟨by decide +kernel⟩
instance : Kit "tuple" "tuple" true := ⟨by decide +kernel⟩
instance : Kit "tuple" "list" false := ⟨by decide +kernel⟩
instance : Kit "tuple" "bool" false := ⟨by decide +kernel⟩
instance : Kit "tuple" "dict" false := ⟨by decide +kernel⟩
instance : Kit "list" "str" false := ⟨by decide +kernel⟩
instance : Kit "list" "int" false := ⟨by decide +kernel⟩
instance : Kit "list" "tuple" false := ⟨by decide +kernel⟩
instance : Kit "list" "list" true := ⟨by decide +kernel⟩
instance : Kit "list" "bool" false := ⟨by decide +kernel⟩
instance : Kit "list" "dict" false := ⟨by decide +kernel⟩
instance : Kit "dict" "str" false := ⟨by decide +kernel⟩
instance : Kit "dict" "int" false := ⟨by decide +kernel⟩
instance : Kit "dict" "tuple" false := ⟨by decide +kernel⟩
instance : Kit "dict" "list" false := ⟨by decide +kernel⟩
instance : Kit "dict" "bool" false := ⟨by decide +kernel⟩
instance : Kit "dict" "dict" true := ⟨by decide +kernel⟩
theorem s_isiT {x : V} {a b : String} {r : Bool} [k : Kit a b r] (ty : TyOf K H x (.type a)) (h : Q (.bl r) H) : rIsi K [x, .ty b] H Q := s_isi (.ty b) (.base ty) (kit_ty k.e) h
instance {b : String} {r : Bool} [k : Kit "NoneType" b r] : Step (rIsi K [.non, .ty b] H Q) (Q (.bl r) H) := ⟨s_isiT .non⟩
instance {i : Int} {b : String} {r : Bool} [k : Kit "int" b r] : Step (rIsi K [.int i, .ty b] H Q) (Q (.bl r) H) := ⟨s_isiT (.int i)⟩
instance {i : Bool} {b : String} {r : Bool} [k : Kit "bool" b r] : Step (rIsi K [.bl i, .ty b] H Q) (Q (.bl r) H) := ⟨s_isiT (.bl i)⟩
instance {i : Str} {b : String} {r : Bool} [k : Kit "str" b r] : Step (rIsi K [.str i, .ty b] H Q) (Q (.bl r) H) := ⟨s_isiT (.str i)⟩
theorem s_isiTup {p : Addr} {xs : List V} {b : String} {r : Bool} [k : Kit "tuple" b r] (e : H p = some (.tup xs)) (h : Q (.bl r) H) : rIsi K [.ref p, .ty b] H Q := s_isiT (.tup e) h
theorem s_isiLst {p : Addr} {xs : List V} {b : String} {r : Bool} [k : Kit "list" b r] (e : H p = some (.lst xs)) (h : Q (.bl r) H) : rIsi K [.ref p, .ty b] H Q := s_isiT (.lst e) h
end
end Ol

namespace Ol
open PySem PySem.Spec PyProof.Rows L2
/-! ### the text by places -/
def top (i : Nat) : Stmt := PySem.Challenge.pw_onelook_k94_worths_written.main.body.getD i (.Pass ⟨0, 0, 0, 0⟩)
abbrev s_worth_text : Stmt := top 1
abbrev N_worth_text : List Str := ["standing"]
theorem st_worth_text (a0 : V) : L2.start N_worth_text [a0] = [some a0] := rfl
theorem sc_worth_text : FnScope N_worth_text ["standing"] (defScope s_worth_text) := ⟨rfl, rfl, rfl, by decide +kernel, rfl, by decide +kernel, by decide +kernel⟩
abbrev s__law_digit : Stmt := top 3
abbrev N__law_digit : List Str := ["own", "many", "digit"]
theorem st__law_digit (a0 a1 : V) : L2.start N__law_digit [a0, a1] = [some a0, some a1, none] := rfl
theorem sc__law_digit : FnScope N__law_digit ["own", "many"] (defScope s__law_digit) := ⟨rfl, rfl, rfl, by decide +kernel, rfl, by decide +kernel, by decide +kernel⟩
abbrev s__law_own : Stmt := top 4
abbrev N__law_own : List Str := ["cell", "great", "stir", "k"]
theorem st__law_own (a0 : V) : L2.start N__law_own [a0] = [some a0, none, none, none] := rfl
theorem sc__law_own : FnScope N__law_own ["cell"] (defScope s__law_own) := ⟨rfl, rfl, rfl, by decide +kernel, rfl, by decide +kernel, by decide +kernel⟩
abbrev s__law_worth : Stmt := top 5
abbrev N__law_worth : List Str := ["own", "way", "number", "signs", "text", "word", "k"]
theorem st__law_worth (a0 : V) : L2.start N__law_worth [a0] = [some a0, none, none, none, none, none, none] := rfl
theorem sc__law_worth : FnScope N__law_worth ["own"] (defScope s__law_worth) := ⟨rfl, rfl, rfl, by decide +kernel, rfl, by decide +kernel, by decide +kernel⟩
abbrev s_law : Stmt := top 6
abbrev N_law : List Str := ["script", "cell", "worth", "due", "found"]
theorem st_law (a0 : V) : L2.start N_law [a0] = [some a0, none, none, none, none] := rfl
theorem sc_law : FnScope N_law ["script"] (defScope s_law) := ⟨rfl, rfl, rfl, by decide +kernel, rfl, by decide +kernel, by decide +kernel⟩
@[simp] theorem ll_0 : (Str.ofString "blank").length = 5 := by decide +kernel
@[simp] theorem ll_1 : (Str.ofString "\"").length = 1 := by decide +kernel
@[simp] theorem ll_2 : (Str.ofString " ").length = 1 := by decide +kernel
@[simp] theorem ll_3 : (Str.ofString "ab zCZ019(),+-*/&<=:$'!~_{}@#").length = 29 := by decide +kernel
@[simp] theorem ll_4 : (Str.ofString "waits").length = 5 := by decide +kernel
@[simp] theorem ll_5 : (Str.ofString "").length = 0 := by decide +kernel
@[simp] theorem ll_6 : (Str.ofString "kind").length = 4 := by decide +kernel
@[simp] theorem ll_7 : (Str.ofString "great").length = 5 := by decide +kernel
@[simp] theorem ll_8 : (Str.ofString "nought").length = 6 := by decide +kernel
@[simp] theorem ll_9 : (Str.ofString "none").length = 4 := by decide +kernel
@[simp] theorem ll_10 : (Str.ofString "lost").length = 4 := by decide +kernel
@[simp] theorem ll_11 : (Str.ofString "fault").length = 5 := by decide +kernel
@[simp] theorem ll_12 : (Str.ofString "fault ").length = 6 := by decide +kernel
@[simp] theorem ll_13 : (Str.ofString "-7").length = 2 := by decide +kernel
@[simp] theorem ll_14 : (Str.ofString "\"\"").length = 2 := by decide +kernel
/-! ### the facts of the top -/
def d_worth_text : He.DefD := ⟨("worth_text", none), "worth_text", "worth_text", defArgs s_worth_text, defBody s_worth_text, defScope s_worth_text, [], []⟩
def d__law_digit : He.DefD := ⟨("_law_digit", none), "_law_digit", "_law_digit", defArgs s__law_digit, defBody s__law_digit, defScope s__law_digit, [], []⟩
def d__law_own : He.DefD := ⟨("_law_own", none), "_law_own", "_law_own", defArgs s__law_own, defBody s__law_own, defScope s__law_own, [], []⟩
def d__law_worth : He.DefD := ⟨("_law_worth", none), "_law_worth", "_law_worth", defArgs s__law_worth, defBody s__law_worth, defScope s__law_worth, [], []⟩
def d_law : He.DefD := ⟨("law", none), "law", "law", defArgs s_law, defBody s_law, defScope s_law, [], []⟩
def fn : List He.DefD := [d_worth_text, d__law_digit, d__law_own, d__law_worth, d_law]
def fa0 : List He.Fa := [.glo "worth_text", .glo "_law_digit", .glo "_law_own", .glo "_law_worth", .glo "law", .free "abs", .free "isinstance", .free "len", .free "range", .free "str", .free "tuple"]
def fa : List He.Fa := fa0
def exs0 : List (PySem.W.Frag → Bool) := []
def exs : List (PySem.W.Frag → Bool) := exs0
def ex (K : PySem.W.Frag) : Bool := exs.all fun f => f K
theorem ex_at {K : PySem.W.Frag} {f : PySem.W.Frag → Bool} (h : ex K = true) (i : Nat) (e : exs[i]? = some f) : f K = true := List.all_eq_true.mp h f (List.mem_of_getElem? e)
structure Txt (K : PySem.W.Frag) (mg : Str → Option Value) : Prop where
  g_worth_text : mg "worth_text" = some (.ref (He.ga K "worth_text"))
  f_worth_text : ∃ fd, FunD K "worth_text" "worth_text" (defArgs s_worth_text) (defBody s_worth_text) (defScope s_worth_text) [] [] (He.ga K "worth_text") fd
  g__law_digit : mg "_law_digit" = some (.ref (He.ga K "_law_digit"))
  f__law_digit : ∃ fd, FunD K "_law_digit" "_law_digit" (defArgs s__law_digit) (defBody s__law_digit) (defScope s__law_digit) [] [] (He.ga K "_law_digit") fd
  g__law_own : mg "_law_own" = some (.ref (He.ga K "_law_own"))
  f__law_own : ∃ fd, FunD K "_law_own" "_law_own" (defArgs s__law_own) (defBody s__law_own) (defScope s__law_own) [] [] (He.ga K "_law_own") fd
  g__law_worth : mg "_law_worth" = some (.ref (He.ga K "_law_worth"))
  f__law_worth : ∃ fd, FunD K "_law_worth" "_law_worth" (defArgs s__law_worth) (defBody s__law_worth) (defScope s__law_worth) [] [] (He.ga K "_law_worth") fd
  g_law : mg "law" = some (.ref (He.ga K "law"))
  f_law : ∃ fd, FunD K "law" "law" (defArgs s_law) (defBody s_law) (defScope s_law) [] [] (He.ga K "law") fd
  n_abs : mg "abs" = none
  n_isinstance : mg "isinstance" = none
  n_len : mg "len" = none
  n_range : mg "range" = none
  n_str : mg "str" = none
  n_tuple : mg "tuple" = none
theorem txt {w : World} {K : PySem.W.Frag} {h h1 : Heap} {mg : Str → Option Value} (X : K.In h) (G : h.Ns mainGlobals mg) (c : He.SaysX fa fn [] [] ex w h1 K) : Txt K mg :=
  ⟨He.glo_ok X G (c.t.d.fact 0 (f := .glo "worth_text") rfl),
   c.t.d.def_ 0 (d := d_worth_text) rfl,
   He.glo_ok X G (c.t.d.fact 1 (f := .glo "_law_digit") rfl),
   c.t.d.def_ 1 (d := d__law_digit) rfl,
   He.glo_ok X G (c.t.d.fact 2 (f := .glo "_law_own") rfl),
   c.t.d.def_ 2 (d := d__law_own) rfl,
   He.glo_ok X G (c.t.d.fact 3 (f := .glo "_law_worth") rfl),
   c.t.d.def_ 3 (d := d__law_worth) rfl,
   He.glo_ok X G (c.t.d.fact 4 (f := .glo "law") rfl),
   c.t.d.def_ 4 (d := d_law) rfl,
   He.free_ok X G (c.t.d.fact 5 (f := .free "abs") rfl),
   He.free_ok X G (c.t.d.fact 6 (f := .free "isinstance") rfl),
   He.free_ok X G (c.t.d.fact 7 (f := .free "len") rfl),
   He.free_ok X G (c.t.d.fact 8 (f := .free "range") rfl),
   He.free_ok X G (c.t.d.fact 9 (f := .free "str") rfl),
   He.free_ok X G (c.t.d.fact 10 (f := .free "tuple") rfl)⟩
end Ol
/-! the steps by name -/
local macro_rules | `(tactic| walk_at "side") => `(tactic| with_unfolding_all first | with_reducible assumption | rfl | decide | omega | exact Nat.le_of_ble_eq_true rfl | (refine Ol.sz_le ?_; walk_at "len") | (refine Ol.sz_lt ?_; walk_at "len") | exact ⟨by decide, by decide, by decide⟩ | (unfold L2.CMulW; decide +kernel) | exact ⟨by decide, by decide +kernel⟩)
local macro_rules | `(tactic| walk_at "len") => `(tactic| ((try simp [PySem.Str.length_append]); first | omega | decide))
local macro_rules | `(tactic| walk_at "hf") => `(tactic| first | with_unfolding_all assumption | (with_reducible show L2.upd _ _ _ _ = _; first | with_unfolding_all exact L2.upd_same | exact Ol.hf_new (by assumption) (by walk_at "hf") | exact Ol.hf_ne (by assumption) (by walk_at "hf")) | exact (by assumption : L2.Same _ _) _ _ (by walk_at "hf"))
local macro_rules | `(tactic| walk_at "sq") => `(tactic| first | with_unfolding_all assumption | (with_reducible show L2.SqL _ _ _ _; first | exact Ol.sl_of (by walk_at "hf") | exact L2.Same.seq (by assumption) (by walk_at "sq") | exact L2.Same.seq (Ol.Same.new (by assumption)) (by walk_at "sq")) | (with_reducible show L2.SqT _ _ _ _; first | exact Ol.st_of (by walk_at "hf") | exact Ol.Same.tup (by assumption) (by walk_at "sq") | exact Ol.Same.tup (Ol.Same.new (by assumption)) (by walk_at "sq")))
local macro_rules | `(tactic| walk_at "ty") => `(tactic| with_unfolding_all first | exact L2.TyOf.non | exact L2.TyOf.int _ | exact L2.TyOf.str _ | exact L2.TyOf.bl _ | exact L2.TyOf.tup (by walk_at "hf") | exact L2.TyOf.lst (by walk_at "hf"))
local macro_rules | `(tactic| walk_at "eq") => `(tactic| with_unfolding_all first | rfl | assumption)
local macro_rules | `(tactic| walk_at "rd1") => `(tactic| with_reducible first
  | refine Ol.Step.go ?_
  | (show L2.rIx _ (L2.V.ref _) (L2.V.int _) _ _; first | refine Ol.s_ixL (by walk_at "sq") (by walk_at "eq") ?_ | refine Ol.s_ixT (by walk_at "sq") (by walk_at "eq") ?_)
  | (show Ol.rAddU _ (L2.V.ref _) (L2.V.ref _) _ _; refine Ol.s_addL (by walk_at "sq") (by walk_at "sq") (by walk_at "side") ?_)
  | (show L2.gTup _ _ _ _ _ _ _; refine Ol.s_gtup (by walk_at "sq") (by walk_at "eq") ?_)
  | (show L2.rSetL _ _ _ _ _; refine Ol.s_setL (by walk_at "hf") (by walk_at "eq") ?_)
  | (show L2.rAppend _ _ _ _; refine Ol.s_append (by walk_at "hf") (by walk_at "side") ?_)
  | (show ∃ acc, _ = some (L2.HO.lst acc) ∧ _ ∧ _; refine Ol.s_acc (by walk_at "hf") (by walk_at "side") ?_)
  | (show Ol.rLenU _ _ _ _; first | refine Ol.s_lenL (by walk_at "sq") ?_ | refine Ol.s_lenT (by walk_at "sq") ?_)
  | (show L2.rIsi _ [L2.V.ref _, _] _ _; first | refine Ol.s_isiTup (by walk_at "hf") ?_ | refine Ol.s_isiLst (by walk_at "hf") ?_)
  | (show L2.tyV _ "list" _ _ ∧ _; refine Ol.s_tyL (by walk_at "sq") ?_)
  | (show ∃ a, L2.V.ref _ = L2.V.ref a ∧ (∃ xs, _) ∧ _; first | refine Ol.s_lst1 (by walk_at "sq") ?_ | refine Ol.s_tup1 (by walk_at "sq") ?_ | refine Ol.s_lst1c (by walk_at "sq") ?_ | refine Ol.s_tup1c (by walk_at "sq") ?_)
  | (show _ ∧ _; refine And.intro (by walk_at "side") ?_))
local macro_rules | `(tactic| walk_at "rd") => `(tactic| repeat (walk_at "rd1"))
namespace Ol
open PySem PySem.Spec PyProof.Rows L2
section
variable {P : Program} {w : World} {K : PySem.W.Frag} {mg : Str → Option Value} {base : Heap}
def spDigit : Sp := fun vs H Q _ => ∃ p n m, vs = [.ref p, .int m] ∧ H p = some (.lst [.int n]) ∧ 0 < m ∧ m.natAbs.log2 < 9000 ∧ Q (.int (n % m)) (upd H p (.lst [.int (n / m)]))
theorem ok_digit (T : Txt K mg) : Def P w K mg base 1 "_law_digit" ["own", "many"] spDigit := by
  refine def_of T.g__law_digit T.f__law_digit sc__law_digit (fun _ _ _ _ _ _ us hl => match us, hl with | [_, _], _ => rfl) (fun vs H Q E h => ?_) (fun cdv A outer s H vs Q E hr h => ?_)
  · obtain ⟨p, n, m, rfl, _⟩ := h
    rfl
  · obtain ⟨p, n, m, rfl, hp, h0, hm, q⟩ := h
    refine ⟨_, (pss_cons (ps_set (i := 2) sc__law_digit.nd rfl (Or.inl rfl) (pe_op op_mod (pe_ix (ix_seqK (K := K)) (pv 0) pe_int (fun _ _ => rfl)) (pv 1)))
 (pss_cons (ps_asg (pe_op op_fdivW (pe_ix (ix_seqK (K := K)) (pv 0) pe_int (fun _ _ => rfl)) (pv 1)) (pg_sub (pv 0) pe_int set_list))
 (pss_one (ps_ret (pv 2))))), ?_⟩
    rw [st__law_digit]
    try dsimp only [L2.cxOf]
    walk_at "rd"
    refine ⟨⟨h0, hm⟩, ?_⟩
    walk_at "rd"
    exact q
theorem bits28 {g x : Int} {i : Nat} (h : g.natAbs + 1 ≤ 2 ^ (28 * i)) (h0 : 0 ≤ x) (h1 : x < 268435456) : (g * 268435399 + x).natAbs + 1 ≤ 2 ^ (28 * (i + 1)) := by
  have e : 28 * (i + 1) = 28 * i + 28 := by omega
  rw [e, Nat.pow_add]
  have : (2 : Nat) ^ 28 = 268435456 := by decide
  rw [this]
  generalize 2 ^ (28 * i) = b at *
  have h2 : (g * 268435399 + x).natAbs ≤ g.natAbs * 268435399 + x.natAbs := by
    have a := Int.natAbs_add_le (g * 268435399) x
    rw [Int.natAbs_mul] at a
    exact a
  omega
theorem wide_small {i j : Int} (h1 : i.natAbs < 4294967296) (h2 : j.natAbs < 4294967296) : CMulW i j := wide_mul (a := 32) (b := 32) (by omega) (by omega) (by decide) (by decide) (by decide)
def spOwn : Sp := fun vs H Q _ => ∃ c, vs = [.int c] ∧ ∀ p g, H p = none → Q (.ref p) (upd H p (.lst [.int g]))
theorem ok_own (T : Txt K mg) : Def P w K mg base 1 "_law_own" ["cell"] spOwn := by
  refine def_of T.g__law_own T.f__law_own sc__law_own (fun _ _ _ _ _ _ us hl => match us, hl with | [_], _ => rfl) (fun vs H Q E h => ?_) (fun cdv A outer s H vs Q E hr h => ?_)
  · obtain ⟨c, rfl, _⟩ := h
    rfl
  · obtain ⟨c, rfl, q⟩ := h
    refine ⟨_, (pss_cons (ps_set (i := 0) sc__law_own.nd rfl (Or.inl rfl) (pe_callB call_absI (by rfl) T.n_abs (by decide +kernel) (pa_cons (pv 0) pa_nil)))
 (pss_cons (ps_if (pt_cmpR (op_eqU (K := K) hr.units) (pe_op op_mod (pv 0) pe_int) pe_int (nomark _))
 (pss_one (ps_ret (pe_lst (pa_cons (pe_op op_fdivW (pv 0) pe_int) pa_nil))))
 pss_nil)
 (pss_cons (ps_set (i := 1) sc__law_own.nd rfl (Or.inl rfl) pe_int)
 (pss_cons (ps_set (i := 2) sc__law_own.nd rfl (Or.inl rfl) (pe_op (op_addU (K := K)) (pe_op op_mod (pe_op op_fdivW (pv 0) pe_int) pe_int) pe_int))
 (pss_cons (ps_for (passes_of rfl) rfl (pi_range1 rfl T.n_range (pa_cons pe_int pa_nil)) (pg_name (i := 3) sc__law_own.nd rfl (Or.inl rfl))
 (pss_cons (ps_set (i := 2) sc__law_own.nd rfl (Or.inl rfl) (pe_op op_mod (pe_op (op_addU (K := K)) (pe_op (op_addU (K := K)) (pe_op op_mulW (pv 2) (pv 2)) (pe_op op_mulW pe_int (pv 3))) pe_int) pe_int))
 (pss_one (ps_set (i := 1) sc__law_own.nd rfl (Or.inl rfl) (pe_op (op_addU (K := K)) (pe_op op_mulW (pv 1) pe_int) (pe_op op_fdivW (pe_op op_mod (pe_op op_mulW (pv 2) pe_int) pe_int) pe_int))))))
 (pss_one (ps_ret (pe_lst (pa_cons (pv 1) pa_nil))))))))), ?_⟩
    rw [st__law_own]
    try dsimp only [L2.cxOf]
    walk_at "rd"
    refine s_iteD (fun _ => ?_) (fun _ => ?_)
    · walk_at "rd"
      exact fun p hp => q p _ hp
    · walk_at "rd"
      refine s_forR0 (fun i σ' H' => ∃ v0 g st v3, σ' = [v0, some (.int g), some (.int st), v3] ∧ H' = H ∧ 0 ≤ st ∧ st ≤ 2147483647 ∧ g.natAbs + 1 ≤ 2 ^ (28 * i)) ⟨_, 0, _, _, rfl, rfl, by omega, by omega, by decide⟩ ?_ ?_
      · rintro i σ' H' hi ⟨v0, g, st, v3, rfl, rfl, h1, h2, h3⟩
        have hi' : i < 60 := hi
        walk_at "rd"
        refine ⟨wide_small (by omega) (by omega), ?_⟩
        walk_at "rd"
        refine ⟨wide_small (by omega) (by omega), ?_⟩
        walk_at "rd"
        have hg : g.natAbs < 2 ^ 1680 := by
          have := Nat.pow_le_pow_right (show 0 < 2 by decide) (show 28 * i ≤ 1680 by omega)
          omega
        refine ⟨wide_mul (a := 1680) (b := 32) hg (by decide) (by decide) (by decide) (by decide), ?_⟩
        walk_at "rd"
        generalize hs : (st * st + 977 * (i : Int) + 1) % 2147483647 = s2
        refine ⟨wide_small (by omega) (by omega), ?_⟩
        walk_at "rd"
        exact ⟨_, _, _, _, rfl, rfl, by omega, by omega, bits28 h3 (by omega) (by omega)⟩
      · rintro σ' H' ⟨v0, g, st, v3, rfl, rfl, h1, h2, h3⟩
        walk_at "rd"
        exact fun p hp => q p _ hp
end
end Ol
namespace Ol
open PySem PySem.Spec PyProof.Rows L2
section
variable {P : Program} {w : World} {K : PySem.W.Frag} {mg : Str → Option Value} {base : Heap}
/-- a worth and its text -/
inductive WD (H : Hp) : V → Str → Prop where
  | non : WD H .non "blank"
  | int (n : Int) (h : n.natAbs.log2 < 1920) : WD H (.int n) (toString n)
  | str (s : Str) (h : s.length ≤ 1000) : WD H (.str s) ("\"" ++ s ++ "\"")
  | tup {p : Addr} (ws : List Str) (e : H p = some (.tup (ws.map .str))) (h : (ws.map (·.length)).sum + ws.length ≤ 1000) : WD H (.ref p) (Txt.join " " ws)
def spWorth : Sp := fun vs H Q _ => ∃ p n, vs = [.ref p] ∧ H p = some (.lst [.int n]) ∧ ∀ H' r v d, But p H H' → H' r = some (.tup [v, .str d]) → WD H' v d → Q (.ref r) H'
def spText : Sp := fun vs H Q _ => ∃ v d, vs = [v] ∧ WD H v d ∧ Q (.str d) H
theorem ok_text (T : Txt K mg) : Def P w K mg base 1 "worth_text" ["standing"] spText := by
  refine def_of T.g_worth_text T.f_worth_text sc_worth_text (fun _ _ _ _ _ _ us hl => match us, hl with | [_], _ => rfl) (fun vs H Q E h => ?_) (fun cdv A outer s H vs Q E hr h => ?_)
  · obtain ⟨v, d, rfl, _⟩ := h
    rfl
  · obtain ⟨v, d, rfl, hw, q⟩ := h
    refine ⟨_, (pss_cons (ps_if (pt_cmpR op_isNo (pv 0) pe_non (nomark _))
 (pss_one (ps_ret pe_str))
 pss_nil)
 (pss_cons (ps_if (pt_val (pe_callB (call_isiK (K := K)) (by rfl) T.n_isinstance (by decide +kernel) (pa_cons (pv 0) (pa_cons (pe_bltn (v := .ty "str") (u := .type "str") rfl T.n_str (by decide +kernel) (by rfl)) pa_nil))))
 (pss_one (ps_ret (pe_op (op_addU (K := K)) (pe_op (op_addU (K := K)) pe_str (pv 0)) pe_str)))
 pss_nil)
 (pss_cons (ps_if (pt_val (pe_callB (call_isiK (K := K)) (by rfl) T.n_isinstance (by decide +kernel) (pa_cons (pv 0) (pa_cons (pe_bltn (v := .ty "tuple") (u := .type "tuple") rfl T.n_tuple (by decide +kernel) (by rfl)) pa_nil))))
 (pss_one (ps_ret (pe_bmK (K := K) rfl PySem.F.plainAttrs_str PySem.F.slot_str_join PySem.F.type_str_join (mt_joinU (K := K)) pe_str (pa_cons (pv 0) pa_nil))))
 pss_nil)
 (pss_one (ps_ret (pe_callTy call_strI (by rfl) T.n_str (by decide +kernel) (pa_cons (pv 0) pa_nil))))))), ?_⟩
    rw [st_worth_text]
    try dsimp only [L2.cxOf]
    walk_at "rd"
    cases hw with
    | non =>
      refine s_yes rfl ?_
      walk_at "rd"
      exact q
    | int n h =>
      refine s_no rfl ?_
      walk_at "rd"
      exact q
    | str z h =>
      refine s_no rfl ?_
      walk_at "rd"
      exact q
    | tup ws e h =>
      refine s_no rfl ?_
      walk_at "rd"
      refine s_joinT (ys := ws) (st_of e) ?_ ?_
      · simp
        omega
      · walk_at "rd"
        exact q
theorem join_len : ∀ ys : List Str, (Str.join "" ys).length = (ys.map (·.length)).sum
  | [] => rfl
  | [x] => by
    show x.length = (x.length :: []).sum
    rw [List.sum_cons, List.sum_nil]
    omega
  | x :: z :: r => by
    have ih := join_len (z :: r)
    show (x ++ "" ++ Str.join "" (z :: r)).length = (x.length :: (z :: r).map (·.length)).sum
    rw [Str.length_append, Str.length_append, ih, List.sum_cons, ofS_len]
    rfl
theorem sum_ones : ∀ ys : List Str, (∀ y ∈ ys, y.length = 1) → (ys.map (·.length)).sum = ys.length
  | [], _ => rfl
  | x :: r, h => by
    have ih := sum_ones r fun y hy => h y (List.mem_cons_of_mem _ hy)
    rw [List.map_cons, List.sum_cons, ih, h x List.mem_cons_self, List.length_cons]
    omega
theorem s_digit {p : Addr} {n m : Int} {H : Hp} {Q : VK} {E : XK} (h : H p = some (.lst [.int n])) (h0 : 0 < m) (h1 : m.natAbs.log2 < 9000) (q : Q (.int (n % m)) (upd H p (.lst [.int (n / m)]))) : spDigit [.ref p, .int m] H Q E := ⟨p, n, m, rfl, h, h0, h1, q⟩
/-- two things at a new tuple -/
theorem tup_out {H0 H1 : Hp} {p r : Addr} {v : V} {d : Str} {Q : VK} (q : ∀ (H' : Hp) (r : Addr) (v : V) (d : Str), But p H0 H' → H' r = some (HO.tup [v, V.str d]) → WD H' v d → Q (V.ref r) H')
    (b : But p H0 H1) (hr : H1 r = none) (w : WD H1 v d) : Q (.ref r) (upd H1 r (.tup [v, .str d])) := by
  refine q _ r v d (b.trans (But.new hr)) upd_same ?_
  cases w with
  | non => exact .non
  | int n h => exact .int n h
  | str z h => exact .str z h
  | tup ws e h => exact .tup ws (hf_new hr e) h
theorem log_le {y b k : Nat} (h : y ≤ b) (h0 : 0 < k) (h1 : b < 2 ^ k) : y.log2 < k := PySem.Flt.log2_lt_of h0 (Nat.lt_of_le_of_lt h h1)
theorem ok_worth (T : Txt K mg) (D__law_digit : Def P w K mg base 1 "_law_digit" ["own", "many"] spDigit) : Def P w K mg base 2 "_law_worth" ["own"] spWorth := by
  refine def_of T.g__law_worth T.f__law_worth sc__law_worth (fun _ _ _ _ _ _ us hl => match us, hl with | [_], _ => rfl) (fun vs H Q E h => ?_) (fun cdv A outer s H vs Q E hr h => ?_)
  · obtain ⟨p, n, rfl, _⟩ := h
    rfl
  · obtain ⟨p, n, rfl, hp, q⟩ := h
    refine ⟨_, (pss_cons (ps_set (i := 1) sc__law_worth.nd rfl (Or.inl rfl) (pe_dcall D__law_digit (hr.mono (by decide)) (by rfl) passL (pa_cons (pv 0) (pa_cons pe_int pa_nil))))
 (pss_cons (ps_if (pt_cmpR (op_eqU (K := K) hr.units) (pv 1) pe_int (nomark _))
 (pss_one (ps_ret (pe_tup (pa_cons pe_non (pa_cons pe_str pa_nil)))))
 pss_nil)
 (pss_cons (ps_if (pt_cmpR (op_eqU (K := K) hr.units) (pv 1) pe_int (nomark _))
 (pss_cons (ps_set (i := 2) sc__law_worth.nd rfl (Or.inl rfl) (pe_dcall D__law_digit (hr.mono (by decide)) (by rfl) passL (pa_cons (pv 0) (pa_cons (pe_ix (ix_seqK (K := K)) (pe_lst (pa_cons pe_int (pa_cons (pe_op (op_addU (K := K)) (pe_op op_mulW pe_int (pe_op op_pow pe_int pe_int)) pe_int) pa_nil))) (pe_dcall D__law_digit (hr.mono (by decide)) (by rfl) passL (pa_cons (pv 0) (pa_cons pe_int pa_nil))) (fun _ _ => rfl)) pa_nil))))
 (pss_cons (ps_if (pt_cmpR op_gt (pv 2) pe_int (nomark _))
 (pss_one (ps_set (i := 2) sc__law_worth.nd rfl (Or.inl rfl) (pe_op op_sub (pv 2) (pe_op op_pow pe_int pe_int))))
 pss_nil)
 (pss_one (ps_ret (pe_tup (pa_cons (pv 2) (pa_cons (pe_callTy call_strI (by rfl) T.n_str (by decide +kernel) (pa_cons (pv 2) pa_nil)) pa_nil)))))))
 pss_nil)
 (pss_cons (ps_if (pt_cmpR (op_eqU (K := K) hr.units) (pv 1) pe_int (nomark _))
 (pss_cons (ps_set (i := 3) sc__law_worth.nd rfl (Or.inr rfl) pe_str)
 (pss_cons (ps_set (i := 4) sc__law_worth.nd rfl (Or.inl rfl) (pe_bmK (K := K) rfl PySem.F.plainAttrs_str PySem.F.slot_str_join PySem.F.type_str_join (mt_joinU (K := K)) pe_str (pa_cons (pe_lc (own := [("k", 6)]) (g := gName 6) (tt := tYes) rfl sc__law_worth.nd (pi_range1 rfl T.n_range (pa_cons (pe_dcall D__law_digit (hr.mono (by decide)) (by rfl) passL (pa_cons (pv 0) (pa_cons pe_int pa_nil))) pa_nil)) (blkOk_by (N := N__law_worth) (sc := defScope s__law_worth) (by decide +kernel)) (fun _ _ _ _ _ => pg_name (i := 6) sc__law_worth.nd rfl (Or.inl rfl)) (fun _ _ _ _ _ => pts_nil) (fun _ _ _ _ _ => (pe_ix (ix_seqK (K := K)) (pv 3) (pe_dcall D__law_digit (hr.mono (by decide)) (by rfl) passL (pa_cons (pv 0) (pa_cons (pe_callB (call_lenU (K := K)) (by rfl) T.n_len (by decide +kernel) (pa_cons (pv 3) pa_nil)) pa_nil))) (fun _ _ => rfl)))) pa_nil)))
 (pss_one (ps_ret (pe_tup (pa_cons (pv 4) (pa_cons (pe_op (op_addU (K := K)) (pe_op (op_addU (K := K)) pe_str (pv 4)) pe_str) pa_nil)))))))
 pss_nil)
 (pss_cons (ps_if (pt_cmpR (op_eqU (K := K) hr.units) (pv 1) pe_int (nomark _))
 (pss_cons (ps_set (i := 5) sc__law_worth.nd rfl (Or.inl rfl) (pe_ix (ix_seqK (K := K)) (pe_lst (pa_cons pe_str (pa_cons pe_str (pa_cons pe_str (pa_cons pe_str (pa_cons pe_str pa_nil)))))) (pe_dcall D__law_digit (hr.mono (by decide)) (by rfl) passL (pa_cons (pv 0) (pa_cons pe_int pa_nil))) (fun _ _ => rfl)))
 (pss_one (ps_ret (pe_tup (pa_cons (pe_tup (pa_cons pe_str (pa_cons (pv 5) pa_nil))) (pa_cons (pe_op (op_addU (K := K)) pe_str (pv 5)) pa_nil))))))
 pss_nil)
 (pss_one (ps_ret (pe_tup (pa_cons (pe_tup (pa_cons pe_str pa_nil)) (pa_cons pe_str pa_nil)))))))))), ?_⟩
    rw [st__law_worth]
    try dsimp only [L2.cxOf]
    walk_at "rd"
    refine s_digit hp (by decide) (by decide +kernel) ?_
    walk_at "rd"
    have hp1 : (upd H p (HO.lst [V.int (n / 5)])) p = some (.lst [.int (n / 5)]) := upd_same
    have b1 : But p H (upd H p (HO.lst [V.int (n / 5)])) := But.upd
    generalize upd H p (HO.lst [V.int (n / 5)]) = H1 at *
    generalize n / 5 = n1 at *
    refine s_iteD (fun _ => ?_) (fun _ => ?_)
    · walk_at "rd"
      exact fun r hr => tup_out q b1 hr .non
    walk_at "rd"
    refine s_iteD (fun _ => ?_) (fun _ => ?_)
    · walk_at "rd"
      intro l hl
      walk_at "rd"
      refine s_digit (m := 2) (hf_new hl hp1) (by decide) (by decide +kernel) ?_
      have hpl : p ≠ l := ne_of_none hp1 hl
      have hl2 : (upd (upd H1 l (HO.lst [V.int 11, V.int (2 * 10 ^ Int.toNat 60 + 1)])) p (HO.lst [V.int (n1 / 2)])) l = some (HO.lst [V.int 11, V.int (2 * 10 ^ Int.toNat 60 + 1)]) := by
        rw [upd_ne hpl.symm, upd_same]
      have b2 : But p H (upd (upd H1 l (HO.lst [V.int 11, V.int (2 * 10 ^ Int.toNat 60 + 1)])) p (HO.lst [V.int (n1 / 2)])) := (b1.trans (But.new hl)).trans But.upd
      have hp2 : (upd (upd H1 l (HO.lst [V.int 11, V.int (2 * 10 ^ Int.toNat 60 + 1)])) p (HO.lst [V.int (n1 / 2)])) p = some (.lst [.int (n1 / 2)]) := upd_same
      generalize upd (upd H1 l (HO.lst [V.int 11, V.int (2 * 10 ^ Int.toNat 60 + 1)])) p (HO.lst [V.int (n1 / 2)]) = H2 at *
      generalize n1 / 2 = n2 at *
      have hm : ∃ m : Int, atI [V.int 11, V.int (2 * 10 ^ Int.toNat 60 + 1)] (n1 % 2) = some (.int m) ∧ 0 < m ∧ m ≤ 2 * 10 ^ 60 + 1 := by
        rcases (show n1 % 2 = 0 ∨ n1 % 2 = 1 by omega) with e | e <;> rw [e]
        · exact ⟨11, rfl, by decide, by decide +kernel⟩
        · exact ⟨_, rfl, by decide +kernel, by decide +kernel⟩
      obtain ⟨m, hm, m0, m1⟩ := hm
      refine s_ixL (sl_of hl2) hm ?_
      walk_at "rd"
      have hml : m.natAbs.log2 < 9000 := log_le (show m.natAbs ≤ 2 * 10 ^ 60 + 1 by omega) (by decide) (by decide +kernel)
      refine s_digit hp2 m0 hml ?_
      walk_at "rd"
      have b3 := b2.trans (But.upd (p := p) (H := H2) (o := HO.lst [V.int (n2 / m)]))
      have hx0 := Int.emod_nonneg n2 (show m ≠ 0 by omega)
      have hx1 := Int.emod_lt_of_pos n2 m0
      generalize upd H2 p (HO.lst [V.int (n2 / m)]) = H3 at *
      generalize n2 % m = x at *
      have log : ∀ y : Int, y.natAbs ≤ 2 * 10 ^ 60 + 1 → y.natAbs.log2 < 1920 := fun y hy => log_le hy (by decide) (by decide +kernel)
      have e60 : (10 : Int) ^ Int.toNat 60 = 10 ^ 60 := rfl
      refine s_iteD (fun _ => ?_) (fun _ => ?_)
      · walk_at "rd"
        rw [e60]
        refine ⟨log _ (by omega), ?_⟩
        walk_at "rd"
        exact fun r hr => tup_out q b3 hr (.int _ (log _ (by omega)))
      · walk_at "rd"
        refine ⟨log _ (by omega), ?_⟩
        walk_at "rd"
        exact fun r hr => tup_out q b3 hr (.int _ (log _ (by omega)))
    walk_at "rd"
    refine s_iteD (fun _ => ?_) (fun _ => ?_)
    · walk_at "rd"
      refine s_digit (m := 201) hp1 (by decide) (by decide +kernel) ?_
      walk_at "rd"
      have b2 := b1.trans (But.upd (p := p) (H := H1) (o := HO.lst [V.int (n1 / 201)]))
      have hp2 : (upd H1 p (HO.lst [V.int (n1 / 201)])) p = some (.lst [.int (n1 / 201)]) := upd_same
      generalize upd H1 p (HO.lst [V.int (n1 / 201)]) = H2 at *
      have hm : (n1 % 201).toNat ≤ 200 := by omega
      generalize (n1 % 201).toNat = m at *
      refine s_lcR0 (fun D i H3 => ∃ (n' : Int) (ys : List Str), H3 p = some (.lst [.int n']) ∧ H3 D = some (.lst (ys.map .str)) ∧ ys.length = i ∧ (∀ y ∈ ys, y.length = 1) ∧ But p H2 H3)
        (fun D hD => ⟨_, [], hf_new hD hp2, upd_same, rfl, by simp, But.new hD⟩) ?_ ?_
      · rintro D i H3 hD hi ⟨n', ys, h1, h2, h3, h4, h5⟩
        walk_at "rd"
        refine s_digit (m := ((Str.ofString "ab zCZ019(),+-*/&<=:$'!~_{}@#").length : Nat)) h1 (by decide +kernel) (by decide +kernel) ?_
        walk_at "rd"
        have hDp : D ≠ p := fun e => by rw [e, hp2] at hD; cases hD
        obtain ⟨c, _, hc⟩ := at_ex (xs := (Str.ofString "ab zCZ019(),+-*/&<=:$'!~_{}@#").cps.toList) (Int.emod_nonneg n' (show ((Str.ofString "ab zCZ019(),+-*/&<=:$'!~_{}@#").length : Int) ≠ 0 by decide +kernel)) (Int.emod_lt_of_pos n' (show (0 : Int) < ((Str.ofString "ab zCZ019(),+-*/&<=:$'!~_{}@#").length : Int) by decide +kernel))
        refine s_ixS (by decide +kernel) hc ?_
        have hD3 : (upd H3 p (HO.lst [V.int (n' / ((Str.ofString "ab zCZ019(),+-*/&<=:$'!~_{}@#").length : Nat))])) D = some (.lst (ys.map .str)) := by
          rw [upd_ne hDp]
          exact h2
        refine ⟨_, hD3, by rw [List.length_map, h3]; exact sz_lt (by omega), _, ys ++ [⟨#[c]⟩], by rw [upd_ne hDp.symm]; exact upd_same, by rw [upd_same, List.map_append]; rfl, by rw [List.length_append, h3]; rfl, fun y hy => ?_, ?_⟩
        · rcases List.mem_append.mp hy with hy | hy
          · exact h4 y hy
          · rw [List.mem_singleton.mp hy]
            rfl
        · exact (h5.put).mut hD
      · rintro D H3 hD ⟨n', ys, h1, h2, h3, h4, h5⟩
        walk_at "rd"
        have hs := sum_ones ys h4
        refine s_joinL (ys := ys) (sl_of h2) (by simp [hs]; omega) ?_
        have hl : (Txt.join "" ys).length = ys.length := by rw [TL.join_eq, join_len, hs]
        have hl2 : (Txt.join (Str.ofString "") ys).length ≤ 200 := by
          show (Txt.join "" ys).length ≤ 200
          omega
        generalize Txt.join (Str.ofString "") ys = t at *
        walk_at "rd"
        exact fun r hr => tup_out q (b2.trans h5) hr (.str t (by omega))
    walk_at "rd"
    refine s_iteD (fun _ => ?_) (fun _ => ?_)
    · walk_at "rd"
      intro l hl
      walk_at "rd"
      refine s_digit (m := 5) (hf_new hl hp1) (by decide) (by decide +kernel) ?_
      have hpl : p ≠ l := ne_of_none hp1 hl
      have hm : ∃ m : Str, atI [V.str (Str.ofString "kind"), V.str (Str.ofString "great"), V.str (Str.ofString "nought"), V.str (Str.ofString "none"), V.str (Str.ofString "lost")] (n1 % 5) = some (.str m) ∧ m.length ≤ 10 := by
        rcases (show n1 % 5 = 0 ∨ n1 % 5 = 1 ∨ n1 % 5 = 2 ∨ n1 % 5 = 3 ∨ n1 % 5 = 4 by omega) with e | e | e | e | e <;> rw [e]
        all_goals exact ⟨_, rfl, by decide +kernel⟩
      obtain ⟨m, hm, m0⟩ := hm
      refine s_ixL (sl_of (hf_ne hpl.symm upd_same)) hm ?_
      walk_at "rd"
      intro t ht
      walk_at "rd"
      refine fun r hr => tup_out q ((b1.trans (But.new hl)).put.trans (But.new ht)) hr ?_
      have e : Str.ofString "fault " ++ m = Txt.join " " [Str.ofString "fault", m] := by
        rw [TL.join_eq]
        show _ = (Str.ofString "fault" ++ Str.ofString " ") ++ m
        rw [show (Str.ofString "fault" ++ Str.ofString " ") = Str.ofString "fault " by decide +kernel]
      rw [e]
      exact .tup [Str.ofString "fault", m] upd_same (by simp; omega)
    · walk_at "rd"
      intro t ht
      walk_at "rd"
      refine fun r hr => tup_out q (b1.trans (But.new ht)) hr ?_
      exact .tup ["waits"] upd_same (by decide +kernel)
end
end Ol
namespace Ol
open PySem PySem.Spec PyProof.Rows L2
section
variable {P : Program} {w : World} {K : PySem.W.Frag} {mg : Str → Option Value} {base : Heap}
theorem ok_law (T : Txt K mg) : Def P w K mg base 3 "law" ["script"] (spLawB K) := by
  have D__law_digit : Def P w K mg base 1 "_law_digit" ["own", "many"] spDigit := ok_digit T
  have D__law_own : Def P w K mg base 1 "_law_own" ["cell"] spOwn := ok_own T
  have D__law_worth : Def P w K mg base 2 "_law_worth" ["own"] spWorth := ok_worth T D__law_digit
  have D_worth_text : Def P w K mg base 1 "worth_text" ["standing"] spText := ok_text T
  refine def_of T.g_law T.f_law sc_law (fun _ _ _ _ _ _ us hl => match us, hl with | [_], _ => rfl) (fun vs H Q E h => ?_) (fun cdv A outer s H vs Q E hr h => ?_)
  · obtain ⟨a, ns, rfl, _⟩ := h
    rfl
  · obtain ⟨a, ns, rfl, hS, hl, hb, q⟩ := h
    refine ⟨_, (pss_cons (ps_for (passes_of rfl) rfl (pi_listK (K := K) (pe_op (op_addU (K := K)) (pe_lst (pa_cons pe_int (pa_cons pe_int (pa_cons pe_int pa_nil)))) (pv 0))) (pg_name (i := 1) sc_law.nd rfl (Or.inl rfl))
 (pss_cons (ps_asg (pe_dcall D__law_worth (hr.mono (by decide)) (by rfl) passL (pa_cons (pe_dcall D__law_own (hr.mono (by decide)) (by rfl) passL (pa_cons (pv 1) pa_nil)) pa_nil)) (pg_seq (K := K) (n := 2) rfl (by rfl) (pgs_cons (pg_name (i := 2) sc_law.nd rfl (Or.inl rfl)) (pgs_cons (pg_name (i := 3) sc_law.nd rfl (Or.inl rfl)) pgs_nil))))
 (pss_cons (ps_set (i := 4) sc_law.nd rfl (Or.inl rfl) (pe_dcall D_worth_text (hr.mono (by decide)) (by rfl) passL (pa_cons (pv 2) pa_nil)))
 (pss_one (ps_if (PW.pt (pw_or (pt_not (pt_val (pe_callB (call_isiK (K := K)) (by rfl) T.n_isinstance (by decide +kernel) (pa_cons (pv 4) (pa_cons (pe_bltn (v := .ty "str") (u := .type "str") rfl T.n_str (by decide +kernel) (by rfl)) pa_nil))))) (pw_or1 (pt_cmpR (op_neU (K := K) hr.units) (pv 4) (pv 3) (nomark _)))))
 (pss_one (ps_ret pe_bl))
 pss_nil)))))
 (pss_one (ps_ret (pe_and (pe_cmpR (op_eqU (K := K) hr.units) (pe_dcall D_worth_text (hr.mono (by decide)) (by rfl) passL (pa_cons (pe_un un_neg pe_int) pa_nil)) pe_str (nomark _)) (pe_one (pe_cmpR (op_eqU (K := K) hr.units) (pe_dcall D_worth_text (hr.mono (by decide)) (by rfl) passL (pa_cons pe_str pa_nil)) pe_str (nomark _))))))), ?_⟩
    rw [st_law]
    try dsimp only [L2.cxOf]
    walk_at "rd"
    intro l hl
    walk_at "rd"
    intro c hc
    walk_at "rd"
    have hx : [V.int 0, V.int 2, V.int 4] ++ ns.map V.int = ([0, 2, 4] ++ ns).map V.int := by rw [List.map_append]; rfl
    have s1 : Same H (upd (upd H l (HO.lst [V.int 0, V.int 2, V.int 4])) c (HO.lst ([V.int 0, V.int 2, V.int 4] ++ ns.map V.int))) := (Same.new hl).trans (Same.new hc)
    have h1 : (upd (upd H l (HO.lst [V.int 0, V.int 2, V.int 4])) c (HO.lst ([V.int 0, V.int 2, V.int 4] ++ ns.map V.int))) c = some (.lst (([0, 2, 4] ++ ns).map V.int)) := by rw [upd_same, hx]
    generalize upd (upd H l (HO.lst [V.int 0, V.int 2, V.int 4])) c (HO.lst ([V.int 0, V.int 2, V.int 4] ++ ns.map V.int)) = H1 at *
    refine s_forL (xs := ([0, 2, 4] ++ ns).map V.int) (fun i σ H' => ∃ v1 v2 v3 v4, σ = [some (.ref a), v1, v2, v3, v4] ∧ Same H1 H') ⟨_, _, _, _, rfl, Same.refl _⟩ (fun i σ H' _ ⟨_, _, _, _, _, e⟩ => sl_of (e _ _ h1)) ?_ ?_
    · rintro i x σ H' hi ⟨v1, v2, v3, v4, rfl, e⟩
      obtain ⟨z, rfl⟩ := int_at hi
      walk_at "rd"
      refine ⟨z, rfl, fun p g hp => ?_⟩
      walk_at "rd"
      refine ⟨p, g, rfl, upd_same, fun H2 r v d b hr w => ?_⟩
      walk_at "rd"
      refine ⟨v, d, rfl, w, ?_⟩
      walk_at "rd"
      refine s_no (by simp) ?_
      walk_at "rd"
      exact ⟨_, _, _, _, rfl, But.toSame (e.trans (Same.new hp)) (e.free hp) b⟩
    · rintro σ H' ⟨v1, v2, v3, v4, rfl, e⟩
      walk_at "rd"
      refine ⟨_, _, rfl, .int (-7) (by decide +kernel), ?_⟩
      walk_at "rd"
      refine s_yes (by decide +kernel) ?_
      walk_at "rd"
      refine ⟨_, _, rfl, .str _ (by decide +kernel), ?_⟩
      walk_at "rd"
      rw [show decide (Str.ofString "\"" ++ Str.ofString "" ++ Str.ofString "\"" = Str.ofString "\"\"") = true by decide +kernel]
      exact q _
end
end Ol

namespace Ol
open PySem PySem.Spec PyProof.Rows L2
def loose : List Str := (["worth_text", "_law_digit", "_law_own", "_law_worth"] : List Str)
abbrev R : PySem.W.OpenRow := PySem.W.OpenLaw.row PySem.Challenge.rw_onelook_k94_worths_written
abbrev hk : PySem.W.Hook := He.hookX 4 fa fn [] [] ex
def ob (s : PySem.W.SharedT) : He.AlX := He.obsX 4 fa fn [] [] ex (HandSHeadRun.getT s)
theorem ob_eq (s : PySem.W.SharedT) : ob s = hk.obs s.abs := He.obsX_eq (HandSHeadRun.getT_eq s)
theorem run (w : World) : HandSHeadRun.RunEq R (PySem.W.view R.prog [6]) hk ob 4000 loose w := by
  intro os
  kernel_rfl
end Ol
open PySem PySem.W PySem.Calls PyProof.Rows
theorem PySem.Challenge.cw_onelook_k94_worths_written_holds : PySem.Challenge.rw_onelook_k94_worths_written.Holds := by
  w_on; o_law
  refine HandSHeadRun.head_any (r := OpenLaw.row PySem.Challenge.rw_onelook_k94_worths_written) (q := view (OpenLaw.row PySem.Challenge.rw_onelook_k94_worths_written).prog [6]) (H := Ol.hk) (ob := Ol.ob) (M := 4000) (loose := Ol.loose) (d := HandSHeadRun.topDef (OpenLaw.row PySem.Challenge.rw_onelook_k94_worths_written).prog 6) (kwd := []) Ol.ob_eq
    (by kernel_rfl) (fun s => by kernel_rfl) Ol.run (by kernel_rfl) (by kernel_rfl) (by kernel_rfl) (by rfl) (by first | assumption | decide +kernel) (by decide +kernel) ⟨rfl, rfl, rfl, rfl, rfl, by decide +kernel⟩ ?hw ?hc
  case hw => w_witness2
  case hc =>
    refine Ol.walk_ofEB (l := PySem.Challenge.rw_onelook_k94_worths_written) (n := 63) (k := 3) (x := "script") rfl (by decide) (by kernel_rfl) ⟨rfl, by decide, by decide⟩ ?F
    intro w mg fa h Y G hmg0
    obtain ⟨K, KX, c⟩ := Y
    have hmg : mg ("law" : PySem.Str) = some (.ref fa) := by
      have e : (HandSHeadRun.topDef (OpenLaw.row PySem.Challenge.rw_onelook_k94_worths_written).prog 6).name = ("law" : PySem.Str) := by kernel_rfl
      rw [← e]
      exact hmg0
    exact Ol.law_end KX hmg (Ol.txt KX G c).g_law (fun base _ _ => Ol.ok_law (P := (PySem.Challenge.rw_onelook_k94_worths_written).prog) (w := w) (base := base) (Ol.txt KX G c)) G

