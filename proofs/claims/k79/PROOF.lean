import PyProof.Rows.All
import Wide.All
import OpenK.AllK
import Wide.FinOn
import KE.KStateDown
import HandS.RaiseMore
import HandS.SortInts
import HandS.Base
import HandS.Call
import HandS.List
import HandS.TupAny
import HandS.Comp
import HandS.Ends
import HandS.EndBits
import HandS.Exc
import HandS.ExcOwn
import HandS.ExcIs
import HandS.ExcInit
import HandS.ExcBuiltin
import HandS.TryOnly
import HandS.TryMany
import HandS.Words
import HandS.WordsList
import HandS.WordsExc
import HandS.Defaults
import HandS.Dict
import HandS.Iter
import HandS.Text
import HandS.More
import HandS.Head0
import HandS.Head1
import HandS.Head2
import HandS.HeadEnd
import HandS.HeadHook1
import HandS.HeadHook2
import HandS.HeadHook3
import HandS.HeadHook4
import HandS.Wide
import HandS.WideMore
import HandS.WideBits
import HandS.IsInst
import HandS.Small
import HandS.Conv
import HandS.Deep
import HandS.Zip
import PySem.Challenge.RW_onelook_k79_told_by_tallies
set_option Elab.async false
set_option linter.all false
set_option maxRecDepth 100000
set_option maxHeartbeats 4000000
namespace Ol
open PySem PySem.Spec PyProof.Rows L2
/-! ### facts of the top -/
/-- a module's constant -/
structure GCon (K : PySem.W.Frag) (mg : Str → Option Value) (x : Str) (v : V) : Prop where
  ex : ∃ u, mg x = some u ∧ RelV v u
theorem gcon_int {K : PySem.W.Frag} {mg : Str → Option Value} {x : Str} {i : Int} (h : ∃ t, mg x = some (.int i t)) : GCon K mg x (.int i) := by
  obtain ⟨t, h⟩ := h
  exact ⟨_, h, t, rfl⟩
theorem gcon_str {K : PySem.W.Frag} {mg : Str → Option Value} {x z : Str} (h : ∃ t, mg x = some (.str z t)) : GCon K mg x (.str z) := by
  obtain ⟨t, h⟩ := h
  exact ⟨_, h, t, rfl⟩
theorem gcon_ref {K : PySem.W.Frag} {mg : Str → Option Value} {x : Str} {a : Addr} (h : mg x = some (.ref a)) : GCon K mg x (.ref a) := ⟨_, h, rfl⟩
theorem pe_con {X : Cx} {x : Str} {v : V} {pos : Pos} (h : GCon X.K X.mg x v) (hg : Gl X x) (hd : (x == ("__debug__" : Str)) = false := by decide) : PE X (.Name x pos) (tC v) := by
  obtain ⟨u, h1, h2⟩ := h.ex
  exact pe_glob hg h1 h2 hd
/-- an own exception class -/
def excCB (K : PySem.W.Frag) (D : Addr) : Bool :=
  decide (PySem.W.findIn K (.ref D) "__getattribute__" = some (some (.builtin "BaseException.__getattribute__"))) && (decide (PySem.W.findIn K (.ref D) "__getattr__" = some none) &&
  (decide (PySem.W.subIn K (.ref D) (.type "BaseException") = some true) && (PySem.W.hasDictIn K D && (decide (PySem.W.findIn K (.ref D) "__class__" = some (some (.builtin "object.__class__"))) &&
  (decide (PySem.W.specialIn K (.builtin "object.__class__") "__get__" = some (some (.builtin "getset_descriptor.__get__"))) && (decide (PySem.W.takesIn K (.builtin "object.__class__") = some true) && decide (PySem.W.mroIn K D (.type "object") = some true)))))))
theorem excCB_ok {K : PySem.W.Frag} {D : Addr} (h : excCB K D = true) : ExcC K D := by
  unfold excCB at h
  simp only [Bool.and_eq_true, decide_eq_true_eq] at h
  obtain ⟨h1, h2, h3, h4, h5, h6, h7, h8⟩ := h
  exact ⟨h1, h2, h3, h4, h5, h6, h7, h8⟩
structure XCls (K : PySem.W.Frag) (mg : Str → Option Value) (x : Str) : Prop where
  g : mg x = some (.ref (He.ga K x))
  e : PySem.W.excIn K (He.ga K x) He.veBase "ValueError.__new__" = true ∧ PySem.W.keepIn K (.ref (He.ga K x)) = true ∧ PySem.W.subIn K (.ref (He.ga K x)) (.type "BaseException") = some true ∧ PySem.W.typeIn K (.ref (He.ga K x)) = some (.type "type")
  c : ExcC K (He.ga K x)
theorem pe_clsv {X : Cx} {x : Str} {pos : Pos} (h : XCls X.K X.mg x) (hg : Gl X x) (hd : (x == ("__debug__" : Str)) = false := by decide) : PE X (.Name x pos) (tC (.ref (He.ga X.K x))) := pe_glob hg h.g rfl hd
theorem pmk_x {X : Cx} {x m : Str} {j : Nat} {p p2 pos : Pos} (h : XCls X.K X.mg x) (hg : Gl X x) (hdb : (x == ("__debug__" : Str)) = false := by decide) :
    PMk X (.Call (.Name x p) [.Constant (.str m) j p2] [] pos) (fun _ H Q => Q (.ref (He.ga X.K x)) none H) :=
  pmk_own PySem.F.excBase_ValueError h.e.1 h.g h.e.2.1 (raises_own h.e.2.2.1 h.e.2.2.2) hg hdb
/-! ### a def with its promise -/
structure Def (P : Program) (w : World) (K : PySem.W.Frag) (mg : Str → Option Value) (base : Heap) (k : Nat) (x : Str) (ps : List Str) (sp : Sp) : Prop where
  g : mg x = some (.ref (He.ga K x))
  kp : PySem.W.keepIn K (.ref (He.ga K x)) = true
  ok : ∃ fd, FnOk P w K mg base (L2.CX P w) k (He.ga K x) fd ps sp ∧ Binds K fd ps [] ∧ (∃ oc od sl, K.lookup (He.ga K x) = some ⟨oc, od, .func fd, sl⟩) ∧ ∀ (s : Shared) (us : List Value), us.length = ps.length → BindsTo s fd ⟨us, []⟩ (ps.zip us)
theorem def_of {P : Program} {w : World} {K : PySem.W.Frag} {mg : Str → Option Value} {base : Heap} {k : Nat} {x qual : Str} {N ps : List Str} {sp : Sp} {a : Arguments} {body : List Stmt} {scope : Scope}
    (hg : mg x = some (.ref (He.ga K x))) (F : ∃ fd, FunD K x qual a body scope [] [] (He.ga K x) fd) (S : FnScope N ps scope)
    (hb : ∀ (kV doc pm : Value) (an : Option Addr) (cdv ct : Value) (us : List Value), us.length = ps.length → bindArgs (PySem.W.fnOf x qual a body scope .none kV doc pm an cdv ct) ⟨us, []⟩ = pure (ps.zip us))
    (len : ∀ vs H Q E, sp vs H Q E → vs.length = ps.length)
    (hbody : ∀ (cdv : Value) (A : Around) (outer : List Env) (s : Shared) (H : Hp) (vs : List V) (Q : VK) (E : XK), Room k (A.deeper (envOfC qual scope s.heap.objs.size (He.ga K x) cdv)) → sp vs H Q E →
      ∃ t, PSs (cxOf (L2.CX P w) P w K mg base N qual scope (He.ga K x) cdv A outer s H E) body t ∧ t ⟨fun _ H' => Q .non H', Q, fun _ _ => False, fun _ _ => False⟩ (start N vs) H) : Def P w K mg base (k + 1) x ps sp := by
  obtain ⟨fd, F⟩ := F
  refine ⟨hg, F.kp, fd, F.ok S len hbody, F.bindsN hb, ?_, F.bindsA hb⟩
  obtain ⟨oc, od, _, _, _, _, _, _, _, osl, _, lk, _⟩ := F.ex
  exact ⟨oc, od, osl, lk⟩
theorem pe_dcall {X : Cx} {k : Nat} {x : Str} {ps : List Str} {sp : Sp} {E : XK} {e : Expr} {es : List Expr} {t : TA} {p pos : Pos} (D : Def X.prog X.w X.K X.mg X.base k x ps sp) (hr : Room k X.A) (hg : Gl X x) (hx : Passes (L2.CX X.prog X.w) X E)
    (ha : PA X (e :: es) t) (hdb : (x == ("__debug__" : Str)) = false := by decide) (he : starEach (e :: es) X.env = (false, eval e X.env) :: starEach es X.env := by rfl) (hpl : ∀ q : Pos, (backTo q (starEach es X.env)).any (·.1) = false := by intro _; rfl) :
    PE X (.Call (.Name x p) (e :: es) [] pos) (tCall sp [] E t) := by
  obtain ⟨fd, F, B, _⟩ := D.ok
  exact pe_call F hr hg D.g D.kp B .nil hx ha hdb he (hpl _)
theorem pe_dcall0 {X : Cx} {k : Nat} {x : Str} {sp : Sp} {E : XK} {p pos : Pos} (D : Def X.prog X.w X.K X.mg X.base k x [] sp) (hr : Room k X.A) (hg : Gl X x) (hx : Passes (L2.CX X.prog X.w) X E)
    (hdb : (x == ("__debug__" : Str)) = false := by decide) : PE X (.Call (.Name x p) [] [] pos) (tCall sp [] E tNil) := by
  obtain ⟨fd, F, B, _⟩ := D.ok
  exact pe_call0 F hr hg D.g D.kp B .nil hx hdb
theorem pe_dcallS {X : Cx} {k : Nat} {x : Str} {ps : List Str} {sp : Sp} {E : L2.St → XK} {e : Expr} {es : List Expr} {t : TA} {p pos : Pos} (D : Def X.prog X.w X.K X.mg X.base k x ps sp) (hr : Room k X.A) (hg : Gl X x) (hx : ∀ σ, PassesAt (L2.CX X.prog X.w) X σ (E σ))
    (ha : PA X (e :: es) t) (hdb : (x == ("__debug__" : Str)) = false := by decide) (he : starEach (e :: es) X.env = (false, eval e X.env) :: starEach es X.env := by rfl) (hpl : ∀ q : Pos, (backTo q (starEach es X.env)).any (·.1) = false := by intro _; rfl) :
    PE X (.Call (.Name x p) (e :: es) [] pos) (tCallS sp E t) := by
  obtain ⟨fd, F, B, _⟩ := D.ok
  exact pe_callS F hr hg D.g D.kp B hx ha hdb he (hpl _)
/-! ### the end of a law -/
def spLawB (K : PySem.W.Frag) : Sp := fun vs H Q _ => ∃ (a : Addr) (ns : List Int), vs = [.ref a] ∧ SqL K H a (ns.map V.int) ∧ ns.length ≤ 63 ∧ (∀ z ∈ ns, Builtin.Int.intBits z ≤ 1048576) ∧ ∀ H', Q (.bl true) H'
theorem walk_ofEB {l : PySem.W.OpenLaw} {n k : Nat} {q : Program} {loose : List Str} {XP : (Str → Option Value) → Heap → Prop} {YP : World → Heap → Prop} {d : DefRec} {x : Str}
    (hn : l.most = some n) (hn2 : n ≤ sizeLine) (hdf : d.params.defaults = []) (hr : Room k callerA)
    (F : ∀ (w : World) (mg : Str → Option Value) (fa : Addr) (h : Heap), YP w h → h.Ns mainGlobals mg → mg d.name = some (.ref fa) →
      ∃ (K : PySem.W.Frag) (fd : FuncData) (sp : Sp), K.In h ∧ (∀ (s : Shared) (u : Value), BindsTo s fd ⟨[u], []⟩ [(x, u)]) ∧
        (∀ (H : Hp) (a : Addr) (ns : List Int), ns.length ≤ n → (∀ z ∈ ns, Builtin.Int.intBits z ≤ 1048576) → SqL K H a (ns.map V.int) → sp [.ref a] H (fun v _ => v = .bl true) fun _ _ _ => False) ∧
        ∀ base : Heap, K.In base → base.Ns mainGlobals mg → FnOk l.prog w K mg base (L2.CX l.prog w) k fa fd [x] sp) :
    PySem.W.WalkO q loose XP YP l.row.toRowW d [] (fun f vs => PySem.call f vs) := by
  refine Att.attach_callB hn hdf fun w s0 s1 mg mb fa o pm cd doc a vs ns G Y ho hd hcd hmg hobj hints hlen hbits hg => ?_
  obtain ⟨K, fd, sp, KX, hb, hsp, hF⟩ := F w mg fa _ Y G.T.g hmg
  refine law_call KX G.T.g G.T.b G.T.builtins G.T.nolimit hg hobj hints (Nat.le_trans hlen hn2) hr hF hb (fun H hO hS => hsp H a ns hlen hbits hS) fun H e s' hc => ?_
  obtain ⟨_, _, _, _, _, _, _, _, _, _, _, _, z⟩ := hc
  exact z
theorem law_end {P : Program} {w : World} {K : PySem.W.Frag} {h : Heap} {mg : Str → Option Value} {k : Nat} {fa : Addr} (KX : K.In h) (hfa : mg ("law" : Str) = some (.ref fa)) (g : mg ("law" : Str) = some (.ref (He.ga K "law")))
    (D : ∀ base : Heap, K.In base → base.Ns mainGlobals mg → Def P w K mg base k "law" ["script"] (spLawB K)) (G : h.Ns mainGlobals mg) :
    ∃ (K : PySem.W.Frag) (fd : FuncData) (sp : Sp), K.In h ∧ (∀ (s : Shared) (u : Value), BindsTo s fd ⟨[u], []⟩ [("script", u)]) ∧
        (∀ (H : Hp) (a : Addr) (ns : List Int), ns.length ≤ 63 → (∀ z ∈ ns, Builtin.Int.intBits z ≤ 1048576) → SqL K H a (ns.map V.int) → sp [.ref a] H (fun v _ => v = .bl true) fun _ _ _ => False) ∧
        ∀ base : Heap, K.In base → base.Ns mainGlobals mg → FnOk P w K mg base (L2.CX P w) k fa fd ["script"] sp := by
  have e : fa = He.ga K "law" := by
    have z := hfa.symm.trans g
    injection z with z
    injection z
  subst e
  obtain ⟨fd, F, B, ⟨_, _, _, l1⟩, A⟩ := (D h KX G).ok
  refine ⟨K, fd, spLawB K, KX, fun s u => A s [u] rfl, fun H a ns hl hb hS => ⟨a, ns, rfl, hS, hl, hb, fun _ => rfl⟩, fun base hK hN => ?_⟩
  obtain ⟨fd2, F2, _, ⟨_, _, _, l2⟩, _⟩ := (D base hK hN).ok
  have e2 : fd2 = fd := by
    have z := l1.symm.trans l2
    injection z with z
    injection z with _ _ z _
    injection z with z
    exact z.symm
  exact e2 ▸ F2
end Ol

namespace Ol
open PySem PySem.Spec PyProof.Rows L2
/-! ### lengths -/
theorem ofS_len (s : String) : (Str.ofString s).length = s.length := by
  have e := congrArg List.length (PyProof.Rows.signs_ofString s)
  rw [List.length_map, String.length_toList] at e
  exact e
theorem sz_le {n : Nat} (h : n ≤ 16777216) : n ≤ sizeLine := by rw [sizeLine_eq]; exact h
theorem sz_lt {n : Nat} (h : n < 16777216) : n < sizeLine := by rw [sizeLine_eq]; exact h
theorem at_ex {α : Type} {xs : List α} {i : Int} (h0 : 0 ≤ i) (h1 : i < (xs.length : Int)) : ∃ v, xs[i.toNat]? = some v ∧ atI xs i = some v := by
  obtain ⟨n, rfl⟩ := Int.eq_ofNat_of_zero_le h0
  have hi : n < xs.length := by omega
  exact ⟨xs[n], List.getElem?_eq_getElem hi, atI_nat (List.getElem?_eq_getElem hi)⟩
theorem at_nat {α : Type} {xs : List α} {i : Nat} {v : α} (h : xs[i]? = some v) : atI xs (i : Int) = some v := atI_nat h
theorem int_at {ns : List Int} {i : Nat} {x : V} (h : (ns.map V.int)[i]? = some x) : ∃ z, x = V.int z := by
  rw [List.getElem?_map] at h
  cases e : ns[i]? with
  | none => rw [e] at h; cases h
  | some z => rw [e] at h; exact ⟨z, (Option.some.inj h).symm⟩
/-! ### rules that join -/
def rOr (r1 r2 : R2) : R2 := fun x y H Q => r1 x y H Q ∨ r2 x y H Q
theorem op_or2 {X : Cx} {f : Value → Value → Sem Value} {r1 r2 : R2} (h1 : OpR X f r1) (h2 : OpR X f r2) : OpR X f (rOr r1 r2) := fun pins s σ H x y v u Q I rx ry q =>
  q.elim (h1 pins s σ H x y v u Q I rx ry) (h2 pins s σ H x y v u Q I rx ry)
theorem call_or2 {X : Cx} {f : Value} {r1 r2 : List V → Hp → VK → Prop} (h1 : CallR X f r1) (h2 : CallR X f r2) : CallR X f (fun xs H Q => r1 xs H Q ∨ r2 xs H Q) := fun pins s σ H xs us Q I r q =>
  q.elim (h1 pins s σ H xs us Q I r) (h2 pins s σ H xs us Q I r)
/-- list + list, wherever they stand -/
def rCatL (K : PySem.W.Frag) : R2 := fun x y H Q => ∃ l b xs zs, x = .ref l ∧ y = .ref b ∧ SqL K H l xs ∧ SqL K H b zs ∧ xs.length + zs.length ≤ sizeLine ∧ ∀ p, H p = none → Q (.ref p) (upd H p (.lst (xs ++ zs)))
theorem op_catL {X : Cx} : OpR X (binaryOp .Add) (rCatL X.K) := by
  intro pins s σ H x y v u Q I rx ry h
  obtain ⟨l, b, xs, zs, rfl, rfl, hH, hB, hz, q⟩ := h
  cases rx
  cases ry
  obtain ⟨its, r, ⟨⟨cls, dd, data, sl⟩, n, ho, hc, hdd, hd⟩, _⟩ := I.list hH
  obtain ⟨its2, r2, ⟨⟨cls2, dd2, data2, sl2⟩, n2, ho2, hc2, hdd2, hd2⟩, _⟩ := I.list hB
  simp only at hc hd hc2 hd2
  subst hc hd hc2 hd2
  have e : its.toArray ++ its2.toArray = (its ++ its2).toArray := by simp
  have l1 := r.length
  have l2 := r2.length
  refine concat_meets ⟨_, ho, rfl⟩ ⟨_, ho2, rfl⟩ noFill_list_add seq_list_add PySem.F.slot_list_add PySem.F.entry_list_add (PySem.F.args_list_add_2 _ _) (list_addW l b its.toArray its2.toArray n n2 dd dd2 sl sl2 (by simpa [← l1, ← l2] using hz)) ⟨ho, ho2, ?_⟩
  rw [e]
  exact ⟨.ref _, _, I.lnew (t' := s.toks) (r.append r2) (by rw [List.length_append]; omega), rfl, q _ I.fresh⟩
def rStrCat : R2 := fun x y H Q => ∃ i j, x = .str i ∧ y = .str j ∧ i.length + j.length ≤ sizeLine ∧ Q (.str (i ++ j)) H
def rAddU (K : PySem.W.Frag) : R2 := rOr (rI0 fun i j => .int (i + j)) (rOr rStrCat (rOr (rCatL K) (rCatA K)))
theorem op_addU {X : Cx} {K : PySem.W.Frag} (hK : X.K = K := by rfl) : OpR X (binaryOp .Add) (rAddU K) := hK ▸ op_or2 op_add (op_or2 op_add_str (op_or2 op_catL op_catA))
/-- == of scalars, of nested data -/
def rEqU (K : PySem.W.Frag) : R2 := rOr rEq (rEqD K)
def rNeU (K : PySem.W.Frag) : R2 := rOr rNe (rNeD K)
theorem op_eqU {X : Cx} {K : PySem.W.Frag} (hu : X.A.units + 64 < cLine) (hK : X.K = K := by rfl) : OpR X (compareOp .Eq) (rEqU K) := hK ▸ op_or2 op_eq (op_eqD hu)
theorem op_neU {X : Cx} {K : PySem.W.Frag} (hu : X.A.units + 64 < cLine) (hK : X.K = K := by rfl) : OpR X (compareOp .NotEq) (rNeU K) := hK ▸ op_or2 op_ne (op_neD hu)
/-! ### the layer's rules, the written part told -/
theorem pg_seq {X : Cx} {K : PySem.W.Frag} {pos : Pos} {es : List Expr} {k : Nat} {t : TGs} {n : Nat} (hK : X.K = K) (hc : X.calm = true) (h : PGs X es t)
    (hn : (assignEach es X.env).length = n := by rfl) (hst : (assignEach es X.env).findIdx? (·.1) = none := by rfl) : PG X (.Tuple es k pos) (gTup K n t) := hK ▸ pg_tup hc h hn hst
theorem ix_seqK {X : Cx} {K : PySem.W.Frag} (hK : X.K = K := by rfl) : IxR X (rIx K) := hK ▸ ix_seq
theorem pi_listK {X : Cx} {K : PySem.W.Frag} {tg l : Expr} {tl : TE} (hl : PE X l tl) (hK : X.K = K := by rfl) : PI X tg l (iList K tl) := hK ▸ pi_list hl
theorem pi_tupK {X : Cx} {K : PySem.W.Frag} {tg l : Expr} {tl : TE} (hl : PE X l tl) (hK : X.K = K := by rfl) : PI X tg l (iTup K tl) := hK ▸ pi_tup hl
theorem sl_listK {X : Cx} {K : PySem.W.Frag} (hK : X.K = K := by rfl) : SlR X (rSlL K) := hK ▸ sl_list
theorem sl_tupK {X : Cx} {K : PySem.W.Frag} (hK : X.K = K := by rfl) : SlR X (rSlA K) := hK ▸ sl_tupA
theorem sl_strK {X : Cx} {K : PySem.W.Frag} (hK : X.K = K := by rfl) : SlR X rSlS := sl_str
theorem op_inK {X : Cx} {K : PySem.W.Frag} (hK : X.K = K := by rfl) : OpR X (compareOp .In) (rIn K false) := hK ▸ op_in_seq
theorem op_notInK {X : Cx} {K : PySem.W.Frag} (hK : X.K = K := by rfl) : OpR X (compareOp .NotIn) (rIn K true) := hK ▸ op_notIn_seq
theorem call_isiK {X : Cx} {K : PySem.W.Frag} (hK : X.K = K := by rfl) : CallR X (.builtin "isinstance") (rIsi K) := hK ▸ call_isi
theorem pt_truthK {X : Cx} {K : PySem.W.Frag} {a : Expr} {ta : TE} (ha : PE X a ta) (he : ∀ whole, isTrue a X.env whole = (do let v ← whole; standAt a.pos; holding [v] (truthy v))) (hK : X.K = K := by rfl) :
    PT X a (fun σ H Q => ta σ H fun x H' => ∃ k, TruV K x H' k ∧ Q k H') := hK ▸ pt_truth ha he
theorem pe_bmK {X : Cx} {K : PySem.W.Frag} {T name id : String} {r : V → List V → Hp → VK → Prop} {o e : Expr} {es : List Expr} {to : TE} {t : TA} {apos cpos : Pos} (hK : X.K = K) (pa : PlainAttrs T) (slot : Slot T name id) (hty : typeOf (.builtin id) = pure (.type "method_descriptor")) (hm : MtR X id r) (ho : PE X o to) (ha : PA X (e :: es) t)
    (hbase : attributeBase o name X.env (eval o X.env) = eval o X.env := by rfl)
    (hfew : ((backTo cpos (starEach (e :: es) X.env)).all (fun x => !x.1) && (backToKw cpos (keywordEach [] X.env)).all (fun x => x.1.isSome)
      && decide ((e :: es).length + ([] : List Keyword).length + (if ([] : List Keyword).isEmpty then 0 else 1) < 30)) = true := by rfl)
    (hline : (apos.endLine == cpos.line) = true := by rfl) (hs : starEach (e :: es) X.env = (false, eval e X.env) :: starEach es X.env := by rfl) (hplain : (backTo cpos (starEach es X.env)).any (·.1) = false := by rfl) :
    PE X (.Call (.Attribute o name apos) (e :: es) [] cpos) (tBM K T r to t) := hK ▸ pe_bm pa slot hty hm ho ha hbase hfew hline hs hplain
theorem pe_bm0K {X : Cx} {K : PySem.W.Frag} {T name id : String} {r : V → List V → Hp → VK → Prop} {o : Expr} {to : TE} {apos cpos : Pos} (hK : X.K = K) (pa : PlainAttrs T) (slot : Slot T name id) (hty : typeOf (.builtin id) = pure (.type "method_descriptor")) (hm : MtR X id r) (ho : PE X o to)
    (hbase : attributeBase o name X.env (eval o X.env) = eval o X.env := by rfl) (hline : (apos.endLine == cpos.line) = true := by rfl) : PE X (.Call (.Attribute o name apos) [] [] cpos) (tBM0 K T r to) := hK ▸ pe_bm0 pa slot hty hm ho hbase hline

/-! ### steps -/
section
variable {K : PySem.W.Frag} {σ : L2.St} {H H' : Hp} {Q rt : VK} {nx bk ct : L2.St → Hp → Prop} {ta tb te : TE} {QT : Bool → Hp → Prop} {QA : List V → Hp → Prop} {r : R2}
theorem s_seq {t u : TS} (h : t ⟨u ⟨nx, rt, bk, ct⟩, rt, bk, ct⟩ σ H) : tSeq t u ⟨nx, rt, bk, ct⟩ σ H := h
theorem s_asgN {i : Nat} (h : te σ H fun x H1 => nx (σ.set i (some x)) H1) : tAsg te (gName i) ⟨nx, rt, bk, ct⟩ σ H := h
theorem s_asg {g : TG} (h : te σ H fun x H1 => g x σ H1 nx) : tAsg te g ⟨nx, rt, bk, ct⟩ σ H := h
theorem s_ret (h : te σ H rt) : tRet te ⟨nx, rt, bk, ct⟩ σ H := h
theorem s_retN (h : rt .non H) : tRetN ⟨nx, rt, bk, ct⟩ σ H := h
theorem s_drop (h : te σ H fun _ H1 => nx σ H1) : tDrop te ⟨nx, rt, bk, ct⟩ σ H := h
theorem s_if {c : TT} {t u : TS} (h : c σ H fun b H1 => if b = true then t ⟨nx, rt, bk, ct⟩ σ H1 else u ⟨nx, rt, bk, ct⟩ σ H1) : tIfS c t u ⟨nx, rt, bk, ct⟩ σ H := h
theorem s_next (h : nx σ H) : tNext ⟨nx, rt, bk, ct⟩ σ H := h
theorem s_brk (h : bk σ H) : tBreak ⟨nx, rt, bk, ct⟩ σ H := h
theorem s_cont (h : ct σ H) : tCont ⟨nx, rt, bk, ct⟩ σ H := h
theorem s_nx (h : nx σ H) : Ends.nx ⟨nx, rt, bk, ct⟩ σ H := h
theorem s_bk (h : bk σ H) : Ends.bk ⟨nx, rt, bk, ct⟩ σ H := h
theorem s_ct (h : ct σ H) : Ends.ct ⟨nx, rt, bk, ct⟩ σ H := h
theorem s_rt {v : V} (h : rt v H) : Ends.rt ⟨nx, rt, bk, ct⟩ v H := h
theorem s_gname {i : Nat} {v : V} {q : L2.St → Hp → Prop} (h : q (σ.set i (some v)) H) : gName i v σ H q := h
theorem s_gtup {n : Nat} {t : TGs} {p : Addr} {xs : List V} {q : L2.St → Hp → Prop} (h : SqT K H p xs) (hn : xs.length = n) (h2 : t xs σ H q) : gTup K n t (.ref p) σ H q := ⟨p, xs, rfl, h, hn, h2⟩
theorem s_gcons {t : TG} {u : TGs} {v : V} {l : List V} {q : L2.St → Hp → Prop} (h : t v σ H fun s2 H2 => u l s2 H2 q) : gCons t u (v :: l) σ H q := ⟨v, l, rfl, h⟩
theorem s_gnil {q : L2.St → Hp → Prop} (h : q σ H) : gNil [] σ H q := ⟨rfl, h⟩
theorem s_gsub {to ti : TE} {ts : TSet} {v : V} {q : L2.St → Hp → Prop} (h : to σ H fun o H1 => ti σ H1 fun i H2 => ts o i v H2 fun H3 => q σ H3) : gSub to ti ts v σ H q := h
theorem s_setL {p : Addr} {i : Int} {v : V} {xs : List V} {j : Nat} {q : Hp → Prop} (h : H p = some (.lst xs)) (e : ixN xs.length i = some j) (h2 : q (upd H p (.lst (xs.set j v)))) : rSetL (.ref p) (.int i) v H q := ⟨p, xs, i, j, rfl, rfl, h, e, h2⟩
theorem s_test (h : te σ H fun x H1 => ∃ k, x = .bl k ∧ QT k H1) : tTest te σ H QT := h
theorem s_tB (h : te σ H fun x H1 => ∃ k, x = .bl k ∧ QT k H1) : tB te σ H QT := h
theorem s_isbl {b : Bool} (h : QT b H) : ∃ k, V.bl b = .bl k ∧ QT k H := ⟨b, rfl, h⟩
theorem s_and {t u : TT} (h : t σ H fun c H1 => if c = true then u σ H1 QT else QT false H1) : tAnd t u σ H QT := h
theorem s_or {t u : TT} (h : t σ H fun c H1 => if c = true then QT true H1 else u σ H1 QT) : tOr t u σ H QT := h
theorem s_not {t : TT} (h : t σ H fun c H1 => QT (!c) H1) : tNot t σ H QT := h
theorem s_andV (h : ta σ H fun x H1 => ∃ c, x = .bl c ∧ if c = true then tb σ H1 Q else Q (.bl false) H1) : tAndV ta tb σ H Q := h
theorem s_orV (h : ta σ H fun x H1 => ∃ c, x = .bl c ∧ if c = true then Q (.bl true) H1 else tb σ H1 Q) : tOrV ta tb σ H Q := h
theorem s_notV (h : ta σ H fun x H1 => ∃ c, x = .bl c ∧ Q (.bl (!c)) H1) : tNotV ta σ H Q := h
theorem s_isblP {b : Bool} {A B : Hp → Prop} (h : if b = true then A H else B H) : ∃ k, V.bl b = .bl k ∧ (if k = true then A H else B H) := ⟨b, rfl, h⟩
theorem s_ifE {t : TT} (h : t σ H fun c H1 => if c = true then ta σ H1 Q else tb σ H1 Q) : tIf t ta tb σ H Q := h
theorem s_var {i : Nat} {v : V} (e : σ[i]? = some (some v)) (h : Q v H) : tVar i σ H Q := ⟨v, e, h⟩
theorem s_c {v : V} (h : Q v H) : tC v σ H Q := h
theorem s_op (h : ta σ H fun x H1 => tb σ H1 fun y H2 => r x y H2 Q) : tOp r ta tb σ H Q := h
theorem s_un {u : V → Hp → VK → Prop} (h : ta σ H fun x H1 => u x H1 Q) : tUn u ta σ H Q := h
theorem s_cons {tr : TA} (h : ta σ H fun x H1 => tr σ H1 fun xs H2 => QA (x :: xs) H2) : tCons ta tr σ H QA := h
theorem s_nil (h : QA [] H) : tNil σ H QA := h
theorem s_cb {u : List V → Hp → VK → Prop} {t : TA} (h : t σ H fun vs H1 => u vs H1 Q) : tCB u t σ H Q := h
theorem s_call {sp : Sp} {E : XK} {t : TA} (h : t σ H fun vs H1 => sp (vs ++ []) H1 Q E) : tCall sp [] E t σ H Q := h
theorem s_callS {sp : Sp} {E : L2.St → XK} {t : TA} (h : t σ H fun vs H1 => sp vs H1 Q (E σ)) : tCallS sp E t σ H Q := h
theorem s_tup {t : TA} (h : t σ H fun xs H1 => xs.length ≤ sizeLine ∧ ∀ p, H1 p = none → Q (.ref p) (upd H1 p (.tup xs))) : tTup t σ H Q := h
theorem s_lst {t : TA} (h : t σ H fun xs H1 => xs.length ≤ sizeLine ∧ ∀ p, H1 p = none → Q (.ref p) (upd H1 p (.lst xs))) : tLst t σ H Q := h
theorem s_bm {T : String} {u : V → List V → Hp → VK → Prop} {t : TA} (h : te σ H fun x H1 => tyV K T x H1 ∧ t σ H1 fun xs H2 => u x xs H2 Q) : tBM K T u te t σ H Q := h
theorem s_bm0 {T : String} {u : V → List V → Hp → VK → Prop} (h : te σ H fun x H1 => tyV K T x H1 ∧ u x [] H1 Q) : tBM0 K T u te σ H Q := h
theorem s_rI0 {g : Int → Int → V} {i j : Int} (h : Q (g i j) H) : rI0 g (.int i) (.int j) H Q := ⟨i, j, rfl, rfl, h⟩
theorem s_rI {C : Int → Int → Prop} {g : Int → Int → V} {i j : Int} (c : C i j) (h : Q (g i j) H) : rI C g (.int i) (.int j) H Q := ⟨i, j, rfl, rfl, c, h⟩
theorem s_rU {g : Int → V} {i : Int} (h : Q (g i) H) : rU g (.int i) H Q := ⟨i, rfl, h⟩
theorem s_addI {i j : Int} (h : Q (.int (i + j)) H) : rAddU K (.int i) (.int j) H Q := .inl ⟨i, j, rfl, rfl, h⟩
theorem s_addS {i j : Str} (e : i.length + j.length ≤ sizeLine) (h : Q (.str (i ++ j)) H) : rAddU K (.str i) (.str j) H Q := .inr (.inl ⟨i, j, rfl, rfl, e, h⟩)
theorem s_addL {l b : Addr} {xs zs : List V} (h1 : SqL K H l xs) (h2 : SqL K H b zs) (e : xs.length + zs.length ≤ sizeLine) (h : ∀ p, H p = none → Q (.ref p) (upd H p (.lst (xs ++ zs)))) : rAddU K (.ref l) (.ref b) H Q := .inr (.inr (.inl ⟨l, b, xs, zs, rfl, rfl, h1, h2, e, h⟩))
theorem s_eqS {x y : V} (c : scal x y = true) (h : Q (.bl (decide (x = y))) H) : rEqU K x y H Q := .inl ⟨c, h⟩
theorem s_neS {x y : V} (c : scal x y = true) (h : Q (.bl (!decide (x = y))) H) : rNeU K x y H Q := .inl ⟨c, h⟩
theorem s_eqD {x y : V} {d e : PyData} (c : Dp K H x d) (c2 : Dp K H y e) (z : SeqAt.shaped d = true) (z2 : SeqAt.shaped e = true) (h : Q (.bl (PyData.eqv d e)) H) : rEqU K x y H Q := .inr ⟨d, e, c, c2, z, z2, h⟩
theorem s_neD {x y : V} {d e : PyData} (c : Dp K H x d) (c2 : Dp K H y e) (z : SeqAt.shaped d = true) (z2 : SeqAt.shaped e = true) (h : Q (.bl (!PyData.eqv d e)) H) : rNeU K x y H Q := .inr ⟨d, e, c, c2, z, z2, h⟩
theorem s_isN {x : V} (h : Q (.bl (decide (x = .non))) H) : (fun (x y : V) (H : Hp) (Q : VK) => y = .non ∧ Q (.bl (decide (x = .non))) H) x .non H Q := ⟨rfl, h⟩
theorem s_ixL {p : Addr} {xs : List V} {i : Int} {v : V} (h : SqL K H p xs) (e : atI xs i = some v) (q : Q v H) : rIx K (.ref p) (.int i) H Q := .inl ⟨p, xs, i, v, rfl, rfl, h, e, q⟩
theorem s_ixT {p : Addr} {xs : List V} {i : Int} {v : V} (h : SqT K H p xs) (e : atI xs i = some v) (q : Q v H) : rIx K (.ref p) (.int i) H Q := .inr (.inl ⟨p, xs, i, v, rfl, rfl, h, e, q⟩)
theorem s_ixS {z : Str} {i : Int} {c : Nat} (l : z.length ≤ sizeLine) (e : atI z.cps.toList i = some c) (q : Q (.str ⟨#[c]⟩) H) : rIx K (.str z) (.int i) H Q := .inr (.inr ⟨z, i, c, rfl, rfl, l, e, q⟩)
theorem s_append {l : Addr} {xs : List V} {y : V} (h : H l = some (.lst xs)) (e : xs.length < sizeLine) (q : Q .non (upd H l (.lst (xs ++ [y])))) : rAppend (.ref l) [y] H Q := ⟨l, xs, y, rfl, rfl, h, e, q⟩
theorem s_iteD {p : Prop} [Decidable p] {A B : Prop} (h1 : p → A) (h2 : ¬ p → B) : if decide p = true then A else B := by
  by_cases h : p
  · rw [decide_eq_true h]; exact h1 h
  · rw [decide_eq_false h]; exact h2 h
theorem s_iteN {p : Prop} [Decidable p] {A B : Prop} (h1 : ¬ p → A) (h2 : p → B) : if (!decide p) = true then A else B := by
  by_cases h : p
  · rw [decide_eq_true h]; exact h2 h
  · rw [decide_eq_false h]; exact h1 h
theorem s_iteB {b : Bool} {A B : Prop} (h1 : b = true → A) (h2 : b = false → B) : if b = true then A else B := by
  cases b
  · exact h2 rfl
  · exact h1 rfl
theorem s_yes {b : Bool} {A B : Prop} (e : b = true) (h : A) : if b = true then A else B := by
  rw [e]; exact h
theorem s_no {b : Bool} {A B : Prop} (e : b = false) (h : B) : if b = true then A else B := by
  rw [e]; exact h
theorem hf_new {q p : Addr} {o o2 : HO} (hq : H q = none) (h : H p = some o) : (upd H q o2) p = some o := by
  rw [upd_ne (ne_of_none h hq)]; exact h
theorem hf_ne {q p : Addr} {o o2 : HO} (hq : p ≠ q) (h : H p = some o) : (upd H q o2) p = some o := by
  rw [upd_ne hq]; exact h
theorem sl_of {p : Addr} {xs : List V} (h : H p = some (.lst xs)) : SqL K H p xs := .inl (.inl h)
theorem st_of {p : Addr} {xs : List V} (h : H p = some (.tup xs)) : SqT K H p xs := .inl (.inl h)
theorem Same.new {p : Addr} {o : HO} (h : H p = none) : Same H (upd H p o) := fun b x e => by
  rw [upd_ne (ne_of_none e h)]; exact e
/-- what H does not know may change -/
theorem Same.mut {p : Addr} {o : HO} (e : Same H H') (h : H p = none) : Same H (upd H' p o) := fun a u ha => by
  rw [upd_ne (ne_of_none ha h)]; exact e a u ha
theorem Same.tup {a : Addr} {xs : List V} (e : Same H H') (h : SqT K H a xs) : SqT K H' a xs := by
  rcases h with (h | ⟨o, h⟩) | h
  · exact .inl (.inl (e _ _ h))
  · exact .inl (.inr ⟨o, e _ _ h⟩)
  · exact .inr h
end
/-! ### named readings of the layer's rules -/
def rIsNo : R2 := fun x y H Q => y = .non ∧ Q (.bl (decide (x = .non))) H
def rNotNo : R2 := fun x y H Q => y = .non ∧ Q (.bl (!decide (x = .non))) H
theorem op_isNo {X : Cx} : OpR X (compareOp .Is) rIsNo := op_isN
theorem op_notNo {X : Cx} : OpR X (compareOp .IsNot) rNotNo := op_notN
def rStrI : List V → Hp → VK → Prop := fun xs H Q => ∃ i, xs = [.int i] ∧ i.natAbs.log2 < 1920 ∧ Q (.str (toString i)) H
theorem call_strI {X : Cx} : CallR X (.type "str") rStrI := call_str_int
def rAbsI : List V → Hp → VK → Prop := fun xs H Q => ∃ i, xs = [.int i] ∧ Q (.int (if i < 0 then -i else i)) H
theorem call_absI {X : Cx} : CallR X (.builtin "abs") rAbsI := call_abs
def rLenU (K : PySem.W.Frag) : List V → Hp → VK → Prop := fun xs H Q => ∃ x n, xs = [x] ∧ LenV K x H n ∧ Q (.int n) H
theorem call_lenU {X : Cx} {K : PySem.W.Frag} (hK : X.K = K := by rfl) : CallR X (.builtin "len") (rLenU K) := hK ▸ call_len
def rJoinU (K : PySem.W.Frag) : V → List V → Hp → VK → Prop := fun x xs H Q => ∃ a p, ∃ ys : List Str, x = .str a ∧ xs = [.ref p] ∧ (SqL K H p (ys.map V.str) ∨ SqT K H p (ys.map V.str)) ∧ (ys.map (·.length)).sum + ys.length * a.length ≤ 16777216 ∧ Q (.str (Txt.join a ys)) H
theorem mt_joinU {X : Cx} {K : PySem.W.Frag} (hK : X.K = K := by rfl) : MtR X "str.join" (rJoinU K) := hK ▸ mt_join
section
variable {K : PySem.W.Frag} {σ : L2.St} {H H' : Hp} {Q : VK}
theorem s_isNo {x : V} (h : Q (.bl (decide (x = .non))) H) : rIsNo x .non H Q := ⟨rfl, h⟩
theorem s_notNo {x : V} (h : Q (.bl (!decide (x = .non))) H) : rNotNo x .non H Q := ⟨rfl, h⟩
theorem s_strI {i : Int} (e : i.natAbs.log2 < 1920) (h : Q (.str (toString i)) H) : rStrI [.int i] H Q := ⟨i, rfl, e, h⟩
theorem s_absI {i : Int} (h : Q (.int (if i < 0 then -i else i)) H) : rAbsI [.int i] H Q := ⟨i, rfl, h⟩
theorem s_lenS {z : Str} (e : z.length ≤ sizeLine) (h : Q (.int (z.length : Nat)) H) : rLenU K [.str z] H Q := ⟨_, _, rfl, ⟨e, rfl⟩, h⟩
theorem s_lenL {p : Addr} {xs : List V} (e : SqL K H p xs) (h : Q (.int (xs.length : Nat)) H) : rLenU K [.ref p] H Q := ⟨_, _, rfl, .inl ⟨xs, e, rfl⟩, h⟩
theorem s_lenT {p : Addr} {xs : List V} (e : SqT K H p xs) (h : Q (.int (xs.length : Nat)) H) : rLenU K [.ref p] H Q := ⟨_, _, rfl, .inr ⟨xs, e, rfl⟩, h⟩
theorem s_joinL {a : Str} {p : Addr} {ys : List Str} (e : SqL K H p (ys.map V.str)) (l : (ys.map (·.length)).sum + ys.length * a.length ≤ 16777216) (h : Q (.str (Txt.join a ys)) H) : rJoinU K (.str a) [.ref p] H Q := ⟨a, p, ys, rfl, rfl, .inl e, l, h⟩
theorem s_joinT {a : Str} {p : Addr} {ys : List Str} (e : SqT K H p (ys.map V.str)) (l : (ys.map (·.length)).sum + ys.length * a.length ≤ 16777216) (h : Q (.str (Txt.join a ys)) H) : rJoinU K (.str a) [.ref p] H Q := ⟨a, p, ys, rfl, rfl, .inr e, l, h⟩
theorem s_tyS {z : Str} {A : Prop} (h : A) : tyV K "str" (.str z) H ∧ A := ⟨rfl, h⟩
theorem s_tyL {p : Addr} {xs : List V} {A : Prop} (e : SqL K H p xs) (h : A) : tyV K "list" (.ref p) H ∧ A := ⟨.inl ⟨rfl, _, e⟩, h⟩
/-- isinstance -/
theorem s_isi {x c : V} {t u : Value} {b : Bool} (k : ClsV c u) (ty : TyX K H x t) (e : PySem.W.kitOne K t u = some b) (h : Q (.bl b) H) : rIsi K [x, c] H Q := ⟨x, c, t, u, b, rfl, k, ty, e, h⟩
end
/-! ### steps found by the head of the reading -/
class Step (G : Prop) (G2 : outParam Prop) : Prop where
  go : G2 → G
/-- slot i of a frame -/
class Slot (s : L2.St) (i : Nat) (v : outParam V) : Prop where
  e : s[i]? = some (some v)
instance slot0 {v : V} {s : L2.St} : Slot (some v :: s) 0 v := ⟨rfl⟩
instance slotS {v : V} {s : L2.St} {a : Option V} {i : Nat} [h : Slot s i v] : Slot (a :: s) (i + 1) v := ⟨by rw [List.getElem?_cons_succ]; exact h.e⟩
class SetS (s : L2.St) (i : Nat) (f : outParam (V → L2.St)) : Prop where
  e : ∀ v, s.set i (some v) = f v
instance set0 {a : Option V} {s : L2.St} : SetS (a :: s) 0 (fun v => some v :: s) := ⟨fun _ => rfl⟩
instance setS {s : L2.St} {a : Option V} {i : Nat} {f : V → L2.St} [h : SetS s i f] : SetS (a :: s) (i + 1) (fun v => a :: f v) := ⟨fun v => by rw [List.set_cons_succ, h.e]⟩
class WipeS (s : L2.St) (vs : List Nat) (t : outParam L2.St) : Prop where
  e : wipe s vs = t
class NoneS (s : L2.St) (i : Nat) (t : outParam L2.St) : Prop where
  e : s.set i none = t
instance none0 {a : Option V} {s : L2.St} : NoneS (a :: s) 0 (none :: s) := ⟨rfl⟩
instance noneS {s t : L2.St} {a : Option V} {i : Nat} [h : NoneS s i t] : NoneS (a :: s) (i + 1) (a :: t) := ⟨by rw [List.set_cons_succ, h.e]⟩
instance wipe0 {s : L2.St} : WipeS s [] s := ⟨rfl⟩
instance wipe1 {s t u : L2.St} {v : Nat} {vs : List Nat} [h : WipeS s vs t] [k : NoneS t v u] : WipeS s (v :: vs) u := ⟨by show (wipe s vs).set v none = u; rw [h.e, k.e]⟩
/-! ### loops -/
section
variable {K : PySem.W.Frag} {σ : L2.St} {H H' : Hp} {Q rt : VK} {nx bk ct : L2.St → Hp → Prop} {ta tb te : TE}
/-- the turns of a for -/
def ForW (g : TG) (tb : TS) (D : Ends) (J : It) (σ : L2.St) (H1 : Hp) : Prop := ∃ W : Nat → Nat → L2.St → Hp → Prop, (∃ m, W 0 m σ H1) ∧ ∀ i m σ H, W i m σ H →
  (J.stop i H ∧ D.nx σ H) ∨ (J.go i H ∧ ∃ N : L2.St → Hp → Prop, (∀ σ' H', N σ' H' → ∃ m', m' < m ∧ W (i + 1) m' σ' H') ∧ ∀ x H', J.yld i H x H' → g x σ H' fun σ2 H2 => tb { D with nx := N, ct := N, bk := D.nx } σ2 H2)
theorem s_for {wi : TI} {g : TG} {t : TS} (h : wi σ H fun J H1 => ForW g t ⟨nx, rt, bk, ct⟩ J σ H1) : tFor wi g t ⟨nx, rt, bk, ct⟩ σ H := h
theorem s_iRng1 {ta : TA} {R : It → Hp → Prop} (h : ta σ H fun vs H1 => ∃ j : Int, vs = [.int j] ∧ -(2 ^ 62) ≤ j ∧ j < 2 ^ 62 ∧ R (Itr 0 j.toNat) H1) : iRng1 ta σ H R := h
theorem s_iRng2 {ta : TA} {R : It → Hp → Prop} (h : ta σ H fun vs H1 => ∃ i j : Int, vs = [.int i, .int j] ∧ (-(2 ^ 62) ≤ i ∧ i < 2 ^ 62 ∧ -(2 ^ 62) ≤ j ∧ j < 2 ^ 62) ∧ R (Itr i (j - i).toNat) H1) : iRng2 ta σ H R := h
theorem s_rng1 {j : Int} {g : TG} {t : TS} {D : Ends} (h1 : -(2 ^ 62) ≤ j) (h2 : j < 2 ^ 62) (h : ForW g t D (Itr 0 j.toNat) σ H) : ∃ k : Int, [V.int j] = [V.int k] ∧ -(2 ^ 62) ≤ k ∧ k < 2 ^ 62 ∧ ForW g t D (Itr 0 k.toNat) σ H := ⟨j, rfl, h1, h2, h⟩
theorem s_rng2 {i j : Int} {g : TG} {t : TS} {D : Ends} (h1 : -(2 ^ 62) ≤ i ∧ i < 2 ^ 62 ∧ -(2 ^ 62) ≤ j ∧ j < 2 ^ 62) (h : ForW g t D (Itr i (j - i).toNat) σ H) : ∃ a b : Int, [V.int i, V.int j] = [V.int a, V.int b] ∧ (-(2 ^ 62) ≤ a ∧ a < 2 ^ 62 ∧ -(2 ^ 62) ≤ b ∧ b < 2 ^ 62) ∧ ForW g t D (Itr a (b - a).toNat) σ H := ⟨i, j, rfl, h1, h⟩
theorem s_iList {R : It → Hp → Prop} (h : te σ H fun x H1 => ∃ a, x = .ref a ∧ (∃ xs, SqL K H1 a xs) ∧ R (Itl K a) H1) : iList K te σ H R := h
theorem s_iTup {R : It → Hp → Prop} (h : te σ H fun x H1 => ∃ a, x = .ref a ∧ (∃ xs, SqT K H1 a xs) ∧ R (Itt K a) H1) : iTup K te σ H R := h
theorem s_lst1 {p : Addr} {xs : List V} {g : TG} {t : TS} {D : Ends} (h1 : SqL K H p xs) (h : ForW g t D (Itl K p) σ H) : ∃ a, V.ref p = .ref a ∧ (∃ xs, SqL K H a xs) ∧ ForW g t D (Itl K a) σ H := ⟨p, rfl, ⟨xs, h1⟩, h⟩
theorem s_tup1 {p : Addr} {xs : List V} {g : TG} {t : TS} {D : Ends} (h1 : SqT K H p xs) (h : ForW g t D (Itt K p) σ H) : ∃ a, V.ref p = .ref a ∧ (∃ xs, SqT K H a xs) ∧ ForW g t D (Itt K a) σ H := ⟨p, rfl, ⟨xs, h1⟩, h⟩
theorem s_forR {lo : Int} {n : Nat} {g : TG} {t : TS} (Pv : Nat → L2.St → Hp → Prop) (h0 : Pv 0 σ H)
    (hs : ∀ i σ H, i < n → Pv i σ H → g (.int (lo + i)) σ H fun σ2 H2 => t ⟨Pv (i + 1), rt, nx, Pv (i + 1)⟩ σ2 H2) (hd : ∀ σ H, Pv n σ H → nx σ H) : ForW g t ⟨nx, rt, bk, ct⟩ (Itr lo n) σ H := for_range (D := ⟨nx, rt, bk, ct⟩) Pv h0 hs hd
theorem s_forR0 {n : Nat} {g : TG} {t : TS} (Pv : Nat → L2.St → Hp → Prop) (h0 : Pv 0 σ H)
    (hs : ∀ i σ H, i < n → Pv i σ H → g (.int (i : Nat)) σ H fun σ2 H2 => t ⟨Pv (i + 1), rt, nx, Pv (i + 1)⟩ σ2 H2) (hd : ∀ σ H, Pv n σ H → nx σ H) : ForW g t ⟨nx, rt, bk, ct⟩ (Itr 0 n) σ H :=
  s_forR Pv h0 (fun i σ H hi p => by rw [Int.zero_add]; exact hs i σ H hi p) hd
theorem s_forL {a : Addr} {xs : List V} {g : TG} {t : TS} (Pv : Nat → L2.St → Hp → Prop) (h0 : Pv 0 σ H) (hl : ∀ i σ H, i ≤ xs.length → Pv i σ H → SqL K H a xs)
    (hs : ∀ i x σ H, xs[i]? = some x → Pv i σ H → g x σ H fun σ2 H2 => t ⟨Pv (i + 1), rt, nx, Pv (i + 1)⟩ σ2 H2) (hd : ∀ σ H, Pv xs.length σ H → nx σ H) : ForW g t ⟨nx, rt, bk, ct⟩ (Itl K a) σ H := for_list (D := ⟨nx, rt, bk, ct⟩) Pv h0 hl hs hd
theorem s_forT {a : Addr} {xs : List V} {g : TG} {t : TS} (Pv : Nat → L2.St → Hp → Prop) (h0 : Pv 0 σ H) (hl : ∀ i σ H, i ≤ xs.length → Pv i σ H → SqT K H a xs)
    (hs : ∀ i x σ H, xs[i]? = some x → Pv i σ H → g x σ H fun σ2 H2 => t ⟨Pv (i + 1), rt, nx, Pv (i + 1)⟩ σ2 H2) (hd : ∀ σ H, Pv xs.length σ H → nx σ H) : ForW g t ⟨nx, rt, bk, ct⟩ (Itt K a) σ H := for_tup (D := ⟨nx, rt, bk, ct⟩) Pv h0 hl hs hd
/-- the turns of a comprehension -/
def LcW (g : TG) (tt : TT) (te : TE) (vs : List Nat) (σ : L2.St) (Q : VK) (J : It) (H1 : Hp) : Prop := ∀ D, H1 D = none → ∃ W : Nat → Nat → Hp → Prop, (∃ m, W 0 m (upd H1 D (.lst []))) ∧ ∀ i m H, W i m H →
  (J.stop i H ∧ Q (.ref D) H) ∨ (J.go i H ∧ ∃ Nx : Hp → Prop, (∀ H', Nx H' → ∃ m', m' < m ∧ W (i + 1) m' H') ∧ ∀ x H', J.yld i H x H' → g x (wipe σ vs) H' fun σ2 H2 => wipe σ2 vs = wipe σ vs ∧ tt σ2 H2 fun b H3 =>
    if b = true then te σ2 H3 fun y H4 => ∃ acc, H4 D = some (.lst acc) ∧ acc.length < sizeLine ∧ Nx (upd H4 D (.lst (acc ++ [y]))) else Nx H3)
theorem s_lc {wi : TI} {g : TG} {tt : TT} {vs : List Nat} (h : wi σ H (LcW g tt te vs σ Q)) : tLc wi g tt te vs σ H Q := h
theorem s_rng1c {j : Int} {g : TG} {tt : TT} {vs : List Nat} (h1 : -(2 ^ 62) ≤ j) (h2 : j < 2 ^ 62) (h : LcW g tt te vs σ Q (Itr 0 j.toNat) H) : ∃ k : Int, [V.int j] = [V.int k] ∧ -(2 ^ 62) ≤ k ∧ k < 2 ^ 62 ∧ LcW g tt te vs σ Q (Itr 0 k.toNat) H := ⟨j, rfl, h1, h2, h⟩
theorem s_rng2c {i j : Int} {g : TG} {tt : TT} {vs : List Nat} (h1 : -(2 ^ 62) ≤ i ∧ i < 2 ^ 62 ∧ -(2 ^ 62) ≤ j ∧ j < 2 ^ 62) (h : LcW g tt te vs σ Q (Itr i (j - i).toNat) H) : ∃ a b : Int, [V.int i, V.int j] = [V.int a, V.int b] ∧ (-(2 ^ 62) ≤ a ∧ a < 2 ^ 62 ∧ -(2 ^ 62) ≤ b ∧ b < 2 ^ 62) ∧ LcW g tt te vs σ Q (Itr a (b - a).toNat) H := ⟨i, j, rfl, h1, h⟩
theorem s_lst1c {p : Addr} {xs : List V} {g : TG} {tt : TT} {vs : List Nat} (h1 : SqL K H p xs) (h : LcW g tt te vs σ Q (Itl K p) H) : ∃ a, V.ref p = .ref a ∧ (∃ xs, SqL K H a xs) ∧ LcW g tt te vs σ Q (Itl K a) H := ⟨p, rfl, ⟨xs, h1⟩, h⟩
theorem s_tup1c {p : Addr} {xs : List V} {g : TG} {tt : TT} {vs : List Nat} (h1 : SqT K H p xs) (h : LcW g tt te vs σ Q (Itt K p) H) : ∃ a, V.ref p = .ref a ∧ (∃ xs, SqT K H a xs) ∧ LcW g tt te vs σ Q (Itt K a) H := ⟨p, rfl, ⟨xs, h1⟩, h⟩
theorem s_sz {n : Nat} {A : Prop} (h : n ≤ sizeLine) (a : A) : n ≤ sizeLine ∧ A := ⟨h, a⟩
theorem s_lcR0 {n : Nat} {g : TG} {tt : TT} {vs : List Nat} {τ : L2.St} [hw : WipeS σ vs τ] (Pv : Addr → Nat → Hp → Prop) (h0 : ∀ D, H D = none → Pv D 0 (upd H D (.lst [])))
    (hs : ∀ D i H1, H D = none → i < n → Pv D i H1 → g (.int (i : Nat)) τ H1 fun σ2 H2 => wipe σ2 vs = τ ∧ tt σ2 H2 fun b H3 =>
      if b = true then te σ2 H3 fun y H4 => ∃ acc, H4 D = some (.lst acc) ∧ acc.length < sizeLine ∧ Pv D (i + 1) (upd H4 D (.lst (acc ++ [y]))) else Pv D (i + 1) H3) (hd : ∀ D H1, H D = none → Pv D n H1 → Q (.ref D) H1) :
    LcW g tt te vs σ Q (Itr 0 n) H := by
  have e := hw.e
  subst e
  exact fun D hD => lc_range (lo := 0) (n := n) (Pv D) (h0 D hD) (fun i H1 hi p => by rw [Int.zero_add]; exact hs D i H1 hD hi p) fun H1 => hd D H1 hD
theorem s_lcL {a : Addr} {xs : List V} {g : TG} {tt : TT} {vs : List Nat} {τ : L2.St} [hw : WipeS σ vs τ] (Pv : Addr → Nat → Hp → Prop) (h0 : ∀ D, H D = none → Pv D 0 (upd H D (.lst []))) (hl : ∀ D i H1, H D = none → i ≤ xs.length → Pv D i H1 → SqL K H1 a xs)
    (hs : ∀ D i x H1, H D = none → xs[i]? = some x → Pv D i H1 → g x τ H1 fun σ2 H2 => wipe σ2 vs = τ ∧ tt σ2 H2 fun b H3 =>
      if b = true then te σ2 H3 fun y H4 => ∃ acc, H4 D = some (.lst acc) ∧ acc.length < sizeLine ∧ Pv D (i + 1) (upd H4 D (.lst (acc ++ [y]))) else Pv D (i + 1) H3) (hd : ∀ D H1, H D = none → Pv D xs.length H1 → Q (.ref D) H1) :
    LcW g tt te vs σ Q (Itl K a) H := by
  have e := hw.e
  subst e
  exact fun D hD => lc_list (K := K) (a := a) (xs := xs) (Pv D) (h0 D hD) (fun i H1 => hl D i H1 hD) (fun i x H1 => hs D i x H1 hD) fun H1 => hd D H1 hD
theorem s_lcT {a : Addr} {xs : List V} {g : TG} {tt : TT} {vs : List Nat} {τ : L2.St} [hw : WipeS σ vs τ] (Pv : Addr → Nat → Hp → Prop) (h0 : ∀ D, H D = none → Pv D 0 (upd H D (.lst []))) (hl : ∀ D i H1, H D = none → i ≤ xs.length → Pv D i H1 → SqT K H1 a xs)
    (hs : ∀ D i x H1, H D = none → xs[i]? = some x → Pv D i H1 → g x τ H1 fun σ2 H2 => wipe σ2 vs = τ ∧ tt σ2 H2 fun b H3 =>
      if b = true then te σ2 H3 fun y H4 => ∃ acc, H4 D = some (.lst acc) ∧ acc.length < sizeLine ∧ Pv D (i + 1) (upd H4 D (.lst (acc ++ [y]))) else Pv D (i + 1) H3) (hd : ∀ D H1, H D = none → Pv D xs.length H1 → Q (.ref D) H1) :
    LcW g tt te vs σ Q (Itt K a) H := by
  have e := hw.e
  subst e
  exact fun D hD => lc_tup (K := K) (a := a) (xs := xs) (Pv D) (h0 D hD) (fun i H1 => hl D i H1 hD) (fun i x H1 => hs D i x H1 hD) fun H1 => hd D H1 hD
theorem s_acc {D : Addr} {acc : List V} {y : V} {R : Hp → Prop} (h : H D = some (.lst acc)) (l : acc.length < sizeLine) (q : R (upd H D (.lst (acc ++ [y])))) : ∃ acc, H D = some (.lst acc) ∧ acc.length < sizeLine ∧ R (upd H D (.lst (acc ++ [y]))) := ⟨acc, h, l, q⟩
theorem s_tyes {QT : Bool → Hp → Prop} (h : QT true H) : tYes σ H QT := h
theorem s_wipe {A B : Prop} (e : A) (h : B) : A ∧ B := ⟨e, h⟩
/-- all but p -/
def But (p : Addr) (H H' : Hp) : Prop := ∀ b o, b ≠ p → H b = some o → H' b = some o
theorem But.refl {p : Addr} : But p H H := fun _ _ _ h => h
theorem But.trans {p : Addr} {H1 : Hp} (a : But p H H1) (b : But p H1 H') : But p H H' := fun c o n h => b c o n (a c o n h)
theorem But.same {p : Addr} (e : Same H H') : But p H H' := fun b o _ h => e b o h
theorem But.upd {p : Addr} {o : HO} : But p H (upd H p o) := fun b x n e => by
  rw [upd_ne n]; exact e
theorem But.new {p q : Addr} {o : HO} (h : H q = none) : But p H (L2.upd H q o) := But.same (Same.new h)
/-- p and what H does not know may change -/
theorem But.mut {p q : Addr} {o : HO} (b : But p H H') (h : H q = none) : But p H (L2.upd H' q o) := fun x y n e => by
  rw [upd_ne (ne_of_none e h)]; exact b x y n e
theorem But.put {p : Addr} {o : HO} (b : But p H H') : But p H (L2.upd H' p o) := fun x y n e => by
  rw [upd_ne n]; exact b x y n e
/-- what p was not in, may change -/
theorem But.toSame {p : Addr} {H1 : Hp} (a : Same H H1) (n : H p = none) (b : But p H1 H') : Same H H' := fun c o e => b c o (ne_of_none e n) (a c o e)
end
section
variable {K : PySem.W.Frag} {σ τ : L2.St} {H H' : Hp} {Q rt : VK} {nx bk ct : L2.St → Hp → Prop} {ta tb te : TE} {QT : Bool → Hp → Prop} {QA : List V → Hp → Prop} {r : R2}
instance {t u : TS} : Step (tSeq t u ⟨nx, rt, bk, ct⟩ σ H) (t ⟨u ⟨nx, rt, bk, ct⟩, rt, bk, ct⟩ σ H) := ⟨id⟩
instance (priority := 2000) {i : Nat} {f : V → L2.St} [h : SetS σ i f] : Step (tAsg te (gName i) ⟨nx, rt, bk, ct⟩ σ H) (te σ H fun x H1 => nx (f x) H1) := ⟨fun q => by
  have e : (fun x H1 => nx (f x) H1) = fun x H1 => gName i x σ H1 nx := by
    funext x H1
    show nx (f x) H1 = nx (σ.set i (some x)) H1
    rw [h.e]
  show te σ H (fun x H1 => gName i x σ H1 nx)
  rw [← e]
  exact q⟩
instance {g : TG} : Step (tAsg te g ⟨nx, rt, bk, ct⟩ σ H) (te σ H fun x H1 => g x σ H1 nx) := ⟨id⟩
instance : Step (tRet te ⟨nx, rt, bk, ct⟩ σ H) (te σ H rt) := ⟨id⟩
instance : Step (tRetN ⟨nx, rt, bk, ct⟩ σ H) (rt .non H) := ⟨id⟩
instance : Step (tDrop te ⟨nx, rt, bk, ct⟩ σ H) (te σ H fun _ H1 => nx σ H1) := ⟨id⟩
instance {c : TT} {t u : TS} : Step (tIfS c t u ⟨nx, rt, bk, ct⟩ σ H) (c σ H fun b H1 => if b = true then t ⟨nx, rt, bk, ct⟩ σ H1 else u ⟨nx, rt, bk, ct⟩ σ H1) := ⟨id⟩
instance : Step (tNext ⟨nx, rt, bk, ct⟩ σ H) (nx σ H) := ⟨id⟩
instance : Step (tBreak ⟨nx, rt, bk, ct⟩ σ H) (bk σ H) := ⟨id⟩
instance : Step (tCont ⟨nx, rt, bk, ct⟩ σ H) (ct σ H) := ⟨id⟩
instance : Step (Ends.nx ⟨nx, rt, bk, ct⟩ σ H) (nx σ H) := ⟨id⟩
instance : Step (Ends.bk ⟨nx, rt, bk, ct⟩ σ H) (bk σ H) := ⟨id⟩
instance : Step (Ends.ct ⟨nx, rt, bk, ct⟩ σ H) (ct σ H) := ⟨id⟩
instance {v : V} : Step (Ends.rt ⟨nx, rt, bk, ct⟩ v H) (rt v H) := ⟨id⟩
instance {i : Nat} {v : V} {q : L2.St → Hp → Prop} {f : V → L2.St} [h : SetS σ i f] : Step (gName i v σ H q) (q (f v) H) := ⟨fun z => by
  show q (σ.set i (some v)) H
  rw [h.e]
  exact z⟩
instance {t : TG} {u : TGs} {v : V} {l : List V} {q : L2.St → Hp → Prop} : Step (gCons t u (v :: l) σ H q) (t v σ H fun s2 H2 => u l s2 H2 q) := ⟨s_gcons⟩
instance {q : L2.St → Hp → Prop} : Step (gNil [] σ H q) (q σ H) := ⟨s_gnil⟩
instance {to ti : TE} {ts : TSet} {v : V} {q : L2.St → Hp → Prop} : Step (gSub to ti ts v σ H q) (to σ H fun o H1 => ti σ H1 fun i H2 => ts o i v H2 fun H3 => q σ H3) := ⟨id⟩
instance : Step (tTest te σ H QT) (te σ H fun x H1 => ∃ k, x = .bl k ∧ QT k H1) := ⟨id⟩
instance : Step (tB te σ H QT) (te σ H fun x H1 => ∃ k, x = .bl k ∧ QT k H1) := ⟨id⟩
instance {b : Bool} {F : Bool → Prop} : Step (∃ k, V.bl b = .bl k ∧ F k) (F b) := ⟨fun h => ⟨b, rfl, h⟩⟩
instance {t u : TT} : Step (tAnd t u σ H QT) (t σ H fun c H1 => if c = true then u σ H1 QT else QT false H1) := ⟨id⟩
instance {t u : TT} : Step (tOr t u σ H QT) (t σ H fun c H1 => if c = true then QT true H1 else u σ H1 QT) := ⟨id⟩
instance {t : TT} : Step (tNot t σ H QT) (t σ H fun c H1 => QT (!c) H1) := ⟨id⟩
instance : Step (tAndV ta tb σ H Q) (ta σ H fun x H1 => ∃ c, x = .bl c ∧ if c = true then tb σ H1 Q else Q (.bl false) H1) := ⟨id⟩
instance : Step (tOrV ta tb σ H Q) (ta σ H fun x H1 => ∃ c, x = .bl c ∧ if c = true then Q (.bl true) H1 else tb σ H1 Q) := ⟨id⟩
instance : Step (tNotV ta σ H Q) (ta σ H fun x H1 => ∃ c, x = .bl c ∧ Q (.bl (!c)) H1) := ⟨id⟩
instance {t : TT} : Step (tIf t ta tb σ H Q) (t σ H fun c H1 => if c = true then ta σ H1 Q else tb σ H1 Q) := ⟨id⟩
instance {i : Nat} {v : V} [h : Slot σ i v] : Step (tVar i σ H Q) (Q v H) := ⟨fun q => ⟨v, h.e, q⟩⟩
instance {v : V} : Step (tC v σ H Q) (Q v H) := ⟨id⟩
instance : Step (tOp r ta tb σ H Q) (ta σ H fun x H1 => tb σ H1 fun y H2 => r x y H2 Q) := ⟨id⟩
instance {u : V → Hp → VK → Prop} : Step (tUn u ta σ H Q) (ta σ H fun x H1 => u x H1 Q) := ⟨id⟩
instance {tr : TA} : Step (tCons ta tr σ H QA) (ta σ H fun x H1 => tr σ H1 fun xs H2 => QA (x :: xs) H2) := ⟨id⟩
instance : Step (tNil σ H QA) (QA [] H) := ⟨id⟩
instance {u : List V → Hp → VK → Prop} {t : TA} : Step (tCB u t σ H Q) (t σ H fun vs H1 => u vs H1 Q) := ⟨id⟩
instance {sp : Sp} {E : XK} {t : TA} : Step (tCall sp [] E t σ H Q) (t σ H fun vs H1 => sp vs H1 Q E) := ⟨fun h => by
  have e : (fun (vs : List V) (H1 : Hp) => sp (vs ++ []) H1 Q E) = fun vs H1 => sp vs H1 Q E := by
    funext vs H1
    rw [List.append_nil]
  show t σ H (fun vs H1 => sp (vs ++ []) H1 Q E)
  rw [e]
  exact h⟩
instance {sp : Sp} {E : L2.St → XK} {t : TA} : Step (tCallS sp E t σ H Q) (t σ H fun vs H1 => sp vs H1 Q (E σ)) := ⟨id⟩
instance {t : TA} : Step (tTup t σ H Q) (t σ H fun xs H1 => xs.length ≤ sizeLine ∧ ∀ p, H1 p = none → Q (.ref p) (upd H1 p (.tup xs))) := ⟨id⟩
instance {t : TA} : Step (tLst t σ H Q) (t σ H fun xs H1 => xs.length ≤ sizeLine ∧ ∀ p, H1 p = none → Q (.ref p) (upd H1 p (.lst xs))) := ⟨id⟩
instance {T : String} {u : V → List V → Hp → VK → Prop} {t : TA} : Step (tBM K T u te t σ H Q) (te σ H fun x H1 => tyV K T x H1 ∧ t σ H1 fun xs H2 => u x xs H2 Q) := ⟨id⟩
instance {T : String} {u : V → List V → Hp → VK → Prop} : Step (tBM0 K T u te σ H Q) (te σ H fun x H1 => tyV K T x H1 ∧ u x [] H1 Q) := ⟨id⟩
instance {g : Int → Int → V} {i j : Int} : Step (rI0 g (.int i) (.int j) H Q) (Q (g i j) H) := ⟨s_rI0⟩
instance {C : Int → Int → Prop} {g : Int → Int → V} {i j : Int} : Step (rI C g (.int i) (.int j) H Q) (C i j ∧ Q (g i j) H) := ⟨fun h => s_rI h.1 h.2⟩
instance {g : Int → V} {i : Int} : Step (rU g (.int i) H Q) (Q (g i) H) := ⟨s_rU⟩
instance {i j : Int} : Step (rAddU K (.int i) (.int j) H Q) (Q (.int (i + j)) H) := ⟨s_addI⟩
instance {i j : Str} : Step (rAddU K (.str i) (.str j) H Q) (i.length + j.length ≤ sizeLine ∧ Q (.str (i ++ j)) H) := ⟨fun h => s_addS h.1 h.2⟩
instance {i j : Int} : Step (rEqU K (.int i) (.int j) H Q) (Q (.bl (decide (i = j))) H) := ⟨fun h => s_eqS rfl (by
  have e : decide (V.int i = V.int j) = decide (i = j) := by by_cases z : i = j <;> simp [z]
  rw [e]; exact h)⟩
instance {i j : Str} : Step (rEqU K (.str i) (.str j) H Q) (Q (.bl (decide (i = j))) H) := ⟨fun h => s_eqS rfl (by
  have e : decide (V.str i = V.str j) = decide (i = j) := by by_cases z : i = j <;> simp [z]
  rw [e]; exact h)⟩
instance {i j : Int} : Step (rNeU K (.int i) (.int j) H Q) (Q (.bl (!decide (i = j))) H) := ⟨fun h => s_neS rfl (by
  have e : decide (V.int i = V.int j) = decide (i = j) := by by_cases z : i = j <;> simp [z]
  rw [e]; exact h)⟩
instance {i j : Str} : Step (rNeU K (.str i) (.str j) H Q) (Q (.bl (!decide (i = j))) H) := ⟨fun h => s_neS rfl (by
  have e : decide (V.str i = V.str j) = decide (i = j) := by by_cases z : i = j <;> simp [z]
  rw [e]; exact h)⟩
instance {i j : Bool} : Step (rEqU K (.bl i) (.bl j) H Q) (Q (.bl (decide (i = j))) H) := ⟨fun h => s_eqS rfl (by
  have e : decide (V.bl i = V.bl j) = decide (i = j) := by by_cases z : i = j <;> simp [z]
  rw [e]; exact h)⟩
instance {i j : Bool} : Step (rNeU K (.bl i) (.bl j) H Q) (Q (.bl (!decide (i = j))) H) := ⟨fun h => s_neS rfl (by
  have e : decide (V.bl i = V.bl j) = decide (i = j) := by by_cases z : i = j <;> simp [z]
  rw [e]; exact h)⟩
instance {x : V} : Step (rIsNo x .non H Q) (Q (.bl (decide (x = .non))) H) := ⟨s_isNo⟩
instance {x : V} : Step (rNotNo x .non H Q) (Q (.bl (!decide (x = .non))) H) := ⟨s_notNo⟩
instance {i : Int} : Step (rStrI [.int i] H Q) (i.natAbs.log2 < 1920 ∧ Q (.str (toString i)) H) := ⟨fun h => s_strI h.1 h.2⟩
instance {i : Int} : Step (rAbsI [.int i] H Q) (Q (.int (if i < 0 then -i else i)) H) := ⟨s_absI⟩
instance {z : Str} {A : Prop} : Step (tyV K "str" (.str z) H ∧ A) A := ⟨s_tyS⟩
instance {z : Str} : Step (rLenU K [.str z] H Q) (z.length ≤ sizeLine ∧ Q (.int (z.length : Nat)) H) := ⟨fun h => s_lenS h.1 h.2⟩
instance {wi : TI} {g : TG} {t : TS} : Step (tFor wi g t ⟨nx, rt, bk, ct⟩ σ H) (wi σ H fun J H1 => ForW g t ⟨nx, rt, bk, ct⟩ J σ H1) := ⟨id⟩
instance {ta : TA} {R : It → Hp → Prop} : Step (iRng1 ta σ H R) (ta σ H fun vs H1 => ∃ j : Int, vs = [.int j] ∧ -(2 ^ 62) ≤ j ∧ j < 2 ^ 62 ∧ R (Itr 0 j.toNat) H1) := ⟨id⟩
instance {ta : TA} {R : It → Hp → Prop} : Step (iRng2 ta σ H R) (ta σ H fun vs H1 => ∃ i j : Int, vs = [.int i, .int j] ∧ (-(2 ^ 62) ≤ i ∧ i < 2 ^ 62 ∧ -(2 ^ 62) ≤ j ∧ j < 2 ^ 62) ∧ R (Itr i (j - i).toNat) H1) := ⟨id⟩
instance {j : Int} {g : TG} {t : TS} {D : Ends} : Step (∃ k : Int, [V.int j] = [V.int k] ∧ -(2 ^ 62) ≤ k ∧ k < 2 ^ 62 ∧ ForW g t D (Itr 0 k.toNat) σ H) (-(2 ^ 62) ≤ j ∧ j < 2 ^ 62 ∧ ForW g t D (Itr 0 j.toNat) σ H) := ⟨fun h => s_rng1 h.1 h.2.1 h.2.2⟩
instance {i j : Int} {g : TG} {t : TS} {D : Ends} : Step (∃ a b : Int, [V.int i, V.int j] = [V.int a, V.int b] ∧ (-(2 ^ 62) ≤ a ∧ a < 2 ^ 62 ∧ -(2 ^ 62) ≤ b ∧ b < 2 ^ 62) ∧ ForW g t D (Itr a (b - a).toNat) σ H) ((-(2 ^ 62) ≤ i ∧ i < 2 ^ 62 ∧ -(2 ^ 62) ≤ j ∧ j < 2 ^ 62) ∧ ForW g t D (Itr i (j - i).toNat) σ H) := ⟨fun h => s_rng2 h.1 h.2⟩
instance {j : Int} {g : TG} {tt : TT} {vs : List Nat} : Step (∃ k : Int, [V.int j] = [V.int k] ∧ -(2 ^ 62) ≤ k ∧ k < 2 ^ 62 ∧ LcW g tt te vs σ Q (Itr 0 k.toNat) H) (-(2 ^ 62) ≤ j ∧ j < 2 ^ 62 ∧ LcW g tt te vs σ Q (Itr 0 j.toNat) H) := ⟨fun h => s_rng1c h.1 h.2.1 h.2.2⟩
instance {i j : Int} {g : TG} {tt : TT} {vs : List Nat} : Step (∃ a b : Int, [V.int i, V.int j] = [V.int a, V.int b] ∧ (-(2 ^ 62) ≤ a ∧ a < 2 ^ 62 ∧ -(2 ^ 62) ≤ b ∧ b < 2 ^ 62) ∧ LcW g tt te vs σ Q (Itr a (b - a).toNat) H) ((-(2 ^ 62) ≤ i ∧ i < 2 ^ 62 ∧ -(2 ^ 62) ≤ j ∧ j < 2 ^ 62) ∧ LcW g tt te vs σ Q (Itr i (j - i).toNat) H) := ⟨fun h => s_rng2c h.1 h.2⟩
instance {R : It → Hp → Prop} : Step (iList K te σ H R) (te σ H fun x H1 => ∃ a, x = .ref a ∧ (∃ xs, SqL K H1 a xs) ∧ R (Itl K a) H1) := ⟨id⟩
instance {R : It → Hp → Prop} : Step (iTup K te σ H R) (te σ H fun x H1 => ∃ a, x = .ref a ∧ (∃ xs, SqT K H1 a xs) ∧ R (Itt K a) H1) := ⟨id⟩
instance {wi : TI} {g : TG} {tt : TT} {vs : List Nat} : Step (tLc wi g tt te vs σ H Q) (wi σ H (LcW g tt te vs σ Q)) := ⟨id⟩
instance : Step (tYes σ H QT) (QT true H) := ⟨id⟩
instance {A B : Prop} : Step (if true = true then A else B) A := ⟨iteT⟩
instance {A B : Prop} : Step (if false = true then A else B) B := ⟨iteF⟩
instance {A B : Prop} : Step (if (!true) = true then A else B) B := ⟨iteF⟩
instance {A B : Prop} : Step (if (!false) = true then A else B) A := ⟨iteT⟩
instance {g : TG} {tt : TT} {x : Str} {i : Nat} {J : It} : Step (LcW g tt te (List.map (fun x => x.snd) [(x, i)]) σ Q J H) (LcW g tt te [i] σ Q J H) := ⟨id⟩
instance {g : TG} {tt : TT} {x y : Str} {i j : Nat} {J : It} : Step (LcW g tt te (List.map (fun x => x.snd) [(x, i), (y, j)]) σ Q J H) (LcW g tt te [i, j] σ Q J H) := ⟨id⟩
/-- which built-in class is under which -/
class Kit (a b : String) (r : outParam Bool) : Prop where
  e : kitB a b = some r
instance : Kit "NoneType" "str" false := ⟨by decide +kernel⟩
instance : Kit "NoneType" "int" false := ⟨by decide +kernel⟩
instance : Kit "NoneType" "tuple" false := ⟨by decide +kernel⟩
instance : Kit "NoneType" "list" false := ⟨by decide +kernel⟩
instance : Kit "NoneType" "bool" false := ⟨by decide +kernel⟩
instance : Kit "NoneType" "dict" false := ⟨by decide +kernel⟩
instance : Kit "bool" "str" false := ⟨by decide +kernel⟩
instance : Kit "bool" "int" true := ⟨by decide +kernel⟩
instance : Kit "bool" "tuple" false := ⟨by decide +kernel⟩
instance : Kit "bool" "list" false := ⟨by decide +kernel⟩
instance : Kit "bool" "bool" true := ⟨by decide +kernel⟩
instance : Kit "bool" "dict" false := ⟨by decide +kernel⟩
instance : Kit "int" "str" false := ⟨by decide +kernel⟩
instance : Kit "int" "int" true := ⟨by decide +kernel⟩
instance : Kit "int" "tuple" false := ⟨by decide +kernel⟩
instance : Kit "int" "list" false := ⟨by decide +kernel⟩
instance : Kit "int" "bool" false := ⟨by decide +kernel⟩
instance : Kit "int" "dict" false := ⟨by decide +kernel⟩
instance : Kit "str" "str" true := ⟨by decide +kernel⟩
instance : Kit "str" "int" false := ⟨by decide +kernel⟩
instance : Kit "str" "tuple" false := ⟨by decide +kernel⟩
instance : Kit "str" "list" false := ⟨by decide +kernel⟩
instance : Kit "str" "bool" false := ⟨by decide +kernel⟩
instance : Kit "str" "dict" false := ⟨by decide +kernel⟩
instance : Kit "tuple" "str" false := ⟨by decide +kernel⟩
instance : Kit "tuple" "int" false := ⟨by decide +kernel⟩
instance : Kit "tuple" "tuple" true := ⟨by decide +kernel⟩
instance : Kit "tuple" "list" false := ⟨by decide +kernel⟩
instance : Kit "tuple" "bool" false := ⟨by decide +kernel⟩
instance : Kit "tuple" "dict" false := ⟨by decide +kernel⟩
instance : Kit "list" "str" false := ⟨by decide +kernel⟩
instance : Kit "list" "int" false := ⟨by decide +kernel⟩
instance : Kit "list" "tuple" false := ⟨by decide +kernel⟩
instance : Kit "list" "list" true := ⟨by decide +kernel⟩
instance : Kit "list" "bool" false := ⟨by decide +kernel⟩
instance : Kit "list" "dict" false := ⟨by decide +kernel⟩
instance : Kit "dict" "str" false := ⟨by decide +kernel⟩
instance : Kit "dict" "int" false := ⟨by decide +kernel⟩
instance : Kit "dict" "tuple" false := ⟨by decide +kernel⟩
instance : Kit "dict" "list" false := ⟨by decide +kernel⟩
instance : Kit "dict" "bool" false := ⟨by decide +kernel⟩
instance : Kit "dict" "dict" true := ⟨by decide +kernel⟩
theorem s_isiT {x : V} {a b : String} {r : Bool} [k : Kit a b r] (ty : TyOf K H x (.type a)) (h : Q (.bl r) H) : rIsi K [x, .ty b] H Q := s_isi (.ty b) (.base ty) (kit_ty k.e) h
instance {b : String} {r : Bool} [k : Kit "NoneType" b r] : Step (rIsi K [.non, .ty b] H Q) (Q (.bl r) H) := ⟨s_isiT .non⟩
instance {i : Int} {b : String} {r : Bool} [k : Kit "int" b r] : Step (rIsi K [.int i, .ty b] H Q) (Q (.bl r) H) := ⟨s_isiT (.int i)⟩
instance {i : Bool} {b : String} {r : Bool} [k : Kit "bool" b r] : Step (rIsi K [.bl i, .ty b] H Q) (Q (.bl r) H) := ⟨s_isiT (.bl i)⟩
instance {i : Str} {b : String} {r : Bool} [k : Kit "str" b r] : Step (rIsi K [.str i, .ty b] H Q) (Q (.bl r) H) := ⟨s_isiT (.str i)⟩
theorem s_isiTup {p : Addr} {xs : List V} {b : String} {r : Bool} [k : Kit "tuple" b r] (e : H p = some (.tup xs)) (h : Q (.bl r) H) : rIsi K [.ref p, .ty b] H Q := s_isiT (.tup e) h
theorem s_isiLst {p : Addr} {xs : List V} {b : String} {r : Bool} [k : Kit "list" b r] (e : H p = some (.lst xs)) (h : Q (.bl r) H) : rIsi K [.ref p, .ty b] H Q := s_isiT (.lst e) h
end
end Ol

namespace Ol
open PySem PySem.Spec PyProof.Rows L2
/-! ### more rules by names -/
/-- // and % by any divisor but nought -/
def CDivA (_ j : Int) : Prop := j ≠ 0 ∧ j.natAbs.log2 < 9000
theorem op_fdivA {X : Cx} : OpR X (binaryOp .FloorDiv) (rI CDivA fun i j => .int (i.fdiv j)) := opI fun _ _ _ _ _ _ _ hc q => floordiv_int hc.1 q (.inl (PyProof.noPylong_of_log2 hc.2))
def rDivmodA : List V → Hp → VK → Prop := fun xs H Q => ∃ i j, xs = [.int i, .int j] ∧ CDivA i j ∧ ∀ p, H p = none → Q (.ref p) (upd H p (.tup [.int (i.fdiv j), .int (i.fmod j)]))
theorem call_divmodA {X : Cx} : CallR X (.builtin "divmod") rDivmodA := by
  intro pins s σ H xs us Q I r h
  obtain ⟨i, j, rfl, ⟨h1, h2⟩, q⟩ := h
  have hn : H s.heap.objs.size = none := I.hok.fresh (Nat.le_refl _)
  cases r with
  | cons r1 r2 =>
    cases r2 with
    | cons r2 r3 =>
      cases r3
      obtain ⟨t, rfl⟩ := r1
      obtain ⟨t', rfl⟩ := r2
      refine divmod_int h1 ?_ (.inl (PyProof.noPylong_of_log2 h2))
      refine ⟨.ref s.heap.objs.size, _, ?_, rfl, q _ hn⟩
      refine I.laid (fun b o e => Heap.get?_push_of_some _ e) (Nat.le_refl _) ⟨by simp only [List.length_cons, List.length_nil]; rw [sizeLine_eq]; decide, [.int (i.fdiv j) s.toks, .int (i.fmod j) (s.toks + 1)], .cons ⟨_, rfl⟩ (.cons ⟨_, rfl⟩ .nil), ?_⟩
      exact ⟨_, Heap.get?_push_size s.heap rfl, rfl, 0, rfl⟩
/-- a text times a number -/
def repS (x : Str) (n : Nat) : Str := ⟨(List.replicate n x.cps).foldl (· ++ ·) #[]⟩
theorem rep_size (a : Array Nat) : ∀ (n : Nat) (b : Array Nat), ((List.replicate n a).foldl (· ++ ·) b).size = b.size + n * a.size
  | 0, b => by simp
  | n + 1, b => by
    rw [List.replicate_succ, List.foldl_cons, rep_size a n, Array.size_append, Nat.succ_mul]
    omega
theorem repS_len (z : Str) (n : Nat) : (repS z n).length = n * z.length := by
  have h := rep_size z.cps n #[]
  show ((List.replicate n z.cps).foldl (· ++ ·) #[]).size = n * z.cps.size
  rw [h]
  simp
def rMulS : R2 := fun x y H Q => ∃ z n, x = .str z ∧ y = .int n ∧ 2 ≤ n ∧ 0 < z.length ∧ z.length * n.toNat ≤ 1000000 ∧ Q (.str (repS z n.toNat)) H
theorem op_mulS {X : Cx} : OpR X (binaryOp .Mult) rMulS := by
  intro pins s σ H x y v u Q I rx ry h
  obtain ⟨z, n, rfl, rfl, h2, hz, hl, q⟩ := h
  obtain ⟨t, rfl⟩ := rx
  obtain ⟨t2, rfl⟩ := ry
  have hn : n ≤ 1000000 := by
    have h3 : 1 * n.toNat ≤ z.length * n.toNat := Nat.mul_le_mul_right _ hz
    omega
  have hm : (z.length : Int) ≤ 1000000 := by
    have h3 : z.length * 1 ≤ z.length * n.toNat := Nat.mul_le_mul_left _ (by omega)
    omega
  refine PySem.P.mul_str (by
      have a1 : ¬ n < -(2 ^ 63 : Int) := by omega
      have a2 : ¬ n ≥ (2 ^ 63 : Int) := by omega
      rw [decide_eq_false a1, decide_eq_false a2]; rfl) (fun _ _ => ?_) (fun _ _ => ?_) ?_
  · have h5 : (2 ^ 63 - 1 : Int) / n ≥ 1000001 := by
      refine (Int.le_ediv_iff_mul_le (by omega)).mpr ?_
      omega
    omega
  · have h6 : ¬ z.length * n.toNat > 16777216 := by omega
    exact decide_eq_false (show ¬ z.length * n.toNat > sizeLine by rw [sizeLine_eq]; omega)
  · rw [if_neg (show ¬ n < 1 by omega), if_neg (by
      have h7 : (n == 1) = false := by
        rw [beq_eq_false_iff_ne]; omega
      have h8 : (z.length == 0) = false := by
        rw [beq_eq_false_iff_ne]; omega
      rw [h7, h8]; exact Bool.false_ne_true)]
    refine ⟨?_, .str _, H, I.tok _, ⟨_, rfl⟩, q⟩
    have h9 := repS_len z n.toNat
    rw [Nat.mul_comm] at h9
    show (repS z n.toNat).length ≤ 16777216
    omega
def rMulU : R2 := rOr (rI CMulW fun i j => .int (i * j)) (rOr rMulS rRep)
theorem op_mulU {X : Cx} : OpR X (binaryOp .Mult) rMulU := op_or2 op_mulW (op_or2 op_mulS op_rep)
def rStrU : List V → Hp → VK → Prop := fun xs H Q => rStrI xs H Q ∨ ∃ a, xs = [.str a] ∧ Q (.str a) H
theorem call_strU {X : Cx} : CallR X (.type "str") rStrU := call_or2 call_strI SkE.call_str_str
def rIntU : List V → Hp → VK → Prop := fun xs H Q => ((∃ i, xs = [.int i] ∧ Q (.int i) H) ∨ ∃ k, xs = [.bl k] ∧ Q (.int (if k then 1 else 0)) H) ∨ ∃ a n, xs = [.str a] ∧ PySem.intText? a = some n ∧ a.length ≤ 640 ∧ Q (.int n) H
theorem call_intU {X : Cx} : CallR X (.type "int") rIntU := call_or2 call_int1 call_int_str
def rMax2 : List V → Hp → VK → Prop := fun xs H Q => ∃ i j, xs = [.int i, .int j] ∧ Q (.int (if j > i then j else i)) H
def rMin2 : List V → Hp → VK → Prop := fun xs H Q => ∃ i j, xs = [.int i, .int j] ∧ Q (.int (if j < i then j else i)) H
theorem call_maxP {X : Cx} (hc : X.calm = true := by rfl) : CallR X (.builtin "max") rMax2 := call_max2 hc
theorem call_minP {X : Cx} (hc : X.calm = true := by rfl) : CallR X (.builtin "min") rMin2 := call_min2 hc
theorem call_maxL {X : Cx} {K : PySem.W.Frag} (hc : X.calm = true := by rfl) (hK : X.K = K := by rfl) : CallR X (.builtin "max") (rMax K) := hK ▸ cr_max hc
theorem call_minL {X : Cx} {K : PySem.W.Frag} (hc : X.calm = true := by rfl) (hK : X.K = K := by rfl) : CallR X (.builtin "min") (rMin K) := hK ▸ cr_min hc
theorem call_sumL {X : Cx} {K : PySem.W.Frag} (hc : X.calm = true := by rfl) (hK : X.K = K := by rfl) : CallR X (.builtin "sum") (rSum K) := hK ▸ cr_sum hc
theorem call_sortedL {X : Cx} {K : PySem.W.Frag} (hK : X.K = K := by rfl) : CallR X (.builtin "sorted") (rSortedI K) := hK ▸ cr_sortedI
def rListOf (K : PySem.W.Frag) : List V → Hp → VK → Prop := fun xs H Q => ∃ p ys, xs = [.ref p] ∧ (SqL K H p ys ∨ SqT K H p ys) ∧ ∀ l, H l = none → Q (.ref l) (upd H l (.lst ys))
theorem call_listL {X : Cx} {K : PySem.W.Frag} (hK : X.K = K := by rfl) : CallR X (.type "list") (rListOf K) := hK ▸ call_list_of
def rLtU : R2 := rOr (rI0 fun i j => .bl (decide (i < j))) fun x y H Q => ∃ i j, x = .str i ∧ y = .str j ∧ Q (.bl (decide (i.cps.toList < j.cps.toList))) H
theorem op_ltU {X : Cx} : OpR X (compareOp .Lt) rLtU := op_or2 op_lt op_lt_str
section
variable {K : PySem.W.Frag} {σ : L2.St} {H H' : Hp} {Q : VK}
instance {i j : Int} : Step (rMulU (.int i) (.int j) H Q) (CMulW i j ∧ Q (.int (i * j)) H) := ⟨fun h => .inl ⟨i, j, rfl, rfl, h.1, h.2⟩⟩
instance {z : Str} {n : Int} : Step (rMulU (.str z) (.int n) H Q) ((2 ≤ n ∧ 0 < z.length ∧ z.length * n.toNat ≤ 1000000) ∧ Q (.str (repS z n.toNat)) H) := ⟨fun h => .inr (.inl ⟨z, n, rfl, rfl, h.1.1, h.1.2.1, h.1.2.2, h.2⟩)⟩
theorem s_mulL {p : Addr} {xs : List V} {k : Int} (h : H p = some (.lst xs)) (e : -(2 ^ 63) ≤ k ∧ k < 2 ^ 63 ∧ xs.length * k.toNat ≤ sizeLine) (q : ∀ p, H p = none → Q (.ref p) (upd H p (.lst (List.replicate k.toNat xs).flatten))) : rMulU (.ref p) (.int k) H Q :=
  .inr (.inr ⟨p, k, xs, rfl, rfl, h, e.1, e.2.1, e.2.2, q⟩)
instance {i : Int} : Step (rStrU [.int i] H Q) (i.natAbs.log2 < 1920 ∧ Q (.str (toString i)) H) := ⟨fun h => .inl (s_strI h.1 h.2)⟩
instance {z : Str} : Step (rStrU [.str z] H Q) (Q (.str z) H) := ⟨fun h => .inr ⟨z, rfl, h⟩⟩
instance {i : Int} : Step (rIntU [.int i] H Q) (Q (.int i) H) := ⟨fun h => .inl (.inl ⟨i, rfl, h⟩)⟩
instance {k : Bool} : Step (rIntU [.bl k] H Q) (Q (.int (if k then 1 else 0)) H) := ⟨fun h => .inl (.inr ⟨k, rfl, h⟩)⟩
theorem s_intS {a : Str} {n : Int} (e : PySem.intText? a = some n) (l : a.length ≤ 640) (h : Q (.int n) H) : rIntU [.str a] H Q := .inr ⟨a, n, rfl, e, l, h⟩
instance {i j : Int} : Step (rDivmodA [.int i, .int j] H Q) (CDivA i j ∧ ∀ p, H p = none → Q (.ref p) (upd H p (.tup [.int (i.fdiv j), .int (i.fmod j)]))) := ⟨fun h => ⟨i, j, rfl, h.1, h.2⟩⟩
instance {i j : Int} : Step (rMax2 [.int i, .int j] H Q) (Q (.int (if j > i then j else i)) H) := ⟨fun h => ⟨i, j, rfl, h⟩⟩
instance {i j : Int} : Step (rMin2 [.int i, .int j] H Q) (Q (.int (if j < i then j else i)) H) := ⟨fun h => ⟨i, j, rfl, h⟩⟩
instance {i j : Int} : Step (rLtU (.int i) (.int j) H Q) (Q (.bl (decide (i < j))) H) := ⟨fun h => .inl ⟨i, j, rfl, rfl, h⟩⟩
instance {i j : Str} : Step (rLtU (.str i) (.str j) H Q) (Q (.bl (decide (i.cps.toList < j.cps.toList))) H) := ⟨fun h => .inr ⟨i, j, rfl, rfl, h⟩⟩
theorem s_listL {p : Addr} {xs : List V} (h : SqL K H p xs) (q : ∀ l, H l = none → Q (.ref l) (upd H l (.lst xs))) : rListOf K [.ref p] H Q := ⟨p, xs, rfl, .inl h, q⟩
theorem s_listT {p : Addr} {xs : List V} (h : SqT K H p xs) (q : ∀ l, H l = none → Q (.ref l) (upd H l (.lst xs))) : rListOf K [.ref p] H Q := ⟨p, xs, rfl, .inr h, q⟩
theorem s_sumL {p : Addr} {ns : List Int} (h : SqL K H p (ns.map V.int)) (q : Q (.int ns.sum) H) : rSum K [.ref p] H Q := ⟨p, ns, rfl, h, q⟩
theorem s_sortedL {p : Addr} {ns : List Int} (h : SqL K H p (ns.map V.int)) (q : ∀ (ns' : List Int) (p : Addr), ns'.Perm ns → ns'.Pairwise (· ≤ ·) → H p = none → Q (.ref p) (upd H p (.lst (ns'.map V.int)))) : rSortedI K [.ref p] H Q := ⟨p, ns, rfl, h, q⟩
theorem s_minL {p : Addr} {ns : List Int} (h : SqL K H p (ns.map V.int)) (l : 0 < ns.length) (q : ∀ m, m ∈ ns → (∀ y, y ∈ ns → m ≤ y) → Q (.int m) H) : rMin K [.ref p] H Q := ⟨p, ns, rfl, h, l, q⟩
theorem s_maxL {p : Addr} {ns : List Int} (h : SqL K H p (ns.map V.int)) (l : 0 < ns.length) (q : ∀ m, m ∈ ns → (∀ y, y ∈ ns → y ≤ m) → Q (.int m) H) : rMax K [.ref p] H Q := ⟨p, ns, rfl, h, l, q⟩
/-! slices -/
instance {r : V → Option Int → Option Int → Hp → VK → Prop} {te : TE} {tl th : TO} : Step (tSl r te tl th σ H Q) (te σ H fun x H1 => tl σ H1 fun l H2 => th σ H2 fun u H3 => r x l u H3 Q) := ⟨id⟩
instance {R : Option Int → Hp → Prop} : Step (tNoPart σ H R) (R none H) := ⟨id⟩
instance {t : TE} {R : Option Int → Hp → Prop} : Step (tPart t σ H R) (t σ H fun x H1 => ∃ i, x = .int i ∧ R (some i) H1) := ⟨id⟩
instance {i : Int} {F : Int → Prop} : Step (∃ j, V.int i = .int j ∧ F j) (F i) := ⟨fun h => ⟨i, rfl, h⟩⟩
instance {z : Str} {lo hi : Option Int} : Step (rSlS (.str z) lo hi H Q) (z.length ≤ sizeLine ∧ Q (.str (cutS z lo hi)) H) := ⟨fun h => ⟨z, rfl, h.1, h.2⟩⟩
theorem s_slL {p : Addr} {xs : List V} {lo hi : Option Int} (h : SqL K H p xs) (q : ∀ p, H p = none → Q (.ref p) (upd H p (.lst (cutV xs lo hi)))) : rSlL K (.ref p) lo hi H Q := ⟨p, xs, rfl, h, q⟩
/-! truth -/
instance {b : Bool} {F : Bool → Prop} : Step (∃ k, TruV K (.bl b) H k ∧ F k) (F b) := ⟨fun h => ⟨b, rfl, h⟩⟩
instance {F : Bool → Prop} : Step (∃ k, TruV K .non H k ∧ F k) (F false) := ⟨fun h => ⟨false, rfl, h⟩⟩
/-! in, not in -/
theorem s_inL {neg : Bool} {p : Addr} {xs : List V} {x : V} (h : SqL K H p xs) (hx : flatV x = true) (ha : xs.all flatV = true) (q : Q (.bl (if neg then !inV x xs else inV x xs)) H) : rIn K neg x (.ref p) H Q := ⟨p, xs, rfl, .inl h, hx, ha, q⟩
theorem s_inT {neg : Bool} {p : Addr} {xs : List V} {x : V} (h : SqT K H p xs) (hx : flatV x = true) (ha : xs.all flatV = true) (q : Q (.bl (if neg then !inV x xs else inV x xs)) H) : rIn K neg x (.ref p) H Q := ⟨p, xs, rfl, .inr h, hx, ha, q⟩
/-! what kind a sequence is, wherever it stands -/
theorem ty_sqT {p : Addr} {xs : List V} (h : SqT K H p xs) : TyX K H (.ref p) (.type "tuple") := by
  rcases h with (h | ⟨o, h⟩) | ⟨o, _, _, h, c, _⟩
  · exact .base (.tup h)
  · exact .fTuple h
  · exact .kTuple h c
theorem ty_sqL {p : Addr} {xs : List V} (h : SqL K H p xs) : TyX K H (.ref p) (.type "list") := by
  rcases h with (h | ⟨o, h⟩) | ⟨o, _, _, h, c, _⟩
  · exact .base (.lst h)
  · exact .base (.frz h)
  · exact .kList h c
theorem s_isiSqT {p : Addr} {xs : List V} {b : String} {r : Bool} [k : Kit "tuple" b r] (e : SqT K H p xs) (h : Q (.bl r) H) : rIsi K [.ref p, .ty b] H Q := s_isi (.ty b) (ty_sqT e) (kit_ty k.e) h
theorem s_isiSqL {p : Addr} {xs : List V} {b : String} {r : Bool} [k : Kit "list" b r] (e : SqL K H p xs) (h : Q (.bl r) H) : rIsi K [.ref p, .ty b] H Q := s_isi (.ty b) (ty_sqL e) (kit_ty k.e) h
/-! ### exceptions -/
end
end Ol

namespace Ol
open PySem PySem.Spec PyProof.Rows L2
/-! ### the text by places -/
def top (i : Nat) : Stmt := PySem.Challenge.pw_onelook_k79_told_by_tallies.main.body.getD i (.Pass ⟨0, 0, 0, 0⟩)
abbrev s_fault : Stmt := top 2
abbrev N_fault : List Str := ["word"]
theorem st_fault (a0 : V) : L2.start N_fault [a0] = [some a0] := rfl
theorem sc_fault : FnScope N_fault ["word"] (defScope s_fault) := ⟨rfl, rfl, rfl, by decide +kernel, rfl, by decide +kernel, by decide +kernel⟩
abbrev s_is_fault : Stmt := top 3
abbrev N_is_fault : List Str := ["worth"]
theorem st_is_fault (a0 : V) : L2.start N_is_fault [a0] = [some a0] := rfl
theorem sc_is_fault : FnScope N_is_fault ["worth"] (defScope s_is_fault) := ⟨rfl, rfl, rfl, by decide +kernel, rfl, by decide +kernel, by decide +kernel⟩
abbrev s_is_text : Stmt := top 4
abbrev N_is_text : List Str := ["worth"]
theorem st_is_text (a0 : V) : L2.start N_is_text [a0] = [some a0] := rfl
theorem sc_is_text : FnScope N_is_text ["worth"] (defScope s_is_text) := ⟨rfl, rfl, rfl, by decide +kernel, rfl, by decide +kernel, by decide +kernel⟩
abbrev s_held_number : Stmt := top 5
abbrev N_held_number : List Str := ["number"]
theorem st_held_number (a0 : V) : L2.start N_held_number [a0] = [some a0] := rfl
theorem sc_held_number : FnScope N_held_number ["number"] (defScope s_held_number) := ⟨rfl, rfl, rfl, by decide +kernel, rfl, by decide +kernel, by decide +kernel⟩
abbrev s_gathered : Stmt := top 6
abbrev N_gathered : List Str := ["word", "worths", "numbers", "worth"]
theorem st_gathered (a0 a1 : V) : L2.start N_gathered [a0, a1] = [some a0, some a1, none, none] := rfl
theorem sc_gathered : FnScope N_gathered ["word", "worths"] (defScope s_gathered) := ⟨rfl, rfl, rfl, by decide +kernel, rfl, by decide +kernel, by decide +kernel⟩
abbrev s_told_by : Stmt := top 9
abbrev N_told_by : List Str := ["word", "tally"]
theorem st_told_by (a0 a1 : V) : L2.start N_told_by [a0, a1] = [some a0, some a1] := rfl
theorem sc_told_by : FnScope N_told_by ["word", "tally"] (defScope s_told_by) := ⟨rfl, rfl, rfl, by decide +kernel, rfl, by decide +kernel, by decide +kernel⟩
abbrev s__law_cell_at : Stmt := top 11
abbrev N__law_cell_at : List Str := ["script", "k"]
theorem st__law_cell_at (a0 a1 : V) : L2.start N__law_cell_at [a0, a1] = [some a0, some a1] := rfl
theorem sc__law_cell_at : FnScope N__law_cell_at ["script", "k"] (defScope s__law_cell_at) := ⟨rfl, rfl, rfl, by decide +kernel, rfl, by decide +kernel, by decide +kernel⟩
abbrev s__law_mixed : Stmt := top 12
abbrev N__law_mixed : List Str := ["cell", "k", "stir"]
theorem st__law_mixed (a0 a1 : V) : L2.start N__law_mixed [a0, a1] = [some a0, some a1, none] := rfl
theorem sc__law_mixed : FnScope N__law_mixed ["cell", "k"] (defScope s__law_mixed) := ⟨rfl, rfl, rfl, by decide +kernel, rfl, by decide +kernel, by decide +kernel⟩
abbrev s__law_digit : Stmt := top 13
abbrev N__law_digit : List Str := ["row", "many", "digit"]
theorem st__law_digit (a0 a1 : V) : L2.start N__law_digit [a0, a1] = [some a0, some a1, none] := rfl
theorem sc__law_digit : FnScope N__law_digit ["row", "many"] (defScope s__law_digit) := ⟨rfl, rfl, rfl, by decide +kernel, rfl, by decide +kernel, by decide +kernel⟩
abbrev s__law_worth : Stmt := top 14
abbrev N__law_worth : List Str := ["row", "way"]
theorem st__law_worth (a0 : V) : L2.start N__law_worth [a0] = [some a0, none] := rfl
theorem sc__law_worth : FnScope N__law_worth ["row"] (defScope s__law_worth) := ⟨rfl, rfl, rfl, by decide +kernel, rfl, by decide +kernel, by decide +kernel⟩
abbrev s__law_row_of : Stmt := top 15
abbrev N__law_row_of : List Str := ["script", "k", "cell", "found", "j"]
theorem st__law_row_of (a0 a1 : V) : L2.start N__law_row_of [a0, a1] = [some a0, some a1, none, none, none] := rfl
theorem sc__law_row_of : FnScope N__law_row_of ["script", "k"] (defScope s__law_row_of) := ⟨rfl, rfl, rfl, by decide +kernel, rfl, by decide +kernel, by decide +kernel⟩
abbrev s__law_worths : Stmt := top 16
abbrev N__law_worths : List Str := ["script", "many", "faults", "found", "k", "worth"]
theorem st__law_worths (a0 a1 a2 : V) : L2.start N__law_worths [a0, a1, a2] = [some a0, some a1, some a2, none, none, none] := rfl
theorem sc__law_worths : FnScope N__law_worths ["script", "many", "faults"] (defScope s__law_worths) := ⟨rfl, rfl, rfl, by decide +kernel, rfl, by decide +kernel, by decide +kernel⟩
abbrev s__law_tally : Stmt := top 17
abbrev N__law_tally : List Str := ["worths", "numbers", "first", "worth"]
theorem st__law_tally (a0 : V) : L2.start N__law_tally [a0] = [some a0, none, none, none] := rfl
theorem sc__law_tally : FnScope N__law_tally ["worths"] (defScope s__law_tally) := ⟨rfl, rfl, rfl, by decide +kernel, rfl, by decide +kernel, by decide +kernel⟩
abbrev s__law_at_bounds : Stmt := top 18
abbrev N__law_at_bounds : List Str := ["turn", "more", "numbers", "total", "tally", "found", "due"]
theorem st__law_at_bounds : L2.start N__law_at_bounds [] = [none, none, none, none, none, none, none] := rfl
theorem sc__law_at_bounds : FnScope N__law_at_bounds [] (defScope s__law_at_bounds) := ⟨rfl, rfl, rfl, by decide +kernel, rfl, by decide +kernel, by decide +kernel⟩
abbrev s_law : Stmt := top 19
abbrev N_law : List Str := ["script", "worths", "cuts", "at", "low", "some", "tally", "word", "found", "empty", "k"]
theorem st_law (a0 : V) : L2.start N_law [a0] = [some a0, none, none, none, none, none, none, none, none, none, none] := rfl
theorem sc_law : FnScope N_law ["script"] (defScope s_law) := ⟨rfl, rfl, rfl, by decide +kernel, rfl, by decide +kernel, by decide +kernel⟩
@[simp] theorem ll_0 : (Str.ofString "fault").length = 5 := by decide +kernel
@[simp] theorem ll_1 : (Str.ofString "great").length = 5 := by decide +kernel
@[simp] theorem ll_2 : (Str.ofString "sum").length = 3 := by decide +kernel
@[simp] theorem ll_3 : (Str.ofString "count").length = 5 := by decide +kernel
@[simp] theorem ll_4 : (Str.ofString "least").length = 5 := by decide +kernel
@[simp] theorem ll_5 : (Str.ofString "none").length = 4 := by decide +kernel
@[simp] theorem ll_6 : (Str.ofString "").length = 0 := by decide +kernel
@[simp] theorem ll_7 : (Str.ofString "a").length = 1 := by decide +kernel
@[simp] theorem ll_8 : (Str.ofString "b7").length = 2 := by decide +kernel
@[simp] theorem ll_9 : (Str.ofString "7").length = 1 := by decide +kernel
@[simp] theorem ll_10 : (Str.ofString "kind").length = 4 := by decide +kernel
@[simp] theorem ll_11 : (Str.ofString "nought").length = 6 := by decide +kernel
@[simp] theorem ll_12 : (Str.ofString "lost").length = 4 := by decide +kernel
@[simp] theorem ll_13 : (Str.ofString "greatest").length = 8 := by decide +kernel
/-! ### the facts of the top -/
def d_fault : He.DefD := ⟨("fault", none), "fault", "fault", defArgs s_fault, defBody s_fault, defScope s_fault, [], []⟩
def d_is_fault : He.DefD := ⟨("is_fault", none), "is_fault", "is_fault", defArgs s_is_fault, defBody s_is_fault, defScope s_is_fault, [], []⟩
def d_is_text : He.DefD := ⟨("is_text", none), "is_text", "is_text", defArgs s_is_text, defBody s_is_text, defScope s_is_text, [], []⟩
def d_held_number : He.DefD := ⟨("held_number", none), "held_number", "held_number", defArgs s_held_number, defBody s_held_number, defScope s_held_number, [], []⟩
def d_gathered : He.DefD := ⟨("gathered", none), "gathered", "gathered", defArgs s_gathered, defBody s_gathered, defScope s_gathered, [], []⟩
def d_told_by : He.DefD := ⟨("told_by", none), "told_by", "told_by", defArgs s_told_by, defBody s_told_by, defScope s_told_by, [], []⟩
def d__law_cell_at : He.DefD := ⟨("_law_cell_at", none), "_law_cell_at", "_law_cell_at", defArgs s__law_cell_at, defBody s__law_cell_at, defScope s__law_cell_at, [], []⟩
def d__law_mixed : He.DefD := ⟨("_law_mixed", none), "_law_mixed", "_law_mixed", defArgs s__law_mixed, defBody s__law_mixed, defScope s__law_mixed, [], []⟩
def d__law_digit : He.DefD := ⟨("_law_digit", none), "_law_digit", "_law_digit", defArgs s__law_digit, defBody s__law_digit, defScope s__law_digit, [], []⟩
def d__law_worth : He.DefD := ⟨("_law_worth", none), "_law_worth", "_law_worth", defArgs s__law_worth, defBody s__law_worth, defScope s__law_worth, [], []⟩
def d__law_row_of : He.DefD := ⟨("_law_row_of", none), "_law_row_of", "_law_row_of", defArgs s__law_row_of, defBody s__law_row_of, defScope s__law_row_of, [], []⟩
def d__law_worths : He.DefD := ⟨("_law_worths", none), "_law_worths", "_law_worths", defArgs s__law_worths, defBody s__law_worths, defScope s__law_worths, [], []⟩
def d__law_tally : He.DefD := ⟨("_law_tally", none), "_law_tally", "_law_tally", defArgs s__law_tally, defBody s__law_tally, defScope s__law_tally, [], []⟩
def d__law_at_bounds : He.DefD := ⟨("_law_at_bounds", none), "_law_at_bounds", "_law_at_bounds", defArgs s__law_at_bounds, defBody s__law_at_bounds, defScope s__law_at_bounds, [], []⟩
def d_law : He.DefD := ⟨("law", none), "law", "law", defArgs s_law, defBody s_law, defScope s_law, [], []⟩
def fn : List He.DefD := [d_fault, d_is_fault, d_is_text, d_held_number, d_gathered, d_told_by, d__law_cell_at, d__law_mixed, d__law_digit, d__law_worth, d__law_row_of, d__law_worths, d__law_tally, d__law_at_bounds, d_law]
def fa0 : List He.Fa := [.glo "fault", .glo "is_fault", .glo "is_text", .glo "held_number", .glo "gathered", .glo "told_by", .glo "_law_cell_at", .glo "_law_mixed", .glo "_law_digit", .glo "_law_worth", .glo "_law_row_of", .glo "_law_worths", .glo "_law_tally", .glo "_law_at_bounds", .glo "law", .free "abs", .free "bool", .free "int", .free "isinstance", .free "len", .free "max", .free "min", .free "range", .free "sorted", .free "str", .free "sum", .free "tuple", .int "MOST_NUMBER_worths" (1000000000000000000000000000000000000000000000000000000000000), .int "MOST_NUMBER_halves" (1000000000000000000000000000000000000000000000000000000000000)]
def fa : List He.Fa := fa0
def exs0 : List (PySem.W.Frag → Bool) := []
def exs : List (PySem.W.Frag → Bool) := exs0
def ex (K : PySem.W.Frag) : Bool := exs.all fun f => f K
theorem ex_at {K : PySem.W.Frag} {f : PySem.W.Frag → Bool} (h : ex K = true) (i : Nat) (e : exs[i]? = some f) : f K = true := List.all_eq_true.mp h f (List.mem_of_getElem? e)
structure Txt (K : PySem.W.Frag) (mg : Str → Option Value) : Prop where
  g_fault : mg "fault" = some (.ref (He.ga K "fault"))
  f_fault : ∃ fd, FunD K "fault" "fault" (defArgs s_fault) (defBody s_fault) (defScope s_fault) [] [] (He.ga K "fault") fd
  g_is_fault : mg "is_fault" = some (.ref (He.ga K "is_fault"))
  f_is_fault : ∃ fd, FunD K "is_fault" "is_fault" (defArgs s_is_fault) (defBody s_is_fault) (defScope s_is_fault) [] [] (He.ga K "is_fault") fd
  g_is_text : mg "is_text" = some (.ref (He.ga K "is_text"))
  f_is_text : ∃ fd, FunD K "is_text" "is_text" (defArgs s_is_text) (defBody s_is_text) (defScope s_is_text) [] [] (He.ga K "is_text") fd
  g_held_number : mg "held_number" = some (.ref (He.ga K "held_number"))
  f_held_number : ∃ fd, FunD K "held_number" "held_number" (defArgs s_held_number) (defBody s_held_number) (defScope s_held_number) [] [] (He.ga K "held_number") fd
  g_gathered : mg "gathered" = some (.ref (He.ga K "gathered"))
  f_gathered : ∃ fd, FunD K "gathered" "gathered" (defArgs s_gathered) (defBody s_gathered) (defScope s_gathered) [] [] (He.ga K "gathered") fd
  g_told_by : mg "told_by" = some (.ref (He.ga K "told_by"))
  f_told_by : ∃ fd, FunD K "told_by" "told_by" (defArgs s_told_by) (defBody s_told_by) (defScope s_told_by) [] [] (He.ga K "told_by") fd
  g__law_cell_at : mg "_law_cell_at" = some (.ref (He.ga K "_law_cell_at"))
  f__law_cell_at : ∃ fd, FunD K "_law_cell_at" "_law_cell_at" (defArgs s__law_cell_at) (defBody s__law_cell_at) (defScope s__law_cell_at) [] [] (He.ga K "_law_cell_at") fd
  g__law_mixed : mg "_law_mixed" = some (.ref (He.ga K "_law_mixed"))
  f__law_mixed : ∃ fd, FunD K "_law_mixed" "_law_mixed" (defArgs s__law_mixed) (defBody s__law_mixed) (defScope s__law_mixed) [] [] (He.ga K "_law_mixed") fd
  g__law_digit : mg "_law_digit" = some (.ref (He.ga K "_law_digit"))
  f__law_digit : ∃ fd, FunD K "_law_digit" "_law_digit" (defArgs s__law_digit) (defBody s__law_digit) (defScope s__law_digit) [] [] (He.ga K "_law_digit") fd
  g__law_worth : mg "_law_worth" = some (.ref (He.ga K "_law_worth"))
  f__law_worth : ∃ fd, FunD K "_law_worth" "_law_worth" (defArgs s__law_worth) (defBody s__law_worth) (defScope s__law_worth) [] [] (He.ga K "_law_worth") fd
  g__law_row_of : mg "_law_row_of" = some (.ref (He.ga K "_law_row_of"))
  f__law_row_of : ∃ fd, FunD K "_law_row_of" "_law_row_of" (defArgs s__law_row_of) (defBody s__law_row_of) (defScope s__law_row_of) [] [] (He.ga K "_law_row_of") fd
  g__law_worths : mg "_law_worths" = some (.ref (He.ga K "_law_worths"))
  f__law_worths : ∃ fd, FunD K "_law_worths" "_law_worths" (defArgs s__law_worths) (defBody s__law_worths) (defScope s__law_worths) [] [] (He.ga K "_law_worths") fd
  g__law_tally : mg "_law_tally" = some (.ref (He.ga K "_law_tally"))
  f__law_tally : ∃ fd, FunD K "_law_tally" "_law_tally" (defArgs s__law_tally) (defBody s__law_tally) (defScope s__law_tally) [] [] (He.ga K "_law_tally") fd
  g__law_at_bounds : mg "_law_at_bounds" = some (.ref (He.ga K "_law_at_bounds"))
  f__law_at_bounds : ∃ fd, FunD K "_law_at_bounds" "_law_at_bounds" (defArgs s__law_at_bounds) (defBody s__law_at_bounds) (defScope s__law_at_bounds) [] [] (He.ga K "_law_at_bounds") fd
  g_law : mg "law" = some (.ref (He.ga K "law"))
  f_law : ∃ fd, FunD K "law" "law" (defArgs s_law) (defBody s_law) (defScope s_law) [] [] (He.ga K "law") fd
  n_abs : mg "abs" = none
  n_bool : mg "bool" = none
  n_int : mg "int" = none
  n_isinstance : mg "isinstance" = none
  n_len : mg "len" = none
  n_max : mg "max" = none
  n_min : mg "min" = none
  n_range : mg "range" = none
  n_sorted : mg "sorted" = none
  n_str : mg "str" = none
  n_sum : mg "sum" = none
  n_tuple : mg "tuple" = none
  c_MOST_NUMBER_worths : GCon K mg "MOST_NUMBER_worths" (.int (1000000000000000000000000000000000000000000000000000000000000))
  c_MOST_NUMBER_halves : GCon K mg "MOST_NUMBER_halves" (.int (1000000000000000000000000000000000000000000000000000000000000))
theorem txt {w : World} {K : PySem.W.Frag} {h h1 : Heap} {mg : Str → Option Value} (X : K.In h) (G : h.Ns mainGlobals mg) (c : He.SaysX fa fn [] [] ex w h1 K) : Txt K mg :=
  ⟨He.glo_ok X G (c.t.d.fact 0 (f := .glo "fault") rfl),
   c.t.d.def_ 0 (d := d_fault) rfl,
   He.glo_ok X G (c.t.d.fact 1 (f := .glo "is_fault") rfl),
   c.t.d.def_ 1 (d := d_is_fault) rfl,
   He.glo_ok X G (c.t.d.fact 2 (f := .glo "is_text") rfl),
   c.t.d.def_ 2 (d := d_is_text) rfl,
   He.glo_ok X G (c.t.d.fact 3 (f := .glo "held_number") rfl),
   c.t.d.def_ 3 (d := d_held_number) rfl,
   He.glo_ok X G (c.t.d.fact 4 (f := .glo "gathered") rfl),
   c.t.d.def_ 4 (d := d_gathered) rfl,
   He.glo_ok X G (c.t.d.fact 5 (f := .glo "told_by") rfl),
   c.t.d.def_ 5 (d := d_told_by) rfl,
   He.glo_ok X G (c.t.d.fact 6 (f := .glo "_law_cell_at") rfl),
   c.t.d.def_ 6 (d := d__law_cell_at) rfl,
   He.glo_ok X G (c.t.d.fact 7 (f := .glo "_law_mixed") rfl),
   c.t.d.def_ 7 (d := d__law_mixed) rfl,
   He.glo_ok X G (c.t.d.fact 8 (f := .glo "_law_digit") rfl),
   c.t.d.def_ 8 (d := d__law_digit) rfl,
   He.glo_ok X G (c.t.d.fact 9 (f := .glo "_law_worth") rfl),
   c.t.d.def_ 9 (d := d__law_worth) rfl,
   He.glo_ok X G (c.t.d.fact 10 (f := .glo "_law_row_of") rfl),
   c.t.d.def_ 10 (d := d__law_row_of) rfl,
   He.glo_ok X G (c.t.d.fact 11 (f := .glo "_law_worths") rfl),
   c.t.d.def_ 11 (d := d__law_worths) rfl,
   He.glo_ok X G (c.t.d.fact 12 (f := .glo "_law_tally") rfl),
   c.t.d.def_ 12 (d := d__law_tally) rfl,
   He.glo_ok X G (c.t.d.fact 13 (f := .glo "_law_at_bounds") rfl),
   c.t.d.def_ 13 (d := d__law_at_bounds) rfl,
   He.glo_ok X G (c.t.d.fact 14 (f := .glo "law") rfl),
   c.t.d.def_ 14 (d := d_law) rfl,
   He.free_ok X G (c.t.d.fact 15 (f := .free "abs") rfl),
   He.free_ok X G (c.t.d.fact 16 (f := .free "bool") rfl),
   He.free_ok X G (c.t.d.fact 17 (f := .free "int") rfl),
   He.free_ok X G (c.t.d.fact 18 (f := .free "isinstance") rfl),
   He.free_ok X G (c.t.d.fact 19 (f := .free "len") rfl),
   He.free_ok X G (c.t.d.fact 20 (f := .free "max") rfl),
   He.free_ok X G (c.t.d.fact 21 (f := .free "min") rfl),
   He.free_ok X G (c.t.d.fact 22 (f := .free "range") rfl),
   He.free_ok X G (c.t.d.fact 23 (f := .free "sorted") rfl),
   He.free_ok X G (c.t.d.fact 24 (f := .free "str") rfl),
   He.free_ok X G (c.t.d.fact 25 (f := .free "sum") rfl),
   He.free_ok X G (c.t.d.fact 26 (f := .free "tuple") rfl),
   gcon_int (He.int_ok X G (c.t.d.fact 27 (f := .int "MOST_NUMBER_worths" (1000000000000000000000000000000000000000000000000000000000000)) rfl)),
   gcon_int (He.int_ok X G (c.t.d.fact 28 (f := .int "MOST_NUMBER_halves" (1000000000000000000000000000000000000000000000000000000000000)) rfl))⟩
end Ol
/-! the steps by name -/
local macro_rules | `(tactic| walk_at "side") => `(tactic| with_unfolding_all first | with_reducible assumption | rfl | decide | omega | decide +kernel | exact Nat.le_of_ble_eq_true rfl | (refine Ol.sz_le ?_; walk_at "len") | (refine Ol.sz_lt ?_; walk_at "len") | exact ⟨by decide, by decide, by decide⟩ | (unfold L2.CMulW; decide +kernel) | exact ⟨by decide, by decide +kernel⟩)
local macro_rules | `(tactic| walk_at "len") => `(tactic| ((try simp [PySem.Str.length_append]); first | omega | decide))
local macro_rules | `(tactic| walk_at "hf") => `(tactic| first | with_unfolding_all assumption | (with_reducible show L2.upd _ _ _ _ = _; first | with_unfolding_all exact L2.upd_same | exact Ol.hf_new (by assumption) (by walk_at "hf") | exact Ol.hf_ne (by assumption) (by walk_at "hf")) | exact (by assumption : L2.Same _ _) _ _ (by walk_at "hf"))
local macro_rules | `(tactic| walk_at "sq") => `(tactic| first | with_unfolding_all assumption | (with_reducible show L2.SqL _ (L2.upd _ _ _) _ _; first | exact Ol.sl_of (by walk_at "hf") | exact L2.Same.seq (Ol.Same.new (by assumption)) (by walk_at "sq")) | (with_reducible show L2.SqL _ _ _ _; first | exact Ol.sl_of (by walk_at "hf") | exact L2.Same.seq (by assumption) (by walk_at "sq")) | (with_reducible show L2.SqT _ (L2.upd _ _ _) _ _; first | exact Ol.st_of (by walk_at "hf") | exact Ol.Same.tup (Ol.Same.new (by assumption)) (by walk_at "sq")) | (with_reducible show L2.SqT _ _ _ _; first | exact Ol.st_of (by walk_at "hf") | exact Ol.Same.tup (by assumption) (by walk_at "sq")))
local macro_rules | `(tactic| walk_at "ty") => `(tactic| with_unfolding_all first | exact L2.TyOf.non | exact L2.TyOf.int _ | exact L2.TyOf.str _ | exact L2.TyOf.bl _ | exact L2.TyOf.tup (by walk_at "hf") | exact L2.TyOf.lst (by walk_at "hf"))
local macro_rules | `(tactic| walk_at "eq") => `(tactic| with_unfolding_all first | rfl | assumption)
local macro_rules | `(tactic| walk_at "rd1") => `(tactic| with_reducible first
  | refine Ol.Step.go ?_
  | (show L2.rIx _ (L2.V.ref _) (L2.V.int _) _ _; first | refine Ol.s_ixL (by walk_at "sq") (by walk_at "eq") ?_ | refine Ol.s_ixT (by walk_at "sq") (by walk_at "eq") ?_)
  | (show Ol.rAddU _ (L2.V.ref _) (L2.V.ref _) _ _; refine Ol.s_addL (by walk_at "sq") (by walk_at "sq") (by walk_at "side") ?_)
  | (show L2.gTup _ _ _ _ _ _ _; refine Ol.s_gtup (by walk_at "sq") (by walk_at "eq") ?_)
  | (show L2.rSetL _ _ _ _ _; refine Ol.s_setL (by walk_at "hf") (by walk_at "eq") ?_)
  | (show L2.rAppend _ _ _ _; refine Ol.s_append (by walk_at "hf") (by walk_at "side") ?_)
  | (show ∃ acc, _ = some (L2.HO.lst acc) ∧ _ ∧ _; refine Ol.s_acc (by walk_at "hf") (by walk_at "side") ?_)
  | (show Ol.rLenU _ _ _ _; first | refine Ol.s_lenL (by walk_at "sq") ?_ | refine Ol.s_lenT (by walk_at "sq") ?_)
  | (show L2.rIsi _ [L2.V.ref _, _] _ _; first | refine Ol.s_isiTup (by walk_at "hf") ?_ | refine Ol.s_isiLst (by walk_at "hf") ?_ | refine Ol.s_isiSqT (by walk_at "sq") ?_ | refine Ol.s_isiSqL (by walk_at "sq") ?_)
  | (show Ol.rListOf _ _ _ _; first | refine Ol.s_listL (by walk_at "sq") ?_ | refine Ol.s_listT (by walk_at "sq") ?_)
  | (show L2.rSlL _ (L2.V.ref _) _ _ _ _; refine Ol.s_slL (by walk_at "sq") ?_)
  | (show L2.tyV _ "list" _ _ ∧ _; refine Ol.s_tyL (by walk_at "sq") ?_)
  | (show ∃ a, L2.V.ref _ = L2.V.ref a ∧ (∃ xs, _) ∧ _; first | refine Ol.s_lst1 (by walk_at "sq") ?_ | refine Ol.s_tup1 (by walk_at "sq") ?_ | refine Ol.s_lst1c (by walk_at "sq") ?_ | refine Ol.s_tup1c (by walk_at "sq") ?_)
  | (show _ ∧ _; refine And.intro (by walk_at "side") ?_)
  | (show ite (_ = true) _ _; first | refine Ol.s_yes (by decide +kernel) ?_ | refine Ol.s_no (by decide +kernel) ?_ | refine Ol.s_yes (by with_unfolding_all rfl) ?_ | refine Ol.s_no (by with_unfolding_all rfl) ?_))
local macro_rules | `(tactic| walk_at "rd") => `(tactic| repeat (walk_at "rd1"))
namespace Ol
open PySem PySem.Spec PyProof.Rows L2
section
variable {P : Program} {w : World} {K : PySem.W.Frag} {mg : Str → Option Value} {base : Heap}

def spDigit : Sp := fun vs H Q _ => ∃ p n m, vs = [.ref p, .int m] ∧ H p = some (.lst [.int n]) ∧ 0 < m ∧ m.natAbs.log2 < 9000 ∧ Q (.int (n % m)) (upd H p (.lst [.int (n / m)]))
theorem ok_digit (T : Txt K mg) : Def P w K mg base 1 "_law_digit" ["row", "many"] spDigit := by
  refine def_of T.g__law_digit T.f__law_digit sc__law_digit (fun _ _ _ _ _ _ us hl => match us, hl with | [_, _], _ => rfl) (fun vs H Q E h => ?_) (fun cdv A outer s H vs Q E hrm h => ?_)
  · obtain ⟨p, n, m, rfl, _⟩ := h
    rfl
  · obtain ⟨p, n, m, rfl, hp, h0, hm, q⟩ := h
    refine ⟨_, (pss_cons (ps_set (i := 2) sc__law_digit.nd rfl (Or.inl rfl) (pe_op op_mod (pe_ix (ix_seqK (K := K)) (pv 0) pe_int (fun _ _ => rfl)) (pv 1)))
 (pss_cons (ps_asg (pe_op op_fdivW (pe_ix (ix_seqK (K := K)) (pv 0) pe_int (fun _ _ => rfl)) (pv 1)) (pg_sub (pv 0) pe_int set_list))
 (pss_one (ps_ret (pv 2))))), ?_⟩
    rw [st__law_digit]
    try dsimp only [L2.cxOf]
    walk_at "rd"
    refine ⟨⟨h0, hm⟩, ?_⟩
    walk_at "rd"
    exact q
theorem s_digit {p : Addr} {n m : Int} {H : Hp} {Q : VK} {E : XK} (h : H p = some (.lst [.int n])) (h0 : 0 < m) (h1 : m.natAbs.log2 < 9000) (q : Q (.int (n % m)) (upd H p (.lst [.int (n / m)]))) : spDigit [.ref p, .int m] H Q E := ⟨p, n, m, rfl, h, h0, h1, q⟩
theorem log_le {y b k : Nat} (h : y ≤ b) (h0 : 0 < k) (h1 : b < 2 ^ k) : y.log2 < k := PySem.Flt.log2_lt_of h0 (Nat.lt_of_le_of_lt h h1)
theorem log_9000 {m : Int} (h : m.natAbs ≤ 10 ^ 600) : m.natAbs.log2 < 9000 := log_le h (by decide) (by decide +kernel)
theorem log_1920 {m : Int} (h : m.natAbs ≤ 10 ^ 300) : m.natAbs.log2 < 1920 := log_le h (by decide) (by decide +kernel)
theorem wide_small {i j : Int} (h1 : i.natAbs < 4294967296) (h2 : j.natAbs < 4294967296) : CMulW i j := wide_mul (a := 32) (b := 32) (by omega) (by omega) (by decide) (by decide) (by decide)
theorem wide_600 {i j : Int} (h1 : i.natAbs ≤ 10 ^ 600) (h2 : j.natAbs ≤ 10 ^ 600) : CMulW i j := wide_mul (a := 9000) (b := 9000) (Nat.lt_of_le_of_lt h1 (by decide +kernel)) (Nat.lt_of_le_of_lt h2 (by decide +kernel)) (by decide) (by decide) (by decide)

/-! the script's cells, mixed numbers -/
def spCellAt (K : PySem.W.Frag) : Sp := fun vs H Q _ => ∃ (a : Addr) (k : Int) (ns : List Int), vs = [.ref a, .int k] ∧ SqL K H a (ns.map V.int) ∧ 0 ≤ k ∧ ∀ z, Q (.int z) H
theorem ok_cell_at (T : Txt K mg) : Def P w K mg base 1 "_law_cell_at" ["script", "k"] (spCellAt K) := by
  refine def_of T.g__law_cell_at T.f__law_cell_at sc__law_cell_at (fun _ _ _ _ _ _ us hl => match us, hl with | [_, _], _ => rfl) (fun vs H Q E h => ?_) (fun cdv A outer s H vs Q E hrm h => ?_)
  · obtain ⟨a, k, ns, rfl, _⟩ := h
    rfl
  · obtain ⟨a, k, ns, rfl, hS, hk, q⟩ := h
    refine ⟨_, (pss_cons (ps_if (pt_cmpR op_ltU (pv 1) (pe_callB (call_lenU (K := K)) (by rfl) T.n_len (by decide +kernel) (pa_cons (pv 0) pa_nil)) (nomark _))
 (pss_one (ps_ret (pe_ix (ix_seqK (K := K)) (pv 0) (pv 1) (fun _ _ => rfl))))
 pss_nil)
 (pss_one (ps_ret pe_int))), ?_⟩
    rw [st__law_cell_at]
    try dsimp only [L2.cxOf]
    walk_at "rd"
    refine s_iteD (fun c => ?_) (fun c => ?_)
    · walk_at "rd"
      obtain ⟨v, hv, e⟩ := at_ex (xs := ns.map V.int) hk c
      obtain ⟨z, rfl⟩ := int_at hv
      refine s_ixL hS e ?_
      exact q _
    · walk_at "rd"
      exact q _
theorem s_cellAt {H : Hp} {Q : VK} {E : XK} {a : Addr} {k : Int} {ns : List Int} (h : SqL K H a (ns.map V.int)) (h0 : 0 ≤ k) (q : ∀ z, Q (.int z) H) : spCellAt K [.ref a, .int k] H Q E := ⟨a, k, ns, rfl, h, h0, q⟩
def spMixed : Sp := fun vs H Q _ => ∃ c k, vs = [.int c, .int k] ∧ 0 ≤ k ∧ k ≤ 1000000 ∧ ∀ m, 0 ≤ m → m < 2147483647 → Q (.int m) H
theorem ok_mixed (T : Txt K mg) : Def P w K mg base 1 "_law_mixed" ["cell", "k"] spMixed := by
  refine def_of T.g__law_mixed T.f__law_mixed sc__law_mixed (fun _ _ _ _ _ _ us hl => match us, hl with | [_, _], _ => rfl) (fun vs H Q E h => ?_) (fun cdv A outer s H vs Q E hrm h => ?_)
  · obtain ⟨a, k, rfl, _⟩ := h
    rfl
  · obtain ⟨c, k, rfl, h0, h1, q⟩ := h
    refine ⟨_, (pss_cons (ps_set (i := 2) sc__law_mixed.nd rfl (Or.inl rfl) (pe_op op_mod (pe_op op_mulU (pe_op (op_addU (K := K)) (pe_op (op_addU (K := K)) (pe_op op_mod (pv 0) pe_int) (pe_op op_mulU pe_int (pv 1))) pe_int) pe_int) pe_int))
 (pss_one (ps_ret (pe_op op_mod (pe_op op_mulU (pe_op op_mod (pe_op op_mulU (pv 2) (pv 2)) pe_int) pe_int) pe_int)))), ?_⟩
    rw [st__law_mixed]
    try dsimp only [L2.cxOf]
    walk_at "rd"
    refine ⟨wide_600 (by decide +kernel) (Nat.le_trans (show k.natAbs ≤ 1000000 by omega) (by decide +kernel)), ?_⟩
    walk_at "rd"
    have c0 := Int.emod_nonneg c (show (1000000007 : Int) ≠ 0 by decide)
    have c1 := Int.emod_lt_of_pos c (show (0 : Int) < 1000000007 by decide)
    refine ⟨wide_600 (Nat.le_trans (show _ ≤ 10 ^ 12 by omega) (by decide +kernel)) (by decide +kernel), ?_⟩
    walk_at "rd"
    generalize (c % 1000000007 + 7919 * k + 1) * 48271 = y
    have d0 := Int.emod_nonneg y (show (2147483647 : Int) ≠ 0 by decide)
    have d1 := Int.emod_lt_of_pos y (show (0 : Int) < 2147483647 by decide)
    refine ⟨wide_small (by omega) (by omega), ?_⟩
    walk_at "rd"
    generalize y % 2147483647 * (y % 2147483647) = u
    have e0 := Int.emod_nonneg u (show (2147483629 : Int) ≠ 0 by decide)
    have e1 := Int.emod_lt_of_pos u (show (0 : Int) < 2147483629 by decide)
    refine ⟨wide_small (by omega) (by omega), ?_⟩
    walk_at "rd"
    exact q _ (Int.emod_nonneg _ (by decide)) (Int.emod_lt_of_pos _ (by decide))
theorem s_mixed {H : Hp} {Q : VK} {E : XK} {c k : Int} (h0 : 0 ≤ k) (h1 : k ≤ 1000000) (q : ∀ m, 0 ≤ m → m < 2147483647 → Q (.int m) H) : spMixed [.int c, .int k] H Q E := ⟨c, k, rfl, h0, h1, q⟩

/-- a worth -/
inductive Wo where
  | non
  | int (i : Int)
  | str (s : Str)
  | flt (w : Str)
def RW (K : PySem.W.Frag) (H : Hp) (v : V) : Wo → Prop
  | .non => v = .non
  | .int i => v = .int i
  | .str s => v = .str s
  | .flt w => ∃ p, v = .ref p ∧ SqT K H p [.str "fault", .str w]
theorem RW.mono {H H' : Hp} {v : V} {a : Wo} (e : Same H H') (h : RW K H v a) : RW K H' v a := by
  cases a with
  | flt w => obtain ⟨p, h1, h2⟩ := h; exact ⟨p, h1, Same.tup e h2⟩
  | _ => exact h
def Wo.isF : Wo → Bool
  | .flt _ => true
  | _ => false
def Wo.isS : Wo → Bool
  | .str _ => true
  | _ => false
def Wo.ok : Wo → Prop
  | .non => True
  | .int i => i.natAbs ≤ 10 ^ 60
  | .str s => s.length ≤ 200 ∧ PyData.strOk s = true
  | .flt w => w.length ≤ 20 ∧ PyData.strOk w = true
/-- a worth comes, nothing else changes -/
def RetW (K : PySem.W.Frag) (H : Hp) (Q : VK) (a : Wo) : Prop := ∀ H' v, Same H H' → RW K H' v a → Q v H'
theorem RW.n {H : Hp} : RW K H .non .non := rfl
theorem RW.i {H : Hp} {i : Int} : RW K H (.int i) (.int i) := rfl
theorem RW.s {H : Hp} {z : Str} : RW K H (.str z) (.str z) := rfl
instance {A B : Prop} : Step (if Wo.isF .non = true then A else B) B := ⟨iteF⟩
instance {i : Int} {A B : Prop} : Step (if Wo.isF (.int i) = true then A else B) B := ⟨iteF⟩
instance {i : Str} {A B : Prop} : Step (if Wo.isF (.str i) = true then A else B) B := ⟨iteF⟩
instance {i : Str} {A B : Prop} : Step (if Wo.isF (.flt i) = true then A else B) A := ⟨iteT⟩
instance {A B : Prop} : Step (if Wo.isS .non = true then A else B) B := ⟨iteF⟩
instance {i : Int} {A B : Prop} : Step (if Wo.isS (.int i) = true then A else B) B := ⟨iteF⟩
instance {i : Str} {A B : Prop} : Step (if Wo.isS (.str i) = true then A else B) A := ⟨iteT⟩
instance {i : Str} {A B : Prop} : Step (if Wo.isS (.flt i) = true then A else B) B := ⟨iteF⟩
instance {A B : Prop} : Step (if decide (V.non = V.non) = true then A else B) A := ⟨iteT⟩
instance {i : Int} {A B : Prop} : Step (if decide (V.int i = V.non) = true then A else B) B := ⟨iteF⟩
instance {i : Str} {A B : Prop} : Step (if decide (V.str i = V.non) = true then A else B) B := ⟨iteF⟩
instance {i : Addr} {A B : Prop} : Step (if decide (V.ref i = V.non) = true then A else B) B := ⟨iteF⟩
instance {A B : Prop} : Step (if (!decide (V.non = V.non)) = true then A else B) B := ⟨iteF⟩
instance {i : Int} {A B : Prop} : Step (if (!decide (V.int i = V.non)) = true then A else B) A := ⟨iteT⟩
instance {i : Str} {A B : Prop} : Step (if (!decide (V.str i = V.non)) = true then A else B) A := ⟨iteT⟩
instance {i : Addr} {A B : Prop} : Step (if (!decide (V.ref i = V.non)) = true then A else B) A := ⟨iteT⟩
def spIsFault (K : PySem.W.Frag) : Sp := fun vs H Q _ => ∃ v a, vs = [v] ∧ RW K H v a ∧ Q (.bl a.isF) H
theorem s_isF {H : Hp} {Q : VK} {E : XK} {v : V} {a : Wo} (h : RW K H v a) (q : Q (.bl a.isF) H) : spIsFault K [v] H Q E := ⟨v, a, rfl, h, q⟩
theorem ok_is_fault (T : Txt K mg) : Def P w K mg base 1 "is_fault" ["worth"] (spIsFault K) := by
  refine def_of T.g_is_fault T.f_is_fault sc_is_fault (fun _ _ _ _ _ _ us hl => match us, hl with | [_], _ => rfl) (fun vs H Q E h => ?_) (fun cdv A outer s H vs Q E hrm h => ?_)
  · obtain ⟨v, a, rfl, _⟩ := h
    rfl
  · obtain ⟨v, a, rfl, hv, q⟩ := h
    refine ⟨_, (pss_one (ps_ret (pe_callB (call_isiK (K := K)) (by rfl) T.n_isinstance (by decide +kernel) (pa_cons (pv 0) (pa_cons (pe_bltn (v := .ty "tuple") (u := .type "tuple") rfl T.n_tuple (by decide +kernel) (by rfl)) pa_nil))))), ?_⟩
    rw [st_is_fault]
    try dsimp only [L2.cxOf]
    walk_at "rd"
    cases a with
    | flt w =>
      obtain ⟨p, rfl, hp⟩ := hv
      refine s_isiSqT hp ?_
      exact q
    | _ =>
      obtain rfl := hv
      walk_at "rd"
      exact q
def spIsText (K : PySem.W.Frag) : Sp := fun vs H Q _ => ∃ v a, vs = [v] ∧ RW K H v a ∧ Q (.bl a.isS) H
theorem s_isS {H : Hp} {Q : VK} {E : XK} {v : V} {a : Wo} (h : RW K H v a) (q : Q (.bl a.isS) H) : spIsText K [v] H Q E := ⟨v, a, rfl, h, q⟩
theorem ok_is_text (T : Txt K mg) : Def P w K mg base 1 "is_text" ["worth"] (spIsText K) := by
  refine def_of T.g_is_text T.f_is_text sc_is_text (fun _ _ _ _ _ _ us hl => match us, hl with | [_], _ => rfl) (fun vs H Q E h => ?_) (fun cdv A outer s H vs Q E hrm h => ?_)
  · obtain ⟨v, a, rfl, _⟩ := h
    rfl
  · obtain ⟨v, a, rfl, hv, q⟩ := h
    refine ⟨_, (pss_one (ps_ret (pe_callB (call_isiK (K := K)) (by rfl) T.n_isinstance (by decide +kernel) (pa_cons (pv 0) (pa_cons (pe_bltn (v := .ty "str") (u := .type "str") rfl T.n_str (by decide +kernel) (by rfl)) pa_nil))))), ?_⟩
    rw [st_is_text]
    try dsimp only [L2.cxOf]
    walk_at "rd"
    cases a with
    | flt w =>
      obtain ⟨p, rfl, hp⟩ := hv
      refine s_isiSqT hp ?_
      exact q
    | _ =>
      obtain rfl := hv
      walk_at "rd"
      exact q
def spFault (K : PySem.W.Frag) : Sp := fun vs H Q _ => ∃ w, vs = [.str w] ∧ RetW K H Q (.flt w)
theorem s_fltW {H : Hp} {Q : VK} {E : XK} {z : Str} (q : RetW K H Q (.flt z)) : spFault K [.str z] H Q E := ⟨z, rfl, q⟩
theorem ok_fault (T : Txt K mg) : Def P w K mg base 1 "fault" ["word"] (spFault K) := by
  refine def_of T.g_fault T.f_fault sc_fault (fun _ _ _ _ _ _ us hl => match us, hl with | [_], _ => rfl) (fun vs H Q E h => ?_) (fun cdv A outer s H vs Q E hrm h => ?_)
  · obtain ⟨w, rfl, _⟩ := h
    rfl
  · obtain ⟨w, rfl, q⟩ := h
    refine ⟨_, (pss_one (ps_ret (pe_tup (pa_cons pe_str (pa_cons (pv 0) pa_nil))))), ?_⟩
    rw [st_fault]
    try dsimp only [L2.cxOf]
    walk_at "rd"
    exact fun p hp => q _ _ (Same.new hp) ⟨p, rfl, st_of upd_same⟩
def heldN (n : Int) : Wo := if 10 ^ 60 < n.natAbs then .flt "great" else .int n
def spHeld (K : PySem.W.Frag) : Sp := fun vs H Q _ => ∃ n, vs = [.int n] ∧ RetW K H Q (heldN n)
theorem s_held {H : Hp} {Q : VK} {E : XK} {n : Int} (q : RetW K H Q (heldN n)) : spHeld K [.int n] H Q E := ⟨n, rfl, q⟩
theorem ok_held (T : Txt K mg) (D_fault : Def P w K mg base 1 "fault" ["word"] (spFault K)) : Def P w K mg base 2 "held_number" ["number"] (spHeld K) := by
  refine def_of T.g_held_number T.f_held_number sc_held_number (fun _ _ _ _ _ _ us hl => match us, hl with | [_], _ => rfl) (fun vs H Q E h => ?_) (fun cdv A outer s H vs Q E hrm h => ?_)
  · obtain ⟨n, rfl, _⟩ := h
    rfl
  · obtain ⟨n, rfl, q⟩ := h
    refine ⟨_, (pss_cons (ps_if (pt_cmpR op_gt (pe_callB call_absI (by rfl) T.n_abs (by decide +kernel) (pa_cons (pv 0) pa_nil)) (pe_con T.c_MOST_NUMBER_worths (by rfl)) (nomark _))
 (pss_one (ps_ret (pe_dcall D_fault (hrm.mono (by decide)) (by rfl) passL (pa_cons pe_str pa_nil))))
 pss_nil)
 (pss_one (ps_ret (pv 0)))), ?_⟩
    rw [st_held_number]
    try dsimp only [L2.cxOf]
    walk_at "rd"
    refine s_iteD (fun c => ?_) (fun c => ?_)
    · walk_at "rd"
      have e : heldN n = .flt "great" := if_pos (by split at c <;> omega)
      rw [e] at q
      exact ⟨_, rfl, q⟩
    · walk_at "rd"
      have e : heldN n = .int n := if_neg (by split at c <;> omega)
      rw [e] at q
      exact q _ _ (Same.refl H) rfl

end
end Ol

local macro_rules | `(tactic| walk_at "rw") => `(tactic| first | exact Ol.RW.n | exact Ol.RW.i | exact Ol.RW.s | assumption | exact Ol.RW.mono (by assumption) (by walk_at "rw"))
local macro_rules | `(tactic| walk_at "rd1") => `(tactic| with_reducible first
  | (show Ol.spIsFault _ _ _ _ _; refine Ol.s_isF (by with_unfolding_all walk_at "rw") ?_)
  | (show Ol.spIsText _ _ _ _ _; refine Ol.s_isS (by with_unfolding_all walk_at "rw") ?_)
  | (show Ol.spFault _ _ _ _ _; refine Ol.s_fltW ?_))

local macro_rules | `(tactic| walk_at "rd1") => `(tactic| with_reducible (show Ol.spHeld _ _ _ _ _; refine Ol.s_held ?_))

namespace Ol
open PySem PySem.Spec PyProof.Rows L2
section
variable {P : Program} {w : World} {K : PySem.W.Frag} {mg : Str → Option Value} {base : Heap}

/-! worths in a row: each with what it stands for -/
def RWp (K : PySem.W.Frag) (H : Hp) (ps : List (V × Wo)) : Prop := ∀ p ∈ ps, RW K H p.1 p.2
theorem RWp.mono {H H' : Hp} {ps : List (V × Wo)} (e : Same H H') (h : RWp K H ps) : RWp K H' ps := fun p hp => (h p hp).mono e
theorem RWp.at {H : Hp} {ps : List (V × Wo)} {i : Nat} {x : V} (h : RWp K H ps) (hi : (ps.map (·.1))[i]? = some x) : ∃ a, ps[i]? = some (x, a) ∧ RW K H x a := by
  rw [List.getElem?_map] at hi
  cases e : ps[i]? with
  | none => rw [e] at hi; cases hi
  | some p =>
    rw [e] at hi
    obtain rfl := Option.some.inj hi
    exact ⟨p.2, rfl, h p (List.mem_of_getElem? e)⟩
theorem take_more {α : Type} {l : List α} {i : Nat} {x : α} (h : l[i]? = some x) : l.take (i + 1) = l.take i ++ [x] := by
  rw [List.take_add_one, h]; rfl
def Wo.int? : Wo → Option Int
  | .int i => some i
  | _ => none
def nums (ps : List (V × Wo)) : List Int := ps.filterMap fun p => p.2.int?
def leastI : List Int → Int
  | [] => 0
  | x :: r => r.foldl min x
def mostI : List Int → Int
  | [] => 0
  | x :: r => r.foldl max x
theorem foldl_min (r : List Int) : ∀ x : Int, (r.foldl min x = x ∨ r.foldl min x ∈ r) ∧ r.foldl min x ≤ x ∧ ∀ y ∈ r, r.foldl min x ≤ y := by
  induction r with
  | nil => intro x; simp
  | cons z r ih =>
    intro x
    obtain ⟨h1, h2, h3⟩ := ih (min x z)
    rw [List.foldl_cons]
    refine ⟨?_, by omega, fun y hy => ?_⟩
    · rcases h1 with h1 | h1
      · rw [h1]
        rcases (show min x z = x ∨ min x z = z by omega) with e | e <;> rw [e] <;> simp
      · exact .inr (List.mem_cons_of_mem _ h1)
    · rcases List.mem_cons.mp hy with rfl | hy
      · omega
      · exact h3 y hy
theorem foldl_max (r : List Int) : ∀ x : Int, (r.foldl max x = x ∨ r.foldl max x ∈ r) ∧ x ≤ r.foldl max x ∧ ∀ y ∈ r, y ≤ r.foldl max x := by
  induction r with
  | nil => intro x; simp
  | cons z r ih =>
    intro x
    obtain ⟨h1, h2, h3⟩ := ih (max x z)
    rw [List.foldl_cons]
    refine ⟨?_, by omega, fun y hy => ?_⟩
    · rcases h1 with h1 | h1
      · rw [h1]
        rcases (show max x z = x ∨ max x z = z by omega) with e | e <;> rw [e] <;> simp
      · exact .inr (List.mem_cons_of_mem _ h1)
    · rcases List.mem_cons.mp hy with rfl | hy
      · omega
      · exact h3 y hy
theorem leastI_is {ns : List Int} {m : Int} (h : m ∈ ns) (h2 : ∀ y ∈ ns, m ≤ y) : leastI ns = m := by
  cases ns with
  | nil => cases h
  | cons x r =>
    obtain ⟨h3, h4, h5⟩ := foldl_min r x
    show r.foldl min x = m
    have a : r.foldl min x ≤ m := by
      rcases List.mem_cons.mp h with rfl | h
      · exact h4
      · exact h5 m h
    have b : m ≤ r.foldl min x := by
      rcases h3 with e | e
      · rw [e]; exact h2 x List.mem_cons_self
      · exact h2 _ (List.mem_cons_of_mem _ e)
    omega
theorem mostI_is {ns : List Int} {m : Int} (h : m ∈ ns) (h2 : ∀ y ∈ ns, y ≤ m) : mostI ns = m := by
  cases ns with
  | nil => cases h
  | cons x r =>
    obtain ⟨h3, h4, h5⟩ := foldl_max r x
    show r.foldl max x = m
    have a : m ≤ r.foldl max x := by
      rcases List.mem_cons.mp h with rfl | h
      · exact h4
      · exact h5 m h
    have b : r.foldl max x ≤ m := by
      rcases h3 with e | e
      · rw [e]; exact h2 x List.mem_cons_self
      · exact h2 _ (List.mem_cons_of_mem _ e)
    omega
theorem find_at {ps : List (V × Wo)} {i : Nat} {p : V × Wo} (h : ps[i]? = some p) (hp : p.2.isF = true) (hn : ∀ r ∈ ps.take i, r.2.isF = false) : ps.find? (fun p => p.2.isF) = some p := by
  have e : ps = ps.take i ++ p :: ps.drop (i + 1) := by
    have h1 := List.take_append_drop i ps
    obtain ⟨hl, e1⟩ := List.getElem?_eq_some_iff.mp h
    rw [List.drop_eq_getElem_cons hl, e1] at h1
    exact h1.symm
  rw [e, List.find?_append]
  have e2 : (ps.take i).find? (fun p => p.2.isF) = none := List.find?_eq_none.mpr fun r hr => by rw [hn r hr]; exact Bool.false_ne_true
  rw [e2, List.find?_cons, hp]
  rfl
theorem find_no {ps : List (V × Wo)} (hn : ∀ r ∈ ps, r.2.isF = false) : ps.find? (fun p => p.2.isF) = none := List.find?_eq_none.mpr fun r hr => by rw [hn r hr]; exact Bool.false_ne_true
theorem nums_len (ps : List (V × Wo)) : (nums ps).length ≤ ps.length := List.length_filterMap_le _ _
theorem nums_take {ps : List (V × Wo)} {i : Nat} {p : V × Wo} (h : ps[i]? = some p) : nums (ps.take (i + 1)) = nums (ps.take i) ++ (p.2.int?).toList := by
  rw [take_more h]
  unfold nums
  rw [List.filterMap_append]
  cases e : p.2.int? <;> simp [e]

def gatheredW (word : Str) (ps : List (V × Wo)) : Wo :=
  match ps.find? (fun p => p.2.isF) with
  | some p => p.2
  | none => if word = "sum" then heldN (nums ps).sum else if word = "count" then .int (nums ps).length else if nums ps = [] then .flt "none" else if word = "least" then .int (leastI (nums ps)) else .int (mostI (nums ps))
def spGathered (K : PySem.W.Frag) : Sp := fun vs H Q _ => ∃ word q ps, vs = [.str word, .ref q] ∧ SqL K H q (ps.map (·.1)) ∧ RWp K H ps ∧ ps.length ≤ 10000 ∧ RetW K H Q (gatheredW word ps)
theorem ok_gathered (T : Txt K mg) (D_is_fault : Def P w K mg base 1 "is_fault" ["worth"] (spIsFault K)) (D_is_text : Def P w K mg base 1 "is_text" ["worth"] (spIsText K)) (D_fault : Def P w K mg base 1 "fault" ["word"] (spFault K)) (D_held_number : Def P w K mg base 2 "held_number" ["number"] (spHeld K)) : Def P w K mg base 3 "gathered" ["word", "worths"] (spGathered K) := by
  refine def_of T.g_gathered T.f_gathered sc_gathered (fun _ _ _ _ _ _ us hl => match us, hl with | [_, _], _ => rfl) (fun vs H Q E h => ?_) (fun cdv A outer s H vs Q E hrm h => ?_)
  · obtain ⟨word, q, ps, rfl, _⟩ := h
    rfl
  · obtain ⟨word, a, ps, rfl, ha, hr, hl, q⟩ := h
    refine ⟨_, (pss_cons (ps_set (i := 2) sc_gathered.nd rfl (Or.inl rfl) (pe_lst pa_nil))
 (pss_cons (ps_for (passes_of rfl) rfl (pi_listK (K := K) (pv 1)) (pg_name (i := 3) sc_gathered.nd rfl (Or.inl rfl))
 (pss_cons (ps_if (pt_val (pe_dcall D_is_fault (hrm.mono (by decide)) (by rfl) passL (pa_cons (pv 3) pa_nil)))
 (pss_one (ps_ret (pv 3)))
 pss_nil)
 (pss_one (ps_if (PW.pt (pw_and (pt_cmpR op_notNo (pv 3) pe_non (nomark _)) (pw_and1 (pt_not (pt_val (pe_dcall D_is_text (hrm.mono (by decide)) (by rfl) passL (pa_cons (pv 3) pa_nil)))))))
 (pss_one (ps_expr (pe_bmK (K := K) rfl PySem.F.plainAttrs_list PySem.F.slot_list_append PySem.F.type_list_append mt_append (pv 2) (pa_cons (pv 3) pa_nil))))
 pss_nil))))
 (pss_cons (ps_if (pt_cmpR (op_eqU (K := K) hrm.units) (pv 0) pe_str (nomark _))
 (pss_one (ps_ret (pe_dcall D_held_number (hrm.mono (by decide)) (by rfl) passL (pa_cons (pe_callB (call_sumL (K := K)) (by rfl) T.n_sum (by decide +kernel) (pa_cons (pv 2) pa_nil)) pa_nil))))
 pss_nil)
 (pss_cons (ps_if (pt_cmpR (op_eqU (K := K) hrm.units) (pv 0) pe_str (nomark _))
 (pss_one (ps_ret (pe_callB (call_lenU (K := K)) (by rfl) T.n_len (by decide +kernel) (pa_cons (pv 2) pa_nil))))
 pss_nil)
 (pss_cons (ps_if (pt_cmpR (op_eqU (K := K) hrm.units) (pe_callB (call_lenU (K := K)) (by rfl) T.n_len (by decide +kernel) (pa_cons (pv 2) pa_nil)) pe_int (nomark _))
 (pss_one (ps_ret (pe_dcall D_fault (hrm.mono (by decide)) (by rfl) passL (pa_cons pe_str pa_nil))))
 pss_nil)
 (pss_cons (ps_if (pt_cmpR (op_eqU (K := K) hrm.units) (pv 0) pe_str (nomark _))
 (pss_one (ps_ret (pe_callB (call_minL (K := K)) (by rfl) T.n_min (by decide +kernel) (pa_cons (pv 2) pa_nil))))
 pss_nil)
 (pss_one (ps_ret (pe_callB (call_maxL (K := K)) (by rfl) T.n_max (by decide +kernel) (pa_cons (pv 2) pa_nil)))))))))), ?_⟩
    rw [st_gathered]
    try dsimp only [L2.cxOf]
    walk_at "rd"
    intro n hn
    walk_at "rd"
    have s1 : Same H (upd H n (HO.lst [])) := Same.new hn
    have h1 : (upd H n (HO.lst [])) n = some (.lst ((nums (ps.take 0)).map V.int)) := upd_same
    generalize upd H n (HO.lst []) = H1 at *
    have put : ∀ (H2 : Hp) (l : List Int) (i : Nat) (x : V), Same H H2 → H2 n = some (.lst (l.map V.int)) → Same H (upd H2 n (.lst (l.map V.int ++ [x]))) := fun H2 l i x e h2 => Same.mut e hn
    refine s_forL (xs := ps.map (·.1)) (fun i σ H' => ∃ v, σ = [some (.str word), some (.ref a), some (.ref n), v] ∧ Same H H' ∧ H' n = some (.lst ((nums (ps.take i)).map V.int)) ∧ ∀ r ∈ ps.take i, r.2.isF = false) ⟨_, rfl, s1, h1, by simp⟩ (fun i σ H' _ ⟨_, _, e, _⟩ => e.seq ha) ?_ ?_
    · rintro i x σ H' hi ⟨v, rfl, e, h2, h3⟩
      obtain ⟨b, hb, wb⟩ := hr.at hi
      have wb := wb.mono e
      have hil : i < ps.length := (List.getElem?_eq_some_iff.mp hb).1
      have step : nums (ps.take (i + 1)) = nums (ps.take i) ++ (b.int?).toList := nums_take hb
      have no : b.isF = false → ∀ r ∈ ps.take (i + 1), r.2.isF = false := fun fb r hr => by
        rw [take_more hb] at hr
        rcases List.mem_append.mp hr with hr | hr
        · exact h3 r hr
        · rw [List.mem_singleton.mp hr]; exact fb
      walk_at "rd"
      cases b with
      | flt z =>
        walk_at "rd"
        have e2 : gatheredW word ps = .flt z := by unfold gatheredW; rw [find_at hb rfl h3]
        rw [e2] at q
        exact q _ _ e wb
      | non =>
        obtain rfl : x = .non := wb
        walk_at "rd"
        exact ⟨_, rfl, e, by rw [step, h2]; simp [Wo.int?], no rfl⟩
      | str z =>
        obtain rfl : x = .str z := wb
        walk_at "rd"
        exact ⟨_, rfl, e, by rw [step, h2]; simp [Wo.int?], no rfl⟩
      | int z =>
        obtain rfl : x = .int z := wb
        walk_at "rd"
        refine s_append h2 (sz_lt ?_) ?_
        · have := nums_len (ps.take i)
          rw [List.length_take] at this
          rw [List.length_map]
          omega
        walk_at "rd"
        exact ⟨_, rfl, Same.mut e hn, by rw [step, upd_same]; simp [Wo.int?], no rfl⟩
    · rintro σ H' ⟨v, rfl, e, h2, h3⟩
      rw [List.length_map, List.take_length] at h2 h3
      walk_at "rd"
      have e1 : gatheredW word ps = if word = "sum" then heldN (nums ps).sum else if word = "count" then .int (nums ps).length else if nums ps = [] then .flt "none" else if word = "least" then .int (leastI (nums ps)) else .int (mostI (nums ps)) := by
        unfold gatheredW; rw [find_no h3]
      rw [e1] at q
      have qm : ∀ {b : Wo} {v : V} {H2 : Hp}, RetW K H Q b → Same H H2 → RW K H2 v b → Q v H2 := fun q e w => q _ _ e w
      refine s_iteD (fun c => ?_) (fun c => ?_)
      · rw [if_pos c] at q
        walk_at "rd"
        refine s_sumL (sl_of h2) ?_
        walk_at "rd"
        exact fun H2 v e2 w => q _ _ (e.trans e2) w
      rw [if_neg c] at q
      walk_at "rd"
      refine s_iteD (fun c => ?_) (fun c => ?_)
      · rw [if_pos c] at q
        walk_at "rd"
        rw [List.length_map]
        exact q _ _ e rfl
      rw [if_neg c] at q
      walk_at "rd"
      rw [List.length_map]
      refine s_iteD (fun c => ?_) (fun c => ?_)
      · rw [if_pos (List.eq_nil_of_length_eq_zero (by omega))] at q
        walk_at "rd"
        exact fun H2 v e2 w => q _ _ (e.trans e2) w
      have hpos : 0 < (nums ps).length := by omega
      rw [if_neg (fun z => by rw [z] at hpos; cases hpos)] at q
      walk_at "rd"
      refine s_iteD (fun c => ?_) (fun c => ?_)
      · rw [if_pos c] at q
        walk_at "rd"
        refine s_minL (sl_of h2) hpos fun m hm hle => ?_
        rw [leastI_is hm hle] at q
        exact q _ _ e rfl
      · rw [if_neg c] at q
        walk_at "rd"
        refine s_maxL (sl_of h2) hpos fun m hm hle => ?_
        rw [mostI_is hm hle] at q
        exact q _ _ e rfl


/-! worths as data -/
def Wo.d : Wo → PyData
  | .non => .none
  | .int i => .int i
  | .str s => .str s
  | .flt w => .tuple [.str "fault", .str w]
theorem RW.dp {H : Hp} {v : V} {a : Wo} (h : RW K H v a) : Dp K H v a.d := by
  cases a with
  | non => obtain rfl : v = .non := h; exact .non
  | int i => obtain rfl : v = .int i := h; exact .int i
  | str s => obtain rfl : v = .str s := h; exact .str s
  | flt w =>
    obtain ⟨p, rfl, hp⟩ := h
    exact .tup hp (.cons (.str _) (.cons (.str _) .nil))
theorem shaped_wo {a : Wo} (h : a.ok) : SeqAt.shaped a.d = true := by
  cases a with
  | non => rfl
  | int i => rfl
  | str s =>
    show (PyData.strOk s && decide (PyData.depth (.str s) ≤ 64)) = true
    rw [h.2]
    rfl
  | flt w =>
    show ((PyData.strOk "fault" && (PyData.strOk w && true)) && decide (PyData.depth (.tuple [.str "fault", .str w]) ≤ 64)) = true
    rw [h.2, show PyData.strOk (Str.ofString "fault") = true by decide +kernel]
    rfl
theorem s_eqW {H : Hp} {Q : VK} {v u : V} {a b : Wo} (h : RW K H v a) (h2 : RW K H u b) (ka : a.ok) (kb : b.ok) (q : Q (.bl (PyData.eqv a.d b.d)) H) : rEqU K v u H Q := s_eqD h.dp h2.dp (shaped_wo ka) (shaped_wo kb) q
theorem s_isiF {H : Hp} {Q : VK} {v : V} {a : Wo} (h : RW K H v a) (q : Q (.bl a.isF) H) : rIsi K [v, .ty "tuple"] H Q := by
  cases a with
  | flt w =>
    obtain ⟨p, rfl, hp⟩ := h
    exact s_isiSqT hp q
  | non => obtain rfl : v = .non := h; exact s_isiT .non q
  | int i => obtain rfl : v = .int i := h; exact s_isiT (.int i) q
  | str s => obtain rfl : v = .str s := h; exact s_isiT (.str s) q
theorem RW.but {H H' : Hp} {p : Addr} {xs : List V} {v : V} {a : Wo} (b : But p H H') (hp : H p = some (.lst xs)) (h : RW K H v a) : RW K H' v a := by
  cases a with
  | flt w =>
    obtain ⟨r, h1, h2⟩ := h
    refine ⟨r, h1, ?_⟩
    rcases h2 with (h2 | ⟨o, h2⟩) | h2
    · exact .inl (.inl (b _ _ (ne_of h2 hp (by intro z; cases z)) h2))
    · exact .inl (.inr ⟨o, b _ _ (ne_of h2 hp (by intro z; cases z)) h2⟩)
    · exact .inr h2
  | _ => exact h

/-! rows of worths as data -/
theorem dpAll {H : Hp} : ∀ {ps : List (V × Wo)}, RWp K H ps → DpAll K H (ps.map (·.1)) (ps.map (·.2.d))
  | [], _ => .nil
  | p :: r, h => .cons (h p List.mem_cons_self).dp (dpAll fun q hq => h q (List.mem_cons_of_mem _ hq))
def okp (ps : List (V × Wo)) : Prop := ∀ p ∈ ps, p.2.ok
theorem okp_lay : ∀ {ps : List (V × Wo)}, okp ps → PyData.canLayAll0 (ps.map (·.2.d)) = true ∧ PyData.depthAll (ps.map (·.2.d)) ≤ 1
  | [], _ => ⟨rfl, Nat.zero_le _⟩
  | p :: r, h => by
    obtain ⟨h1, h2⟩ := okp_lay (ps := r) fun q hq => h q (List.mem_cons_of_mem _ hq)
    have h3 := h p List.mem_cons_self
    have h4 : PyData.canLay0 p.2.d = true ∧ PyData.depth p.2.d ≤ 1 := by
      cases e : p.2 with
      | non => exact ⟨rfl, Nat.zero_le _⟩
      | int i => exact ⟨rfl, Nat.zero_le _⟩
      | str s => rw [e] at h3; exact ⟨h3.2, Nat.zero_le _⟩
      | flt w =>
        rw [e] at h3
        constructor
        · show (PyData.strOk "fault" && (PyData.strOk w && true)) = true
          rw [h3.2, show PyData.strOk (Str.ofString "fault") = true by decide +kernel]
          rfl
        · simp [Wo.d, PyData.depth, PyData.depthAll]
    rw [List.map_cons]
    constructor
    · show (PyData.canLay0 p.2.d && PyData.canLayAll0 (r.map (·.2.d))) = true
      rw [h4.1, h1]
      rfl
    · simp only [PyData.depthAll]
      omega
theorem shaped_list {ps : List (V × Wo)} (h : okp ps) : SeqAt.shaped (.list (ps.map (·.2.d))) = true := by
  obtain ⟨h1, h2⟩ := okp_lay h
  show (PyData.canLayAll0 (ps.map (·.2.d)) && decide (PyData.depth (.list (ps.map (·.2.d))) ≤ 64)) = true
  have h3 : PyData.depth (.list (ps.map (·.2.d))) ≤ 64 := by
    simp only [PyData.depth]
    omega
  rw [h1, decide_eq_true h3]
  rfl
theorem eqv_list {ps : List (V × Wo)} (h : okp ps) : PyData.eqv (.list (ps.map (·.2.d))) (.list (ps.map (·.2.d))) = true := SeqAt.eqv_refl _ (okp_lay h).1
theorem eqv_nil (ds : List PyData) : PyData.eqv (.list ds) (.list []) = ds.isEmpty := by
  cases ds <;> simp [PyData.eqv, PyData.eqvAll]
theorem dpInts {H : Hp} : ∀ (ns : List Int), DpAll K H (ns.map V.int) (ns.map PyData.int)
  | [] => .nil
  | n :: r => .cons (.int n) (dpInts r)
theorem lay_ints : ∀ (ns : List Int), PyData.canLayAll0 (ns.map PyData.int) = true ∧ PyData.depthAll (ns.map PyData.int) = 0
  | [] => ⟨rfl, by simp [PyData.depthAll]⟩
  | n :: r => by
    obtain ⟨h1, h2⟩ := lay_ints r
    rw [List.map_cons]
    refine ⟨?_, by simp [PyData.depthAll, PyData.depth, h2]⟩
    show (true && PyData.canLayAll0 (r.map PyData.int)) = true
    rw [h1]
    rfl
theorem shaped_ints (ns : List Int) : SeqAt.shaped (.list (ns.map PyData.int)) = true := by
  obtain ⟨h1, h2⟩ := lay_ints ns
  show (PyData.canLayAll0 (ns.map PyData.int) && decide (PyData.depth (.list (ns.map PyData.int)) ≤ 64)) = true
  rw [h1]
  simp [PyData.depth, h2]
theorem RWp.filter {H : Hp} {ps : List (V × Wo)} (f : V × Wo → Bool) (h : RWp K H ps) : RWp K H (ps.filter f) := fun p hp => h p (List.mem_filter.mp hp).1
theorem filter_take {ps : List (V × Wo)} {i : Nat} {p : V × Wo} (f : V × Wo → Bool) (h : ps[i]? = some p) : (ps.take (i + 1)).filter f = (ps.take i).filter f ++ if f p = true then [p] else [] := by
  rw [take_more h, List.filter_append]
  cases e : f p <;> simp [e]
def Wo.isI : Wo → Bool
  | .int _ => true
  | _ => false
theorem s_isiI {H : Hp} {Q : VK} {v : V} {a : Wo} (h : RW K H v a) (q : Q (.bl a.isI) H) : rIsi K [v, .ty "int"] H Q := by
  cases a with
  | flt w =>
    obtain ⟨p, rfl, hp⟩ := h
    exact s_isiSqT hp q
  | non => obtain rfl : v = .non := h; exact s_isiT .non q
  | int i => obtain rfl : v = .int i := h; exact s_isiT (.int i) q
  | str s => obtain rfl : v = .str s := h; exact s_isiT (.str s) q
theorem ints_of {H : Hp} : ∀ {ps : List (V × Wo)}, RWp K H ps → (ps.filter (fun p => p.2.isI)).map (·.1) = (nums ps).map V.int
  | [], _ => rfl
  | p :: r, h => by
    have ih := ints_of (ps := r) fun q hq => h q (List.mem_cons_of_mem _ hq)
    have h1 := h p List.mem_cons_self
    obtain ⟨v, a⟩ := p
    unfold nums at *
    cases a with
    | int i =>
      obtain rfl : v = .int i := h1
      rw [List.filter_cons, List.filterMap_cons]
      show V.int i :: _ = V.int i :: _
      rw [ih]
    | _ =>
      rw [List.filter_cons, List.filterMap_cons]
      exact ih
/-- [worth for worth in worths if test(worth)]: what the turns keep -/
def Kept (H : Hp) (f : V × Wo → Bool) (ps : List (V × Wo)) (D : Addr) (i : Nat) (H1 : Hp) : Prop := Same H H1 ∧ H1 D = some (.lst (((ps.take i).filter f).map (·.1)))
theorem Kept.zero {H : Hp} {f : V × Wo → Bool} {ps : List (V × Wo)} {D : Addr} (h : H D = none) : Kept H f ps D 0 (upd H D (.lst [])) := ⟨Same.new h, upd_same⟩
theorem Kept.yes {H H1 : Hp} {f : V × Wo → Bool} {ps : List (V × Wo)} {D : Addr} {i : Nat} {p : V × Wo} (h : H D = none) (k : Kept H f ps D i H1) (hp : ps[i]? = some p) (e : f p = true) (hl : ps.length ≤ 10000) :
    ∃ acc, H1 D = some (.lst acc) ∧ acc.length < sizeLine ∧ Kept H f ps D (i + 1) (upd H1 D (.lst (acc ++ [p.1]))) := by
  refine ⟨_, k.2, sz_lt ?_, Same.mut k.1 h, ?_⟩
  · rw [List.length_map]
    have h1 := List.length_filter_le f (ps.take i)
    rw [List.length_take] at h1
    omega
  · rw [upd_same, filter_take f hp, if_pos e, List.map_append]
    rfl
theorem Kept.no {H H1 : Hp} {f : V × Wo → Bool} {ps : List (V × Wo)} {D : Addr} {i : Nat} {p : V × Wo} (k : Kept H f ps D i H1) (hp : ps[i]? = some p) (e : f p = false) : Kept H f ps D (i + 1) H1 := by
  refine ⟨k.1, ?_⟩
  rw [k.2, filter_take f hp, e]
  simp
theorem Kept.all {H H1 : Hp} {f : V × Wo → Bool} {ps : List (V × Wo)} {D : Addr} (k : Kept H f ps D (ps.map (·.1)).length H1) : H1 D = some (.lst ((ps.filter f).map (·.1))) := by
  rw [k.2, List.length_map, List.take_length]

/-- a drawn worth: some worth, the row gone on -/
def spWorth (K : PySem.W.Frag) : Sp := fun vs H Q _ => ∃ p n, vs = [.ref p] ∧ H p = some (.lst [.int n]) ∧ ∀ H' v a n', But p H H' → H' p = some (.lst [.int n']) → RW K H' v a → a.ok → Q v H'
theorem ok_worth (T : Txt K mg) (D__law_digit : Def P w K mg base 1 "_law_digit" ["row", "many"] spDigit) : Def P w K mg base 2 "_law_worth" ["row"] (spWorth K) := by
  refine def_of T.g__law_worth T.f__law_worth sc__law_worth (fun _ _ _ _ _ _ us hl => match us, hl with | [_], _ => rfl) (fun vs H Q E h => ?_) (fun cdv A outer s H vs Q E hrm h => ?_)
  · obtain ⟨p, n, rfl, _⟩ := h
    rfl
  · obtain ⟨p, n, rfl, hp, q⟩ := h
    refine ⟨_, (pss_cons (ps_set (i := 1) sc__law_worth.nd rfl (Or.inl rfl) (pe_dcall D__law_digit (hrm.mono (by decide)) (by rfl) passL (pa_cons (pv 0) (pa_cons pe_int pa_nil))))
 (pss_cons (ps_if (pt_cmpR op_ltU (pv 1) pe_int (nomark _))
 (pss_one (ps_ret (pe_op op_sub (pe_dcall D__law_digit (hrm.mono (by decide)) (by rfl) passL (pa_cons (pv 0) (pa_cons pe_int pa_nil))) pe_int)))
 pss_nil)
 (pss_cons (ps_if (pt_cmpR op_ltU (pv 1) pe_int (nomark _))
 (pss_one (ps_ret (pe_op op_mulU (pe_ix (ix_seqK (K := K)) (pe_lst (pa_cons pe_int (pa_cons (pe_un un_neg pe_int) pa_nil))) (pe_dcall D__law_digit (hrm.mono (by decide)) (by rfl) passL (pa_cons (pv 0) (pa_cons pe_int pa_nil))) (fun _ _ => rfl)) (pe_op op_sub (pe_op op_pow pe_int pe_int) (pe_dcall D__law_digit (hrm.mono (by decide)) (by rfl) passL (pa_cons (pv 0) (pa_cons pe_int pa_nil)))))))
 pss_nil)
 (pss_cons (ps_if (pt_cmpR op_ltU (pv 1) pe_int (nomark _))
 (pss_one (ps_ret (pe_ix (ix_seqK (K := K)) (pe_lst (pa_cons pe_str (pa_cons pe_str (pa_cons pe_str (pa_cons pe_str pa_nil))))) (pe_dcall D__law_digit (hrm.mono (by decide)) (by rfl) passL (pa_cons (pv 0) (pa_cons pe_int pa_nil))) (fun _ _ => rfl))))
 pss_nil)
 (pss_cons (ps_if (pt_cmpR op_ltU (pv 1) pe_int (nomark _))
 (pss_one (ps_ret pe_non))
 pss_nil)
 (pss_one (ps_ret (pe_tup (pa_cons pe_str (pa_cons (pe_ix (ix_seqK (K := K)) (pe_lst (pa_cons pe_str (pa_cons pe_str (pa_cons pe_str (pa_cons pe_str (pa_cons pe_str pa_nil)))))) (pe_dcall D__law_digit (hrm.mono (by decide)) (by rfl) passL (pa_cons (pv 0) (pa_cons pe_int pa_nil))) (fun _ _ => rfl)) pa_nil)))))))))), ?_⟩
    rw [st__law_worth]
    try dsimp only [L2.cxOf]
    walk_at "rd"
    refine s_digit (m := 12) hp (by decide) (by decide +kernel) ?_
    walk_at "rd"
    have b1 : But p H (upd H p (HO.lst [V.int (n / 12)])) := But.upd
    have hp1 : (upd H p (HO.lst [V.int (n / 12)])) p = some (.lst [.int (n / 12)]) := upd_same
    generalize upd H p (HO.lst [V.int (n / 12)]) = H1 at *
    generalize n / 12 = n1 at *
    refine s_iteD (fun _ => ?_) (fun _ => ?_)
    · walk_at "rd"
      refine s_digit (m := 15) hp1 (by decide) (by decide +kernel) ?_
      walk_at "rd"
      refine q _ _ (.int _) _ b1.put upd_same rfl ?_
      show Int.natAbs _ ≤ 10 ^ 60
      omega
    walk_at "rd"
    refine s_iteD (fun _ => ?_) (fun _ => ?_)
    · walk_at "rd"
      intro l hl
      walk_at "rd"
      refine s_digit (m := 2) (hf_new hl hp1) (by decide) (by decide +kernel) ?_
      have hpl : p ≠ l := ne_of_none hp1 hl
      have hm : ∃ m : Int, atI [V.int 1, V.int (-1)] (n1 % 2) = some (.int m) ∧ (m = 1 ∨ m = -1) := by
        rcases (show n1 % 2 = 0 ∨ n1 % 2 = 1 by omega) with e | e <;> rw [e]
        · exact ⟨1, rfl, .inl rfl⟩
        · exact ⟨-1, rfl, .inr rfl⟩
      obtain ⟨m, hm, m0⟩ := hm
      refine s_ixL (sl_of (hf_ne hpl.symm upd_same)) hm ?_
      walk_at "rd"
      refine s_digit (m := 3) upd_same (by decide) (by decide +kernel) ?_
      walk_at "rd"
      have e60 : (10 : Int) ^ Int.toNat 60 = 10 ^ 60 := rfl
      rw [e60]
      have hb : (10 ^ 60 - n1 / 2 % 3 : Int).natAbs ≤ 10 ^ 60 := by omega
      refine ⟨wide_600 (by omega) (Nat.le_trans hb (by decide +kernel)), ?_⟩
      refine q _ _ (.int _) _ ((b1.trans (But.new hl)).put).put upd_same rfl ?_
      show Int.natAbs _ ≤ 10 ^ 60
      rcases m0 with rfl | rfl <;> omega
    walk_at "rd"
    refine s_iteD (fun _ => ?_) (fun _ => ?_)
    · walk_at "rd"
      intro l hl
      walk_at "rd"
      refine s_digit (m := 4) (hf_new hl hp1) (by decide) (by decide +kernel) ?_
      have hpl : p ≠ l := ne_of_none hp1 hl
      have hm : ∃ m : Str, atI [V.str (Str.ofString ""), V.str (Str.ofString "a"), V.str (Str.ofString "b7"), V.str (Str.ofString "7")] (n1 % 4) = some (.str m) ∧ m.length ≤ 200 ∧ PyData.strOk m = true := by
        rcases (show n1 % 4 = 0 ∨ n1 % 4 = 1 ∨ n1 % 4 = 2 ∨ n1 % 4 = 3 by omega) with e | e | e | e <;> rw [e]
        all_goals exact ⟨_, rfl, by decide +kernel, by decide +kernel⟩
      obtain ⟨m, hm, m0⟩ := hm
      refine s_ixL (sl_of (hf_ne hpl.symm upd_same)) hm ?_
      walk_at "rd"
      exact q _ _ (.str m) _ (b1.trans (But.new hl)).put upd_same rfl m0
    walk_at "rd"
    refine s_iteD (fun _ => ?_) (fun _ => ?_)
    · walk_at "rd"
      exact q _ _ .non _ b1 hp1 rfl trivial
    walk_at "rd"
    intro l hl
    walk_at "rd"
    refine s_digit (m := 5) (hf_new hl hp1) (by decide) (by decide +kernel) ?_
    have hpl : p ≠ l := ne_of_none hp1 hl
    have hm : ∃ m : Str, atI [V.str (Str.ofString "kind"), V.str (Str.ofString "great"), V.str (Str.ofString "nought"), V.str (Str.ofString "none"), V.str (Str.ofString "lost")] (n1 % 5) = some (.str m) ∧ m.length ≤ 20 ∧ PyData.strOk m = true := by
      rcases (show n1 % 5 = 0 ∨ n1 % 5 = 1 ∨ n1 % 5 = 2 ∨ n1 % 5 = 3 ∨ n1 % 5 = 4 by omega) with e | e | e | e | e <;> rw [e]
      all_goals exact ⟨_, rfl, by decide +kernel, by decide +kernel⟩
    obtain ⟨m, hm, m0⟩ := hm
    refine s_ixL (sl_of (hf_ne hpl.symm upd_same)) hm ?_
    walk_at "rd"
    intro t ht
    exact q _ _ (.flt m) _ ((b1.trans (But.new hl)).put.trans (But.new ht)) (hf_new ht upd_same) ⟨t, rfl, st_of upd_same⟩ m0
/-- a row of one number, made from the script -/
def spRowOf (K : PySem.W.Frag) : Sp := fun vs H Q _ => ∃ (a : Addr) (k : Int) (ns : List Int), vs = [.ref a, .int k] ∧ SqL K H a (ns.map V.int) ∧ ns.length ≤ 63 ∧ 0 ≤ k ∧ k ≤ 10000 ∧ ∀ H' p n, Same H H' → H p = none → H' p = some (.lst [.int n]) → Q (.ref p) H'
theorem ok_row_of (T : Txt K mg) (D__law_cell_at : Def P w K mg base 1 "_law_cell_at" ["script", "k"] (spCellAt K)) (D__law_mixed : Def P w K mg base 1 "_law_mixed" ["cell", "k"] spMixed) : Def P w K mg base 2 "_law_row_of" ["script", "k"] (spRowOf K) := by
  refine def_of T.g__law_row_of T.f__law_row_of sc__law_row_of (fun _ _ _ _ _ _ us hl => match us, hl with | [_, _], _ => rfl) (fun vs H Q E h => ?_) (fun cdv A outer s H vs Q E hrm h => ?_)
  · obtain ⟨a, k, ns, rfl, _⟩ := h
    rfl
  · obtain ⟨a, k, ns, rfl, hS, hl, h0, h1, q⟩ := h
    refine ⟨_, (pss_cons (ps_set (i := 2) sc__law_row_of.nd rfl (Or.inl rfl) (pe_dcall D__law_cell_at (hrm.mono (by decide)) (by rfl) passL (pa_cons (pv 0) (pa_cons (pv 1) pa_nil))))
 (pss_cons (ps_if (PW.pt (pw_and (pt_cmpR (op_eqU (K := K) hrm.units) (pe_op op_mod (pe_dcall D__law_cell_at (hrm.mono (by decide)) (by rfl) passL (pa_cons (pv 0) (pa_cons pe_int pa_nil))) pe_int) pe_int (nomark _)) (pw_and1 (pt_cmpR op_ltU (pv 1) (pe_callB (call_lenU (K := K)) (by rfl) T.n_len (by decide +kernel) (pa_cons (pv 0) pa_nil)) (nomark _)))))
 (pss_one (ps_ret (pe_lst (pa_cons (pv 2) pa_nil))))
 pss_nil)
 (pss_cons (ps_set (i := 3) sc__law_row_of.nd rfl (Or.inl rfl) pe_int)
 (pss_cons (ps_for (passes_of rfl) rfl (pi_range1 rfl T.n_range (pa_cons pe_int pa_nil)) (pg_name (i := 4) sc__law_row_of.nd rfl (Or.inl rfl))
 (pss_one (ps_set (i := 3) sc__law_row_of.nd rfl (Or.inl rfl) (pe_op (op_addU (K := K)) (pe_op op_mulU (pv 3) pe_int) (pe_dcall D__law_mixed (hrm.mono (by decide)) (by rfl) passL (pa_cons (pe_op (op_addU (K := K)) (pv 2) (pe_callB (call_sumL (K := K)) (by rfl) T.n_sum (by decide +kernel) (pa_cons (pv 0) pa_nil))) (pa_cons (pe_op (op_addU (K := K)) (pe_op op_mulU pe_int (pv 1)) (pv 4)) pa_nil)))))))
 (pss_one (ps_ret (pe_lst (pa_cons (pe_op op_fdivW (pv 3) pe_int) pa_nil)))))))), ?_⟩
    rw [st__law_row_of]
    try dsimp only [L2.cxOf]
    walk_at "rd"
    refine s_cellAt hS h0 fun cell => ?_
    walk_at "rd"
    refine s_cellAt hS (by omega) fun z => ?_
    walk_at "rd"
    have fin : ∀ (n : Int) (p : Addr), H p = none → Q (V.ref p) (upd H p (HO.lst [V.int n])) := fun n p hp => q _ p n (Same.new hp) hp upd_same
    have hlen : ((ns.map V.int).length : Int) ≤ 63 := by rw [List.length_map]; omega
    refine s_iteD (fun c => ?_) (fun c => ?_)
    walk_at "rd"
    refine s_iteD (fun c => ?_) (fun c => ?_)
    · walk_at "rd"
      exact fin _
    all_goals walk_at "rd"
    all_goals
      refine s_forR0 (fun i σ H' => ∃ (f : Int) (v : Option V), σ = [some (.ref a), some (.int k), some (.int cell), some (.int f), v] ∧ H' = H ∧ 0 ≤ f ∧ f < 2147483647 ^ i) ⟨0, none, rfl, rfl, by decide, by decide⟩ ?_ ?_
      · rintro i σ H' hi ⟨f, v, rfl, rfl, f0, f1⟩
        have i3 : i ≤ 2 := by
          have e : Int.toNat 3 = 3 := rfl
          omega
        have f2 : (2147483647 : Int) ^ i ≤ 2147483647 ^ 2 := by
          rcases (show i = 0 ∨ i = 1 ∨ i = 2 by omega) with e | e | e <;> rw [e] <;> decide +kernel
        walk_at "rd"
        refine ⟨wide_600 (Nat.le_trans (show f.natAbs ≤ 2147483647 ^ 2 by omega) (by decide +kernel)) (by decide +kernel), ?_⟩
        walk_at "rd"
        refine s_sumL hS ?_
        walk_at "rd"
        refine ⟨wide_600 (by decide +kernel) (Nat.le_trans (show k.natAbs ≤ 10000 by omega) (by decide +kernel)), ?_⟩
        walk_at "rd"
        refine s_mixed (by omega) (by omega) fun m m0 m1 => ?_
        walk_at "rd"
        exact ⟨_, _, rfl, rfl, by omega, by rw [Int.pow_succ]; omega⟩
      · rintro σ H' ⟨f, v, rfl, rfl, f0, f1⟩
        walk_at "rd"
        exact fin _
/-- a list of worths, as many as asked for -/
def spWorths (K : PySem.W.Frag) : Sp := fun vs H Q _ => ∃ (a : Addr) (many : Int) (b : Bool) (ns : List Int), vs = [.ref a, .int many, .bl b] ∧ SqL K H a (ns.map V.int) ∧ ns.length ≤ 63 ∧ 0 ≤ many ∧ many ≤ 100 ∧ ∀ H' p ps, Same H H' → H p = none → H' p = some (.lst (ps.map (·.1))) → RWp K H' ps → okp ps → ps.length = many.toNat → Q (.ref p) H'
theorem ok_worths (T : Txt K mg) (D__law_worth : Def P w K mg base 2 "_law_worth" ["row"] (spWorth K)) (D__law_row_of : Def P w K mg base 2 "_law_row_of" ["script", "k"] (spRowOf K)) : Def P w K mg base 3 "_law_worths" ["script", "many", "faults"] (spWorths K) := by
  refine def_of T.g__law_worths T.f__law_worths sc__law_worths (fun _ _ _ _ _ _ us hl => match us, hl with | [_, _, _], _ => rfl) (fun vs H Q E h => ?_) (fun cdv A outer s H vs Q E hrm h => ?_)
  · obtain ⟨a, k, b, ns, rfl, _⟩ := h
    rfl
  · obtain ⟨a, many, fl, ns, rfl, hS, hl, h0, h1, q⟩ := h
    refine ⟨_, (pss_cons (ps_set (i := 3) sc__law_worths.nd rfl (Or.inl rfl) (pe_lst pa_nil))
 (pss_cons (ps_for (passes_of rfl) rfl (pi_range1 rfl T.n_range (pa_cons (pv 1) pa_nil)) (pg_name (i := 4) sc__law_worths.nd rfl (Or.inl rfl))
 (pss_cons (ps_set (i := 5) sc__law_worths.nd rfl (Or.inl rfl) (pe_dcall D__law_worth (hrm.mono (by decide)) (by rfl) passL (pa_cons (pe_dcall D__law_row_of (hrm.mono (by decide)) (by rfl) passL (pa_cons (pv 0) (pa_cons (pe_op (op_addU (K := K)) (pv 4) pe_int) pa_nil))) pa_nil)))
 (pss_cons (ps_if (PW.pt (pw_and (pt_not (pt_truthK (K := K) (pv 2) (by intro _; rfl))) (pw_and1 (pt_val (pe_callB (call_isiK (K := K)) (by rfl) T.n_isinstance (by decide +kernel) (pa_cons (pv 5) (pa_cons (pe_bltn (v := .ty "tuple") (u := .type "tuple") rfl T.n_tuple (by decide +kernel) (by rfl)) pa_nil)))))))
 (pss_one (ps_set (i := 5) sc__law_worths.nd rfl (Or.inl rfl) (pv 4)))
 pss_nil)
 (pss_one (ps_expr (pe_bmK (K := K) rfl PySem.F.plainAttrs_list PySem.F.slot_list_append PySem.F.type_list_append mt_append (pv 3) (pa_cons (pv 5) pa_nil)))))))
 (pss_one (ps_ret (pv 3))))), ?_⟩
    rw [st__law_worths]
    try dsimp only [L2.cxOf]
    walk_at "rd"
    intro l hl0
    walk_at "rd"
    have s1 : Same H (upd H l (HO.lst [])) := Same.new hl0
    have h2 : (upd H l (HO.lst [])) l = some (.lst []) := upd_same
    generalize upd H l (HO.lst []) = H1 at *
    refine s_forR0 (fun i σ H' => ∃ (v1 v2 : Option V) (ps : List (V × Wo)), σ = [some (.ref a), some (.int many), some (.bl fl), some (.ref l), v1, v2] ∧ Same H H' ∧ H' l = some (.lst (ps.map (·.1))) ∧ RWp K H' ps ∧ okp ps ∧ ps.length = i) ⟨none, none, [], rfl, s1, h2, (fun _ h => absurd h (by simp)), (fun _ h => absurd h (by simp)), rfl⟩ ?_ ?_
    · rintro i σ H' hi ⟨v1, v2, ps, rfl, e, g1, hr, hk, hpl⟩
      have add : ∀ (H3 : Hp) (x : V) (b : Wo), Same H' H3 → RW K H3 x b → b.ok → ∃ (ps2 : List (V × Wo)), Same H (upd H3 l (.lst (ps.map (·.1) ++ [x]))) ∧ (upd H3 l (.lst (ps.map (·.1) ++ [x]))) l = some (.lst (ps2.map (·.1))) ∧ RWp K (upd H3 l (.lst (ps.map (·.1) ++ [x]))) ps2 ∧ okp ps2 ∧ ps2.length = i + 1 := fun H3 x b e3 wb kb => by
        have h3 := e3 _ _ g1
        refine ⟨ps ++ [(x, b)], Same.mut (e.trans e3) hl0, by rw [upd_same, List.map_append]; rfl, fun p hp => ?_, fun p hp => ?_, by rw [List.length_append, hpl]; rfl⟩
        · rcases List.mem_append.mp hp with hp | hp
          · exact ((hr p hp).mono e3).but But.upd h3
          · rw [List.mem_singleton.mp hp]; exact wb.but But.upd h3
        · rcases List.mem_append.mp hp with hp | hp
          · exact hk p hp
          · rw [List.mem_singleton.mp hp]; exact kb
      have hz : (ps.map (·.1)).length < sizeLine := sz_lt (by rw [List.length_map]; omega)
      walk_at "rd"
      refine ⟨a, _, ns, rfl, e.seq hS, hl, by omega, by omega, fun H2 p n e2 hp hp2 => ?_⟩
      refine ⟨p, n, rfl, hp2, fun H3 x b n2 b2 hp3 wb kb => ?_⟩
      have e3 : Same H' H3 := But.toSame e2 hp b2
      have g3 := e3 _ _ g1
      walk_at "rd"
      cases fl with
      | true =>
        walk_at "rd"
        obtain ⟨ps2, z⟩ := add _ _ _ e3 wb kb
        exact ⟨_, _, ps2, rfl, z⟩
      | false =>
        walk_at "rd"
        refine s_isiF wb ?_
        walk_at "rd"
        refine s_iteB (fun c => ?_) (fun c => ?_)
        · walk_at "rd"
          obtain ⟨ps2, z⟩ := add H3 (.int (i : Nat)) (.int i) e3 rfl (by show Int.natAbs _ ≤ 10 ^ 60; omega)
          exact ⟨_, _, ps2, rfl, z⟩
        · walk_at "rd"
          obtain ⟨ps2, z⟩ := add _ _ _ e3 wb kb
          exact ⟨_, _, ps2, rfl, z⟩
    · rintro σ H' ⟨v1, v2, ps, rfl, e, g1, hr, hk, hpl⟩
      walk_at "rd"
      exact q _ _ _ e hl0 g1 hr hk hpl

end
end Ol

local macro_rules | `(tactic| walk_at "rw") => `(tactic| first | exact Ol.RW.n | exact Ol.RW.i | exact Ol.RW.s | assumption | exact Ol.RW.mono (by assumption) (by walk_at "rw"))
local macro_rules | `(tactic| walk_at "rd1") => `(tactic| with_reducible first
  | (show Ol.spIsFault _ _ _ _ _; refine Ol.s_isF (by with_unfolding_all walk_at "rw") ?_)
  | (show Ol.spIsText _ _ _ _ _; refine Ol.s_isS (by with_unfolding_all walk_at "rw") ?_)
  | (show Ol.spFault _ _ _ _ _; refine Ol.s_fltW ?_))

local macro_rules | `(tactic| walk_at "rd1") => `(tactic| with_reducible (show Ol.spHeld _ _ _ _ _; refine Ol.s_held ?_))

namespace Ol
open PySem PySem.Spec PyProof.Rows L2
section
variable {P : Program} {w : World} {K : PySem.W.Frag} {mg : Str → Option Value} {base : Heap}

theorem pw_first {m : Int} {r : List Int} (h : (m :: r).Pairwise (· ≤ ·)) : ∀ y ∈ m :: r, m ≤ y := fun y hy => by
  rcases List.mem_cons.mp hy with rfl | hy
  · omega
  · exact (List.pairwise_cons.mp h).1 y hy
theorem pw_last : ∀ {l : List Int} {m : Int}, l.Pairwise (· ≤ ·) → l.getLast? = some m → m ∈ l ∧ ∀ y ∈ l, y ≤ m
  | [], _, _, h => by cases h
  | [x], m, _, h => by
    obtain rfl : x = m := Option.some.inj h
    simp
  | x :: y :: r, m, h, h2 => by
    rw [List.getLast?_cons_cons] at h2
    obtain ⟨h3, h4⟩ := pw_last (List.pairwise_cons.mp h).2 h2
    refine ⟨List.mem_cons_of_mem _ h3, fun z hz => ?_⟩
    rcases List.mem_cons.mp hz with rfl | hz
    · have := (List.pairwise_cons.mp h).1 y List.mem_cons_self
      have := h4 y List.mem_cons_self
      omega
    · exact h4 z hz
theorem perm_sum {a b : List Int} (h : a.Perm b) : a.sum = b.sum := by
  induction h with
  | nil => rfl
  | cons x _ ih => rw [List.sum_cons, List.sum_cons, ih]
  | swap x y l => rw [List.sum_cons, List.sum_cons, List.sum_cons, List.sum_cons]; omega
  | trans _ _ ih1 ih2 => exact ih1.trans ih2

/-- a list of worths at an address -/
def Row (K : PySem.W.Frag) (H : Hp) (q : Addr) : Prop := ∃ ps : List (V × Wo), H q = some (.lst (ps.map (·.1))) ∧ RWp K H ps ∧ okp ps ∧ ps.length ≤ 1000
theorem Row.mono {H H' : Hp} {q : Addr} (e : Same H H') (h : Row K H q) : Row K H' q := by
  obtain ⟨ps, h1, h2, h3, h4⟩ := h
  exact ⟨ps, e _ _ h1, h2.mono e, h3, h4⟩
theorem row_ints {H : Hp} {q : Addr} {ns : List Int} (h : H q = some (.lst (ns.map V.int))) (hb : ∀ n ∈ ns, n.natAbs ≤ 10 ^ 60) (hl : ns.length ≤ 1000) : Row K H q := by
  refine ⟨ns.map fun n => (.int n, .int n), ?_, fun p hp => ?_, fun p hp => ?_, by rw [List.length_map]; exact hl⟩
  · rw [h, List.map_map]; rfl
  · obtain ⟨n, _, rfl⟩ := List.mem_map.mp hp
    exact RW.i
  · obtain ⟨n, hn, rfl⟩ := List.mem_map.mp hp
    exact hb n hn
theorem RWp.but {H H' : Hp} {l : Addr} {xs : List V} {ps : List (V × Wo)} (b : But l H H') (hl : H l = some (.lst xs)) (h : RWp K H ps) : RWp K H' ps := fun p hp => (h p hp).but b hl
theorem nums_bound {ps : List (V × Wo)} (h : okp ps) : ∀ n ∈ nums ps, n.natAbs ≤ 10 ^ 60 := fun n hn => by
  obtain ⟨p, hp, e⟩ := List.mem_filterMap.mp hn
  have := h p hp
  cases e2 : p.2 with
  | int i =>
    rw [e2] at e this
    obtain rfl : i = n := Option.some.inj e
    exact this
  | _ => rw [e2] at e; cases e
theorem held_ok (n : Int) : (heldN n).ok := by
  unfold heldN
  split
  · exact ⟨by decide +kernel, by decide +kernel⟩
  · exact Nat.le_of_not_lt ‹_›
theorem least_mem : ∀ {ns : List Int}, ns ≠ [] → leastI ns ∈ ns
  | [], h => absurd rfl h
  | x :: r, _ => by
    obtain ⟨h1, _, _⟩ := foldl_min r x
    rcases h1 with h1 | h1
    · show r.foldl min x ∈ x :: r
      rw [h1]; exact List.mem_cons_self
    · exact List.mem_cons_of_mem _ h1
theorem most_mem : ∀ {ns : List Int}, ns ≠ [] → mostI ns ∈ ns
  | [], h => absurd rfl h
  | x :: r, _ => by
    obtain ⟨h1, _, _⟩ := foldl_max r x
    rcases h1 with h1 | h1
    · show r.foldl max x ∈ x :: r
      rw [h1]; exact List.mem_cons_self
    · exact List.mem_cons_of_mem _ h1

theorem gathered_ok {ps : List (V × Wo)} (word : Str) (h : okp ps) (hl : ps.length ≤ 1000) : (gatheredW word ps).ok := by
  unfold gatheredW
  split
  · rename_i p e
    exact h p (List.mem_of_find?_eq_some e)
  · split
    · exact held_ok _
    split
    · have := nums_len ps
      show Int.natAbs _ ≤ 10 ^ 60
      omega
    split
    · exact ⟨by decide +kernel, by decide +kernel⟩
    split
    · exact nums_bound h _ (least_mem ‹_›)
    · exact nums_bound h _ (most_mem ‹_›)

/-! tallies: sum, count, least, greatest, first fault -/
structure Ta where
  s : Int
  n : Int
  lo : Wo
  hi : Wo
  f : Wo
def RT (K : PySem.W.Frag) (H : Hp) (v : V) (t : Ta) : Prop := ∃ (p : Addr) (lo hi f : V), v = .ref p ∧ SqT K H p [.int t.s, .int t.n, lo, hi, f] ∧ RW K H lo t.lo ∧ RW K H hi t.hi ∧ RW K H f t.f
theorem RT.mono {H H' : Hp} {v : V} {t : Ta} (e : Same H H') (h : RT K H v t) : RT K H' v t := by
  obtain ⟨p, lo, hi, f, h1, h2, h3, h4, h5⟩ := h
  exact ⟨p, lo, hi, f, h1, Same.tup e h2, h3.mono e, h4.mono e, h5.mono e⟩
theorem RT.new {H : Hp} {p : Addr} {s n : Int} {lo hi f : V} {a b c : Wo} (hp : H p = none) (h1 : RW K H lo a) (h2 : RW K H hi b) (h3 : RW K H f c) : RT K (upd H p (.tup [.int s, .int n, lo, hi, f])) (.ref p) ⟨s, n, a, b, c⟩ :=
  ⟨p, lo, hi, f, rfl, st_of upd_same, h1.mono (Same.new hp), h2.mono (Same.new hp), h3.mono (Same.new hp)⟩
def loOf : List Int → Wo
  | [] => .non
  | x :: r => .int (leastI (x :: r))
def hiOf : List Int → Wo
  | [] => .non
  | x :: r => .int (mostI (x :: r))
def Wo.or : Wo → Wo → Wo
  | .non, b => b
  | a, _ => a
def faultOf (ps : List (V × Wo)) : Wo :=
  match ps.find? (fun p => p.2.isF) with
  | some p => p.2
  | none => .non
def tallyW (ps : List (V × Wo)) : Ta := ⟨(nums ps).sum, (nums ps).length, loOf (nums ps), hiOf (nums ps), faultOf ps⟩
theorem loOf_ne {l : List Int} (h : l ≠ []) : loOf l = .int (leastI l) := by
  cases l with
  | nil => exact absurd rfl h
  | cons x r => rfl
theorem hiOf_ne {l : List Int} (h : l ≠ []) : hiOf l = .int (mostI l) := by
  cases l with
  | nil => exact absurd rfl h
  | cons x r => rfl
theorem leastI_le {l : List Int} : ∀ y ∈ l, leastI l ≤ y := by
  cases l with
  | nil => intro y h; cases h
  | cons x r =>
    obtain ⟨_, h2, h3⟩ := foldl_min r x
    intro y hy
    rcases List.mem_cons.mp hy with rfl | hy
    · exact h2
    · exact h3 y hy
theorem mostI_ge {l : List Int} : ∀ y ∈ l, y ≤ mostI l := by
  cases l with
  | nil => intro y h; cases h
  | cons x r =>
    obtain ⟨_, h2, h3⟩ := foldl_max r x
    intro y hy
    rcases List.mem_cons.mp hy with rfl | hy
    · exact h2
    · exact h3 y hy
theorem leastI_app {a b : List Int} (ha : a ≠ []) (hb : b ≠ []) : leastI (a ++ b) = if leastI b < leastI a then leastI b else leastI a := by
  have h1 := least_mem ha
  have h2 := least_mem hb
  refine leastI_is ?_ fun y hy => ?_
  · split
    · exact List.mem_append_right _ h2
    · exact List.mem_append_left _ h1
  · rcases List.mem_append.mp hy with hy | hy
    · have := leastI_le y hy
      split <;> omega
    · have := leastI_le y hy
      split <;> omega
theorem mostI_app {a b : List Int} (ha : a ≠ []) (hb : b ≠ []) : mostI (a ++ b) = if mostI b > mostI a then mostI b else mostI a := by
  have h1 := most_mem ha
  have h2 := most_mem hb
  refine mostI_is ?_ fun y hy => ?_
  · split
    · exact List.mem_append_right _ h2
    · exact List.mem_append_left _ h1
  · rcases List.mem_append.mp hy with hy | hy
    · have := mostI_ge y hy
      split <;> omega
    · have := mostI_ge y hy
      split <;> omega
theorem nums_app (a b : List (V × Wo)) : nums (a ++ b) = nums a ++ nums b := List.filterMap_append
theorem fault_app (a b : List (V × Wo)) : faultOf (a ++ b) = (faultOf a).or (faultOf b) := by
  unfold faultOf
  rw [List.find?_append]
  cases e : a.find? (fun p => p.2.isF) with
  | none => rfl
  | some p =>
    have h : p.2.isF = true := List.find?_some (p := fun p : V × Wo => p.2.isF) e
    cases e2 : p.2 with
    | flt w => simp [Wo.or, e2]
    | _ => rw [e2] at h; cases h
theorem sum_app (a b : List Int) : (a ++ b).sum = a.sum + b.sum := by
  induction a with
  | nil => simp
  | cons x r ih => rw [List.cons_append, List.sum_cons, List.sum_cons, ih]; omega
theorem lo_or {a b : List Int} (h : ¬ (0 < (a.length : Int) ∧ 0 < (b.length : Int))) : loOf (a ++ b) = (loOf a).or (loOf b) := by
  cases a with
  | nil => rfl
  | cons x r =>
    cases b with
    | nil => rw [List.append_nil]; rfl
    | cons y s => exact absurd ⟨by simp, by simp⟩ h
theorem hi_or {a b : List Int} (h : ¬ (0 < (a.length : Int) ∧ 0 < (b.length : Int))) : hiOf (a ++ b) = (hiOf a).or (hiOf b) := by
  cases a with
  | nil => rfl
  | cons x r =>
    cases b with
    | nil => rw [List.append_nil]; rfl
    | cons y s => exact absurd ⟨by simp, by simp⟩ h
theorem fault_no {ps : List (V × Wo)} (h : ∀ p ∈ ps, p.2.isF = false) : faultOf ps = .non := by unfold faultOf; rw [find_no h]
theorem fault_isF {ps : List (V × Wo)} (h : faultOf ps ≠ .non) : (faultOf ps).isF = true := by
  unfold faultOf at *
  cases e : ps.find? (fun p => p.2.isF) with
  | none => rw [e] at h; exact absurd rfl h
  | some p => exact List.find?_some (p := fun p : V × Wo => p.2.isF) e
theorem fault_ok {ps : List (V × Wo)} (h : okp ps) : (faultOf ps).ok := by
  unfold faultOf
  cases e : ps.find? (fun p => p.2.isF) with
  | none => trivial
  | some p => exact h p (List.mem_of_find?_eq_some e)
theorem lo_isI {l : List Int} : loOf l = .non ∨ ∃ i, loOf l = .int i := by
  cases l with
  | nil => exact .inl rfl
  | cons x r => exact .inr ⟨_, rfl⟩
theorem hi_isI {l : List Int} : hiOf l = .non ∨ ∃ i, hiOf l = .int i := by
  cases l with
  | nil => exact .inl rfl
  | cons x r => exact .inr ⟨_, rfl⟩
/-- tallies as data -/
def Ta.d (t : Ta) : PyData := .tuple [.int t.s, .int t.n, t.lo.d, t.hi.d, t.f.d]
theorem RT.dp {H : Hp} {v : V} {t : Ta} (h : RT K H v t) : Dp K H v t.d := by
  obtain ⟨p, lo, hi, f, rfl, h2, h3, h4, h5⟩ := h
  exact .tup h2 (.cons (.int _) (.cons (.int _) (.cons h3.dp (.cons h4.dp (.cons h5.dp .nil)))))
theorem shaped_ta {ps : List (V × Wo)} (h : okp ps) : SeqAt.shaped (tallyW ps).d = true := by
  have h1 : ∀ l, PyData.canLay0 (loOf l).d = true ∧ PyData.depth (loOf l).d = 0 := fun l => by
    rcases lo_isI (l := l) with e | ⟨i, e⟩ <;> rw [e] <;> exact ⟨rfl, rfl⟩
  have h2 : ∀ l, PyData.canLay0 (hiOf l).d = true ∧ PyData.depth (hiOf l).d = 0 := fun l => by
    rcases hi_isI (l := l) with e | ⟨i, e⟩ <;> rw [e] <;> exact ⟨rfl, rfl⟩
  have h3 : PyData.canLay0 (faultOf ps).d = true ∧ PyData.depth (faultOf ps).d ≤ 1 := by
    have h4 := fault_ok h
    cases e : faultOf ps with
    | non => exact ⟨rfl, Nat.zero_le _⟩
    | int i => exact ⟨rfl, Nat.zero_le _⟩
    | str s => rw [e] at h4; exact ⟨h4.2, Nat.zero_le _⟩
    | flt w =>
      rw [e] at h4
      constructor
      · show (PyData.strOk "fault" && (PyData.strOk w && true)) = true
        rw [h4.2, show PyData.strOk (Str.ofString "fault") = true by decide +kernel]
        rfl
      · simp [Wo.d, PyData.depth, PyData.depthAll]
  show ((true && (true && (PyData.canLay0 (loOf (nums ps)).d && (PyData.canLay0 (hiOf (nums ps)).d && (PyData.canLay0 (faultOf ps).d && true))))) && decide (PyData.depth (tallyW ps).d ≤ 64)) = true
  rw [(h1 _).1, (h2 _).1, h3.1]
  have h5 : PyData.depth (tallyW ps).d ≤ 64 := by
    have a := (h1 (nums ps)).2
    have b := (h2 (nums ps)).2
    have c := h3.2
    simp only [Ta.d, tallyW, PyData.depth, PyData.depthAll]
    omega
  rw [decide_eq_true h5]
  rfl
theorem s_eqT {H : Hp} {Q : VK} {v u : V} {ps : List (V × Wo)} (k : okp ps) (h : RT K H v (tallyW ps)) (h2 : RT K H u (tallyW ps)) (q : Q (.bl true) H) : rEqU K v u H Q := by
  refine s_eqD h.dp h2.dp (shaped_ta k) (shaped_ta k) ?_
  rw [SeqAt.eqv_refl _ (Bool.and_eq_true_iff.mp (shaped_ta k)).1]
  exact q
theorem s_neT {H : Hp} {Q : VK} {v u : V} {ps : List (V × Wo)} (k : okp ps) (h : RT K H v (tallyW ps)) (h2 : RT K H u (tallyW ps)) (q : Q (.bl false) H) : rNeU K v u H Q := by
  refine s_neD h.dp h2.dp (shaped_ta k) (shaped_ta k) ?_
  rw [SeqAt.eqv_refl _ (Bool.and_eq_true_iff.mp (shaped_ta k)).1]
  exact q
/-! the defs -/
def RetT (K : PySem.W.Frag) (H : Hp) (Q : VK) (t : Ta) : Prop := ∀ H' v, Same H H' → RT K H' v t → Q v H'
def spLTally (K : PySem.W.Frag) : Sp := fun vs H Q _ => ∃ (a : Addr) (ps : List (V × Wo)), vs = [.ref a] ∧ SqL K H a (ps.map (·.1)) ∧ RWp K H ps ∧ ps.length ≤ 10000 ∧ RetT K H Q (tallyW ps)
theorem ok_ltally (T : Txt K mg) : Def P w K mg base 1 "_law_tally" ["worths"] (spLTally K) := by
  refine def_of T.g__law_tally T.f__law_tally sc__law_tally (fun _ _ _ _ _ _ us hl => match us, hl with | [_], _ => rfl) (fun vs H Q E h => ?_) (fun cdv A outer s H vs Q E hrm h => ?_)
  · obtain ⟨a, ps, rfl, _⟩ := h
    rfl
  · obtain ⟨a, ps, rfl, ha, hr, hl, q⟩ := h
    refine ⟨_, (pss_cons (ps_set (i := 1) sc__law_tally.nd rfl (Or.inl rfl) (pe_lst pa_nil))
 (pss_cons (ps_set (i := 2) sc__law_tally.nd rfl (Or.inl rfl) pe_non)
 (pss_cons (ps_for (passes_of rfl) rfl (pi_listK (K := K) (pv 0)) (pg_name (i := 3) sc__law_tally.nd rfl (Or.inl rfl))
 (pss_one (ps_if (pt_val (pe_callB (call_isiK (K := K)) (by rfl) T.n_isinstance (by decide +kernel) (pa_cons (pv 3) (pa_cons (pe_bltn (v := .ty "tuple") (u := .type "tuple") rfl T.n_tuple (by decide +kernel) (by rfl)) pa_nil))))
 (pss_one (ps_if (pt_cmpR op_isNo (pv 2) pe_non (nomark _))
 (pss_one (ps_set (i := 2) sc__law_tally.nd rfl (Or.inl rfl) (pv 3)))
 pss_nil))
 (pss_one (ps_if (pt_val (pe_callB (call_isiK (K := K)) (by rfl) T.n_isinstance (by decide +kernel) (pa_cons (pv 3) (pa_cons (pe_bltn (v := .ty "int") (u := .type "int") rfl T.n_int (by decide +kernel) (by rfl)) pa_nil))))
 (pss_one (ps_expr (pe_bmK (K := K) rfl PySem.F.plainAttrs_list PySem.F.slot_list_append PySem.F.type_list_append mt_append (pv 1) (pa_cons (pv 3) pa_nil))))
 pss_nil)))))
 (pss_cons (ps_if (pt_cmpR (op_eqU (K := K) hrm.units) (pe_callB (call_lenU (K := K)) (by rfl) T.n_len (by decide +kernel) (pa_cons (pv 1) pa_nil)) pe_int (nomark _))
 (pss_one (ps_ret (pe_tup (pa_cons pe_int (pa_cons pe_int (pa_cons pe_non (pa_cons pe_non (pa_cons (pv 2) pa_nil))))))))
 pss_nil)
 (pss_cons (ps_set (i := 1) sc__law_tally.nd rfl (Or.inl rfl) (pe_callB (call_sortedL (K := K)) (by rfl) T.n_sorted (by decide +kernel) (pa_cons (pv 1) pa_nil)))
 (pss_one (ps_ret (pe_tup (pa_cons (pe_callB (call_sumL (K := K)) (by rfl) T.n_sum (by decide +kernel) (pa_cons (pv 1) pa_nil)) (pa_cons (pe_callB (call_lenU (K := K)) (by rfl) T.n_len (by decide +kernel) (pa_cons (pv 1) pa_nil)) (pa_cons (pe_ix (ix_seqK (K := K)) (pv 1) pe_int (fun _ _ => rfl)) (pa_cons (pe_ix (ix_seqK (K := K)) (pv 1) (pe_un un_neg pe_int) (fun _ _ => rfl)) (pa_cons (pv 2) pa_nil))))))))))))), ?_⟩
    rw [st__law_tally]
    try dsimp only [L2.cxOf]
    walk_at "rd"
    intro n hn
    walk_at "rd"
    have s1 : Same H (upd H n (HO.lst [])) := Same.new hn
    have h1 : (upd H n (HO.lst [])) n = some (.lst ((nums (ps.take 0)).map V.int)) := upd_same
    generalize upd H n (HO.lst []) = H1 at *
    refine s_forL (xs := ps.map (·.1)) (fun i σ H' => ∃ (f : V) (v : Option V), σ = [some (.ref a), some (.ref n), some f, v] ∧ Same H H' ∧ H' n = some (.lst ((nums (ps.take i)).map V.int)) ∧ RW K H' f (faultOf (ps.take i))) ⟨_, none, rfl, s1, h1, rfl⟩ (fun i σ H' _ ⟨_, _, _, e, _⟩ => e.seq ha) ?_ ?_
    · rintro i x σ H' hi ⟨f, v, rfl, e, h2, hf⟩
      obtain ⟨b, hb, wb⟩ := hr.at hi
      have wb := wb.mono e
      have hil : i < ps.length := (List.getElem?_eq_some_iff.mp hb).1
      have step : nums (ps.take (i + 1)) = nums (ps.take i) ++ (b.int?).toList := nums_take hb
      have stepf : faultOf (ps.take (i + 1)) = (faultOf (ps.take i)).or (faultOf [(x, b)]) := by rw [take_more hb, fault_app]
      have same : b.isF = false → faultOf (ps.take (i + 1)) = faultOf (ps.take i) := fun z => by
        rw [stepf, fault_no (ps := [(x, b)]) (fun p hp => by rw [List.mem_singleton.mp hp]; exact z)]
        cases faultOf (ps.take i) <;> rfl
      walk_at "rd"
      refine s_isiF wb ?_
      walk_at "rd"
      cases b with
      | flt z =>
        walk_at "rd"
        have e1 : faultOf [(x, Wo.flt z)] = .flt z := rfl
        rw [e1] at stepf
        cases ef : faultOf (ps.take i) with
        | non =>
          rw [ef] at hf stepf
          obtain rfl : f = .non := hf
          walk_at "rd"
          exact ⟨_, _, rfl, e, by rw [step, h2]; simp [Wo.int?], by rw [stepf]; exact wb⟩
        | flt z2 =>
          rw [ef] at hf stepf
          obtain ⟨p, rfl, hp⟩ := id hf
          walk_at "rd"
          exact ⟨_, _, rfl, e, by rw [step, h2]; simp [Wo.int?], by rw [stepf]; exact hf⟩
        | int z2 => exact absurd (fault_isF (ps := ps.take i) (by rw [ef]; intro z; cases z)) (by rw [ef]; intro z; cases z)
        | str z2 => exact absurd (fault_isF (ps := ps.take i) (by rw [ef]; intro z; cases z)) (by rw [ef]; intro z; cases z)
      | non =>
        obtain rfl : x = .non := wb
        walk_at "rd"
        exact ⟨_, _, rfl, e, by rw [step, h2]; simp [Wo.int?], by rw [same rfl]; exact hf⟩
      | str z =>
        obtain rfl : x = .str z := wb
        walk_at "rd"
        exact ⟨_, _, rfl, e, by rw [step, h2]; simp [Wo.int?], by rw [same rfl]; exact hf⟩
      | int z =>
        obtain rfl : x = .int z := wb
        walk_at "rd"
        refine s_append h2 (sz_lt ?_) ?_
        · have := nums_len (ps.take i)
          rw [List.length_take] at this
          rw [List.length_map]
          omega
        walk_at "rd"
        exact ⟨_, _, rfl, Same.mut e hn, by rw [step, upd_same]; simp [Wo.int?], by rw [same rfl]; exact hf.but But.upd h2⟩
    · rintro σ H' ⟨f, v, rfl, e, h2, hf⟩
      rw [List.length_map, List.take_length] at h2 hf
      walk_at "rd"
      rw [List.length_map]
      refine s_iteD (fun c => ?_) (fun c => ?_)
      · have c0 : nums ps = [] := List.eq_nil_of_length_eq_zero (by omega)
        walk_at "rd"
        refine fun p hp => q _ _ (e.trans (Same.new hp)) ?_
        have e1 : tallyW ps = ⟨0, 0, .non, .non, faultOf ps⟩ := by
          simp [tallyW, c0, loOf, hiOf]
        rw [e1]
        exact RT.new hp RW.n RW.n hf
      · have c0 : nums ps ≠ [] := fun z => c (by rw [z]; rfl)
        walk_at "rd"
        refine s_sortedL (sl_of h2) fun ns p hperm hpw hp => ?_
        have e6 : Same H (upd H' p (HO.lst (ns.map V.int))) := e.trans (Same.new hp)
        have h6 : (upd H' p (HO.lst (ns.map V.int))) p = some (.lst (ns.map V.int)) := upd_same
        have hf := hf.mono (Same.new (o := HO.lst (ns.map V.int)) hp)
        generalize upd H' p (HO.lst (ns.map V.int)) = H4 at *
        have hne : ns ≠ [] := fun z => by rw [z] at hperm; exact c0 hperm.symm.eq_nil
        walk_at "rd"
        refine s_sumL (sl_of h6) ?_
        walk_at "rd"
        obtain ⟨m, hm0, hm⟩ : ∃ m, atI (ns.map V.int) 0 = some (V.int m) ∧ leastI (nums ps) = m := by
          cases ens : ns with
          | nil => exact absurd ens hne
          | cons m r =>
            rw [ens] at hperm hpw
            exact ⟨m, at_nat (xs := (m :: r).map V.int) (i := 0) (v := V.int m) rfl, leastI_is (hperm.mem_iff.mp List.mem_cons_self) fun y hy => pw_first hpw y (hperm.mem_iff.mpr hy)⟩
        refine s_ixL (sl_of h6) hm0 ?_
        walk_at "rd"
        obtain ⟨m2, hm3, hm4⟩ : ∃ m, atI (ns.map V.int) (-1) = some (V.int m) ∧ mostI (nums ps) = m := by
          cases el : ns.getLast? with
          | none => exact absurd (List.getLast?_eq_none_iff.mp el) hne
          | some m =>
            obtain ⟨h8, h9⟩ := pw_last hpw el
            refine ⟨m, ?_, mostI_is (hperm.mem_iff.mp h8) fun y hy => h9 y (hperm.mem_iff.mpr hy)⟩
            obtain ⟨ys, ey⟩ := List.getLast?_eq_some_iff.mp el
            rw [ey, List.map_append]
            exact atI_last _ _
        refine s_ixL (sl_of h6) hm3 ?_
        walk_at "rd"
        refine fun l hl2 => q _ _ (e6.trans (Same.new hl2)) ?_
        have e1 : tallyW ps = ⟨ns.sum, ((ns.map V.int).length : Nat), .int m, .int m2, faultOf ps⟩ := by
          simp only [tallyW, loOf_ne c0, hiOf_ne c0, hm, hm4, perm_sum hperm, hperm.length_eq, List.length_map]
        rw [e1]
        exact RT.new hl2 RW.i RW.i hf

theorem fault_find (ps : List (V × Wo)) : faultOf ps = .non ∨ ∃ z, faultOf ps = .flt z := by
  by_cases h : faultOf ps = .non
  · exact .inl h
  · have h2 := fault_isF h
    cases e : faultOf ps with
    | flt z => exact .inr ⟨z, rfl⟩
    | _ => rw [e] at h2; cases h2
theorem gath_flt {word : Str} {ps : List (V × Wo)} {z : Str} (h : faultOf ps = .flt z) : gatheredW word ps = .flt z := by
  unfold gatheredW
  unfold faultOf at h
  cases e : ps.find? (fun p => p.2.isF) with
  | none => rw [e] at h; cases h
  | some p => rw [e] at h; exact h
theorem gath_non {word : Str} {ps : List (V × Wo)} (h : faultOf ps = .non) : gatheredW word ps = if word = "sum" then heldN (nums ps).sum else if word = "count" then .int (nums ps).length else if nums ps = [] then .flt "none" else if word = "least" then .int (leastI (nums ps)) else .int (mostI (nums ps)) := by
  unfold gatheredW
  unfold faultOf at h
  cases e : ps.find? (fun p => p.2.isF) with
  | none => rfl
  | some p =>
    rw [e] at h
    have h2 : p.2.isF = true := List.find?_some (p := fun p : V × Wo => p.2.isF) e
    have h3 : p.2 = .non := h
    rw [h3] at h2
    cases h2
def spTold (K : PySem.W.Frag) : Sp := fun vs H Q _ => ∃ (word : Str) (v : V) (ps : List (V × Wo)), vs = [.str word, v] ∧ RT K H v (tallyW ps) ∧ RetW K H Q (gatheredW word ps)
theorem ok_told (T : Txt K mg) : Def P w K mg base 1 "told_by" ["word", "tally"] (spTold K) := by
  refine def_of T.g_told_by T.f_told_by sc_told_by (fun _ _ _ _ _ _ us hl => match us, hl with | [_, _], _ => rfl) (fun vs H Q E h => ?_) (fun cdv A outer s H vs Q E hrm h => ?_)
  · obtain ⟨word, v, ps, rfl, _⟩ := h
    rfl
  · obtain ⟨word, v, ps, rfl, ⟨p, lo, hi, f, rfl, hp, h1, h2, h3⟩, q⟩ := h
    refine ⟨_, (pss_cons (ps_if (pt_cmpR op_notNo (pe_ix (ix_seqK (K := K)) (pv 1) pe_int (fun _ _ => rfl)) pe_non (nomark _))
 (pss_one (ps_ret (pe_ix (ix_seqK (K := K)) (pv 1) pe_int (fun _ _ => rfl))))
 pss_nil)
 (pss_cons (ps_if (pt_cmpR (op_eqU (K := K) hrm.units) (pv 0) pe_str (nomark _))
 (pss_cons (ps_if (pt_cmpR op_gt (pe_callB call_absI (by rfl) T.n_abs (by decide +kernel) (pa_cons (pe_ix (ix_seqK (K := K)) (pv 1) pe_int (fun _ _ => rfl)) pa_nil)) (pe_con T.c_MOST_NUMBER_halves (by rfl)) (nomark _))
 (pss_one (ps_ret (pe_tup (pa_cons pe_str (pa_cons pe_str pa_nil)))))
 pss_nil)
 (pss_one (ps_ret (pe_ix (ix_seqK (K := K)) (pv 1) pe_int (fun _ _ => rfl)))))
 pss_nil)
 (pss_cons (ps_if (pt_cmpR (op_eqU (K := K) hrm.units) (pv 0) pe_str (nomark _))
 (pss_one (ps_ret (pe_ix (ix_seqK (K := K)) (pv 1) pe_int (fun _ _ => rfl))))
 pss_nil)
 (pss_cons (ps_if (pt_cmpR (op_eqU (K := K) hrm.units) (pe_ix (ix_seqK (K := K)) (pv 1) pe_int (fun _ _ => rfl)) pe_int (nomark _))
 (pss_one (ps_ret (pe_tup (pa_cons pe_str (pa_cons pe_str pa_nil)))))
 pss_nil)
 (pss_cons (ps_if (pt_cmpR (op_eqU (K := K) hrm.units) (pv 0) pe_str (nomark _))
 (pss_one (ps_ret (pe_ix (ix_seqK (K := K)) (pv 1) pe_int (fun _ _ => rfl))))
 pss_nil)
 (pss_one (ps_ret (pe_ix (ix_seqK (K := K)) (pv 1) pe_int (fun _ _ => rfl))))))))), ?_⟩
    rw [st_told_by]
    try dsimp only [L2.cxOf]
    walk_at "rd"
    have h3' : RW K H f (faultOf ps) := h3
    have hp : SqT K H p [.int (nums ps).sum, .int ((nums ps).length : Nat), lo, hi, f] := hp
    rcases fault_find ps with ef | ⟨z, ef⟩
    · rw [gath_non ef] at q
      rw [ef] at h3'
      obtain rfl : f = .non := h3'
      walk_at "rd"
      refine s_iteD (fun c => ?_) (fun c => ?_)
      · rw [if_pos c] at q
        walk_at "rd"
        unfold heldN at q
        refine s_iteD (fun c2 => ?_) (fun c2 => ?_)
        · rw [if_pos (by omega)] at q
          walk_at "rd"
          exact fun t ht => q _ _ (Same.new ht) ⟨t, rfl, st_of upd_same⟩
        · rw [if_neg (by omega)] at q
          walk_at "rd"
          exact q _ _ (Same.refl H) rfl
      rw [if_neg c] at q
      walk_at "rd"
      refine s_iteD (fun c => ?_) (fun c => ?_)
      · rw [if_pos c] at q
        walk_at "rd"
        exact q _ _ (Same.refl H) rfl
      rw [if_neg c] at q
      walk_at "rd"
      refine s_iteD (fun c => ?_) (fun c => ?_)
      · rw [if_pos (List.eq_nil_of_length_eq_zero (by omega))] at q
        walk_at "rd"
        exact fun t ht => q _ _ (Same.new ht) ⟨t, rfl, st_of upd_same⟩
      have ne : nums ps ≠ [] := fun z => c (by rw [z]; rfl)
      rw [if_neg ne] at q
      have h1' : RW K H lo (loOf (nums ps)) := h1
      have h2' : RW K H hi (hiOf (nums ps)) := h2
      rw [loOf_ne ne] at h1'
      rw [hiOf_ne ne] at h2'
      walk_at "rd"
      refine s_iteD (fun c => ?_) (fun c => ?_)
      · rw [if_pos c] at q
        walk_at "rd"
        exact q _ _ (Same.refl H) h1'
      · rw [if_neg c] at q
        walk_at "rd"
        exact q _ _ (Same.refl H) h2'
    · rw [gath_flt ef] at q
      rw [ef] at h3'
      obtain ⟨p4, rfl, hp4⟩ := id h3'
      walk_at "rd"
      exact q _ _ (Same.refl H) h3'
theorem s_isiB {H : Hp} {Q : VK} {v : V} {a : Wo} (h : RW K H v a) (q : Q (.bl false) H) : rIsi K [v, .ty "bool"] H Q := by
  cases a with
  | flt w =>
    obtain ⟨p, rfl, hp⟩ := h
    exact s_isiSqT hp q
  | non => obtain rfl : v = .non := h; exact s_isiT .non q
  | int i => obtain rfl : v = .int i := h; exact s_isiT (.int i) q
  | str s => obtain rfl : v = .str s := h; exact s_isiT (.str s) q
theorem s_neW {H : Hp} {Q : VK} {v u : V} {a : Wo} (h : RW K H v a) (h2 : RW K H u a) (ka : a.ok) (q : Q (.bl false) H) : rNeU K v u H Q := by
  refine s_neD h.dp h2.dp (shaped_wo ka) (shaped_wo ka) ?_
  rw [SeqAt.eqv_refl _ (Bool.and_eq_true_iff.mp (shaped_wo ka)).1]
  exact q
def spTrue : Sp := fun vs H Q _ => vs = [] ∧ ∀ H', Same H H' → Q (.bl true) H'
theorem ok_bounds (T : Txt K mg) (D_told_by : Def P w K mg base 1 "told_by" ["word", "tally"] (spTold K)) : Def P w K mg base 2 "_law_at_bounds" [] spTrue := by
  refine def_of T.g__law_at_bounds T.f__law_at_bounds sc__law_at_bounds (fun _ _ _ _ _ _ us hl => match us, hl with | [], _ => rfl) (fun vs H Q E h => ?_) (fun cdv A outer s H vs Q E hrm h => ?_)
  · obtain ⟨rfl, _⟩ := h
    rfl
  · obtain ⟨rfl, q⟩ := h
    refine ⟨_, (pss_cons (ps_for (passes_of rfl) rfl (pi_listK (K := K) (pe_lst (pa_cons pe_int (pa_cons (pe_un un_neg pe_int) pa_nil)))) (pg_name (i := 0) sc__law_at_bounds.nd rfl (Or.inl rfl))
 (pss_one (ps_for (passes_of rfl) rfl (pi_listK (K := K) (pe_lst (pa_cons (pe_un un_neg pe_int) (pa_cons pe_int (pa_cons pe_int pa_nil))))) (pg_name (i := 1) sc__law_at_bounds.nd rfl (Or.inl rfl))
 (pss_cons (ps_set (i := 2) sc__law_at_bounds.nd rfl (Or.inl rfl) (pe_callB (call_sortedL (K := K)) (by rfl) T.n_sorted (by decide +kernel) (pa_cons (pe_lst (pa_cons (pe_op op_mulU (pv 0) (pe_op op_pow pe_int pe_int)) (pa_cons (pe_op op_mulU (pv 0) (pv 1)) pa_nil))) pa_nil)))
 (pss_cons (ps_set (i := 3) sc__law_at_bounds.nd rfl (Or.inl rfl) (pe_callB (call_sumL (K := K)) (by rfl) T.n_sum (by decide +kernel) (pa_cons (pv 2) pa_nil)))
 (pss_cons (ps_set (i := 4) sc__law_at_bounds.nd rfl (Or.inl rfl) (pe_tup (pa_cons (pv 3) (pa_cons pe_int (pa_cons (pe_ix (ix_seqK (K := K)) (pv 2) pe_int (fun _ _ => rfl)) (pa_cons (pe_ix (ix_seqK (K := K)) (pv 2) pe_int (fun _ _ => rfl)) (pa_cons pe_non pa_nil)))))))
 (pss_cons (ps_set (i := 5) sc__law_at_bounds.nd rfl (Or.inl rfl) (pe_dcall D_told_by (hrm.mono (by decide)) (by rfl) passL (pa_cons pe_str (pa_cons (pv 4) pa_nil))))
 (pss_cons (ps_set (i := 6) sc__law_at_bounds.nd rfl (Or.inl rfl) (pv 3))
 (pss_cons (ps_if (pt_cmpR op_gt (pv 1) pe_int (nomark _))
 (pss_one (ps_set (i := 6) sc__law_at_bounds.nd rfl (Or.inl rfl) (pe_tup (pa_cons pe_str (pa_cons pe_str pa_nil)))))
 pss_nil)
 (pss_cons (ps_if (PW.pt (pw_or (pt_cmpR (op_neU (K := K) hrm.units) (pv 5) (pv 6) (nomark _)) (pw_or1 (pt_cmpR (op_neU (K := K) hrm.units) (pe_callB (call_isiK (K := K)) (by rfl) T.n_isinstance (by decide +kernel) (pa_cons (pv 5) (pa_cons (pe_bltn (v := .ty "tuple") (u := .type "tuple") rfl T.n_tuple (by decide +kernel) (by rfl)) pa_nil))) (pe_cmpR op_gt (pv 1) pe_int (nomark _)) (nomark _)))))
 (pss_one (ps_ret pe_bl))
 pss_nil)
 (pss_one (ps_if (PW.pt (pw_or (pt_cmpR (op_neU (K := K) hrm.units) (pe_dcall D_told_by (hrm.mono (by decide)) (by rfl) passL (pa_cons pe_str (pa_cons (pv 4) pa_nil))) pe_int (nomark _)) (pw_or1 (pt_cmpR (op_neU (K := K) hrm.units) (pe_dcall D_told_by (hrm.mono (by decide)) (by rfl) passL (pa_cons pe_str (pa_cons (pv 4) pa_nil))) (pe_ix (ix_seqK (K := K)) (pv 2) pe_int (fun _ _ => rfl)) (nomark _)))))
 (pss_one (ps_ret pe_bl))
 pss_nil))))))))))))
 (pss_one (ps_ret pe_bl))), ?_⟩
    rw [st__law_at_bounds]
    try dsimp only [L2.cxOf]
    walk_at "rd"
    intro l hl0
    walk_at "rd"
    have s1 : Same H (upd H l (HO.lst [V.int 1, V.int (-1)])) := Same.new hl0
    have h1 : (upd H l (HO.lst [V.int 1, V.int (-1)])) l = some (.lst ([1, -1].map V.int)) := upd_same
    generalize upd H l (HO.lst [V.int 1, V.int (-1)]) = H1 at *
    refine s_forL (xs := [1, -1].map V.int) (fun i σ H' => ∃ (v1 v2 v3 v4 v5 v6 v7 : Option V), σ = [v1, v2, v3, v4, v5, v6, v7] ∧ Same H1 H') ⟨_, _, _, _, _, _, _, rfl, Same.refl _⟩ (fun i σ H' _ ⟨_, _, _, _, _, _, _, _, e⟩ => sl_of (e _ _ h1)) ?_ ?_
    · rintro i x σ H2 hi ⟨v1, v2, v3, v4, v5, v6, v7, rfl, e⟩
      obtain ⟨turn, rfl, ht⟩ : ∃ t : Int, x = .int t ∧ (t = 1 ∨ t = -1) := by
        match i, hi with
        | 0, hi => exact ⟨1, (Option.some.inj hi).symm, .inl rfl⟩
        | 1, hi => exact ⟨-1, (Option.some.inj hi).symm, .inr rfl⟩
      walk_at "rd"
      intro l2 hl2
      walk_at "rd"
      have s2 : Same H2 (upd H2 l2 (HO.lst [V.int (-1), V.int 0, V.int 1])) := Same.new hl2
      have h2 : (upd H2 l2 (HO.lst [V.int (-1), V.int 0, V.int 1])) l2 = some (.lst ([-1, 0, 1].map V.int)) := upd_same
      generalize upd H2 l2 (HO.lst [V.int (-1), V.int 0, V.int 1]) = H3 at *
      refine s_forL (xs := [-1, 0, 1].map V.int) (fun i σ H' => ∃ (v2 v3 v4 v5 v6 v7 : Option V), σ = [some (.int turn), v2, v3, v4, v5, v6, v7] ∧ Same H3 H') ⟨_, _, _, _, _, _, rfl, Same.refl _⟩ (fun i σ H' _ ⟨_, _, _, _, _, _, _, e⟩ => sl_of (e _ _ h2)) ?_ ?_
      · rintro j y σ H4 hj ⟨v2, v3, v4, v5, v6, v7, rfl, e4⟩
        obtain ⟨more, rfl, hm⟩ : ∃ t : Int, y = .int t ∧ (t = -1 ∨ t = 0 ∨ t = 1) := by
          match j, hj with
          | 0, hj => exact ⟨-1, (Option.some.inj hj).symm, .inl rfl⟩
          | 1, hj => exact ⟨0, (Option.some.inj hj).symm, .inr (.inl rfl)⟩
          | 2, hj => exact ⟨1, (Option.some.inj hj).symm, .inr (.inr rfl)⟩
        have e60 : (10 : Int) ^ Int.toNat 60 = 10 ^ 60 := rfl
        have tb : turn.natAbs ≤ 10 ^ 600 := by rcases ht with rfl | rfl <;> decide +kernel
        have mb : more.natAbs ≤ 10 ^ 600 := by rcases hm with rfl | rfl | rfl <;> decide +kernel
        walk_at "rd"
        refine ⟨wide_600 tb (by rw [e60]; decide +kernel), ?_⟩
        walk_at "rd"
        refine ⟨wide_600 tb mb, ?_⟩
        walk_at "rd"
        intro l3 hl3
        walk_at "rd"
        refine s_sortedL (ns := [turn * 10 ^ Int.toNat 60, turn * more]) (sl_of upd_same) fun ns p hperm hpw hp => ?_
        have e5 : Same H4 (upd (upd H4 l3 (HO.lst [V.int (turn * 10 ^ Int.toNat 60), V.int (turn * more)])) p (HO.lst (ns.map V.int))) := (Same.new hl3).trans (Same.new hp)
        have h5 : (upd (upd H4 l3 (HO.lst [V.int (turn * 10 ^ Int.toNat 60), V.int (turn * more)])) p (HO.lst (ns.map V.int))) p = some (.lst (ns.map V.int)) := upd_same
        generalize upd (upd H4 l3 (HO.lst [V.int (turn * 10 ^ Int.toNat 60), V.int (turn * more)])) p (HO.lst (ns.map V.int)) = H5 at *
        have hsum := perm_sum hperm
        have hlen := hperm.length_eq
        rw [e60] at hsum
        match ns, hlen with
        | [u, z], _ =>
          have huz : u ≤ z := by
            have := (List.pairwise_cons.mp hpw).1 z (by simp)
            exact this
          have hs : u + z = turn * 10 ^ 60 + turn * more := by simpa using hsum
          clear hsum hperm hpw
          have et : tallyW [(V.int u, Wo.int u), (V.int z, Wo.int z)] = ⟨u + z, 2, .int u, .int z, .non⟩ := by
            have a : min u z = u := by omega
            have b : max u z = z := by omega
            simp [tallyW, nums, Wo.int?, loOf, hiOf, leastI, mostI, faultOf, Wo.isF, a, b]
          have hs0 : ([u, z] : List Int).sum = u + z := by simp
          walk_at "rd"
          refine s_sumL (sl_of h5) ?_
          rw [hs0]
          walk_at "rd"
          intro t1 ht1
          walk_at "rd"
          have w0 : RT K (upd H5 t1 (HO.tup [V.int (u + z), V.int 2, V.int u, V.int z, V.non])) (.ref t1) (tallyW [(V.int u, Wo.int u), (V.int z, Wo.int z)]) := by
            rw [et]
            exact RT.new ht1 RW.i RW.i RW.n
          have e6 : Same H5 (upd H5 t1 (HO.tup [V.int (u + z), V.int 2, V.int u, V.int z, V.non])) := Same.new ht1
          generalize upd H5 t1 (HO.tup [V.int (u + z), V.int 2, V.int u, V.int z, V.non]) = H6 at *
          refine ⟨_, _, _, rfl, w0, fun H7 r e7 w7 => ?_⟩
          have gs : gatheredW (Str.ofString "sum") [(V.int u, Wo.int u), (V.int z, Wo.int z)] = heldN (u + z) := by
            rw [gath_non rfl, if_pos rfl]
            simp [nums, Wo.int?]
          have gc : gatheredW (Str.ofString "count") [(V.int u, Wo.int u), (V.int z, Wo.int z)] = .int 2 := by
            rw [gath_non rfl, if_neg (by decide +kernel), if_pos rfl]
            simp [nums, Wo.int?]
          have gl : gatheredW (Str.ofString "least") [(V.int u, Wo.int u), (V.int z, Wo.int z)] = .int u := by
            have a : min u z = u := by omega
            rw [gath_non rfl, if_neg (by decide +kernel), if_neg (by decide +kernel)]
            simp [nums, Wo.int?, leastI, a]
          rw [gs] at w7
          have h7 : H7 p = some (.lst ([u, z].map V.int)) := e7 _ _ (e6 _ _ h5)
          have w07 := w0.mono e7
          have e17 : Same H1 H7 := (((e.trans s2).trans e4).trans e5).trans (e6.trans e7)
          have e37 : Same H3 H7 := (e4.trans e5).trans (e6.trans e7)
          walk_at "rd"
          refine s_iteD (fun c => ?_) (fun c => ?_)
          · have hg : heldN (u + z) = .flt "great" := if_pos (by rcases ht with rfl | rfl <;> rcases hm with rfl | rfl | rfl <;> omega)
            rw [hg] at w7
            walk_at "rd"
            intro t2 ht2
            walk_at "rd"
            have e8 : Same H7 (upd H7 t2 (HO.tup [V.str (Str.ofString "fault"), V.str (Str.ofString "great")])) := Same.new ht2
            have wd : RW K (upd H7 t2 (HO.tup [V.str (Str.ofString "fault"), V.str (Str.ofString "great")])) (.ref t2) (.flt "great") := ⟨t2, rfl, st_of upd_same⟩
            generalize upd H7 t2 (HO.tup [V.str (Str.ofString "fault"), V.str (Str.ofString "great")]) = H8 at *
            refine s_neW (w7.mono e8) wd ⟨by decide +kernel, by decide +kernel⟩ ?_
            walk_at "rd"
            refine s_isiF (w7.mono e8) ?_
            walk_at "rd"
            refine s_no (by rw [decide_eq_true c]; rfl) ?_
            walk_at "rd"
            refine ⟨_, _, _, rfl, w07.mono e8, fun H9 r9 e9 w9 => ?_⟩
            rw [gc] at w9
            obtain rfl : r9 = .int 2 := w9
            walk_at "rd"
            refine ⟨_, _, _, rfl, (w07.mono e8).mono e9, fun H10 r10 e10 w10 => ?_⟩
            rw [gl] at w10
            obtain rfl : r10 = .int u := w10
            walk_at "rd"
            refine s_no (by simp) ?_
            walk_at "rd"
            exact ⟨_, _, _, _, _, _, rfl, ((e37.trans e8).trans e9).trans e10⟩
          · have hg : heldN (u + z) = .int (u + z) := if_neg (by rcases ht with rfl | rfl <;> rcases hm with rfl | rfl | rfl <;> omega)
            rw [hg] at w7
            obtain rfl : r = .int (u + z) := w7
            walk_at "rd"
            refine s_no (by simp) ?_
            walk_at "rd"
            refine s_no (by rw [decide_eq_false c]; rfl) ?_
            walk_at "rd"
            refine ⟨_, _, _, rfl, w07, fun H9 r9 e9 w9 => ?_⟩
            rw [gc] at w9
            obtain rfl : r9 = .int 2 := w9
            walk_at "rd"
            refine ⟨_, _, _, rfl, w07.mono e9, fun H10 r10 e10 w10 => ?_⟩
            rw [gl] at w10
            obtain rfl : r10 = .int u := w10
            walk_at "rd"
            refine s_no (by simp) ?_
            walk_at "rd"
            exact ⟨_, _, _, _, _, _, rfl, (e37.trans e9).trans e10⟩
      · rintro σ H4 ⟨v2, v3, v4, v5, v6, v7, rfl, e4⟩
        exact ⟨_, _, _, _, _, _, _, rfl, (e.trans s2).trans e4⟩
    · rintro σ H2 ⟨v1, v2, v3, v4, v5, v6, v7, rfl, e⟩
      walk_at "rd"
      exact q _ (s1.trans e)

end
end Ol

local macro_rules | `(tactic| walk_at "rw") => `(tactic| first | exact Ol.RW.n | exact Ol.RW.i | exact Ol.RW.s | assumption | exact Ol.RW.mono (by assumption) (by walk_at "rw"))
local macro_rules | `(tactic| walk_at "rd1") => `(tactic| with_reducible first
  | (show Ol.spIsFault _ _ _ _ _; refine Ol.s_isF (by with_unfolding_all walk_at "rw") ?_)
  | (show Ol.spIsText _ _ _ _ _; refine Ol.s_isS (by with_unfolding_all walk_at "rw") ?_)
  | (show Ol.spFault _ _ _ _ _; refine Ol.s_fltW ?_))

local macro_rules | `(tactic| walk_at "rd1") => `(tactic| with_reducible (show Ol.spHeld _ _ _ _ _; refine Ol.s_held ?_))

namespace Ol
open PySem PySem.Spec PyProof.Rows L2
section
variable {P : Program} {w : World} {K : PySem.W.Frag} {mg : Str → Option Value} {base : Heap}

/-! slices of a told row -/
theorem sIx_int {n d : Nat} {k : Int} (h0 : 0 ≤ k) (h1 : k ≤ (n : Int)) : HT.sIx n d (some k) = k.toNat := by
  obtain ⟨m, rfl⟩ := Int.eq_ofNat_of_zero_le h0
  rw [HT.sIx_nat]
  show min m n = m
  omega
theorem cut_to {α : Type} {f : α → V} {ps : List α} {k : Int} (h0 : 0 ≤ k) (h1 : k ≤ (ps.length : Int)) : cutV (ps.map f) none (some k) = (ps.take k.toNat).map f := by
  unfold cutV
  rw [List.length_map, HT.sIx_none, sIx_int h0 h1, List.drop_zero, Nat.sub_zero, List.map_take]
theorem cut_from {α : Type} {f : α → V} {ps : List α} {k : Int} (h0 : 0 ≤ k) (h1 : k ≤ (ps.length : Int)) : cutV (ps.map f) (some k) none = (ps.drop k.toNat).map f := by
  unfold cutV
  rw [List.length_map, HT.sIx_none, sIx_int h0 h1, List.map_drop]
  exact List.take_of_length_le (by rw [List.length_drop, List.length_map]; exact Nat.le_refl _)
theorem cut_mid {α : Type} {f : α → V} {ps : List α} {k j : Int} (h0 : 0 ≤ k) (h1 : k ≤ (ps.length : Int)) (h2 : 0 ≤ j) (h3 : j ≤ (ps.length : Int)) : cutV (ps.map f) (some k) (some j) = ((ps.drop k.toNat).take (j.toNat - k.toNat)).map f := by
  unfold cutV
  rw [List.length_map, sIx_int h0 h1, sIx_int h2 h3, List.map_take, List.map_drop]
theorem RWp.take {H : Hp} {ps : List (V × Wo)} (k : Nat) (h : RWp K H ps) : RWp K H (ps.take k) := fun p hp => h p (List.mem_of_mem_take hp)
theorem RWp.drop {H : Hp} {ps : List (V × Wo)} (k : Nat) (h : RWp K H ps) : RWp K H (ps.drop k) := fun p hp => h p (List.mem_of_mem_drop hp)
theorem okp_take {ps : List (V × Wo)} (k : Nat) (h : okp ps) : okp (ps.take k) := fun p hp => h p (List.mem_of_mem_take hp)
theorem okp_drop {ps : List (V × Wo)} (k : Nat) (h : okp ps) : okp (ps.drop k) := fun p hp => h p (List.mem_of_mem_drop hp)

theorem ok_law (T : Txt K mg) : Def P w K mg base 4 "law" ["script"] (spLawB K) := by
  have D__law_digit : Def P w K mg base 1 "_law_digit" ["row", "many"] spDigit := ok_digit T
  have D__law_worth : Def P w K mg base 2 "_law_worth" ["row"] (spWorth K) := ok_worth T D__law_digit
  have D__law_cell_at : Def P w K mg base 1 "_law_cell_at" ["script", "k"] (spCellAt K) := ok_cell_at T
  have D__law_mixed : Def P w K mg base 1 "_law_mixed" ["cell", "k"] spMixed := ok_mixed T
  have D__law_row_of : Def P w K mg base 2 "_law_row_of" ["script", "k"] (spRowOf K) := ok_row_of T D__law_cell_at D__law_mixed
  have D__law_worths : Def P w K mg base 3 "_law_worths" ["script", "many", "faults"] (spWorths K) := ok_worths T D__law_worth D__law_row_of
  have D_is_fault : Def P w K mg base 1 "is_fault" ["worth"] (spIsFault K) := ok_is_fault T
  have D_is_text : Def P w K mg base 1 "is_text" ["worth"] (spIsText K) := ok_is_text T
  have D_fault : Def P w K mg base 1 "fault" ["word"] (spFault K) := ok_fault T
  have D_held_number : Def P w K mg base 2 "held_number" ["number"] (spHeld K) := ok_held T D_fault
  have D_gathered : Def P w K mg base 3 "gathered" ["word", "worths"] (spGathered K) := ok_gathered T D_is_fault D_is_text D_fault D_held_number
  have D__law_tally : Def P w K mg base 1 "_law_tally" ["worths"] (spLTally K) := ok_ltally T
  have D_told_by : Def P w K mg base 1 "told_by" ["word", "tally"] (spTold K) := ok_told T
  have D__law_at_bounds : Def P w K mg base 2 "_law_at_bounds" [] spTrue := ok_bounds T D_told_by
  refine def_of T.g_law T.f_law sc_law (fun _ _ _ _ _ _ us hl => match us, hl with | [_], _ => rfl) (fun vs H Q E h => ?_) (fun cdv A outer s H vs Q E hrm h => ?_)
  · obtain ⟨a, ns, rfl, _⟩ := h
    rfl
  · obtain ⟨a, ns, rfl, hS, hl, hb, q⟩ := h
    refine ⟨_, (pss_cons (ps_set (i := 1) sc_law.nd rfl (Or.inr rfl) (pe_dcall D__law_worths (hrm.mono (by decide)) (by rfl) passL (pa_cons (pv 0) (pa_cons (pe_callB call_maxP (by rfl) T.n_max (by decide +kernel) (pa_cons pe_int (pa_cons (pe_op op_sub (pe_callB (call_lenU (K := K)) (by rfl) T.n_len (by decide +kernel) (pa_cons (pv 0) pa_nil)) pe_int) pa_nil))) (pa_cons (pe_cmpR (op_eqU (K := K) hrm.units) (pe_op op_mod (pe_op op_fdivW (pe_dcall D__law_cell_at (hrm.mono (by decide)) (by rfl) passL (pa_cons (pv 0) (pa_cons pe_int pa_nil))) pe_int) pe_int) pe_int (nomark _)) pa_nil)))))
 (pss_cons (ps_setLc (i := 2) (own := [("k", 10)]) (g := gName 10) (tt := tYes) rfl sc_law.nd rfl (by rfl) (sw_true rfl rfl rfl (by decide +kernel)) (pi_range1 rfl T.n_range (pa_cons pe_int pa_nil)) (blkOk_by (N := N_law) (sc := defScope s_law) (by decide +kernel)) (fun _ _ _ _ _ => pg_name (i := 10) sc_law.nd rfl (Or.inl rfl)) (fun _ _ _ _ _ => pts_nil) (fun _ _ _ _ _ => (pe_op op_mod (pe_dcall D__law_mixed (hrm.mono (by decide)) (by rfl) passL (pa_cons (pe_callB (call_sumL (K := K)) (by rfl) T.n_sum (by decide +kernel) (pa_cons (pv 0) pa_nil)) (pa_cons (pe_op (op_addU (K := K)) pe_int (pv 10)) pa_nil))) (pe_op (op_addU (K := K)) (pe_callB (call_lenU (K := K)) (by rfl) T.n_len (by decide +kernel) (pa_cons (pv 1) pa_nil)) pe_int))))
 (pss_cons (ps_for (passes_of rfl) rfl (pi_listK (K := K) (pe_op (op_addU (K := K)) (pe_lst (pa_cons pe_int (pa_cons (pe_callB (call_lenU (K := K)) (by rfl) T.n_len (by decide +kernel) (pa_cons (pv 1) pa_nil)) pa_nil))) (pv 2))) (pg_name (i := 3) sc_law.nd rfl (Or.inl rfl))
 (pss_cons (ps_set (i := 4) sc_law.nd rfl (Or.inl rfl) (pe_op op_mod (pe_dcall D__law_mixed (hrm.mono (by decide)) (by rfl) passL (pa_cons (pe_callB (call_sumL (K := K)) (by rfl) T.n_sum (by decide +kernel) (pa_cons (pv 0) pa_nil)) (pa_cons (pe_op (op_addU (K := K)) pe_int (pv 3)) pa_nil))) (pe_op (op_addU (K := K)) (pv 3) pe_int)))
 (pss_one (ps_for (passes_of rfl) rfl (pi_listK (K := K) (pe_lst (pa_cons (pe_slice (sl_listK (K := K)) (pv 1) po_none (po_some (pv 3))) (pa_cons (pe_slice (sl_listK (K := K)) (pv 1) (po_some (pv 4)) (po_some (pv 3))) pa_nil)))) (pg_name (i := 5) sc_law.nd rfl (Or.inl rfl))
 (pss_cons (ps_set (i := 6) sc_law.nd rfl (Or.inl rfl) (pe_dcall D__law_tally (hrm.mono (by decide)) (by rfl) passL (pa_cons (pv 5) pa_nil)))
 (pss_one (ps_for (passes_of rfl) rfl (pi_listK (K := K) (pe_lst (pa_cons pe_str (pa_cons pe_str (pa_cons pe_str (pa_cons pe_str pa_nil)))))) (pg_name (i := 7) sc_law.nd rfl (Or.inl rfl))
 (pss_cons (ps_set (i := 8) sc_law.nd rfl (Or.inl rfl) (pe_dcall D_told_by (hrm.mono (by decide)) (by rfl) passL (pa_cons (pv 7) (pa_cons (pv 6) pa_nil))))
 (pss_one (ps_if (PW.pt (pw_or (pt_cmpR (op_neU (K := K) hrm.units) (pv 8) (pe_dcall D_gathered (hrm.mono (by decide)) (by rfl) passL (pa_cons (pv 7) (pa_cons (pv 5) pa_nil))) (nomark _)) (pw_or1 (pt_val (pe_callB (call_isiK (K := K)) (by rfl) T.n_isinstance (by decide +kernel) (pa_cons (pv 8) (pa_cons (pe_bltn (v := .ty "bool") (u := .type "bool") rfl T.n_bool (by decide +kernel) (by rfl)) pa_nil)))))))
 (pss_one (ps_ret pe_bl))
 pss_nil))))))))))
 (pss_cons (ps_setLc (i := 9) (own := [("word", 7)]) (g := gName 7) (tt := tYes) rfl sc_law.nd rfl (by rfl) (sw_true rfl rfl rfl (by decide +kernel)) (pi_listK (K := K) (pe_lst (pa_cons pe_str (pa_cons pe_str (pa_cons pe_str (pa_cons pe_str pa_nil)))))) (blkOk_by (N := N_law) (sc := defScope s_law) (by decide +kernel)) (fun _ _ _ _ _ => pg_name (i := 7) sc_law.nd rfl (Or.inl rfl)) (fun _ _ _ _ _ => pts_nil) (fun _ _ _ _ _ => (pe_dcall D_told_by (hrm.mono (by decide)) (by rfl) passL (pa_cons (pv 7) (pa_cons (pe_tup (pa_cons pe_int (pa_cons pe_int (pa_cons pe_non (pa_cons pe_non (pa_cons pe_non pa_nil)))))) pa_nil)))))
 (pss_one (ps_ret (pe_and (pe_cmpR (op_eqU (K := K) hrm.units) (pv 9) (pe_lst (pa_cons pe_int (pa_cons pe_int (pa_cons (pe_tup (pa_cons pe_str (pa_cons pe_str pa_nil))) (pa_cons (pe_tup (pa_cons pe_str (pa_cons pe_str pa_nil))) pa_nil))))) (nomark _)) (pe_one (pe_dcall0 D__law_at_bounds (hrm.mono (by decide)) (by rfl) passL))))))))), ?_⟩
    rw [st_law]
    try dsimp only [L2.cxOf]
    walk_at "rd"
    rw [List.length_map]
    refine s_cellAt hS (by decide) fun z => ?_
    walk_at "rd"
    refine ⟨a, _, _, ns, rfl, hS, hl, by split <;> omega, by split <;> omega, fun H6 l ps e7 hl0 g6 hr6 hk hpl => ?_⟩
    have hn : ps.length ≤ 100 := by
      rw [hpl]; split <;> omega
    clear hpl
    have no : okp [] := fun _ h => absurd h (by simp)
    have noR : ∀ H, RWp K H [] := fun _ _ h => absurd h (by simp)
    walk_at "rd"
    refine s_lcR0 (fun D i H1 => Same H6 H1 ∧ ∃ cs : List Int, H1 D = some (.lst (cs.map V.int)) ∧ cs.length = i ∧ ∀ c ∈ cs, 0 ≤ c ∧ c ≤ (ps.length : Int)) (fun D hD => ⟨Same.new hD, [], upd_same, rfl, fun _ h => absurd h (by simp)⟩) ?_ ?_
    · rintro D i H7 hD hi ⟨e9, cs, g7, hcl, hcs⟩
      have i6 : i < 6 := hi
      have g8 := e9 _ _ g6
      walk_at "rd"
      refine s_sumL ((e7.trans e9).seq hS) ?_
      walk_at "rd"
      refine s_mixed (by omega) (by omega) fun m m0 m1 => ?_
      walk_at "rd"
      refine ⟨_, g7, sz_lt (by rw [List.length_map]; omega), Same.mut e9 hD, cs ++ [m % (((ps.map (·.1)).length : Nat) + 1)], by rw [upd_same, List.map_append]; rfl, by rw [List.length_append, hcl]; rfl, fun x hx => ?_⟩
      rcases List.mem_append.mp hx with hx | hx
      · exact hcs x hx
      · rw [List.mem_singleton.mp hx, List.length_map]
        have z0 := Int.emod_nonneg m (show ((ps.length : Int) + 1) ≠ 0 by omega)
        have z1 := Int.emod_lt_of_pos m (show 0 < ((ps.length : Int) + 1) by omega)
        omega
    rintro D H7 hD ⟨e9, cs, g7, hcl, hcs⟩
    have g8 := e9 _ _ g6
    have hr8 := hr6.mono e9
    have hcl : cs.length = 6 := hcl
    walk_at "rd"
    intro l2 hl2
    walk_at "rd"
    intro l3 hl3
    walk_at "rd"
    have hx : [V.int 0, V.int ((ps.map (·.1)).length : Nat)] ++ cs.map V.int = ([0, ((ps.length : Nat) : Int)] ++ cs).map V.int := by rw [List.map_append, List.length_map]; rfl
    rw [hx] at *
    have e10 : Same H7 (upd (upd H7 l2 (HO.lst [V.int 0, V.int ((ps.map (·.1)).length : Nat)])) l3 (HO.lst (([0, ((ps.length : Nat) : Int)] ++ cs).map V.int))) := (Same.new hl2).trans (Same.new hl3)
    have g9 : (upd (upd H7 l2 (HO.lst [V.int 0, V.int ((ps.map (·.1)).length : Nat)])) l3 (HO.lst (([0, ((ps.length : Nat) : Int)] ++ cs).map V.int))) l3 = some (.lst (([0, ((ps.length : Nat) : Int)] ++ cs).map V.int)) := upd_same
    generalize upd (upd H7 l2 (HO.lst [V.int 0, V.int ((ps.map (·.1)).length : Nat)])) l3 (HO.lst (([0, ((ps.length : Nat) : Int)] ++ cs).map V.int)) = H8 at *
    have g10 := e10 _ _ g8
    have hr10 := hr8.mono e10
    have eS : Same H H8 := (e7.trans e9).trans e10
    refine s_forL (xs := ([0, ((ps.length : Nat) : Int)] ++ cs).map V.int) (fun i σ H' => ∃ (v1 v2 v3 v4 v5 v6 v7 v8 v9 : Option V), σ = [some (.ref a), some (.ref l), some (.ref D), v1, v2, v3, v4, v5, v6, v7, v8] ∧ Same H8 H') ⟨_, _, _, _, _, _, _, _, none, rfl, Same.refl _⟩ (fun i σ H' _ ⟨_, _, _, _, _, _, _, _, _, _, e⟩ => sl_of (e _ _ g9)) ?_ ?_
    · rintro i x σ H9 hi ⟨v1, v2, v3, v4, v5, v6, v7, v8, v9, rfl, e⟩
      obtain ⟨at1, rfl, k0, k1⟩ : ∃ k : Int, x = .int k ∧ 0 ≤ k ∧ k ≤ (ps.length : Int) := by
        have := List.mem_of_getElem? hi
        obtain ⟨k, h1, h2⟩ := List.mem_map.mp this
        refine ⟨k, h2.symm, ?_⟩
        rcases List.mem_append.mp h1 with h1 | h1
        · rcases List.mem_cons.mp h1 with rfl | h1
          · omega
          · rw [List.mem_singleton.mp h1]; omega
        · exact hcs k h1
      have g11 := e _ _ g10
      have hr11 := hr10.mono e
      walk_at "rd"
      refine s_sumL ((eS.trans e).seq hS) ?_
      walk_at "rd"
      refine s_mixed (by omega) (by omega) fun m m0 m1 => ?_
      walk_at "rd"
      have lo0 := Int.emod_nonneg m (show at1 + 1 ≠ 0 by omega)
      have lo1 := Int.emod_lt_of_pos m (show 0 < at1 + 1 by omega)
      intro b1 hb1
      rw [cut_to k0 k1] at *
      walk_at "rd"
      intro b2 hb2
      rw [cut_mid lo0 (by omega) k0 k1] at *
      walk_at "rd"
      intro b3 hb3
      walk_at "rd"
      have f1 : Same H9 (upd (upd (upd H9 b1 (HO.lst ((ps.take at1.toNat).map (·.1)))) b2 (HO.lst (((ps.drop (m % (at1 + 1)).toNat).take (at1.toNat - (m % (at1 + 1)).toNat)).map (·.1)))) b3 (HO.lst [V.ref b1, V.ref b2])) := ((Same.new hb1).trans (Same.new hb2)).trans (Same.new hb3)
      have g12 : (upd (upd (upd H9 b1 (HO.lst ((ps.take at1.toNat).map (·.1)))) b2 (HO.lst (((ps.drop (m % (at1 + 1)).toNat).take (at1.toNat - (m % (at1 + 1)).toNat)).map (·.1)))) b3 (HO.lst [V.ref b1, V.ref b2])) b1 = some (.lst ((ps.take at1.toNat).map (·.1))) := hf_new hb3 (hf_new hb2 upd_same)
      have g13 : (upd (upd (upd H9 b1 (HO.lst ((ps.take at1.toNat).map (·.1)))) b2 (HO.lst (((ps.drop (m % (at1 + 1)).toNat).take (at1.toNat - (m % (at1 + 1)).toNat)).map (·.1)))) b3 (HO.lst [V.ref b1, V.ref b2])) b2 = some (.lst (((ps.drop (m % (at1 + 1)).toNat).take (at1.toNat - (m % (at1 + 1)).toNat)).map (·.1))) := hf_new hb3 upd_same
      have g14 : (upd (upd (upd H9 b1 (HO.lst ((ps.take at1.toNat).map (·.1)))) b2 (HO.lst (((ps.drop (m % (at1 + 1)).toNat).take (at1.toNat - (m % (at1 + 1)).toNat)).map (·.1)))) b3 (HO.lst [V.ref b1, V.ref b2])) b3 = some (.lst [V.ref b1, V.ref b2]) := upd_same
      generalize (upd (upd (upd H9 b1 (HO.lst ((ps.take at1.toNat).map (·.1)))) b2 (HO.lst (((ps.drop (m % (at1 + 1)).toNat).take (at1.toNat - (m % (at1 + 1)).toNat)).map (·.1)))) b3 (HO.lst [V.ref b1, V.ref b2])) = H10 at *
      have hr12 := hr11.mono f1
      have all : ∀ (j : Nat) (x : V), [V.ref b1, V.ref b2][j]? = some x → ∃ (p : Addr) (qs : List (V × Wo)), x = .ref p ∧ H10 p = some (.lst (qs.map (·.1))) ∧ RWp K H10 qs ∧ okp qs ∧ qs.length ≤ 1000 := fun j x hj => by
        match j, hj with
        | 0, hj => exact ⟨b1, _, (Option.some.inj hj).symm, g12, hr12.take _, okp_take _ hk, by rw [List.length_take]; omega⟩
        | 1, hj => exact ⟨b2, _, (Option.some.inj hj).symm, g13, (hr12.drop _).take _, okp_take _ (okp_drop _ hk), by rw [List.length_take, List.length_drop]; omega⟩
      refine s_forL (xs := [V.ref b1, V.ref b2]) (fun i σ H' => ∃ (v3 v4 v5 v6 v7 v8 : Option V), σ = [some (.ref a), some (.ref l), some (.ref D), some (.int at1), some (.int (m % (at1 + 1))), v3, v4, v5, v6, v7, v8] ∧ Same H10 H') ⟨_, _, _, _, _, _, rfl, Same.refl _⟩ (fun i σ H' _ ⟨_, _, _, _, _, _, _, e⟩ => sl_of (e _ _ g14)) ?_ ?_
      · rintro j x σ H11 hj ⟨v3, v4, v5, v6, v7, v8, rfl, f2⟩
        obtain ⟨p, qs, rfl, y1, y2, y3, y4⟩ := all j x hj
        have y1 := f2 _ _ y1
        have y2 := y2.mono f2
        walk_at "rd"
        refine ⟨p, qs, rfl, sl_of y1, y2, by omega, fun H12 t f3 w3 => ?_⟩
        walk_at "rd"
        intro b4 hb4
        walk_at "rd"
        have f4 : Same H12 (upd H12 b4 (HO.lst [V.str (Str.ofString "sum"), V.str (Str.ofString "count"), V.str (Str.ofString "least"), V.str (Str.ofString "greatest")])) := Same.new hb4
        have g4 : (upd H12 b4 (HO.lst [V.str (Str.ofString "sum"), V.str (Str.ofString "count"), V.str (Str.ofString "least"), V.str (Str.ofString "greatest")])) b4 = some (.lst [V.str (Str.ofString "sum"), V.str (Str.ofString "count"), V.str (Str.ofString "least"), V.str (Str.ofString "greatest")]) := upd_same
        generalize upd H12 b4 (HO.lst [V.str (Str.ofString "sum"), V.str (Str.ofString "count"), V.str (Str.ofString "least"), V.str (Str.ofString "greatest")]) = H13 at *
        have w3 := w3.mono f4
        have y1 := f4 _ _ (f3 _ _ y1)
        have y2 := (y2.mono f3).mono f4
        refine s_forL (xs := [V.str (Str.ofString "sum"), V.str (Str.ofString "count"), V.str (Str.ofString "least"), V.str (Str.ofString "greatest")]) (fun i σ H' => ∃ (v5 v6 v7 v8 : Option V), σ = [some (.ref a), some (.ref l), some (.ref D), some (.int at1), some (.int (m % (at1 + 1))), some (.ref p), some t, v5, v6, v7, v8] ∧ Same H13 H') ⟨_, _, _, _, rfl, Same.refl _⟩ (fun i σ H' _ ⟨_, _, _, _, _, e⟩ => sl_of (e _ _ g4)) ?_ ?_
        · rintro j2 x σ H14 hj2 ⟨v5, v6, v7, v8, rfl, f5⟩
          obtain ⟨word, rfl⟩ : ∃ word : Str, x = .str word := by
            match j2, hj2 with
            | 0, hi => exact ⟨_, (Option.some.inj hi).symm⟩
            | 1, hi => exact ⟨_, (Option.some.inj hi).symm⟩
            | 2, hi => exact ⟨_, (Option.some.inj hi).symm⟩
            | 3, hi => exact ⟨_, (Option.some.inj hi).symm⟩
          walk_at "rd"
          refine ⟨word, _, qs, rfl, w3.mono f5, fun H15 r f6 w6 => ?_⟩
          walk_at "rd"
          refine ⟨word, p, qs, rfl, sl_of (f6 _ _ (f5 _ _ y1)), (y2.mono f5).mono f6, by omega, fun H16 r2 f7 w7 => ?_⟩
          refine s_neW (w6.mono f7) w7 (gathered_ok word y3 y4) ?_
          walk_at "rd"
          refine s_isiB (w6.mono f7) ?_
          walk_at "rd"
          exact ⟨_, _, _, _, rfl, (f5.trans f6).trans f7⟩
        · rintro σ H14 ⟨v5, v6, v7, v8, rfl, f5⟩
          exact ⟨_, _, _, _, _, _, rfl, ((f2.trans f3).trans f4).trans f5⟩
      · rintro σ H11 ⟨v3, v4, v5, v6, v7, v8, rfl, f2⟩
        exact ⟨_, _, _, _, _, _, _, _, none, rfl, (e.trans f1).trans f2⟩
    · rintro σ H9 ⟨v1, v2, v3, v4, v5, v6, v7, v8, v9, rfl, e⟩
      walk_at "rd"
      intro b1 hb1
      walk_at "rd"
      have f1 : Same H9 (upd H9 b1 (HO.lst [V.str (Str.ofString "sum"), V.str (Str.ofString "count"), V.str (Str.ofString "least"), V.str (Str.ofString "greatest")])) := Same.new hb1
      have g1 : (upd H9 b1 (HO.lst [V.str (Str.ofString "sum"), V.str (Str.ofString "count"), V.str (Str.ofString "least"), V.str (Str.ofString "greatest")])) b1 = some (.lst [V.str (Str.ofString "sum"), V.str (Str.ofString "count"), V.str (Str.ofString "least"), V.str (Str.ofString "greatest")]) := upd_same
      generalize upd H9 b1 (HO.lst [V.str (Str.ofString "sum"), V.str (Str.ofString "count"), V.str (Str.ofString "least"), V.str (Str.ofString "greatest")]) = H10 at *
      refine s_lcL (xs := [V.str (Str.ofString "sum"), V.str (Str.ofString "count"), V.str (Str.ofString "least"), V.str (Str.ofString "greatest")]) (fun D2 i H1 => Same H10 H1 ∧ ∃ ws : List (V × Wo), H1 D2 = some (.lst (ws.map (·.1))) ∧ RWp K H1 ws ∧ ws.map (·.2) = [Wo.int 0, .int 0, .flt "none", .flt "none"].take i) (fun D2 hD => ⟨Same.new hD, [], upd_same, noR _, rfl⟩) (fun D2 i H1 hD _ k => sl_of (k.1 _ _ g1)) ?_ ?_
      · rintro D2 i x H1 hD hi ⟨f2, ws, g2, hw, hws⟩
        obtain ⟨word, rfl, a0, ha0, ha1⟩ : ∃ word : Str, x = .str word ∧ ∃ a0 : Wo, gatheredW word [] = a0 ∧ [Wo.int 0, .int 0, .flt "none", .flt "none"].take (i + 1) = [Wo.int 0, .int 0, .flt "none", .flt "none"].take i ++ [a0] := by
          match i, hi with
          | 0, hi => exact ⟨_, (Option.some.inj hi).symm, _, rfl, rfl⟩
          | 1, hi => exact ⟨_, (Option.some.inj hi).symm, _, rfl, rfl⟩
          | 2, hi => exact ⟨_, (Option.some.inj hi).symm, _, rfl, rfl⟩
          | 3, hi => exact ⟨_, (Option.some.inj hi).symm, _, rfl, rfl⟩
        have i4 : i < 4 := (List.getElem?_eq_some_iff.mp hi).1
        walk_at "rd"
        intro t ht
        walk_at "rd"
        have w0 : RT K (upd H1 t (HO.tup [V.int 0, V.int 0, V.non, V.non, V.non])) (.ref t) (tallyW []) := RT.new ht RW.n RW.n RW.n
        have f3 : Same H1 (upd H1 t (HO.tup [V.int 0, V.int 0, V.non, V.non, V.non])) := Same.new ht
        refine ⟨word, _, _, rfl, w0, fun H2 r f4 w4 => ?_⟩
        rw [ha0] at w4
        have f5 := f3.trans f4
        have g3 := f5 _ _ g2
        refine ⟨_, g3, sz_lt (by rw [List.length_map, ← List.length_map (f := (·.2)), hws, List.length_take]; omega), Same.mut (f2.trans f5) hD, ws ++ [(r, a0)], by rw [upd_same, List.map_append]; rfl, fun p hp => ?_, by rw [List.map_append, hws, ha1]; rfl⟩
        rcases List.mem_append.mp hp with hp | hp
        · exact ((hw p hp).mono f5).but But.upd g3
        · rw [List.mem_singleton.mp hp]; exact w4.but But.upd g3
      rintro D2 H1 hD ⟨f2, ws, g2, hw, hws⟩
      have hws : ws.map (·.2) = [Wo.int 0, .int 0, .flt "none", .flt "none"] := hws
      have hwd : ws.map (·.2.d) = [PyData.int 0, .int 0, (Wo.flt "none").d, (Wo.flt "none").d] := by
        have := congrArg (List.map Wo.d) hws
        rw [List.map_map] at this
        exact this
      have hok : okp ws := fun p hp => by
        have : p.2 ∈ ws.map (·.2) := List.mem_map.mpr ⟨p, hp, rfl⟩
        rw [hws] at this
        have h0 : (Wo.int 0).ok := (by decide +kernel : (0 : Int).natAbs ≤ 10 ^ 60)
        have h1 : (Wo.flt "none").ok := ⟨by decide +kernel, by decide +kernel⟩
        simp only [List.mem_cons, List.not_mem_nil, or_false] at this
        rcases this with e | e | e | e <;> rw [e] <;> assumption
      walk_at "rd"
      intro t1 ht1
      walk_at "rd"
      intro t2 ht2
      walk_at "rd"
      intro l4 hl4
      walk_at "rd"
      have f6 : Same H1 (upd (upd (upd H1 t1 (HO.tup [V.str (Str.ofString "fault"), V.str (Str.ofString "none")])) t2 (HO.tup [V.str (Str.ofString "fault"), V.str (Str.ofString "none")])) l4 (HO.lst [V.int 0, V.int 0, V.ref t1, V.ref t2])) := ((Same.new ht1).trans (Same.new ht2)).trans (Same.new hl4)
      have d2 := dpAll (hw.mono f6)
      rw [hwd] at d2
      have hsh := shaped_list hok
      rw [hwd] at hsh
      refine s_eqD (.lst (sl_of (f6 _ _ g2)) d2) (.lst (sl_of upd_same) (.cons (.int _) (.cons (.int _) (.cons (RW.dp (a := .flt "none") ⟨t1, rfl, st_of (hf_new hl4 (hf_new ht2 upd_same))⟩) (.cons (RW.dp (a := .flt "none") ⟨t2, rfl, st_of (hf_new hl4 upd_same)⟩) .nil))))) hsh hsh ?_
      rw [SeqAt.eqv_refl _ (Bool.and_eq_true_iff.mp hsh).1]
      walk_at "rd"
      exact ⟨rfl, fun H2 f7 => q _⟩

end
end Ol


namespace Ol
open PySem PySem.Spec PyProof.Rows L2
def loose : List Str := (["fault", "is_fault", "is_text", "held_number", "gathered", "told_by", "_law_cell_at", "_law_mixed", "_law_digit", "_law_worth", "_law_row_of", "_law_worths", "_law_tally", "_law_at_bounds", "MOST_NUMBER_worths", "MOST_NUMBER_halves"] : List Str)
abbrev R : PySem.W.OpenRow := PySem.W.OpenLaw.row PySem.Challenge.rw_onelook_k79_told_by_tallies
abbrev hk : PySem.W.Hook := He.hookX 4 fa fn [] [] ex
def ob (s : PySem.W.SharedT) : He.AlX := He.obsX 4 fa fn [] [] ex (HandSHeadRun.getT s)
theorem ob_eq (s : PySem.W.SharedT) : ob s = hk.obs s.abs := He.obsX_eq (HandSHeadRun.getT_eq s)
theorem run (w : World) : HandSHeadRun.RunEq R (PySem.W.view R.prog [19]) hk ob 4000 loose w := by
  intro os
  kernel_rfl
end Ol
open PySem PySem.W PySem.Calls PyProof.Rows
theorem PySem.Challenge.cw_onelook_k79_told_by_tallies_holds : PySem.Challenge.rw_onelook_k79_told_by_tallies.Holds := by
  w_on; o_law
  refine HandSHeadRun.head_any (r := OpenLaw.row PySem.Challenge.rw_onelook_k79_told_by_tallies) (q := view (OpenLaw.row PySem.Challenge.rw_onelook_k79_told_by_tallies).prog [19]) (H := Ol.hk) (ob := Ol.ob) (M := 4000) (loose := Ol.loose) (d := HandSHeadRun.topDef (OpenLaw.row PySem.Challenge.rw_onelook_k79_told_by_tallies).prog 19) (kwd := []) Ol.ob_eq
    (by kernel_rfl) (fun s => by kernel_rfl) Ol.run (by kernel_rfl) (by kernel_rfl) (by kernel_rfl) (by rfl) (by first | assumption | decide +kernel) (by decide +kernel) ⟨rfl, rfl, rfl, rfl, rfl, by decide +kernel⟩ ?hw ?hc
  case hw => w_witness2
  case hc =>
    refine Ol.walk_ofEB (l := PySem.Challenge.rw_onelook_k79_told_by_tallies) (n := 63) (k := 4) (x := "script") rfl (by decide) (by kernel_rfl) ⟨rfl, by decide, by decide⟩ ?F
    intro w mg fa h Y G hmg0
    obtain ⟨K, KX, c⟩ := Y
    have hmg : mg ("law" : PySem.Str) = some (.ref fa) := by
      have e : (HandSHeadRun.topDef (OpenLaw.row PySem.Challenge.rw_onelook_k79_told_by_tallies).prog 19).name = ("law" : PySem.Str) := by kernel_rfl
      rw [← e]
      exact hmg0
    exact Ol.law_end KX hmg (Ol.txt KX G c).g_law (fun base _ _ => Ol.ok_law (P := (PySem.Challenge.rw_onelook_k79_told_by_tallies).prog) (w := w) (base := base) (Ol.txt KX G c)) G

