import PyProof.Rows.All
import Wide.All
import OpenK.AllK
import Wide.FinOn
import KE.KStateDown
import HandS.RaiseMore
import HandS.SortInts
import HandS.Base
import HandS.Call
import HandS.List
import HandS.TupAny
import HandS.Comp
import HandS.Ends
import HandS.EndBits
import HandS.Exc
import HandS.ExcOwn
import HandS.ExcIs
import HandS.ExcInit
import HandS.ExcBuiltin
import HandS.TryOnly
import HandS.TryMany
import HandS.Words
import HandS.WordsList
import HandS.WordsExc
import HandS.Defaults
import HandS.Dict
import HandS.Iter
import HandS.Text
import HandS.More
import HandS.Head0
import HandS.Head1
import HandS.Head2
import HandS.HeadEnd
import HandS.HeadHook1
import HandS.HeadHook2
import HandS.HeadHook3
import HandS.HeadHook4
import HandS.Wide
import HandS.WideMore
import HandS.WideBits
import HandS.IsInst
import HandS.Small
import HandS.Conv
import HandS.Deep
import HandS.Zip
import PySem.Challenge.RW_onelook_k04_areas_gone_through
set_option Elab.async false
set_option linter.all false
set_option maxRecDepth 100000
set_option maxHeartbeats 4000000
namespace Ol
open PySem PySem.Spec PyProof.Rows L2
/-! ### facts of the top -/
/-- a module's constant -/
structure GCon (K : PySem.W.Frag) (mg : Str → Option Value) (x : Str) (v : V) : Prop where
  ex : ∃ u, mg x = some u ∧ RelV v u
theorem gcon_int {K : PySem.W.Frag} {mg : Str → Option Value} {x : Str} {i : Int} (h : ∃ t, mg x = some (.int i t)) : GCon K mg x (.int i) := by
  obtain ⟨t, h⟩ := h
  exact ⟨_, h, t, rfl⟩
theorem gcon_str {K : PySem.W.Frag} {mg : Str → Option Value} {x z : Str} (h : ∃ t, mg x = some (.str z t)) : GCon K mg x (.str z) := by
  obtain ⟨t, h⟩ := h
  exact ⟨_, h, t, rfl⟩
theorem gcon_ref {K : PySem.W.Frag} {mg : Str → Option Value} {x : Str} {a : Addr} (h : mg x = some (.ref a)) : GCon K mg x (.ref a) := ⟨_, h, rfl⟩
theorem pe_con {X : Cx} {x : Str} {v : V} {pos : Pos} (h : GCon X.K X.mg x v) (hg : Gl X x) (hd : (x == ("__debug__" : Str)) = false := by decide) : PE X (.Name x pos) (tC v) := by
  obtain ⟨u, h1, h2⟩ := h.ex
  exact pe_glob hg h1 h2 hd
/-- an own exception class -/
def excCB (K : PySem.W.Frag) (D : Addr) : Bool :=
  decide (PySem.W.findIn K (.ref D) "__getattribute__" = some (some (.builtin "BaseException.__getattribute__"))) && (decide (PySem.W.findIn K (.ref D) "__getattr__" = some none) &&
  (decide (PySem.W.subIn K (.ref D) (.type "BaseException") = some true) && (PySem.W.hasDictIn K D && (decide (PySem.W.findIn K (.ref D) "__class__" = some (some (.builtin "object.__class__"))) &&
  (decide (PySem.W.specialIn K (.builtin "object.__class__") "__get__" = some (some (.builtin "getset_descriptor.__get__"))) && (decide (PySem.W.takesIn K (.builtin "object.__class__") = some true) && decide (PySem.W.mroIn K D (.type "object") = some true)))))))
theorem excCB_ok {K : PySem.W.Frag} {D : Addr} (h : excCB K D = true) : ExcC K D := by
  unfold excCB at h
  simp only [Bool.and_eq_true, decide_eq_true_eq] at h
  obtain ⟨h1, h2, h3, h4, h5, h6, h7, h8⟩ := h
  exact ⟨h1, h2, h3, h4, h5, h6, h7, h8⟩
structure XCls (K : PySem.W.Frag) (mg : Str → Option Value) (x : Str) : Prop where
  g : mg x = some (.ref (He.ga K x))
  e : PySem.W.excIn K (He.ga K x) He.veBase "ValueError.__new__" = true ∧ PySem.W.keepIn K (.ref (He.ga K x)) = true ∧ PySem.W.subIn K (.ref (He.ga K x)) (.type "BaseException") = some true ∧ PySem.W.typeIn K (.ref (He.ga K x)) = some (.type "type")
  c : ExcC K (He.ga K x)
theorem pe_clsv {X : Cx} {K : PySem.W.Frag} {mg : Str → Option Value} {x : Str} {pos : Pos} (h : XCls K mg x) (hg : Gl X x) (hm : X.mg = mg := by rfl) (hd : (x == ("__debug__" : Str)) = false := by decide) : PE X (.Name x pos) (tC (.ref (He.ga K x))) := pe_glob hg (by rw [hm]; exact h.g) rfl hd
theorem pmk_x {X : Cx} {x m : Str} {j : Nat} {p p2 pos : Pos} (h : XCls X.K X.mg x) (hg : Gl X x) (hdb : (x == ("__debug__" : Str)) = false := by decide) :
    PMk X (.Call (.Name x p) [.Constant (.str m) j p2] [] pos) (fun _ H Q => Q (.ref (He.ga X.K x)) none H) :=
  pmk_own PySem.F.excBase_ValueError h.e.1 h.g h.e.2.1 (raises_own h.e.2.2.1 h.e.2.2.2) hg hdb
/-! ### a def with its promise -/
structure Def (P : Program) (w : World) (K : PySem.W.Frag) (mg : Str → Option Value) (base : Heap) (k : Nat) (x : Str) (ps : List Str) (sp : Sp) : Prop where
  g : mg x = some (.ref (He.ga K x))
  kp : PySem.W.keepIn K (.ref (He.ga K x)) = true
  ok : ∃ fd, FnOk P w K mg base (L2.CX P w) k (He.ga K x) fd ps sp ∧ Binds K fd ps [] ∧ (∃ oc od sl, K.lookup (He.ga K x) = some ⟨oc, od, .func fd, sl⟩) ∧ ∀ (s : Shared) (us : List Value), us.length = ps.length → BindsTo s fd ⟨us, []⟩ (ps.zip us)
theorem def_of {P : Program} {w : World} {K : PySem.W.Frag} {mg : Str → Option Value} {base : Heap} {k : Nat} {x qual : Str} {N ps : List Str} {sp : Sp} {a : Arguments} {body : List Stmt} {scope : Scope}
    (hg : mg x = some (.ref (He.ga K x))) (F : ∃ fd, FunD K x qual a body scope [] [] (He.ga K x) fd) (S : FnScope N ps scope)
    (hb : ∀ (kV doc pm : Value) (an : Option Addr) (cdv ct : Value) (us : List Value), us.length = ps.length → bindArgs (PySem.W.fnOf x qual a body scope .none kV doc pm an cdv ct) ⟨us, []⟩ = pure (ps.zip us))
    (len : ∀ vs H Q E, sp vs H Q E → vs.length = ps.length)
    (hbody : ∀ (cdv : Value) (A : Around) (outer : List Env) (s : Shared) (H : Hp) (vs : List V) (Q : VK) (E : XK), Room k (A.deeper (envOfC qual scope s.heap.objs.size (He.ga K x) cdv)) → sp vs H Q E →
      ∃ t, PSs (cxOf (L2.CX P w) P w K mg base N qual scope (He.ga K x) cdv A outer s H E) body t ∧ t ⟨fun _ H' => Q .non H', Q, fun _ _ => False, fun _ _ => False⟩ (start N vs) H) : Def P w K mg base (k + 1) x ps sp := by
  obtain ⟨fd, F⟩ := F
  refine ⟨hg, F.kp, fd, F.ok S len hbody, F.bindsN hb, ?_, F.bindsA hb⟩
  obtain ⟨oc, od, _, _, _, _, _, _, _, osl, _, lk, _⟩ := F.ex
  exact ⟨oc, od, osl, lk⟩
theorem pe_dcall {X : Cx} {k : Nat} {x : Str} {ps : List Str} {sp : Sp} {E : XK} {e : Expr} {es : List Expr} {t : TA} {p pos : Pos} (D : Def X.prog X.w X.K X.mg X.base k x ps sp) (hr : Room k X.A) (hg : Gl X x) (hx : Passes (L2.CX X.prog X.w) X E)
    (ha : PA X (e :: es) t) (hdb : (x == ("__debug__" : Str)) = false := by decide) (he : starEach (e :: es) X.env = (false, eval e X.env) :: starEach es X.env := by rfl) (hpl : ∀ q : Pos, (backTo q (starEach es X.env)).any (·.1) = false := by intro _; rfl) :
    PE X (.Call (.Name x p) (e :: es) [] pos) (tCall sp [] E t) := by
  obtain ⟨fd, F, B, _⟩ := D.ok
  exact pe_call F hr hg D.g D.kp B .nil hx ha hdb he (hpl _)
theorem pe_dcall0 {X : Cx} {k : Nat} {x : Str} {sp : Sp} {E : XK} {p pos : Pos} (D : Def X.prog X.w X.K X.mg X.base k x [] sp) (hr : Room k X.A) (hg : Gl X x) (hx : Passes (L2.CX X.prog X.w) X E)
    (hdb : (x == ("__debug__" : Str)) = false := by decide) : PE X (.Call (.Name x p) [] [] pos) (tCall sp [] E tNil) := by
  obtain ⟨fd, F, B, _⟩ := D.ok
  exact pe_call0 F hr hg D.g D.kp B .nil hx hdb
theorem pe_dcallS {X : Cx} {k : Nat} {x : Str} {ps : List Str} {sp : Sp} {E : L2.St → XK} {e : Expr} {es : List Expr} {t : TA} {p pos : Pos} (D : Def X.prog X.w X.K X.mg X.base k x ps sp) (hr : Room k X.A) (hg : Gl X x) (hx : ∀ σ, PassesAt (L2.CX X.prog X.w) X σ (E σ))
    (ha : PA X (e :: es) t) (hdb : (x == ("__debug__" : Str)) = false := by decide) (he : starEach (e :: es) X.env = (false, eval e X.env) :: starEach es X.env := by rfl) (hpl : ∀ q : Pos, (backTo q (starEach es X.env)).any (·.1) = false := by intro _; rfl) :
    PE X (.Call (.Name x p) (e :: es) [] pos) (tCallS sp E t) := by
  obtain ⟨fd, F, B, _⟩ := D.ok
  exact pe_callS F hr hg D.g D.kp B hx ha hdb he (hpl _)
/-! ### the end of a law -/
def spLawB (K : PySem.W.Frag) : Sp := fun vs H Q _ => ∃ (a : Addr) (ns : List Int), vs = [.ref a] ∧ SqL K H a (ns.map V.int) ∧ ns.length ≤ 63 ∧ (∀ z ∈ ns, Builtin.Int.intBits z ≤ 1048576) ∧ ∀ H', Q (.bl true) H'
theorem walk_ofEB {l : PySem.W.OpenLaw} {n k : Nat} {q : Program} {loose : List Str} {XP : (Str → Option Value) → Heap → Prop} {YP : World → Heap → Prop} {d : DefRec} {x : Str}
    (hn : l.most = some n) (hn2 : n ≤ sizeLine) (hdf : d.params.defaults = []) (hr : Room k callerA)
    (F : ∀ (w : World) (mg : Str → Option Value) (fa : Addr) (h : Heap), YP w h → h.Ns mainGlobals mg → mg d.name = some (.ref fa) →
      ∃ (K : PySem.W.Frag) (fd : FuncData) (sp : Sp), K.In h ∧ (∀ (s : Shared) (u : Value), BindsTo s fd ⟨[u], []⟩ [(x, u)]) ∧
        (∀ (H : Hp) (a : Addr) (ns : List Int), ns.length ≤ n → (∀ z ∈ ns, Builtin.Int.intBits z ≤ 1048576) → SqL K H a (ns.map V.int) → sp [.ref a] H (fun v _ => v = .bl true) fun _ _ _ => False) ∧
        ∀ base : Heap, K.In base → base.Ns mainGlobals mg → FnOk l.prog w K mg base (L2.CX l.prog w) k fa fd [x] sp) :
    PySem.W.WalkO q loose XP YP l.row.toRowW d [] (fun f vs => PySem.call f vs) := by
  refine Att.attach_callB hn hdf fun w s0 s1 mg mb fa o pm cd doc a vs ns G Y ho hd hcd hmg hobj hints hlen hbits hg => ?_
  obtain ⟨K, fd, sp, KX, hb, hsp, hF⟩ := F w mg fa _ Y G.T.g hmg
  refine law_call KX G.T.g G.T.b G.T.builtins G.T.nolimit hg hobj hints (Nat.le_trans hlen hn2) hr hF hb (fun H hO hS => hsp H a ns hlen hbits hS) fun H e s' hc => ?_
  obtain ⟨_, _, _, _, _, _, _, _, _, _, _, _, z⟩ := hc
  exact z
theorem law_end {P : Program} {w : World} {K : PySem.W.Frag} {h : Heap} {mg : Str → Option Value} {k : Nat} {fa : Addr} (KX : K.In h) (hfa : mg ("law" : Str) = some (.ref fa)) (g : mg ("law" : Str) = some (.ref (He.ga K "law")))
    (D : ∀ base : Heap, K.In base → base.Ns mainGlobals mg → Def P w K mg base k "law" ["script"] (spLawB K)) (G : h.Ns mainGlobals mg) :
    ∃ (K : PySem.W.Frag) (fd : FuncData) (sp : Sp), K.In h ∧ (∀ (s : Shared) (u : Value), BindsTo s fd ⟨[u], []⟩ [("script", u)]) ∧
        (∀ (H : Hp) (a : Addr) (ns : List Int), ns.length ≤ 63 → (∀ z ∈ ns, Builtin.Int.intBits z ≤ 1048576) → SqL K H a (ns.map V.int) → sp [.ref a] H (fun v _ => v = .bl true) fun _ _ _ => False) ∧
        ∀ base : Heap, K.In base → base.Ns mainGlobals mg → FnOk P w K mg base (L2.CX P w) k fa fd ["script"] sp := by
  have e : fa = He.ga K "law" := by
    have z := hfa.symm.trans g
    injection z with z
    injection z
  subst e
  obtain ⟨fd, F, B, ⟨_, _, _, l1⟩, A⟩ := (D h KX G).ok
  refine ⟨K, fd, spLawB K, KX, fun s u => A s [u] rfl, fun H a ns hl hb hS => ⟨a, ns, rfl, hS, hl, hb, fun _ => rfl⟩, fun base hK hN => ?_⟩
  obtain ⟨fd2, F2, _, ⟨_, _, _, l2⟩, _⟩ := (D base hK hN).ok
  have e2 : fd2 = fd := by
    have z := l1.symm.trans l2
    injection z with z
    injection z with _ _ z _
    injection z with z
    exact z.symm
  exact e2 ▸ F2
end Ol

namespace Ol
open PySem PySem.Spec PyProof.Rows L2
/-! ### lengths -/
theorem ofS_len (s : String) : (Str.ofString s).length = s.length := by
  have e := congrArg List.length (PyProof.Rows.signs_ofString s)
  rw [List.length_map, String.length_toList] at e
  exact e
theorem sz_le {n : Nat} (h : n ≤ 16777216) : n ≤ sizeLine := by rw [sizeLine_eq]; exact h
theorem sz_lt {n : Nat} (h : n < 16777216) : n < sizeLine := by rw [sizeLine_eq]; exact h
theorem at_ex {α : Type} {xs : List α} {i : Int} (h0 : 0 ≤ i) (h1 : i < (xs.length : Int)) : ∃ v, xs[i.toNat]? = some v ∧ atI xs i = some v := by
  obtain ⟨n, rfl⟩ := Int.eq_ofNat_of_zero_le h0
  have hi : n < xs.length := by omega
  exact ⟨xs[n], List.getElem?_eq_getElem hi, atI_nat (List.getElem?_eq_getElem hi)⟩
theorem at_nat {α : Type} {xs : List α} {i : Nat} {v : α} (h : xs[i]? = some v) : atI xs (i : Int) = some v := atI_nat h
theorem int_at {ns : List Int} {i : Nat} {x : V} (h : (ns.map V.int)[i]? = some x) : ∃ z, x = V.int z := by
  rw [List.getElem?_map] at h
  cases e : ns[i]? with
  | none => rw [e] at h; cases h
  | some z => rw [e] at h; exact ⟨z, (Option.some.inj h).symm⟩
/-! ### rules that join -/
def rOr (r1 r2 : R2) : R2 := fun x y H Q => r1 x y H Q ∨ r2 x y H Q
theorem op_or2 {X : Cx} {f : Value → Value → Sem Value} {r1 r2 : R2} (h1 : OpR X f r1) (h2 : OpR X f r2) : OpR X f (rOr r1 r2) := fun pins s σ H x y v u Q I rx ry q =>
  q.elim (h1 pins s σ H x y v u Q I rx ry) (h2 pins s σ H x y v u Q I rx ry)
theorem call_or2 {X : Cx} {f : Value} {r1 r2 : List V → Hp → VK → Prop} (h1 : CallR X f r1) (h2 : CallR X f r2) : CallR X f (fun xs H Q => r1 xs H Q ∨ r2 xs H Q) := fun pins s σ H xs us Q I r q =>
  q.elim (h1 pins s σ H xs us Q I r) (h2 pins s σ H xs us Q I r)
/-- list + list, wherever they stand -/
def rCatL (K : PySem.W.Frag) : R2 := fun x y H Q => ∃ l b xs zs, x = .ref l ∧ y = .ref b ∧ SqL K H l xs ∧ SqL K H b zs ∧ xs.length + zs.length ≤ sizeLine ∧ ∀ p, H p = none → Q (.ref p) (upd H p (.lst (xs ++ zs)))
theorem op_catL {X : Cx} : OpR X (binaryOp .Add) (rCatL X.K) := by
  intro pins s σ H x y v u Q I rx ry h
  obtain ⟨l, b, xs, zs, rfl, rfl, hH, hB, hz, q⟩ := h
  cases rx
  cases ry
  obtain ⟨its, r, ⟨⟨cls, dd, data, sl⟩, n, ho, hc, hdd, hd⟩, _⟩ := I.list hH
  obtain ⟨its2, r2, ⟨⟨cls2, dd2, data2, sl2⟩, n2, ho2, hc2, hdd2, hd2⟩, _⟩ := I.list hB
  simp only at hc hd hc2 hd2
  subst hc hd hc2 hd2
  have e : its.toArray ++ its2.toArray = (its ++ its2).toArray := by simp
  have l1 := r.length
  have l2 := r2.length
  refine concat_meets ⟨_, ho, rfl⟩ ⟨_, ho2, rfl⟩ noFill_list_add seq_list_add PySem.F.slot_list_add PySem.F.entry_list_add (PySem.F.args_list_add_2 _ _) (list_addW l b its.toArray its2.toArray n n2 dd dd2 sl sl2 (by simpa [← l1, ← l2] using hz)) ⟨ho, ho2, ?_⟩
  rw [e]
  exact ⟨.ref _, _, I.lnew (t' := s.toks) (r.append r2) (by rw [List.length_append]; omega), rfl, q _ I.fresh⟩
def rStrCat : R2 := fun x y H Q => ∃ i j, x = .str i ∧ y = .str j ∧ i.length + j.length ≤ sizeLine ∧ Q (.str (i ++ j)) H
def rAddU (K : PySem.W.Frag) : R2 := rOr (rI0 fun i j => .int (i + j)) (rOr rStrCat (rOr (rCatL K) (rCatA K)))
theorem op_addU {X : Cx} {K : PySem.W.Frag} (hK : X.K = K := by rfl) : OpR X (binaryOp .Add) (rAddU K) := hK ▸ op_or2 op_add (op_or2 op_add_str (op_or2 op_catL op_catA))
/-- == of scalars, of nested data -/
def rEqU (K : PySem.W.Frag) : R2 := rOr rEq (rEqD K)
def rNeU (K : PySem.W.Frag) : R2 := rOr rNe (rNeD K)
theorem op_eqU {X : Cx} {K : PySem.W.Frag} (hu : X.A.units + 64 < cLine) (hK : X.K = K := by rfl) : OpR X (compareOp .Eq) (rEqU K) := hK ▸ op_or2 op_eq (op_eqD hu)
theorem op_neU {X : Cx} {K : PySem.W.Frag} (hu : X.A.units + 64 < cLine) (hK : X.K = K := by rfl) : OpR X (compareOp .NotEq) (rNeU K) := hK ▸ op_or2 op_ne (op_neD hu)
/-! ### the layer's rules, the written part told -/
theorem pg_seq {X : Cx} {K : PySem.W.Frag} {pos : Pos} {es : List Expr} {k : Nat} {t : TGs} {n : Nat} (hK : X.K = K) (hc : X.calm = true) (h : PGs X es t)
    (hn : (assignEach es X.env).length = n := by rfl) (hst : (assignEach es X.env).findIdx? (·.1) = none := by rfl) : PG X (.Tuple es k pos) (gTup K n t) := hK ▸ pg_tup hc h hn hst
theorem ix_seqK {X : Cx} {K : PySem.W.Frag} (hK : X.K = K := by rfl) : IxR X (rIx K) := hK ▸ ix_seq
theorem pi_listK {X : Cx} {K : PySem.W.Frag} {tg l : Expr} {tl : TE} (hl : PE X l tl) (hK : X.K = K := by rfl) : PI X tg l (iList K tl) := hK ▸ pi_list hl
theorem pi_tupK {X : Cx} {K : PySem.W.Frag} {tg l : Expr} {tl : TE} (hl : PE X l tl) (hK : X.K = K := by rfl) : PI X tg l (iTup K tl) := hK ▸ pi_tup hl
theorem sl_listK {X : Cx} {K : PySem.W.Frag} (hK : X.K = K := by rfl) : SlR X (rSlL K) := hK ▸ sl_list
theorem sl_tupK {X : Cx} {K : PySem.W.Frag} (hK : X.K = K := by rfl) : SlR X (rSlA K) := hK ▸ sl_tupA
theorem sl_strK {X : Cx} {K : PySem.W.Frag} (hK : X.K = K := by rfl) : SlR X rSlS := sl_str
theorem op_inK {X : Cx} {K : PySem.W.Frag} (hK : X.K = K := by rfl) : OpR X (compareOp .In) (rIn K false) := hK ▸ op_in_seq
theorem op_notInK {X : Cx} {K : PySem.W.Frag} (hK : X.K = K := by rfl) : OpR X (compareOp .NotIn) (rIn K true) := hK ▸ op_notIn_seq
theorem call_isiK {X : Cx} {K : PySem.W.Frag} (hK : X.K = K := by rfl) : CallR X (.builtin "isinstance") (rIsi K) := hK ▸ call_isi
theorem pt_truthK {X : Cx} {K : PySem.W.Frag} {a : Expr} {ta : TE} (ha : PE X a ta) (he : ∀ whole, isTrue a X.env whole = (do let v ← whole; standAt a.pos; holding [v] (truthy v))) (hK : X.K = K := by rfl) :
    PT X a (fun σ H Q => ta σ H fun x H' => ∃ k, TruV K x H' k ∧ Q k H') := hK ▸ pt_truth ha he
theorem pe_bmK {X : Cx} {K : PySem.W.Frag} {T name id : String} {r : V → List V → Hp → VK → Prop} {o e : Expr} {es : List Expr} {to : TE} {t : TA} {apos cpos : Pos} (hK : X.K = K) (pa : PlainAttrs T) (slot : Slot T name id) (hty : typeOf (.builtin id) = pure (.type "method_descriptor")) (hm : MtR X id r) (ho : PE X o to) (ha : PA X (e :: es) t)
    (hbase : attributeBase o name X.env (eval o X.env) = eval o X.env := by rfl)
    (hfew : ((backTo cpos (starEach (e :: es) X.env)).all (fun x => !x.1) && (backToKw cpos (keywordEach [] X.env)).all (fun x => x.1.isSome)
      && decide ((e :: es).length + ([] : List Keyword).length + (if ([] : List Keyword).isEmpty then 0 else 1) < 30)) = true := by rfl)
    (hline : (apos.endLine == cpos.line) = true := by rfl) (hs : starEach (e :: es) X.env = (false, eval e X.env) :: starEach es X.env := by rfl) (hplain : (backTo cpos (starEach es X.env)).any (·.1) = false := by rfl) :
    PE X (.Call (.Attribute o name apos) (e :: es) [] cpos) (tBM K T r to t) := hK ▸ pe_bm pa slot hty hm ho ha hbase hfew hline hs hplain
theorem pe_bm0K {X : Cx} {K : PySem.W.Frag} {T name id : String} {r : V → List V → Hp → VK → Prop} {o : Expr} {to : TE} {apos cpos : Pos} (hK : X.K = K) (pa : PlainAttrs T) (slot : Slot T name id) (hty : typeOf (.builtin id) = pure (.type "method_descriptor")) (hm : MtR X id r) (ho : PE X o to)
    (hbase : attributeBase o name X.env (eval o X.env) = eval o X.env := by rfl) (hline : (apos.endLine == cpos.line) = true := by rfl) : PE X (.Call (.Attribute o name apos) [] [] cpos) (tBM0 K T r to) := hK ▸ pe_bm0 pa slot hty hm ho hbase hline

/-! ### steps -/
section
variable {K : PySem.W.Frag} {σ : L2.St} {H H' : Hp} {Q rt : VK} {nx bk ct : L2.St → Hp → Prop} {ta tb te : TE} {QT : Bool → Hp → Prop} {QA : List V → Hp → Prop} {r : R2}
theorem s_seq {t u : TS} (h : t ⟨u ⟨nx, rt, bk, ct⟩, rt, bk, ct⟩ σ H) : tSeq t u ⟨nx, rt, bk, ct⟩ σ H := h
theorem s_asgN {i : Nat} (h : te σ H fun x H1 => nx (σ.set i (some x)) H1) : tAsg te (gName i) ⟨nx, rt, bk, ct⟩ σ H := h
theorem s_asg {g : TG} (h : te σ H fun x H1 => g x σ H1 nx) : tAsg te g ⟨nx, rt, bk, ct⟩ σ H := h
theorem s_ret (h : te σ H rt) : tRet te ⟨nx, rt, bk, ct⟩ σ H := h
theorem s_retN (h : rt .non H) : tRetN ⟨nx, rt, bk, ct⟩ σ H := h
theorem s_drop (h : te σ H fun _ H1 => nx σ H1) : tDrop te ⟨nx, rt, bk, ct⟩ σ H := h
theorem s_if {c : TT} {t u : TS} (h : c σ H fun b H1 => if b = true then t ⟨nx, rt, bk, ct⟩ σ H1 else u ⟨nx, rt, bk, ct⟩ σ H1) : tIfS c t u ⟨nx, rt, bk, ct⟩ σ H := h
theorem s_next (h : nx σ H) : tNext ⟨nx, rt, bk, ct⟩ σ H := h
theorem s_brk (h : bk σ H) : tBreak ⟨nx, rt, bk, ct⟩ σ H := h
theorem s_cont (h : ct σ H) : tCont ⟨nx, rt, bk, ct⟩ σ H := h
theorem s_nx (h : nx σ H) : Ends.nx ⟨nx, rt, bk, ct⟩ σ H := h
theorem s_bk (h : bk σ H) : Ends.bk ⟨nx, rt, bk, ct⟩ σ H := h
theorem s_ct (h : ct σ H) : Ends.ct ⟨nx, rt, bk, ct⟩ σ H := h
theorem s_rt {v : V} (h : rt v H) : Ends.rt ⟨nx, rt, bk, ct⟩ v H := h
theorem s_gname {i : Nat} {v : V} {q : L2.St → Hp → Prop} (h : q (σ.set i (some v)) H) : gName i v σ H q := h
theorem s_gtup {n : Nat} {t : TGs} {p : Addr} {xs : List V} {q : L2.St → Hp → Prop} (h : SqT K H p xs) (hn : xs.length = n) (h2 : t xs σ H q) : gTup K n t (.ref p) σ H q := ⟨p, xs, rfl, h, hn, h2⟩
theorem s_gcons {t : TG} {u : TGs} {v : V} {l : List V} {q : L2.St → Hp → Prop} (h : t v σ H fun s2 H2 => u l s2 H2 q) : gCons t u (v :: l) σ H q := ⟨v, l, rfl, h⟩
theorem s_gnil {q : L2.St → Hp → Prop} (h : q σ H) : gNil [] σ H q := ⟨rfl, h⟩
theorem s_gsub {to ti : TE} {ts : TSet} {v : V} {q : L2.St → Hp → Prop} (h : to σ H fun o H1 => ti σ H1 fun i H2 => ts o i v H2 fun H3 => q σ H3) : gSub to ti ts v σ H q := h
theorem s_setL {p : Addr} {i : Int} {v : V} {xs : List V} {j : Nat} {q : Hp → Prop} (h : H p = some (.lst xs)) (e : ixN xs.length i = some j) (h2 : q (upd H p (.lst (xs.set j v)))) : rSetL (.ref p) (.int i) v H q := ⟨p, xs, i, j, rfl, rfl, h, e, h2⟩
theorem s_test (h : te σ H fun x H1 => ∃ k, x = .bl k ∧ QT k H1) : tTest te σ H QT := h
theorem s_tB (h : te σ H fun x H1 => ∃ k, x = .bl k ∧ QT k H1) : tB te σ H QT := h
theorem s_isbl {b : Bool} (h : QT b H) : ∃ k, V.bl b = .bl k ∧ QT k H := ⟨b, rfl, h⟩
theorem s_and {t u : TT} (h : t σ H fun c H1 => if c = true then u σ H1 QT else QT false H1) : tAnd t u σ H QT := h
theorem s_or {t u : TT} (h : t σ H fun c H1 => if c = true then QT true H1 else u σ H1 QT) : tOr t u σ H QT := h
theorem s_not {t : TT} (h : t σ H fun c H1 => QT (!c) H1) : tNot t σ H QT := h
theorem s_andV (h : ta σ H fun x H1 => ∃ c, x = .bl c ∧ if c = true then tb σ H1 Q else Q (.bl false) H1) : tAndV ta tb σ H Q := h
theorem s_orV (h : ta σ H fun x H1 => ∃ c, x = .bl c ∧ if c = true then Q (.bl true) H1 else tb σ H1 Q) : tOrV ta tb σ H Q := h
theorem s_notV (h : ta σ H fun x H1 => ∃ c, x = .bl c ∧ Q (.bl (!c)) H1) : tNotV ta σ H Q := h
theorem s_isblP {b : Bool} {A B : Hp → Prop} (h : if b = true then A H else B H) : ∃ k, V.bl b = .bl k ∧ (if k = true then A H else B H) := ⟨b, rfl, h⟩
theorem s_ifE {t : TT} (h : t σ H fun c H1 => if c = true then ta σ H1 Q else tb σ H1 Q) : tIf t ta tb σ H Q := h
theorem s_var {i : Nat} {v : V} (e : σ[i]? = some (some v)) (h : Q v H) : tVar i σ H Q := ⟨v, e, h⟩
theorem s_c {v : V} (h : Q v H) : tC v σ H Q := h
theorem s_op (h : ta σ H fun x H1 => tb σ H1 fun y H2 => r x y H2 Q) : tOp r ta tb σ H Q := h
theorem s_un {u : V → Hp → VK → Prop} (h : ta σ H fun x H1 => u x H1 Q) : tUn u ta σ H Q := h
theorem s_cons {tr : TA} (h : ta σ H fun x H1 => tr σ H1 fun xs H2 => QA (x :: xs) H2) : tCons ta tr σ H QA := h
theorem s_nil (h : QA [] H) : tNil σ H QA := h
theorem s_cb {u : List V → Hp → VK → Prop} {t : TA} (h : t σ H fun vs H1 => u vs H1 Q) : tCB u t σ H Q := h
theorem s_call {sp : Sp} {E : XK} {t : TA} (h : t σ H fun vs H1 => sp (vs ++ []) H1 Q E) : tCall sp [] E t σ H Q := h
theorem s_callS {sp : Sp} {E : L2.St → XK} {t : TA} (h : t σ H fun vs H1 => sp vs H1 Q (E σ)) : tCallS sp E t σ H Q := h
theorem s_tup {t : TA} (h : t σ H fun xs H1 => xs.length ≤ sizeLine ∧ ∀ p, H1 p = none → Q (.ref p) (upd H1 p (.tup xs))) : tTup t σ H Q := h
theorem s_lst {t : TA} (h : t σ H fun xs H1 => xs.length ≤ sizeLine ∧ ∀ p, H1 p = none → Q (.ref p) (upd H1 p (.lst xs))) : tLst t σ H Q := h
theorem s_bm {T : String} {u : V → List V → Hp → VK → Prop} {t : TA} (h : te σ H fun x H1 => tyV K T x H1 ∧ t σ H1 fun xs H2 => u x xs H2 Q) : tBM K T u te t σ H Q := h
theorem s_bm0 {T : String} {u : V → List V → Hp → VK → Prop} (h : te σ H fun x H1 => tyV K T x H1 ∧ u x [] H1 Q) : tBM0 K T u te σ H Q := h
theorem s_rI0 {g : Int → Int → V} {i j : Int} (h : Q (g i j) H) : rI0 g (.int i) (.int j) H Q := ⟨i, j, rfl, rfl, h⟩
theorem s_rI {C : Int → Int → Prop} {g : Int → Int → V} {i j : Int} (c : C i j) (h : Q (g i j) H) : rI C g (.int i) (.int j) H Q := ⟨i, j, rfl, rfl, c, h⟩
theorem s_rU {g : Int → V} {i : Int} (h : Q (g i) H) : rU g (.int i) H Q := ⟨i, rfl, h⟩
theorem s_addI {i j : Int} (h : Q (.int (i + j)) H) : rAddU K (.int i) (.int j) H Q := .inl ⟨i, j, rfl, rfl, h⟩
theorem s_addS {i j : Str} (e : i.length + j.length ≤ sizeLine) (h : Q (.str (i ++ j)) H) : rAddU K (.str i) (.str j) H Q := .inr (.inl ⟨i, j, rfl, rfl, e, h⟩)
theorem s_addL {l b : Addr} {xs zs : List V} (h1 : SqL K H l xs) (h2 : SqL K H b zs) (e : xs.length + zs.length ≤ sizeLine) (h : ∀ p, H p = none → Q (.ref p) (upd H p (.lst (xs ++ zs)))) : rAddU K (.ref l) (.ref b) H Q := .inr (.inr (.inl ⟨l, b, xs, zs, rfl, rfl, h1, h2, e, h⟩))
theorem s_eqS {x y : V} (c : scal x y = true) (h : Q (.bl (decide (x = y))) H) : rEqU K x y H Q := .inl ⟨c, h⟩
theorem s_neS {x y : V} (c : scal x y = true) (h : Q (.bl (!decide (x = y))) H) : rNeU K x y H Q := .inl ⟨c, h⟩
theorem s_eqD {x y : V} {d e : PyData} (c : Dp K H x d) (c2 : Dp K H y e) (z : SeqAt.shaped d = true) (z2 : SeqAt.shaped e = true) (h : Q (.bl (PyData.eqv d e)) H) : rEqU K x y H Q := .inr ⟨d, e, c, c2, z, z2, h⟩
theorem s_neD {x y : V} {d e : PyData} (c : Dp K H x d) (c2 : Dp K H y e) (z : SeqAt.shaped d = true) (z2 : SeqAt.shaped e = true) (h : Q (.bl (!PyData.eqv d e)) H) : rNeU K x y H Q := .inr ⟨d, e, c, c2, z, z2, h⟩
theorem s_isN {x : V} (h : Q (.bl (decide (x = .non))) H) : (fun (x y : V) (H : Hp) (Q : VK) => y = .non ∧ Q (.bl (decide (x = .non))) H) x .non H Q := ⟨rfl, h⟩
theorem s_ixL {p : Addr} {xs : List V} {i : Int} {v : V} (h : SqL K H p xs) (e : atI xs i = some v) (q : Q v H) : rIx K (.ref p) (.int i) H Q := .inl ⟨p, xs, i, v, rfl, rfl, h, e, q⟩
theorem s_ixT {p : Addr} {xs : List V} {i : Int} {v : V} (h : SqT K H p xs) (e : atI xs i = some v) (q : Q v H) : rIx K (.ref p) (.int i) H Q := .inr (.inl ⟨p, xs, i, v, rfl, rfl, h, e, q⟩)
theorem s_ixS {z : Str} {i : Int} {c : Nat} (l : z.length ≤ sizeLine) (e : atI z.cps.toList i = some c) (q : Q (.str ⟨#[c]⟩) H) : rIx K (.str z) (.int i) H Q := .inr (.inr ⟨z, i, c, rfl, rfl, l, e, q⟩)
theorem s_append {l : Addr} {xs : List V} {y : V} (h : H l = some (.lst xs)) (e : xs.length < sizeLine) (q : Q .non (upd H l (.lst (xs ++ [y])))) : rAppend (.ref l) [y] H Q := ⟨l, xs, y, rfl, rfl, h, e, q⟩
theorem s_iteD {p : Prop} [Decidable p] {A B : Prop} (h1 : p → A) (h2 : ¬ p → B) : if decide p = true then A else B := by
  by_cases h : p
  · rw [decide_eq_true h]; exact h1 h
  · rw [decide_eq_false h]; exact h2 h
theorem s_iteN {p : Prop} [Decidable p] {A B : Prop} (h1 : ¬ p → A) (h2 : p → B) : if (!decide p) = true then A else B := by
  by_cases h : p
  · rw [decide_eq_true h]; exact h2 h
  · rw [decide_eq_false h]; exact h1 h
theorem s_iteB {b : Bool} {A B : Prop} (h1 : b = true → A) (h2 : b = false → B) : if b = true then A else B := by
  cases b
  · exact h2 rfl
  · exact h1 rfl
theorem s_yes {b : Bool} {A B : Prop} (e : b = true) (h : A) : if b = true then A else B := by
  rw [e]; exact h
theorem s_no {b : Bool} {A B : Prop} (e : b = false) (h : B) : if b = true then A else B := by
  rw [e]; exact h
theorem hf_new {q p : Addr} {o o2 : HO} (hq : H q = none) (h : H p = some o) : (upd H q o2) p = some o := by
  rw [upd_ne (ne_of_none h hq)]; exact h
theorem hf_ne {q p : Addr} {o o2 : HO} (hq : p ≠ q) (h : H p = some o) : (upd H q o2) p = some o := by
  rw [upd_ne hq]; exact h
theorem sl_of {p : Addr} {xs : List V} (h : H p = some (.lst xs)) : SqL K H p xs := .inl (.inl h)
theorem st_of {p : Addr} {xs : List V} (h : H p = some (.tup xs)) : SqT K H p xs := .inl (.inl h)
theorem Same.new {p : Addr} {o : HO} (h : H p = none) : Same H (upd H p o) := fun b x e => by
  rw [upd_ne (ne_of_none e h)]; exact e
/-- what H does not know may change -/
theorem Same.mut {p : Addr} {o : HO} (e : Same H H') (h : H p = none) : Same H (upd H' p o) := fun a u ha => by
  rw [upd_ne (ne_of_none ha h)]; exact e a u ha
theorem Same.tup {a : Addr} {xs : List V} (e : Same H H') (h : SqT K H a xs) : SqT K H' a xs := by
  rcases h with (h | ⟨o, h⟩) | h
  · exact .inl (.inl (e _ _ h))
  · exact .inl (.inr ⟨o, e _ _ h⟩)
  · exact .inr h
end
/-! ### named readings of the layer's rules -/
def rIsNo : R2 := fun x y H Q => y = .non ∧ Q (.bl (decide (x = .non))) H
def rNotNo : R2 := fun x y H Q => y = .non ∧ Q (.bl (!decide (x = .non))) H
theorem op_isNo {X : Cx} : OpR X (compareOp .Is) rIsNo := op_isN
theorem op_notNo {X : Cx} : OpR X (compareOp .IsNot) rNotNo := op_notN
def rStrI : List V → Hp → VK → Prop := fun xs H Q => ∃ i, xs = [.int i] ∧ i.natAbs.log2 < 1920 ∧ Q (.str (toString i)) H
theorem call_strI {X : Cx} : CallR X (.type "str") rStrI := call_str_int
def rAbsI : List V → Hp → VK → Prop := fun xs H Q => ∃ i, xs = [.int i] ∧ Q (.int (if i < 0 then -i else i)) H
theorem call_absI {X : Cx} : CallR X (.builtin "abs") rAbsI := call_abs
def rLenU (K : PySem.W.Frag) : List V → Hp → VK → Prop := fun xs H Q => ∃ x n, xs = [x] ∧ LenV K x H n ∧ Q (.int n) H
theorem call_lenU {X : Cx} {K : PySem.W.Frag} (hK : X.K = K := by rfl) : CallR X (.builtin "len") (rLenU K) := hK ▸ call_len
def rJoinU (K : PySem.W.Frag) : V → List V → Hp → VK → Prop := fun x xs H Q => ∃ a p, ∃ ys : List Str, x = .str a ∧ xs = [.ref p] ∧ (SqL K H p (ys.map V.str) ∨ SqT K H p (ys.map V.str)) ∧ (ys.map (·.length)).sum + ys.length * a.length ≤ 16777216 ∧ Q (.str (Txt.join a ys)) H
theorem mt_joinU {X : Cx} {K : PySem.W.Frag} (hK : X.K = K := by rfl) : MtR X "str.join" (rJoinU K) := hK ▸ mt_join
section
variable {K : PySem.W.Frag} {σ : L2.St} {H H' : Hp} {Q : VK}
theorem s_isNo {x : V} (h : Q (.bl (decide (x = .non))) H) : rIsNo x .non H Q := ⟨rfl, h⟩
theorem s_notNo {x : V} (h : Q (.bl (!decide (x = .non))) H) : rNotNo x .non H Q := ⟨rfl, h⟩
theorem s_strI {i : Int} (e : i.natAbs.log2 < 1920) (h : Q (.str (toString i)) H) : rStrI [.int i] H Q := ⟨i, rfl, e, h⟩
theorem s_absI {i : Int} (h : Q (.int (if i < 0 then -i else i)) H) : rAbsI [.int i] H Q := ⟨i, rfl, h⟩
theorem s_lenS {z : Str} (e : z.length ≤ sizeLine) (h : Q (.int (z.length : Nat)) H) : rLenU K [.str z] H Q := ⟨_, _, rfl, ⟨e, rfl⟩, h⟩
theorem s_lenL {p : Addr} {xs : List V} (e : SqL K H p xs) (h : Q (.int (xs.length : Nat)) H) : rLenU K [.ref p] H Q := ⟨_, _, rfl, .inl ⟨xs, e, rfl⟩, h⟩
theorem s_lenT {p : Addr} {xs : List V} (e : SqT K H p xs) (h : Q (.int (xs.length : Nat)) H) : rLenU K [.ref p] H Q := ⟨_, _, rfl, .inr ⟨xs, e, rfl⟩, h⟩
theorem s_joinL {a : Str} {p : Addr} {ys : List Str} (e : SqL K H p (ys.map V.str)) (l : (ys.map (·.length)).sum + ys.length * a.length ≤ 16777216) (h : Q (.str (Txt.join a ys)) H) : rJoinU K (.str a) [.ref p] H Q := ⟨a, p, ys, rfl, rfl, .inl e, l, h⟩
theorem s_joinT {a : Str} {p : Addr} {ys : List Str} (e : SqT K H p (ys.map V.str)) (l : (ys.map (·.length)).sum + ys.length * a.length ≤ 16777216) (h : Q (.str (Txt.join a ys)) H) : rJoinU K (.str a) [.ref p] H Q := ⟨a, p, ys, rfl, rfl, .inr e, l, h⟩
theorem s_tyS {z : Str} {A : Prop} (h : A) : tyV K "str" (.str z) H ∧ A := ⟨rfl, h⟩
theorem s_tyL {p : Addr} {xs : List V} {A : Prop} (e : SqL K H p xs) (h : A) : tyV K "list" (.ref p) H ∧ A := ⟨.inl ⟨rfl, _, e⟩, h⟩
/-- isinstance -/
theorem s_isi {x c : V} {t u : Value} {b : Bool} (k : ClsV c u) (ty : TyX K H x t) (e : PySem.W.kitOne K t u = some b) (h : Q (.bl b) H) : rIsi K [x, c] H Q := ⟨x, c, t, u, b, rfl, k, ty, e, h⟩
end
/-! ### steps found by the head of the reading -/
class Step (G : Prop) (G2 : outParam Prop) : Prop where
  go : G2 → G
/-- slot i of a frame -/
class Slot (s : L2.St) (i : Nat) (v : outParam V) : Prop where
  e : s[i]? = some (some v)
instance slot0 {v : V} {s : L2.St} : Slot (some v :: s) 0 v := ⟨rfl⟩
instance slotS {v : V} {s : L2.St} {a : Option V} {i : Nat} [h : Slot s i v] : Slot (a :: s) (i + 1) v := ⟨by rw [List.getElem?_cons_succ]; exact h.e⟩
class SetS (s : L2.St) (i : Nat) (f : outParam (V → L2.St)) : Prop where
  e : ∀ v, s.set i (some v) = f v
instance set0 {a : Option V} {s : L2.St} : SetS (a :: s) 0 (fun v => some v :: s) := ⟨fun _ => rfl⟩
instance setS {s : L2.St} {a : Option V} {i : Nat} {f : V → L2.St} [h : SetS s i f] : SetS (a :: s) (i + 1) (fun v => a :: f v) := ⟨fun v => by rw [List.set_cons_succ, h.e]⟩
class WipeS (s : L2.St) (vs : List Nat) (t : outParam L2.St) : Prop where
  e : wipe s vs = t
class NoneS (s : L2.St) (i : Nat) (t : outParam L2.St) : Prop where
  e : s.set i none = t
instance none0 {a : Option V} {s : L2.St} : NoneS (a :: s) 0 (none :: s) := ⟨rfl⟩
instance noneS {s t : L2.St} {a : Option V} {i : Nat} [h : NoneS s i t] : NoneS (a :: s) (i + 1) (a :: t) := ⟨by rw [List.set_cons_succ, h.e]⟩
instance wipe0 {s : L2.St} : WipeS s [] s := ⟨rfl⟩
instance wipe1 {s t u : L2.St} {v : Nat} {vs : List Nat} [h : WipeS s vs t] [k : NoneS t v u] : WipeS s (v :: vs) u := ⟨by show (wipe s vs).set v none = u; rw [h.e, k.e]⟩
/-! ### loops -/
section
variable {K : PySem.W.Frag} {σ : L2.St} {H H' : Hp} {Q rt : VK} {nx bk ct : L2.St → Hp → Prop} {ta tb te : TE}
/-- the turns of a for -/
def ForW (g : TG) (tb : TS) (D : Ends) (J : It) (σ : L2.St) (H1 : Hp) : Prop := ∃ W : Nat → Nat → L2.St → Hp → Prop, (∃ m, W 0 m σ H1) ∧ ∀ i m σ H, W i m σ H →
  (J.stop i H ∧ D.nx σ H) ∨ (J.go i H ∧ ∃ N : L2.St → Hp → Prop, (∀ σ' H', N σ' H' → ∃ m', m' < m ∧ W (i + 1) m' σ' H') ∧ ∀ x H', J.yld i H x H' → g x σ H' fun σ2 H2 => tb { D with nx := N, ct := N, bk := D.nx } σ2 H2)
theorem s_for {wi : TI} {g : TG} {t : TS} (h : wi σ H fun J H1 => ForW g t ⟨nx, rt, bk, ct⟩ J σ H1) : tFor wi g t ⟨nx, rt, bk, ct⟩ σ H := h
theorem s_iRng1 {ta : TA} {R : It → Hp → Prop} (h : ta σ H fun vs H1 => ∃ j : Int, vs = [.int j] ∧ -(2 ^ 62) ≤ j ∧ j < 2 ^ 62 ∧ R (Itr 0 j.toNat) H1) : iRng1 ta σ H R := h
theorem s_iRng2 {ta : TA} {R : It → Hp → Prop} (h : ta σ H fun vs H1 => ∃ i j : Int, vs = [.int i, .int j] ∧ (-(2 ^ 62) ≤ i ∧ i < 2 ^ 62 ∧ -(2 ^ 62) ≤ j ∧ j < 2 ^ 62) ∧ R (Itr i (j - i).toNat) H1) : iRng2 ta σ H R := h
theorem s_rng1 {j : Int} {g : TG} {t : TS} {D : Ends} (h1 : -(2 ^ 62) ≤ j) (h2 : j < 2 ^ 62) (h : ForW g t D (Itr 0 j.toNat) σ H) : ∃ k : Int, [V.int j] = [V.int k] ∧ -(2 ^ 62) ≤ k ∧ k < 2 ^ 62 ∧ ForW g t D (Itr 0 k.toNat) σ H := ⟨j, rfl, h1, h2, h⟩
theorem s_rng2 {i j : Int} {g : TG} {t : TS} {D : Ends} (h1 : -(2 ^ 62) ≤ i ∧ i < 2 ^ 62 ∧ -(2 ^ 62) ≤ j ∧ j < 2 ^ 62) (h : ForW g t D (Itr i (j - i).toNat) σ H) : ∃ a b : Int, [V.int i, V.int j] = [V.int a, V.int b] ∧ (-(2 ^ 62) ≤ a ∧ a < 2 ^ 62 ∧ -(2 ^ 62) ≤ b ∧ b < 2 ^ 62) ∧ ForW g t D (Itr a (b - a).toNat) σ H := ⟨i, j, rfl, h1, h⟩
theorem s_iList {R : It → Hp → Prop} (h : te σ H fun x H1 => ∃ a, x = .ref a ∧ (∃ xs, SqL K H1 a xs) ∧ R (Itl K a) H1) : iList K te σ H R := h
theorem s_iTup {R : It → Hp → Prop} (h : te σ H fun x H1 => ∃ a, x = .ref a ∧ (∃ xs, SqT K H1 a xs) ∧ R (Itt K a) H1) : iTup K te σ H R := h
theorem s_lst1 {p : Addr} {xs : List V} {g : TG} {t : TS} {D : Ends} (h1 : SqL K H p xs) (h : ForW g t D (Itl K p) σ H) : ∃ a, V.ref p = .ref a ∧ (∃ xs, SqL K H a xs) ∧ ForW g t D (Itl K a) σ H := ⟨p, rfl, ⟨xs, h1⟩, h⟩
theorem s_tup1 {p : Addr} {xs : List V} {g : TG} {t : TS} {D : Ends} (h1 : SqT K H p xs) (h : ForW g t D (Itt K p) σ H) : ∃ a, V.ref p = .ref a ∧ (∃ xs, SqT K H a xs) ∧ ForW g t D (Itt K a) σ H := ⟨p, rfl, ⟨xs, h1⟩, h⟩
theorem s_forR {lo : Int} {n : Nat} {g : TG} {t : TS} (Pv : Nat → L2.St → Hp → Prop) (h0 : Pv 0 σ H)
    (hs : ∀ i σ H, i < n → Pv i σ H → g (.int (lo + i)) σ H fun σ2 H2 => t ⟨Pv (i + 1), rt, nx, Pv (i + 1)⟩ σ2 H2) (hd : ∀ σ H, Pv n σ H → nx σ H) : ForW g t ⟨nx, rt, bk, ct⟩ (Itr lo n) σ H := for_range (D := ⟨nx, rt, bk, ct⟩) Pv h0 hs hd
theorem s_forR0 {n : Nat} {g : TG} {t : TS} (Pv : Nat → L2.St → Hp → Prop) (h0 : Pv 0 σ H)
    (hs : ∀ i σ H, i < n → Pv i σ H → g (.int (i : Nat)) σ H fun σ2 H2 => t ⟨Pv (i + 1), rt, nx, Pv (i + 1)⟩ σ2 H2) (hd : ∀ σ H, Pv n σ H → nx σ H) : ForW g t ⟨nx, rt, bk, ct⟩ (Itr 0 n) σ H :=
  s_forR Pv h0 (fun i σ H hi p => by rw [Int.zero_add]; exact hs i σ H hi p) hd
theorem s_forL {a : Addr} {xs : List V} {g : TG} {t : TS} (Pv : Nat → L2.St → Hp → Prop) (h0 : Pv 0 σ H) (hl : ∀ i σ H, i ≤ xs.length → Pv i σ H → SqL K H a xs)
    (hs : ∀ i x σ H, xs[i]? = some x → Pv i σ H → g x σ H fun σ2 H2 => t ⟨Pv (i + 1), rt, nx, Pv (i + 1)⟩ σ2 H2) (hd : ∀ σ H, Pv xs.length σ H → nx σ H) : ForW g t ⟨nx, rt, bk, ct⟩ (Itl K a) σ H := for_list (D := ⟨nx, rt, bk, ct⟩) Pv h0 hl hs hd
theorem s_forT {a : Addr} {xs : List V} {g : TG} {t : TS} (Pv : Nat → L2.St → Hp → Prop) (h0 : Pv 0 σ H) (hl : ∀ i σ H, i ≤ xs.length → Pv i σ H → SqT K H a xs)
    (hs : ∀ i x σ H, xs[i]? = some x → Pv i σ H → g x σ H fun σ2 H2 => t ⟨Pv (i + 1), rt, nx, Pv (i + 1)⟩ σ2 H2) (hd : ∀ σ H, Pv xs.length σ H → nx σ H) : ForW g t ⟨nx, rt, bk, ct⟩ (Itt K a) σ H := for_tup (D := ⟨nx, rt, bk, ct⟩) Pv h0 hl hs hd
/-- the turns of a comprehension -/
def LcW (g : TG) (tt : TT) (te : TE) (vs : List Nat) (σ : L2.St) (Q : VK) (J : It) (H1 : Hp) : Prop := ∀ D, H1 D = none → ∃ W : Nat → Nat → Hp → Prop, (∃ m, W 0 m (upd H1 D (.lst []))) ∧ ∀ i m H, W i m H →
  (J.stop i H ∧ Q (.ref D) H) ∨ (J.go i H ∧ ∃ Nx : Hp → Prop, (∀ H', Nx H' → ∃ m', m' < m ∧ W (i + 1) m' H') ∧ ∀ x H', J.yld i H x H' → g x (wipe σ vs) H' fun σ2 H2 => wipe σ2 vs = wipe σ vs ∧ tt σ2 H2 fun b H3 =>
    if b = true then te σ2 H3 fun y H4 => ∃ acc, H4 D = some (.lst acc) ∧ acc.length < sizeLine ∧ Nx (upd H4 D (.lst (acc ++ [y]))) else Nx H3)
theorem s_lc {wi : TI} {g : TG} {tt : TT} {vs : List Nat} (h : wi σ H (LcW g tt te vs σ Q)) : tLc wi g tt te vs σ H Q := h
theorem s_rng1c {j : Int} {g : TG} {tt : TT} {vs : List Nat} (h1 : -(2 ^ 62) ≤ j) (h2 : j < 2 ^ 62) (h : LcW g tt te vs σ Q (Itr 0 j.toNat) H) : ∃ k : Int, [V.int j] = [V.int k] ∧ -(2 ^ 62) ≤ k ∧ k < 2 ^ 62 ∧ LcW g tt te vs σ Q (Itr 0 k.toNat) H := ⟨j, rfl, h1, h2, h⟩
theorem s_rng2c {i j : Int} {g : TG} {tt : TT} {vs : List Nat} (h1 : -(2 ^ 62) ≤ i ∧ i < 2 ^ 62 ∧ -(2 ^ 62) ≤ j ∧ j < 2 ^ 62) (h : LcW g tt te vs σ Q (Itr i (j - i).toNat) H) : ∃ a b : Int, [V.int i, V.int j] = [V.int a, V.int b] ∧ (-(2 ^ 62) ≤ a ∧ a < 2 ^ 62 ∧ -(2 ^ 62) ≤ b ∧ b < 2 ^ 62) ∧ LcW g tt te vs σ Q (Itr a (b - a).toNat) H := ⟨i, j, rfl, h1, h⟩
theorem s_lst1c {p : Addr} {xs : List V} {g : TG} {tt : TT} {vs : List Nat} (h1 : SqL K H p xs) (h : LcW g tt te vs σ Q (Itl K p) H) : ∃ a, V.ref p = .ref a ∧ (∃ xs, SqL K H a xs) ∧ LcW g tt te vs σ Q (Itl K a) H := ⟨p, rfl, ⟨xs, h1⟩, h⟩
theorem s_tup1c {p : Addr} {xs : List V} {g : TG} {tt : TT} {vs : List Nat} (h1 : SqT K H p xs) (h : LcW g tt te vs σ Q (Itt K p) H) : ∃ a, V.ref p = .ref a ∧ (∃ xs, SqT K H a xs) ∧ LcW g tt te vs σ Q (Itt K a) H := ⟨p, rfl, ⟨xs, h1⟩, h⟩
theorem s_sz {n : Nat} {A : Prop} (h : n ≤ sizeLine) (a : A) : n ≤ sizeLine ∧ A := ⟨h, a⟩
theorem s_lcR0 {n : Nat} {g : TG} {tt : TT} {vs : List Nat} {τ : L2.St} [hw : WipeS σ vs τ] (Pv : Addr → Nat → Hp → Prop) (h0 : ∀ D, H D = none → Pv D 0 (upd H D (.lst [])))
    (hs : ∀ D i H1, H D = none → i < n → Pv D i H1 → g (.int (i : Nat)) τ H1 fun σ2 H2 => wipe σ2 vs = τ ∧ tt σ2 H2 fun b H3 =>
      if b = true then te σ2 H3 fun y H4 => ∃ acc, H4 D = some (.lst acc) ∧ acc.length < sizeLine ∧ Pv D (i + 1) (upd H4 D (.lst (acc ++ [y]))) else Pv D (i + 1) H3) (hd : ∀ D H1, H D = none → Pv D n H1 → Q (.ref D) H1) :
    LcW g tt te vs σ Q (Itr 0 n) H := by
  have e := hw.e
  subst e
  exact fun D hD => lc_range (lo := 0) (n := n) (Pv D) (h0 D hD) (fun i H1 hi p => by rw [Int.zero_add]; exact hs D i H1 hD hi p) fun H1 => hd D H1 hD
theorem s_lcL {a : Addr} {xs : List V} {g : TG} {tt : TT} {vs : List Nat} {τ : L2.St} [hw : WipeS σ vs τ] (Pv : Addr → Nat → Hp → Prop) (h0 : ∀ D, H D = none → Pv D 0 (upd H D (.lst []))) (hl : ∀ D i H1, H D = none → i ≤ xs.length → Pv D i H1 → SqL K H1 a xs)
    (hs : ∀ D i x H1, H D = none → xs[i]? = some x → Pv D i H1 → g x τ H1 fun σ2 H2 => wipe σ2 vs = τ ∧ tt σ2 H2 fun b H3 =>
      if b = true then te σ2 H3 fun y H4 => ∃ acc, H4 D = some (.lst acc) ∧ acc.length < sizeLine ∧ Pv D (i + 1) (upd H4 D (.lst (acc ++ [y]))) else Pv D (i + 1) H3) (hd : ∀ D H1, H D = none → Pv D xs.length H1 → Q (.ref D) H1) :
    LcW g tt te vs σ Q (Itl K a) H := by
  have e := hw.e
  subst e
  exact fun D hD => lc_list (K := K) (a := a) (xs := xs) (Pv D) (h0 D hD) (fun i H1 => hl D i H1 hD) (fun i x H1 => hs D i x H1 hD) fun H1 => hd D H1 hD
theorem s_lcT {a : Addr} {xs : List V} {g : TG} {tt : TT} {vs : List Nat} {τ : L2.St} [hw : WipeS σ vs τ] (Pv : Addr → Nat → Hp → Prop) (h0 : ∀ D, H D = none → Pv D 0 (upd H D (.lst []))) (hl : ∀ D i H1, H D = none → i ≤ xs.length → Pv D i H1 → SqT K H1 a xs)
    (hs : ∀ D i x H1, H D = none → xs[i]? = some x → Pv D i H1 → g x τ H1 fun σ2 H2 => wipe σ2 vs = τ ∧ tt σ2 H2 fun b H3 =>
      if b = true then te σ2 H3 fun y H4 => ∃ acc, H4 D = some (.lst acc) ∧ acc.length < sizeLine ∧ Pv D (i + 1) (upd H4 D (.lst (acc ++ [y]))) else Pv D (i + 1) H3) (hd : ∀ D H1, H D = none → Pv D xs.length H1 → Q (.ref D) H1) :
    LcW g tt te vs σ Q (Itt K a) H := by
  have e := hw.e
  subst e
  exact fun D hD => lc_tup (K := K) (a := a) (xs := xs) (Pv D) (h0 D hD) (fun i H1 => hl D i H1 hD) (fun i x H1 => hs D i x H1 hD) fun H1 => hd D H1 hD
theorem s_acc {D : Addr} {acc : List V} {y : V} {R : Hp → Prop} (h : H D = some (.lst acc)) (l : acc.length < sizeLine) (q : R (upd H D (.lst (acc ++ [y])))) : ∃ acc, H D = some (.lst acc) ∧ acc.length < sizeLine ∧ R (upd H D (.lst (acc ++ [y]))) := ⟨acc, h, l, q⟩
theorem s_tyes {QT : Bool → Hp → Prop} (h : QT true H) : tYes σ H QT := h
theorem s_wipe {A B : Prop} (e : A) (h : B) : A ∧ B := ⟨e, h⟩
/-- all but p -/
def But (p : Addr) (H H' : Hp) : Prop := ∀ b o, b ≠ p → H b = some o → H' b = some o
theorem But.refl {p : Addr} : But p H H := fun _ _ _ h => h
theorem But.trans {p : Addr} {H1 : Hp} (a : But p H H1) (b : But p H1 H') : But p H H' := fun c o n h => b c o n (a c o n h)
theorem But.same {p : Addr} (e : Same H H') : But p H H' := fun b o _ h => e b o h
theorem But.upd {p : Addr} {o : HO} : But p H (upd H p o) := fun b x n e => by
  rw [upd_ne n]; exact e
theorem But.new {p q : Addr} {o : HO} (h : H q = none) : But p H (L2.upd H q o) := But.same (Same.new h)
/-- p and what H does not know may change -/
theorem But.mut {p q : Addr} {o : HO} (b : But p H H') (h : H q = none) : But p H (L2.upd H' q o) := fun x y n e => by
  rw [upd_ne (ne_of_none e h)]; exact b x y n e
theorem But.put {p : Addr} {o : HO} (b : But p H H') : But p H (L2.upd H' p o) := fun x y n e => by
  rw [upd_ne n]; exact b x y n e
/-- what p was not in, may change -/
theorem But.toSame {p : Addr} {H1 : Hp} (a : Same H H1) (n : H p = none) (b : But p H1 H') : Same H H' := fun c o e => b c o (ne_of_none e n) (a c o e)
end
section
variable {K : PySem.W.Frag} {σ τ : L2.St} {H H' : Hp} {Q rt : VK} {nx bk ct : L2.St → Hp → Prop} {ta tb te : TE} {QT : Bool → Hp → Prop} {QA : List V → Hp → Prop} {r : R2}
instance {t u : TS} : Step (tSeq t u ⟨nx, rt, bk, ct⟩ σ H) (t ⟨u ⟨nx, rt, bk, ct⟩, rt, bk, ct⟩ σ H) := ⟨id⟩
instance (priority := 2000) {i : Nat} {f : V → L2.St} [h : SetS σ i f] : Step (tAsg te (gName i) ⟨nx, rt, bk, ct⟩ σ H) (te σ H fun x H1 => nx (f x) H1) := ⟨fun q => by
  have e : (fun x H1 => nx (f x) H1) = fun x H1 => gName i x σ H1 nx := by
    funext x H1
    show nx (f x) H1 = nx (σ.set i (some x)) H1
    rw [h.e]
  show te σ H (fun x H1 => gName i x σ H1 nx)
  rw [← e]
  exact q⟩
instance {g : TG} : Step (tAsg te g ⟨nx, rt, bk, ct⟩ σ H) (te σ H fun x H1 => g x σ H1 nx) := ⟨id⟩
instance : Step (tRet te ⟨nx, rt, bk, ct⟩ σ H) (te σ H rt) := ⟨id⟩
instance : Step (tRetN ⟨nx, rt, bk, ct⟩ σ H) (rt .non H) := ⟨id⟩
instance : Step (tDrop te ⟨nx, rt, bk, ct⟩ σ H) (te σ H fun _ H1 => nx σ H1) := ⟨id⟩
instance {c : TT} {t u : TS} : Step (tIfS c t u ⟨nx, rt, bk, ct⟩ σ H) (c σ H fun b H1 => if b = true then t ⟨nx, rt, bk, ct⟩ σ H1 else u ⟨nx, rt, bk, ct⟩ σ H1) := ⟨id⟩
instance : Step (tNext ⟨nx, rt, bk, ct⟩ σ H) (nx σ H) := ⟨id⟩
instance : Step (tBreak ⟨nx, rt, bk, ct⟩ σ H) (bk σ H) := ⟨id⟩
instance : Step (tCont ⟨nx, rt, bk, ct⟩ σ H) (ct σ H) := ⟨id⟩
instance : Step (Ends.nx ⟨nx, rt, bk, ct⟩ σ H) (nx σ H) := ⟨id⟩
instance : Step (Ends.bk ⟨nx, rt, bk, ct⟩ σ H) (bk σ H) := ⟨id⟩
instance : Step (Ends.ct ⟨nx, rt, bk, ct⟩ σ H) (ct σ H) := ⟨id⟩
instance {v : V} : Step (Ends.rt ⟨nx, rt, bk, ct⟩ v H) (rt v H) := ⟨id⟩
instance {i : Nat} {v : V} {q : L2.St → Hp → Prop} {f : V → L2.St} [h : SetS σ i f] : Step (gName i v σ H q) (q (f v) H) := ⟨fun z => by
  show q (σ.set i (some v)) H
  rw [h.e]
  exact z⟩
instance {t : TG} {u : TGs} {v : V} {l : List V} {q : L2.St → Hp → Prop} : Step (gCons t u (v :: l) σ H q) (t v σ H fun s2 H2 => u l s2 H2 q) := ⟨s_gcons⟩
instance {q : L2.St → Hp → Prop} : Step (gNil [] σ H q) (q σ H) := ⟨s_gnil⟩
instance {to ti : TE} {ts : TSet} {v : V} {q : L2.St → Hp → Prop} : Step (gSub to ti ts v σ H q) (to σ H fun o H1 => ti σ H1 fun i H2 => ts o i v H2 fun H3 => q σ H3) := ⟨id⟩
instance : Step (tTest te σ H QT) (te σ H fun x H1 => ∃ k, x = .bl k ∧ QT k H1) := ⟨id⟩
instance : Step (tB te σ H QT) (te σ H fun x H1 => ∃ k, x = .bl k ∧ QT k H1) := ⟨id⟩
instance {b : Bool} {F : Bool → Prop} : Step (∃ k, V.bl b = .bl k ∧ F k) (F b) := ⟨fun h => ⟨b, rfl, h⟩⟩
instance {t u : TT} : Step (tAnd t u σ H QT) (t σ H fun c H1 => if c = true then u σ H1 QT else QT false H1) := ⟨id⟩
instance {t u : TT} : Step (tOr t u σ H QT) (t σ H fun c H1 => if c = true then QT true H1 else u σ H1 QT) := ⟨id⟩
instance {t : TT} : Step (tNot t σ H QT) (t σ H fun c H1 => QT (!c) H1) := ⟨id⟩
instance {r' : R2} {tc : TE} : Step (tChain r r' ta tb tc σ H Q) (ta σ H fun x H1 => tb σ H1 fun y H2 => r x y H2 fun z H3 => ∃ k, z = .bl k ∧ if k = true then tc σ H3 fun w H4 => r' y w H4 Q else Q (.bl false) H3) := ⟨id⟩
instance : Step (tAndV ta tb σ H Q) (ta σ H fun x H1 => ∃ c, x = .bl c ∧ if c = true then tb σ H1 Q else Q (.bl false) H1) := ⟨id⟩
instance : Step (tOrV ta tb σ H Q) (ta σ H fun x H1 => ∃ c, x = .bl c ∧ if c = true then Q (.bl true) H1 else tb σ H1 Q) := ⟨id⟩
instance : Step (tNotV ta σ H Q) (ta σ H fun x H1 => ∃ c, x = .bl c ∧ Q (.bl (!c)) H1) := ⟨id⟩
instance {t : TT} : Step (tIf t ta tb σ H Q) (t σ H fun c H1 => if c = true then ta σ H1 Q else tb σ H1 Q) := ⟨id⟩
instance {i : Nat} {v : V} [h : Slot σ i v] : Step (tVar i σ H Q) (Q v H) := ⟨fun q => ⟨v, h.e, q⟩⟩
instance {v : V} : Step (tC v σ H Q) (Q v H) := ⟨id⟩
instance : Step (tOp r ta tb σ H Q) (ta σ H fun x H1 => tb σ H1 fun y H2 => r x y H2 Q) := ⟨id⟩
instance {u : V → Hp → VK → Prop} : Step (tUn u ta σ H Q) (ta σ H fun x H1 => u x H1 Q) := ⟨id⟩
instance {tr : TA} : Step (tCons ta tr σ H QA) (ta σ H fun x H1 => tr σ H1 fun xs H2 => QA (x :: xs) H2) := ⟨id⟩
instance : Step (tNil σ H QA) (QA [] H) := ⟨id⟩
instance {u : List V → Hp → VK → Prop} {t : TA} : Step (tCB u t σ H Q) (t σ H fun vs H1 => u vs H1 Q) := ⟨id⟩
instance {sp : Sp} {E : XK} {t : TA} : Step (tCall sp [] E t σ H Q) (t σ H fun vs H1 => sp vs H1 Q E) := ⟨fun h => by
  have e : (fun (vs : List V) (H1 : Hp) => sp (vs ++ []) H1 Q E) = fun vs H1 => sp vs H1 Q E := by
    funext vs H1
    rw [List.append_nil]
  show t σ H (fun vs H1 => sp (vs ++ []) H1 Q E)
  rw [e]
  exact h⟩
instance {sp : Sp} {E : L2.St → XK} {t : TA} : Step (tCallS sp E t σ H Q) (t σ H fun vs H1 => sp vs H1 Q (E σ)) := ⟨id⟩
instance {t : TA} : Step (tTup t σ H Q) (t σ H fun xs H1 => xs.length ≤ sizeLine ∧ ∀ p, H1 p = none → Q (.ref p) (upd H1 p (.tup xs))) := ⟨id⟩
instance {t : TA} : Step (tLst t σ H Q) (t σ H fun xs H1 => xs.length ≤ sizeLine ∧ ∀ p, H1 p = none → Q (.ref p) (upd H1 p (.lst xs))) := ⟨id⟩
instance {T : String} {u : V → List V → Hp → VK → Prop} {t : TA} : Step (tBM K T u te t σ H Q) (te σ H fun x H1 => tyV K T x H1 ∧ t σ H1 fun xs H2 => u x xs H2 Q) := ⟨id⟩
instance {T : String} {u : V → List V → Hp → VK → Prop} : Step (tBM0 K T u te σ H Q) (te σ H fun x H1 => tyV K T x H1 ∧ u x [] H1 Q) := ⟨id⟩
instance {g : Int → Int → V} {i j : Int} : Step (rI0 g (.int i) (.int j) H Q) (Q (g i j) H) := ⟨s_rI0⟩
instance {C : Int → Int → Prop} {g : Int → Int → V} {i j : Int} : Step (rI C g (.int i) (.int j) H Q) (C i j ∧ Q (g i j) H) := ⟨fun h => s_rI h.1 h.2⟩
instance {g : Int → V} {i : Int} : Step (rU g (.int i) H Q) (Q (g i) H) := ⟨s_rU⟩
instance {i j : Int} : Step (rAddU K (.int i) (.int j) H Q) (Q (.int (i + j)) H) := ⟨s_addI⟩
instance {i j : Str} : Step (rAddU K (.str i) (.str j) H Q) (i.length + j.length ≤ sizeLine ∧ Q (.str (i ++ j)) H) := ⟨fun h => s_addS h.1 h.2⟩
instance {i j : Int} : Step (rEqU K (.int i) (.int j) H Q) (Q (.bl (decide (i = j))) H) := ⟨fun h => s_eqS rfl (by
  have e : decide (V.int i = V.int j) = decide (i = j) := by by_cases z : i = j <;> simp [z]
  rw [e]; exact h)⟩
instance {i j : Str} : Step (rEqU K (.str i) (.str j) H Q) (Q (.bl (decide (i = j))) H) := ⟨fun h => s_eqS rfl (by
  have e : decide (V.str i = V.str j) = decide (i = j) := by by_cases z : i = j <;> simp [z]
  rw [e]; exact h)⟩
instance {i j : Int} : Step (rNeU K (.int i) (.int j) H Q) (Q (.bl (!decide (i = j))) H) := ⟨fun h => s_neS rfl (by
  have e : decide (V.int i = V.int j) = decide (i = j) := by by_cases z : i = j <;> simp [z]
  rw [e]; exact h)⟩
instance {i j : Str} : Step (rNeU K (.str i) (.str j) H Q) (Q (.bl (!decide (i = j))) H) := ⟨fun h => s_neS rfl (by
  have e : decide (V.str i = V.str j) = decide (i = j) := by by_cases z : i = j <;> simp [z]
  rw [e]; exact h)⟩
instance {i j : Bool} : Step (rEqU K (.bl i) (.bl j) H Q) (Q (.bl (decide (i = j))) H) := ⟨fun h => s_eqS rfl (by
  have e : decide (V.bl i = V.bl j) = decide (i = j) := by by_cases z : i = j <;> simp [z]
  rw [e]; exact h)⟩
instance {i j : Bool} : Step (rNeU K (.bl i) (.bl j) H Q) (Q (.bl (!decide (i = j))) H) := ⟨fun h => s_neS rfl (by
  have e : decide (V.bl i = V.bl j) = decide (i = j) := by by_cases z : i = j <;> simp [z]
  rw [e]; exact h)⟩
instance {x : V} : Step (rIsNo x .non H Q) (Q (.bl (decide (x = .non))) H) := ⟨s_isNo⟩
instance {x : V} : Step (rNotNo x .non H Q) (Q (.bl (!decide (x = .non))) H) := ⟨s_notNo⟩
instance {i : Int} : Step (rStrI [.int i] H Q) (i.natAbs.log2 < 1920 ∧ Q (.str (toString i)) H) := ⟨fun h => s_strI h.1 h.2⟩
instance {i : Int} : Step (rAbsI [.int i] H Q) (Q (.int (if i < 0 then -i else i)) H) := ⟨s_absI⟩
instance {z : Str} {A : Prop} : Step (tyV K "str" (.str z) H ∧ A) A := ⟨s_tyS⟩
instance {z : Str} : Step (rLenU K [.str z] H Q) (z.length ≤ sizeLine ∧ Q (.int (z.length : Nat)) H) := ⟨fun h => s_lenS h.1 h.2⟩
instance {wi : TI} {g : TG} {t : TS} : Step (tFor wi g t ⟨nx, rt, bk, ct⟩ σ H) (wi σ H fun J H1 => ForW g t ⟨nx, rt, bk, ct⟩ J σ H1) := ⟨id⟩
instance {ta : TA} {R : It → Hp → Prop} : Step (iRng1 ta σ H R) (ta σ H fun vs H1 => ∃ j : Int, vs = [.int j] ∧ -(2 ^ 62) ≤ j ∧ j < 2 ^ 62 ∧ R (Itr 0 j.toNat) H1) := ⟨id⟩
instance {ta : TA} {R : It → Hp → Prop} : Step (iRng2 ta σ H R) (ta σ H fun vs H1 => ∃ i j : Int, vs = [.int i, .int j] ∧ (-(2 ^ 62) ≤ i ∧ i < 2 ^ 62 ∧ -(2 ^ 62) ≤ j ∧ j < 2 ^ 62) ∧ R (Itr i (j - i).toNat) H1) := ⟨id⟩
instance {j : Int} {g : TG} {t : TS} {D : Ends} : Step (∃ k : Int, [V.int j] = [V.int k] ∧ -(2 ^ 62) ≤ k ∧ k < 2 ^ 62 ∧ ForW g t D (Itr 0 k.toNat) σ H) (-(2 ^ 62) ≤ j ∧ j < 2 ^ 62 ∧ ForW g t D (Itr 0 j.toNat) σ H) := ⟨fun h => s_rng1 h.1 h.2.1 h.2.2⟩
instance {i j : Int} {g : TG} {t : TS} {D : Ends} : Step (∃ a b : Int, [V.int i, V.int j] = [V.int a, V.int b] ∧ (-(2 ^ 62) ≤ a ∧ a < 2 ^ 62 ∧ -(2 ^ 62) ≤ b ∧ b < 2 ^ 62) ∧ ForW g t D (Itr a (b - a).toNat) σ H) ((-(2 ^ 62) ≤ i ∧ i < 2 ^ 62 ∧ -(2 ^ 62) ≤ j ∧ j < 2 ^ 62) ∧ ForW g t D (Itr i (j - i).toNat) σ H) := ⟨fun h => s_rng2 h.1 h.2⟩
instance {j : Int} {g : TG} {tt : TT} {vs : List Nat} : Step (∃ k : Int, [V.int j] = [V.int k] ∧ -(2 ^ 62) ≤ k ∧ k < 2 ^ 62 ∧ LcW g tt te vs σ Q (Itr 0 k.toNat) H) (-(2 ^ 62) ≤ j ∧ j < 2 ^ 62 ∧ LcW g tt te vs σ Q (Itr 0 j.toNat) H) := ⟨fun h => s_rng1c h.1 h.2.1 h.2.2⟩
instance {i j : Int} {g : TG} {tt : TT} {vs : List Nat} : Step (∃ a b : Int, [V.int i, V.int j] = [V.int a, V.int b] ∧ (-(2 ^ 62) ≤ a ∧ a < 2 ^ 62 ∧ -(2 ^ 62) ≤ b ∧ b < 2 ^ 62) ∧ LcW g tt te vs σ Q (Itr a (b - a).toNat) H) ((-(2 ^ 62) ≤ i ∧ i < 2 ^ 62 ∧ -(2 ^ 62) ≤ j ∧ j < 2 ^ 62) ∧ LcW g tt te vs σ Q (Itr i (j - i).toNat) H) := ⟨fun h => s_rng2c h.1 h.2⟩
instance {R : It → Hp → Prop} : Step (iList K te σ H R) (te σ H fun x H1 => ∃ a, x = .ref a ∧ (∃ xs, SqL K H1 a xs) ∧ R (Itl K a) H1) := ⟨id⟩
instance {R : It → Hp → Prop} : Step (iTup K te σ H R) (te σ H fun x H1 => ∃ a, x = .ref a ∧ (∃ xs, SqT K H1 a xs) ∧ R (Itt K a) H1) := ⟨id⟩
instance {wi : TI} {g : TG} {tt : TT} {vs : List Nat} : Step (tLc wi g tt te vs σ H Q) (wi σ H (LcW g tt te vs σ Q)) := ⟨id⟩
instance : Step (tYes σ H QT) (QT true H) := ⟨id⟩
instance {A B : Prop} : Step (if true = true then A else B) A := ⟨iteT⟩
instance {A B : Prop} : Step (if false = true then A else B) B := ⟨iteF⟩
instance {A B : Prop} : Step (if (!true) = true then A else B) B := ⟨iteF⟩
instance {A B : Prop} : Step (if (!false) = true then A else B) A := ⟨iteT⟩
instance {g : TG} {tt : TT} {x : Str} {i : Nat} {J : It} : Step (LcW g tt te (List.map (fun x => x.snd) [(x, i)]) σ Q J H) (LcW g tt te [i] σ Q J H) := ⟨id⟩
instance {g : TG} {tt : TT} {x y : Str} {i j : Nat} {J : It} : Step (LcW g tt te (List.map (fun x => x.snd) [(x, i), (y, j)]) σ Q J H) (LcW g tt te [i, j] σ Q J H) := ⟨id⟩
/-- which built-in class is under which -/
class Kit (a b : String) (r : outParam Bool) : Prop where
  e : kitB a b = some r
instance : Kit "NoneType" "str" false := ⟨by decide +kernel⟩
instance : Kit "NoneType" "int" false := ⟨by decide +kernel⟩
instance : Kit "NoneType" "tuple" false := ⟨by decide +kernel⟩
instance : Kit "NoneType" "list" false := ⟨by decide +kernel⟩
instance : Kit "NoneType" "bool" false := ⟨by decide +kernel⟩
instance : Kit "NoneType" "dict" false := ⟨by decide +kernel⟩
instance : Kit "bool" "str" false := ⟨by decide +kernel⟩
instance : Kit "bool" "int" true := ⟨by decide +kernel⟩
instance : Kit "bool" "tuple" false := ⟨by decide +kernel⟩
instance : Kit "bool" "list" false := ⟨by decide +kernel⟩
instance : Kit "bool" "bool" true := ⟨by decide +kernel⟩
instance : Kit "bool" "dict" false := ⟨by decide +kernel⟩
instance : Kit "int" "str" false := ⟨by decide +kernel⟩
instance : Kit "int" "int" true := ⟨by decide +kernel⟩
instance : Kit "int" "tuple" false := ⟨by decide +kernel⟩
instance : Kit "int" "list" false := ⟨by decide +kernel⟩
instance : Kit "int" "bool" false := ⟨by decide +kernel⟩
instance : Kit "int" "dict" false := ⟨by decide +kernel⟩
instance : Kit "str" "str" true := ⟨by decide +kernel⟩
instance : Kit "str" "int" false := ⟨by decide +kernel⟩
instance : Kit "str" "tuple" false := ⟨by decide +kernel⟩
instance : Kit "str" "list" false := ⟨by decide +kernel⟩
instance : Kit "str" "bool" false := ⟨by decide +kernel⟩
instance : Kit "str" "dict" false := ⟨by decide +kernel⟩
instance : Kit "tuple" "str" false := ⟨by decide +kernel⟩
instance : Kit "tuple" "int" false := ⟨by decide +kernel⟩
instance : Kit "tuple" "tuple" true := ⟨by decide +kernel⟩
instance : Kit "tuple" "list" false := ⟨by decide +kernel⟩
instance : Kit "tuple" "bool" false := ⟨by decide +kernel⟩
instance : Kit "tuple" "dict" false := ⟨by decide +kernel⟩
instance : Kit "list" "str" false := ⟨by decide +kernel⟩
instance : Kit "list" "int" false := ⟨by decide +kernel⟩
instance : Kit "list" "tuple" false := ⟨by decide +kernel⟩
instance : Kit "list" "list" true := ⟨by decide +kernel⟩
instance : Kit "list" "bool" false := ⟨by decide +kernel⟩
instance : Kit "list" "dict" false := ⟨by decide +kernel⟩
instance : Kit "dict" "str" false := ⟨by decide +kernel⟩
instance : Kit "dict" "int" false := ⟨by decide +kernel⟩
instance : Kit "dict" "tuple" false := ⟨by decide +kernel⟩
instance : Kit "dict" "list" false := ⟨by decide +kernel⟩
instance : Kit "dict" "bool" false := ⟨by decide +kernel⟩
instance : Kit "dict" "dict" true := ⟨by decide +kernel⟩
theorem s_isiT {x : V} {a b : String} {r : Bool} [k : Kit a b r] (ty : TyOf K H x (.type a)) (h : Q (.bl r) H) : rIsi K [x, .ty b] H Q := s_isi (.ty b) (.base ty) (kit_ty k.e) h
instance {b : String} {r : Bool} [k : Kit "NoneType" b r] : Step (rIsi K [.non, .ty b] H Q) (Q (.bl r) H) := ⟨s_isiT .non⟩
instance {i : Int} {b : String} {r : Bool} [k : Kit "int" b r] : Step (rIsi K [.int i, .ty b] H Q) (Q (.bl r) H) := ⟨s_isiT (.int i)⟩
instance {i : Bool} {b : String} {r : Bool} [k : Kit "bool" b r] : Step (rIsi K [.bl i, .ty b] H Q) (Q (.bl r) H) := ⟨s_isiT (.bl i)⟩
instance {i : Str} {b : String} {r : Bool} [k : Kit "str" b r] : Step (rIsi K [.str i, .ty b] H Q) (Q (.bl r) H) := ⟨s_isiT (.str i)⟩
theorem s_isiTup {p : Addr} {xs : List V} {b : String} {r : Bool} [k : Kit "tuple" b r] (e : H p = some (.tup xs)) (h : Q (.bl r) H) : rIsi K [.ref p, .ty b] H Q := s_isiT (.tup e) h
theorem s_isiLst {p : Addr} {xs : List V} {b : String} {r : Bool} [k : Kit "list" b r] (e : H p = some (.lst xs)) (h : Q (.bl r) H) : rIsi K [.ref p, .ty b] H Q := s_isiT (.lst e) h
end
end Ol

namespace Ol
open PySem PySem.Spec PyProof.Rows L2
/-! ### more rules by names -/
/-- // and % by any divisor but nought -/
def CDivA (_ j : Int) : Prop := j ≠ 0 ∧ j.natAbs.log2 < 9000
theorem op_fdivA {X : Cx} : OpR X (binaryOp .FloorDiv) (rI CDivA fun i j => .int (i.fdiv j)) := opI fun _ _ _ _ _ _ _ hc q => floordiv_int hc.1 q (.inl (PyProof.noPylong_of_log2 hc.2))
def rDivmodA : List V → Hp → VK → Prop := fun xs H Q => ∃ i j, xs = [.int i, .int j] ∧ CDivA i j ∧ ∀ p, H p = none → Q (.ref p) (upd H p (.tup [.int (i.fdiv j), .int (i.fmod j)]))
theorem call_divmodA {X : Cx} : CallR X (.builtin "divmod") rDivmodA := by
  intro pins s σ H xs us Q I r h
  obtain ⟨i, j, rfl, ⟨h1, h2⟩, q⟩ := h
  have hn : H s.heap.objs.size = none := I.hok.fresh (Nat.le_refl _)
  cases r with
  | cons r1 r2 =>
    cases r2 with
    | cons r2 r3 =>
      cases r3
      obtain ⟨t, rfl⟩ := r1
      obtain ⟨t', rfl⟩ := r2
      refine divmod_int h1 ?_ (.inl (PyProof.noPylong_of_log2 h2))
      refine ⟨.ref s.heap.objs.size, _, ?_, rfl, q _ hn⟩
      refine I.laid (fun b o e => Heap.get?_push_of_some _ e) (Nat.le_refl _) ⟨by simp only [List.length_cons, List.length_nil]; rw [sizeLine_eq]; decide, [.int (i.fdiv j) s.toks, .int (i.fmod j) (s.toks + 1)], .cons ⟨_, rfl⟩ (.cons ⟨_, rfl⟩ .nil), ?_⟩
      exact ⟨_, Heap.get?_push_size s.heap rfl, rfl, 0, rfl⟩
/-- a text times a number -/
def repS (x : Str) (n : Nat) : Str := ⟨(List.replicate n x.cps).foldl (· ++ ·) #[]⟩
theorem rep_size (a : Array Nat) : ∀ (n : Nat) (b : Array Nat), ((List.replicate n a).foldl (· ++ ·) b).size = b.size + n * a.size
  | 0, b => by simp
  | n + 1, b => by
    rw [List.replicate_succ, List.foldl_cons, rep_size a n, Array.size_append, Nat.succ_mul]
    omega
theorem repS_len (z : Str) (n : Nat) : (repS z n).length = n * z.length := by
  have h := rep_size z.cps n #[]
  show ((List.replicate n z.cps).foldl (· ++ ·) #[]).size = n * z.cps.size
  rw [h]
  simp
def rMulS : R2 := fun x y H Q => ∃ z n, x = .str z ∧ y = .int n ∧ 2 ≤ n ∧ 0 < z.length ∧ z.length * n.toNat ≤ 1000000 ∧ Q (.str (repS z n.toNat)) H
theorem op_mulS {X : Cx} : OpR X (binaryOp .Mult) rMulS := by
  intro pins s σ H x y v u Q I rx ry h
  obtain ⟨z, n, rfl, rfl, h2, hz, hl, q⟩ := h
  obtain ⟨t, rfl⟩ := rx
  obtain ⟨t2, rfl⟩ := ry
  have hn : n ≤ 1000000 := by
    have h3 : 1 * n.toNat ≤ z.length * n.toNat := Nat.mul_le_mul_right _ hz
    omega
  have hm : (z.length : Int) ≤ 1000000 := by
    have h3 : z.length * 1 ≤ z.length * n.toNat := Nat.mul_le_mul_left _ (by omega)
    omega
  refine PySem.P.mul_str (by
      have a1 : ¬ n < -(2 ^ 63 : Int) := by omega
      have a2 : ¬ n ≥ (2 ^ 63 : Int) := by omega
      rw [decide_eq_false a1, decide_eq_false a2]; rfl) (fun _ _ => ?_) (fun _ _ => ?_) ?_
  · have h5 : (2 ^ 63 - 1 : Int) / n ≥ 1000001 := by
      refine (Int.le_ediv_iff_mul_le (by omega)).mpr ?_
      omega
    omega
  · have h6 : ¬ z.length * n.toNat > 16777216 := by omega
    exact decide_eq_false (show ¬ z.length * n.toNat > sizeLine by rw [sizeLine_eq]; omega)
  · rw [if_neg (show ¬ n < 1 by omega), if_neg (by
      have h7 : (n == 1) = false := by
        rw [beq_eq_false_iff_ne]; omega
      have h8 : (z.length == 0) = false := by
        rw [beq_eq_false_iff_ne]; omega
      rw [h7, h8]; exact Bool.false_ne_true)]
    refine ⟨?_, .str _, H, I.tok _, ⟨_, rfl⟩, q⟩
    have h9 := repS_len z n.toNat
    rw [Nat.mul_comm] at h9
    show (repS z n.toNat).length ≤ 16777216
    omega
def rMulU : R2 := rOr (rI CMulW fun i j => .int (i * j)) (rOr rMulS rRep)
theorem op_mulU {X : Cx} : OpR X (binaryOp .Mult) rMulU := op_or2 op_mulW (op_or2 op_mulS op_rep)
def rStrU : List V → Hp → VK → Prop := fun xs H Q => rStrI xs H Q ∨ ∃ a, xs = [.str a] ∧ Q (.str a) H
theorem call_strU {X : Cx} : CallR X (.type "str") rStrU := call_or2 call_strI SkE.call_str_str
def rIntU : List V → Hp → VK → Prop := fun xs H Q => ((∃ i, xs = [.int i] ∧ Q (.int i) H) ∨ ∃ k, xs = [.bl k] ∧ Q (.int (if k then 1 else 0)) H) ∨ ∃ a n, xs = [.str a] ∧ PySem.intText? a = some n ∧ a.length ≤ 640 ∧ Q (.int n) H
theorem call_intU {X : Cx} : CallR X (.type "int") rIntU := call_or2 call_int1 call_int_str
def rMax2 : List V → Hp → VK → Prop := fun xs H Q => ∃ i j, xs = [.int i, .int j] ∧ Q (.int (if j > i then j else i)) H
def rMin2 : List V → Hp → VK → Prop := fun xs H Q => ∃ i j, xs = [.int i, .int j] ∧ Q (.int (if j < i then j else i)) H
theorem call_maxP {X : Cx} (hc : X.calm = true := by rfl) : CallR X (.builtin "max") rMax2 := call_max2 hc
theorem call_minP {X : Cx} (hc : X.calm = true := by rfl) : CallR X (.builtin "min") rMin2 := call_min2 hc
theorem call_maxL {X : Cx} {K : PySem.W.Frag} (hc : X.calm = true := by rfl) (hK : X.K = K := by rfl) : CallR X (.builtin "max") (rMax K) := hK ▸ cr_max hc
theorem call_minL {X : Cx} {K : PySem.W.Frag} (hc : X.calm = true := by rfl) (hK : X.K = K := by rfl) : CallR X (.builtin "min") (rMin K) := hK ▸ cr_min hc
theorem call_sumL {X : Cx} {K : PySem.W.Frag} (hc : X.calm = true := by rfl) (hK : X.K = K := by rfl) : CallR X (.builtin "sum") (rSum K) := hK ▸ cr_sum hc
theorem call_sortedL {X : Cx} {K : PySem.W.Frag} (hK : X.K = K := by rfl) : CallR X (.builtin "sorted") (rSortedI K) := hK ▸ cr_sortedI
theorem call_allL {X : Cx} {K : PySem.W.Frag} (hc : X.calm = true := by rfl) (hK : X.K = K := by rfl) : CallR X (.builtin "all") (rAll K) := hK ▸ cr_all hc
theorem call_anyL {X : Cx} {K : PySem.W.Frag} (hc : X.calm = true := by rfl) (hK : X.K = K := by rfl) : CallR X (.builtin "any") (rAny K) := hK ▸ cr_any hc
def rListOf (K : PySem.W.Frag) : List V → Hp → VK → Prop := fun xs H Q => ∃ p ys, xs = [.ref p] ∧ (SqL K H p ys ∨ SqT K H p ys) ∧ ∀ l, H l = none → Q (.ref l) (upd H l (.lst ys))
theorem call_listL {X : Cx} {K : PySem.W.Frag} (hK : X.K = K := by rfl) : CallR X (.type "list") (rListOf K) := hK ▸ call_list_of
def rLtU : R2 := rOr (rI0 fun i j => .bl (decide (i < j))) fun x y H Q => ∃ i j, x = .str i ∧ y = .str j ∧ Q (.bl (decide (i.cps.toList < j.cps.toList))) H
theorem op_ltU {X : Cx} : OpR X (compareOp .Lt) rLtU := op_or2 op_lt op_lt_str
section
variable {K : PySem.W.Frag} {σ : L2.St} {H H' : Hp} {Q : VK}
instance {i j : Int} : Step (rMulU (.int i) (.int j) H Q) (CMulW i j ∧ Q (.int (i * j)) H) := ⟨fun h => .inl ⟨i, j, rfl, rfl, h.1, h.2⟩⟩
instance {z : Str} {n : Int} : Step (rMulU (.str z) (.int n) H Q) ((2 ≤ n ∧ 0 < z.length ∧ z.length * n.toNat ≤ 1000000) ∧ Q (.str (repS z n.toNat)) H) := ⟨fun h => .inr (.inl ⟨z, n, rfl, rfl, h.1.1, h.1.2.1, h.1.2.2, h.2⟩)⟩
theorem s_mulL {p : Addr} {xs : List V} {k : Int} (h : H p = some (.lst xs)) (e : -(2 ^ 63) ≤ k ∧ k < 2 ^ 63 ∧ xs.length * k.toNat ≤ sizeLine) (q : ∀ p, H p = none → Q (.ref p) (upd H p (.lst (List.replicate k.toNat xs).flatten))) : rMulU (.ref p) (.int k) H Q :=
  .inr (.inr ⟨p, k, xs, rfl, rfl, h, e.1, e.2.1, e.2.2, q⟩)
instance {i : Int} : Step (rStrU [.int i] H Q) (i.natAbs.log2 < 1920 ∧ Q (.str (toString i)) H) := ⟨fun h => .inl (s_strI h.1 h.2)⟩
instance {z : Str} : Step (rStrU [.str z] H Q) (Q (.str z) H) := ⟨fun h => .inr ⟨z, rfl, h⟩⟩
instance {i : Int} : Step (rIntU [.int i] H Q) (Q (.int i) H) := ⟨fun h => .inl (.inl ⟨i, rfl, h⟩)⟩
instance {k : Bool} : Step (rIntU [.bl k] H Q) (Q (.int (if k then 1 else 0)) H) := ⟨fun h => .inl (.inr ⟨k, rfl, h⟩)⟩
theorem s_intS {a : Str} {n : Int} (e : PySem.intText? a = some n) (l : a.length ≤ 640) (h : Q (.int n) H) : rIntU [.str a] H Q := .inr ⟨a, n, rfl, e, l, h⟩
instance {i j : Int} : Step (rDivmodA [.int i, .int j] H Q) (CDivA i j ∧ ∀ p, H p = none → Q (.ref p) (upd H p (.tup [.int (i.fdiv j), .int (i.fmod j)]))) := ⟨fun h => ⟨i, j, rfl, h.1, h.2⟩⟩
instance {i j : Int} : Step (rMax2 [.int i, .int j] H Q) (Q (.int (if j > i then j else i)) H) := ⟨fun h => ⟨i, j, rfl, h⟩⟩
instance {i j : Int} : Step (rMin2 [.int i, .int j] H Q) (Q (.int (if j < i then j else i)) H) := ⟨fun h => ⟨i, j, rfl, h⟩⟩
instance {i j : Int} : Step (rLtU (.int i) (.int j) H Q) (Q (.bl (decide (i < j))) H) := ⟨fun h => .inl ⟨i, j, rfl, rfl, h⟩⟩
instance {i j : Str} : Step (rLtU (.str i) (.str j) H Q) (Q (.bl (decide (i.cps.toList < j.cps.toList))) H) := ⟨fun h => .inr ⟨i, j, rfl, rfl, h⟩⟩
theorem s_listL {p : Addr} {xs : List V} (h : SqL K H p xs) (q : ∀ l, H l = none → Q (.ref l) (upd H l (.lst xs))) : rListOf K [.ref p] H Q := ⟨p, xs, rfl, .inl h, q⟩
theorem s_listT {p : Addr} {xs : List V} (h : SqT K H p xs) (q : ∀ l, H l = none → Q (.ref l) (upd H l (.lst xs))) : rListOf K [.ref p] H Q := ⟨p, xs, rfl, .inr h, q⟩
theorem s_sumL {p : Addr} {ns : List Int} (h : SqL K H p (ns.map V.int)) (q : Q (.int ns.sum) H) : rSum K [.ref p] H Q := ⟨p, ns, rfl, h, q⟩
theorem s_sortedL {p : Addr} {ns : List Int} (h : SqL K H p (ns.map V.int)) (q : ∀ (ns' : List Int) (p : Addr), ns'.Perm ns → ns'.Pairwise (· ≤ ·) → H p = none → Q (.ref p) (upd H p (.lst (ns'.map V.int)))) : rSortedI K [.ref p] H Q := ⟨p, ns, rfl, h, q⟩
theorem s_minL {p : Addr} {ns : List Int} (h : SqL K H p (ns.map V.int)) (l : 0 < ns.length) (q : ∀ m, m ∈ ns → (∀ y, y ∈ ns → m ≤ y) → Q (.int m) H) : rMin K [.ref p] H Q := ⟨p, ns, rfl, h, l, q⟩
theorem s_maxL {p : Addr} {ns : List Int} (h : SqL K H p (ns.map V.int)) (l : 0 < ns.length) (q : ∀ m, m ∈ ns → (∀ y, y ∈ ns → y ≤ m) → Q (.int m) H) : rMax K [.ref p] H Q := ⟨p, ns, rfl, h, l, q⟩
/-! slices -/
instance {r : V → Option Int → Option Int → Hp → VK → Prop} {te : TE} {tl th : TO} : Step (tSl r te tl th σ H Q) (te σ H fun x H1 => tl σ H1 fun l H2 => th σ H2 fun u H3 => r x l u H3 Q) := ⟨id⟩
instance {R : Option Int → Hp → Prop} : Step (tNoPart σ H R) (R none H) := ⟨id⟩
instance {t : TE} {R : Option Int → Hp → Prop} : Step (tPart t σ H R) (t σ H fun x H1 => ∃ i, x = .int i ∧ R (some i) H1) := ⟨id⟩
instance {i : Int} {F : Int → Prop} : Step (∃ j, V.int i = .int j ∧ F j) (F i) := ⟨fun h => ⟨i, rfl, h⟩⟩
instance {z : Str} {lo hi : Option Int} : Step (rSlS (.str z) lo hi H Q) (z.length ≤ sizeLine ∧ Q (.str (cutS z lo hi)) H) := ⟨fun h => ⟨z, rfl, h.1, h.2⟩⟩
theorem s_slL {p : Addr} {xs : List V} {lo hi : Option Int} (h : SqL K H p xs) (q : ∀ p, H p = none → Q (.ref p) (upd H p (.lst (cutV xs lo hi)))) : rSlL K (.ref p) lo hi H Q := ⟨p, xs, rfl, h, q⟩
/-! truth -/
instance {b : Bool} {F : Bool → Prop} : Step (∃ k, TruV K (.bl b) H k ∧ F k) (F b) := ⟨fun h => ⟨b, rfl, h⟩⟩
instance {F : Bool → Prop} : Step (∃ k, TruV K .non H k ∧ F k) (F false) := ⟨fun h => ⟨false, rfl, h⟩⟩
/-! in, not in -/
theorem s_inL {neg : Bool} {p : Addr} {xs : List V} {x : V} (h : SqL K H p xs) (hx : flatV x = true) (ha : xs.all flatV = true) (q : Q (.bl (if neg then !inV x xs else inV x xs)) H) : rIn K neg x (.ref p) H Q := ⟨p, xs, rfl, .inl h, hx, ha, q⟩
theorem s_inT {neg : Bool} {p : Addr} {xs : List V} {x : V} (h : SqT K H p xs) (hx : flatV x = true) (ha : xs.all flatV = true) (q : Q (.bl (if neg then !inV x xs else inV x xs)) H) : rIn K neg x (.ref p) H Q := ⟨p, xs, rfl, .inr h, hx, ha, q⟩
/-! what kind a sequence is, wherever it stands -/
theorem ty_sqT {p : Addr} {xs : List V} (h : SqT K H p xs) : TyX K H (.ref p) (.type "tuple") := by
  rcases h with (h | ⟨o, h⟩) | ⟨o, _, _, h, c, _⟩
  · exact .base (.tup h)
  · exact .fTuple h
  · exact .kTuple h c
theorem ty_sqL {p : Addr} {xs : List V} (h : SqL K H p xs) : TyX K H (.ref p) (.type "list") := by
  rcases h with (h | ⟨o, h⟩) | ⟨o, _, _, h, c, _⟩
  · exact .base (.lst h)
  · exact .base (.frz h)
  · exact .kList h c
theorem s_isiSqT {p : Addr} {xs : List V} {b : String} {r : Bool} [k : Kit "tuple" b r] (e : SqT K H p xs) (h : Q (.bl r) H) : rIsi K [.ref p, .ty b] H Q := s_isi (.ty b) (ty_sqT e) (kit_ty k.e) h
theorem s_isiSqL {p : Addr} {xs : List V} {b : String} {r : Bool} [k : Kit "list" b r] (e : SqL K H p xs) (h : Q (.bl r) H) : rIsi K [.ref p, .ty b] H Q := s_isi (.ty b) (ty_sqL e) (kit_ty k.e) h
/-! ### exceptions -/
end
def tRaiseX (W : WX) (C : Value) : TS := fun _ σ H => W C none σ H
theorem ps_raiseX {X : Cx} {W : WX} {x m : Str} {j : Nat} {p p2 pos pos2 : Pos} (hc : X.calm = true) (tk : Takes X W) (h : XCls X.K X.mg x) (hg : Gl X x) (hdb : (x == ("__debug__" : Str)) = false := by decide) :
    PS X (.Raise (some (.Call (.Name x p) [.Constant (.str m) j p2] [] pos)) none pos2) (tRaiseX W (.ref (He.ga X.K x))) := ps_raise hc tk (pmk_x h hg hdb)
def tTry (K : PySem.W.Frag) (c : Value) (i : Nat) (ts : Addr → Value → Option Addr → TS) (Wout : WX) (tb : WX → TS) : TS := fun D σ H => tb (wAs K c i ts Wout D) D σ H
theorem ps_tryX {X : Cx} {x n : Str} {c : Value} {i : Nat} {body suite : List Stmt} {b₀ : Stmt} {np pos pos' : Pos} {tb : WX → TS} {ts : Addr → Value → Option Addr → TS} {Wout : WX} (hs : X.stack = X.env :: X.outer) (hf : X.env.frame = some X.env.locals) (hN : X.N.Nodup) (hi : X.N[i]? = some n) (hln : X.env.kindOf n = some .local) (hc : Names X x c) (tk : Takes X Wout)
    (hb : ∀ (W : WX) (pn : List (Addr × Obj)) (xe : Value → Shared → Prop), Takes (X.tr pn xe) W → PassesOwn (model X.prog X.w) X.A X.env xe → PSs (X.tr pn xe) body (tb W))
    (hsu : ∀ (a : Addr) (oe : Obj) (cls : Value) (d : Option Addr) (pn : List (Addr × Obj)), Zc cls d oe → (∃ vs, oe.data = .fields vs) → PSs (X.suite a ((a, oe) :: pn)) (b₀ :: suite) (ts a cls d)) :
    PS X (.Try body [.ExceptHandler (some (.Name x np)) (some n) (b₀ :: suite) pos'] [] [] pos) (tTry X.K c i ts Wout tb) := ps_try_as hs hf hN hi hln hc tk hb hsu
def ClrNx (nx : L2.St → Hp → Prop) (i : Nat) : L2.St → Hp → Prop := fun σ H => nx (σ.set i none) H
def rIsEg (K : PySem.W.Frag) (cls : Value) (d : Option Addr) (a : Addr) : List V → Hp → VK → Prop := fun xs H Q => ∃ D, cls = .ref D ∧ d = none ∧ ExcC K D ∧ rIsE K D a xs H Q
theorem call_isEg {X : Cx} {K : PySem.W.Frag} {a : Addr} {cls : Value} {d : Option Addr} {oe : Obj} {pn : List (Addr × Obj)} (hz : Zc cls d oe) (hf : ∃ vs, oe.data = .fields vs) (hK : X.K = K := by rfl) : CallR (X.suite a ((a, oe) :: pn)) (.builtin "isinstance") (rIsEg K cls d a) := by
  subst hK
  intro pins s σ H xs us Q I r h
  obtain ⟨D, rfl, rfl, c, h⟩ := h
  exact call_isE c hz hf pins s σ H xs us Q I r h
section
variable {K : PySem.W.Frag} {σ : L2.St} {H H' : Hp} {Q rt : VK} {nx bk ct : L2.St → Hp → Prop}
instance {W : WX} {C : Value} {D : Ends} : Step (tRaiseX W C D σ H) (W C none σ H) := ⟨id⟩
instance {c : Value} {i : Nat} {ts : Addr → Value → Option Addr → TS} {Wout : WX} {tb : WX → TS} {D : Ends} : Step (tTry K c i ts Wout tb D σ H) (tb (wAs K c i ts Wout D) D σ H) := ⟨id⟩
instance {i : Nat} {τ : L2.St} [h : NoneS σ i τ] : Step (ClrNx nx i σ H) (nx τ H) := ⟨fun q => by
  show nx (σ.set i none) H
  rw [h.e]
  exact q⟩
theorem s_catch {c cls : Value} {d : Option Addr} {i : Nat} {f : V → L2.St} {ts : Addr → Value → Option Addr → TS} {Wout : WX} [hs : SetS σ i f] (h : PySem.W.exmOne K cls c = some true)
    (q : ∀ a, H a = none → ts a cls d ⟨ClrNx nx i, rt, ClrNx bk i, ClrNx ct i⟩ (f (.ref a)) H) : WE (wAs K c i ts Wout ⟨nx, rt, bk, ct⟩) σ cls d H :=
  ⟨true, h, fun _ a ha => by
    rw [hs.e]
    exact q a ha, fun h => by cases h⟩
theorem s_isEc {a D C : Addr} {b : Bool} (hc : ExcC K D) (h : PySem.W.kitOne K (.ref D) (.ref C) = some b) (q : Q (.bl b) H) : rIsEg K (.ref D) none a [.ref a, .ref C] H Q :=
  ⟨D, rfl, rfl, hc, .ref C, .ref C, b, rfl, fun u r => by cases r; rfl, h, q⟩
theorem s_isEt {a D : Addr} {n : String} {b : Bool} (hc : ExcC K D) (h : PySem.W.kitOne K (.ref D) (.type n) = some b) (q : Q (.bl b) H) : rIsEg K (.ref D) none a [.ref a, .ty n] H Q :=
  ⟨D, rfl, rfl, hc, .ty n, .type n, b, rfl, fun u r => by cases r; rfl, h, q⟩
end
end Ol

namespace Ol
open PySem PySem.Spec PyProof.Rows L2
/-! ### the text by places -/
def top (i : Nat) : Stmt := PySem.Challenge.pw_onelook_k04_areas_gone_through.main.body.getD i (.Pass ⟨0, 0, 0, 0⟩)
abbrev s_is_place : Stmt := top 8
abbrev N_is_place : List Str := ["place"]
theorem st_is_place (a0 : V) : L2.start N_is_place [a0] = [some a0] := rfl
theorem sc_is_place : FnScope N_is_place ["place"] (defScope s_is_place) := ⟨rfl, rfl, rfl, by decide +kernel, rfl, by decide +kernel, by decide +kernel⟩
abbrev s_place_name : Stmt := top 9
abbrev N_place_name : List Str := ["place"]
theorem st_place_name (a0 : V) : L2.start N_place_name [a0] = [some a0] := rfl
theorem sc_place_name : FnScope N_place_name ["place"] (defScope s_place_name) := ⟨rfl, rfl, rfl, by decide +kernel, rfl, by decide +kernel, by decide +kernel⟩
abbrev s_stands_right : Stmt := top 12
abbrev N_stands_right : List Str := ["area"]
theorem st_stands_right (a0 : V) : L2.start N_stands_right [a0] = [some a0] := rfl
theorem sc_stands_right : FnScope N_stands_right ["area"] (defScope s_stands_right) := ⟨rfl, rfl, rfl, by decide +kernel, rfl, by decide +kernel, by decide +kernel⟩
abbrev s_area_many : Stmt := top 13
abbrev N_area_many : List Str := ["area"]
theorem st_area_many (a0 : V) : L2.start N_area_many [a0] = [some a0] := rfl
theorem sc_area_many : FnScope N_area_many ["area"] (defScope s_area_many) := ⟨rfl, rfl, rfl, by decide +kernel, rfl, by decide +kernel, by decide +kernel⟩
abbrev s_is_area : Stmt := top 14
abbrev N_is_area : List Str := ["area"]
theorem st_is_area (a0 : V) : L2.start N_is_area [a0] = [some a0] := rfl
theorem sc_is_area : FnScope N_is_area ["area"] (defScope s_is_area) := ⟨rfl, rfl, rfl, by decide +kernel, rfl, by decide +kernel, by decide +kernel⟩
abbrev s_asked_area : Stmt := top 15
abbrev N_asked_area : List Str := ["area"]
theorem st_asked_area (a0 : V) : L2.start N_asked_area [a0] = [some a0] := rfl
theorem sc_asked_area : FnScope N_asked_area ["area"] (defScope s_asked_area) := ⟨rfl, rfl, rfl, by decide +kernel, rfl, by decide +kernel, by decide +kernel⟩
abbrev s_area_name : Stmt := top 16
abbrev N_area_name : List Str := ["area"]
theorem st_area_name (a0 : V) : L2.start N_area_name [a0] = [some a0] := rfl
theorem sc_area_name : FnScope N_area_name ["area"] (defScope s_area_name) := ⟨rfl, rfl, rfl, by decide +kernel, rfl, by decide +kernel, by decide +kernel⟩
abbrev s_area_places : Stmt := top 17
abbrev N_area_places : List Str := ["area", "places", "row", "column"]
theorem st_area_places (a0 : V) : L2.start N_area_places [a0] = [some a0, none, none, none] := rfl
theorem sc_area_places : FnScope N_area_places ["area"] (defScope s_area_places) := ⟨rfl, rfl, rfl, by decide +kernel, rfl, by decide +kernel, by decide +kernel⟩
abbrev s__law_digit : Stmt := top 19
abbrev N__law_digit : List Str := ["left", "many", "digit"]
theorem st__law_digit (a0 a1 : V) : L2.start N__law_digit [a0, a1] = [some a0, some a1, none] := rfl
theorem sc__law_digit : FnScope N__law_digit ["left", "many"] (defScope s__law_digit) := ⟨rfl, rfl, rfl, by decide +kernel, rfl, by decide +kernel, by decide +kernel⟩
abbrev s__law_turn : Stmt := top 20
abbrev N__law_turn : List Str := ["cell", "k", "near"]
theorem st__law_turn (a0 a1 : V) : L2.start N__law_turn [a0, a1] = [some a0, some a1, none] := rfl
theorem sc__law_turn : FnScope N__law_turn ["cell", "k"] (defScope s__law_turn) := ⟨rfl, rfl, rfl, by decide +kernel, rfl, by decide +kernel, by decide +kernel⟩
abbrev s__law_cells : Stmt := top 21
abbrev N__law_cells : List Str := ["script", "most", "cells", "k"]
theorem st__law_cells (a0 a1 : V) : L2.start N__law_cells [a0, a1] = [some a0, some a1, none, none] := rfl
theorem sc__law_cells : FnScope N__law_cells ["script", "most"] (defScope s__law_cells) := ⟨rfl, rfl, rfl, by decide +kernel, rfl, by decide +kernel, by decide +kernel⟩
abbrev s__law_good_area : Stmt := top 22
abbrev N__law_good_area : List Str := ["left", "top", "column", "high", "wide"]
theorem st__law_good_area (a0 : V) : L2.start N__law_good_area [a0] = [some a0, none, none, none, none] := rfl
theorem sc__law_good_area : FnScope N__law_good_area ["left"] (defScope s__law_good_area) := ⟨rfl, rfl, rfl, by decide +kernel, rfl, by decide +kernel, by decide +kernel⟩
abbrev s__law_name : Stmt := top 23
abbrev N__law_name : List Str := ["row", "column"]
theorem st__law_name (a0 a1 : V) : L2.start N__law_name [a0, a1] = [some a0, some a1] := rfl
theorem sc__law_name : FnScope N__law_name ["row", "column"] (defScope s__law_name) := ⟨rfl, rfl, rfl, by decide +kernel, rfl, by decide +kernel, by decide +kernel⟩
abbrev s_law : Stmt := top 24
abbrev N_law : List Str := ["script", "cell", "area", "due", "row", "column", "found", "many", "name", "first", "last", "place"]
theorem st_law (a0 : V) : L2.start N_law [a0] = [some a0, none, none, none, none, none, none, none, none, none, none, none] := rfl
theorem sc_law : FnScope N_law ["script"] (defScope s_law) := ⟨rfl, rfl, rfl, by decide +kernel, rfl, by decide +kernel, by decide +kernel⟩
@[simp] theorem ll_0 : (Str.ofString "no place").length = 8 := by decide +kernel
@[simp] theorem ll_1 : (Str.ofString "no area").length = 7 := by decide +kernel
@[simp] theorem ll_2 : (Str.ofString ":").length = 1 := by decide +kernel
@[simp] theorem ll_3 : (Str.ofString "abcdefghijklmnopqrstuvwxyz").length = 26 := by decide +kernel
/-! ### the facts of the top -/
def d_is_place : He.DefD := ⟨("is_place", none), "is_place", "is_place", defArgs s_is_place, defBody s_is_place, defScope s_is_place, [], []⟩
def d_place_name : He.DefD := ⟨("place_name", none), "place_name", "place_name", defArgs s_place_name, defBody s_place_name, defScope s_place_name, [], []⟩
def d_stands_right : He.DefD := ⟨("stands_right", none), "stands_right", "stands_right", defArgs s_stands_right, defBody s_stands_right, defScope s_stands_right, [], []⟩
def d_area_many : He.DefD := ⟨("area_many", none), "area_many", "area_many", defArgs s_area_many, defBody s_area_many, defScope s_area_many, [], []⟩
def d_is_area : He.DefD := ⟨("is_area", none), "is_area", "is_area", defArgs s_is_area, defBody s_is_area, defScope s_is_area, [], []⟩
def d_asked_area : He.DefD := ⟨("asked_area", none), "asked_area", "asked_area", defArgs s_asked_area, defBody s_asked_area, defScope s_asked_area, [], []⟩
def d_area_name : He.DefD := ⟨("area_name", none), "area_name", "area_name", defArgs s_area_name, defBody s_area_name, defScope s_area_name, [], []⟩
def d_area_places : He.DefD := ⟨("area_places", none), "area_places", "area_places", defArgs s_area_places, defBody s_area_places, defScope s_area_places, [], []⟩
def d__law_digit : He.DefD := ⟨("_law_digit", none), "_law_digit", "_law_digit", defArgs s__law_digit, defBody s__law_digit, defScope s__law_digit, [], []⟩
def d__law_turn : He.DefD := ⟨("_law_turn", none), "_law_turn", "_law_turn", defArgs s__law_turn, defBody s__law_turn, defScope s__law_turn, [], []⟩
def d__law_cells : He.DefD := ⟨("_law_cells", none), "_law_cells", "_law_cells", defArgs s__law_cells, defBody s__law_cells, defScope s__law_cells, [], []⟩
def d__law_good_area : He.DefD := ⟨("_law_good_area", none), "_law_good_area", "_law_good_area", defArgs s__law_good_area, defBody s__law_good_area, defScope s__law_good_area, [], []⟩
def d__law_name : He.DefD := ⟨("_law_name", none), "_law_name", "_law_name", defArgs s__law_name, defBody s__law_name, defScope s__law_name, [], []⟩
def d_law : He.DefD := ⟨("law", none), "law", "law", defArgs s_law, defBody s_law, defScope s_law, [], []⟩
def fn : List He.DefD := [d_is_place, d_place_name, d_stands_right, d_area_many, d_is_area, d_asked_area, d_area_name, d_area_places, d__law_digit, d__law_turn, d__law_cells, d__law_good_area, d__law_name, d_law]
def fa0 : List He.Fa := [.glo "is_place", .glo "place_name", .glo "stands_right", .glo "area_many", .glo "is_area", .glo "asked_area", .glo "area_name", .glo "area_places", .glo "_law_digit", .glo "_law_turn", .glo "_law_cells", .glo "_law_good_area", .glo "_law_name", .glo "law", .free "all", .free "bool", .free "int", .free "isinstance", .free "len", .free "list", .free "min", .free "range", .free "str", .free "tuple", .int "ROWS" (99), .int "COLUMNS" (26), .str "LETTERS" "abcdefghijklmnopqrstuvwxyz", .int "MOST_PLACES" (300), .glo "SheetError", .exc "SheetError"]
def fa30 : List He.Fa := [.glo "BadPlace", .exc "BadPlace", .glo "BadArea", .exc "BadArea", .exm "SheetError" "BadPlace" false, .exm "SheetError" "BadArea" false, .exm "BadPlace" "SheetError" true, .exm "BadPlace" "BadPlace" true, .exm "BadPlace" "BadArea" false, .exm "BadArea" "SheetError" true, .exm "BadArea" "BadPlace" false, .exm "BadArea" "BadArea" true]
def fa : List He.Fa := fa0 ++ fa30
def exs0 : List (PySem.W.Frag → Bool) := [(fun K => excCB K (He.ga K "SheetError")), (fun K => excCB K (He.ga K "BadPlace")), (fun K => excCB K (He.ga K "BadArea"))]
def exs : List (PySem.W.Frag → Bool) := exs0
def ex (K : PySem.W.Frag) : Bool := exs.all fun f => f K
theorem ex_at {K : PySem.W.Frag} {f : PySem.W.Frag → Bool} (h : ex K = true) (i : Nat) (e : exs[i]? = some f) : f K = true := List.all_eq_true.mp h f (List.mem_of_getElem? e)
structure Txt (K : PySem.W.Frag) (mg : Str → Option Value) : Prop where
  g_is_place : mg "is_place" = some (.ref (He.ga K "is_place"))
  f_is_place : ∃ fd, FunD K "is_place" "is_place" (defArgs s_is_place) (defBody s_is_place) (defScope s_is_place) [] [] (He.ga K "is_place") fd
  g_place_name : mg "place_name" = some (.ref (He.ga K "place_name"))
  f_place_name : ∃ fd, FunD K "place_name" "place_name" (defArgs s_place_name) (defBody s_place_name) (defScope s_place_name) [] [] (He.ga K "place_name") fd
  g_stands_right : mg "stands_right" = some (.ref (He.ga K "stands_right"))
  f_stands_right : ∃ fd, FunD K "stands_right" "stands_right" (defArgs s_stands_right) (defBody s_stands_right) (defScope s_stands_right) [] [] (He.ga K "stands_right") fd
  g_area_many : mg "area_many" = some (.ref (He.ga K "area_many"))
  f_area_many : ∃ fd, FunD K "area_many" "area_many" (defArgs s_area_many) (defBody s_area_many) (defScope s_area_many) [] [] (He.ga K "area_many") fd
  g_is_area : mg "is_area" = some (.ref (He.ga K "is_area"))
  f_is_area : ∃ fd, FunD K "is_area" "is_area" (defArgs s_is_area) (defBody s_is_area) (defScope s_is_area) [] [] (He.ga K "is_area") fd
  g_asked_area : mg "asked_area" = some (.ref (He.ga K "asked_area"))
  f_asked_area : ∃ fd, FunD K "asked_area" "asked_area" (defArgs s_asked_area) (defBody s_asked_area) (defScope s_asked_area) [] [] (He.ga K "asked_area") fd
  g_area_name : mg "area_name" = some (.ref (He.ga K "area_name"))
  f_area_name : ∃ fd, FunD K "area_name" "area_name" (defArgs s_area_name) (defBody s_area_name) (defScope s_area_name) [] [] (He.ga K "area_name") fd
  g_area_places : mg "area_places" = some (.ref (He.ga K "area_places"))
  f_area_places : ∃ fd, FunD K "area_places" "area_places" (defArgs s_area_places) (defBody s_area_places) (defScope s_area_places) [] [] (He.ga K "area_places") fd
  g__law_digit : mg "_law_digit" = some (.ref (He.ga K "_law_digit"))
  f__law_digit : ∃ fd, FunD K "_law_digit" "_law_digit" (defArgs s__law_digit) (defBody s__law_digit) (defScope s__law_digit) [] [] (He.ga K "_law_digit") fd
  g__law_turn : mg "_law_turn" = some (.ref (He.ga K "_law_turn"))
  f__law_turn : ∃ fd, FunD K "_law_turn" "_law_turn" (defArgs s__law_turn) (defBody s__law_turn) (defScope s__law_turn) [] [] (He.ga K "_law_turn") fd
  g__law_cells : mg "_law_cells" = some (.ref (He.ga K "_law_cells"))
  f__law_cells : ∃ fd, FunD K "_law_cells" "_law_cells" (defArgs s__law_cells) (defBody s__law_cells) (defScope s__law_cells) [] [] (He.ga K "_law_cells") fd
  g__law_good_area : mg "_law_good_area" = some (.ref (He.ga K "_law_good_area"))
  f__law_good_area : ∃ fd, FunD K "_law_good_area" "_law_good_area" (defArgs s__law_good_area) (defBody s__law_good_area) (defScope s__law_good_area) [] [] (He.ga K "_law_good_area") fd
  g__law_name : mg "_law_name" = some (.ref (He.ga K "_law_name"))
  f__law_name : ∃ fd, FunD K "_law_name" "_law_name" (defArgs s__law_name) (defBody s__law_name) (defScope s__law_name) [] [] (He.ga K "_law_name") fd
  g_law : mg "law" = some (.ref (He.ga K "law"))
  f_law : ∃ fd, FunD K "law" "law" (defArgs s_law) (defBody s_law) (defScope s_law) [] [] (He.ga K "law") fd
  n_all : mg "all" = none
  n_bool : mg "bool" = none
  n_int : mg "int" = none
  n_isinstance : mg "isinstance" = none
  n_len : mg "len" = none
  n_list : mg "list" = none
  n_min : mg "min" = none
  n_range : mg "range" = none
  n_str : mg "str" = none
  n_tuple : mg "tuple" = none
  c_ROWS : GCon K mg "ROWS" (.int (99))
  c_COLUMNS : GCon K mg "COLUMNS" (.int (26))
  c_LETTERS : GCon K mg "LETTERS" (.str "abcdefghijklmnopqrstuvwxyz")
  c_MOST_PLACES : GCon K mg "MOST_PLACES" (.int (300))
  x_SheetError : XCls K mg "SheetError"
  x_BadPlace : XCls K mg "BadPlace"
  x_BadArea : XCls K mg "BadArea"
  m_SheetError_BadPlace : PySem.W.exmOne K (.ref (He.ga K "SheetError")) (.ref (He.ga K "BadPlace")) = some false
  m_SheetError_BadArea : PySem.W.exmOne K (.ref (He.ga K "SheetError")) (.ref (He.ga K "BadArea")) = some false
  m_BadPlace_SheetError : PySem.W.exmOne K (.ref (He.ga K "BadPlace")) (.ref (He.ga K "SheetError")) = some true
  m_BadPlace_BadPlace : PySem.W.exmOne K (.ref (He.ga K "BadPlace")) (.ref (He.ga K "BadPlace")) = some true
  m_BadPlace_BadArea : PySem.W.exmOne K (.ref (He.ga K "BadPlace")) (.ref (He.ga K "BadArea")) = some false
  m_BadArea_SheetError : PySem.W.exmOne K (.ref (He.ga K "BadArea")) (.ref (He.ga K "SheetError")) = some true
  m_BadArea_BadPlace : PySem.W.exmOne K (.ref (He.ga K "BadArea")) (.ref (He.ga K "BadPlace")) = some false
  m_BadArea_BadArea : PySem.W.exmOne K (.ref (He.ga K "BadArea")) (.ref (He.ga K "BadArea")) = some true
theorem txt {w : World} {K : PySem.W.Frag} {h h1 : Heap} {mg : Str → Option Value} (X : K.In h) (G : h.Ns mainGlobals mg) (c : He.SaysX fa fn [] [] ex w h1 K) : Txt K mg :=
  ⟨He.glo_ok X G (c.t.d.fact 0 (f := .glo "is_place") rfl),
   c.t.d.def_ 0 (d := d_is_place) rfl,
   He.glo_ok X G (c.t.d.fact 1 (f := .glo "place_name") rfl),
   c.t.d.def_ 1 (d := d_place_name) rfl,
   He.glo_ok X G (c.t.d.fact 2 (f := .glo "stands_right") rfl),
   c.t.d.def_ 2 (d := d_stands_right) rfl,
   He.glo_ok X G (c.t.d.fact 3 (f := .glo "area_many") rfl),
   c.t.d.def_ 3 (d := d_area_many) rfl,
   He.glo_ok X G (c.t.d.fact 4 (f := .glo "is_area") rfl),
   c.t.d.def_ 4 (d := d_is_area) rfl,
   He.glo_ok X G (c.t.d.fact 5 (f := .glo "asked_area") rfl),
   c.t.d.def_ 5 (d := d_asked_area) rfl,
   He.glo_ok X G (c.t.d.fact 6 (f := .glo "area_name") rfl),
   c.t.d.def_ 6 (d := d_area_name) rfl,
   He.glo_ok X G (c.t.d.fact 7 (f := .glo "area_places") rfl),
   c.t.d.def_ 7 (d := d_area_places) rfl,
   He.glo_ok X G (c.t.d.fact 8 (f := .glo "_law_digit") rfl),
   c.t.d.def_ 8 (d := d__law_digit) rfl,
   He.glo_ok X G (c.t.d.fact 9 (f := .glo "_law_turn") rfl),
   c.t.d.def_ 9 (d := d__law_turn) rfl,
   He.glo_ok X G (c.t.d.fact 10 (f := .glo "_law_cells") rfl),
   c.t.d.def_ 10 (d := d__law_cells) rfl,
   He.glo_ok X G (c.t.d.fact 11 (f := .glo "_law_good_area") rfl),
   c.t.d.def_ 11 (d := d__law_good_area) rfl,
   He.glo_ok X G (c.t.d.fact 12 (f := .glo "_law_name") rfl),
   c.t.d.def_ 12 (d := d__law_name) rfl,
   He.glo_ok X G (c.t.d.fact 13 (f := .glo "law") rfl),
   c.t.d.def_ 13 (d := d_law) rfl,
   He.free_ok X G (c.t.d.fact 14 (f := .free "all") rfl),
   He.free_ok X G (c.t.d.fact 15 (f := .free "bool") rfl),
   He.free_ok X G (c.t.d.fact 16 (f := .free "int") rfl),
   He.free_ok X G (c.t.d.fact 17 (f := .free "isinstance") rfl),
   He.free_ok X G (c.t.d.fact 18 (f := .free "len") rfl),
   He.free_ok X G (c.t.d.fact 19 (f := .free "list") rfl),
   He.free_ok X G (c.t.d.fact 20 (f := .free "min") rfl),
   He.free_ok X G (c.t.d.fact 21 (f := .free "range") rfl),
   He.free_ok X G (c.t.d.fact 22 (f := .free "str") rfl),
   He.free_ok X G (c.t.d.fact 23 (f := .free "tuple") rfl),
   gcon_int (He.int_ok X G (c.t.d.fact 24 (f := .int "ROWS" (99)) rfl)),
   gcon_int (He.int_ok X G (c.t.d.fact 25 (f := .int "COLUMNS" (26)) rfl)),
   gcon_str (He.str_ok X G (c.t.d.fact 26 (f := .str "LETTERS" "abcdefghijklmnopqrstuvwxyz") rfl)),
   gcon_int (He.int_ok X G (c.t.d.fact 27 (f := .int "MOST_PLACES" (300)) rfl)),
   ⟨He.glo_ok X G (c.t.d.fact 28 (f := .glo "SheetError") rfl), He.exc_ok (c.t.d.fact 29 (f := .exc "SheetError") rfl), excCB_ok (ex_at c.more 0 rfl)⟩,
   ⟨He.glo_ok X G (c.t.d.fact 30 (f := .glo "BadPlace") rfl), He.exc_ok (c.t.d.fact 31 (f := .exc "BadPlace") rfl), excCB_ok (ex_at c.more 1 rfl)⟩,
   ⟨He.glo_ok X G (c.t.d.fact 32 (f := .glo "BadArea") rfl), He.exc_ok (c.t.d.fact 33 (f := .exc "BadArea") rfl), excCB_ok (ex_at c.more 2 rfl)⟩,
   He.exm_ok (c.t.d.fact 34 (f := .exm "SheetError" "BadPlace" false) rfl),
   He.exm_ok (c.t.d.fact 35 (f := .exm "SheetError" "BadArea" false) rfl),
   He.exm_ok (c.t.d.fact 36 (f := .exm "BadPlace" "SheetError" true) rfl),
   He.exm_ok (c.t.d.fact 37 (f := .exm "BadPlace" "BadPlace" true) rfl),
   He.exm_ok (c.t.d.fact 38 (f := .exm "BadPlace" "BadArea" false) rfl),
   He.exm_ok (c.t.d.fact 39 (f := .exm "BadArea" "SheetError" true) rfl),
   He.exm_ok (c.t.d.fact 40 (f := .exm "BadArea" "BadPlace" false) rfl),
   He.exm_ok (c.t.d.fact 41 (f := .exm "BadArea" "BadArea" true) rfl)⟩
end Ol
/-! the steps by name -/
local macro_rules | `(tactic| walk_at "side") => `(tactic| with_unfolding_all first | with_reducible assumption | rfl | decide | omega | decide +kernel | exact Nat.le_of_ble_eq_true rfl | (refine Ol.sz_le ?_; walk_at "len") | (refine Ol.sz_lt ?_; walk_at "len") | exact ⟨by decide, by decide, by decide⟩ | (unfold L2.CMulW; decide +kernel) | exact ⟨by decide, by decide +kernel⟩)
local macro_rules | `(tactic| walk_at "len") => `(tactic| ((try simp [PySem.Str.length_append]); first | omega | decide))
local macro_rules | `(tactic| walk_at "hf") => `(tactic| first | with_unfolding_all assumption | (with_reducible show L2.upd _ _ _ _ = _; first | with_unfolding_all exact L2.upd_same | exact Ol.hf_new (by assumption) (by walk_at "hf") | exact Ol.hf_ne (by assumption) (by walk_at "hf")) | exact (by assumption : L2.Same _ _) _ _ (by walk_at "hf"))
local macro_rules | `(tactic| walk_at "sq") => `(tactic| first | with_unfolding_all assumption | (with_reducible show L2.SqL _ (L2.upd _ _ _) _ _; first | exact Ol.sl_of (by walk_at "hf") | exact L2.Same.seq (Ol.Same.new (by assumption)) (by walk_at "sq")) | (with_reducible show L2.SqL _ _ _ _; first | exact Ol.sl_of (by walk_at "hf") | exact L2.Same.seq (by assumption) (by walk_at "sq")) | (with_reducible show L2.SqT _ (L2.upd _ _ _) _ _; first | exact Ol.st_of (by walk_at "hf") | exact Ol.Same.tup (Ol.Same.new (by assumption)) (by walk_at "sq")) | (with_reducible show L2.SqT _ _ _ _; first | exact Ol.st_of (by walk_at "hf") | exact Ol.Same.tup (by assumption) (by walk_at "sq")))
local macro_rules | `(tactic| walk_at "ty") => `(tactic| with_unfolding_all first | exact L2.TyOf.non | exact L2.TyOf.int _ | exact L2.TyOf.str _ | exact L2.TyOf.bl _ | exact L2.TyOf.tup (by walk_at "hf") | exact L2.TyOf.lst (by walk_at "hf"))
local macro_rules | `(tactic| walk_at "eq") => `(tactic| with_unfolding_all first | rfl | assumption)
local macro_rules | `(tactic| walk_at "rd1") => `(tactic| with_reducible first
  | refine Ol.Step.go ?_
  | (show L2.rIx _ (L2.V.ref _) (L2.V.int _) _ _; first | refine Ol.s_ixL (by walk_at "sq") (by walk_at "eq") ?_ | refine Ol.s_ixT (by walk_at "sq") (by walk_at "eq") ?_)
  | (show Ol.rAddU _ (L2.V.ref _) (L2.V.ref _) _ _; refine Ol.s_addL (by walk_at "sq") (by walk_at "sq") (by walk_at "side") ?_)
  | (show L2.gTup _ _ _ _ _ _ _; refine Ol.s_gtup (by walk_at "sq") (by walk_at "eq") ?_)
  | (show L2.rSetL _ _ _ _ _; refine Ol.s_setL (by walk_at "hf") (by walk_at "eq") ?_)
  | (show L2.rAppend _ _ _ _; refine Ol.s_append (by walk_at "hf") (by walk_at "side") ?_)
  | (show ∃ acc, _ = some (L2.HO.lst acc) ∧ _ ∧ _; refine Ol.s_acc (by walk_at "hf") (by walk_at "side") ?_)
  | (show Ol.rLenU _ _ _ _; first | refine Ol.s_lenL (by walk_at "sq") ?_ | refine Ol.s_lenT (by walk_at "sq") ?_)
  | (show L2.rIsi _ [L2.V.ref _, _] _ _; first | refine Ol.s_isiTup (by walk_at "hf") ?_ | refine Ol.s_isiLst (by walk_at "hf") ?_ | refine Ol.s_isiSqT (by walk_at "sq") ?_ | refine Ol.s_isiSqL (by walk_at "sq") ?_)
  | (show Ol.rListOf _ _ _ _; first | refine Ol.s_listL (by walk_at "sq") ?_ | refine Ol.s_listT (by walk_at "sq") ?_)
  | (show L2.rSlL _ (L2.V.ref _) _ _ _ _; refine Ol.s_slL (by walk_at "sq") ?_)
  | (show L2.tyV _ "list" _ _ ∧ _; refine Ol.s_tyL (by walk_at "sq") ?_)
  | (show ∃ a, L2.V.ref _ = L2.V.ref a ∧ (∃ xs, _) ∧ _; first | refine Ol.s_lst1 (by walk_at "sq") ?_ | refine Ol.s_tup1 (by walk_at "sq") ?_ | refine Ol.s_lst1c (by walk_at "sq") ?_ | refine Ol.s_tup1c (by walk_at "sq") ?_)
  | (show _ ∧ _; refine And.intro (by walk_at "side") ?_)
  | (show ite (_ = true) _ _; first | refine Ol.s_yes (by decide +kernel) ?_ | refine Ol.s_no (by decide +kernel) ?_ | refine Ol.s_yes (by with_unfolding_all rfl) ?_ | refine Ol.s_no (by with_unfolding_all rfl) ?_))
local macro_rules | `(tactic| walk_at "rd") => `(tactic| repeat (walk_at "rd1"))
namespace Ol
open PySem PySem.Spec PyProof.Rows L2
section
variable {P : Program} {w : World} {K : PySem.W.Frag} {mg : Str → Option Value} {base : Heap}

def spDigit : Sp := fun vs H Q _ => ∃ p n m, vs = [.ref p, .int m] ∧ H p = some (.lst [.int n]) ∧ 0 < m ∧ m.natAbs.log2 < 9000 ∧ Q (.int (n % m)) (upd H p (.lst [.int (n / m)]))
theorem ok_digit (T : Txt K mg) : Def P w K mg base 1 "_law_digit" ["left", "many"] spDigit := by
  refine def_of T.g__law_digit T.f__law_digit sc__law_digit (fun _ _ _ _ _ _ us hl => match us, hl with | [_, _], _ => rfl) (fun vs H Q E h => ?_) (fun cdv A outer s H vs Q E hrm h => ?_)
  · obtain ⟨p, n, m, rfl, _⟩ := h
    rfl
  · obtain ⟨p, n, m, rfl, hp, h0, hm, q⟩ := h
    refine ⟨_, (pss_cons (ps_set (i := 2) sc__law_digit.nd rfl (Or.inl rfl) (pe_op op_mod (pe_ix (ix_seqK (K := K)) (pv 0) pe_int (fun _ _ => rfl)) (pv 1)))
 (pss_cons (ps_asg (pe_op op_fdivW (pe_ix (ix_seqK (K := K)) (pv 0) pe_int (fun _ _ => rfl)) (pv 1)) (pg_sub (pv 0) pe_int set_list))
 (pss_one (ps_ret (pv 2))))), ?_⟩
    rw [st__law_digit]
    try dsimp only [L2.cxOf]
    walk_at "rd"
    refine ⟨⟨h0, hm⟩, ?_⟩
    walk_at "rd"
    exact q
theorem s_digit {p : Addr} {n m : Int} {H : Hp} {Q : VK} {E : XK} (h : H p = some (.lst [.int n])) (h0 : 0 < m) (h1 : m.natAbs.log2 < 9000) (q : Q (.int (n % m)) (upd H p (.lst [.int (n / m)]))) : spDigit [.ref p, .int m] H Q E := ⟨p, n, m, rfl, h, h0, h1, q⟩
theorem log_le {y b k : Nat} (h : y ≤ b) (h0 : 0 < k) (h1 : b < 2 ^ k) : y.log2 < k := PySem.Flt.log2_lt_of h0 (Nat.lt_of_le_of_lt h h1)
theorem log_9000 {m : Int} (h : m.natAbs ≤ 10 ^ 600) : m.natAbs.log2 < 9000 := log_le h (by decide) (by decide +kernel)
theorem log_1920 {m : Int} (h : m.natAbs ≤ 10 ^ 300) : m.natAbs.log2 < 1920 := log_le h (by decide) (by decide +kernel)
theorem wide_small {i j : Int} (h1 : i.natAbs < 4294967296) (h2 : j.natAbs < 4294967296) : CMulW i j := wide_mul (a := 32) (b := 32) (by omega) (by omega) (by decide) (by decide) (by decide)
theorem wide_600 {i j : Int} (h1 : i.natAbs ≤ 10 ^ 600) (h2 : j.natAbs ≤ 10 ^ 600) : CMulW i j := wide_mul (a := 9000) (b := 9000) (Nat.lt_of_le_of_lt h1 (by decide +kernel)) (Nat.lt_of_le_of_lt h2 (by decide +kernel)) (by decide) (by decide) (by decide)

/-! places -/
def okPl (r c : Int) : Bool := decide (0 ≤ r ∧ r < 99 ∧ 0 ≤ c ∧ c < 26)
def spIsPlace (K : PySem.W.Frag) : Sp := fun vs H Q _ => ∃ (p : Addr) (r c : Int), vs = [.ref p] ∧ SqT K H p [.int r, .int c] ∧ Q (.bl (okPl r c)) H
theorem ok_is_place (T : Txt K mg) : Def P w K mg base 1 "is_place" ["place"] (spIsPlace K) := by
  refine def_of T.g_is_place T.f_is_place sc_is_place (fun _ _ _ _ _ _ us hl => match us, hl with | [_], _ => rfl) (fun vs H Q E h => ?_) (fun cdv A outer s H vs Q E hrm h => ?_)
  · obtain ⟨p, r, c, rfl, _⟩ := h
    rfl
  · obtain ⟨p, r, c, rfl, hp, q⟩ := h
    refine ⟨_, (pss_one (ps_ret (pe_and (pe_chain op_le op_ltU pe_int (pe_ix (ix_seqK (K := K)) (pv 0) pe_int (fun _ _ => rfl)) (pe_con T.c_ROWS (by rfl))) (pe_one (pe_chain op_le op_ltU pe_int (pe_ix (ix_seqK (K := K)) (pv 0) pe_int (fun _ _ => rfl)) (pe_con T.c_COLUMNS (by rfl))))))), ?_⟩
    rw [st_is_place]
    try dsimp only [L2.cxOf]
    walk_at "rd"
    have no : ¬ (0 ≤ r ∧ r < 99 ∧ 0 ≤ c ∧ c < 26) → Q (.bl false) H := fun z => by
      have e : okPl r c = false := decide_eq_false z
      rw [e] at q; exact q
    refine s_iteD (fun c1 => ?_) (fun c1 => ?_)
    · walk_at "rd"
      refine s_iteD (fun c2 => ?_) (fun c2 => ?_)
      · walk_at "rd"
        refine s_iteD (fun c3 => ?_) (fun c3 => ?_)
        · walk_at "rd"
          have e : okPl r c = decide (c < 26) := by
            unfold okPl
            by_cases z : c < 26
            · rw [decide_eq_true z, decide_eq_true ⟨c1, c2, c3, z⟩]
            · rw [decide_eq_false z, decide_eq_false (fun h => z h.2.2.2)]
          rw [e] at q
          exact q
        · walk_at "rd"
          exact no (fun h => c3 h.2.2.1)
      · walk_at "rd"
        exact no (fun h => c2 h.2.1)
    · walk_at "rd"
      exact no (fun h => c1 h.1)

def lettersN : List Nat := (Str.ofString "abcdefghijklmnopqrstuvwxyz").cps.toList
theorem letter_at {c : Int} (h0 : 0 ≤ c) (h1 : c < 26) : ∃ ch, atI (Str.ofString "abcdefghijklmnopqrstuvwxyz").cps.toList c = some ch := by
  obtain ⟨v, _, e⟩ := at_ex (xs := (Str.ofString "abcdefghijklmnopqrstuvwxyz").cps.toList) h0 (by
    have : (Str.ofString "abcdefghijklmnopqrstuvwxyz").cps.toList.length = 26 := by decide +kernel
    omega)
  exact ⟨v, e⟩
def spPlaceName (K : PySem.W.Frag) : Sp := fun vs H Q E => ∃ (p : Addr) (r c : Int), vs = [.ref p] ∧ SqT K H p [.int r, .int c] ∧ (okPl r c = true → ∀ ch, atI (Str.ofString "abcdefghijklmnopqrstuvwxyz").cps.toList c = some ch → Q (.str (⟨#[ch]⟩ ++ toString (r + 1))) H) ∧ (okPl r c = false → E (.ref (He.ga K "BadPlace")) none H)
theorem str_short {n : Int} (h0 : 0 ≤ n) (h : n ≤ 200) : (Str.ofString (toString n)).length ≤ 10 := by
  obtain ⟨m, rfl⟩ := Int.eq_ofNat_of_zero_le h0
  have hm : m < 201 := by omega
  have : ∀ k : Fin 201, (Str.ofString (toString ((k.val : Nat) : Int))).length ≤ 10 := by decide +kernel
  exact this ⟨m, hm⟩
theorem ok_place_name (T : Txt K mg) (D_is_place : Def P w K mg base 1 "is_place" ["place"] (spIsPlace K)) : Def P w K mg base 2 "place_name" ["place"] (spPlaceName K) := by
  refine def_of T.g_place_name T.f_place_name sc_place_name (fun _ _ _ _ _ _ us hl => match us, hl with | [_], _ => rfl) (fun vs H Q E h => ?_) (fun cdv A outer s H vs Q E hrm h => ?_)
  · obtain ⟨p, r, c, rfl, _⟩ := h
    rfl
  · obtain ⟨p, r, c, rfl, hp, q1, q2⟩ := h
    refine ⟨_, (pss_cons (ps_if (pt_not (pt_val (pe_dcall D_is_place (hrm.mono (by decide)) (by rfl) passL (pa_cons (pv 0) pa_nil))))
 (pss_one (ps_raiseX rfl (takes_of rfl rfl rfl rfl) T.x_BadPlace (by rfl)))
 pss_nil)
 (pss_one (ps_ret (pe_op (op_addU (K := K)) (pe_ix (ix_seqK (K := K)) (pe_con T.c_LETTERS (by rfl)) (pe_ix (ix_seqK (K := K)) (pv 0) pe_int (fun _ _ => rfl)) (fun _ _ => rfl)) (pe_callTy call_strU (by rfl) T.n_str (by decide +kernel) (pa_cons (pe_op (op_addU (K := K)) (pe_ix (ix_seqK (K := K)) (pv 0) pe_int (fun _ _ => rfl)) pe_int) pa_nil)))))), ?_⟩
    rw [st_place_name]
    try dsimp only [L2.cxOf]
    walk_at "rd"
    refine ⟨p, r, c, rfl, hp, ?_⟩
    walk_at "rd"
    cases e : okPl r c with
    | false =>
      walk_at "rd"
      exact q2 e
    | true =>
      obtain ⟨z1, z2, z3, z4⟩ := of_decide_eq_true e
      obtain ⟨ch, hch⟩ := letter_at z3 z4
      walk_at "rd"
      refine s_ixS (sz_le (by simp)) hch ?_
      walk_at "rd"
      refine ⟨log_1920 (Nat.le_trans (show (r + 1).natAbs ≤ 100 by omega) (by decide +kernel)), ?_⟩
      walk_at "rd"
      refine ⟨sz_le ?_, ?_⟩
      · have := str_short (n := r + 1) (by omega) (by omega)
        show 1 + _ ≤ _
        omega
      exact q1 e ch hch

/-! areas -/
def okSt (t l b r : Int) : Bool := decide ((okPl t l = true ∧ okPl b r = true) ∧ t ≤ b ∧ l ≤ r)
def okAr (t l b r : Int) : Bool := decide (okSt t l b r = true ∧ (b - t + 1) * (r - l + 1) ≤ 300)
abbrev a4 (t l b r : Int) : List V := [.int t, .int l, .int b, .int r]
theorem okPl_in {r c : Int} (h : okPl r c = true) : 0 ≤ r ∧ r < 99 ∧ 0 ≤ c ∧ c < 26 := of_decide_eq_true h
theorem okSt_in {t l b r : Int} (h : okSt t l b r = true) : 0 ≤ t ∧ t ≤ b ∧ b < 99 ∧ 0 ≤ l ∧ l ≤ r ∧ r < 26 := by
  obtain ⟨⟨h1, h2⟩, h3, h4⟩ := of_decide_eq_true h
  have := okPl_in h1
  have := okPl_in h2
  omega
def spStands (K : PySem.W.Frag) : Sp := fun vs H Q _ => ∃ (p : Addr) (t l b r : Int), vs = [.ref p] ∧ SqT K H p (a4 t l b r) ∧ ∀ H', Same H H' → Q (.bl (okSt t l b r)) H'
theorem ok_stands (T : Txt K mg) (D_is_place : Def P w K mg base 1 "is_place" ["place"] (spIsPlace K)) : Def P w K mg base 2 "stands_right" ["area"] (spStands K) := by
  refine def_of T.g_stands_right T.f_stands_right sc_stands_right (fun _ _ _ _ _ _ us hl => match us, hl with | [_], _ => rfl) (fun vs H Q E h => ?_) (fun cdv A outer s H vs Q E hrm h => ?_)
  · obtain ⟨p, t, l, b, r, rfl, _⟩ := h
    rfl
  · obtain ⟨p, t, l, b, r, rfl, hp, q⟩ := h
    refine ⟨_, (pss_cons (ps_if (PW.pt (pw_or (pt_not (pt_val (pe_dcall D_is_place (hrm.mono (by decide)) (by rfl) passL (pa_cons (pe_tup (pa_cons (pe_ix (ix_seqK (K := K)) (pv 0) pe_int (fun _ _ => rfl)) (pa_cons (pe_ix (ix_seqK (K := K)) (pv 0) pe_int (fun _ _ => rfl)) pa_nil))) pa_nil)))) (pw_or1 (pt_not (pt_val (pe_dcall D_is_place (hrm.mono (by decide)) (by rfl) passL (pa_cons (pe_tup (pa_cons (pe_ix (ix_seqK (K := K)) (pv 0) pe_int (fun _ _ => rfl)) (pa_cons (pe_ix (ix_seqK (K := K)) (pv 0) pe_int (fun _ _ => rfl)) pa_nil))) pa_nil)))))))
 (pss_one (ps_ret pe_bl))
 pss_nil)
 (pss_one (ps_ret (pe_and (pe_cmpR op_le (pe_ix (ix_seqK (K := K)) (pv 0) pe_int (fun _ _ => rfl)) (pe_ix (ix_seqK (K := K)) (pv 0) pe_int (fun _ _ => rfl)) (nomark _)) (pe_one (pe_cmpR op_le (pe_ix (ix_seqK (K := K)) (pv 0) pe_int (fun _ _ => rfl)) (pe_ix (ix_seqK (K := K)) (pv 0) pe_int (fun _ _ => rfl)) (nomark _))))))), ?_⟩
    rw [st_stands_right]
    try dsimp only [L2.cxOf]
    walk_at "rd"
    intro p1 hp1
    walk_at "rd"
    refine ⟨p1, t, l, rfl, st_of upd_same, ?_⟩
    have e1 : Same H (upd H p1 (HO.tup [V.int t, V.int l])) := Same.new hp1
    have hpb := Same.tup e1 hp
    generalize upd H p1 (HO.tup [V.int t, V.int l]) = H1 at *
    walk_at "rd"
    cases ok1 : okPl t l with
    | false =>
      walk_at "rd"
      have e : okSt t l b r = false := decide_eq_false (fun h => by cases h.1.1.symm.trans ok1)
      rw [e] at q
      exact q _ e1
    | true =>
      walk_at "rd"
      intro p2 hp2
      walk_at "rd"
      refine ⟨p2, b, r, rfl, st_of upd_same, ?_⟩
      have e2 : Same H (upd H1 p2 (HO.tup [V.int b, V.int r])) := e1.trans (Same.new hp2)
      have hpc := Same.tup e2 hp
      generalize upd H1 p2 (HO.tup [V.int b, V.int r]) = H2 at *
      walk_at "rd"
      cases ok2 : okPl b r with
      | false =>
        walk_at "rd"
        have e : okSt t l b r = false := decide_eq_false (fun h => by cases h.1.2.symm.trans ok2)
        rw [e] at q
        exact q _ e2
      | true =>
        walk_at "rd"
        refine s_iteD (fun c1 => ?_) (fun c1 => ?_)
        · walk_at "rd"
          have e : okSt t l b r = decide (l ≤ r) := by
            unfold okSt
            by_cases z : l ≤ r
            · rw [decide_eq_true z, decide_eq_true ⟨⟨ok1, ok2⟩, c1, z⟩]
            · rw [decide_eq_false z, decide_eq_false (fun h => z h.2.2)]
          rw [e] at q
          exact q _ e2
        · walk_at "rd"
          have e : okSt t l b r = false := decide_eq_false (fun h => c1 h.2.1)
          rw [e] at q
          exact q _ e2
def spMany (K : PySem.W.Frag) : Sp := fun vs H Q _ => ∃ (p : Addr) (t l b r : Int), vs = [.ref p] ∧ SqT K H p (a4 t l b r) ∧ okSt t l b r = true ∧ Q (.int ((b - t + 1) * (r - l + 1))) H
theorem ok_many (T : Txt K mg) : Def P w K mg base 1 "area_many" ["area"] (spMany K) := by
  refine def_of T.g_area_many T.f_area_many sc_area_many (fun _ _ _ _ _ _ us hl => match us, hl with | [_], _ => rfl) (fun vs H Q E h => ?_) (fun cdv A outer s H vs Q E hrm h => ?_)
  · obtain ⟨p, t, l, b, r, rfl, _⟩ := h
    rfl
  · obtain ⟨p, t, l, b, r, rfl, hp, ok, q⟩ := h
    refine ⟨_, (pss_one (ps_ret (pe_op op_mulU (pe_op (op_addU (K := K)) (pe_op op_sub (pe_ix (ix_seqK (K := K)) (pv 0) pe_int (fun _ _ => rfl)) (pe_ix (ix_seqK (K := K)) (pv 0) pe_int (fun _ _ => rfl))) pe_int) (pe_op (op_addU (K := K)) (pe_op op_sub (pe_ix (ix_seqK (K := K)) (pv 0) pe_int (fun _ _ => rfl)) (pe_ix (ix_seqK (K := K)) (pv 0) pe_int (fun _ _ => rfl))) pe_int)))), ?_⟩
    rw [st_area_many]
    try dsimp only [L2.cxOf]
    walk_at "rd"
    have := okSt_in ok
    refine ⟨wide_small (by omega) (by omega), ?_⟩
    exact q
def spIsArea (K : PySem.W.Frag) : Sp := fun vs H Q _ => ∃ (p : Addr) (t l b r : Int), vs = [.ref p] ∧ SqT K H p (a4 t l b r) ∧ ∀ H', Same H H' → Q (.bl (okAr t l b r)) H'
theorem ok_is_area (T : Txt K mg) (D_stands_right : Def P w K mg base 2 "stands_right" ["area"] (spStands K)) (D_area_many : Def P w K mg base 1 "area_many" ["area"] (spMany K)) : Def P w K mg base 3 "is_area" ["area"] (spIsArea K) := by
  refine def_of T.g_is_area T.f_is_area sc_is_area (fun _ _ _ _ _ _ us hl => match us, hl with | [_], _ => rfl) (fun vs H Q E h => ?_) (fun cdv A outer s H vs Q E hrm h => ?_)
  · obtain ⟨p, t, l, b, r, rfl, _⟩ := h
    rfl
  · obtain ⟨p, t, l, b, r, rfl, hp, q⟩ := h
    refine ⟨_, (pss_one (ps_ret (pe_and (pe_dcall D_stands_right (hrm.mono (by decide)) (by rfl) passL (pa_cons (pv 0) pa_nil)) (pe_one (pe_cmpR op_le (pe_dcall D_area_many (hrm.mono (by decide)) (by rfl) passL (pa_cons (pv 0) pa_nil)) (pe_con T.c_MOST_PLACES (by rfl)) (nomark _)))))), ?_⟩
    rw [st_is_area]
    try dsimp only [L2.cxOf]
    walk_at "rd"
    refine ⟨p, t, l, b, r, rfl, hp, fun H1 e1 => ?_⟩
    have hp1 := Same.tup e1 hp
    walk_at "rd"
    cases ok : okSt t l b r with
    | false =>
      walk_at "rd"
      have e : okAr t l b r = false := decide_eq_false (fun h => by cases h.1.symm.trans ok)
      rw [e] at q
      exact q _ e1
    | true =>
      walk_at "rd"
      refine ⟨p, t, l, b, r, rfl, hp1, ok, ?_⟩
      walk_at "rd"
      have e : okAr t l b r = decide ((b - t + 1) * (r - l + 1) ≤ 300) := by
        unfold okAr
        by_cases z : (b - t + 1) * (r - l + 1) ≤ 300
        · rw [decide_eq_true z, decide_eq_true ⟨ok, z⟩]
        · rw [decide_eq_false z, decide_eq_false (fun h => z h.2)]
      rw [e] at q
      exact q _ e1
def spAsked (K : PySem.W.Frag) : Sp := fun vs H Q E => ∃ (p : Addr) (t l b r : Int), vs = [.ref p] ∧ SqT K H p (a4 t l b r) ∧ (okAr t l b r = true → ∀ H', Same H H' → Q (.ref p) H') ∧ (okAr t l b r = false → ∀ H', Same H H' → E (.ref (He.ga K "BadArea")) none H')
theorem ok_asked (T : Txt K mg) (D_is_area : Def P w K mg base 3 "is_area" ["area"] (spIsArea K)) : Def P w K mg base 4 "asked_area" ["area"] (spAsked K) := by
  refine def_of T.g_asked_area T.f_asked_area sc_asked_area (fun _ _ _ _ _ _ us hl => match us, hl with | [_], _ => rfl) (fun vs H Q E h => ?_) (fun cdv A outer s H vs Q E hrm h => ?_)
  · obtain ⟨p, t, l, b, r, rfl, _⟩ := h
    rfl
  · obtain ⟨p, t, l, b, r, rfl, hp, q1, q2⟩ := h
    refine ⟨_, (pss_cons (ps_if (pt_not (pt_val (pe_dcall D_is_area (hrm.mono (by decide)) (by rfl) passL (pa_cons (pv 0) pa_nil))))
 (pss_one (ps_raiseX rfl (takes_of rfl rfl rfl rfl) T.x_BadArea (by rfl)))
 pss_nil)
 (pss_one (ps_ret (pv 0)))), ?_⟩
    rw [st_asked_area]
    try dsimp only [L2.cxOf]
    walk_at "rd"
    refine ⟨p, t, l, b, r, rfl, hp, fun H1 e1 => ?_⟩
    walk_at "rd"
    cases ok : okAr t l b r with
    | false =>
      walk_at "rd"
      exact q2 ok _ e1
    | true =>
      walk_at "rd"
      exact q1 ok _ e1
def spAreaName (K : PySem.W.Frag) : Sp := fun vs H Q E => ∃ (p : Addr) (t l b r : Int), vs = [.ref p] ∧ SqT K H p (a4 t l b r) ∧
  (okAr t l b r = true → ∀ H' c1 c2, Same H H' → atI (Str.ofString "abcdefghijklmnopqrstuvwxyz").cps.toList l = some c1 → atI (Str.ofString "abcdefghijklmnopqrstuvwxyz").cps.toList r = some c2 → Q (.str (⟨#[c1]⟩ ++ toString (t + 1) ++ Str.ofString ":" ++ (⟨#[c2]⟩ ++ toString (b + 1)))) H') ∧
  (okAr t l b r = false → ∀ H', Same H H' → E (.ref (He.ga K "BadArea")) none H')
theorem okAr_in {t l b r : Int} (h : okAr t l b r = true) : okSt t l b r = true ∧ (b - t + 1) * (r - l + 1) ≤ 300 := of_decide_eq_true h
theorem ok_area_name (T : Txt K mg) (D_asked_area : Def P w K mg base 4 "asked_area" ["area"] (spAsked K)) (D_place_name : Def P w K mg base 2 "place_name" ["place"] (spPlaceName K)) : Def P w K mg base 5 "area_name" ["area"] (spAreaName K) := by
  refine def_of T.g_area_name T.f_area_name sc_area_name (fun _ _ _ _ _ _ us hl => match us, hl with | [_], _ => rfl) (fun vs H Q E h => ?_) (fun cdv A outer s H vs Q E hrm h => ?_)
  · obtain ⟨p, t, l, b, r, rfl, _⟩ := h
    rfl
  · obtain ⟨p, t, l, b, r, rfl, hp, q1, q2⟩ := h
    refine ⟨_, (pss_cons (ps_expr (pe_dcall D_asked_area (hrm.mono (by decide)) (by rfl) (passes_call (W := fun cls d _ H => E cls d H) (takes_of rfl rfl rfl rfl) fun _ _ _ _ h => h) (pa_cons (pv 0) pa_nil)))
 (pss_one (ps_ret (pe_op (op_addU (K := K)) (pe_op (op_addU (K := K)) (pe_dcall D_place_name (hrm.mono (by decide)) (by rfl) (passes_call (W := fun cls d _ H => E cls d H) (takes_of rfl rfl rfl rfl) fun _ _ _ _ h => h) (pa_cons (pe_tup (pa_cons (pe_ix (ix_seqK (K := K)) (pv 0) pe_int (fun _ _ => rfl)) (pa_cons (pe_ix (ix_seqK (K := K)) (pv 0) pe_int (fun _ _ => rfl)) pa_nil))) pa_nil)) pe_str) (pe_dcall D_place_name (hrm.mono (by decide)) (by rfl) (passes_call (W := fun cls d _ H => E cls d H) (takes_of rfl rfl rfl rfl) fun _ _ _ _ h => h) (pa_cons (pe_tup (pa_cons (pe_ix (ix_seqK (K := K)) (pv 0) pe_int (fun _ _ => rfl)) (pa_cons (pe_ix (ix_seqK (K := K)) (pv 0) pe_int (fun _ _ => rfl)) pa_nil))) pa_nil)))))), ?_⟩
    rw [st_area_name]
    try dsimp only [L2.cxOf]
    walk_at "rd"
    refine ⟨p, t, l, b, r, rfl, hp, fun ok H1 e1 => ?_, fun ok H1 e1 => q2 ok _ e1⟩
    obtain ⟨ok2, _⟩ := okAr_in ok
    have rg := okSt_in ok2
    have okl : okPl t l = true := decide_eq_true (by omega)
    have okr : okPl b r = true := decide_eq_true (by omega)
    have hp1 := Same.tup e1 hp
    walk_at "rd"
    intro p1 hq1
    walk_at "rd"
    refine ⟨p1, t, l, rfl, st_of upd_same, fun _ c1 hc1 => ?_, fun z => by cases z.symm.trans okl⟩
    have l1 := str_short (n := t + 1) (by omega) (by omega)
    have l2 := str_short (n := b + 1) (by omega) (by omega)
    have e2 := e1.trans (Same.new (o := HO.tup [V.int t, V.int l]) hq1)
    have hp2 := Same.tup e2 hp
    generalize upd H1 p1 (HO.tup [V.int t, V.int l]) = H2 at *
    walk_at "rd"
    refine ⟨sz_le ?_, ?_⟩
    · rw [PySem.Str.length_append]
      show 1 + _ + 1 ≤ _
      omega
    walk_at "rd"
    intro p2 hq2
    walk_at "rd"
    refine ⟨p2, b, r, rfl, st_of upd_same, fun _ c2 hc2 => ?_, fun z => by cases z.symm.trans okr⟩
    walk_at "rd"
    refine ⟨sz_le ?_, ?_⟩
    · rw [PySem.Str.length_append, PySem.Str.length_append, PySem.Str.length_append]
      show 1 + _ + 1 + (1 + _) ≤ _
      omega
    exact q1 ok _ c1 c2 (e2.trans (Same.new hq2)) hc1 hc2

end
end Ol

namespace Ol
open PySem PySem.Spec PyProof.Rows L2
section
variable {P : Program} {w : World} {K : PySem.W.Frag} {mg : Str → Option Value} {base : Heap}

/-! the places of an area -/
theorem s_lcR {lo : Int} {n : Nat} {g : TG} {tt : TT} {te : TE} {vs : List Nat} {σ τ : L2.St} {H : Hp} {Q : VK} [hw : WipeS σ vs τ] (Pv : Addr → Nat → Hp → Prop) (h0 : ∀ D, H D = none → Pv D 0 (upd H D (.lst [])))
    (hs : ∀ D i H1, H D = none → i < n → Pv D i H1 → g (.int (lo + i)) τ H1 fun σ2 H2 => wipe σ2 vs = τ ∧ tt σ2 H2 fun b H3 =>
      if b = true then te σ2 H3 fun y H4 => ∃ acc, H4 D = some (.lst acc) ∧ acc.length < sizeLine ∧ Pv D (i + 1) (upd H4 D (.lst (acc ++ [y]))) else Pv D (i + 1) H3) (hd : ∀ D H1, H D = none → Pv D n H1 → Q (.ref D) H1) :
    LcW g tt te vs σ Q (Itr lo n) H := by
  have e := hw.e
  subst e
  exact fun D hD => lc_range (lo := lo) (n := n) (Pv D) (h0 D hD) (fun i H1 hi p => hs D i H1 hD hi p) fun H1 => hd D H1 hD
def rowPl (row l : Int) (n : Nat) : List (Int × Int) := (List.range n).map fun (j : Nat) => (row, l + (j : Int))
def areaPl (t l : Int) (m n : Nat) : List (Int × Int) := (List.range m).flatMap fun (i : Nat) => rowPl (t + (i : Int)) l n
theorem rowPl_succ (row l : Int) (n : Nat) : rowPl row l (n + 1) = rowPl row l n ++ [(row, l + (n : Int))] := by
  unfold rowPl
  rw [List.range_succ, List.map_append]; rfl
theorem areaPl_succ (t l : Int) (m n : Nat) : areaPl t l (m + 1) n = areaPl t l m n ++ rowPl (t + (m : Int)) l n := by
  unfold areaPl
  rw [List.range_succ, List.flatMap_append, List.flatMap_cons, List.flatMap_nil, List.append_nil]
theorem rowPl_len (row l : Int) (n : Nat) : (rowPl row l n).length = n := by
  unfold rowPl
  rw [List.length_map, List.length_range]
theorem areaPl_len (t l : Int) (n : Nat) : ∀ m, (areaPl t l m n).length = m * n
  | 0 => by simp [areaPl]
  | m + 1 => by rw [areaPl_succ, List.length_append, areaPl_len t l n m, rowPl_len, Nat.succ_mul]
/-- values that are pairs of numbers -/
def Pls (K : PySem.W.Frag) (H : Hp) (ws : List (V × (Int × Int))) : Prop := ∀ w ∈ ws, ∃ p, w.1 = .ref p ∧ H p = some (.tup [.int w.2.1, .int w.2.2])
theorem Pls.mono {H H' : Hp} {ws : List (V × (Int × Int))} (e : Same H H') (h : Pls K H ws) : Pls K H' ws := fun w hw => by
  obtain ⟨p, h1, h2⟩ := h w hw
  exact ⟨p, h1, e _ _ h2⟩
theorem Pls.put {H : Hp} {l : Addr} {xs ys : List V} {ws : List (V × (Int × Int))} (hl : H l = some (.lst xs)) (h : Pls K H ws) : Pls K (upd H l (.lst ys)) ws := fun w hw => by
  obtain ⟨p, h1, h2⟩ := h w hw
  refine ⟨p, h1, ?_⟩
  have : p ≠ l := fun z => by rw [z, hl] at h2; cases h2
  rw [upd_ne this]
  exact h2
theorem Pls.app {H : Hp} {a b : List (V × (Int × Int))} (h : Pls K H a) (h2 : Pls K H b) : Pls K H (a ++ b) := fun w hw => by
  rcases List.mem_append.mp hw with hw | hw
  · exact h w hw
  · exact h2 w hw
def spAreaPl (K : PySem.W.Frag) : Sp := fun vs H Q E => ∃ (p : Addr) (t l b r : Int), vs = [.ref p] ∧ SqT K H p (a4 t l b r) ∧
  (okAr t l b r = true → ∀ H' q (ws : List (V × (Int × Int))), Same H H' → H q = none → H' q = some (.lst (ws.map (·.1))) → Pls K H' ws → ws.map (·.2) = areaPl t l (b + 1 - t).toNat (r + 1 - l).toNat → Q (.ref q) H') ∧
  (okAr t l b r = false → ∀ H', Same H H' → E (.ref (He.ga K "BadArea")) none H')
theorem ok_area_places (T : Txt K mg) (D_asked_area : Def P w K mg base 4 "asked_area" ["area"] (spAsked K)) : Def P w K mg base 5 "area_places" ["area"] (spAreaPl K) := by
  refine def_of T.g_area_places T.f_area_places sc_area_places (fun _ _ _ _ _ _ us hl => match us, hl with | [_], _ => rfl) (fun vs H Q E h => ?_) (fun cdv A outer s H vs Q E hrm h => ?_)
  · obtain ⟨p, t, l, b, r, rfl, _⟩ := h
    rfl
  · obtain ⟨p, t, l, b, r, rfl, hp, q1, q2⟩ := h
    refine ⟨_, (pss_cons (ps_expr (pe_dcall D_asked_area (hrm.mono (by decide)) (by rfl) (passes_call (W := fun cls d _ H => E cls d H) (takes_of rfl rfl rfl rfl) fun _ _ _ _ h => h) (pa_cons (pv 0) pa_nil)))
 (pss_cons (ps_set (i := 1) sc_area_places.nd rfl (Or.inl rfl) (pe_lst pa_nil))
 (pss_cons (ps_for (passes_of rfl) rfl (pi_range2 rfl T.n_range (pa_cons (pe_ix (ix_seqK (K := K)) (pv 0) pe_int (fun _ _ => rfl)) (pa_cons (pe_op (op_addU (K := K)) (pe_ix (ix_seqK (K := K)) (pv 0) pe_int (fun _ _ => rfl)) pe_int) pa_nil))) (pg_name (i := 2) sc_area_places.nd rfl (Or.inr rfl))
 (pss_one (ps_expr (pe_bmK (K := K) rfl PySem.F.plainAttrs_list PySem.F.slot_list_extend PySem.F.type_list_extend mt_extend (pv 1) (pa_cons (pe_lc (own := [("column", 3)]) (g := gName 3) (tt := tYes) rfl sc_area_places.nd (pi_range2 rfl T.n_range (pa_cons (pe_ix (ix_seqK (K := K)) (pv 0) pe_int (fun _ _ => rfl)) (pa_cons (pe_op (op_addU (K := K)) (pe_ix (ix_seqK (K := K)) (pv 0) pe_int (fun _ _ => rfl)) pe_int) pa_nil))) (blkOk_by (N := N_area_places) (sc := defScope s_area_places) (by decide +kernel)) (fun _ _ _ _ _ => pg_name (i := 3) sc_area_places.nd rfl (Or.inl rfl)) (fun _ _ _ _ _ => pts_nil) (fun _ _ _ _ _ => (pe_tup (pa_cons (pv 2) (pa_cons (pv 3) pa_nil))))) pa_nil)))))
 (pss_one (ps_ret (pv 1)))))), ?_⟩
    rw [st_area_places]
    try dsimp only [L2.cxOf]
    walk_at "rd"
    refine ⟨p, t, l, b, r, rfl, hp, fun ok H1 e1 => ?_, fun ok H1 e1 => q2 ok _ e1⟩
    obtain ⟨ok2, _⟩ := of_decide_eq_true ok
    have rg := okSt_in ok2
    have hp1 := Same.tup e1 hp
    walk_at "rd"
    intro d hd
    walk_at "rd"
    have e2 : Same H (upd H1 d (HO.lst [])) := e1.trans (Same.new hd)
    have hd0 : H d = none := e1.free hd
    have g2 : (upd H1 d (HO.lst [])) d = some (.lst (([] : List (V × (Int × Int))).map (·.1))) := upd_same
    generalize upd H1 d (HO.lst []) = H2 at *
    have hp2 := Same.tup e2 hp
    walk_at "rd"
    refine s_forR (fun i σ H' => ∃ (v1 v2 : Option V) (ws : List (V × (Int × Int))), σ = [some (.ref p), some (.ref d), v1, v2] ∧ Same H H' ∧ H' d = some (.lst (ws.map (·.1))) ∧ Pls K H' ws ∧ ws.map (·.2) = areaPl t l i (r + 1 - l).toNat) ⟨none, none, [], rfl, e2, g2, (fun _ h => absurd h (by simp)), rfl⟩ ?_ ?_
    · rintro i σ H3 hi ⟨v1, v2, ws, rfl, e3, g3, hw, hws⟩
      have hp3 := Same.tup e3 hp
      walk_at "rd"
      refine s_lcR (fun D j H' => Same H3 H' ∧ ∃ us : List (V × (Int × Int)), H' D = some (.lst (us.map (·.1))) ∧ Pls K H' us ∧ us.map (·.2) = rowPl (t + i) l j) (fun D hD => ⟨Same.new hD, [], upd_same, (fun _ h => absurd h (by simp)), rfl⟩) ?_ ?_
      · rintro D j H4 hD hj ⟨e4, us, g4, hu, hus⟩
        walk_at "rd"
        intro p5 hp5
        have hlen : us.length = j := by
          have := congrArg List.length hus
          rwa [List.length_map, rowPl_len] at this
        have e5 : Same H4 (upd H4 p5 (HO.tup [V.int (t + i), V.int (l + j)])) := Same.new hp5
        have g5 := e5 _ _ g4
        refine ⟨_, g5, sz_lt (by rw [List.length_map]; omega), Same.mut (e4.trans e5) hD, us ++ [(.ref p5, (t + i, l + j))], by rw [upd_same, List.map_append]; rfl, ?_, by rw [List.map_append, hus, rowPl_succ]; rfl⟩
        refine ((hu.mono e5).put g5).app fun w hw => ?_
        rw [List.mem_singleton.mp hw]
        have : p5 ≠ D := fun z => by rw [← z, hp5] at g4; cases g4
        exact ⟨p5, rfl, by rw [upd_ne this]; exact upd_same⟩
      · rintro D H4 hD ⟨e4, us, g4, hu, hus⟩
        have g34 := e4 _ _ g3
        have l1 : us.length = (r + 1 - l).toNat := by
          have := congrArg List.length hus
          rwa [List.length_map, rowPl_len] at this
        have l2 : ws.length = i * (r + 1 - l).toNat := by
          have := congrArg List.length hws
          rwa [List.length_map, areaPl_len] at this
        have l3 : i * (r + 1 - l).toNat ≤ 100 * 100 := Nat.mul_le_mul (by omega) (by omega)
        walk_at "rd"
        refine ⟨d, D, _, _, rfl, rfl, g34, g4, sz_le (by rw [List.length_map, List.length_map]; omega), ?_⟩
        walk_at "rd"
        refine ⟨_, _, ws ++ us, rfl, Same.mut (e3.trans e4) hd0, by rw [upd_same, List.map_append], ((hw.mono e4).put g34).app (hu.put g34), by rw [List.map_append, hws, hus, areaPl_succ]⟩
    · rintro σ H3 ⟨v1, v2, ws, rfl, e3, g3, hw, hws⟩
      walk_at "rd"
      exact q1 ok _ _ ws e3 hd0 g3 hw hws

end
end Ol

namespace Ol
open PySem PySem.Spec PyProof.Rows L2
section
variable {P : Program} {w : World} {K : PySem.W.Frag} {mg : Str → Option Value} {base : Heap}

def spTurn : Sp := fun vs H Q _ => ∃ c k, vs = [.int c, .int k] ∧ 0 ≤ k ∧ k ≤ 1000000 ∧ ∀ m, Q (.int m) H
theorem ok_turn (T : Txt K mg) : Def P w K mg base 1 "_law_turn" ["cell", "k"] spTurn := by
  refine def_of T.g__law_turn T.f__law_turn sc__law_turn (fun _ _ _ _ _ _ us hl => match us, hl with | [_, _], _ => rfl) (fun vs H Q E h => ?_) (fun cdv A outer s H vs Q E hrm h => ?_)
  · obtain ⟨a, k, rfl, _⟩ := h
    rfl
  · obtain ⟨c, k, rfl, h0, h1, q⟩ := h
    refine ⟨_, (pss_cons (ps_set (i := 2) sc__law_turn.nd rfl (Or.inl rfl) (pe_op op_mod (pe_op (op_addU (K := K)) (pe_op (op_addU (K := K)) (pe_op (op_addU (K := K)) (pv 0) (pe_op op_mulU (pe_op op_mulU pe_int (pv 1)) (pv 1))) (pe_op op_mulU pe_int (pv 1))) pe_int) pe_int))
 (pss_cons (ps_set (i := 2) sc__law_turn.nd rfl (Or.inl rfl) (pe_op op_mod (pe_op op_mulU (pv 2) (pv 2)) pe_int))
 (pss_one (ps_ret (pe_op op_mod (pe_op op_mulU (pe_op (op_addU (K := K)) (pv 2) (pe_op op_mulU pe_int (pe_op (op_addU (K := K)) (pv 1) pe_int))) pe_int) pe_int))))), ?_⟩
    rw [st__law_turn]
    try dsimp only [L2.cxOf]
    walk_at "rd"
    refine ⟨wide_small (by decide) (by omega), ?_⟩
    walk_at "rd"
    refine ⟨wide_600 (Nat.le_trans (show (977 * k).natAbs ≤ 977000000 by omega) (by decide +kernel)) (Nat.le_trans (show k.natAbs ≤ 1000000 by omega) (by decide +kernel)), ?_⟩
    walk_at "rd"
    refine ⟨wide_small (by decide) (by omega), ?_⟩
    walk_at "rd"
    generalize c + 977 * k * k + 31 * k + 1 = y
    have d0 := Int.emod_nonneg y (show (2147483647 : Int) ≠ 0 by decide)
    have d1 := Int.emod_lt_of_pos y (show (0 : Int) < 2147483647 by decide)
    refine ⟨wide_small (by omega) (by omega), ?_⟩
    walk_at "rd"
    generalize y % 2147483647 * (y % 2147483647) = u
    have e0 := Int.emod_nonneg u (show (2147483647 : Int) ≠ 0 by decide)
    have e1 := Int.emod_lt_of_pos u (show (0 : Int) < 2147483647 by decide)
    refine ⟨wide_small (by decide) (by omega), ?_⟩
    walk_at "rd"
    refine ⟨wide_600 (Nat.le_trans (show _ ≤ 10 ^ 12 by omega) (by decide +kernel)) (by decide +kernel), ?_⟩
    walk_at "rd"
    exact q _
def spCells (K : PySem.W.Frag) : Sp := fun vs H Q _ => ∃ (a : Addr) (most : Int) (ns : List Int), vs = [.ref a, .int most] ∧ SqL K H a (ns.map V.int) ∧ ns.length ≤ 63 ∧ 0 ≤ most ∧ ∀ (H' : Hp) (p : Addr) (ms : List Int), Same H H' → H' p = some (.lst (ms.map V.int)) → Q (.ref p) H'
theorem cut_ints (ns : List Int) {k : Int} (h0 : 0 ≤ k) : cutV (ns.map V.int) none (some k) = (ns.take k.toNat).map V.int := by
  obtain ⟨m, rfl⟩ := Int.eq_ofNat_of_zero_le h0
  unfold cutV
  rw [HT.sIx_none, HT.sIx_nat, List.drop_zero, Nat.sub_zero, ← List.map_take]
  congr 1
  rw [List.length_map]
  rcases Nat.le_total m ns.length with h | h
  · rw [Nat.min_eq_left h]; rfl
  · rw [Nat.min_eq_right h, List.take_length]
    exact (List.take_of_length_le h).symm
theorem ok_cells (T : Txt K mg) (D__law_turn : Def P w K mg base 1 "_law_turn" ["cell", "k"] spTurn) : Def P w K mg base 2 "_law_cells" ["script", "most"] (spCells K) := by
  refine def_of T.g__law_cells T.f__law_cells sc__law_cells (fun _ _ _ _ _ _ us hl => match us, hl with | [_, _], _ => rfl) (fun vs H Q E h => ?_) (fun cdv A outer s H vs Q E hrm h => ?_)
  · obtain ⟨a, k, ns, rfl, _⟩ := h
    rfl
  · obtain ⟨a, most, ns, rfl, hS, hl, h0, q⟩ := h
    refine ⟨_, (pss_cons (ps_set (i := 2) sc__law_cells.nd rfl (Or.inl rfl) (pe_lst pa_nil))
 (pss_cons (ps_for (passes_of rfl) rfl (pi_range1 rfl T.n_range (pa_cons (pe_callB (call_lenU (K := K)) (by rfl) T.n_len (by decide +kernel) (pa_cons (pv 0) pa_nil)) pa_nil)) (pg_name (i := 3) sc__law_cells.nd rfl (Or.inl rfl))
 (pss_cons (ps_expr (pe_bmK (K := K) rfl PySem.F.plainAttrs_list PySem.F.slot_list_append PySem.F.type_list_append mt_append (pv 2) (pa_cons (pe_ix (ix_seqK (K := K)) (pv 0) (pv 3) (fun _ _ => rfl)) pa_nil)))
 (pss_one (ps_expr (pe_bmK (K := K) rfl PySem.F.plainAttrs_list PySem.F.slot_list_append PySem.F.type_list_append mt_append (pv 2) (pa_cons (pe_dcall D__law_turn (hrm.mono (by decide)) (by rfl) passL (pa_cons (pe_ix (ix_seqK (K := K)) (pv 0) (pv 3) (fun _ _ => rfl)) (pa_cons (pv 3) pa_nil))) pa_nil))))))
 (pss_one (ps_ret (pe_slice (sl_listK (K := K)) (pe_op (op_addU (K := K)) (pe_lst (pa_cons (pe_callB (call_lenU (K := K)) (by rfl) T.n_len (by decide +kernel) (pa_cons (pv 0) pa_nil)) (pa_cons pe_int pa_nil))) (pv 2)) po_none (po_some (pv 1))))))), ?_⟩
    rw [st__law_cells]
    try dsimp only [L2.cxOf]
    walk_at "rd"
    intro l hl0
    walk_at "rd"
    rw [List.length_map]
    have s1 : Same H (upd H l (HO.lst [])) := Same.new hl0
    have h1 : (upd H l (HO.lst [])) l = some (.lst (([] : List Int).map V.int)) := upd_same
    generalize upd H l (HO.lst []) = H1 at *
    refine ⟨by omega, ?_⟩
    refine s_forR0 (fun i σ H' => ∃ (v : Option V) (ms : List Int), σ = [some (.ref a), some (.int most), some (.ref l), v] ∧ Same H H' ∧ H' l = some (.lst (ms.map V.int)) ∧ ms.length = 2 * i) ⟨none, [], rfl, s1, h1, rfl⟩ ?_ ?_
    · rintro i σ H' hi ⟨v, ms, rfl, e, g, hm⟩
      have hi : i < ns.length := by omega
      obtain ⟨x, hx, ex⟩ := at_ex (xs := ns.map V.int) (i := (i : Nat)) (by omega) (by rw [List.length_map]; omega)
      obtain ⟨z, rfl⟩ := int_at hx
      have hz : (ms.map V.int).length < sizeLine := sz_lt (by rw [List.length_map]; omega)
      walk_at "rd"
      have e2 : Same H (upd H' l (HO.lst (ms.map V.int ++ [V.int z]))) := Same.mut e hl0
      have g2 : (upd H' l (HO.lst (ms.map V.int ++ [V.int z]))) l = some (.lst ((ms ++ [z]).map V.int)) := by rw [upd_same, List.map_append]; rfl
      generalize upd H' l (HO.lst (ms.map V.int ++ [V.int z])) = H2 at *
      have hz2 : ((ms ++ [z]).map V.int).length < sizeLine := sz_lt (by rw [List.length_map, List.length_append]; simp; omega)
      walk_at "rd"
      refine ⟨_, _, rfl, by omega, by omega, fun m => ?_⟩
      walk_at "rd"
      exact ⟨_, ms ++ [z] ++ [m], rfl, Same.mut e2 hl0, by rw [upd_same, List.map_append (l₁ := ms ++ [z])]; rfl, by simp; omega⟩
    · rintro σ H' ⟨v, ms, rfl, e, g, hm⟩
      walk_at "rd"
      rw [List.length_map]
      intro l2 hl2
      walk_at "rd"
      intro l3 hl3
      have hx : [V.int (ns.length : Nat), V.int 5] ++ ms.map V.int = ([((ns.length : Nat) : Int), 5] ++ ms).map V.int := by rw [List.map_append]; rfl
      rw [hx]
      walk_at "rd"
      rw [cut_ints _ h0]
      intro l4 hl4
      exact q _ _ _ (((e.trans (Same.new hl2)).trans (Same.new hl3)).trans (Same.new hl4)) upd_same

def plD (x : Int × Int) : PyData := .tuple [.int x.1, .int x.2]
theorem Pls.dp {H : Hp} : ∀ {ws : List (V × (Int × Int))}, Pls K H ws → DpAll K H (ws.map (·.1)) ((ws.map (·.2)).map plD)
  | [], _ => .nil
  | w :: r, h => by
    obtain ⟨p, h1, h2⟩ := h w List.mem_cons_self
    have e : Dp K H w.1 (plD w.2) := by
      rw [h1]
      exact .tup (st_of h2) (.cons (.int _) (.cons (.int _) .nil))
    exact .cons e (Pls.dp fun x hx => h x (List.mem_cons_of_mem _ hx))
theorem pl_lay : ∀ (l : List (Int × Int)), PyData.canLayAll0 (l.map plD) = true ∧ PyData.depthAll (l.map plD) ≤ 1
  | [] => ⟨rfl, Nat.zero_le _⟩
  | x :: r => by
    obtain ⟨h1, h2⟩ := pl_lay r
    rw [List.map_cons]
    constructor
    · show (true && PyData.canLayAll0 (r.map plD)) = true
      rw [h1]; rfl
    · simp only [PyData.depthAll, plD, PyData.depth]
      omega
theorem shaped_pl (l : List (Int × Int)) : SeqAt.shaped (.list (l.map plD)) = true := by
  obtain ⟨h1, h2⟩ := pl_lay l
  show (PyData.canLayAll0 (l.map plD) && decide (PyData.depth (.list (l.map plD)) ≤ 64)) = true
  have h3 : PyData.depth (.list (l.map plD)) ≤ 64 := by
    simp only [PyData.depth]
    omega
  rw [h1, decide_eq_true h3]
  rfl
theorem row_head (row l : Int) : ∀ n, (rowPl row l (n + 1))[0]? = some (row, l)
  | 0 => by simp [rowPl]
  | n + 1 => by
    rw [rowPl_succ, List.getElem?_append_left (by rw [rowPl_len]; omega)]
    exact row_head row l n
theorem area_head (t l : Int) (n : Nat) : ∀ m, (areaPl t l (m + 1) (n + 1))[0]? = some (t, l)
  | 0 => by
    rw [areaPl_succ]
    have := row_head (t + 0) l n
    simpa [areaPl] using this
  | m + 1 => by
    rw [areaPl_succ, List.getElem?_append_left (by rw [areaPl_len, Nat.succ_mul]; omega)]
    exact area_head t l n m
def spName : Sp := fun vs H Q _ => ∃ (r c : Int), vs = [.int r, .int c] ∧ 0 ≤ r ∧ r < 99 ∧ 0 ≤ c ∧ c < 26 ∧ ∀ ch, atI (Str.ofString "abcdefghijklmnopqrstuvwxyz").cps.toList c = some ch → Q (.str (⟨#[ch]⟩ ++ toString (r + 1))) H
theorem ok_name (T : Txt K mg) : Def P w K mg base 1 "_law_name" ["row", "column"] spName := by
  refine def_of T.g__law_name T.f__law_name sc__law_name (fun _ _ _ _ _ _ us hl => match us, hl with | [_, _], _ => rfl) (fun vs H Q E h => ?_) (fun cdv A outer s H vs Q E hrm h => ?_)
  · obtain ⟨r, c, rfl, _⟩ := h
    rfl
  · obtain ⟨r, c, rfl, h0, h1, h2, h3, q⟩ := h
    refine ⟨_, (pss_one (ps_ret (pe_op (op_addU (K := K)) (pe_ix (ix_seqK (K := K)) pe_str (pv 1) (fun _ _ => rfl)) (pe_callTy call_strU (by rfl) T.n_str (by decide +kernel) (pa_cons (pe_op (op_addU (K := K)) (pv 0) pe_int) pa_nil))))), ?_⟩
    rw [st__law_name]
    try dsimp only [L2.cxOf]
    walk_at "rd"
    obtain ⟨ch, hch⟩ := letter_at h2 h3
    refine s_ixS (sz_le (by simp)) hch ?_
    walk_at "rd"
    refine ⟨log_1920 (Nat.le_trans (show (r + 1).natAbs ≤ 100 by omega) (by decide +kernel)), ?_⟩
    walk_at "rd"
    refine ⟨sz_le ?_, ?_⟩
    · have := str_short (n := r + 1) (by omega) (by omega)
      show 1 + _ ≤ _
      omega
    exact q ch hch
def spGood (K : PySem.W.Frag) : Sp := fun vs H Q _ => ∃ p n, vs = [.ref p] ∧ H p = some (.lst [.int n]) ∧ ∀ H' q t l b r, But p H H' → SqT K H' q (a4 t l b r) → okAr t l b r = true → Q (.ref q) H'
theorem ok_good (T : Txt K mg) (D__law_digit : Def P w K mg base 1 "_law_digit" ["left", "many"] spDigit) : Def P w K mg base 2 "_law_good_area" ["left"] (spGood K) := by
  refine def_of T.g__law_good_area T.f__law_good_area sc__law_good_area (fun _ _ _ _ _ _ us hl => match us, hl with | [_], _ => rfl) (fun vs H Q E h => ?_) (fun cdv A outer s H vs Q E hrm h => ?_)
  · obtain ⟨p, n, rfl, _⟩ := h
    rfl
  · obtain ⟨p, n, rfl, hp, q⟩ := h
    refine ⟨_, (pss_cons (ps_set (i := 1) sc__law_good_area.nd rfl (Or.inl rfl) (pe_dcall D__law_digit (hrm.mono (by decide)) (by rfl) passL (pa_cons (pv 0) (pa_cons pe_int pa_nil))))
 (pss_cons (ps_set (i := 2) sc__law_good_area.nd rfl (Or.inl rfl) (pe_dcall D__law_digit (hrm.mono (by decide)) (by rfl) passL (pa_cons (pv 0) (pa_cons pe_int pa_nil))))
 (pss_cons (ps_set (i := 3) sc__law_good_area.nd rfl (Or.inl rfl) (pe_op (op_addU (K := K)) pe_int (pe_dcall D__law_digit (hrm.mono (by decide)) (by rfl) passL (pa_cons (pv 0) (pa_cons (pe_callB call_minP (by rfl) T.n_min (by decide +kernel) (pa_cons pe_int (pa_cons (pe_op op_sub pe_int (pv 1)) pa_nil))) pa_nil)))))
 (pss_cons (ps_set (i := 4) sc__law_good_area.nd rfl (Or.inl rfl) (pe_op (op_addU (K := K)) pe_int (pe_dcall D__law_digit (hrm.mono (by decide)) (by rfl) passL (pa_cons (pv 0) (pa_cons (pe_op op_sub pe_int (pv 2)) pa_nil)))))
 (pss_cons (ps_if (pt_cmpR (op_eqU (K := K) hrm.units) (pe_dcall D__law_digit (hrm.mono (by decide)) (by rfl) passL (pa_cons (pv 0) (pa_cons pe_int pa_nil))) pe_int (nomark _))
 (pss_one (ps_set (i := 3) sc__law_good_area.nd rfl (Or.inl rfl) (pe_callB call_minP (by rfl) T.n_min (by decide +kernel) (pa_cons (pe_op op_sub pe_int (pv 1)) (pa_cons (pe_op op_fdivW pe_int (pv 4)) pa_nil)))))
 pss_nil)
 (pss_one (ps_ret (pe_tup (pa_cons (pv 1) (pa_cons (pv 2) (pa_cons (pe_op op_sub (pe_op (op_addU (K := K)) (pv 1) (pv 3)) pe_int) (pa_cons (pe_op op_sub (pe_op (op_addU (K := K)) (pv 2) (pv 4)) pe_int) pa_nil)))))))))))), ?_⟩
    rw [st__law_good_area]
    try dsimp only [L2.cxOf]
    walk_at "rd"
    refine s_digit (m := 99) hp (by decide) (by decide +kernel) ?_
    have b1 : But p H (upd H p (HO.lst [V.int (n / 99)])) := But.upd
    have hp1 : (upd H p (HO.lst [V.int (n / 99)])) p = some (.lst [.int (n / 99)]) := upd_same
    generalize upd H p (HO.lst [V.int (n / 99)]) = H1 at *
    have t0 : 0 ≤ n % 99 ∧ n % 99 < 99 := by omega
    generalize n % 99 = t at *
    generalize n / 99 = n1 at *
    walk_at "rd"
    refine s_digit (m := 26) hp1 (by decide) (by decide +kernel) ?_
    have b2 := b1.put (o := HO.lst [V.int (n1 / 26)])
    have hp2 : (upd H1 p (HO.lst [V.int (n1 / 26)])) p = some (.lst [.int (n1 / 26)]) := upd_same
    generalize upd H1 p (HO.lst [V.int (n1 / 26)]) = H2 at *
    have l0 : 0 ≤ n1 % 26 ∧ n1 % 26 < 26 := by omega
    generalize n1 % 26 = l at *
    generalize n1 / 26 = n2 at *
    walk_at "rd"
    have m0 : 1 ≤ (if 99 - t < 9 then 99 - t else 9) ∧ (if 99 - t < 9 then 99 - t else 9) ≤ 9 ∧ (if 99 - t < 9 then 99 - t else 9) ≤ 99 - t := by split <;> omega
    generalize (if 99 - t < 9 then 99 - t else 9) = k1 at *
    refine s_digit (m := k1) hp2 (by omega) (log_9000 (Nat.le_trans (show _ ≤ 100 by omega) (by decide +kernel))) ?_
    have b3 := b2.put (o := HO.lst [V.int (n2 / k1)])
    have hp3 : (upd H2 p (HO.lst [V.int (n2 / k1)])) p = some (.lst [.int (n2 / k1)]) := upd_same
    generalize upd H2 p (HO.lst [V.int (n2 / k1)]) = H3 at *
    have h00 := Int.emod_nonneg n2 (show k1 ≠ 0 by omega)
    have h01 := Int.emod_lt_of_pos n2 (show 0 < k1 by omega)
    generalize n2 % k1 = hh at *
    generalize n2 / k1 = n3 at *
    walk_at "rd"
    refine s_digit (m := 26 - l) hp3 (by omega) (log_9000 (Nat.le_trans (show _ ≤ 100 by omega) (by decide +kernel))) ?_
    have b4 := b3.put (o := HO.lst [V.int (n3 / (26 - l))])
    have hp4 : (upd H3 p (HO.lst [V.int (n3 / (26 - l))])) p = some (.lst [.int (n3 / (26 - l))]) := upd_same
    generalize upd H3 p (HO.lst [V.int (n3 / (26 - l))]) = H4 at *
    have w00 := Int.emod_nonneg n3 (show 26 - l ≠ 0 by omega)
    have w01 := Int.emod_lt_of_pos n3 (show 0 < 26 - l by omega)
    generalize n3 % (26 - l) = ww at *
    generalize n3 / (26 - l) = n4 at *
    walk_at "rd"
    have fin : ∀ h w : Int, 1 ≤ h → h ≤ 99 - t → 1 ≤ w → w ≤ 26 - l → h * w ≤ 300 → okAr t l (t + h - 1) (l + w - 1) = true := fun h w a1 a2 a3 a4 a5 => by
      refine decide_eq_true ⟨decide_eq_true ⟨⟨decide_eq_true (by omega), decide_eq_true (by omega)⟩, by omega, by omega⟩, ?_⟩
      have e1 : t + h - 1 - t + 1 = h := by omega
      have e2 : l + w - 1 - l + 1 = w := by omega
      rw [e1, e2]
      exact a5
    refine s_digit (m := 6) hp4 (by decide) (by decide +kernel) ?_
    have b5 := b4.put (o := HO.lst [V.int (n4 / 6)])
    generalize upd H4 p (HO.lst [V.int (n4 / 6)]) = H5 at *
    walk_at "rd"
    refine s_iteD (fun c => ?_) (fun c => ?_)
    · walk_at "rd"
      refine ⟨⟨by omega, log_9000 (Nat.le_trans (show _ ≤ 100 by omega) (by decide +kernel))⟩, ?_⟩
      walk_at "rd"
      have q0 : 0 ≤ 300 / (1 + ww) := Int.ediv_nonneg (by decide) (by omega)
      have q1 : 300 / (1 + ww) * (1 + ww) ≤ 300 := Int.ediv_mul_le _ (by omega)
      have q2 : 1 ≤ 300 / (1 + ww) := (Int.le_ediv_iff_mul_le (by omega)).mpr (by omega)
      generalize 300 / (1 + ww) = qq at *
      have m1 : 1 ≤ (if qq < 99 - t then qq else 99 - t) ∧ (if qq < 99 - t then qq else 99 - t) ≤ qq ∧ (if qq < 99 - t then qq else 99 - t) ≤ 99 - t := by split <;> omega
      generalize (if qq < 99 - t then qq else 99 - t) = g at *
      have m2 : g * (1 + ww) ≤ 300 := Int.le_trans (Int.mul_le_mul_of_nonneg_right m1.2.1 (by omega)) q1
      exact fun y hy => q _ _ _ _ _ _ (b5.trans (But.new hy)) (st_of upd_same) (fin _ _ m1.1 m1.2.2 (by omega) (by omega) m2)
    · walk_at "rd"
      have m2 : (1 + hh) * (1 + ww) ≤ 300 := by
        have a1 : (1 + hh) * (1 + ww) ≤ 9 * (1 + ww) := Int.mul_le_mul_of_nonneg_right (by omega) (by omega)
        omega
      exact fun y hy => q _ _ _ _ _ _ (b5.trans (But.new hy)) (st_of upd_same) (fin _ _ (by omega) (by omega) (by omega) (by omega) m2)

end
end Ol

namespace Ol
open PySem PySem.Spec PyProof.Rows L2
section
variable {P : Program} {w : World} {K : PySem.W.Frag} {mg : Str → Option Value} {base : Heap}

theorem sqT_put {H : Hp} {d p : Addr} {xs ys ts : List V} (hd : H d = some (.lst xs)) (h : SqT K H p ts) : SqT K (upd H d (.lst ys)) p ts := by
  have b : But d H (upd H d (.lst ys)) := But.upd
  rcases h with (h2 | ⟨o, h2⟩) | h2
  · exact .inl (.inl (b _ _ (ne_of h2 hd (by intro z; cases z)) h2))
  · exact .inl (.inr ⟨o, b _ _ (ne_of h2 hd (by intro z; cases z)) h2⟩)
  · exact .inr h2
theorem ok_law (T : Txt K mg) : Def P w K mg base 6 "law" ["script"] (spLawB K) := by
  have D__law_digit : Def P w K mg base 1 "_law_digit" ["left", "many"] spDigit := ok_digit T
  have D_is_place : Def P w K mg base 1 "is_place" ["place"] (spIsPlace K) := ok_is_place T
  have D_place_name : Def P w K mg base 2 "place_name" ["place"] (spPlaceName K) := ok_place_name T D_is_place
  have D_stands_right : Def P w K mg base 2 "stands_right" ["area"] (spStands K) := ok_stands T D_is_place
  have D_area_many : Def P w K mg base 1 "area_many" ["area"] (spMany K) := ok_many T
  have D_is_area : Def P w K mg base 3 "is_area" ["area"] (spIsArea K) := ok_is_area T D_stands_right D_area_many
  have D_asked_area : Def P w K mg base 4 "asked_area" ["area"] (spAsked K) := ok_asked T D_is_area
  have D_area_name : Def P w K mg base 5 "area_name" ["area"] (spAreaName K) := ok_area_name T D_asked_area D_place_name
  have D_area_places : Def P w K mg base 5 "area_places" ["area"] (spAreaPl K) := ok_area_places T D_asked_area
  have D__law_turn : Def P w K mg base 1 "_law_turn" ["cell", "k"] spTurn := ok_turn T
  have D__law_cells : Def P w K mg base 2 "_law_cells" ["script", "most"] (spCells K) := ok_cells T D__law_turn
  have D__law_good_area : Def P w K mg base 2 "_law_good_area" ["left"] (spGood K) := ok_good T D__law_digit
  have D__law_name : Def P w K mg base 1 "_law_name" ["row", "column"] spName := ok_name T
  refine def_of T.g_law T.f_law sc_law (fun _ _ _ _ _ _ us hl => match us, hl with | [_], _ => rfl) (fun vs H Q E h => ?_) (fun cdv A outer s H vs Q E hrm h => ?_)
  · obtain ⟨a, ns, rfl, _⟩ := h
    rfl
  · obtain ⟨a, ns, rfl, hS, hl, hb, q⟩ := h
    refine ⟨_, (pss_cons (ps_for (passes_of rfl) rfl (pi_listK (K := K) (pe_dcall D__law_cells (hrm.mono (by decide)) (by rfl) passL (pa_cons (pv 0) (pa_cons pe_int pa_nil)))) (pg_name (i := 1) sc_law.nd rfl (Or.inl rfl))
 (pss_cons (ps_set (i := 2) sc_law.nd rfl (Or.inl rfl) (pe_dcall D__law_good_area (hrm.mono (by decide)) (by rfl) passL (pa_cons (pe_lst (pa_cons (pv 1) pa_nil)) pa_nil)))
 (pss_cons (ps_set (i := 3) sc_law.nd rfl (Or.inl rfl) (pe_lst pa_nil))
 (pss_cons (ps_for (passes_of rfl) rfl (pi_range1 rfl T.n_range (pa_cons pe_int pa_nil)) (pg_name (i := 4) sc_law.nd rfl (Or.inl rfl))
 (pss_one (ps_for (passes_of rfl) rfl (pi_range2 rfl T.n_range (pa_cons (pe_ix (ix_seqK (K := K)) (pv 2) pe_int (fun _ _ => rfl)) (pa_cons (pe_op (op_addU (K := K)) (pe_ix (ix_seqK (K := K)) (pv 2) pe_int (fun _ _ => rfl)) pe_int) pa_nil))) (pg_name (i := 5) sc_law.nd rfl (Or.inl rfl))
 (pss_one (ps_if (pt_chain op_le op_le (pe_ix (ix_seqK (K := K)) (pv 2) pe_int (fun _ _ => rfl)) (pv 4) (pe_ix (ix_seqK (K := K)) (pv 2) pe_int (fun _ _ => rfl)))
 (pss_one (ps_expr (pe_bmK (K := K) rfl PySem.F.plainAttrs_list PySem.F.slot_list_append PySem.F.type_list_append mt_append (pv 3) (pa_cons (pe_tup (pa_cons (pv 4) (pa_cons (pv 5) pa_nil))) pa_nil))))
 pss_nil)))))
 (pss_cons (ps_set (i := 6) sc_law.nd rfl (Or.inl rfl) (pe_dcall D_area_places (hrm.mono (by decide)) (by rfl) passL (pa_cons (pv 2) pa_nil)))
 (pss_cons (ps_if (PW.pt (pw_or (pt_not (pt_val (pe_callB (call_isiK (K := K)) (by rfl) T.n_isinstance (by decide +kernel) (pa_cons (pv 6) (pa_cons (pe_bltn (v := .ty "list") (u := .type "list") rfl T.n_list (by decide +kernel) (by rfl)) pa_nil))))) (pw_or (pt_cmpR (op_neU (K := K) hrm.units) (pv 6) (pv 3) (nomark _)) (pw_or1 (pt_not (pt_val (pe_callB (call_allL (K := K)) (by rfl) T.n_all (by decide +kernel) (pa_cons (pe_lc (own := [("place", 11)]) (g := gName 11) (tt := tYes) rfl sc_law.nd (pi_listK (K := K) (pv 6)) (blkOk_by (N := N_law) (sc := defScope s_law) (by decide +kernel)) (fun _ _ _ _ _ => pg_name (i := 11) sc_law.nd rfl (Or.inl rfl)) (fun _ _ _ _ _ => pts_nil) (fun _ _ _ _ _ => (pe_callB (call_isiK (K := K)) (by rfl) T.n_isinstance (by decide +kernel) (pa_cons (pv 11) (pa_cons (pe_bltn (v := .ty "tuple") (u := .type "tuple") rfl T.n_tuple (by decide +kernel) (by rfl)) pa_nil))))) pa_nil))))))))
 (pss_one (ps_ret pe_bl))
 pss_nil)
 (pss_cons (ps_set (i := 7) sc_law.nd rfl (Or.inl rfl) (pe_dcall D_area_many (hrm.mono (by decide)) (by rfl) passL (pa_cons (pv 2) pa_nil)))
 (pss_cons (ps_if (PW.pt (pw_or (pt_not (pt_val (pe_callB (call_isiK (K := K)) (by rfl) T.n_isinstance (by decide +kernel) (pa_cons (pv 7) (pa_cons (pe_bltn (v := .ty "int") (u := .type "int") rfl T.n_int (by decide +kernel) (by rfl)) pa_nil))))) (pw_or (pt_val (pe_callB (call_isiK (K := K)) (by rfl) T.n_isinstance (by decide +kernel) (pa_cons (pv 7) (pa_cons (pe_bltn (v := .ty "bool") (u := .type "bool") rfl T.n_bool (by decide +kernel) (by rfl)) pa_nil)))) (pw_or1 (pt_cmpR (op_neU (K := K) hrm.units) (pv 7) (pe_callB (call_lenU (K := K)) (by rfl) T.n_len (by decide +kernel) (pa_cons (pv 3) pa_nil)) (nomark _))))))
 (pss_one (ps_ret pe_bl))
 pss_nil)
 (pss_cons (ps_expr (pe_bmK (K := K) rfl PySem.F.plainAttrs_list PySem.F.slot_list_append PySem.F.type_list_append mt_append (pv 6) (pa_cons (pe_tup (pa_cons pe_int (pa_cons pe_int pa_nil))) pa_nil)))
 (pss_cons (ps_if (pt_cmpR (op_neU (K := K) hrm.units) (pe_dcall D_area_places (hrm.mono (by decide)) (by rfl) passL (pa_cons (pv 2) pa_nil)) (pv 3) (nomark _))
 (pss_one (ps_ret pe_bl))
 pss_nil)
 (pss_cons (ps_set (i := 8) sc_law.nd rfl (Or.inl rfl) (pe_dcall D_area_name (hrm.mono (by decide)) (by rfl) passL (pa_cons (pv 2) pa_nil)))
 (pss_cons (ps_set (i := 9) sc_law.nd rfl (Or.inl rfl) (pe_dcall D__law_name (hrm.mono (by decide)) (by rfl) passL (pa_cons (pe_ix (ix_seqK (K := K)) (pe_ix (ix_seqK (K := K)) (pv 3) pe_int (fun _ _ => rfl)) pe_int (fun _ _ => rfl)) (pa_cons (pe_ix (ix_seqK (K := K)) (pe_ix (ix_seqK (K := K)) (pv 3) pe_int (fun _ _ => rfl)) pe_int (fun _ _ => rfl)) pa_nil))))
 (pss_cons (ps_set (i := 10) sc_law.nd rfl (Or.inl rfl) (pe_dcall D__law_name (hrm.mono (by decide)) (by rfl) passL (pa_cons (pe_ix (ix_seqK (K := K)) (pe_ix (ix_seqK (K := K)) (pv 3) (pe_un un_neg pe_int) (fun _ _ => rfl)) pe_int (fun _ _ => rfl)) (pa_cons (pe_ix (ix_seqK (K := K)) (pe_ix (ix_seqK (K := K)) (pv 3) (pe_un un_neg pe_int) (fun _ _ => rfl)) pe_int (fun _ _ => rfl)) pa_nil))))
 (pss_one (ps_if (PW.pt (pw_or (pt_not (pt_val (pe_callB (call_isiK (K := K)) (by rfl) T.n_isinstance (by decide +kernel) (pa_cons (pv 8) (pa_cons (pe_bltn (v := .ty "str") (u := .type "str") rfl T.n_str (by decide +kernel) (by rfl)) pa_nil))))) (pw_or1 (pt_cmpR (op_neU (K := K) hrm.units) (pv 8) (pe_op (op_addU (K := K)) (pe_op (op_addU (K := K)) (pv 9) pe_str) (pv 10)) (nomark _)))))
 (pss_one (ps_ret pe_bl))
 pss_nil)))))))))))))))
 (pss_one (ps_ret pe_bl))), ?_⟩
    rw [st_law]
    try dsimp only [L2.cxOf]
    walk_at "rd"
    refine ⟨a, 34, ns, rfl, hS, hl, by decide, fun H1 c ms e0 h1 => ?_⟩
    walk_at "rd"
    refine s_forL (xs := ms.map V.int) (fun i σ H' => ∃ (v1 v2 v3 v4 v5 v6 v7 v8 v9 v10 v11 : Option V), σ = [some (.ref a), v1, v2, v3, v4, v5, v6, v7, v8, v9, v10, v11] ∧ Same H1 H') ⟨_, _, _, _, _, _, _, _, _, _, _, rfl, Same.refl _⟩ (fun i σ H' _ ⟨_, _, _, _, _, _, _, _, _, _, _, _, e⟩ => sl_of (e _ _ h1)) ?_ ?_
    · rintro i x σ H2 hi ⟨v1, v2, v3, v4, v5, v6, v7, v8, v9, v10, v11, rfl, e⟩
      obtain ⟨z, rfl⟩ := int_at hi
      walk_at "rd"
      intro p hp
      walk_at "rd"
      refine ⟨p, _, rfl, upd_same, fun H3 ar t l b r b3 har ok => ?_⟩
      have e3 : Same H1 H3 := But.toSame (e.trans (Same.new hp)) (e.free hp) b3
      have rg := okSt_in (of_decide_eq_true ok).1
      walk_at "rd"
      intro d hd
      walk_at "rd"
      have e4 : Same H3 (upd H3 d (HO.lst [])) := Same.new hd
      have g4 : (upd H3 d (HO.lst [])) d = some (.lst (([] : List (V × (Int × Int))).map (·.1))) := upd_same
      generalize upd H3 d (HO.lst []) = H4 at *
      refine s_forR0 (fun i σ H' => ∃ (v4 v5 : Option V) (ws : List (V × (Int × Int))), σ = [some (.ref a), some (.int z), some (.ref ar), some (.ref d), v4, v5, v6, v7, v8, v9, v10, v11] ∧ Same H3 H' ∧ H' d = some (.lst (ws.map (·.1))) ∧ Pls K H' ws ∧ ws.map (·.2) = areaPl t l (min ((i : Int) - t).toNat (b + 1 - t).toNat) (r + 1 - l).toNat) ⟨_, _, [], rfl, e4, g4, (fun _ h => absurd h (by simp)), by
          have : min (((0 : Nat) : Int) - t).toNat (b + 1 - t).toNat = 0 := by omega
          rw [this]; rfl⟩ ?_ ?_
      · rintro i σ H5 hi ⟨v4, v5, ws, rfl, e5, g5, hw, hws⟩
        have hi : i < 99 := hi
        have har5 := Same.tup e5 har
        have wl : ws.length ≤ 10000 := by
          have := congrArg List.length hws
          rw [List.length_map, areaPl_len] at this
          have l3 : min ((i : Int) - t).toNat (b + 1 - t).toNat * (r + 1 - l).toNat ≤ 100 * 100 := Nat.mul_le_mul (by omega) (by omega)
          omega
        walk_at "rd"
        refine s_forR (fun j σ H' => ∃ (v5 : Option V) (us : List (V × (Int × Int))), σ = [some (.ref a), some (.int z), some (.ref ar), some (.ref d), some (.int (i : Nat)), v5, v6, v7, v8, v9, v10, v11] ∧ Same H3 H' ∧ H' d = some (.lst ((ws ++ us).map (·.1))) ∧ Pls K H' (ws ++ us) ∧ us.map (·.2) = if t ≤ (i : Int) ∧ (i : Int) ≤ b then rowPl (i : Int) l j else []) ⟨_, [], rfl, e5, by rw [List.append_nil]; exact g5, by rw [List.append_nil]; exact hw, by split <;> rfl⟩ ?_ ?_
        · rintro j σ H6 hj ⟨v5, us, rfl, e6, g6, hu, hus⟩
          have har6 := Same.tup e6 har
          have hj : j < (r + 1 - l).toNat := hj
          have ul : us.length ≤ 100 := by
            have := congrArg List.length hus
            rw [List.length_map] at this
            rw [this]
            split
            · rw [rowPl_len]; omega
            · exact Nat.zero_le _
          walk_at "rd"
          refine s_iteD (fun c1 => ?_) (fun c1 => ?_)
          · walk_at "rd"
            refine s_iteD (fun c2 => ?_) (fun c2 => ?_)
            · rw [if_pos ⟨c1, c2⟩] at hus
              walk_at "rd"
              intro p7 hp7
              have e7 : Same H6 (upd H6 p7 (HO.tup [V.int (i : Nat), V.int (l + j)])) := Same.new hp7
              have g7 := e7 _ _ g6
              have ne : p7 ≠ d := fun z => by rw [z, g6] at hp7; cases hp7
              walk_at "rd"
              refine ⟨_, us ++ [(V.ref p7, (((i : Nat) : Int), l + (j : Int)))], rfl, Same.mut (e6.trans e7) hd, by rw [upd_same, ← List.append_assoc, List.map_append (l₁ := ws ++ us)]; rfl, ?_, by rw [if_pos ⟨c1, c2⟩, List.map_append, hus, rowPl_succ]; rfl⟩
              rw [← List.append_assoc]
              refine ((hu.mono e7).put g7).app fun w hw => ?_
              rw [List.mem_singleton.mp hw]
              exact ⟨p7, rfl, by rw [upd_ne ne]; exact upd_same⟩
            · rw [if_neg (fun h => c2 h.2)] at hus
              walk_at "rd"
              exact ⟨_, us, rfl, e6, g6, hu, by rw [if_neg (fun h => c2 h.2)]; exact hus⟩
          · rw [if_neg (fun h => c1 h.1)] at hus
            walk_at "rd"
            exact ⟨_, us, rfl, e6, g6, hu, by rw [if_neg (fun h => c1 h.1)]; exact hus⟩
        · rintro σ H6 ⟨v5, us, rfl, e6, g6, hu, hus⟩
          refine ⟨_, _, ws ++ us, rfl, e6, g6, hu, ?_⟩
          rw [List.map_append, hws, hus]
          by_cases cc : t ≤ (i : Int) ∧ (i : Int) ≤ b
          · rw [if_pos cc]
            have m1 : min (((i + 1 : Nat) : Int) - t).toNat (b + 1 - t).toNat = min ((i : Int) - t).toNat (b + 1 - t).toNat + 1 := by omega
            have m2 : t + ((min ((i : Int) - t).toNat (b + 1 - t).toNat : Nat) : Int) = (i : Int) := by omega
            rw [m1, areaPl_succ, m2]
          · rw [if_neg cc, List.append_nil]
            have m1 : min (((i + 1 : Nat) : Int) - t).toNat (b + 1 - t).toNat = min ((i : Int) - t).toNat (b + 1 - t).toNat := by omega
            rw [m1]
      · rintro σ H5 ⟨v4, v5, ws, rfl, e5, g5, hw, hws⟩
        have m1 : min (((Int.toNat 99 : Nat) : Int) - t).toNat (b + 1 - t).toNat = (b + 1 - t).toNat := by
          have : Int.toNat 99 = 99 := rfl
          omega
        rw [m1] at hws
        have har5 := Same.tup e5 har
        walk_at "rd"
        refine ⟨ar, t, l, b, r, rfl, har5, fun _ H6 f us e6 nf g6 hu hus => ?_, fun z => by cases z.symm.trans ok⟩
        have g5b := e6 _ _ g5
        have hw6 := hw.mono e6
        have har6 := Same.tup e6 har5
        have fd : f ≠ d := fun z => by rw [z, g5] at nf; cases nf
        walk_at "rd"
        have dU := Pls.dp hu
        have dW := Pls.dp hw6
        rw [hus] at dU
        rw [hws] at dW
        refine s_neD (.lst (sl_of g6) dU) (.lst (sl_of g5b) dW) (shaped_pl _) (shaped_pl _) ?_
        rw [SeqAt.eqv_refl _ (Bool.and_eq_true_iff.mp (shaped_pl _)).1]
        walk_at "rd"
        have ulen : us.length = (b + 1 - t).toNat * (r + 1 - l).toNat := by
          have := congrArg List.length hus
          rwa [List.length_map, areaPl_len] at this
        have wlen : ws.length = (b + 1 - t).toNat * (r + 1 - l).toNat := by
          have := congrArg List.length hws
          rwa [List.length_map, areaPl_len] at this
        have ub : (b + 1 - t).toNat * (r + 1 - l).toNat ≤ 100 * 100 := Nat.mul_le_mul (by omega) (by omega)
        refine s_lcL (xs := us.map (·.1)) (fun D i H' => Same H6 H' ∧ H' D = some (.lst ((List.replicate i true).map V.bl))) (fun D hD => ⟨Same.new hD, upd_same⟩) (fun D i H' hD _ k => sl_of (k.1 _ _ g6)) ?_ ?_
        · rintro D i x H7 hD hi ⟨e7, g7⟩
          have il : i < us.length := by
            have := (List.getElem?_eq_some_iff.mp hi).1
            rwa [List.length_map] at this
          obtain ⟨w, hw7, rfl⟩ : ∃ w, w ∈ us ∧ w.1 = x := List.mem_map.mp (List.mem_of_getElem? hi)
          obtain ⟨p9, e9, g9⟩ := hu w hw7
          rw [e9]
          walk_at "rd"
          exact ⟨_, g7, sz_lt (by rw [List.length_map, List.length_replicate]; omega), Same.mut e7 hD, by rw [upd_same, List.replicate_succ', List.map_append]; rfl⟩
        rintro D H7 hD ⟨e7, g7⟩
        have har7 := Same.tup e7 har6
        walk_at "rd"
        refine ⟨D, _, rfl, sl_of g7, ?_⟩
        have ball : (List.replicate (us.map (·.1)).length true).all id = true := by simp
        rw [ball]
        walk_at "rd"
        refine ⟨ar, t, l, b, r, rfl, har7, (of_decide_eq_true ok).1, ?_⟩
        walk_at "rd"
        have g5c := e7 _ _ g5b
        refine s_no ?_ ?_
        · have a1 : (b - t + 1) * (r - l + 1) = (((b + 1 - t).toNat * (r + 1 - l).toNat : Nat) : Int) := by
            rw [Int.natCast_mul]
            congr 1 <;> omega
          rw [List.length_map, wlen, a1, decide_eq_true rfl]
          rfl
        walk_at "rd"
        intro p8 hp8
        walk_at "rd"
        have e8 : Same H5 (upd H7 p8 (HO.tup [V.int 0, V.int 0])) := (e6.trans e7).trans (Same.new hp8)
        have g8 : (upd H7 p8 (HO.tup [V.int 0, V.int 0])) f = some (.lst (us.map (·.1))) := hf_new hp8 (e7 _ _ g6)
        generalize upd H7 p8 (HO.tup [V.int 0, V.int 0]) = H8 at *
        refine s_append g8 (sz_lt (by rw [List.length_map]; omega)) ?_
        have e9 : Same H5 (upd H8 f (HO.lst (us.map (·.1) ++ [V.ref p8]))) := Same.mut e8 nf
        generalize upd H8 f (HO.lst (us.map (·.1) ++ [V.ref p8])) = H9 at *
        walk_at "rd"
        refine ⟨ar, t, l, b, r, rfl, Same.tup e9 har5, fun _ H10 f2 us2 e10 nf2 g10 hu2 hus2 => ?_, fun z => by cases z.symm.trans ok⟩
        have e10 := e9.trans e10
        have dU := Pls.dp hu2
        have dW := Pls.dp (hw.mono e10)
        rw [hus2] at dU
        rw [hws] at dW
        have g10d := e10 _ _ g5
        walk_at "rd"
        refine s_neD (.lst (sl_of g10) dU) (.lst (sl_of g10d) dW) (shaped_pl _) (shaped_pl _) ?_
        rw [SeqAt.eqv_refl _ (Bool.and_eq_true_iff.mp (shaped_pl _)).1]
        walk_at "rd"
        obtain ⟨c1, hc1⟩ := letter_at (c := l) (by omega) (by omega)
        obtain ⟨c2, hc2⟩ := letter_at (c := r) (by omega) (by omega)
        refine ⟨ar, t, l, b, r, rfl, Same.tup e10 har5, fun _ H11 d1 d2 e11 hd1 hd2 => ?_, fun z => by cases z.symm.trans ok⟩
        obtain rfl : c1 = d1 := Option.some.inj (hc1.symm.trans hd1)
        obtain rfl : c2 = d2 := Option.some.inj (hc2.symm.trans hd2)
        have e11 := e10.trans e11
        have g11 := e11 _ _ g5
        have hw11 := hw.mono e11
        obtain ⟨m, em⟩ : ∃ m, (b + 1 - t).toNat = m + 1 := ⟨(b - t).toNat, by omega⟩
        obtain ⟨n, en⟩ : ∃ n, (r + 1 - l).toNat = n + 1 := ⟨(r - l).toNat, by omega⟩
        rw [em, en] at hws
        have hd0 := area_head t l n m
        rw [← hws, List.getElem?_map] at hd0
        cases ew : ws[0]? with
        | none => rw [ew] at hd0; cases hd0
        | some w0 =>
        rw [ew] at hd0
        have w02 : w0.2 = (t, l) := Option.some.inj hd0
        obtain ⟨q0, w01, gq0⟩ := hw11 w0 (List.mem_of_getElem? ew)
        rw [w02] at gq0
        have at0 : atI (ws.map (·.1)) 0 = some (V.ref q0) := at_nat (i := 0) (by rw [List.getElem?_map, ew, ← w01]; rfl)
        rw [areaPl_succ, rowPl_succ, ← List.append_assoc] at hws
        obtain ⟨ws', w9, rfl⟩ : ∃ ws' w9, ws = ws' ++ [w9] := by
          rcases List.eq_nil_or_concat ws with h | ⟨a, b, h⟩
          · rw [h] at ew; cases ew
          · exact ⟨a, b, by rw [h, List.concat_eq_append]⟩
        have w92 : w9.2 = (t + (m : Int), l + (n : Int)) := by
          rw [List.map_append] at hws
          have := (List.append_inj' hws rfl).2
          exact (List.cons.inj this).1
        have mb : t + (m : Int) = b := by omega
        have nr : l + (n : Int) = r := by omega
        rw [mb, nr] at w92
        obtain ⟨q9, w91, gq9⟩ := hw11 w9 (List.mem_append_right _ List.mem_cons_self)
        rw [w92] at gq9
        have at9 : atI ((ws' ++ [w9]).map (·.1)) (-1) = some (V.ref q9) := by
          rw [List.map_append, ← w91]
          exact atI_last _ _
        walk_at "rd"
        refine ⟨t, l, rfl, by omega, by omega, by omega, by omega, fun k1 hk1 => ?_⟩
        obtain rfl : c1 = k1 := Option.some.inj (hc1.symm.trans hk1)
        walk_at "rd"
        refine ⟨b, r, rfl, by omega, by omega, by omega, by omega, fun k2 hk2 => ?_⟩
        obtain rfl : c2 = k2 := Option.some.inj (hc2.symm.trans hk2)
        have l1 := str_short (n := t + 1) (by omega) (by omega)
        have l2 := str_short (n := b + 1) (by omega) (by omega)
        walk_at "rd"
        refine ⟨sz_le ?_, ?_⟩
        · rw [PySem.Str.length_append]
          show 1 + _ + 1 ≤ _
          omega
        walk_at "rd"
        refine ⟨sz_le ?_, ?_⟩
        · rw [PySem.Str.length_append, PySem.Str.length_append, PySem.Str.length_append]
          show 1 + _ + 1 + (1 + _) ≤ _
          omega
        walk_at "rd"
        refine s_no (by simp) ?_
        walk_at "rd"
        exact ⟨_, _, _, _, _, _, _, _, _, _, _, rfl, (e3.trans e5).trans e11⟩
    · rintro σ H2 ⟨v1, v2, v3, v4, v5, v6, v7, v8, v9, v10, v11, rfl, e⟩
      walk_at "rd"
      exact q _

end
end Ol


namespace Ol
open PySem PySem.Spec PyProof.Rows L2
def loose : List Str := (["is_place", "place_name", "stands_right", "area_many", "is_area", "asked_area", "area_name", "area_places", "_law_digit", "_law_turn", "_law_cells", "_law_good_area", "_law_name", "ROWS", "COLUMNS", "LETTERS", "MOST_PLACES", "SheetError", "BadPlace", "BadArea"] : List Str)
abbrev R : PySem.W.OpenRow := PySem.W.OpenLaw.row PySem.Challenge.rw_onelook_k04_areas_gone_through
abbrev hk : PySem.W.Hook := He.hookX 4 fa fn [] [] ex
def ob (s : PySem.W.SharedT) : He.AlX := He.obsX 4 fa fn [] [] ex (HandSHeadRun.getT s)
theorem ob_eq (s : PySem.W.SharedT) : ob s = hk.obs s.abs := He.obsX_eq (HandSHeadRun.getT_eq s)
theorem run (w : World) : HandSHeadRun.RunEq R (PySem.W.view R.prog [24]) hk ob 4000 loose w := by
  intro os
  kernel_rfl
end Ol
open PySem PySem.W PySem.Calls PyProof.Rows
theorem PySem.Challenge.cw_onelook_k04_areas_gone_through_holds : PySem.Challenge.rw_onelook_k04_areas_gone_through.Holds := by
  w_on; o_law
  refine HandSHeadRun.head_any (r := OpenLaw.row PySem.Challenge.rw_onelook_k04_areas_gone_through) (q := view (OpenLaw.row PySem.Challenge.rw_onelook_k04_areas_gone_through).prog [24]) (H := Ol.hk) (ob := Ol.ob) (M := 4000) (loose := Ol.loose) (d := HandSHeadRun.topDef (OpenLaw.row PySem.Challenge.rw_onelook_k04_areas_gone_through).prog 24) (kwd := []) Ol.ob_eq
    (by kernel_rfl) (fun s => by kernel_rfl) Ol.run (by kernel_rfl) (by kernel_rfl) (by kernel_rfl) (by rfl) (by first | assumption | decide +kernel) (by decide +kernel) ⟨rfl, rfl, rfl, rfl, rfl, by decide +kernel⟩ ?hw ?hc
  case hw => w_witness2
  case hc =>
    refine Ol.walk_ofEB (l := PySem.Challenge.rw_onelook_k04_areas_gone_through) (n := 63) (k := 6) (x := "script") rfl (by decide) (by kernel_rfl) ⟨rfl, by decide, by decide⟩ ?F
    intro w mg fa h Y G hmg0
    obtain ⟨K, KX, c⟩ := Y
    have hmg : mg ("law" : PySem.Str) = some (.ref fa) := by
      have e : (HandSHeadRun.topDef (OpenLaw.row PySem.Challenge.rw_onelook_k04_areas_gone_through).prog 24).name = ("law" : PySem.Str) := by kernel_rfl
      rw [← e]
      exact hmg0
    exact Ol.law_end KX hmg (Ol.txt KX G c).g_law (fun base _ _ => Ol.ok_law (P := (PySem.Challenge.rw_onelook_k04_areas_gone_through).prog) (w := w) (base := base) (Ol.txt KX G c)) G

