import PyProof.Rows.All
import Wide.All
import OpenK.AllK
import Wide.FinOn
import KE.KSuper
import KE.KExcIs
import HandS.Base
import HandS.Call
import HandS.Exc
import HandS.ExcSuper
import HandS.ExcOwn
import HandS.ExcCtx
import HandS.ExcField
import HandS.HotCalls
import HandS.Words
import HandS.ForMost
import HandS.ForExc
import HandS.Walk
import HandS.Evl
import HandS.IsInst
import HandS.Defaults
import HandS.Strs
import HandS.TupAny
import HandS.SortInts
import HandS.SortKw
import HandS.Style
import HandS.DictComp
import HandS.Conv
import HandS.HeadHook1
import HandS.HeadHook2
import HandS.StrMore
import KE.KStateDown
import HandS.Head0
import HandS.Head1
import HandS.Head2
import HandS.HeadEnd
import Lean
import PySem.Challenge.RW_stillmay_k09_whole_order
set_option Elab.async false
set_option linter.all false
set_option maxRecDepth 100000
set_option maxHeartbeats 0

/-! Sup -/
/-! An own error, two classes below Exception, whose first act is its base's own one, by the word for it; then one field. -/
namespace PySem
namespace SupX
open PySem.W PySem.Calls PyProof.Rows PySem.HandSPX

/-- the making def's text: its field, its words, where its parts stand -/
structure Src where
  x : Str
  m : Str
  p1 : Pos
  p2 : Pos
  q1 : Pos
  q2 : Pos
  q3 : Pos
  q4 : Pos
  q5 : Pos
  q6 : Pos
  q7 : Pos
  q8 : Pos
  q9 : Pos
  qa : Pos
def Src.A (S : Src) : Arguments := { posonlyargs := [], args := [{ arg := "self", annotation := none, pos := S.p1 }, { arg := S.x, annotation := none, pos := S.p2 }], vararg := none, kwonlyargs := [], kw_defaults := [], kwarg := none, defaults := [] }
def Src.call (S : Src) : Expr := .Call (.Attribute (.Call (.Name "super" S.q1) [] [] S.q2) "__init__" S.q3) [.Constant (.str S.m) 0 S.q4] [] S.q5
def Src.B (S : Src) : List Stmt := [.Expr S.call S.q6, .Assign [.Attribute (.Name "self" S.q7) S.x S.q8] (.Name S.x S.q9) S.qa]
def Src.S (S : Src) : Scope := { kind := .function, names := [(PySem.Str.ofString "self", .local), (S.x, .local), (PySem.Str.ofString "__class__", .free), (PySem.Str.ofString "super", .globalImplicit)], isGenerator := false, isCoroutine := false, more := [] }
abbrev Src.fd (S : Src) (qual : Str) (cc : Addr) (kV doc pm : Value) (an : Option Addr) (cda : Addr) (ct : Value) : FuncData := fnX "__init__" qual S.A S.B S.S [("__class__", cc)] .none kV doc pm an (.ref cda) ct
/-- what is wanted of such a text -/
structure Src.Ok (S : Src) : Prop where
  l1 : S.S.names.lookup S.x = some .local
  l2 : S.S.names.lookup ("__class__" : Str) = some .free
  l3 : S.S.names.lookup ("super" : Str) = some .globalImplicit
  d : (S.x == ("__debug__" : Str)) = false
  s1 : ((S.x : Str) == ("self" : Str)) = false
  s2 : (("self" : Str) == S.x) = false
  bind : ∀ (qual : Str) (cc : Addr) (kV doc pm : Value) (an : Option Addr) (cda : Addr) (ct u v : Value), bindArgs (S.fd qual cc kV doc pm an cda ct) ⟨[u, v], []⟩ = pure [(PySem.Str.ofString "self", u), (S.x, v)]
  ev : ∀ env : Env, ∃ pl : Sem Bool, eval S.call env = (do
    let ov ← attributeBase (.Call (.Name "super" S.q1) [] [] S.q2) "__init__" env (eval (.Call (.Name "super" S.q1) [] [] S.q2) env)
    standAt S.q3.atName
    let (f, first) ← holding [ov] (getMethod ov "__init__" pl)
    callWith S.q5 f first (backTo S.q5 (starEach [.Constant (.str S.m) 0 S.q4] env)) [])
  sw1 : ∀ env : Env, swapsWith S.call none S.q6.line env = pure false
  sw2 : ∀ env : Env, swapsWith (.Name S.x S.q9) (some (.Attribute (.Name "self" S.q7) S.x S.q8)) S.qa.line env = pure false

/-- what the written part says of the class at C, its making def at fI, the class LE above it -/
structure Txt (prog : Program) (K : Frag) (C fI LE cc cda : Addr) (S : Src) : Prop where
  cls : ∃ nm q N bs sn sub ab col dd k0 k1 k2 k3 k5, K.lookup C = some (excClassObj nm q C N bs (.ref LE :: ESX.exTail) true sn sub ab col dd k0 k1 k2 k3 k5 "Exception.__new__")
  sa : findIn K (.ref C) "__setattr__" = some (some (.builtin "object.__setattr__"))
  noN : findIn K (.ref C) S.x = some none
  iC : findIn K (.ref C) "__init__" = some (some (.ref fI))
  tC : typeIn K (.ref fI) = some (.type "function")
  kC : keepIn K (.ref C) = true
  exC : subIn K (.ref C) (.type "BaseException") = some true
  exE : subIn K (.ref C) (.type "Exception") = some true
  tyC : typeIn K (.ref C) = some (.type "type")
  me : mroIn K C (.ref C) = some true
  sup : nsIn K mainGlobals "super" = some none
  opq : nsIn K cStatics "thirdparty.any" = some none
  along : alongIn K "__init__" (.ref LE :: ESX.exTail) = some (some (.builtin "Exception.__init__"))
  fn : ∃ (qual : Str) (oc : Value) (od : Option Addr) (kV doc pm : Value) (an : Option Addr) (ct : Value) (osl : Array (Option Value)),
    K.lookup fI = some ⟨oc, od, .func (S.fd qual cc kV doc pm an cda ct), osl⟩ ∧ codeIn K (.ref cda) qual = true
  code : ∃ (ccl : Value) (cdd : Option Addr) (vs : Array Value) (ccs : Array (Option Value)) (file : Str) (tf : Tok), K.lookup cda = some ⟨ccl, cdd, .fields vs, ccs⟩ ∧ vs[2]? = some (.str file tf) ∧ ((prog.main.file : Str) == file) = true
  cell : ∃ (cl : Value) (cld : Option Addr) (csl : Array (Option Value)), K.lookup cc = some ⟨cl, cld, .cell (some (.ref C)), csl⟩
  top : (prog.main.scope.names.lookup ("super" : Str)).isSome = false
section
open Builtin Builtin.ObjectAttr
variable {prog : Program} {w : World} {A : Around} {E : Value → Shared → Prop} {R : Result → Shared → Prop} {hp : Heap} {g : Array GenState} {d : Drawn} {t : Nat} {os : OsState}
theorem has_it {K : W.Frag} {C LE : Addr} {cd : ClassData} (a1 : W.clsIn K C = some cd) (a2 : cd.mro = .ref C :: .ref LE :: ESX.exTail) {b : Value} (a3 : (Value.ref C :: .ref LE :: ESX.exTail).contains b = true) : W.mroIn K C b = some true := by
  unfold W.mroIn
  rw [a1, Option.bind_some, a2]
  rw [if_neg (show ¬ ((Value.ref C :: .ref LE :: ESX.exTail).isEmpty = true) from Bool.false_ne_true), a3]
/-- the first field of a fresh error -/
theorem put_new {K : W.Frag} {name : Str} {tk : Tok} {v : Value} {x C LE : Addr} {fv : Array Value} {cd : ClassData}
    (kin : K.In hp) (ex : hp.get? x = some { cls := .ref C, data := .fields fv }) (a1 : W.clsIn K C = some cd) (a2 : cd.mro = .ref C :: .ref LE :: ESX.exTail) (hh : cd.hasDict = true) (a4 : W.findIn K (.ref C) name = some none)
    (fin : ∀ h' tk' dx, (∀ b o, b ≠ x → hp.get? b = some o → h'.get? b = some o) → hp.objs.size ≤ dx → dx ≠ x →
      h'.get? x = some { cls := .ref C, dict := some dx, data := .fields fv } → h'.Ns1 dx (fun y => if y = name then some v else none) → R (.ok (.ret .none)) ⟨h', g, d, tk', os⟩) :
    codeAny (model prog w) A (.call (.builtin "object.__setattr__") ⟨[.ref x, .str name tk, v], []⟩) R ⟨hp, g, d, t, os⟩ := by
  have at_ : W.InstAt hp x { cls := .ref C, data := .fields fv } C none := ⟨ex, rfl, rfl, trivial⟩
  have apart : x ≠ hp.objs.size := Nat.ne_of_lt (Heap.lt_size ex)
  have st := F.store_object
  have isO : W.Looks (model prog w) hp (isInstance (.ref x) (.type "object")) true :=
    at_.type.andThen (W.looks_mroIn kin (has_it a1 a2 (by rw [List.contains_cons, List.contains_cons]; rw [show ESX.exTail.contains (.type "object") = true by decide +kernel]; simp)))
  refine codeAny_call_builtin st.slot.plain st.entry ?_
  refine @W.check_slot (model prog w) _ _ ⟨hp, g, d, t, os⟩ "object.__setattr__" "object" "__setattr__" (.ref x) [.str name tk, v] [] _ st.kind st.split isO (st.args (.ref x) (.str name tk) v) ?_
  have lm : W.Looks (model prog w) hp (mroOf (.ref C)) cd.mro := (W.looks_clsIn kin a1).andThen .now
  have ln : W.Looks (model prog w) hp (storeTaker? none) none := .now
  have lp : refuseLoop (.ref x) "__setattr__" cd.mro = pure () := by
    rw [a2, refuseLoop_ref, refuseLoop_ref]
    exact F.store_Exception.passes _
  have lc : W.Looks (model prog w) hp (classData C) cd := W.looks_clsIn kin a1
  rw [W.osa_eq, refuse_eq]
  refine wpAny_bind (wpAny_bind (at_.type.at (wpAny_bind (lm.at ?_))))
  rw [lp]
  refine wpAny_pure (wpAny_bind (at_.type.at (wpAny_bind ((W.looks_findIn kin a4).at (wpAny_bind (ln.at ?_))))))
  obtain ⟨c1, c2, c3, c4, c5, c6, c7, c8, c9, c10, c11⟩ := cd
  dsimp only at hh
  subst hh
  show wpAny _ _ (storeInOwnDict (.ref x) (.ref C) (.str name tk) name v false) _ _ _
  unfold storeInOwnDict
  unfold ownDictForStores
  repeat (first
    | with_reducible refine HandSPX.store_in_new ?_ ?_
    | with_reducible refine wpAny_loadPart_at ex ?_
    | with_reducible refine lc.at ?_
    | wp_step)
  · exact ⟨_, #[], _, (Heap.get?_update_ne _ _ _ _ apart.symm).trans (Heap.get?_push_at rfl rfl), rfl, fun e z => absurd z (by simp), fun _ => rfl⟩
  · intro h' tk' ns sb
    have e2 : (hp.push { cls := .type "dict", data := .dict #[] }).get? x = some { cls := .ref C, data := .fields fv } := Heap.get?_push_of_some _ ex
    refine fin h' tk' hp.objs.size (fun b o nb eb => ?_) (Nat.le_refl _) apart.symm ?_ ns
    · refine (sb.2 b (Nat.ne_of_lt (Heap.lt_size eb))).trans ?_
      exact (Heap.get?_update_ne _ _ _ _ nb).trans (Heap.get?_push_of_some _ eb)
    · refine (sb.2 x apart).trans ?_
      exact Heap.get?_update_self _ e2 rfl
end
theorem one_len (v : Value) : [v].length ≤ sizeLine := by
  rw [sizeLine_eq]
  exact (by decide : 1 ≤ 16777216)
/-- what the making def leaves of a fresh error at x -/
structure InitEnd (h h' : Heap) (x C dx t1 : Addr) (f : Str) (v : Value) : Prop where
  keep : ∀ b o, b ≠ x → h.get? b = some o → h'.get? b = some o
  obj : h'.get? x = some { cls := .ref C, dict := some dx, data := .fields #[.ref t1, .none, .none, .none, .bool false, .none] }
  dbig : h.objs.size ≤ dx
  dne : dx ≠ x
  ns : h'.Ns1 dx (fun y => if y = f then some v else none)
section
variable {prog : Program} {w : World} {A : Around} {E : Value → Shared → Prop} {R : Result → Shared → Prop} {s : Shared} {K : Frag} {mg mb : Str → Option Value} {C fI LE cc cda : Addr} {S : Src}
theorem sup_init (T : Txt prog K C fI LE cc cda S) (N : S.Ok) {x t0 : Addr} {v : Value} (X : K.In s.heap) (hlim : s.heap.NoLimit) (hG : s.heap.Ns mainGlobals mg) (hB : s.heap.Ns builtinsNs mb) (hb : mb "super" = some (.type "super"))
    (hx : s.heap.get? x = some (excO C t0)) (hnx : K.lookup x = none) (hroom : A.depth < recursionLimit)
    (hq : ∀ h' tk dx t1, InitEnd s.heap h' x C dx t1 S.x v → R (.ok (.ret .none)) { s with heap := h', toks := tk }) :
    codeAny (model prog w) A (.call (.ref fI) ⟨[.ref x, v], []⟩) R s := by
  obtain ⟨qual, oc, od, kV, doc, pm, an, ct, osl, ho, hcd⟩ := T.fn
  obtain ⟨nm, q, Nn, bs, sn, sub, ab, col, dd, k0, k1, k2, k3, k5, hC⟩ := T.cls
  obtain ⟨ccl, cdd, vs, ccs, file, tf, hcode, hvs, hfile⟩ := T.code
  obtain ⟨cl, cld, csl, hcell⟩ := T.cell
  have hcl : clsIn K C = some { name := nm, bases := bs, mro := .ref C :: .ref LE :: ESX.exTail, ns := Nn, qualname := q, hasDict := true, slotNames := sn, subclasses := sub, abstract := ab, collection := col, hasDel := false } := by unfold clsIn; rw [hC] <;> rfl
  have xC : x ≠ C := by
    rintro rfl
    have z := X _ _ hC
    rw [hx] at z
    cases z
  have hmg : mg "super" = none := mg_none_of X hG T.sup
  refine ks_codeAny_call_defAt (fd := S.fd qual cc kV doc pm an cda ct) (body := S.B) (binds := [("self", .ref x), (S.x, v)])
    hroom (X _ _ ho) rfl hlim (codeRec_of X hcd) rfl (BindsTo.of_eq (N.bind _ _ _ _ _ _ _ _ _ _)) ?cell ?loc (fun h1 hns hk1 => ?_)
  case cell =>
    intro y hy
    have hy' : y ∈ [(PySem.Str.ofString "self", NameKind.local), (S.x, .local), (PySem.Str.ofString "__class__", .free), (PySem.Str.ofString "super", .globalImplicit)] := hy
    simp only [List.mem_cons, List.not_mem_nil, or_false] at hy'
    rcases hy' with rfl | rfl | rfl | rfl <;> simp
  case loc =>
    intro y hy
    simp only [List.mem_cons, List.not_mem_nil, or_false] at hy
    rcases hy with rfl | rfl
    · rfl
    · exact N.l1
  have X1 : K.In h1 := X.keeps hk1
  have hx1 := hk1 _ _ hx
  obtain ⟨pl, hev⟩ := N.ev (callEnv (S.fd qual cc kV doc pm an cda ct) s.heap.objs.size fI)
  refine ks_wpAt_execs_cons (ks_wpAt_Expr_any (ks_wpAt_MethodCall (pl := pl) ?_ hev) rfl (N.sw1 _))
  refine ks_wpAt_super_base (fd := S.fd qual cc kV doc pm an cda ct) N.l3 N.l2 (by decide) rfl (X1 _ _ ho) rfl rfl rfl (X1 _ _ hcode) rfl hvs hfile T.top ?_
  refine ks_loadName_global rfl N.l3 (loadGlobal_builtin (hG.keeps hk1) hmg (hB.keeps hk1) hb ⟨rfl, ?_⟩)
  refine wpAny_loadName_free rfl N.l2 rfl ⟨_, X1 _ _ hcell, rfl⟩ ?_
  have m1 : (([("self", Value.ref x), (S.x, v)] : List (Str × Value)).reverse).lookup ("self" : Str) = some (Value.ref x) := by
    show (match ("self" : Str) == S.x with | true => some v | false => _) = _
    rw [N.s2]
    rfl
  have m2 : (([("self", Value.ref x), (S.x, v)] : List (Str × Value)).reverse).lookup S.x = some v := by
    show (match S.x == S.x with | true => some v | false => _) = _
    rw [beq_self_eq_true]
  refine wpAny_loadName_local rfl rfl hns m1 ?_
  refine ks_wpAny_isType_cls (X1 _ _ hC) rfl ⟨rfl, ?_⟩
  refine ks_wpAny_call_super (X1 _ _ hC) rfl hx1 rfl (fun c e => nomatch e) (looks_mroIn X1 T.me) (fun h2 hso k2 => ?_)
  have X2 : K.In h2 := X1.keeps k2
  have hx2 := k2 _ _ hx1
  have hns2 := hns.keeps k2
  have at2 : InstAt h2 x (excO C t0) C none := ⟨hx2, rfl, rfl, trivial⟩
  refine ESX.getMethod_super (l₀ := .ref C :: .ref LE :: ESX.exTail) (l := .ref LE :: ESX.exTail) hso (looks_opaque X2 T.opq) (((looks_clsIn X2 hcl).andThen .now)) (ESX.drop_own _ _) X2 T.along xC (by decide) (at2.type.andThen (looks_subIn X2 T.exE)) ?_
  have hu : (h2.push (ESX.bw x)).get? h2.objs.size = some (ESX.bw x) := Heap.get?_push_at rfl rfl
  have k3 : ∀ b o, h2.get? b = some o → (h2.push (ESX.bw x)).get? b = some o := fun b o e => Heap.get?_push_of_some _ e
  refine ESX.callWith_bound (x := x) (spliced_cons ?_) rfl rfl
  refine Calls.Constant_str (pos := S.q4) (k := 0) (Calls.spliced_nil ⟨hu, ?_⟩)
  refine ESX.call_bw ((X2.keeps k3) _ _ hC) (k3 _ _ hx2) hu (one_len _) (fun h4 t1 k4 hx4 => ?_)
  have kk : ∀ b o, b ≠ x → h1.get? b = some o → h4.get? b = some o := fun b o nb e => k4 b o nb (k3 b o (k2 b o e))
  have X4 : K.In h4 := fun a o e => kk a o (fun z => by rw [z, hnx] at e; cases e) (X1 a o e)
  have hns4 : h4.Ns s.heap.objs.size (fun y => (([("self", Value.ref x), (S.x, v)] : List (Str × Value)).reverse).lookup y) := by
    refine hns.at fun o e => kk _ o ?_ e
    exact Nat.ne_of_gt (Heap.lt_size hx)
  refine ks_wpAt_execs_cons (ks_wpAt_Assign_Attr ?_ (N.sw2 _))
  refine wpAt_of_wpAny (ESX.ldL hns4 m2 ?_ rfl N.l1 N.d)
  refine ESX.ldL hns4 m1 ?_ rfl rfl (by decide)
  refine set_plain X4 (ox := excO C t1) (od := none) ⟨hx4, rfl, rfl, trivial⟩ T.sa ?_
  refine put_new X4 hx4 hcl rfl rfl T.noN (fun h5 tk5 dx k5 dn dne hx5 hn5 => ?_)
  have z : s.heap.objs.size ≤ dx := by
    refine Nat.le_trans (Nat.le_of_lt ?_) dn
    exact hns4.lt
  exact wpAt_of_wpAny (wpAny_execs_nil (hq h5 tk5 dx t1 ⟨fun b o nb e => k5 b o nb (kk b o nb (hk1 b o e)), hx5, z, dne, hn5⟩))
/-- a made error -/
structure Made (h h' : Heap) (e C d : Addr) (f : Str) (v : Value) : Prop where
  keep : ∀ b o, h.get? b = some o → h'.get? b = some o
  new : h.objs.size ≤ e
  obj : ∃ t1 : Addr, h'.get? e = some { cls := .ref C, dict := some d, data := .fields #[.ref t1, .none, .none, .none, .bool false, .none] }
  dbig : h.objs.size ≤ d
  dne : d ≠ e
  ns : h'.Ns1 d (fun y => if y = f then some v else none)
theorem bm_has (LE : Addr) (Y : String) : (Value.ref LE :: ESX.exTail).contains (.type Y) = ESX.exTail.contains (.type Y) := by
  rw [List.contains_cons]
  rfl
theorem sup_made (T : Txt prog K C fI LE cc cda S) (N : S.Ok) {v : Value} (X : K.In s.heap) (hlim : s.heap.NoLimit) (hG : s.heap.Ns mainGlobals mg) (hB : s.heap.Ns builtinsNs mb) (hb : mb "super" = some (.type "super")) (hroom : A.depth + 1 < recursionLimit)
    (hq : ∀ h' tk e d, Made s.heap h' e C d S.x v → R (.ok (.ret (.ref e))) { s with heap := h', toks := tk }) :
    codeAny (model prog w) A (.call (.ref C) ⟨[v], []⟩) R s := by
  obtain ⟨nm, q, Nn, bs, sn, sub, ab, col, dd, k0, k1, k2, k3, k5, hC⟩ := T.cls
  obtain ⟨hp, g, dr, tk, os⟩ := s
  have kp : ∀ b o, hp.get? b = some o → ((hp.push (kdv_tup [v])).push (excO C hp.objs.size)).get? b = some o := fun b o e => Heap.get?_push_of_some _ (Heap.get?_push_of_some _ e)
  have there : ((hp.push (kdv_tup [v])).push (excO C hp.objs.size)).get? (hp.objs.size + 1) = some (excO C hp.objs.size) := by heap_get
  have unk : K.lookup (hp.objs.size + 1) = none := by
    cases e : K.lookup (hp.objs.size + 1) with
    | none => rfl
    | some o =>
      have z : hp.get? (hp.objs.size + 1) = some o := X _ _ e
      exact absurd (Nat.lt_of_succ_lt (Heap.lt_size z)) (Nat.lt_irrefl _)
  refine call_own F.excBase_Exception (bm_has LE) (X _ _ hC) (looks_findIn X T.iC) (fun self => bind_fn X self T.tC) (one_len v) ?_
  refine sup_init (s := ⟨(hp.push (kdv_tup [v])).push (excO C hp.objs.size), g, dr, tk, os⟩) T N (X.keeps kp) (hlim.keeps kp) (hG.keeps kp) (hB.keeps kp) hb there unk ?_ fun h' tk' dx t1 Z => ?_
  · show A.depth + 1 < recursionLimit
    exact hroom
  · have old : ∀ b o, hp.get? b = some o → h'.get? b = some o := fun b o e => Z.keep b o (Nat.ne_of_lt (Nat.lt_succ_of_lt (Heap.lt_size e))) (kp b o e)
    have far : hp.objs.size + 1 + 1 ≤ dx := by
      have y := Z.dbig
      first
        | (simpa only [Heap.size_push] using y)
        | exact y
        | (rw [Heap.size_push, Heap.size_push] at y; exact y)
    exact ⟨rfl, hq h' tk' (hp.objs.size + 1) dx ⟨old, Nat.le_succ _, ⟨t1, Z.obj⟩, Nat.le_trans (Nat.le_trans (Nat.le_succ _) (Nat.le_succ _)) far, Z.dne, Z.ns⟩⟩
end
end SupX
end PySem
namespace L2
open PySem PySem.Spec PyProof.Rows
theorem relO_one {v : V} {v' : Value} (x : Str) (r : RelV v v') (f : Str) : RelO (List.lookup f [(x, v)]) (if f = x then some v' else none) := by
  by_cases hw : f = x
  · subst hw
    rw [if_pos rfl]
    have q : List.lookup f [(f, v)] = some v := by simp [List.lookup]
    rw [q]
    exact r
  · rw [if_neg hw]
    have qw : (f == x) = false := by simpa using hw
    have q2 : List.lookup f [(x, v)] = none := by simp [List.lookup, qw]
    rw [q2]
    trivial
section
variable {X : Cx} {C fI LE cc cda : Addr} {S : PySem.SupX.Src}
/-- E(e): the error's own dict is new -/
def tMkSup (C : Addr) (f : Str) (ta : TA) : St → Hp → XK → Prop := fun σ H Q => ta σ H fun vs H1 => ∃ v, vs = [v] ∧ ∀ d, H1 d = none → Q (.ref C) (some d) (upd H1 d (.xd [(f, v)]))
theorem pmk_sup {a : Expr} {ta : TA} {x : Str} {p pos : Pos} {k : Nat} (T : PySem.SupX.Txt X.prog X.K C fI LE cc cda S) (N : S.Ok) (hm : X.mg x = some (.ref C)) (hr : Room k X.A) (ha : PA X [a] ta) (hg : Gl X x) (hdb : (x == ("__debug__" : Str)) = false := by decide)
    (he : starEach (a :: []) X.env = (false, eval a X.env) :: starEach [] X.env := by rfl) (hpl : (backTo pos (starEach [] X.env)).any (·.1) = false := by rfl) :
    L2N.PMk X (.Call (.Name x p) [a] [] pos) (tMkSup C S.x ta) := by
  intro pins s σ H Q I h
  refine wpAny_Call_Name_kw (ld_glob I hg hm ?_ hdb)
  refine PySem.W.callWith_K (h₀ := X.base) I.ok.mod.kin T.kC (thn (ha.run pos pins s σ H _ I h) fun us s1 hh => ?_) he hpl
  obtain ⟨vs, H1, I1, r1, v, ev, q1⟩ := hh
  subst ev
  refine ⟨I1.kIn, ?_⟩
  cases r1 with
  | cons rv rn =>
    rename_i v' us'
    cases rn
    show wpAny _ _ (call (.ref C) [v']) _ _ _
    have lim := I1.nolimit
    obtain ⟨mb, b1, b2⟩ := I1.mod.blt
    obtain ⟨hp, g, dr, tk, os⟩ := s1
    refine wpAny_call (PySem.SupX.sup_made T N I1.kIn lim (I1.mod.glob.keeps I1.bk) (b1.keeps I1.bk) ((b2 "super" (by decide)).trans (by first | boot_by_name | rfl | kernel_rfl)) (by have := hr.dp; omega) fun h' tk' e d M => ?_)
    show L2N.MkP X pins σ Q (.ref e) ⟨h', g, dr, tk', os⟩
    obtain ⟨t1, hoe⟩ := M.obj
    have hns := M.ns
    obtain ⟨G', g1, g2⟩ := restrict h' fun b => decide (b ≠ e)
    have gk : ∀ b, b ≠ e → G'.get? b = h'.get? b := fun b hb => g1 b (decide_eq_true hb)
    have ge : G'.get? e = none := g2 e (by simp)
    have old : ∀ b o, hp.get? b = some o → G'.get? b = some o := fun b o q => (gk b (Nat.ne_of_lt (Nat.lt_of_lt_of_le (Heap.lt_size q) M.new))).trans (M.keep b o q)
    have ob : ObjOk X.prog X.w (upd H1 d (.xd [(S.x, v)])) G' d (.xd [(S.x, v)]) :=
      ⟨_, hns.at (fun o q => (gk d M.dne).trans q), fun f => relO_one S.x rv f⟩
    have J : Inv X pins σ (upd H1 d (.xd [(S.x, v)])) ⟨G', g, dr, tk', os⟩ := I1.laid (t' := tk') old M.dbig ob
    refine ⟨e, _, _, ⟨G', g, dr, tk', os⟩, _, .ref C, some d, rfl, J, fun b o q => ?_, ge, hoe, ⟨rfl, rfl, fun vs z => by cases z; rfl⟩, rfl, rfl, ?_, rfl, I1.bare, raises_own T.exC T.tyC, q1 d (I1.hok.fresh M.dbig)⟩
    · by_cases hb : b = e
      · have q' : G'.get? b = some o := q
        rw [hb, ge] at q'; cases q'
      · exact (gk b hb).symm.trans q
    · rw [upd_ne (Ne.symm M.dne)]
      exact I1.hok.fresh M.new
/-- raise E(e) -/
def tRaiseSup (C : Addr) (f : Str) (W : WX) (ta : TA) : TS := fun _ σ H => tMkSup C f ta σ H fun cls d H' => W cls d σ H'
theorem ps_raiseSup {a : Expr} {ta : TA} {W : WX} {x : Str} {p pos pos2 : Pos} {k : Nat} (hc : X.calm = true) (T : PySem.SupX.Txt X.prog X.K C fI LE cc cda S) (N : S.Ok) (hm : X.mg x = some (.ref C)) (hr : Room k X.A) (tk : L2N.Takes X W) (ha : PA X [a] ta) (hg : Gl X x) (hdb : (x == ("__debug__" : Str)) = false := by decide)
    (he : starEach (a :: []) X.env = (false, eval a X.env) :: starEach [] X.env := by rfl) (hpl : (backTo pos (starEach [] X.env)).any (·.1) = false := by rfl) :
    PS X (.Raise (some (.Call (.Name x p) [a] [] pos)) none pos2) (tRaiseSup C S.x W ta) := L2N.ps_raise hc tk (pmk_sup T N hm hr ha hg hdb he hpl)
/-- what the class D must say, so that isinstance asks its instances rightly -/
structure ExcA (K : PySem.W.Frag) (D : Addr) : Prop where
  hc : (PySem.W.clsIn K D).isSome = true
  hg : PySem.W.findIn K (.ref D) "__getattribute__" = some (some (.builtin "BaseException.__getattribute__"))
  hk : PySem.W.findIn K (.ref D) "__getattr__" = some none
  hs : PySem.W.subIn K (.ref D) (.type "BaseException") = some true
  ha : PySem.W.findIn K (.ref D) "__class__" = some (some (.builtin "object.__class__"))
  hn : PySem.W.specialIn K (.builtin "object.__class__") "__get__" = some (some (.builtin "getset_descriptor.__get__"))
  ht : PySem.W.takesIn K (.builtin "object.__class__") = some true
  hm : PySem.W.mroIn K D (.type "object") = some true
/-- isinstance(e, c), e the error that the suite holds, its dict at d -/
def rIsF (K : PySem.W.Frag) (D a d : Addr) : List V → Hp → VK → Prop := fun xs H Q => ∃ (c : V) (cv : Value) (b : Bool) (fs : List (Str × V)), xs = [.ref a, c] ∧ (∀ u, RelV c u → u = cv) ∧ H d = some (.xd fs) ∧ PySem.W.kitOne K (.ref D) cv = some b ∧ Q (.bl b) H
theorem call_isF {a D d : Addr} {oe : Obj} {pn : List (Addr × Obj)} (C : ExcA X.K D) (hz : Zc (.ref D) (some d) oe) (hf : ∃ vs, oe.data = .fields vs) : CallR (X.suite a ((a, oe) :: pn)) (.builtin "isinstance") (rIsF X.K D a d) := by
  intro pins s σ H xs us Q I r h
  obtain ⟨c, cv, b, fs, rfl, hcv, hd, e, q⟩ := h
  obtain ⟨u1, u2, rfl, r1, r2⟩ := vals2 r
  cases r1
  have ec := hcv _ r2
  subst ec
  obtain ⟨hget, _⟩ := I.pin (a, oe) (List.mem_append.mpr (.inl List.mem_cons_self))
  obtain ⟨vs, hv⟩ := hf
  obtain ⟨mA, ⟨od, es, ep, hod, hrest⟩, hr⟩ := (show ObjOk X.prog X.w H s.heap d (.xd fs) from I.hok d _ hd)
  have J : PySem.W.InstAt s.heap a oe D (some od) := ⟨hget, hz.1, by unfold PySem.W.notCls; rw [hv] <;> rfl, by rw [hz.2]; exact hod⟩
  exact PySem.W.kia_one (PySem.W.kitx_exc C.hc C.hg C.hk C.hs C.ha C.hn C.ht C.hm) I.kIn J e (fun z => nomatch z) fun tk => ⟨.bl b, H, I.kept (t' := tk) fun _ _ z => z, rfl, q⟩
end
end L2
namespace L2N
open PySem PySem.Spec PyProof.Rows L2
theorem takes0 {X : Cx} : L2N.Takes X (fun _ _ _ _ => False) := fun _ _ x => by
  obtain ⟨_, _, _, _, _, _, _, _, _, _, _, _, _, _, _, _, z⟩ := x
  exact z.elim
theorem passE0 {X : Cx} : Passes (L2N.CX X.prog X.w) X E0 := fun _ _ _ _ _ _ _ h => by
  obtain ⟨_, _, _, _, _, _, _, _, _, _, _, _, z⟩ := h
  exact z.elim
end L2N

/-! Rules -/
/-! Further rules over the layer: calls with keywords alone, methods with keywords; what evaluates to what, for fields, dicts, lengths, comprehensions over tuples and texts. -/
namespace Lw
open PySem PySem.Spec PyProof.Rows L2 Evl
/-! ### calls with keywords -/
section
variable {X : Cx} {CX : CXT} {k n : Nat} {f C : Addr} {fd : FuncData} {ps ks : List Str} {sp : Sp} {E : XK} {x m : Str} {p apos pos : Pos} {e o : Expr} {es : List Expr} {kws : List Keyword} {ta : TE} {t tk : TA} {g : List Value → List Value → List Value} {gV : List V → List V → List V}
/-- f(k = v, ..) -/
theorem pe_callKw0 (F : FnOk X.prog X.w X.K X.mg X.base CX k f fd ps sp) (hr : Room k X.A) (hg : Gl X x) (hm : X.mg x = some (.ref f)) (hk : PySem.W.keepIn X.K (.ref f) = true) (hb : KBn X.K fd ps 0 ks g gV) (hx : Passes CX X E)
    (hkw : PK X kws tk) (hall : (backToKw pos (keywordEach kws X.env)).all (·.1.isSome) = true := by rfl) (hks : (backToKw pos (keywordEach kws X.env)).filterMap (·.1) = ks := by rfl)
    (hdb : (x == ("__debug__" : Str)) = false := by decide) (hpl : ((backTo pos (starEach [] X.env)).any (·.1) || (backToKw pos (keywordEach kws X.env)).any (·.1.isNone)) = false := by rfl) :
    PE X (.Call (.Name x p) [] kws pos) (tCallN 0 ks.length sp gV E tNil tk) := by
  refine ⟨fun pins s σ H Q I h => ?_⟩
  refine wpAny_Call_Name_kw (ld_glob I hg hm ?_ hdb)
  refine PySem.W.callWith_KW0 (h₀ := X.base) I.ok.mod.kin hk hall (thn (hkw.run pos pins s σ H _ I h) fun ws s2 ⟨zs, H2, I2, rz, l1, l2, q2⟩ => ⟨I2.kIn, ?_⟩) hpl
  rw [hks]
  exact run_fnN F hr hb hx I2 .nil rz l1 l2 q2
def tMethN (C : Addr) (m : Str) (n l : Nat) (sp : Sp) (gV : List V → List V → List V) (E : XK) (ta : TE) (t tk : TA) : TE := fun σ H Q => ta σ H fun x H1 => ∃ a dx fs, x = .ref a ∧ H1 a = some (.ins C dx fs) ∧ fs.lookup m = none ∧
  t σ H1 fun vs H2 => tk σ H2 fun zs H3 => vs.length = n ∧ zs.length = l ∧ sp (gV (x :: vs) zs) H3 Q E
/-- o.m(e, .., k = v, ..) -/
theorem pe_methKw {pl : Sem Bool} (he : PE X o ta) (c : Cls X.K C) (hm : Meth X.K C m f) (F : FnOk X.prog X.w X.K X.mg X.base CX k f fd ps sp) (hr : Room k X.A) (hb : KBn X.K fd ps (n + 1) ks g gV) (hx : Passes CX X E) (ha : PA X (e :: es) t)
    (hkw : PK X kws tk) (hall : (backToKw pos (keywordEach kws X.env)).all (·.1.isSome) = true := by rfl) (hks : (backToKw pos (keywordEach kws X.env)).filterMap (·.1) = ks := by rfl)
    (hst : starEach (e :: es) X.env = (false, eval e X.env) :: starEach es X.env := by rfl) (hpl : ((backTo pos (starEach (e :: es) X.env)).any (·.1) || (backToKw pos (keywordEach kws X.env)).any (·.1.isNone)) = false := by rfl)
    (ht : eval (.Call (.Attribute o m apos) (e :: es) kws pos) X.env = (do
      let ov ← eval o X.env
      standAt apos.atName
      let (f, first) ← holding [ov] (getMethod ov m pl)
      callWith pos f first (backTo pos (starEach (e :: es) X.env)) (backToKw pos (keywordEach kws X.env))) := by rfl) :
    PE X (.Call (.Attribute o m apos) (e :: es) kws pos) (tMethN C m n ks.length sp gV E ta t tk) := by
  refine ⟨fun pins s σ H Q I h => ?_⟩
  refine PySem.W.methodCall_KW (pl := pl) (thn (he.run pins s σ H _ I h) fun u s1 ⟨x, H1, I1, rx, a, dx, fs, ex, ea, l, q⟩ => ?_) ht
  subst ex
  obtain rfl : u = Value.ref a := rx
  refine getmeth_ok I1 ea c hm l ?_
  refine PySem.W.callWith_KW (first := [.ref a]) (h₀ := X.base) I1.ok.mod.kin hm.kp hall (thn (ha.run pos pins s1 σ H1 _ I1 q) fun us s2 ⟨vs, H2, I2, r, q2⟩ => ?_) hpl hst
  refine thn (hkw.run pos pins s2 σ H2 _ I2 q2) fun ws s3 ⟨zs, H3, I3, rz, l1, l2, q3⟩ => ⟨I3.kIn, ?_⟩
  rw [hks]
  exact run_fnN (us := .ref a :: us) (vs := .ref a :: vs) F hr hb hx I3 (.cons rfl r) rz (congrArg Nat.succ l1) l2 q3
/-- o.m(k = v, ..) -/
theorem pe_methKw0 {pl : Sem Bool} (he : PE X o ta) (c : Cls X.K C) (hm : Meth X.K C m f) (F : FnOk X.prog X.w X.K X.mg X.base CX k f fd ps sp) (hr : Room k X.A) (hb : KBn X.K fd ps 1 ks g gV) (hx : Passes CX X E)
    (hkw : PK X kws tk) (hall : (backToKw pos (keywordEach kws X.env)).all (·.1.isSome) = true := by rfl) (hks : (backToKw pos (keywordEach kws X.env)).filterMap (·.1) = ks := by rfl)
    (hpl : ((backTo pos (starEach [] X.env)).any (·.1) || (backToKw pos (keywordEach kws X.env)).any (·.1.isNone)) = false := by rfl)
    (ht : eval (.Call (.Attribute o m apos) [] kws pos) X.env = (do
      let ov ← eval o X.env
      standAt apos.atName
      let (f, first) ← holding [ov] (getMethod ov m pl)
      callWith pos f first (backTo pos (starEach [] X.env)) (backToKw pos (keywordEach kws X.env))) := by rfl) :
    PE X (.Call (.Attribute o m apos) [] kws pos) (tMethN C m 0 ks.length sp gV E ta tNil tk) := by
  refine ⟨fun pins s σ H Q I h => ?_⟩
  refine PySem.W.methodCall_KW (pl := pl) (thn (he.run pins s σ H _ I h) fun u s1 ⟨x, H1, I1, rx, a, dx, fs, ex, ea, l, q⟩ => ?_) ht
  subst ex
  obtain rfl : u = Value.ref a := rx
  refine getmeth_ok I1 ea c hm l ?_
  refine PySem.W.callWith_KW0 (first := [.ref a]) (h₀ := X.base) I1.ok.mod.kin hm.kp hall (thn (hkw.run pos pins s1 σ H1 _ I1 q) fun ws s3 ⟨zs, H3, I3, rz, l1, l2, q3⟩ => ⟨I3.kIn, ?_⟩) hpl
  rw [hks]
  exact run_fnN (us := [.ref a]) (vs := [.ref a]) F hr hb hx I3 (.cons rfl .nil) rz (congrArg Nat.succ l1) l2 q3
/-- how such a call binds, no defaults -/
theorem kbn_of {K : PySem.W.Frag} {xn qual : Str} {params : Arguments} {body : List Stmt} {scope : Scope} {kv : List (Str × V)} {fd : FuncData} {f : Addr} {ps ks : List Str} (F : FunD K xn qual params body scope [] kv f fd) (n : Nat) (g : {α : Type} → List α → List α → List α)
    (hrel : ∀ {vs zs : List V} {us ws : List Value}, Vals vs us → Vals zs ws → Vals (g vs zs) (g us ws))
    (h : ∀ (kV doc pm : Value) (an : Option Addr) (cdv ct : Value) (us ws : List Value), us.length = n → ws.length = ks.length → bindArgs (PySem.W.fnOf xn qual params body scope .none kV doc pm an cdv ct) ⟨us, ks.zip ws⟩ = pure (ps.zip (g us ws))) :
    KBn K fd ps n ks (fun us ws => g us ws) (fun vs zs => g vs zs) := by
  obtain ⟨oc, od, dV, kV, doc, pm, an, cdv, ct, osl, rfl, lk, hcd, hD, hK⟩ := F.ex
  rcases hD with ⟨_, rfl⟩ | ⟨e, _⟩
  · exact ⟨fun s us ws X l1 l2 => .of_eq (h kV doc pm an cdv ct us ws l1 l2), fun r1 r2 => hrel r1 r2⟩
  · exact absurd rfl e
end
/-! ### what evaluates to what -/
abbrev Same' := @Same
theorem same_t {K : PySem.W.Frag} {H H' : Hp} {a : Addr} {xs : List V} (e : Same H H') (h : SqT K H a xs) : SqT K H' a xs := ex_t e h
section
variable {K : PySem.W.Frag} {σ : L2.St} {H H' : Hp} {ta tb te ty td : TE} {t u : TT} {x y z v : V} {r : R2} {a C dx : Addr} {fs : List (Str × V)} {f : Str}
theorem ev_fld (h : Ev ta σ H (.ref a)) (ho : H a = some (.ins C dx fs)) (hc : Cls K C) (hn : NoAttr K C f) (hl : fs.lookup f = some v) : Ev (tFld K ta f) σ H v := fun H1 e Q q =>
  h H1 e _ fun H2 e2 => ⟨a, C, dx, fs, v, rfl, e2 _ _ (e _ _ ho), hc, hn, hl, q H2 e2⟩
/-- d["k"] -/
theorem ev_dk {kvs : List (Key × V)} {k : Str} (h : Ev td σ H (.ref a)) (ho : H a = some (.dK kvs)) (hv : valV kvs (.inr k) = some v) : Ev (tDGet td (tC (.str k))) σ H v := fun H1 e Q q =>
  h H1 e _ fun H2 e2 => ⟨a, v, rfl, (by rw [← hv]; exact DGet.k (k := .inr k) (e2 _ _ (e _ _ ho))), q H2 e2⟩
theorem ev_dkv {kvs : List (Key × V)} {k : Key} (h : Ev td σ H (.ref a)) (hy : Ev ty σ H (kV k)) (ho : H a = some (.dK kvs)) (hv : valV kvs k = some v) : Ev (tDGet td ty) σ H v := fun H1 e Q q =>
  h H1 e _ fun H2 e2 => hy H2 (e.trans e2) _ fun H3 e3 => ⟨a, v, rfl, (by rw [← hv]; exact DGet.k (e3 _ _ (e2 _ _ (e _ _ ho)))), q H3 (e2.trans e3)⟩
theorem ev_isN (h : Ev ta σ H x) : Ev (tIsN ta) σ H (.bl (decide (x = .non))) := fun H1 e Q q => h H1 e _ fun H2 e2 => q H2 e2
theorem ev_notN (h : Ev ta σ H x) : Ev (tNotN ta) σ H (.bl (!decide (x = .non))) := fun H1 e Q q => h H1 e _ fun H2 e2 => q H2 e2
theorem lenV_mono (e : Ex H H') {n : Nat} (h : LenV K x H n) : LenV K x H' n := by
  cases x with
  | ref p =>
    rcases h with ⟨xs, h, q⟩ | ⟨xs, h, q⟩
    · exact .inl ⟨xs, ex_l e h, q⟩
    · exact .inr ⟨xs, ex_t e h, q⟩
  | _ => exact h
/-- len(x) -/
theorem ev_lenV {n : Nat} (h : Ev ta σ H x) (hl : LenV K x H n) : Ev (tCB (fun xs H Q => ∃ x n, xs = [x] ∧ LenV K x H n ∧ Q (.int n) H) (tCons ta tNil)) σ H (.int n) := fun H1 e Q q =>
  h H1 e _ fun H2 e2 => ⟨x, n, rfl, lenV_mono (e.trans e2) hl, q H2 e2⟩
theorem lenL {p : Addr} {xs : List V} (h : SqL K H p xs) : LenV K (.ref p) H xs.length := .inl ⟨xs, h, rfl⟩
theorem lenT {p : Addr} {xs : List V} (h : SqT K H p xs) : LenV K (.ref p) H xs.length := .inr ⟨xs, h, rfl⟩
theorem lenS {y : Str} (h : y.length ≤ 100000) : LenV K (.str y) H y.length := ⟨sz_of h, rfl⟩
/-- int(n) -/
theorem ev_int {i : Int} (h : Ev ta σ H (.int i)) : Ev (tCB (fun xs H Q => (∃ i, xs = [.int i] ∧ Q (.int i) H) ∨ ∃ k, xs = [.bl k] ∧ Q (.int (if k then 1 else 0)) H) (tCons ta tNil)) σ H (.int i) := fun H1 e Q q =>
  h H1 e _ fun H2 e2 => .inl ⟨i, rfl, q H2 e2⟩
theorem ev_intB {b : Bool} (h : Ev ta σ H (.bl b)) : Ev (tCB (fun xs H Q => (∃ i, xs = [.int i] ∧ Q (.int i) H) ∨ ∃ k, xs = [.bl k] ∧ Q (.int (if k then 1 else 0)) H) (tCons ta tNil)) σ H (.int (if b then 1 else 0)) := fun H1 e Q q =>
  h H1 e _ fun H2 e2 => .inr ⟨b, rfl, q H2 e2⟩
theorem tyX_mono (e : Ex H H') {ct : Value} (h : TyX K H x ct) : TyX K H' x ct := by
  cases h with
  | base h =>
    cases h with
    | non => exact .base .non
    | bl b => exact .base (.bl b)
    | int i => exact .base (.int i)
    | str s => exact .base (.str s)
    | flt s => exact .base (.flt s)
    | lst q => exact .base (.lst (e _ _ q))
    | frz q => exact .base (.frz (e _ _ q))
    | tup q => exact .base (.tup (e _ _ q))
    | dK q => exact .base (.dK (e _ _ q))
    | dT q => exact .base (.dT (e _ _ q))
    | ins q c h1 h2 h3 h4 => exact .base (.ins (e _ _ q) c h1 h2 h3 h4)
  | byt b => exact .byt b
  | set q => exact .set (e _ _ q)
  | kList q c => exact .kList q c
  | kTuple q c => exact .kTuple q c
  | kDict q c => exact .kDict q c
  | fTuple q => exact .fTuple (e _ _ q)
  | fDict q => exact .fDict (e _ _ q)
/-- isinstance(x, T), T a built-in type -/
theorem ev_isi {n : String} {ct : Value} {b : Bool} (h : Ev ta σ H x) (hy : Ev tb σ H (.ty n)) (ht : TyX K H x ct) (hk : PySem.W.kitOne K ct (.type n) = some b) : Ev (tCB (rIsi K) (tCons ta (tCons tb tNil))) σ H (.bl b) := fun H1 e Q q =>
  h H1 e _ fun H2 e2 => hy H2 (e.trans e2) _ fun H3 e3 => ⟨x, .ty n, ct, .type n, b, rfl, .ty n, tyX_mono ((e.trans e2).trans e3) ht, hk, q H3 (e2.trans e3)⟩
/-- a comprehension over a tuple -/
theorem el_lcT {xs : List V} {tl : TE} {j : Nat} {vs : List Nat} (f : Nat → Bool) (v : Nat → V) (h : Ev tl σ H (.ref a)) (hx : SqT K H a xs) (hz : xs.length ≤ 40000) (hw : ∀ x, wipe ((wipe σ vs).set j (some x)) vs = wipe σ vs)
    (ht : ∀ (i : Nat) (x : V) H1, Ex H H1 → xs[i]? = some x → EvT t ((wipe σ vs).set j (some x)) H1 (f i)) (he : ∀ (i : Nat) (x : V) H1, Ex H H1 → xs[i]? = some x → f i = true → Ev te ((wipe σ vs).set j (some x)) H1 (v i)) :
    EvL (tLc (iTup K tl) (gName j) t te vs) σ H (given xs.length f v) := fun H0 e Q q => h H0 e _ fun H1 e1 => ⟨a, rfl, ⟨xs, ex_t (e.trans e1) hx⟩, fun Dl hD =>
  lc_tup (xs := xs) (Cw H1 f v Dl) ⟨hD, Ex.new hD, upd_same⟩ (fun i H' _ p => ex_t ((e.trans e1).trans p.2.1) hx)
    (fun i x H' hi p => ⟨hw x, cw_turn p (by have := (List.getElem?_eq_some_iff.mp hi).1; omega) (ht i x H1 (e.trans e1) hi) (fun hf => he i x H1 (e.trans e1) hi hf)⟩)
    (fun H' p => q Dl H' (fresh_back e1 p.1) (e1.trans p.2.1) p.2.2)⟩
/-- a comprehension over a text -/
theorem el_lcS {s : Str} {tl : TE} {j : Nat} {vs : List Nat} (f : Nat → Bool) (v : Nat → V) (h : Ev tl σ H (.str s)) (hz : s.cps.size ≤ 40000) (hw : ∀ x, wipe ((wipe σ vs).set j (some x)) vs = wipe σ vs)
    (ht : ∀ (i : Nat) (c : Nat) H1, Ex H H1 → s.cps[i]? = some c → EvT t ((wipe σ vs).set j (some (.str ⟨#[c]⟩))) H1 (f i))
    (he : ∀ (i : Nat) (c : Nat) H1, Ex H H1 → s.cps[i]? = some c → f i = true → Ev te ((wipe σ vs).set j (some (.str ⟨#[c]⟩))) H1 (v i)) :
    EvL (tLc (iStr tl) (gName j) t te vs) σ H (given s.cps.size f v) := fun H0 e Q q => h H0 e _ fun H1 e1 => ⟨s, rfl, fun Dl hD =>
  lc_it (walk_str (z := s)) (Cw H1 f v Dl) ⟨hD, Ex.new hD, upd_same⟩ (fun _ _ _ _ => trivial)
    (fun i x H' H'' hi p hy => by
      obtain ⟨rfl, c, hc, rfl⟩ := hy
      exact ⟨hw _, cw_turn p (by omega) (ht i c H1 (e.trans e1) hc) (fun hf => he i c H1 (e.trans e1) hc hf)⟩)
    (fun H' p => q Dl H' (fresh_back e1 p.1) (e1.trans p.2.1) p.2.2)⟩
/-- all([..]) of a new list of truth values -/
theorem ev_all {bs : List Bool} (hr : EvL ta σ H (bs.map V.bl)) {r : List V → Hp → VK → Prop} (hR : ∀ p H1, H1 p = some (.lst (bs.map V.bl)) → RC r [.ref p] H1 (.bl (bs.all id))) : Ev (tCB r (tCons ta tNil)) σ H (.bl (bs.all id)) := fun H1 e Q q =>
  hr H1 e _ fun p H2 _ e2 h2 => hR p H2 h2 H2 (Ex.refl _) Q fun H3 e3 => q H3 (e2.trans e3)
/-- a def that hands back a new tuple -/
def SpU (sp : Sp) (vs : List V) (H : Hp) (xs : List V) : Prop := ∀ H1, Ex H H1 → ∀ Q : VK, (∀ p H2, H1 p = none → Ex H1 H2 → H2 p = some (.tup xs) → Q (.ref p) H2) → ∀ E : XK, sp vs H1 Q E
theorem eu_call {sp : Sp} {dvs vs xs : List V} {E : XK} {t : TA} (h : EvA t σ H vs) (hs : SpU sp (vs ++ dvs) H xs) : EvU (tCall sp dvs E t) σ H xs := fun H1 e Q q =>
  h H1 e _ fun H2 e2 => hs H2 (e.trans e2) Q (fun p H3 hp e3 h3 => q p H3 (fresh_back e2 hp) (e2.trans e3) h3) E
end
end Lw

/-! Bs -/
/-! The text by places, each def's names, what the head gives of them. Printed by gen_bs.py. -/
namespace Lw
open PySem PySem.Spec PyProof.Rows L2 Evl
def top (i : Nat) : Stmt := PySem.Challenge.pw_stillmay_k09_whole_order.main.body.getD i (.Pass ⟨0, 0, 0, 0⟩)
/-- the def at a place, as K holds it -/
def fdOf (K : PySem.W.Frag) (p : Str × Option Str) : FuncData := match K.lookup (He.fAd K p) with
  | some ⟨_, _, .func fd, _⟩ => fd
  | _ => PySem.W.fnOf "" "" { posonlyargs := [], args := [], vararg := none, kwonlyargs := [], kw_defaults := [], kwarg := none, defaults := [] } [] { kind := .function, names := [], isGenerator := false, isCoroutine := false } .none .none .none .none none .none .none
theorem fdOf_eq {K : PySem.W.Frag} {p : Str × Option Str} {x q : Str} {a : Arguments} {b : List Stmt} {s : Scope} {fd : FuncData} (F : FunD K x q a b s [] [] (He.fAd K p) fd) : fdOf K p = fd := by
  obtain ⟨oc, od, dV, kV, doc, pm, an, cdv, ct, osl, rfl, lk, _⟩ := F.ex
  unfold fdOf
  rw [lk]
abbrev s_is_integer : Stmt := top 17
def d_is_integer : He.DefD := ⟨("is_integer", none), "is_integer", "is_integer", defArgs s_is_integer, defBody s_is_integer, defScope s_is_integer, [], []⟩
abbrev a_is_integer (K : PySem.W.Frag) : Addr := He.fAd K ("is_integer", none)
abbrev fd_is_integer (K : PySem.W.Frag) : FuncData := fdOf K ("is_integer", none)
abbrev n_is_integer : List Str := ["value"]
abbrev p_is_integer : List Str := ["value"]
theorem sc_is_integer : FnScope n_is_integer p_is_integer (defScope s_is_integer) := ⟨rfl, rfl, rfl, by decide +kernel, rfl, by decide +kernel, by decide +kernel⟩
abbrev s_is_from_to : Stmt := top 18
def d_is_from_to : He.DefD := ⟨("is_from_to", none), "is_from_to", "is_from_to", defArgs s_is_from_to, defBody s_is_from_to, defScope s_is_from_to, [], []⟩
abbrev a_is_from_to (K : PySem.W.Frag) : Addr := He.fAd K ("is_from_to", none)
abbrev fd_is_from_to (K : PySem.W.Frag) : FuncData := fdOf K ("is_from_to", none)
abbrev n_is_from_to : List Str := ["value", "least", "most"]
abbrev p_is_from_to : List Str := ["value", "least", "most"]
theorem sc_is_from_to : FnScope n_is_from_to p_is_from_to (defScope s_is_from_to) := ⟨rfl, rfl, rfl, by decide +kernel, rfl, by decide +kernel, by decide +kernel⟩
abbrev s_is_sequence : Stmt := top 19
def d_is_sequence : He.DefD := ⟨("is_sequence", none), "is_sequence", "is_sequence", defArgs s_is_sequence, defBody s_is_sequence, defScope s_is_sequence, [], []⟩
abbrev a_is_sequence (K : PySem.W.Frag) : Addr := He.fAd K ("is_sequence", none)
abbrev fd_is_sequence (K : PySem.W.Frag) : FuncData := fdOf K ("is_sequence", none)
abbrev n_is_sequence : List Str := ["value"]
abbrev p_is_sequence : List Str := ["value"]
theorem sc_is_sequence : FnScope n_is_sequence p_is_sequence (defScope s_is_sequence) := ⟨rfl, rfl, rfl, by decide +kernel, rfl, by decide +kernel, by decide +kernel⟩
abbrev s_is_name : Stmt := top 20
def d_is_name : He.DefD := ⟨("is_name", none), "is_name", "is_name", defArgs s_is_name, defBody s_is_name, defScope s_is_name, [], []⟩
abbrev a_is_name (K : PySem.W.Frag) : Addr := He.fAd K ("is_name", none)
abbrev fd_is_name (K : PySem.W.Frag) : FuncData := fdOf K ("is_name", none)
abbrev n_is_name : List Str := ["value", "sign"]
abbrev p_is_name : List Str := ["value"]
theorem sc_is_name : FnScope n_is_name p_is_name (defScope s_is_name) := ⟨rfl, rfl, rfl, by decide +kernel, rfl, by decide +kernel, by decide +kernel⟩
abbrev s_are_unlike : Stmt := top 21
def d_are_unlike : He.DefD := ⟨("are_unlike", none), "are_unlike", "are_unlike", defArgs s_are_unlike, defBody s_are_unlike, defScope s_are_unlike, [], []⟩
abbrev a_are_unlike (K : PySem.W.Frag) : Addr := He.fAd K ("are_unlike", none)
abbrev fd_are_unlike (K : PySem.W.Frag) : FuncData := fdOf K ("are_unlike", none)
abbrev n_are_unlike : List Str := ["words"]
abbrev p_are_unlike : List Str := ["words"]
theorem sc_are_unlike : FnScope n_are_unlike p_are_unlike (defScope s_are_unlike) := ⟨rfl, rfl, rfl, by decide +kernel, rfl, by decide +kernel, by decide +kernel⟩
abbrev s_are_sides : Stmt := top 22
def d_are_sides : He.DefD := ⟨("are_sides", none), "are_sides", "are_sides", defArgs s_are_sides, defBody s_are_sides, defScope s_are_sides, [], []⟩
abbrev a_are_sides (K : PySem.W.Frag) : Addr := He.fAd K ("are_sides", none)
abbrev fd_are_sides (K : PySem.W.Frag) : FuncData := fdOf K ("are_sides", none)
abbrev n_are_sides : List Str := ["value", "one"]
abbrev p_are_sides : List Str := ["value"]
theorem sc_are_sides : FnScope n_are_sides p_are_sides (defScope s_are_sides) := ⟨rfl, rfl, rfl, by decide +kernel, rfl, by decide +kernel, by decide +kernel⟩
abbrev s_is_scheme : Stmt := top 23
def d_is_scheme : He.DefD := ⟨("is_scheme", none), "is_scheme", "is_scheme", defArgs s_is_scheme, defBody s_is_scheme, defScope s_is_scheme, [], []⟩
abbrev a_is_scheme (K : PySem.W.Frag) : Addr := He.fAd K ("is_scheme", none)
abbrev fd_is_scheme (K : PySem.W.Frag) : FuncData := fdOf K ("is_scheme", none)
abbrev n_is_scheme : List Str := ["value", "win", "draw", "loss"]
abbrev p_is_scheme : List Str := ["value"]
theorem sc_is_scheme : FnScope n_is_scheme p_is_scheme (defScope s_is_scheme) := ⟨rfl, rfl, rfl, by decide +kernel, rfl, by decide +kernel, by decide +kernel⟩
abbrev s_are_rules : Stmt := top 24
def d_are_rules : He.DefD := ⟨("are_rules", none), "are_rules", "are_rules", defArgs s_are_rules, defBody s_are_rules, defScope s_are_rules, [], []⟩
abbrev a_are_rules (K : PySem.W.Frag) : Addr := He.fAd K ("are_rules", none)
abbrev fd_are_rules (K : PySem.W.Frag) : FuncData := fdOf K ("are_rules", none)
abbrev n_are_rules : List Str := ["value", "one"]
abbrev p_are_rules : List Str := ["value"]
theorem sc_are_rules : FnScope n_are_rules p_are_rules (defScope s_are_rules) := ⟨rfl, rfl, rfl, by decide +kernel, rfl, by decide +kernel, by decide +kernel⟩
abbrev s_Linit : Stmt := inClass (top 25) 0
def d_Linit : He.DefD := ⟨("League", some "__init__"), "__init__", "League.__init__", defArgs s_Linit, defBody s_Linit, defScope s_Linit, [], []⟩
abbrev a_Linit (K : PySem.W.Frag) : Addr := He.fAd K ("League", some "__init__")
abbrev fd_Linit (K : PySem.W.Frag) : FuncData := fdOf K ("League", some "__init__")
abbrev n_Linit : List Str := ["self", "sides", "scheme", "rules"]
abbrev p_Linit : List Str := ["self", "sides", "scheme", "rules"]
theorem sc_Linit : FnScope n_Linit p_Linit (defScope s_Linit) := ⟨rfl, rfl, rfl, by decide +kernel, rfl, by decide +kernel, by decide +kernel⟩
abbrev s_Lneed_side : Stmt := inClass (top 25) 5
def d_Lneed_side : He.DefD := ⟨("League", some "need_side"), "need_side", "League.need_side", defArgs s_Lneed_side, defBody s_Lneed_side, defScope s_Lneed_side, [], []⟩
abbrev a_Lneed_side (K : PySem.W.Frag) : Addr := He.fAd K ("League", some "need_side")
abbrev fd_Lneed_side (K : PySem.W.Frag) : FuncData := fdOf K ("League", some "need_side")
abbrev n_Lneed_side : List Str := ["self", "side"]
abbrev p_Lneed_side : List Str := ["self", "side"]
theorem sc_Lneed_side : FnScope n_Lneed_side p_Lneed_side (defScope s_Lneed_side) := ⟨rfl, rfl, rfl, by decide +kernel, rfl, by decide +kernel, by decide +kernel⟩
abbrev s_Lneed_game : Stmt := inClass (top 25) 6
def d_Lneed_game : He.DefD := ⟨("League", some "need_game"), "need_game", "League.need_game", defArgs s_Lneed_game, defBody s_Lneed_game, defScope s_Lneed_game, [], []⟩
abbrev a_Lneed_game (K : PySem.W.Frag) : Addr := He.fAd K ("League", some "need_game")
abbrev fd_Lneed_game (K : PySem.W.Frag) : FuncData := fdOf K ("League", some "need_game")
abbrev n_Lneed_game : List Str := ["self", "number", "home", "away", "_"]
abbrev p_Lneed_game : List Str := ["self", "number"]
theorem sc_Lneed_game : FnScope n_Lneed_game p_Lneed_game (defScope s_Lneed_game) := ⟨rfl, rfl, rfl, by decide +kernel, rfl, by decide +kernel, by decide +kernel⟩
abbrev s_Ladd_game : Stmt := inClass (top 25) 7
def d_Ladd_game : He.DefD := ⟨("League", some "add_game"), "add_game", "League.add_game", defArgs s_Ladd_game, defBody s_Ladd_game, defScope s_Ladd_game, [], []⟩
abbrev a_Ladd_game (K : PySem.W.Frag) : Addr := He.fAd K ("League", some "add_game")
abbrev fd_Ladd_game (K : PySem.W.Frag) : FuncData := fdOf K ("League", some "add_game")
abbrev n_Ladd_game : List Str := ["self", "home", "away"]
abbrev p_Ladd_game : List Str := ["self", "home", "away"]
theorem sc_Ladd_game : FnScope n_Ladd_game p_Ladd_game (defScope s_Ladd_game) := ⟨rfl, rfl, rfl, by decide +kernel, rfl, by decide +kernel, by decide +kernel⟩
abbrev s_Lset_state : Stmt := inClass (top 25) 8
def d_Lset_state : He.DefD := ⟨("League", some "set_state"), "set_state", "League.set_state", defArgs s_Lset_state, defBody s_Lset_state, defScope s_Lset_state, [], []⟩
abbrev a_Lset_state (K : PySem.W.Frag) : Addr := He.fAd K ("League", some "set_state")
abbrev fd_Lset_state (K : PySem.W.Frag) : FuncData := fdOf K ("League", some "set_state")
abbrev n_Lset_state : List Str := ["self", "number", "state", "home", "away", "_"]
abbrev p_Lset_state : List Str := ["self", "number", "state"]
theorem sc_Lset_state : FnScope n_Lset_state p_Lset_state (defScope s_Lset_state) := ⟨rfl, rfl, rfl, by decide +kernel, rfl, by decide +kernel, by decide +kernel⟩
abbrev s_Lenter : Stmt := inClass (top 25) 9
def d_Lenter : He.DefD := ⟨("League", some "enter"), "enter", "League.enter", defArgs s_Lenter, defBody s_Lenter, defScope s_Lenter, [], []⟩
abbrev a_Lenter (K : PySem.W.Frag) : Addr := He.fAd K ("League", some "enter")
abbrev fd_Lenter (K : PySem.W.Frag) : FuncData := fdOf K ("League", some "enter")
abbrev n_Lenter : List Str := ["self", "number", "outcome"]
abbrev p_Lenter : List Str := ["self", "number", "outcome"]
theorem sc_Lenter : FnScope n_Lenter p_Lenter (defScope s_Lenter) := ⟨rfl, rfl, rfl, by decide +kernel, rfl, by decide +kernel, by decide +kernel⟩
abbrev s_Lcall_off : Stmt := inClass (top 25) 10
def d_Lcall_off : He.DefD := ⟨("League", some "call_off"), "call_off", "League.call_off", defArgs s_Lcall_off, defBody s_Lcall_off, defScope s_Lcall_off, [], []⟩
abbrev a_Lcall_off (K : PySem.W.Frag) : Addr := He.fAd K ("League", some "call_off")
abbrev fd_Lcall_off (K : PySem.W.Frag) : FuncData := fdOf K ("League", some "call_off")
abbrev n_Lcall_off : List Str := ["self", "number"]
abbrev p_Lcall_off : List Str := ["self", "number"]
theorem sc_Lcall_off : FnScope n_Lcall_off p_Lcall_off (defScope s_Lcall_off) := ⟨rfl, rfl, rfl, by decide +kernel, rfl, by decide +kernel, by decide +kernel⟩
abbrev s_Lreopen : Stmt := inClass (top 25) 11
def d_Lreopen : He.DefD := ⟨("League", some "reopen"), "reopen", "League.reopen", defArgs s_Lreopen, defBody s_Lreopen, defScope s_Lreopen, [], []⟩
abbrev a_Lreopen (K : PySem.W.Frag) : Addr := He.fAd K ("League", some "reopen")
abbrev fd_Lreopen (K : PySem.W.Frag) : FuncData := fdOf K ("League", some "reopen")
abbrev n_Lreopen : List Str := ["self", "number"]
abbrev p_Lreopen : List Str := ["self", "number"]
theorem sc_Lreopen : FnScope n_Lreopen p_Lreopen (defScope s_Lreopen) := ⟨rfl, rfl, rfl, by decide +kernel, rfl, by decide +kernel, by decide +kernel⟩
abbrev s_Lwithdraw : Stmt := inClass (top 25) 12
def d_Lwithdraw : He.DefD := ⟨("League", some "withdraw"), "withdraw", "League.withdraw", defArgs s_Lwithdraw, defBody s_Lwithdraw, defScope s_Lwithdraw, [], []⟩
abbrev a_Lwithdraw (K : PySem.W.Frag) : Addr := He.fAd K ("League", some "withdraw")
abbrev fd_Lwithdraw (K : PySem.W.Frag) : FuncData := fdOf K ("League", some "withdraw")
abbrev n_Lwithdraw : List Str := ["self", "side", "number", "row"]
abbrev p_Lwithdraw : List Str := ["self", "side"]
theorem sc_Lwithdraw : FnScope n_Lwithdraw p_Lwithdraw (defScope s_Lwithdraw) := ⟨rfl, rfl, rfl, by decide +kernel, rfl, by decide +kernel, by decide +kernel⟩
abbrev s_Lcopy : Stmt := inClass (top 25) 16
def d_Lcopy : He.DefD := ⟨("League", some "copy"), "copy", "League.copy", defArgs s_Lcopy, defBody s_Lcopy, defScope s_Lcopy, [], []⟩
abbrev a_Lcopy (K : PySem.W.Frag) : Addr := He.fAd K ("League", some "copy")
abbrev fd_Lcopy (K : PySem.W.Frag) : FuncData := fdOf K ("League", some "copy")
abbrev n_Lcopy : List Str := ["self", "other"]
abbrev p_Lcopy : List Str := ["self"]
theorem sc_Lcopy : FnScope n_Lcopy p_Lcopy (defScope s_Lcopy) := ⟨rfl, rfl, rfl, by decide +kernel, rfl, by decide +kernel, by decide +kernel⟩
abbrev s_outcome_for : Stmt := top 27
def d_outcome_for : He.DefD := ⟨("outcome_for", none), "outcome_for", "outcome_for", defArgs s_outcome_for, defBody s_outcome_for, defScope s_outcome_for, [], []⟩
abbrev a_outcome_for (K : PySem.W.Frag) : Addr := He.fAd K ("outcome_for", none)
abbrev fd_outcome_for (K : PySem.W.Frag) : FuncData := fdOf K ("outcome_for", none)
abbrev n_outcome_for : List Str := ["side", "row", "home", "away", "state"]
abbrev p_outcome_for : List Str := ["side", "row"]
theorem sc_outcome_for : FnScope n_outcome_for p_outcome_for (defScope s_outcome_for) := ⟨rfl, rfl, rfl, by decide +kernel, rfl, by decide +kernel, by decide +kernel⟩
abbrev s_points_in : Stmt := top 28
def d_points_in : He.DefD := ⟨("points_in", none), "points_in", "points_in", defArgs s_points_in, defBody s_points_in, defScope s_points_in, [], []⟩
abbrev a_points_in (K : PySem.W.Frag) : Addr := He.fAd K ("points_in", none)
abbrev fd_points_in (K : PySem.W.Frag) : FuncData := fdOf K ("points_in", none)
abbrev n_points_in : List Str := ["league", "side", "lot", "total", "row", "which"]
abbrev p_points_in : List Str := ["league", "side", "lot"]
theorem sc_points_in : FnScope n_points_in p_points_in (defScope s_points_in) := ⟨rfl, rfl, rfl, by decide +kernel, rfl, by decide +kernel, by decide +kernel⟩
abbrev s_wins_in : Stmt := top 29
def d_wins_in : He.DefD := ⟨("wins_in", none), "wins_in", "wins_in", defArgs s_wins_in, defBody s_wins_in, defScope s_wins_in, [], []⟩
abbrev a_wins_in (K : PySem.W.Frag) : Addr := He.fAd K ("wins_in", none)
abbrev fd_wins_in (K : PySem.W.Frag) : FuncData := fdOf K ("wins_in", none)
abbrev n_wins_in : List Str := ["league", "side", "row"]
abbrev p_wins_in : List Str := ["league", "side"]
theorem sc_wins_in : FnScope n_wins_in p_wins_in (defScope s_wins_in) := ⟨rfl, rfl, rfl, by decide +kernel, rfl, by decide +kernel, by decide +kernel⟩
abbrev s_away_wins_in : Stmt := top 30
def d_away_wins_in : He.DefD := ⟨("away_wins_in", none), "away_wins_in", "away_wins_in", defArgs s_away_wins_in, defBody s_away_wins_in, defScope s_away_wins_in, [], []⟩
abbrev a_away_wins_in (K : PySem.W.Frag) : Addr := He.fAd K ("away_wins_in", none)
abbrev fd_away_wins_in (K : PySem.W.Frag) : FuncData := fdOf K ("away_wins_in", none)
abbrev n_away_wins_in : List Str := ["league", "side", "row"]
abbrev p_away_wins_in : List Str := ["league", "side"]
theorem sc_away_wins_in : FnScope n_away_wins_in p_away_wins_in (defScope s_away_wins_in) := ⟨rfl, rfl, rfl, by decide +kernel, rfl, by decide +kernel, by decide +kernel⟩
abbrev s_number_by : Stmt := top 31
def d_number_by : He.DefD := ⟨("number_by", none), "number_by", "number_by", defArgs s_number_by, defBody s_number_by, defScope s_number_by, [], []⟩
abbrev a_number_by (K : PySem.W.Frag) : Addr := He.fAd K ("number_by", none)
abbrev fd_number_by (K : PySem.W.Frag) : FuncData := fdOf K ("number_by", none)
abbrev n_number_by : List Str := ["league", "rule", "side", "lot"]
abbrev p_number_by : List Str := ["league", "rule", "side", "lot"]
theorem sc_number_by : FnScope n_number_by p_number_by (defScope s_number_by) := ⟨rfl, rfl, rfl, by decide +kernel, rfl, by decide +kernel, by decide +kernel⟩
abbrev s_parted : Stmt := top 32
def d_parted : He.DefD := ⟨("parted", none), "parted", "parted", defArgs s_parted, defBody s_parted, defScope s_parted, [], []⟩
abbrev a_parted (K : PySem.W.Frag) : Addr := He.fAd K ("parted", none)
abbrev fd_parted (K : PySem.W.Frag) : FuncData := fdOf K ("parted", none)
abbrev n_parted : List Str := ["league", "lot", "at", "rule", "numbers", "found", "number", "behind", "side", "part", "one"]
abbrev p_parted : List Str := ["league", "lot", "at"]
theorem sc_parted : FnScope n_parted p_parted (defScope s_parted) := ⟨rfl, rfl, rfl, by decide +kernel, rfl, by decide +kernel, by decide +kernel⟩
abbrev s_lots_of : Stmt := top 33
def d_lots_of : He.DefD := ⟨("lots_of", none), "lots_of", "lots_of", defArgs s_lots_of, defBody s_lots_of, defScope s_lots_of, [], []⟩
abbrev a_lots_of (K : PySem.W.Frag) : Addr := He.fAd K ("lots_of", none)
abbrev fd_lots_of (K : PySem.W.Frag) : FuncData := fdOf K ("lots_of", none)
abbrev n_lots_of : List Str := ["league"]
abbrev p_lots_of : List Str := ["league"]
theorem sc_lots_of : FnScope n_lots_of p_lots_of (defScope s_lots_of) := ⟨rfl, rfl, rfl, by decide +kernel, rfl, by decide +kernel, by decide +kernel⟩
abbrev s_order : Stmt := top 34
def d_order : He.DefD := ⟨("order", none), "order", "order", defArgs s_order, defBody s_order, defScope s_order, [], []⟩
abbrev a_order (K : PySem.W.Frag) : Addr := He.fAd K ("order", none)
abbrev fd_order (K : PySem.W.Frag) : FuncData := fdOf K ("order", none)
abbrev n_order : List Str := ["league", "lot", "side"]
abbrev p_order : List Str := ["league"]
theorem sc_order : FnScope n_order p_order (defScope s_order) := ⟨rfl, rfl, rfl, by decide +kernel, rfl, by decide +kernel, by decide +kernel⟩
abbrev s_law_start : Stmt := top 36
def d_law_start : He.DefD := ⟨("_law_start", none), "_law_start", "_law_start", defArgs s_law_start, defBody s_law_start, defScope s_law_start, [], []⟩
abbrev a_law_start (K : PySem.W.Frag) : Addr := He.fAd K ("_law_start", none)
abbrev fd_law_start (K : PySem.W.Frag) : FuncData := fdOf K ("_law_start", none)
abbrev n_law_start : List Str := ["_law_script", "_law_seed", "_law_cell"]
abbrev p_law_start : List Str := ["_law_script"]
theorem sc_law_start : FnScope n_law_start p_law_start (defScope s_law_start) := ⟨rfl, rfl, rfl, by decide +kernel, rfl, by decide +kernel, by decide +kernel⟩
abbrev s_law_draw : Stmt := top 37
def d_law_draw : He.DefD := ⟨("_law_draw", none), "_law_draw", "_law_draw", defArgs s_law_draw, defBody s_law_draw, defScope s_law_draw, [], []⟩
abbrev a_law_draw (K : PySem.W.Frag) : Addr := He.fAd K ("_law_draw", none)
abbrev fd_law_draw (K : PySem.W.Frag) : FuncData := fdOf K ("_law_draw", none)
abbrev n_law_draw : List Str := ["_law_state", "_law_many", "_law_cell", "_law_number_here", "_law_digit"]
abbrev p_law_draw : List Str := ["_law_state", "_law_many"]
theorem sc_law_draw : FnScope n_law_draw p_law_draw (defScope s_law_draw) := ⟨rfl, rfl, rfl, by decide +kernel, rfl, by decide +kernel, by decide +kernel⟩
abbrev s_law_same : Stmt := top 38
def d_law_same : He.DefD := ⟨("_law_same", none), "_law_same", "_law_same", defArgs s_law_same, defBody s_law_same, defScope s_law_same, [], []⟩
abbrev a_law_same (K : PySem.W.Frag) : Addr := He.fAd K ("_law_same", none)
abbrev fd_law_same (K : PySem.W.Frag) : FuncData := fdOf K ("_law_same", none)
abbrev n_law_same : List Str := ["_law_actual", "_law_due", "_law_k"]
abbrev p_law_same : List Str := ["_law_actual", "_law_due"]
theorem sc_law_same : FnScope n_law_same p_law_same (defScope s_law_same) := ⟨rfl, rfl, rfl, by decide +kernel, rfl, by decide +kernel, by decide +kernel⟩
abbrev s_law_sides : Stmt := top 39
def d_law_sides : He.DefD := ⟨("_law_sides", none), "_law_sides", "_law_sides", defArgs s_law_sides, defBody s_law_sides, defScope s_law_sides, [], []⟩
abbrev a_law_sides (K : PySem.W.Frag) : Addr := He.fAd K ("_law_sides", none)
abbrev fd_law_sides (K : PySem.W.Frag) : FuncData := fdOf K ("_law_sides", none)
abbrev n_law_sides : List Str := ["_law_state", "_law_most", "_law_letters", "_law_sides_here", "_law_k", "_law_long", "_law_number_here", "_law_name", "_law_one_place", "_law_again"]
abbrev p_law_sides : List Str := ["_law_state", "_law_most"]
theorem sc_law_sides : FnScope n_law_sides p_law_sides (defScope s_law_sides) := ⟨rfl, rfl, rfl, by decide +kernel, rfl, by decide +kernel, by decide +kernel⟩
abbrev s_law_scheme : Stmt := top 40
def d_law_scheme : He.DefD := ⟨("_law_scheme", none), "_law_scheme", "_law_scheme", defArgs s_law_scheme, defBody s_law_scheme, defScope s_law_scheme, [], []⟩
abbrev a_law_scheme (K : PySem.W.Frag) : Addr := He.fAd K ("_law_scheme", none)
abbrev fd_law_scheme (K : PySem.W.Frag) : FuncData := fdOf K ("_law_scheme", none)
abbrev n_law_scheme : List Str := ["_law_state", "_law_loss", "_law_win"]
abbrev p_law_scheme : List Str := ["_law_state"]
theorem sc_law_scheme : FnScope n_law_scheme p_law_scheme (defScope s_law_scheme) := ⟨rfl, rfl, rfl, by decide +kernel, rfl, by decide +kernel, by decide +kernel⟩
abbrev s_law_rules : Stmt := top 41
def d_law_rules : He.DefD := ⟨("_law_rules", none), "_law_rules", "_law_rules", defArgs s_law_rules, defBody s_law_rules, defScope s_law_rules, [], []⟩
abbrev a_law_rules (K : PySem.W.Frag) : Addr := He.fAd K ("_law_rules", none)
abbrev fd_law_rules (K : PySem.W.Frag) : FuncData := fdOf K ("_law_rules", none)
abbrev n_law_rules : List Str := ["_law_state", "_law_left", "_law_rules_here", "_law_k"]
abbrev p_law_rules : List Str := ["_law_state"]
theorem sc_law_rules : FnScope n_law_rules p_law_rules (defScope s_law_rules) := ⟨rfl, rfl, rfl, by decide +kernel, rfl, by decide +kernel, by decide +kernel⟩
abbrev s_law_book : Stmt := top 42
def d_law_book : He.DefD := ⟨("_law_book", none), "_law_book", "_law_book", defArgs s_law_book, defBody s_law_book, defScope s_law_book, [], []⟩
abbrev a_law_book (K : PySem.W.Frag) : Addr := He.fAd K ("_law_book", none)
abbrev fd_law_book (K : PySem.W.Frag) : FuncData := fdOf K ("_law_book", none)
abbrev n_law_book : List Str := ["_law_state", "_law_many"]
abbrev p_law_book : List Str := ["_law_state"]
theorem sc_law_book : FnScope n_law_book p_law_book (defScope s_law_book) := ⟨rfl, rfl, rfl, by decide +kernel, rfl, by decide +kernel, by decide +kernel⟩
abbrev s_law_outcomes : Stmt := top 43
def d_law_outcomes : He.DefD := ⟨("_law_outcomes", none), "_law_outcomes", "_law_outcomes", defArgs s_law_outcomes, defBody s_law_outcomes, defScope s_law_outcomes, [], []⟩
abbrev a_law_outcomes (K : PySem.W.Frag) : Addr := He.fAd K ("_law_outcomes", none)
abbrev fd_law_outcomes (K : PySem.W.Frag) : FuncData := fdOf K ("_law_outcomes", none)
abbrev n_law_outcomes : List Str := ["_law_book_here"]
abbrev p_law_outcomes : List Str := ["_law_book_here"]
theorem sc_law_outcomes : FnScope n_law_outcomes p_law_outcomes (defScope s_law_outcomes) := ⟨rfl, rfl, rfl, by decide +kernel, rfl, by decide +kernel, by decide +kernel⟩
abbrev s_law_add : Stmt := top 44
def d_law_add : He.DefD := ⟨("_law_add", none), "_law_add", "_law_add", defArgs s_law_add, defBody s_law_add, defScope s_law_add, [], []⟩
abbrev a_law_add (K : PySem.W.Frag) : Addr := He.fAd K ("_law_add", none)
abbrev fd_law_add (K : PySem.W.Frag) : FuncData := fdOf K ("_law_add", none)
abbrev n_law_add : List Str := ["_law_state", "_law_league", "_law_book_here", "_law_there", "_law_first", "_law_second", "_law_number_here", "_law_side"]
abbrev p_law_add : List Str := ["_law_state", "_law_league", "_law_book_here"]
theorem sc_law_add : FnScope n_law_add p_law_add (defScope s_law_add) := ⟨rfl, rfl, rfl, by decide +kernel, rfl, by decide +kernel, by decide +kernel⟩
abbrev s_law_change : Stmt := top 45
def d_law_change : He.DefD := ⟨("_law_change", none), "_law_change", "_law_change", defArgs s_law_change, defBody s_law_change, defScope s_law_change, [], []⟩
abbrev a_law_change (K : PySem.W.Frag) : Addr := He.fAd K ("_law_change", none)
abbrev fd_law_change (K : PySem.W.Frag) : FuncData := fdOf K ("_law_change", none)
abbrev n_law_change : List Str := ["_law_state", "_law_league", "_law_book_here", "_law_open_ones", "_law_pick", "_law_there", "_law_side", "_law_game", "_law_number_here", "_law_outcomes_here", "_law_outcome", "_law_k"]
abbrev p_law_change : List Str := ["_law_state", "_law_league", "_law_book_here"]
theorem sc_law_change : FnScope n_law_change p_law_change (defScope s_law_change) := ⟨rfl, rfl, rfl, by decide +kernel, rfl, by decide +kernel, by decide +kernel⟩
abbrev s_law_is_free : Stmt := top 46
def d_law_is_free : He.DefD := ⟨("_law_is_free", none), "_law_is_free", "_law_is_free", defArgs s_law_is_free, defBody s_law_is_free, defScope s_law_is_free, [], []⟩
abbrev a_law_is_free (K : PySem.W.Frag) : Addr := He.fAd K ("_law_is_free", none)
abbrev fd_law_is_free (K : PySem.W.Frag) : FuncData := fdOf K ("_law_is_free", none)
abbrev n_law_is_free : List Str := ["_law_book_here", "_law_number_here", "_law_game"]
abbrev p_law_is_free : List Str := ["_law_book_here", "_law_number_here"]
theorem sc_law_is_free : FnScope n_law_is_free p_law_is_free (defScope s_law_is_free) := ⟨rfl, rfl, rfl, by decide +kernel, rfl, by decide +kernel, by decide +kernel⟩
abbrev s_law_fill : Stmt := top 47
def d_law_fill : He.DefD := ⟨("_law_fill", none), "_law_fill", "_law_fill", defArgs s_law_fill, defBody s_law_fill, defScope s_law_fill, [], []⟩
abbrev a_law_fill (K : PySem.W.Frag) : Addr := He.fAd K ("_law_fill", none)
abbrev fd_law_fill (K : PySem.W.Frag) : FuncData := fdOf K ("_law_fill", none)
abbrev n_law_fill : List Str := ["_law_state", "_law_league", "_law_book_here", "_law_many", "_law_k", "_law_outcomes_here", "_law_kind", "_law_outcome"]
abbrev p_law_fill : List Str := ["_law_state", "_law_league", "_law_book_here"]
theorem sc_law_fill : FnScope n_law_fill p_law_fill (defScope s_law_fill) := ⟨rfl, rfl, rfl, by decide +kernel, rfl, by decide +kernel, by decide +kernel⟩
abbrev s_law_results : Stmt := top 48
def d_law_results : He.DefD := ⟨("_law_results", none), "_law_results", "_law_results", defArgs s_law_results, defBody s_law_results, defScope s_law_results, [], []⟩
abbrev a_law_results (K : PySem.W.Frag) : Addr := He.fAd K ("_law_results", none)
abbrev fd_law_results (K : PySem.W.Frag) : FuncData := fdOf K ("_law_results", none)
abbrev n_law_results : List Str := ["_law_book_here", "_law_side", "_law_others", "_law_counts", "_law_game"]
abbrev p_law_results : List Str := ["_law_book_here", "_law_side", "_law_others"]
theorem sc_law_results : FnScope n_law_results p_law_results (defScope s_law_results) := ⟨rfl, rfl, rfl, by decide +kernel, rfl, by decide +kernel, by decide +kernel⟩
abbrev s_law_points : Stmt := top 49
def d_law_points : He.DefD := ⟨("_law_points", none), "_law_points", "_law_points", defArgs s_law_points, defBody s_law_points, defScope s_law_points, [], []⟩
abbrev a_law_points (K : PySem.W.Frag) : Addr := He.fAd K ("_law_points", none)
abbrev fd_law_points (K : PySem.W.Frag) : FuncData := fdOf K ("_law_points", none)
abbrev n_law_points : List Str := ["_law_book_here", "_law_side", "_law_others", "_law_counts", "_law_win", "_law_drawn_one", "_law_loss", "_law_other"]
abbrev p_law_points : List Str := ["_law_book_here", "_law_side", "_law_others"]
theorem sc_law_points : FnScope n_law_points p_law_points (defScope s_law_points) := ⟨rfl, rfl, rfl, by decide +kernel, rfl, by decide +kernel, by decide +kernel⟩
abbrev s_law_number : Stmt := top 50
def d_law_number : He.DefD := ⟨("_law_number", none), "_law_number", "_law_number", defArgs s_law_number, defBody s_law_number, defScope s_law_number, [], []⟩
abbrev a_law_number (K : PySem.W.Frag) : Addr := He.fAd K ("_law_number", none)
abbrev fd_law_number (K : PySem.W.Frag) : FuncData := fdOf K ("_law_number", none)
abbrev n_law_number : List Str := ["_law_book_here", "_law_rule", "_law_side", "_law_lot"]
abbrev p_law_number : List Str := ["_law_book_here", "_law_rule", "_law_side", "_law_lot"]
theorem sc_law_number : FnScope n_law_number p_law_number (defScope s_law_number) := ⟨rfl, rfl, rfl, by decide +kernel, rfl, by decide +kernel, by decide +kernel⟩
abbrev s_law_parted : Stmt := top 51
def d_law_parted : He.DefD := ⟨("_law_parted", none), "_law_parted", "_law_parted", defArgs s_law_parted, defBody s_law_parted, defScope s_law_parted, [], []⟩
abbrev a_law_parted (K : PySem.W.Frag) : Addr := He.fAd K ("_law_parted", none)
abbrev fd_law_parted (K : PySem.W.Frag) : FuncData := fdOf K ("_law_parted", none)
abbrev n_law_parted : List Str := ["_law_book_here", "_law_sides_here", "_law_todo", "_law_found", "_law_turn", "_law_lot", "_law_at", "_law_rule", "_law_numbers", "_law_steps", "_law_behind", "_law_news", "_law_k", "_law_side", "_law_j"]
abbrev p_law_parted : List Str := ["_law_book_here", "_law_sides_here"]
theorem sc_law_parted : FnScope n_law_parted p_law_parted (defScope s_law_parted) := ⟨rfl, rfl, rfl, by decide +kernel, rfl, by decide +kernel, by decide +kernel⟩
abbrev s_law_flat : Stmt := top 52
def d_law_flat : He.DefD := ⟨("_law_flat", none), "_law_flat", "_law_flat", defArgs s_law_flat, defBody s_law_flat, defScope s_law_flat, [], []⟩
abbrev a_law_flat (K : PySem.W.Frag) : Addr := He.fAd K ("_law_flat", none)
abbrev fd_law_flat (K : PySem.W.Frag) : FuncData := fdOf K ("_law_flat", none)
abbrev n_law_flat : List Str := ["_law_lots", "_law_found", "_law_lot"]
abbrev p_law_flat : List Str := ["_law_lots"]
theorem sc_law_flat : FnScope n_law_flat p_law_flat (defScope s_law_flat) := ⟨rfl, rfl, rfl, by decide +kernel, rfl, by decide +kernel, by decide +kernel⟩
abbrev s_law_twin : Stmt := top 53
def d_law_twin : He.DefD := ⟨("_law_twin", none), "_law_twin", "_law_twin", defArgs s_law_twin, defBody s_law_twin, defScope s_law_twin, [], []⟩
abbrev a_law_twin (K : PySem.W.Frag) : Addr := He.fAd K ("_law_twin", none)
abbrev fd_law_twin (K : PySem.W.Frag) : FuncData := fdOf K ("_law_twin", none)
abbrev n_law_twin : List Str := ["_law_book_here", "_law_sides_here", "_law_league", "_law_game", "_law_side", "_law_k", "_law_state"]
abbrev p_law_twin : List Str := ["_law_book_here", "_law_sides_here"]
theorem sc_law_twin : FnScope n_law_twin p_law_twin (defScope s_law_twin) := ⟨rfl, rfl, rfl, by decide +kernel, rfl, by decide +kernel, by decide +kernel⟩
abbrev s_law_right : Stmt := top 54
def d_law_right : He.DefD := ⟨("_law_right", none), "_law_right", "_law_right", defArgs s_law_right, defBody s_law_right, defScope s_law_right, [], []⟩
abbrev a_law_right (K : PySem.W.Frag) : Addr := He.fAd K ("_law_right", none)
abbrev fd_law_right (K : PySem.W.Frag) : FuncData := fdOf K ("_law_right", none)
abbrev n_law_right : List Str := ["_law_state", "_law_league", "_law_book_here", "_law_sides_here", "_law_shift", "_law_turned", "_law_due", "_law_k"]
abbrev p_law_right : List Str := ["_law_state", "_law_league", "_law_book_here"]
theorem sc_law_right : FnScope n_law_right p_law_right (defScope s_law_right) := ⟨rfl, rfl, rfl, by decide +kernel, rfl, by decide +kernel, by decide +kernel⟩
abbrev s_law_refused : Stmt := top 55
def d_law_refused : He.DefD := ⟨("_law_refused", none), "_law_refused", "_law_refused", defArgs s_law_refused, defBody s_law_refused, defScope s_law_refused, [], []⟩
abbrev a_law_refused (K : PySem.W.Frag) : Addr := He.fAd K ("_law_refused", none)
abbrev fd_law_refused (K : PySem.W.Frag) : FuncData := fdOf K ("_law_refused", none)
abbrev n_law_refused : List Str := ["_law_state", "_law_league", "_law_book_here", "_law_many", "_law_number_here", "error"]
abbrev p_law_refused : List Str := ["_law_state", "_law_league", "_law_book_here"]
theorem sc_law_refused : FnScope n_law_refused p_law_refused (defScope s_law_refused) := ⟨rfl, rfl, rfl, by decide +kernel, rfl, by decide +kernel, by decide +kernel⟩
abbrev s_law_value : Stmt := top 56
def d_law_value : He.DefD := ⟨("_law_value", none), "_law_value", "_law_value", defArgs s_law_value, defBody s_law_value, defScope s_law_value, [], []⟩
abbrev a_law_value (K : PySem.W.Frag) : Addr := He.fAd K ("_law_value", none)
abbrev fd_law_value (K : PySem.W.Frag) : FuncData := fdOf K ("_law_value", none)
abbrev n_law_value : List Str := ["_law_league", "_law_book_here", "_law_free", "_law_wrong", "error", "_law_k"]
abbrev p_law_value : List Str := ["_law_league", "_law_book_here"]
theorem sc_law_value : FnScope n_law_value p_law_value (defScope s_law_value) := ⟨rfl, rfl, rfl, by decide +kernel, rfl, by decide +kernel, by decide +kernel⟩
abbrev s_law_round : Stmt := top 57
def d_law_round : He.DefD := ⟨("_law_round", none), "_law_round", "_law_round", defArgs s_law_round, defBody s_law_round, defScope s_law_round, [], []⟩
abbrev a_law_round (K : PySem.W.Frag) : Addr := He.fAd K ("_law_round", none)
abbrev fd_law_round (K : PySem.W.Frag) : FuncData := fdOf K ("_law_round", none)
abbrev n_law_round : List Str := ["_law_league", "_law_book_here", "_law_sides_here", "_law_k", "_law_second", "_law_number_here", "_law_side"]
abbrev p_law_round : List Str := ["_law_league", "_law_book_here"]
theorem sc_law_round : FnScope n_law_round p_law_round (defScope s_law_round) := ⟨rfl, rfl, rfl, by decide +kernel, rfl, by decide +kernel, by decide +kernel⟩
abbrev s_law : Stmt := top 58
def d_law : He.DefD := ⟨("law", none), "law", "law", defArgs s_law, defBody s_law, defScope s_law, [], []⟩
abbrev a_law (K : PySem.W.Frag) : Addr := He.fAd K ("law", none)
abbrev fd_law (K : PySem.W.Frag) : FuncData := fdOf K ("law", none)
abbrev n_law : List Str := ["_law_script", "_law_state", "_law_book_here", "_law_other", "_law_league", "_law_second", "_law_turns", "_law_turn"]
abbrev p_law : List Str := ["_law_script"]
theorem sc_law : FnScope n_law p_law (defScope s_law) := ⟨rfl, rfl, rfl, by decide +kernel, rfl, by decide +kernel, by decide +kernel⟩
def fn : List He.DefD := [d_is_integer, d_is_from_to, d_is_sequence, d_is_name, d_are_unlike, d_are_sides, d_is_scheme, d_are_rules, d_Linit, d_Lneed_side, d_Lneed_game, d_Ladd_game, d_Lset_state, d_Lenter, d_Lcall_off, d_Lreopen, d_Lwithdraw, d_Lcopy, d_outcome_for, d_points_in, d_wins_in, d_away_wins_in, d_number_by, d_parted, d_lots_of, d_order, d_law_start, d_law_draw, d_law_same, d_law_sides, d_law_scheme, d_law_rules, d_law_book, d_law_outcomes, d_law_add, d_law_change, d_law_is_free, d_law_fill, d_law_results, d_law_points, d_law_number, d_law_parted, d_law_flat, d_law_twin, d_law_right, d_law_refused, d_law_value, d_law_round, d_law]
def glos : List Str := (["is_integer", "is_from_to", "is_sequence", "is_name", "are_unlike", "are_sides", "is_scheme", "are_rules", "outcome_for", "points_in", "wins_in", "away_wins_in", "number_by", "parted", "lots_of", "order", "_law_start", "_law_draw", "_law_same", "_law_sides", "_law_scheme", "_law_rules", "_law_book", "_law_outcomes", "_law_add", "_law_change", "_law_is_free", "_law_fill", "_law_results", "_law_points"] : List Str) ++ (["_law_number", "_law_parted", "_law_flat", "_law_twin", "_law_right", "_law_refused", "_law_value", "_law_round", "law", "League", "LeagueError", "BadValue", "BadGame", "BadSide", "TooMany", "RULES", "OUTCOMES"] : List Str)
def frees : List Str := ["isinstance", "len", "all", "set", "tuple", "list", "range", "enumerate", "sorted", "int", "abs", "str", "bool", "min", "super"]
def meths : List Str := ["need_side", "need_game", "add_game", "set_state", "enter", "call_off", "reopen", "withdraw", "copy"]
def flds : List Str := ["names", "worth", "ranks", "rows", "gone"]
def intsC : List (Str × Int) := [("MOST_LETTERS", 8), ("LEAST_SIDES", 2), ("MOST_SIDES", 8), ("MOST_GAMES", 80), ("MOST_POINTS", 100)]
def strsC : List (Str × Str) := [("LETTERS", "abcdefghijklmnopqrstuvwxyz"), ("LEFT", "left"), ("OFF", "off")]
/-- what the head tells -/
structure Tx0 (K : PySem.W.Frag) (mg : Str → Option Value) : Prop where
  sd : ∀ (i : Nat) (d : He.DefD), fn[i]? = some d → ∃ fd, FunD K d.name d.qual d.params d.body d.scope [] [] (He.fAd K d.at_) fd
  gl : ∀ (i : Nat) (x : Str), glos[i]? = some x → mg x = some (.ref (He.ga K x))
  fr : ∀ (i : Nat) (x : Str), frees[i]? = some x → mg x = none
  me : ∀ (i : Nat) (x : Str), meths[i]? = some x → Meth K (He.ga K "League") x (He.ma K (He.ga K "League") x)
  cl : Cls K (He.ga K "League")
  mkL : Mk K (He.ga K "League") (He.ma K (He.ga K "League") "__init__")
  no : ∀ (i : Nat) (x : Str), flds[i]? = some x → NoAttr K (He.ga K "League") x
  kt : ∀ (i : Nat) (x : Str × Int), intsC[i]? = some x → ∃ t, mg x.1 = some (.int x.2 t)
  ks : ∀ (i : Nat) (x : Str × Str), strsC[i]? = some x → ∃ t, mg x.1 = some (.str x.2 t)
  t1 : ∀ H : Hp, SqT K H (He.ga K "RULES") [.str "points", .str "wins", .str "away", .str "among"]
  t2 : ∀ H : Hp, SqT K H (He.ga K "OUTCOMES") [.str "home", .str "draw", .str "away"]
section
variable {K : PySem.W.Frag} {mg : Str → Option Value} (T : Tx0 K mg)
include T
theorem Tx0.f_is_integer : FunD K "is_integer" "is_integer" (defArgs s_is_integer) (defBody s_is_integer) (defScope s_is_integer) [] [] (a_is_integer K) (fd_is_integer K) := by
  obtain ⟨fd, F⟩ := T.sd 0 d_is_integer rfl
  have e := fdOf_eq F
  show FunD K _ _ _ _ _ [] [] (He.fAd K d_is_integer.at_) (fdOf K d_is_integer.at_)
  rw [e]
  exact F
theorem Tx0.b_is_integer : Binds K (fd_is_integer K) p_is_integer [] := T.f_is_integer.bindsN fun _ _ _ _ _ _ us hl => match us, hl with | [_], _ => rfl
theorem Tx0.k_is_integer : PySem.W.keepIn K (.ref (a_is_integer K)) = true := T.f_is_integer.kp
theorem Tx0.m_is_integer : mg "is_integer" = some (.ref (a_is_integer K)) := T.gl 0 _ rfl
theorem Tx0.f_is_from_to : FunD K "is_from_to" "is_from_to" (defArgs s_is_from_to) (defBody s_is_from_to) (defScope s_is_from_to) [] [] (a_is_from_to K) (fd_is_from_to K) := by
  obtain ⟨fd, F⟩ := T.sd 1 d_is_from_to rfl
  have e := fdOf_eq F
  show FunD K _ _ _ _ _ [] [] (He.fAd K d_is_from_to.at_) (fdOf K d_is_from_to.at_)
  rw [e]
  exact F
theorem Tx0.b_is_from_to : Binds K (fd_is_from_to K) p_is_from_to [] := T.f_is_from_to.bindsN fun _ _ _ _ _ _ us hl => match us, hl with | [_, _, _], _ => rfl
theorem Tx0.k_is_from_to : PySem.W.keepIn K (.ref (a_is_from_to K)) = true := T.f_is_from_to.kp
theorem Tx0.m_is_from_to : mg "is_from_to" = some (.ref (a_is_from_to K)) := T.gl 1 _ rfl
theorem Tx0.f_is_sequence : FunD K "is_sequence" "is_sequence" (defArgs s_is_sequence) (defBody s_is_sequence) (defScope s_is_sequence) [] [] (a_is_sequence K) (fd_is_sequence K) := by
  obtain ⟨fd, F⟩ := T.sd 2 d_is_sequence rfl
  have e := fdOf_eq F
  show FunD K _ _ _ _ _ [] [] (He.fAd K d_is_sequence.at_) (fdOf K d_is_sequence.at_)
  rw [e]
  exact F
theorem Tx0.b_is_sequence : Binds K (fd_is_sequence K) p_is_sequence [] := T.f_is_sequence.bindsN fun _ _ _ _ _ _ us hl => match us, hl with | [_], _ => rfl
theorem Tx0.k_is_sequence : PySem.W.keepIn K (.ref (a_is_sequence K)) = true := T.f_is_sequence.kp
theorem Tx0.m_is_sequence : mg "is_sequence" = some (.ref (a_is_sequence K)) := T.gl 2 _ rfl
theorem Tx0.f_is_name : FunD K "is_name" "is_name" (defArgs s_is_name) (defBody s_is_name) (defScope s_is_name) [] [] (a_is_name K) (fd_is_name K) := by
  obtain ⟨fd, F⟩ := T.sd 3 d_is_name rfl
  have e := fdOf_eq F
  show FunD K _ _ _ _ _ [] [] (He.fAd K d_is_name.at_) (fdOf K d_is_name.at_)
  rw [e]
  exact F
theorem Tx0.b_is_name : Binds K (fd_is_name K) p_is_name [] := T.f_is_name.bindsN fun _ _ _ _ _ _ us hl => match us, hl with | [_], _ => rfl
theorem Tx0.k_is_name : PySem.W.keepIn K (.ref (a_is_name K)) = true := T.f_is_name.kp
theorem Tx0.m_is_name : mg "is_name" = some (.ref (a_is_name K)) := T.gl 3 _ rfl
theorem Tx0.f_are_unlike : FunD K "are_unlike" "are_unlike" (defArgs s_are_unlike) (defBody s_are_unlike) (defScope s_are_unlike) [] [] (a_are_unlike K) (fd_are_unlike K) := by
  obtain ⟨fd, F⟩ := T.sd 4 d_are_unlike rfl
  have e := fdOf_eq F
  show FunD K _ _ _ _ _ [] [] (He.fAd K d_are_unlike.at_) (fdOf K d_are_unlike.at_)
  rw [e]
  exact F
theorem Tx0.b_are_unlike : Binds K (fd_are_unlike K) p_are_unlike [] := T.f_are_unlike.bindsN fun _ _ _ _ _ _ us hl => match us, hl with | [_], _ => rfl
theorem Tx0.k_are_unlike : PySem.W.keepIn K (.ref (a_are_unlike K)) = true := T.f_are_unlike.kp
theorem Tx0.m_are_unlike : mg "are_unlike" = some (.ref (a_are_unlike K)) := T.gl 4 _ rfl
theorem Tx0.f_are_sides : FunD K "are_sides" "are_sides" (defArgs s_are_sides) (defBody s_are_sides) (defScope s_are_sides) [] [] (a_are_sides K) (fd_are_sides K) := by
  obtain ⟨fd, F⟩ := T.sd 5 d_are_sides rfl
  have e := fdOf_eq F
  show FunD K _ _ _ _ _ [] [] (He.fAd K d_are_sides.at_) (fdOf K d_are_sides.at_)
  rw [e]
  exact F
theorem Tx0.b_are_sides : Binds K (fd_are_sides K) p_are_sides [] := T.f_are_sides.bindsN fun _ _ _ _ _ _ us hl => match us, hl with | [_], _ => rfl
theorem Tx0.k_are_sides : PySem.W.keepIn K (.ref (a_are_sides K)) = true := T.f_are_sides.kp
theorem Tx0.m_are_sides : mg "are_sides" = some (.ref (a_are_sides K)) := T.gl 5 _ rfl
theorem Tx0.f_is_scheme : FunD K "is_scheme" "is_scheme" (defArgs s_is_scheme) (defBody s_is_scheme) (defScope s_is_scheme) [] [] (a_is_scheme K) (fd_is_scheme K) := by
  obtain ⟨fd, F⟩ := T.sd 6 d_is_scheme rfl
  have e := fdOf_eq F
  show FunD K _ _ _ _ _ [] [] (He.fAd K d_is_scheme.at_) (fdOf K d_is_scheme.at_)
  rw [e]
  exact F
theorem Tx0.b_is_scheme : Binds K (fd_is_scheme K) p_is_scheme [] := T.f_is_scheme.bindsN fun _ _ _ _ _ _ us hl => match us, hl with | [_], _ => rfl
theorem Tx0.k_is_scheme : PySem.W.keepIn K (.ref (a_is_scheme K)) = true := T.f_is_scheme.kp
theorem Tx0.m_is_scheme : mg "is_scheme" = some (.ref (a_is_scheme K)) := T.gl 6 _ rfl
theorem Tx0.f_are_rules : FunD K "are_rules" "are_rules" (defArgs s_are_rules) (defBody s_are_rules) (defScope s_are_rules) [] [] (a_are_rules K) (fd_are_rules K) := by
  obtain ⟨fd, F⟩ := T.sd 7 d_are_rules rfl
  have e := fdOf_eq F
  show FunD K _ _ _ _ _ [] [] (He.fAd K d_are_rules.at_) (fdOf K d_are_rules.at_)
  rw [e]
  exact F
theorem Tx0.b_are_rules : Binds K (fd_are_rules K) p_are_rules [] := T.f_are_rules.bindsN fun _ _ _ _ _ _ us hl => match us, hl with | [_], _ => rfl
theorem Tx0.k_are_rules : PySem.W.keepIn K (.ref (a_are_rules K)) = true := T.f_are_rules.kp
theorem Tx0.m_are_rules : mg "are_rules" = some (.ref (a_are_rules K)) := T.gl 7 _ rfl
theorem Tx0.f_Linit : FunD K "__init__" "League.__init__" (defArgs s_Linit) (defBody s_Linit) (defScope s_Linit) [] [] (a_Linit K) (fd_Linit K) := by
  obtain ⟨fd, F⟩ := T.sd 8 d_Linit rfl
  have e := fdOf_eq F
  show FunD K _ _ _ _ _ [] [] (He.fAd K d_Linit.at_) (fdOf K d_Linit.at_)
  rw [e]
  exact F
theorem Tx0.b_Linit : Binds K (fd_Linit K) p_Linit [] := T.f_Linit.bindsN fun _ _ _ _ _ _ us hl => match us, hl with | [_, _, _, _], _ => rfl
theorem Tx0.k_Linit : PySem.W.keepIn K (.ref (a_Linit K)) = true := T.f_Linit.kp
theorem Tx0.f_Lneed_side : FunD K "need_side" "League.need_side" (defArgs s_Lneed_side) (defBody s_Lneed_side) (defScope s_Lneed_side) [] [] (a_Lneed_side K) (fd_Lneed_side K) := by
  obtain ⟨fd, F⟩ := T.sd 9 d_Lneed_side rfl
  have e := fdOf_eq F
  show FunD K _ _ _ _ _ [] [] (He.fAd K d_Lneed_side.at_) (fdOf K d_Lneed_side.at_)
  rw [e]
  exact F
theorem Tx0.b_Lneed_side : Binds K (fd_Lneed_side K) p_Lneed_side [] := T.f_Lneed_side.bindsN fun _ _ _ _ _ _ us hl => match us, hl with | [_, _], _ => rfl
theorem Tx0.k_Lneed_side : PySem.W.keepIn K (.ref (a_Lneed_side K)) = true := T.f_Lneed_side.kp
theorem Tx0.m_Lneed_side : Meth K (He.ga K "League") "need_side" (a_Lneed_side K) := T.me 0 _ rfl
theorem Tx0.f_Lneed_game : FunD K "need_game" "League.need_game" (defArgs s_Lneed_game) (defBody s_Lneed_game) (defScope s_Lneed_game) [] [] (a_Lneed_game K) (fd_Lneed_game K) := by
  obtain ⟨fd, F⟩ := T.sd 10 d_Lneed_game rfl
  have e := fdOf_eq F
  show FunD K _ _ _ _ _ [] [] (He.fAd K d_Lneed_game.at_) (fdOf K d_Lneed_game.at_)
  rw [e]
  exact F
theorem Tx0.b_Lneed_game : Binds K (fd_Lneed_game K) p_Lneed_game [] := T.f_Lneed_game.bindsN fun _ _ _ _ _ _ us hl => match us, hl with | [_, _], _ => rfl
theorem Tx0.k_Lneed_game : PySem.W.keepIn K (.ref (a_Lneed_game K)) = true := T.f_Lneed_game.kp
theorem Tx0.m_Lneed_game : Meth K (He.ga K "League") "need_game" (a_Lneed_game K) := T.me 1 _ rfl
theorem Tx0.f_Ladd_game : FunD K "add_game" "League.add_game" (defArgs s_Ladd_game) (defBody s_Ladd_game) (defScope s_Ladd_game) [] [] (a_Ladd_game K) (fd_Ladd_game K) := by
  obtain ⟨fd, F⟩ := T.sd 11 d_Ladd_game rfl
  have e := fdOf_eq F
  show FunD K _ _ _ _ _ [] [] (He.fAd K d_Ladd_game.at_) (fdOf K d_Ladd_game.at_)
  rw [e]
  exact F
theorem Tx0.b_Ladd_game : Binds K (fd_Ladd_game K) p_Ladd_game [] := T.f_Ladd_game.bindsN fun _ _ _ _ _ _ us hl => match us, hl with | [_, _, _], _ => rfl
theorem Tx0.k_Ladd_game : PySem.W.keepIn K (.ref (a_Ladd_game K)) = true := T.f_Ladd_game.kp
theorem Tx0.m_Ladd_game : Meth K (He.ga K "League") "add_game" (a_Ladd_game K) := T.me 2 _ rfl
theorem Tx0.f_Lset_state : FunD K "set_state" "League.set_state" (defArgs s_Lset_state) (defBody s_Lset_state) (defScope s_Lset_state) [] [] (a_Lset_state K) (fd_Lset_state K) := by
  obtain ⟨fd, F⟩ := T.sd 12 d_Lset_state rfl
  have e := fdOf_eq F
  show FunD K _ _ _ _ _ [] [] (He.fAd K d_Lset_state.at_) (fdOf K d_Lset_state.at_)
  rw [e]
  exact F
theorem Tx0.b_Lset_state : Binds K (fd_Lset_state K) p_Lset_state [] := T.f_Lset_state.bindsN fun _ _ _ _ _ _ us hl => match us, hl with | [_, _, _], _ => rfl
theorem Tx0.k_Lset_state : PySem.W.keepIn K (.ref (a_Lset_state K)) = true := T.f_Lset_state.kp
theorem Tx0.m_Lset_state : Meth K (He.ga K "League") "set_state" (a_Lset_state K) := T.me 3 _ rfl
theorem Tx0.f_Lenter : FunD K "enter" "League.enter" (defArgs s_Lenter) (defBody s_Lenter) (defScope s_Lenter) [] [] (a_Lenter K) (fd_Lenter K) := by
  obtain ⟨fd, F⟩ := T.sd 13 d_Lenter rfl
  have e := fdOf_eq F
  show FunD K _ _ _ _ _ [] [] (He.fAd K d_Lenter.at_) (fdOf K d_Lenter.at_)
  rw [e]
  exact F
theorem Tx0.b_Lenter : Binds K (fd_Lenter K) p_Lenter [] := T.f_Lenter.bindsN fun _ _ _ _ _ _ us hl => match us, hl with | [_, _, _], _ => rfl
theorem Tx0.k_Lenter : PySem.W.keepIn K (.ref (a_Lenter K)) = true := T.f_Lenter.kp
theorem Tx0.m_Lenter : Meth K (He.ga K "League") "enter" (a_Lenter K) := T.me 4 _ rfl
theorem Tx0.f_Lcall_off : FunD K "call_off" "League.call_off" (defArgs s_Lcall_off) (defBody s_Lcall_off) (defScope s_Lcall_off) [] [] (a_Lcall_off K) (fd_Lcall_off K) := by
  obtain ⟨fd, F⟩ := T.sd 14 d_Lcall_off rfl
  have e := fdOf_eq F
  show FunD K _ _ _ _ _ [] [] (He.fAd K d_Lcall_off.at_) (fdOf K d_Lcall_off.at_)
  rw [e]
  exact F
theorem Tx0.b_Lcall_off : Binds K (fd_Lcall_off K) p_Lcall_off [] := T.f_Lcall_off.bindsN fun _ _ _ _ _ _ us hl => match us, hl with | [_, _], _ => rfl
theorem Tx0.k_Lcall_off : PySem.W.keepIn K (.ref (a_Lcall_off K)) = true := T.f_Lcall_off.kp
theorem Tx0.m_Lcall_off : Meth K (He.ga K "League") "call_off" (a_Lcall_off K) := T.me 5 _ rfl
theorem Tx0.f_Lreopen : FunD K "reopen" "League.reopen" (defArgs s_Lreopen) (defBody s_Lreopen) (defScope s_Lreopen) [] [] (a_Lreopen K) (fd_Lreopen K) := by
  obtain ⟨fd, F⟩ := T.sd 15 d_Lreopen rfl
  have e := fdOf_eq F
  show FunD K _ _ _ _ _ [] [] (He.fAd K d_Lreopen.at_) (fdOf K d_Lreopen.at_)
  rw [e]
  exact F
theorem Tx0.b_Lreopen : Binds K (fd_Lreopen K) p_Lreopen [] := T.f_Lreopen.bindsN fun _ _ _ _ _ _ us hl => match us, hl with | [_, _], _ => rfl
theorem Tx0.k_Lreopen : PySem.W.keepIn K (.ref (a_Lreopen K)) = true := T.f_Lreopen.kp
theorem Tx0.m_Lreopen : Meth K (He.ga K "League") "reopen" (a_Lreopen K) := T.me 6 _ rfl
theorem Tx0.f_Lwithdraw : FunD K "withdraw" "League.withdraw" (defArgs s_Lwithdraw) (defBody s_Lwithdraw) (defScope s_Lwithdraw) [] [] (a_Lwithdraw K) (fd_Lwithdraw K) := by
  obtain ⟨fd, F⟩ := T.sd 16 d_Lwithdraw rfl
  have e := fdOf_eq F
  show FunD K _ _ _ _ _ [] [] (He.fAd K d_Lwithdraw.at_) (fdOf K d_Lwithdraw.at_)
  rw [e]
  exact F
theorem Tx0.b_Lwithdraw : Binds K (fd_Lwithdraw K) p_Lwithdraw [] := T.f_Lwithdraw.bindsN fun _ _ _ _ _ _ us hl => match us, hl with | [_, _], _ => rfl
theorem Tx0.k_Lwithdraw : PySem.W.keepIn K (.ref (a_Lwithdraw K)) = true := T.f_Lwithdraw.kp
theorem Tx0.m_Lwithdraw : Meth K (He.ga K "League") "withdraw" (a_Lwithdraw K) := T.me 7 _ rfl
theorem Tx0.f_Lcopy : FunD K "copy" "League.copy" (defArgs s_Lcopy) (defBody s_Lcopy) (defScope s_Lcopy) [] [] (a_Lcopy K) (fd_Lcopy K) := by
  obtain ⟨fd, F⟩ := T.sd 17 d_Lcopy rfl
  have e := fdOf_eq F
  show FunD K _ _ _ _ _ [] [] (He.fAd K d_Lcopy.at_) (fdOf K d_Lcopy.at_)
  rw [e]
  exact F
theorem Tx0.b_Lcopy : Binds K (fd_Lcopy K) p_Lcopy [] := T.f_Lcopy.bindsN fun _ _ _ _ _ _ us hl => match us, hl with | [_], _ => rfl
theorem Tx0.k_Lcopy : PySem.W.keepIn K (.ref (a_Lcopy K)) = true := T.f_Lcopy.kp
theorem Tx0.m_Lcopy : Meth K (He.ga K "League") "copy" (a_Lcopy K) := T.me 8 _ rfl
theorem Tx0.f_outcome_for : FunD K "outcome_for" "outcome_for" (defArgs s_outcome_for) (defBody s_outcome_for) (defScope s_outcome_for) [] [] (a_outcome_for K) (fd_outcome_for K) := by
  obtain ⟨fd, F⟩ := T.sd 18 d_outcome_for rfl
  have e := fdOf_eq F
  show FunD K _ _ _ _ _ [] [] (He.fAd K d_outcome_for.at_) (fdOf K d_outcome_for.at_)
  rw [e]
  exact F
theorem Tx0.b_outcome_for : Binds K (fd_outcome_for K) p_outcome_for [] := T.f_outcome_for.bindsN fun _ _ _ _ _ _ us hl => match us, hl with | [_, _], _ => rfl
theorem Tx0.k_outcome_for : PySem.W.keepIn K (.ref (a_outcome_for K)) = true := T.f_outcome_for.kp
theorem Tx0.m_outcome_for : mg "outcome_for" = some (.ref (a_outcome_for K)) := T.gl 8 _ rfl
theorem Tx0.f_points_in : FunD K "points_in" "points_in" (defArgs s_points_in) (defBody s_points_in) (defScope s_points_in) [] [] (a_points_in K) (fd_points_in K) := by
  obtain ⟨fd, F⟩ := T.sd 19 d_points_in rfl
  have e := fdOf_eq F
  show FunD K _ _ _ _ _ [] [] (He.fAd K d_points_in.at_) (fdOf K d_points_in.at_)
  rw [e]
  exact F
theorem Tx0.b_points_in : Binds K (fd_points_in K) p_points_in [] := T.f_points_in.bindsN fun _ _ _ _ _ _ us hl => match us, hl with | [_, _, _], _ => rfl
theorem Tx0.k_points_in : PySem.W.keepIn K (.ref (a_points_in K)) = true := T.f_points_in.kp
theorem Tx0.m_points_in : mg "points_in" = some (.ref (a_points_in K)) := T.gl 9 _ rfl
theorem Tx0.f_wins_in : FunD K "wins_in" "wins_in" (defArgs s_wins_in) (defBody s_wins_in) (defScope s_wins_in) [] [] (a_wins_in K) (fd_wins_in K) := by
  obtain ⟨fd, F⟩ := T.sd 20 d_wins_in rfl
  have e := fdOf_eq F
  show FunD K _ _ _ _ _ [] [] (He.fAd K d_wins_in.at_) (fdOf K d_wins_in.at_)
  rw [e]
  exact F
theorem Tx0.b_wins_in : Binds K (fd_wins_in K) p_wins_in [] := T.f_wins_in.bindsN fun _ _ _ _ _ _ us hl => match us, hl with | [_, _], _ => rfl
theorem Tx0.k_wins_in : PySem.W.keepIn K (.ref (a_wins_in K)) = true := T.f_wins_in.kp
theorem Tx0.m_wins_in : mg "wins_in" = some (.ref (a_wins_in K)) := T.gl 10 _ rfl
theorem Tx0.f_away_wins_in : FunD K "away_wins_in" "away_wins_in" (defArgs s_away_wins_in) (defBody s_away_wins_in) (defScope s_away_wins_in) [] [] (a_away_wins_in K) (fd_away_wins_in K) := by
  obtain ⟨fd, F⟩ := T.sd 21 d_away_wins_in rfl
  have e := fdOf_eq F
  show FunD K _ _ _ _ _ [] [] (He.fAd K d_away_wins_in.at_) (fdOf K d_away_wins_in.at_)
  rw [e]
  exact F
theorem Tx0.b_away_wins_in : Binds K (fd_away_wins_in K) p_away_wins_in [] := T.f_away_wins_in.bindsN fun _ _ _ _ _ _ us hl => match us, hl with | [_, _], _ => rfl
theorem Tx0.k_away_wins_in : PySem.W.keepIn K (.ref (a_away_wins_in K)) = true := T.f_away_wins_in.kp
theorem Tx0.m_away_wins_in : mg "away_wins_in" = some (.ref (a_away_wins_in K)) := T.gl 11 _ rfl
theorem Tx0.f_number_by : FunD K "number_by" "number_by" (defArgs s_number_by) (defBody s_number_by) (defScope s_number_by) [] [] (a_number_by K) (fd_number_by K) := by
  obtain ⟨fd, F⟩ := T.sd 22 d_number_by rfl
  have e := fdOf_eq F
  show FunD K _ _ _ _ _ [] [] (He.fAd K d_number_by.at_) (fdOf K d_number_by.at_)
  rw [e]
  exact F
theorem Tx0.b_number_by : Binds K (fd_number_by K) p_number_by [] := T.f_number_by.bindsN fun _ _ _ _ _ _ us hl => match us, hl with | [_, _, _, _], _ => rfl
theorem Tx0.k_number_by : PySem.W.keepIn K (.ref (a_number_by K)) = true := T.f_number_by.kp
theorem Tx0.m_number_by : mg "number_by" = some (.ref (a_number_by K)) := T.gl 12 _ rfl
theorem Tx0.f_parted : FunD K "parted" "parted" (defArgs s_parted) (defBody s_parted) (defScope s_parted) [] [] (a_parted K) (fd_parted K) := by
  obtain ⟨fd, F⟩ := T.sd 23 d_parted rfl
  have e := fdOf_eq F
  show FunD K _ _ _ _ _ [] [] (He.fAd K d_parted.at_) (fdOf K d_parted.at_)
  rw [e]
  exact F
theorem Tx0.b_parted : Binds K (fd_parted K) p_parted [] := T.f_parted.bindsN fun _ _ _ _ _ _ us hl => match us, hl with | [_, _, _], _ => rfl
theorem Tx0.k_parted : PySem.W.keepIn K (.ref (a_parted K)) = true := T.f_parted.kp
theorem Tx0.m_parted : mg "parted" = some (.ref (a_parted K)) := T.gl 13 _ rfl
theorem Tx0.f_lots_of : FunD K "lots_of" "lots_of" (defArgs s_lots_of) (defBody s_lots_of) (defScope s_lots_of) [] [] (a_lots_of K) (fd_lots_of K) := by
  obtain ⟨fd, F⟩ := T.sd 24 d_lots_of rfl
  have e := fdOf_eq F
  show FunD K _ _ _ _ _ [] [] (He.fAd K d_lots_of.at_) (fdOf K d_lots_of.at_)
  rw [e]
  exact F
theorem Tx0.b_lots_of : Binds K (fd_lots_of K) p_lots_of [] := T.f_lots_of.bindsN fun _ _ _ _ _ _ us hl => match us, hl with | [_], _ => rfl
theorem Tx0.k_lots_of : PySem.W.keepIn K (.ref (a_lots_of K)) = true := T.f_lots_of.kp
theorem Tx0.m_lots_of : mg "lots_of" = some (.ref (a_lots_of K)) := T.gl 14 _ rfl
theorem Tx0.f_order : FunD K "order" "order" (defArgs s_order) (defBody s_order) (defScope s_order) [] [] (a_order K) (fd_order K) := by
  obtain ⟨fd, F⟩ := T.sd 25 d_order rfl
  have e := fdOf_eq F
  show FunD K _ _ _ _ _ [] [] (He.fAd K d_order.at_) (fdOf K d_order.at_)
  rw [e]
  exact F
theorem Tx0.b_order : Binds K (fd_order K) p_order [] := T.f_order.bindsN fun _ _ _ _ _ _ us hl => match us, hl with | [_], _ => rfl
theorem Tx0.k_order : PySem.W.keepIn K (.ref (a_order K)) = true := T.f_order.kp
theorem Tx0.m_order : mg "order" = some (.ref (a_order K)) := T.gl 15 _ rfl
theorem Tx0.f_law_start : FunD K "_law_start" "_law_start" (defArgs s_law_start) (defBody s_law_start) (defScope s_law_start) [] [] (a_law_start K) (fd_law_start K) := by
  obtain ⟨fd, F⟩ := T.sd 26 d_law_start rfl
  have e := fdOf_eq F
  show FunD K _ _ _ _ _ [] [] (He.fAd K d_law_start.at_) (fdOf K d_law_start.at_)
  rw [e]
  exact F
theorem Tx0.b_law_start : Binds K (fd_law_start K) p_law_start [] := T.f_law_start.bindsN fun _ _ _ _ _ _ us hl => match us, hl with | [_], _ => rfl
theorem Tx0.k_law_start : PySem.W.keepIn K (.ref (a_law_start K)) = true := T.f_law_start.kp
theorem Tx0.m_law_start : mg "_law_start" = some (.ref (a_law_start K)) := T.gl 16 _ rfl
theorem Tx0.f_law_draw : FunD K "_law_draw" "_law_draw" (defArgs s_law_draw) (defBody s_law_draw) (defScope s_law_draw) [] [] (a_law_draw K) (fd_law_draw K) := by
  obtain ⟨fd, F⟩ := T.sd 27 d_law_draw rfl
  have e := fdOf_eq F
  show FunD K _ _ _ _ _ [] [] (He.fAd K d_law_draw.at_) (fdOf K d_law_draw.at_)
  rw [e]
  exact F
theorem Tx0.b_law_draw : Binds K (fd_law_draw K) p_law_draw [] := T.f_law_draw.bindsN fun _ _ _ _ _ _ us hl => match us, hl with | [_, _], _ => rfl
theorem Tx0.k_law_draw : PySem.W.keepIn K (.ref (a_law_draw K)) = true := T.f_law_draw.kp
theorem Tx0.m_law_draw : mg "_law_draw" = some (.ref (a_law_draw K)) := T.gl 17 _ rfl
theorem Tx0.f_law_same : FunD K "_law_same" "_law_same" (defArgs s_law_same) (defBody s_law_same) (defScope s_law_same) [] [] (a_law_same K) (fd_law_same K) := by
  obtain ⟨fd, F⟩ := T.sd 28 d_law_same rfl
  have e := fdOf_eq F
  show FunD K _ _ _ _ _ [] [] (He.fAd K d_law_same.at_) (fdOf K d_law_same.at_)
  rw [e]
  exact F
theorem Tx0.b_law_same : Binds K (fd_law_same K) p_law_same [] := T.f_law_same.bindsN fun _ _ _ _ _ _ us hl => match us, hl with | [_, _], _ => rfl
theorem Tx0.k_law_same : PySem.W.keepIn K (.ref (a_law_same K)) = true := T.f_law_same.kp
theorem Tx0.m_law_same : mg "_law_same" = some (.ref (a_law_same K)) := T.gl 18 _ rfl
theorem Tx0.f_law_sides : FunD K "_law_sides" "_law_sides" (defArgs s_law_sides) (defBody s_law_sides) (defScope s_law_sides) [] [] (a_law_sides K) (fd_law_sides K) := by
  obtain ⟨fd, F⟩ := T.sd 29 d_law_sides rfl
  have e := fdOf_eq F
  show FunD K _ _ _ _ _ [] [] (He.fAd K d_law_sides.at_) (fdOf K d_law_sides.at_)
  rw [e]
  exact F
theorem Tx0.b_law_sides : Binds K (fd_law_sides K) p_law_sides [] := T.f_law_sides.bindsN fun _ _ _ _ _ _ us hl => match us, hl with | [_, _], _ => rfl
theorem Tx0.k_law_sides : PySem.W.keepIn K (.ref (a_law_sides K)) = true := T.f_law_sides.kp
theorem Tx0.m_law_sides : mg "_law_sides" = some (.ref (a_law_sides K)) := T.gl 19 _ rfl
theorem Tx0.f_law_scheme : FunD K "_law_scheme" "_law_scheme" (defArgs s_law_scheme) (defBody s_law_scheme) (defScope s_law_scheme) [] [] (a_law_scheme K) (fd_law_scheme K) := by
  obtain ⟨fd, F⟩ := T.sd 30 d_law_scheme rfl
  have e := fdOf_eq F
  show FunD K _ _ _ _ _ [] [] (He.fAd K d_law_scheme.at_) (fdOf K d_law_scheme.at_)
  rw [e]
  exact F
theorem Tx0.b_law_scheme : Binds K (fd_law_scheme K) p_law_scheme [] := T.f_law_scheme.bindsN fun _ _ _ _ _ _ us hl => match us, hl with | [_], _ => rfl
theorem Tx0.k_law_scheme : PySem.W.keepIn K (.ref (a_law_scheme K)) = true := T.f_law_scheme.kp
theorem Tx0.m_law_scheme : mg "_law_scheme" = some (.ref (a_law_scheme K)) := T.gl 20 _ rfl
theorem Tx0.f_law_rules : FunD K "_law_rules" "_law_rules" (defArgs s_law_rules) (defBody s_law_rules) (defScope s_law_rules) [] [] (a_law_rules K) (fd_law_rules K) := by
  obtain ⟨fd, F⟩ := T.sd 31 d_law_rules rfl
  have e := fdOf_eq F
  show FunD K _ _ _ _ _ [] [] (He.fAd K d_law_rules.at_) (fdOf K d_law_rules.at_)
  rw [e]
  exact F
theorem Tx0.b_law_rules : Binds K (fd_law_rules K) p_law_rules [] := T.f_law_rules.bindsN fun _ _ _ _ _ _ us hl => match us, hl with | [_], _ => rfl
theorem Tx0.k_law_rules : PySem.W.keepIn K (.ref (a_law_rules K)) = true := T.f_law_rules.kp
theorem Tx0.m_law_rules : mg "_law_rules" = some (.ref (a_law_rules K)) := T.gl 21 _ rfl
theorem Tx0.f_law_book : FunD K "_law_book" "_law_book" (defArgs s_law_book) (defBody s_law_book) (defScope s_law_book) [] [] (a_law_book K) (fd_law_book K) := by
  obtain ⟨fd, F⟩ := T.sd 32 d_law_book rfl
  have e := fdOf_eq F
  show FunD K _ _ _ _ _ [] [] (He.fAd K d_law_book.at_) (fdOf K d_law_book.at_)
  rw [e]
  exact F
theorem Tx0.b_law_book : Binds K (fd_law_book K) p_law_book [] := T.f_law_book.bindsN fun _ _ _ _ _ _ us hl => match us, hl with | [_], _ => rfl
theorem Tx0.k_law_book : PySem.W.keepIn K (.ref (a_law_book K)) = true := T.f_law_book.kp
theorem Tx0.m_law_book : mg "_law_book" = some (.ref (a_law_book K)) := T.gl 22 _ rfl
theorem Tx0.f_law_outcomes : FunD K "_law_outcomes" "_law_outcomes" (defArgs s_law_outcomes) (defBody s_law_outcomes) (defScope s_law_outcomes) [] [] (a_law_outcomes K) (fd_law_outcomes K) := by
  obtain ⟨fd, F⟩ := T.sd 33 d_law_outcomes rfl
  have e := fdOf_eq F
  show FunD K _ _ _ _ _ [] [] (He.fAd K d_law_outcomes.at_) (fdOf K d_law_outcomes.at_)
  rw [e]
  exact F
theorem Tx0.b_law_outcomes : Binds K (fd_law_outcomes K) p_law_outcomes [] := T.f_law_outcomes.bindsN fun _ _ _ _ _ _ us hl => match us, hl with | [_], _ => rfl
theorem Tx0.k_law_outcomes : PySem.W.keepIn K (.ref (a_law_outcomes K)) = true := T.f_law_outcomes.kp
theorem Tx0.m_law_outcomes : mg "_law_outcomes" = some (.ref (a_law_outcomes K)) := T.gl 23 _ rfl
theorem Tx0.f_law_add : FunD K "_law_add" "_law_add" (defArgs s_law_add) (defBody s_law_add) (defScope s_law_add) [] [] (a_law_add K) (fd_law_add K) := by
  obtain ⟨fd, F⟩ := T.sd 34 d_law_add rfl
  have e := fdOf_eq F
  show FunD K _ _ _ _ _ [] [] (He.fAd K d_law_add.at_) (fdOf K d_law_add.at_)
  rw [e]
  exact F
theorem Tx0.b_law_add : Binds K (fd_law_add K) p_law_add [] := T.f_law_add.bindsN fun _ _ _ _ _ _ us hl => match us, hl with | [_, _, _], _ => rfl
theorem Tx0.k_law_add : PySem.W.keepIn K (.ref (a_law_add K)) = true := T.f_law_add.kp
theorem Tx0.m_law_add : mg "_law_add" = some (.ref (a_law_add K)) := T.gl 24 _ rfl
theorem Tx0.f_law_change : FunD K "_law_change" "_law_change" (defArgs s_law_change) (defBody s_law_change) (defScope s_law_change) [] [] (a_law_change K) (fd_law_change K) := by
  obtain ⟨fd, F⟩ := T.sd 35 d_law_change rfl
  have e := fdOf_eq F
  show FunD K _ _ _ _ _ [] [] (He.fAd K d_law_change.at_) (fdOf K d_law_change.at_)
  rw [e]
  exact F
theorem Tx0.b_law_change : Binds K (fd_law_change K) p_law_change [] := T.f_law_change.bindsN fun _ _ _ _ _ _ us hl => match us, hl with | [_, _, _], _ => rfl
theorem Tx0.k_law_change : PySem.W.keepIn K (.ref (a_law_change K)) = true := T.f_law_change.kp
theorem Tx0.m_law_change : mg "_law_change" = some (.ref (a_law_change K)) := T.gl 25 _ rfl
theorem Tx0.f_law_is_free : FunD K "_law_is_free" "_law_is_free" (defArgs s_law_is_free) (defBody s_law_is_free) (defScope s_law_is_free) [] [] (a_law_is_free K) (fd_law_is_free K) := by
  obtain ⟨fd, F⟩ := T.sd 36 d_law_is_free rfl
  have e := fdOf_eq F
  show FunD K _ _ _ _ _ [] [] (He.fAd K d_law_is_free.at_) (fdOf K d_law_is_free.at_)
  rw [e]
  exact F
theorem Tx0.b_law_is_free : Binds K (fd_law_is_free K) p_law_is_free [] := T.f_law_is_free.bindsN fun _ _ _ _ _ _ us hl => match us, hl with | [_, _], _ => rfl
theorem Tx0.k_law_is_free : PySem.W.keepIn K (.ref (a_law_is_free K)) = true := T.f_law_is_free.kp
theorem Tx0.m_law_is_free : mg "_law_is_free" = some (.ref (a_law_is_free K)) := T.gl 26 _ rfl
theorem Tx0.f_law_fill : FunD K "_law_fill" "_law_fill" (defArgs s_law_fill) (defBody s_law_fill) (defScope s_law_fill) [] [] (a_law_fill K) (fd_law_fill K) := by
  obtain ⟨fd, F⟩ := T.sd 37 d_law_fill rfl
  have e := fdOf_eq F
  show FunD K _ _ _ _ _ [] [] (He.fAd K d_law_fill.at_) (fdOf K d_law_fill.at_)
  rw [e]
  exact F
theorem Tx0.b_law_fill : Binds K (fd_law_fill K) p_law_fill [] := T.f_law_fill.bindsN fun _ _ _ _ _ _ us hl => match us, hl with | [_, _, _], _ => rfl
theorem Tx0.k_law_fill : PySem.W.keepIn K (.ref (a_law_fill K)) = true := T.f_law_fill.kp
theorem Tx0.m_law_fill : mg "_law_fill" = some (.ref (a_law_fill K)) := T.gl 27 _ rfl
theorem Tx0.f_law_results : FunD K "_law_results" "_law_results" (defArgs s_law_results) (defBody s_law_results) (defScope s_law_results) [] [] (a_law_results K) (fd_law_results K) := by
  obtain ⟨fd, F⟩ := T.sd 38 d_law_results rfl
  have e := fdOf_eq F
  show FunD K _ _ _ _ _ [] [] (He.fAd K d_law_results.at_) (fdOf K d_law_results.at_)
  rw [e]
  exact F
theorem Tx0.b_law_results : Binds K (fd_law_results K) p_law_results [] := T.f_law_results.bindsN fun _ _ _ _ _ _ us hl => match us, hl with | [_, _, _], _ => rfl
theorem Tx0.k_law_results : PySem.W.keepIn K (.ref (a_law_results K)) = true := T.f_law_results.kp
theorem Tx0.m_law_results : mg "_law_results" = some (.ref (a_law_results K)) := T.gl 28 _ rfl
theorem Tx0.f_law_points : FunD K "_law_points" "_law_points" (defArgs s_law_points) (defBody s_law_points) (defScope s_law_points) [] [] (a_law_points K) (fd_law_points K) := by
  obtain ⟨fd, F⟩ := T.sd 39 d_law_points rfl
  have e := fdOf_eq F
  show FunD K _ _ _ _ _ [] [] (He.fAd K d_law_points.at_) (fdOf K d_law_points.at_)
  rw [e]
  exact F
theorem Tx0.b_law_points : Binds K (fd_law_points K) p_law_points [] := T.f_law_points.bindsN fun _ _ _ _ _ _ us hl => match us, hl with | [_, _, _], _ => rfl
theorem Tx0.k_law_points : PySem.W.keepIn K (.ref (a_law_points K)) = true := T.f_law_points.kp
theorem Tx0.m_law_points : mg "_law_points" = some (.ref (a_law_points K)) := T.gl 29 _ rfl
theorem Tx0.f_law_number : FunD K "_law_number" "_law_number" (defArgs s_law_number) (defBody s_law_number) (defScope s_law_number) [] [] (a_law_number K) (fd_law_number K) := by
  obtain ⟨fd, F⟩ := T.sd 40 d_law_number rfl
  have e := fdOf_eq F
  show FunD K _ _ _ _ _ [] [] (He.fAd K d_law_number.at_) (fdOf K d_law_number.at_)
  rw [e]
  exact F
theorem Tx0.b_law_number : Binds K (fd_law_number K) p_law_number [] := T.f_law_number.bindsN fun _ _ _ _ _ _ us hl => match us, hl with | [_, _, _, _], _ => rfl
theorem Tx0.k_law_number : PySem.W.keepIn K (.ref (a_law_number K)) = true := T.f_law_number.kp
theorem Tx0.m_law_number : mg "_law_number" = some (.ref (a_law_number K)) := T.gl 30 _ rfl
theorem Tx0.f_law_parted : FunD K "_law_parted" "_law_parted" (defArgs s_law_parted) (defBody s_law_parted) (defScope s_law_parted) [] [] (a_law_parted K) (fd_law_parted K) := by
  obtain ⟨fd, F⟩ := T.sd 41 d_law_parted rfl
  have e := fdOf_eq F
  show FunD K _ _ _ _ _ [] [] (He.fAd K d_law_parted.at_) (fdOf K d_law_parted.at_)
  rw [e]
  exact F
theorem Tx0.b_law_parted : Binds K (fd_law_parted K) p_law_parted [] := T.f_law_parted.bindsN fun _ _ _ _ _ _ us hl => match us, hl with | [_, _], _ => rfl
theorem Tx0.k_law_parted : PySem.W.keepIn K (.ref (a_law_parted K)) = true := T.f_law_parted.kp
theorem Tx0.m_law_parted : mg "_law_parted" = some (.ref (a_law_parted K)) := T.gl 31 _ rfl
theorem Tx0.f_law_flat : FunD K "_law_flat" "_law_flat" (defArgs s_law_flat) (defBody s_law_flat) (defScope s_law_flat) [] [] (a_law_flat K) (fd_law_flat K) := by
  obtain ⟨fd, F⟩ := T.sd 42 d_law_flat rfl
  have e := fdOf_eq F
  show FunD K _ _ _ _ _ [] [] (He.fAd K d_law_flat.at_) (fdOf K d_law_flat.at_)
  rw [e]
  exact F
theorem Tx0.b_law_flat : Binds K (fd_law_flat K) p_law_flat [] := T.f_law_flat.bindsN fun _ _ _ _ _ _ us hl => match us, hl with | [_], _ => rfl
theorem Tx0.k_law_flat : PySem.W.keepIn K (.ref (a_law_flat K)) = true := T.f_law_flat.kp
theorem Tx0.m_law_flat : mg "_law_flat" = some (.ref (a_law_flat K)) := T.gl 32 _ rfl
theorem Tx0.f_law_twin : FunD K "_law_twin" "_law_twin" (defArgs s_law_twin) (defBody s_law_twin) (defScope s_law_twin) [] [] (a_law_twin K) (fd_law_twin K) := by
  obtain ⟨fd, F⟩ := T.sd 43 d_law_twin rfl
  have e := fdOf_eq F
  show FunD K _ _ _ _ _ [] [] (He.fAd K d_law_twin.at_) (fdOf K d_law_twin.at_)
  rw [e]
  exact F
theorem Tx0.b_law_twin : Binds K (fd_law_twin K) p_law_twin [] := T.f_law_twin.bindsN fun _ _ _ _ _ _ us hl => match us, hl with | [_, _], _ => rfl
theorem Tx0.k_law_twin : PySem.W.keepIn K (.ref (a_law_twin K)) = true := T.f_law_twin.kp
theorem Tx0.m_law_twin : mg "_law_twin" = some (.ref (a_law_twin K)) := T.gl 33 _ rfl
theorem Tx0.f_law_right : FunD K "_law_right" "_law_right" (defArgs s_law_right) (defBody s_law_right) (defScope s_law_right) [] [] (a_law_right K) (fd_law_right K) := by
  obtain ⟨fd, F⟩ := T.sd 44 d_law_right rfl
  have e := fdOf_eq F
  show FunD K _ _ _ _ _ [] [] (He.fAd K d_law_right.at_) (fdOf K d_law_right.at_)
  rw [e]
  exact F
theorem Tx0.b_law_right : Binds K (fd_law_right K) p_law_right [] := T.f_law_right.bindsN fun _ _ _ _ _ _ us hl => match us, hl with | [_, _, _], _ => rfl
theorem Tx0.k_law_right : PySem.W.keepIn K (.ref (a_law_right K)) = true := T.f_law_right.kp
theorem Tx0.m_law_right : mg "_law_right" = some (.ref (a_law_right K)) := T.gl 34 _ rfl
theorem Tx0.f_law_refused : FunD K "_law_refused" "_law_refused" (defArgs s_law_refused) (defBody s_law_refused) (defScope s_law_refused) [] [] (a_law_refused K) (fd_law_refused K) := by
  obtain ⟨fd, F⟩ := T.sd 45 d_law_refused rfl
  have e := fdOf_eq F
  show FunD K _ _ _ _ _ [] [] (He.fAd K d_law_refused.at_) (fdOf K d_law_refused.at_)
  rw [e]
  exact F
theorem Tx0.b_law_refused : Binds K (fd_law_refused K) p_law_refused [] := T.f_law_refused.bindsN fun _ _ _ _ _ _ us hl => match us, hl with | [_, _, _], _ => rfl
theorem Tx0.k_law_refused : PySem.W.keepIn K (.ref (a_law_refused K)) = true := T.f_law_refused.kp
theorem Tx0.m_law_refused : mg "_law_refused" = some (.ref (a_law_refused K)) := T.gl 35 _ rfl
theorem Tx0.f_law_value : FunD K "_law_value" "_law_value" (defArgs s_law_value) (defBody s_law_value) (defScope s_law_value) [] [] (a_law_value K) (fd_law_value K) := by
  obtain ⟨fd, F⟩ := T.sd 46 d_law_value rfl
  have e := fdOf_eq F
  show FunD K _ _ _ _ _ [] [] (He.fAd K d_law_value.at_) (fdOf K d_law_value.at_)
  rw [e]
  exact F
theorem Tx0.b_law_value : Binds K (fd_law_value K) p_law_value [] := T.f_law_value.bindsN fun _ _ _ _ _ _ us hl => match us, hl with | [_, _], _ => rfl
theorem Tx0.k_law_value : PySem.W.keepIn K (.ref (a_law_value K)) = true := T.f_law_value.kp
theorem Tx0.m_law_value : mg "_law_value" = some (.ref (a_law_value K)) := T.gl 36 _ rfl
theorem Tx0.f_law_round : FunD K "_law_round" "_law_round" (defArgs s_law_round) (defBody s_law_round) (defScope s_law_round) [] [] (a_law_round K) (fd_law_round K) := by
  obtain ⟨fd, F⟩ := T.sd 47 d_law_round rfl
  have e := fdOf_eq F
  show FunD K _ _ _ _ _ [] [] (He.fAd K d_law_round.at_) (fdOf K d_law_round.at_)
  rw [e]
  exact F
theorem Tx0.b_law_round : Binds K (fd_law_round K) p_law_round [] := T.f_law_round.bindsN fun _ _ _ _ _ _ us hl => match us, hl with | [_, _], _ => rfl
theorem Tx0.k_law_round : PySem.W.keepIn K (.ref (a_law_round K)) = true := T.f_law_round.kp
theorem Tx0.m_law_round : mg "_law_round" = some (.ref (a_law_round K)) := T.gl 37 _ rfl
theorem Tx0.f_law : FunD K "law" "law" (defArgs s_law) (defBody s_law) (defScope s_law) [] [] (a_law K) (fd_law K) := by
  obtain ⟨fd, F⟩ := T.sd 48 d_law rfl
  have e := fdOf_eq F
  show FunD K _ _ _ _ _ [] [] (He.fAd K d_law.at_) (fdOf K d_law.at_)
  rw [e]
  exact F
theorem Tx0.b_law : Binds K (fd_law K) p_law [] := T.f_law.bindsN fun _ _ _ _ _ _ us hl => match us, hl with | [_], _ => rfl
theorem Tx0.k_law : PySem.W.keepIn K (.ref (a_law K)) = true := T.f_law.kp
theorem Tx0.m_law : mg "law" = some (.ref (a_law K)) := T.gl 38 _ rfl
theorem Tx0.g_League : mg "League" = some (.ref (He.ga K "League")) := T.gl 39 _ rfl
theorem Tx0.g_LeagueError : mg "LeagueError" = some (.ref (He.ga K "LeagueError")) := T.gl 40 _ rfl
theorem Tx0.g_BadValue : mg "BadValue" = some (.ref (He.ga K "BadValue")) := T.gl 41 _ rfl
theorem Tx0.g_BadGame : mg "BadGame" = some (.ref (He.ga K "BadGame")) := T.gl 42 _ rfl
theorem Tx0.g_BadSide : mg "BadSide" = some (.ref (He.ga K "BadSide")) := T.gl 43 _ rfl
theorem Tx0.g_TooMany : mg "TooMany" = some (.ref (He.ga K "TooMany")) := T.gl 44 _ rfl
theorem Tx0.g_RULES : mg "RULES" = some (.ref (He.ga K "RULES")) := T.gl 45 _ rfl
theorem Tx0.g_OUTCOMES : mg "OUTCOMES" = some (.ref (He.ga K "OUTCOMES")) := T.gl 46 _ rfl
theorem Tx0.n_isinstance : mg "isinstance" = none := T.fr 0 _ rfl
theorem Tx0.n_len : mg "len" = none := T.fr 1 _ rfl
theorem Tx0.n_all : mg "all" = none := T.fr 2 _ rfl
theorem Tx0.n_set : mg "set" = none := T.fr 3 _ rfl
theorem Tx0.n_tuple : mg "tuple" = none := T.fr 4 _ rfl
theorem Tx0.n_list : mg "list" = none := T.fr 5 _ rfl
theorem Tx0.n_range : mg "range" = none := T.fr 6 _ rfl
theorem Tx0.n_enumerate : mg "enumerate" = none := T.fr 7 _ rfl
theorem Tx0.n_sorted : mg "sorted" = none := T.fr 8 _ rfl
theorem Tx0.n_int : mg "int" = none := T.fr 9 _ rfl
theorem Tx0.n_abs : mg "abs" = none := T.fr 10 _ rfl
theorem Tx0.n_str : mg "str" = none := T.fr 11 _ rfl
theorem Tx0.n_bool : mg "bool" = none := T.fr 12 _ rfl
theorem Tx0.n_min : mg "min" = none := T.fr 13 _ rfl
theorem Tx0.n_super : mg "super" = none := T.fr 14 _ rfl
theorem Tx0.a_names : NoAttr K (He.ga K "League") "names" := T.no 0 _ rfl
theorem Tx0.a_worth : NoAttr K (He.ga K "League") "worth" := T.no 1 _ rfl
theorem Tx0.a_ranks : NoAttr K (He.ga K "League") "ranks" := T.no 2 _ rfl
theorem Tx0.a_rows : NoAttr K (He.ga K "League") "rows" := T.no 3 _ rfl
theorem Tx0.a_gone : NoAttr K (He.ga K "League") "gone" := T.no 4 _ rfl
theorem Tx0.c_MOST_LETTERS : ∃ t, mg "MOST_LETTERS" = some (.int 8 t) := T.kt 0 _ rfl
theorem Tx0.c_LEAST_SIDES : ∃ t, mg "LEAST_SIDES" = some (.int 2 t) := T.kt 1 _ rfl
theorem Tx0.c_MOST_SIDES : ∃ t, mg "MOST_SIDES" = some (.int 8 t) := T.kt 2 _ rfl
theorem Tx0.c_MOST_GAMES : ∃ t, mg "MOST_GAMES" = some (.int 80 t) := T.kt 3 _ rfl
theorem Tx0.c_MOST_POINTS : ∃ t, mg "MOST_POINTS" = some (.int 100 t) := T.kt 4 _ rfl
theorem Tx0.c_LETTERS : ∃ t, mg "LETTERS" = some (.str "abcdefghijklmnopqrstuvwxyz" t) := T.ks 0 _ rfl
theorem Tx0.c_LEFT : ∃ t, mg "LEFT" = some (.str "left" t) := T.ks 1 _ rfl
theorem Tx0.c_OFF : ∃ t, mg "OFF" = some (.str "off" t) := T.ks 2 _ rfl
end
end Lw

/-! Mth -/
/-! The plain mathematics: lots parted by rules; the same by a row of lots; points by two ways. No program in sight. -/
namespace Mt
open PySem
/-! ### strictly falling lists -/
def ins (n : Int) : List Int → List Int
  | [] => [n]
  | a :: r => if a < n then n :: a :: r else if n = a then a :: r else a :: ins n r
def dd : List Int → List Int
  | [] => []
  | a :: r => ins a (dd r)
abbrev Fall (l : List Int) : Prop := l.Pairwise (fun a b => b < a)
theorem ins_mem {n m : Int} : ∀ {l : List Int}, m ∈ ins n l ↔ m = n ∨ m ∈ l
  | [] => by simp [ins]
  | a :: r => by
    have ih := ins_mem (n := n) (m := m) (l := r)
    unfold ins
    by_cases h1 : a < n
    · rw [if_pos h1]; simp
    · rw [if_neg h1]
      by_cases h2 : n = a
      · rw [if_pos h2]; subst h2; simp
      · rw [if_neg h2]; simp only [List.mem_cons, ih]
        constructor
        · rintro (h | h | h)
          · exact .inr (.inl h)
          · exact .inl h
          · exact .inr (.inr h)
        · rintro (h | h | h)
          · exact .inr (.inl h)
          · exact .inl h
          · exact .inr (.inr h)
theorem ins_fall {n : Int} : ∀ {l : List Int}, Fall l → Fall (ins n l)
  | [], _ => by simp [ins, Fall]
  | a :: r, h => by
    obtain ⟨h1, h2⟩ := List.pairwise_cons.mp h
    unfold ins
    by_cases c1 : a < n
    · rw [if_pos c1]
      refine List.pairwise_cons.mpr ⟨fun b hb => ?_, h⟩
      rcases List.mem_cons.mp hb with rfl | hb
      · exact c1
      · have := h1 b hb; omega
    · rw [if_neg c1]
      by_cases c2 : n = a
      · rw [if_pos c2]; exact h
      · rw [if_neg c2]
        refine List.pairwise_cons.mpr ⟨fun b hb => ?_, ins_fall h2⟩
        rcases ins_mem.mp hb with rfl | hb
        · omega
        · exact h1 b hb
theorem dd_mem {m : Int} : ∀ {l : List Int}, m ∈ dd l ↔ m ∈ l
  | [] => by simp [dd]
  | a :: r => by
    show m ∈ ins a (dd r) ↔ _
    rw [ins_mem, dd_mem (l := r), List.mem_cons]
theorem dd_fall : ∀ l : List Int, Fall (dd l)
  | [] => List.Pairwise.nil
  | a :: r => ins_fall (dd_fall r)
theorem fall_uniq : ∀ {l m : List Int}, Fall l → Fall m → (∀ n, n ∈ l ↔ n ∈ m) → l = m
  | [], [], _, _, _ => rfl
  | [], b :: s, _, _, h => by have := (h b).mpr List.mem_cons_self; cases this
  | a :: r, [], _, _, h => by have := (h a).mp List.mem_cons_self; cases this
  | a :: r, b :: s, hl, hm, h => by
    obtain ⟨l1, l2⟩ := List.pairwise_cons.mp hl
    obtain ⟨m1, m2⟩ := List.pairwise_cons.mp hm
    have e : a = b := by
      rcases List.mem_cons.mp ((h a).mp List.mem_cons_self) with e | e
      · exact e
      · rcases List.mem_cons.mp ((h b).mpr List.mem_cons_self) with q | q
        · exact q.symm
        · have := m1 a e; have := l1 b q; omega
    subst e
    refine congrArg (a :: ·) (fall_uniq l2 m2 fun n => ?_)
    constructor
    · intro hn
      rcases List.mem_cons.mp ((h n).mp (List.mem_cons_of_mem _ hn)) with q | q
      · have := l1 n hn; omega
      · exact q
    · intro hn
      rcases List.mem_cons.mp ((h n).mpr (List.mem_cons_of_mem _ hn)) with q | q
      · have := m1 n hn; omega
      · exact q
theorem fall_nodup {l : List Int} (h : Fall l) : l.Nodup := h.imp (fun q => by omega)
/-- the program's way: keys in any order without doubles, sorted, turned round -/
theorem dd_sorted {ks l s : List Int} (hk : ks.Nodup) (hm : ∀ n, n ∈ ks ↔ n ∈ l) (hp : s.Perm ks) (hs : s.Pairwise (· ≤ ·)) : s.reverse = dd l := by
  refine fall_uniq ?_ (dd_fall l) fun n => ?_
  · have nd : s.Nodup := hp.nodup_iff.mpr hk
    show s.reverse.Pairwise _
    rw [List.pairwise_reverse]
    have both := List.pairwise_and_iff.mpr ⟨hs, nd⟩
    exact both.imp fun ⟨q1, q2⟩ => by omega
  · rw [List.mem_reverse, hp.mem_iff, hm, dd_mem]
/-- the law's way: sorted down, doubles left out -/
def firsts (st : List Int) (k : Nat) : Bool := decide (k = 0) || !decide (st.getD k 0 = st.getD (k - 1) 0)
def adj (st : List Int) (n : Nat) : List Int := ((List.range n).filter (firsts st)).map fun k => st.getD k 0
theorem getD_le {st : List Int} (hs : st.Pairwise (· ≥ ·)) {i j : Nat} (hij : i ≤ j) (hj : j < st.length) : st.getD j 0 ≤ st.getD i 0 := by
  rcases Nat.lt_or_eq_of_le hij with h | h
  · have q := List.pairwise_iff_getElem.mp hs i j (by omega) hj h
    rw [List.getD_eq_getElem?_getD, List.getD_eq_getElem?_getD, List.getElem?_eq_getElem hj, List.getElem?_eq_getElem (show i < st.length by omega)]
    exact q
  · subst h; exact Int.le_refl _
theorem first_of {st : List Int} : ∀ (n : Nat), n < st.length → ∃ k, k ≤ n ∧ firsts st k = true ∧ st.getD k 0 = st.getD n 0
  | 0, _ => ⟨0, Nat.le_refl _, by simp [firsts], rfl⟩
  | n + 1, h => by
    by_cases e : st.getD (n + 1) 0 = st.getD n 0
    · obtain ⟨k, k1, k2, k3⟩ := first_of (st := st) n (by omega)
      exact ⟨k, by omega, k2, by rw [k3, e]⟩
    · refine ⟨n + 1, Nat.le_refl _, ?_, rfl⟩
      unfold firsts
      rw [show n + 1 - 1 = n by omega, decide_eq_false e]
      simp
theorem adj_dd {l st : List Int} (hp : st.Perm l) (hs : st.Pairwise (· ≥ ·)) : adj st st.length = dd l := by
  refine fall_uniq ?_ (dd_fall l) fun n => ?_
  · show (((List.range st.length).filter (firsts st)).map fun k => st.getD k 0).Pairwise _
    rw [List.pairwise_map, List.pairwise_filter]
    refine (List.pairwise_lt_range (n := st.length)).imp_of_mem fun {a b} ha hb hab _ fb => ?_
    have hb' := List.mem_range.mp hb
    have ha' := List.mem_range.mp ha
    have h1 := getD_le hs (show a ≤ b - 1 by omega) (show b - 1 < st.length by omega)
    have h2 := getD_le hs (show b - 1 ≤ b by omega) hb'
    have h3 : ¬ st.getD b 0 = st.getD (b - 1) 0 := by
      intro e
      unfold firsts at fb
      rw [decide_eq_true e, decide_eq_false (show ¬ b = 0 by omega)] at fb
      simp at fb
    omega
  · rw [dd_mem, ← hp.mem_iff]
    unfold adj
    rw [List.mem_map]
    constructor
    · rintro ⟨k, hk, rfl⟩
      have hk' := List.mem_range.mp (List.mem_filter.mp hk).1
      rw [List.getD_eq_getElem?_getD, List.getElem?_eq_getElem hk']
      exact List.getElem_mem hk'
    · intro hn
      obtain ⟨i, hi, e⟩ := List.mem_iff_getElem.mp hn
      obtain ⟨k, k1, k2, k3⟩ := first_of i hi
      refine ⟨k, List.mem_filter.mpr ⟨List.mem_range.mpr (by omega), k2⟩, ?_⟩
      rw [k3, List.getD_eq_getElem?_getD, List.getElem?_eq_getElem hi]
      exact e
theorem adj_succ (st : List Int) (n : Nat) : adj st (n + 1) = if firsts st n = true then adj st n ++ [st.getD n 0] else adj st n := by
  unfold adj
  rw [List.range_succ, List.filter_append, List.map_append]
  by_cases h : firsts st n = true
  · rw [if_pos h, List.filter_cons, if_pos h] <;> rfl
  · rw [if_neg h, List.filter_cons, if_neg h]; simp
/-! ### the parts of a lot -/
section
variable {α : Type} [DecidableEq α]
def part1 (f : α → Int) (lot : List α) (n : Int) : List α := lot.filter fun s => decide (f s = n)
def parts (f : α → Int) (lot : List α) : List (List α) := (dd (lot.map f)).map (part1 f lot)
theorem sum_ind : ∀ {ds : List Int} {x : Int}, ds.Nodup → x ∈ ds → (ds.map fun n => if x = n then 1 else 0).sum = 1
  | [], x, _, h => by cases h
  | a :: r, x, nd, h => by
    obtain ⟨n1, n2⟩ := List.nodup_cons.mp nd
    rw [List.map_cons, List.sum_cons]
    rcases List.mem_cons.mp h with e | e
    · subst e
      rw [if_pos rfl]
      have z : ∀ {l : List Int}, ¬ x ∈ l → (l.map fun n => if x = n then 1 else 0).sum = 0 := by
        intro l
        induction l with
        | nil => intro _; rfl
        | cons b s ih =>
          intro hb
          rw [List.map_cons, List.sum_cons, ih (fun q => hb (List.mem_cons_of_mem _ q)), if_neg (fun q => hb (by rw [q]; exact List.mem_cons_self))]
      rw [z n1]
    · rw [sum_ind n2 e, if_neg (fun q => n1 (by rw [← q]; exact e))]
theorem parts_sum (f : α → Int) (ds : List Int) (nd : ds.Nodup) : ∀ lot : List α, (∀ s ∈ lot, f s ∈ ds) → (ds.map fun n => (part1 f lot n).length).sum = lot.length
  | [], _ => by
    have z : ∀ l : List Int, (l.map fun n => (part1 f ([] : List α) n).length).sum = 0 := by
      intro l
      induction l with
      | nil => rfl
      | cons b s ih => rw [List.map_cons, List.sum_cons, ih]; rfl
    exact z ds
  | a :: r, h => by
    have ih := parts_sum f ds nd r fun s hs => h s (List.mem_cons_of_mem _ hs)
    have one := sum_ind nd (h a List.mem_cons_self)
    have e : ∀ l : List Int, (l.map fun n => (part1 f (a :: r) n).length).sum = (l.map fun n => if f a = n then 1 else 0).sum + (l.map fun n => (part1 f r n).length).sum := by
      intro l
      induction l with
      | nil => rfl
      | cons b s ih2 =>
        rw [List.map_cons, List.sum_cons, List.map_cons, List.sum_cons, List.map_cons, List.sum_cons, ih2]
        have q : (part1 f (a :: r) b).length = (if f a = b then 1 else 0) + (part1 f r b).length := by
          unfold part1
          by_cases c : f a = b
          · rw [List.filter_cons, if_pos (decide_eq_true c), if_pos c, List.length_cons]; omega
          · rw [List.filter_cons, if_neg (by simp [c]), if_neg c]; omega
        rw [q]; omega
    rw [e, one, ih, List.length_cons]; omega
theorem parts_len (f : α → Int) (lot : List α) : ((parts f lot).map List.length).sum = lot.length := by
  unfold parts
  rw [List.map_map]
  exact parts_sum f _ (fall_nodup (dd_fall _)) lot fun s hs => dd_mem.mpr (List.mem_map_of_mem hs)
theorem parts_ne {f : α → Int} {lot p : List α} (h : p ∈ parts f lot) : p ≠ [] := by
  obtain ⟨n, hn, rfl⟩ := List.mem_map.mp h
  obtain ⟨s, hs, e⟩ := List.mem_map.mp (dd_mem.mp hn)
  exact List.ne_nil_of_mem (List.mem_filter.mpr ⟨hs, decide_eq_true e⟩)
theorem parts_sub {f : α → Int} {lot p : List α} (h : p ∈ parts f lot) : p.Sublist lot := by
  obtain ⟨n, _, rfl⟩ := List.mem_map.mp h
  exact List.filter_sublist
theorem len_le_sum : ∀ {l : List (List α)} {p : List α}, p ∈ l → p.length ≤ (l.map List.length).sum
  | [], _, h => by cases h
  | a :: r, p, h => by
    rw [List.map_cons, List.sum_cons]
    rcases List.mem_cons.mp h with e | e
    · subst e; omega
    · have := len_le_sum e; omega
/-- of several parts each is smaller -/
theorem parts_lt {f : α → Int} {lot p : List α} (h : p ∈ parts f lot) (h2 : (parts f lot).length ≠ 1) : p.length < lot.length := by
  have hs := parts_len f lot
  have ne : ∀ q ∈ parts f lot, 1 ≤ q.length := fun q hq => List.length_pos_iff.mpr (parts_ne hq)
  have key : ∀ {l : List (List α)}, p ∈ l → l.length ≠ 1 → (∀ q ∈ l, 1 ≤ q.length) → p.length + 1 ≤ (l.map List.length).sum := by
    intro l hl hn hq
    match l, hl with
    | [a], hl => exact absurd rfl hn
    | a :: b :: r, hl =>
      rw [List.map_cons, List.sum_cons]
      rcases List.mem_cons.mp hl with e | e
      · subst e
        have := len_le_sum (show b ∈ b :: r from List.mem_cons_self)
        have := hq b (by simp)
        omega
      · have := len_le_sum e
        have := hq a (by simp)
        omega
  have := key h h2 ne
  omega
theorem parts_one {f : α → Int} {lot : List α} (h : (parts f lot).length = 1) : parts f lot = [lot] := by
  have hs := parts_len f lot
  match e : parts f lot, h with
  | [p], _ =>
    rw [e] at hs
    have sub := parts_sub (show p ∈ parts f lot by rw [e]; exact List.mem_cons_self)
    have : p = lot := sub.eq_of_length (by simpa using hs)
    rw [this]
/-! ### lots, by recursion -/
variable (num : Str → α → List α → Int) (rules : List Str)
def lotsF : Nat → List α → Nat → List (List α)
  | 0, lot, _ => [lot]
  | n + 1, lot, at_ => if lot.length = 1 ∨ at_ = rules.length then [lot] else
    if (parts (fun s => num (rules.getD at_ "") s lot) lot).length = 1 then lotsF n lot (at_ + 1)
    else ((parts (fun s => num (rules.getD at_ "") s lot) lot).map fun p => lotsF n p (if rules.getD at_ "" = "among" then at_ else at_ + 1)).flatten
theorem lotsF_succ (n : Nat) (lot : List α) (at_ : Nat) : lotsF num rules (n + 1) lot at_ = if lot.length = 1 ∨ at_ = rules.length then [lot] else
    if (parts (fun s => num (rules.getD at_ "") s lot) lot).length = 1 then lotsF num rules n lot (at_ + 1)
    else ((parts (fun s => num (rules.getD at_ "") s lot) lot).map fun p => lotsF num rules n p (if rules.getD at_ "" = "among" then at_ else at_ + 1)).flatten := rfl
def need (lot : List α) (at_ : Nat) : Nat := 5 * lot.length + (rules.length - at_)
theorem lotsF_stable : ∀ (n m : Nat) (lot : List α) (at_ : Nat), at_ ≤ rules.length → need rules lot at_ ≤ n → need rules lot at_ ≤ m → lotsF num rules n lot at_ = lotsF num rules m lot at_
  | 0, 0, _, _, _, _, _ => rfl
  | 0, m + 1, lot, at_, ha, h1, h2 => by
    unfold need at h1
    have e : at_ = rules.length := by omega
    unfold lotsF
    rw [if_pos (.inr e)]
  | n + 1, 0, lot, at_, ha, h1, h2 => by
    unfold need at h2
    have e : at_ = rules.length := by omega
    show (if lot.length = 1 ∨ at_ = rules.length then [lot] else _) = [lot]
    rw [if_pos (.inr e)]
  | n + 1, m + 1, lot, at_, ha, h1, h2 => by
    unfold lotsF
    by_cases c : lot.length = 1 ∨ at_ = rules.length
    · rw [if_pos c, if_pos c]
    · rw [if_neg c, if_neg c]
      have hlt : at_ < rules.length := by
        have : ¬ at_ = rules.length := fun e => c (.inr e)
        omega
      by_cases c1 : (parts (fun s => num (rules.getD at_ "") s lot) lot).length = 1
      · rw [if_pos c1, if_pos c1]
        unfold need at h1 h2
        exact lotsF_stable n m lot (at_ + 1) (by omega) (by unfold need; omega) (by unfold need; omega)
      · rw [if_neg c1, if_neg c1]
        congr 1
        refine List.map_congr_left fun p hp => ?_
        have hl := parts_lt hp c1
        unfold need at h1 h2
        by_cases ca : rules.getD at_ "" = "among"
        · rw [if_pos ca]
          exact lotsF_stable n m p at_ (by omega) (by unfold need; omega) (by unfold need; omega)
        · rw [if_neg ca]
          exact lotsF_stable n m p (at_ + 1) (by omega) (by unfold need; omega) (by unfold need; omega)
def lots (lot : List α) (at_ : Nat) : List (List α) := lotsF num rules (need rules lot at_) lot at_
theorem lots_leaf {lot : List α} {at_ : Nat} (c : lot.length = 1 ∨ at_ = rules.length) : lots num rules lot at_ = [lot] := by
  unfold lots
  match need rules lot at_ with
  | 0 => rfl
  | n + 1 => unfold lotsF; rw [if_pos c]
/-- what a lot's parts are told with -/
def behind (at_ : Nat) (one : Bool) : Nat := if rules.getD at_ "" = "among" ∧ one = false then at_ else at_ + 1
theorem lots_node {lot : List α} {at_ : Nat} (c : ¬ (lot.length = 1 ∨ at_ = rules.length)) (ha : at_ ≤ rules.length) :
    lots num rules lot at_ = ((parts (fun s => num (rules.getD at_ "") s lot) lot).map fun p => lots num rules p (behind rules at_ (decide ((parts (fun s => num (rules.getD at_ "") s lot) lot).length = 1)))).flatten := by
  have hlt : at_ < rules.length := by
    have : ¬ at_ = rules.length := fun e => c (.inr e)
    omega
  have e : need rules lot at_ = (need rules lot at_ - 1) + 1 := by unfold need; omega
  unfold lots
  rw [e]
  rw [lotsF_succ, if_neg c]
  by_cases c1 : (parts (fun s => num (rules.getD at_ "") s lot) lot).length = 1
  · rw [if_pos c1, parts_one c1]
    have b : behind rules at_ (decide (([lot] : List (List α)).length = 1)) = at_ + 1 := by unfold behind; simp
    rw [b]
    simp only [List.map_cons, List.map_nil, List.flatten_cons, List.flatten_nil, List.append_nil]
    exact lotsF_stable num rules (need rules lot at_ - 1) (need rules lot (at_ + 1)) lot (at_ + 1) (by omega) (by unfold need; omega) (Nat.le_refl _)
  · rw [if_neg c1]
    congr 1
    refine List.map_congr_left fun p hp => ?_
    have hl := parts_lt hp c1
    have b : behind rules at_ (decide ((parts (fun s => num (rules.getD at_ "") s lot) lot).length = 1)) = if rules.getD at_ "" = "among" then at_ else at_ + 1 := by
      unfold behind
      rw [decide_eq_false c1]
      simp
    rw [b]
    by_cases ca : rules.getD at_ "" = "among"
    · rw [if_pos ca]
      exact lotsF_stable num rules (need rules lot at_ - 1) (need rules p at_) p at_ (by omega) (by unfold need; omega) (Nat.le_refl _)
    · rw [if_neg ca]
      exact lotsF_stable num rules (need rules lot at_ - 1) (need rules p (at_ + 1)) p (at_ + 1) (by omega) (by unfold need; omega) (Nat.le_refl _)
/-! ### lots, off a row -/
def pot (todo : List (List α × Nat)) : Nat := (todo.map fun p => 10 * p.1.length - 9 + (rules.length - p.2)).sum
def rowOk (todo : List (List α × Nat)) : Prop := ∀ p ∈ todo, p.1 ≠ [] ∧ p.2 ≤ rules.length
def lotsRow (todo : List (List α × Nat)) : List (List α) := (todo.map fun p => lots num rules p.1 p.2).flatten
def news (lot : List α) (at_ : Nat) : List (List α × Nat) := (parts (fun s => num (rules.getD at_ "") s lot) lot).map fun p => (p, behind rules at_ (decide ((parts (fun s => num (rules.getD at_ "") s lot) lot).length = 1)))
theorem row_leaf {lot : List α} {at_ : Nat} {r : List (List α × Nat)} (c : lot.length = 1 ∨ at_ = rules.length) : lotsRow num rules ((lot, at_) :: r) = [lot] ++ lotsRow num rules r := by
  unfold lotsRow
  rw [List.map_cons, List.flatten_cons, lots_leaf num rules c]
theorem row_node {lot : List α} {at_ : Nat} {r : List (List α × Nat)} (c : ¬ (lot.length = 1 ∨ at_ = rules.length)) (ha : at_ ≤ rules.length) : lotsRow num rules ((lot, at_) :: r) = lotsRow num rules (news num rules lot at_ ++ r) := by
  unfold lotsRow news
  rw [List.map_cons, List.flatten_cons, lots_node num rules c ha, List.map_append, List.flatten_append, List.map_map]
  rfl
theorem news_ok {lot : List α} {at_ : Nat} (c : ¬ (lot.length = 1 ∨ at_ = rules.length)) (ha : at_ ≤ rules.length) : rowOk rules (news num rules lot at_) := by
  intro p hp
  obtain ⟨q, hq, rfl⟩ := List.mem_map.mp hp
  refine ⟨parts_ne hq, ?_⟩
  have hlt : at_ < rules.length := by
    have : ¬ at_ = rules.length := fun e => c (.inr e)
    omega
  show behind rules at_ _ ≤ _
  unfold behind
  split <;> omega
theorem pot_news {lot : List α} {at_ : Nat} {r : List (List α × Nat)} (hr : rules.length ≤ 4) (hn : lot ≠ []) (c : ¬ (lot.length = 1 ∨ at_ = rules.length)) (ha : at_ ≤ rules.length) :
    pot rules (news num rules lot at_ ++ r) + 1 ≤ pot rules ((lot, at_) :: r) := by
  have hlt : at_ < rules.length := by
    have : ¬ at_ = rules.length := fun e => c (.inr e)
    omega
  have hl : 1 ≤ lot.length := List.length_pos_iff.mpr hn
  unfold pot
  rw [List.map_append, List.sum_append, List.map_cons, List.sum_cons]
  show _ ≤ 10 * lot.length - 9 + (rules.length - at_) + _
  by_cases c1 : (parts (fun s => num (rules.getD at_ "") s lot) lot).length = 1
  · unfold news
    rw [parts_one c1]
    have b : behind rules at_ (decide (([lot] : List (List α)).length = 1)) = at_ + 1 := by unfold behind; simp
    rw [b]
    simp only [List.map_cons, List.map_nil, List.sum_cons, List.sum_nil]
    omega
  · have hs := parts_len (fun s => num (rules.getD at_ "") s lot) lot
    have ne : ∀ q ∈ parts (fun s => num (rules.getD at_ "") s lot) lot, 1 ≤ q.length := fun q hq => List.length_pos_iff.mpr (parts_ne hq)
    have many : 2 ≤ (parts (fun s => num (rules.getD at_ "") s lot) lot).length := by
      have z : (parts (fun s => num (rules.getD at_ "") s lot) lot).length ≠ 0 := by
        intro z
        rw [List.length_eq_zero_iff.mp z] at hs
        simp at hs
        omega
      omega
    have hb : at_ ≤ behind rules at_ (decide ((parts (fun s => num (rules.getD at_ "") s lot) lot).length = 1)) := by unfold behind; split <;> omega
    have key : ∀ {l : List (List α)} {b : Nat}, (∀ q ∈ l, 1 ≤ q.length) → at_ ≤ b → ((l.map fun p => (p, b)).map fun p => 10 * p.1.length - 9 + (rules.length - p.2)).sum + 9 * l.length ≤ 10 * (l.map List.length).sum + l.length * (rules.length - at_) := by
      intro l b
      induction l with
      | nil => intro _ _; simp
      | cons a s ih =>
        intro h1 h2
        have ih2 := ih (fun q hq => h1 q (List.mem_cons_of_mem _ hq)) h2
        have ha1 := h1 a List.mem_cons_self
        simp only [List.map_cons, List.sum_cons, List.length_cons]
        have d : (s.length + 1) * (rules.length - at_) = s.length * (rules.length - at_) + (rules.length - at_) := by rw [Nat.add_mul, Nat.one_mul]
        rw [d]
        omega
    have q := key ne hb
    rw [hs] at q
    unfold news
    have four : rules.length - at_ ≤ 4 := by omega
    have m : ∀ n : Nat, 2 ≤ n → n * (rules.length - at_) + 9 ≤ 9 * n + (rules.length - at_) - 1 := by
      intro n hn2
      obtain ⟨k, rfl⟩ : ∃ k, n = k + 2 := ⟨n - 2, by omega⟩
      rw [Nat.add_mul]
      have : k * (rules.length - at_) ≤ k * 4 := Nat.mul_le_mul_left _ four
      omega
    have q2 := m _ many
    omega
end
end Mt

/-! Mp -/
/-! A league's data, its points by two ways. No program in sight. -/
namespace Mt
open PySem
abbrev Game := Str × Str × Str
structure Bk where
  sides : List Str
  win : Int
  draw : Option Int
  loss : Int
  rules : List Str
  games : List Game
  gone : List Str
def endedS (s : Str) : Bool := decide (s = "home") || decide (s = "draw") || decide (s = "away")
/-- 0 won, 1 drawn, 2 lost -/
def outF (x : Str) (g : Game) : Option Int :=
  if endedS g.2.2 = true ∧ (x = g.1 ∨ x = g.2.1) then
    (if g.2.2 = "draw" then some 1 else if decide (g.2.2 = "home") = decide (x = g.1) then some 0 else some 2)
  else none
def wth (B : Bk) (w : Int) : Int := if w = 0 then B.win else if w = 1 then B.draw.getD 0 else B.loss
def ptOf (B : Bk) (x : Str) (lot : List Str) (g : Game) : Int := match outF x g with
  | some w => if g.1 ∈ lot ∧ g.2.1 ∈ lot then wth B w else 0
  | none => 0
def pts (B : Bk) (x : Str) (lot : List Str) (gs : List Game) : Int := (gs.map (ptOf B x lot)).sum
def winsN (x : Str) (gs : List Game) : Nat := (gs.filter fun g => decide (outF x g = some 0)).length
def awayN (x : Str) (gs : List Game) : Nat := (gs.filter fun g => decide (outF x g = some 0) && decide (g.2.1 = x)).length
/-- the number that a rule gives a side of a lot -/
def num (B : Bk) (rule x : Str) (lot : List Str) : Int :=
  if rule = "points" then pts B x B.sides B.games else if rule = "wins" then (winsN x B.games : Int) else if rule = "away" then (awayN x B.games : Int) else pts B x lot B.games
theorem pts_congr {B : Bk} {x : Str} {l m : List Str} (h : ∀ s, s ∈ l ↔ s ∈ m) (gs : List Game) : pts B x l gs = pts B x m gs := by
  unfold pts
  congr 1
  refine List.map_congr_left fun g _ => ?_
  unfold ptOf
  cases outF x g with
  | none => rfl
  | some w =>
    show (if g.1 ∈ l ∧ g.2.1 ∈ l then _ else _) = (if g.1 ∈ m ∧ g.2.1 ∈ m then _ else _)
    simp only [h]
/-! ### the law's counts -/
structure Cnt where
  won : Int
  drawn : Int
  lost : Int
  away : Int
def hitB (x : Str) (others : List Str) (g : Game) : Bool := (decide (x = g.1) || decide (x = g.2.1)) && ((decide (g.1 ∈ others) || decide (g.2.1 ∈ others)) && endedS g.2.2)
def cstep (x : Str) (others : List Str) (c : Cnt) (g : Game) : Cnt :=
  if hitB x others g = true then
    (if g.2.2 = "draw" then { c with drawn := c.drawn + 1 }
     else if decide (g.1 = x) = decide (g.2.2 = "home") then { c with won := c.won + 1, away := c.away + (if decide (g.2.1 = x) = true then 1 else 0) }
     else { c with lost := c.lost + 1 })
  else c
def cnt (x : Str) (others : List Str) (gs : List Game) : Cnt := gs.foldl (cstep x others) ⟨0, 0, 0, 0⟩
theorem cnt_snoc (x : Str) (others : List Str) (gs : List Game) (g : Game) : cnt x others (gs ++ [g]) = cstep x others (cnt x others gs) g := by
  unfold cnt
  rw [List.foldl_append]
  rfl
def lawPts (B : Bk) (c : Cnt) : Int := c.won * B.win + c.drawn * B.draw.getD 0 + c.lost * B.loss
theorem hit_all {x : Str} {sides : List Str} {g : Game} (h1 : g.1 ∈ sides) : hitB x sides g = (endedS g.2.2 && (decide (x = g.1) || decide (x = g.2.1))) := by
  unfold hitB
  rw [decide_eq_true h1, Bool.true_or, Bool.true_and, Bool.and_comm]
theorem deq_comm {α : Type} [DecidableEq α] (a b : α) : decide (a = b) = decide (b = a) := by
  by_cases h : a = b
  · subst h; rfl
  · rw [decide_eq_false h, decide_eq_false (fun e => h e.symm)]
theorem bcomm (a b : Bool) : (a = b) ↔ (b = a) := ⟨Eq.symm, Eq.symm⟩
theorem outF_hit {x : Str} {g : Game} (h : (endedS g.2.2 && (decide (x = g.1) || decide (x = g.2.1))) = true) :
    outF x g = (if g.2.2 = "draw" then some 1 else if decide (g.1 = x) = decide (g.2.2 = "home") then some 0 else some 2) := by
  rw [Bool.and_eq_true, Bool.or_eq_true, decide_eq_true_eq, decide_eq_true_eq] at h
  unfold outF
  rw [if_pos h, deq_comm g.1 x]
  by_cases c : g.2.2 = "draw"
  · rw [if_pos c, if_pos c]
  · rw [if_neg c, if_neg c]
    simp only [bcomm (decide (x = g.1))]
theorem outF_miss {x : Str} {g : Game} (h : (endedS g.2.2 && (decide (x = g.1) || decide (x = g.2.1))) = false) : outF x g = none := by
  unfold outF
  rw [if_neg]
  rintro ⟨h1, h2⟩
  rw [h1, Bool.true_and, Bool.or_eq_false_iff, decide_eq_false_iff_not, decide_eq_false_iff_not] at h
  rcases h2 with h2 | h2
  · exact h.1 h2
  · exact h.2 h2
/-- points among a lot that holds the side: the others are the lot without it -/
theorem pts_law {B : Bk} {x : Str} {lot : List Str} (hx : x ∈ lot) : ∀ (gs : List Game) (c : Cnt), (∀ g ∈ gs, g.1 ≠ g.2.1) →
    lawPts B (gs.foldl (cstep x (lot.filter fun s => !decide (s = x))) c) = lawPts B c + pts B x lot gs
  | [], c, _ => by simp [pts]
  | g :: r, c, h => by
    have ih := pts_law (B := B) hx r (cstep x (lot.filter fun s => !decide (s = x)) c g) fun g' hg => h g' (List.mem_cons_of_mem _ hg)
    rw [List.foldl_cons, ih]
    unfold pts
    rw [List.map_cons, List.sum_cons]
    have ne := h g List.mem_cons_self
    have hm : ∀ s, s ∈ (lot.filter fun s => !decide (s = x)) ↔ s ∈ lot ∧ s ≠ x := by
      intro s
      rw [List.mem_filter]
      simp
    have key : lawPts B (cstep x (lot.filter fun s => !decide (s = x)) c g) = lawPts B c + ptOf B x lot g := by
      by_cases e : (endedS g.2.2 && (decide (x = g.1) || decide (x = g.2.1))) = true
      · have hit : hitB x (lot.filter fun s => !decide (s = x)) g = decide (g.1 ∈ lot ∧ g.2.1 ∈ lot) := by
          rw [Bool.and_eq_true] at e
          unfold hitB
          rw [e.2, e.1, Bool.true_and, Bool.and_true]
          have e2 := e.2
          rw [Bool.or_eq_true, decide_eq_true_eq, decide_eq_true_eq] at e2
          rw [Bool.eq_iff_iff, Bool.or_eq_true, decide_eq_true_eq, decide_eq_true_eq, decide_eq_true_eq, hm, hm]
          rcases e2 with e2 | e2
          · constructor
            · rintro (⟨_, q⟩ | ⟨q, _⟩)
              · exact absurd e2.symm q
              · exact ⟨by rw [← e2]; exact hx, q⟩
            · rintro ⟨_, q⟩
              exact .inr ⟨q, fun z => ne (by rw [← e2, z])⟩
          · constructor
            · rintro (⟨q, _⟩ | ⟨_, q⟩)
              · exact ⟨q, by rw [← e2]; exact hx⟩
              · exact absurd e2.symm q
            · rintro ⟨q, _⟩
              exact .inl ⟨q, fun z => ne (by rw [z, e2])⟩
        unfold cstep ptOf
        rw [hit, outF_hit e]
        by_cases c1 : g.1 ∈ lot ∧ g.2.1 ∈ lot
        · rw [if_pos (decide_eq_true c1)]
          by_cases c2 : g.2.2 = "draw"
          · rw [if_pos c2, if_pos c2]
            show lawPts B _ = lawPts B c + (if g.1 ∈ lot ∧ g.2.1 ∈ lot then wth B 1 else 0)
            rw [if_pos c1]
            unfold lawPts wth
            rw [if_neg (by decide), if_pos rfl]
            dsimp only
            rw [Int.add_mul]
            omega
          · rw [if_neg c2, if_neg c2]
            by_cases c3 : decide (g.1 = x) = decide (g.2.2 = "home")
            · rw [if_pos c3, if_pos c3]
              show lawPts B _ = lawPts B c + (if g.1 ∈ lot ∧ g.2.1 ∈ lot then wth B 0 else 0)
              rw [if_pos c1]
              unfold lawPts wth
              rw [if_pos rfl]
              dsimp only
              rw [Int.add_mul]
              omega
            · rw [if_neg c3, if_neg c3]
              show lawPts B _ = lawPts B c + (if g.1 ∈ lot ∧ g.2.1 ∈ lot then wth B 2 else 0)
              rw [if_pos c1]
              unfold lawPts wth
              rw [if_neg (by decide), if_neg (by decide)]
              dsimp only
              rw [Int.add_mul]
              omega
        · rw [if_neg (by rw [decide_eq_false c1]; decide)]
          have z : (match (if g.2.2 = "draw" then some 1 else if decide (g.1 = x) = decide (g.2.2 = "home") then some 0 else some 2 : Option Int) with
            | some w => if g.1 ∈ lot ∧ g.2.1 ∈ lot then wth B w else 0
            | none => 0) = 0 := by
            split
            · rw [if_neg c1]
            · rfl
          rw [z]
          omega
      · have e' : (endedS g.2.2 && (decide (x = g.1) || decide (x = g.2.1))) = false := by simpa using e
        unfold cstep ptOf
        rw [outF_miss e', if_neg]
        · exact (Int.add_zero _).symm
        · intro hh
          unfold hitB at hh
          rw [Bool.and_eq_true, Bool.and_eq_true] at hh
          rw [hh.1, hh.2.2] at e'
          cases e'
    rw [key]
    omega
/-- wins, away wins: all sides -/
theorem wins_law {x : Str} {sides : List Str} : ∀ (gs : List Game) (c : Cnt), (∀ g ∈ gs, g.1 ∈ sides) →
    (gs.foldl (cstep x sides) c).won = c.won + winsN x gs ∧ (gs.foldl (cstep x sides) c).away = c.away + awayN x gs
  | [], c, _ => by simp [winsN, awayN]
  | g :: r, c, h => by
    obtain ⟨i1, i2⟩ := wins_law (x := x) r (cstep x sides c g) fun g' hg => h g' (List.mem_cons_of_mem _ hg)
    have hit := hit_all (x := x) (h g List.mem_cons_self)
    have key : (cstep x sides c g).won = c.won + (if outF x g = some 0 then 1 else 0) ∧ (cstep x sides c g).away = c.away + (if outF x g = some 0 ∧ g.2.1 = x then 1 else 0) := by
      unfold cstep
      rw [hit]
      by_cases e : (endedS g.2.2 && (decide (x = g.1) || decide (x = g.2.1))) = true
      · rw [if_pos e, outF_hit e]
        by_cases c2 : g.2.2 = "draw"
        · rw [if_pos c2, if_pos c2]
          simp
        · rw [if_neg c2, if_neg c2]
          by_cases c3 : decide (g.1 = x) = decide (g.2.2 = "home")
          · rw [if_pos c3, if_pos c3]
            simp
          · rw [if_neg c3, if_neg c3]
            simp
      · have e' : (endedS g.2.2 && (decide (x = g.1) || decide (x = g.2.1))) = false := by simpa using e
        rw [if_neg e, outF_miss e']
        simp
    rw [List.foldl_cons, i1, i2, key.1, key.2]
    unfold winsN awayN
    rw [List.filter_cons, List.filter_cons]
    by_cases a1 : outF x g = some 0
    · by_cases a2 : g.2.1 = x
      · simp [a1, a2]; omega
      · simp [a1, a2]; omega
    · simp [a1]
/-- what a league's data must be -/
def goodName (n : Str) : Prop := 1 ≤ n.length ∧ n.length ≤ 8 ∧ ∀ c ∈ n.cps.toList, c ∈ ("abcdefghijklmnopqrstuvwxyz" : Str).cps.toList
def goodSides (l : List Str) : Prop := 2 ≤ l.length ∧ l.length ≤ 8 ∧ l.Nodup ∧ ∀ n ∈ l, goodName n
def goodScheme (w : Int) (d : Option Int) (l : Int) : Prop := 0 ≤ l ∧ l < w ∧ w ≤ 100 ∧ ∀ x, d = some x → l ≤ x ∧ x ≤ w
def ruleNames : List Str := ["points", "wins", "away", "among"]
def goodRules (l : List Str) : Prop := l.length ≤ 4 ∧ l[0]? = some ("points" : Str) ∧ l.Nodup ∧ ∀ r ∈ l, r ∈ ruleNames
def isState (s : Str) : Prop := s = "left" ∨ s = "off" ∨ endedS s = true
structure Bk.Ok (B : Bk) : Prop where
  sides : goodSides B.sides
  scheme : goodScheme B.win B.draw B.loss
  rules : goodRules B.rules
  many : B.games.length ≤ 80
  ins : ∀ g ∈ B.games, g.1 ∈ B.sides ∧ g.2.1 ∈ B.sides ∧ g.1 ≠ g.2.1
  st : ∀ g ∈ B.games, isState g.2.2
  dr : B.draw = none → ∀ g ∈ B.games, g.2.2 ≠ "draw"
  gone : ∀ x ∈ B.gone, x ∈ B.sides
  gnd : B.gone.Nodup
  off : ∀ g ∈ B.games, (g.1 ∈ B.gone ∨ g.2.1 ∈ B.gone) → g.2.2 = "off"
/-- the order, the lots being drawn as in names -/
def orderS (B : Bk) (names : List Str) : List Str := (lots (num B) B.rules names 0).flatten
end Mt

/-! SetN -/
/-! How many members a set made of unlike texts has (a list or a tuple of them): as many as there are texts. -/
namespace SetN
open PySem PySem.Spec PyProof.Rows
/-- what a list and a tuple have in common -/
structure Kind (T TI : String) (is : Heap → Addr → Array Value → Prop) (St : Addr → Addr → Array Value → Nat → Heap → Prop) : Prop where
  noSet : isSubtype (.type T) (.type "set") = pure false
  noFrz : isSubtype (.type T) (.type "frozenset") = pure false
  noDic : (Value.type T == Value.type "dict") = false
  obj : ∀ {h l items}, is h l items → ∃ dd n sl, h.get? l = some { cls := .type T, dict := dd, data := .seq items n, slots := sl }
  of : ∀ {h l items dd n sl}, h.get? l = some { cls := .type T, dict := dd, data := .seq items n, slots := sl } → is h l items
  walk : ∀ {prog : Program} {w : World} {A : Around}, A.handled = none → ∀ (I l : Addr), l ≠ I → ∀ items : Array Value, Walks prog w A I [I, l] [I] items.size (fun i v => items[i]? = some v) (St I l items)
  zero : ∀ {h I l items}, is h l items → h.get? I = some { cls := .type TI, data := .fields #[.ref l, .int 0 0] } → St I l items 0 h
  iter : ∀ {prog : Program} {w : World} {A : Around} {E : Value → Shared → Prop} {s : Shared} {l : Addr} {items : Array Value} {Q : Value → Shared → Prop}, is s.heap l items →
    Q (.ref s.heap.objs.size) { s with heap := s.heap.push { cls := .type TI, data := .fields #[.ref l, .int 0 0] } } → wpAny (model prog w) A (pyIter (.ref l)) Q E s
theorem kList : Kind "list" "list_iterator" (fun h l items => h.IsList l items) (fun I l items i h => h.IsListIter I l i ∧ h.IsList l items) where
  noSet := PySem.F.sub_list_set
  noFrz := PySem.F.sub_list_frozenset
  noDic := by decide
  obj := fun {h l items} ⟨o, ho, hc, n, hd⟩ => by
    obtain ⟨oc, od, dt, sl⟩ := o
    simp only at hc hd
    subst hc hd
    exact ⟨_, _, _, ho⟩
  of := fun {h l items dd n sl} ho => ⟨_, ho, rfl, n, rfl⟩
  walk := fun hh I l hne items => Walks.list hh I l hne items
  zero := fun {h I l items} hl hI => ⟨⟨_, hI, rfl, rfl⟩, hl⟩
  iter := fun hl hq => wpAny_pyIter_list hl hq
theorem kTuple : Kind "tuple" "tuple_iterator" (fun h l items => h.IsTuple l items) (fun I l items i h => h.IsTupleIter I l i ∧ h.IsTuple l items) where
  noSet := PySem.F.sub_tuple_set
  noFrz := PySem.F.sub_tuple_frozenset
  noDic := by decide
  obj := fun {h l items} ⟨o, ho, hc, n, hd⟩ => by
    obtain ⟨oc, od, dt, sl⟩ := o
    simp only at hc hd
    subst hc hd
    exact ⟨_, _, _, ho⟩
  of := fun {h l items dd n sl} ho => ⟨_, ho, rfl, n, rfl⟩
  walk := fun hh I l hne items => Walks.tuple hh I l hne items
  zero := fun {h I l items} hl hI => ⟨⟨_, hI, rfl, rfl⟩, hl⟩
  iter := fun hl hq => wpAny_pyIter_tuple hl hq
/-- the first i of them -/
def firstN (xs : List Str) (i : Nat) : Str → Bool := fun y => (xs.take i).any (· == y)
theorem firstN_step {xs : List Str} (nd : xs.Nodup) {i : Nat} (hi : i < xs.length) (y : Str) : (firstN xs i y || decide (y = xs.getD i Str.empty)) = firstN xs (i + 1) y := by
  unfold firstN
  rw [List.take_add_one, List.getElem?_eq_getElem hi, List.any_append, List.getD_eq_getElem?_getD, List.getElem?_eq_getElem hi]
  congr 1
  show decide (y = xs[i]) = ((xs[i] == y) || false)
  rw [Bool.or_false]
  by_cases e : y = xs[i]
  · rw [decide_eq_true e, e, beq_self_eq_true]
  · rw [decide_eq_false e]
    exact (beq_eq_false_iff_ne.mpr fun z => e z.symm).symm
theorem firstN_new {xs : List Str} (nd : xs.Nodup) {i : Nat} (hi : i < xs.length) : firstN xs i (xs.getD i Str.empty) = false := by
  unfold firstN
  rw [List.getD_eq_getElem?_getD, List.getElem?_eq_getElem hi, List.any_eq_false]
  intro z hz
  obtain ⟨j, hj, e⟩ := List.mem_take_iff_getElem.mp hz
  have hji : j < i := by omega
  intro q
  have q2 : xs[j] = xs[i] := e.trans (eq_of_beq q)
  have := (List.getElem_inj nd).mp q2
  omega
section
variable {prog : Program} {w : World} {A : Around} {R : Result → Shared → Prop} {I : Addr} {fp wr : List Addr} {G : Array GenState → Array GenState → Prop} {n : Nat} {P : Nat → Value → Prop} {St : Nat → Shared → Prop}
/-- the adding loop -/
theorem adds (W : WalksS prog w A.in1 I fp wr G n P St) (S : Addr) (out : S ∉ fp) {xs : List Str} (nd : xs.Nodup) (len : xs.length = n) (few : n < 4000) (val : ∀ i v, P i v → ∃ t, v = .str (xs.getD i Str.empty) t) (more : Nat) :
    ∀ (i : Nat) (s : Shared), i + more = n → St i s → s.heap.SetOf (PySem.strKind prog w) S (firstN xs i) i →
      (∀ s', Moved (S :: wr) G s s' → s'.heap.SetOf (PySem.strKind prog w) S (firstN xs n) n → R (.ok (.ret .none)) s') →
      codeAny (model prog w) A (.builtin "set.update.loop" ⟨[.ref S, .ref I], []⟩) R s := by
  have outW : S ∉ wr := fun z => out (W.sub _ z)
  have sub : ∀ b ∈ wr, b ∈ S :: wr := fun b z => List.mem_cons_of_mem _ z
  have stays : ∀ {h h' : Heap} {T : Str → Bool} {m : Nat}, h.SetOf (PySem.strKind prog w) S T m → (∀ o, h.get? S = some o → h'.get? S = some o) → h'.SetOf (PySem.strKind prog w) S T m := fun {h h' T m} z k => by
    obtain ⟨o, es, ep, t, ho, r⟩ := z
    exact ⟨o, es, ep, t, k o ho, r⟩
  induction more with
  | zero =>
    intro i s e st set fin
    obtain rfl : i = n := e
    refine codeAny_builtin PyProof.Rows.F.entry_set_update_loop ?_
    rw [Around.under_plainId PyProof.Rows.F.plain_set_update_loop _]
    refine wpAny_bind (W.done s _ _ st fun s' mv => ?_)
    exact wpAny_pure (fin s' (mv.mono sub) (stays set fun o ho => mv.heap S _ outW ho))
  | succ more ih =>
    intro i s e st set fin
    have lt : i < n := by omega
    have lx : i < xs.length := by omega
    refine codeAny_builtin PyProof.Rows.F.entry_set_update_loop ?_
    rw [Around.under_plainId PyProof.Rows.F.plain_set_update_loop _]
    refine wpAny_bind (W.item i s _ _ lt st fun v s' pv st' mv => ?_)
    obtain ⟨t, rfl⟩ := val i v pv
    have set1 := stays set (h' := s'.heap) fun o ho => mv.heap S _ outW ho
    show wpAny _ A.in1 (holding [Value.str (xs.getD i Str.empty) t] (setAdd S (.str (xs.getD i Str.empty) t)) >>= _) _ _ s'
    refine wpAny_bind (wpAny_holding ?_)
    unfold setAdd
    refine wpAny_holding (wpAny_bind ((PySem.strKind prog w).pyHash (k := xs.getD i Str.empty) (strKind_is _ _ _ _) ?_))
    refine wpAny_setAddHashed_of (knd := PySem.strKind prog w) (s := { s' with toks := s'.toks + 1 }) (strKind_is _ _ _ _) rfl set1 (by unfold scanBound; omega) fun h2 sb set2 => ?_
    have set3 : h2.SetOf (PySem.strKind prog w) S (firstN xs (i + 1)) (i + 1) :=
      SetOf_congr set2 (fun y => firstN_step nd lx y) (by rw [firstN_new nd lx]; rfl)
    refine wpAny_pure ⟨plainId_quiet PyProof.Rows.F.plain_set_update_loop _, ih (i + 1) _ (by omega) (W.frame _ s' _ _ st' (Nat.le_succ _) fun b hb o q => ?_) set3 fun s3 mv3 set4 => ?_⟩
    · exact (sb.2 b (fun z : b = S => out (by rw [← z]; exact hb))).trans q
    · refine fin s3 (Moved.trans W.gtrans ((mv.mono sub).then_heap (Nat.le_succ _) fun b o hb q => ?_) mv3) set4
      exact (sb.2 b (fun z : b = S => hb (by rw [z]; exact List.mem_cons_self))).trans q
end
section
variable {prog : Program} {w : World} {A : Around} {E : Value → Shared → Prop} {s : Shared}
abbrev emptyS (led : Bool) : Obj := { cls := .type "set", dict := none, data := .set #[] 0 (.fresh 0 0 led) }
theorem strs_get : ∀ {us : List Value} {xs : List Str}, StrsAre us xs → ∀ (i : Nat) (v : Value), us[i]? = some v → ∃ t, v = .str (xs.getD i Str.empty) t
  | _, _, .nil, i, v, e => by simp at e
  | _, _, .cons x t _, 0, v, e => ⟨t, (Option.some.inj e).symm⟩
  | _, _, .cons _ _ r, i + 1, v, e => strs_get r i v e
theorem call_set {T TI : String} {is : Heap → Addr → Array Value → Prop} {St : Addr → Addr → Array Value → Nat → Heap → Prop} (D : Kind T TI is St) {l : Addr} {items : Array Value} {xs : List Str} {Q : Value → Shared → Prop}
    (calm : A.handled = none) (hl : is s.heap l items) (hi : StrsAre items.toList xs) (nd : xs.Nodup) (few : xs.length < 4000)
    (q : ∀ (h' : Heap) (tk : Nat), h'.SetOf (PySem.strKind prog w) s.heap.objs.size (firstN xs xs.length) xs.length → (∀ b o, b < s.heap.objs.size → s.heap.get? b = some o → h'.get? b = some o) → Q (.ref s.heap.objs.size) { s with heap := h', toks := tk }) :
    wpAny (model prog w) A (call (.type "set") [.ref l]) Q E s := by
  have f1 := PySem.F.called_set.made
  have f2 := PySem.F.called_set.sub
  have f3 := PySem.F.called_set.notType
  have f4 := PySem.F.called_set.canCreate
  have f5 := PySem.F.typeCall_set_1 (.ref l)
  obtain ⟨c, tl, f6⟩ := PySem.F.called_set.mro
  refine wpAny_call (codeAny_of_tree ?_)
  show wpAny _ _ (callAny (.type "set") _) _ _ _
  refine wpAny_pure ⟨Code.quiet_builtin _ (by decide +kernel), codeAny_builtin PySem.F.entry_type_call ?_⟩
  rw [Around.under_plain (weight_type_call_type "set" [.ref l] []) rfl]
  repeat (any_goals (first | assumption | wp_step))
  refine codeAny_mono (code_set_new_1 (.ref l) (E := E) (Q₁ := fun obj s₁ => ∃ led : Bool, obj = .ref s.heap.objs.size ∧ s₁ = { s with heap := s.heap.push (emptyS led) }) fun led => ⟨led, rfl, rfl⟩) fun r s₁ hr => ?_
  cases r with
  | error e => exact hr
  | ok fl =>
    cases fl with
    | next => exact hr.elim
    | brk => exact hr.elim
    | cont => exact hr.elim
    | ret obj =>
      obtain ⟨led, rfl, rfl⟩ := hr
      have there : (s.heap.push (emptyS led)).get? s.heap.objs.size = some (emptyS led) := Heap.get?_push_size _ rfl
      have ty : Shared.TypeIs { s with heap := s.heap.push (emptyS led) } (.ref s.heap.objs.size) "set" := ⟨_, there, rfl⟩
      have g1 := PySem.F.called_set.init.lookup
      have g2 := PySem.F.called_set.init.bind (.ref s.heap.objs.size)
      repeat (any_goals (first | assumption | wp_step))
      refine codeAny_mono (codeAny_call_builtin (R := wants (fun r s₂ => r = .none ∧ ∃ h' tk, s₂ = { s with heap := h', toks := tk } ∧ h'.SetOf (PySem.strKind prog w) s.heap.objs.size (firstN xs xs.length) xs.length ∧
          (∀ b o, b < s.heap.objs.size → s.heap.get? b = some o → h'.get? b = some o)) E) PySem.F.called_set.init.plain PySem.F.entry_set_init (check_set_init_1 ty ?_)) fun r₂ s₂ hr₂ => ?_
      · obtain ⟨dd, m, sl, ol⟩ := D.obj hl
        have ol' : (s.heap.push (emptyS led)).get? l = some { cls := .type T, dict := dd, data := .seq items m, slots := sl } := Heap.get?_push_of_some _ ol
        have k1 := D.noSet
        have k2 := D.noFrz
        have k3 := D.noDic
        unfold Builtin.«set.__init__» noKeywords Builtin.Frozenset.updateFrom
        generalize gen : pyIter = PI
        wp_walk
        subst gen
        refine D.iter (D.of ol') ?_
        refine wpAny_bind (wpAny_runValue ?_)
        have ls : l < s.heap.objs.size := Heap.lt_size ol
        have apart : l ≠ (s.heap.push (emptyS led)).objs.size := by rw [Heap.size_push]; exact Nat.ne_of_lt (Nat.lt_succ_of_lt ls)
        have out : s.heap.objs.size ∉ [(s.heap.push (emptyS led)).objs.size, l] := by
          rw [Heap.size_push]
          simp only [List.mem_cons, List.not_mem_nil, or_false, not_or]
          exact ⟨Nat.ne_of_lt (Nat.lt_succ_self _), Nat.ne_of_gt ls⟩
        have sz : xs.length = items.size := by rw [← StrsAre.len_eq hi, Array.length_toList]
        have val : ∀ (i : Nat) (v : Value), items[i]? = some v → ∃ t, v = .str (xs.getD i Str.empty) t := fun i v hv => strs_get hi i v (by rw [Array.getElem?_toList]; exact hv)
        have ol2 : ((s.heap.push (emptyS led)).push { cls := .type TI, data := .fields #[.ref l, .int 0 0] }).get? l = some { cls := .type T, dict := dd, data := .seq items m, slots := sl } := Heap.get?_push_of_some _ ol'
        have s2 : ((s.heap.push (emptyS led)).push { cls := .type TI, data := .fields #[.ref l, .int 0 0] }).get? s.heap.objs.size = some (emptyS led) := Heap.get?_push_of_some _ there
        have calm3 : A.in1.in1.in1.handled = none := by simp [calm]
        refine adds ((D.walk calm3 _ l apart items).toS) s.heap.objs.size out nd sz (by omega) val items.size 0 _ (by omega) (D.zero (D.of ol2) (Heap.get?_push_size _ rfl)) ?S0 ?fin
        case S0 =>
          exact SetOf_congr ((setObjOf_fresh (knd := PySem.strKind prog w) led).setOf s2 (by unfold scanBound; omega)) (fun _ => rfl) rfl
        case fin =>
          intro s' mv set
          obtain ⟨h', g', d', tk', os'⟩ := s'
          have e1 : g' = s.gens := mv.gens
          have e2 : d' = s.drawn := mv.drawn
          have e3 : os' = s.os := mv.os
          subst e1 e2 e3
          show wpAny _ _ _ _ _ _
          refine wpAny_pure ?_
          show wpAny _ _ (ret Value.none) _ _ _
          refine wpAny_pure ⟨rfl, h', tk', rfl, by rw [sz]; exact set, fun b o hb e => ?_⟩
          refine mv.heap b o ?_ (Heap.get?_push_of_some _ (Heap.get?_push_of_some _ e))
          simp only [List.mem_cons, List.not_mem_nil, or_false, not_or]
          exact ⟨Nat.ne_of_lt hb, by rw [Heap.size_push]; exact Nat.ne_of_lt (Nat.lt_succ_of_lt hb)⟩
      · cases r₂ with
        | error e => exact hr₂
        | ok fl₂ =>
          cases fl₂ with
          | next => exact hr₂.elim
          | brk => exact hr₂.elim
          | cont => exact hr₂.elim
          | ret r =>
            obtain ⟨rfl, h', tk, rfl, set, keep⟩ := hr₂
            repeat (any_goals (first | assumption | wp_step))
            exact q _ _ set keep
end
end SetN
namespace Lw
open PySem PySem.Spec PyProof.Rows L2
section
variable {X : Cx}
/-- len(set(a)), a a list or a tuple of unlike texts -/
def tLenSetN (K : PySem.W.Frag) (ta : TE) : TE := fun σ H Q => ta σ H fun x H1 => ∃ (l : Addr) (xs : List Str), x = .ref l ∧ (SqL K H1 l (xs.map V.str) ∨ SqT K H1 l (xs.map V.str)) ∧ xs.Nodup ∧ xs.length < 4000 ∧ Q (.int xs.length) H1
theorem pe_lenSetN {a : Expr} {ta : TE} {p p2 q pos : Pos} (hc : X.calm = true) (hg : Gl X "len") (hm : X.mg "len" = none) (hg2 : Gl X "set") (hm2 : X.mg "set" = none) (ha : PE X a ta)
    (na : starEach [a] X.env = (false, eval a X.env) :: starEach [] X.env := by rfl) : PE X (.Call (.Name "len" p) [.Call (.Name "set" p2) [a] [] q] [] pos) (tLenSetN X.K ta) := by
  refine ⟨fun pins s σ H Q I h => ?_⟩
  refine Call_ (ld_blt I hg hm boot_len (callWith_builtin1 (args_cons ?_ rfl) rfl rfl))
  refine Call_ (ld_blt I hg2 hm2 boot_set (callWith_type1 (args_cons (thn (ha.run pins s σ H _ I h) fun v s1 hv => args_nil ?_) na) na rfl))
  obtain ⟨x, H1, I1, r1, l, xs, rfl, sq, nd, few, fin⟩ := hv
  cases r1
  have last : ∀ (its : List Value), Vals (xs.map V.str) its → ∀ (h' : Heap) (tk : Nat), h'.SetOf (PySem.strKind X.prog X.w) s1.heap.objs.size (SetN.firstN xs xs.length) xs.length → (∀ b o, b < s1.heap.objs.size → s1.heap.get? b = some o → h'.get? b = some o) →
      wpAny (model X.prog X.w) X.A (spliced (backTo pos (starEach [] X.env))) (fun vs s₂ => wpAny (model X.prog X.w) X.A (call (.builtin "len") (Value.ref s1.heap.objs.size :: vs)) (EP X pins σ Q) X.xe s₂) X.xe { s1 with heap := h', toks := tk } := fun its r h' tk set keep => by
    refine args_nil ?_
    obtain ⟨o, es, ep, t, ho, hex, hd, _, _, _, hf, hn⟩ := set
    have I2 : Inv X pins σ H1 { s1 with heap := h', toks := tk } := I1.kept fun b o e => keep b o (Heap.lt_size e) e
    exact call_len_set ho hex hd hf (by rw [hn] <;> omega) ⟨.int xs.length, H1, I2.tok _, ⟨_, by rw [hn]⟩, fin⟩
  have sre : ∀ {its : List Value}, Vals (xs.map V.str) its → StrsAre its.toArray.toList xs := fun r => by simpa using strsAre_of r
  rcases sq with sq | sq
  · obtain ⟨its, r, pl, _⟩ := I1.list sq
    exact SetN.call_set SetN.kList (I1.ok.hd hc) pl.isList (sre r) nd few fun h' tk set keep => last its r h' tk set keep
  · obtain ⟨its, r, pl, _⟩ := I1.tuple sq
    exact SetN.call_set SetN.kTuple (I1.ok.hd hc) pl (sre r) nd few fun h' tk set keep => last its r h' tk set keep
end
end Lw

/-! W1 -/
/-! The program's looks at what is handed in. -/
namespace Lw
open PySem PySem.Spec PyProof.Rows L2 Evl Mt
/-! ### flat values -/
def FlatV : V → Prop
  | .non => True
  | .bl _ => True
  | .int _ => True
  | .str _ => True
  | _ => False
def tyS : V → String
  | .bl _ => "bool"
  | .int _ => "int"
  | .str _ => "str"
  | _ => "NoneType"
theorem flat_ty {K : PySem.W.Frag} {H : Hp} : ∀ {x : V}, FlatV x → TyX K H x (.type (tyS x))
  | .non, _ => .base .non
  | .bl b, _ => .base (.bl b)
  | .int i, _ => .base (.int i)
  | .str s, _ => .base (.str s)
def isIB : V → Bool
  | .bl _ => true
  | .int _ => true
  | _ => false
def isB : V → Bool
  | .bl _ => true
  | _ => false
def isI : V → Bool
  | .int _ => true
  | _ => false
def isS : V → Bool
  | .str _ => true
  | _ => false
theorem kit_i {K : PySem.W.Frag} : ∀ {x : V}, FlatV x → PySem.W.kitOne K (.type (tyS x)) (.type "int") = some (isIB x)
  | .non, _ => kit_ty (show kitB "NoneType" "int" = some false by decide +kernel)
  | .bl b, _ => kit_ty (show kitB "bool" "int" = some true by decide +kernel)
  | .int i, _ => kit_ty (show kitB "int" "int" = some true by decide +kernel)
  | .str s, _ => kit_ty (show kitB "str" "int" = some false by decide +kernel)
theorem kit_b {K : PySem.W.Frag} : ∀ {x : V}, FlatV x → PySem.W.kitOne K (.type (tyS x)) (.type "bool") = some (isB x)
  | .non, _ => kit_ty (show kitB "NoneType" "bool" = some false by decide +kernel)
  | .bl b, _ => kit_ty (show kitB "bool" "bool" = some true by decide +kernel)
  | .int i, _ => kit_ty (show kitB "int" "bool" = some false by decide +kernel)
  | .str s, _ => kit_ty (show kitB "str" "bool" = some false by decide +kernel)
theorem kit_s {K : PySem.W.Frag} : ∀ {x : V}, FlatV x → PySem.W.kitOne K (.type (tyS x)) (.type "str") = some (isS x)
  | .non, _ => kit_ty (show kitB "NoneType" "str" = some false by decide +kernel)
  | .bl b, _ => kit_ty (show kitB "bool" "str" = some false by decide +kernel)
  | .int i, _ => kit_ty (show kitB "int" "str" = some false by decide +kernel)
  | .str s, _ => kit_ty (show kitB "str" "str" = some true by decide +kernel)
theorem is_I {x : V} : (isIB x && !isB x) = isI x := by cases x <;> rfl
/-- a promise: one value, all that was known stands -/
def spV (R : List V → Hp → V → Prop) : Sp := fun vs H Q _ => ∃ z, R vs H z ∧ ∀ H1, Ex H H1 → Q z H1
theorem spV_ev {R : List V → Hp → V → Prop} {vs : List V} {H : Hp} {z : V} (h : ∀ H1, Ex H H1 → R vs H1 z) : SpV (spV R) vs H z := fun H1 e Q q E => ⟨z, h H1 e, q⟩
/-- a list or a tuple that is tracked -/
def Sq (H : Hp) (a : Addr) (xs : List V) : Prop := H a = some (.lst xs) ∨ H a = some (.tup xs)
theorem sq_mono {H H' : Hp} {a : Addr} {xs : List V} (e : Ex H H') (h : Sq H a xs) : Sq H' a xs := h.imp (e _ _) (e _ _)
theorem sq_len {K : PySem.W.Frag} {H : Hp} {a : Addr} {xs : List V} (h : Sq H a xs) : LenV K (.ref a) H xs.length := by
  rcases h with h | h
  · exact lenL (sq_of h)
  · exact lenT (st_of h)
/-! constants -/
section
variable {X : Cx} {x : Str} {pos : Pos}
theorem pe_cI {i : Int} (hg : Gl X x) (h : ∃ t, X.mg x = some (.int i t)) (hd : (x == ("__debug__" : Str)) = false := by decide) : PE X (.Name x pos) (tC (.int i)) := by
  obtain ⟨t, h⟩ := h
  exact pe_glob hg h ⟨_, rfl⟩ hd
theorem pe_cS {i : Str} (hg : Gl X x) (h : ∃ t, X.mg x = some (.str i t)) (hd : (x == ("__debug__" : Str)) = false := by decide) : PE X (.Name x pos) (tC (.str i)) := by
  obtain ⟨t, h⟩ := h
  exact pe_glob hg h ⟨_, rfl⟩ hd
end
section
variable {K : PySem.W.Frag} {σ : L2.St} {H H' : Hp} {ta tb tc te : TE} {t u : TT} {x y z v : V} {r r' : R2}
theorem ev_chain {a b : Bool} (ha : Ev ta σ H x) (hb : Ev tb σ H y) (h1 : RV r x y H (.bl a)) (hc : Ev tc σ H z) (h2 : RV r' y z H (.bl b)) : Ev (tChain r r' ta tb tc) σ H (.bl (a && b)) := fun H1 e Q q =>
  ha H1 e _ fun H2 e2 => hb H2 (e.trans e2) _ fun H3 e3 => h1 H3 ((e.trans e2).trans e3) _ fun H4 e4 => ⟨a, rfl, by
    cases a with
    | false => exact q H4 ((e2.trans e3).trans e4)
    | true => exact hc H4 (((e.trans e2).trans e3).trans e4) _ fun H5 e5 => h2 H5 ((((e.trans e2).trans e3).trans e4).trans e5) _ fun H6 e6 => q H6 ((((e2.trans e3).trans e4).trans e5).trans e6)⟩
theorem et_chain {a b : Bool} (ha : Ev ta σ H x) (hb : Ev tb σ H y) (h1 : RV r x y H (.bl a)) (hc : Ev tc σ H z) (h2 : RV r' y z H (.bl b)) : EvT (tTest (tChain r r' ta tb tc)) σ H (a && b) := et_test (ev_chain ha hb h1 hc h2)
/-- isinstance(x, (T, U)) -/
theorem ev_isiT {ns : List String} {ct : Value} {b : Bool} {tcs : TA} (h : Ev ta σ H x) (hy : EvA tcs σ H (ns.map V.ty)) (hl : ns.length ≤ 100000) (ht : TyX K H x ct) (hk : PySem.W.kitAny K ct (ns.map Value.type) = some b) : Ev (tCB (rIsiT K) (tCons ta (tCons (tTup tcs) tNil))) σ H (.bl b) := fun H1 e Q q =>
  h H1 e _ fun H2 e2 => hy H2 (e.trans e2) _ fun H3 e3 => ⟨sz_of (by rw [List.length_map]; exact hl), fun tp hp => ⟨x, tp, ns.map V.ty, ct, ns.map Value.type, b, rfl, upd_same, (by
    clear hk hy hl
    induction ns with
    | nil => exact .nil
    | cons n ns ih => exact .cons (.ty n) ih), tyX_mono (((e.trans e2).trans e3).trans (Ex.new hp)) ht, hk, q _ ((e2.trans e3).trans (Ex.new hp))⟩⟩
end
section
variable {P : Program} {w : World} {K : PySem.W.Frag} {mg : Str → Option Value} {base : Heap}
def r_is_integer : List V → Hp → V → Prop := fun vs H z => ∃ x, vs = [x] ∧ FlatV x ∧ z = .bl (isI x)
theorem ok_is_integer (T : Tx0 K mg) : FnOk P w K mg base CX0 1 (a_is_integer K) (fd_is_integer K) p_is_integer (spV r_is_integer) := by
  refine T.f_is_integer.ok sc_is_integer (fun vs H Q E h => ?_) (fun cdv A outer s H vs Q E hr h => ?_)
  · obtain ⟨z, ⟨x, rfl, _⟩, _⟩ := h
    rfl
  · obtain ⟨z, ⟨x, rfl, hx, rfl⟩, k⟩ := h
    refine ⟨_, (pss_one (ps_ret (pe_and (pe_callB call_isi (by rfl) T.n_isinstance (by decide +kernel) (pa_cons (pv 0) (pa_cons (pe_bltn (v := .ty "int") (u := .type "int") (by rfl) T.n_int (by decide +kernel) rfl) pa_nil))) (pe_one (pe_not (pe_callB call_isi (by rfl) T.n_isinstance (by decide +kernel) (pa_cons (pv 0) (pa_cons (pe_bltn (v := .ty "bool") (u := .type "bool") (by rfl) T.n_bool (by decide +kernel) rfl) pa_nil)))))))), ?_⟩
    rw [← is_I] at k
    exact s_ret (ev_andV (ev_isi (ev_var rfl) ev_c (flat_ty hx) (kit_i hx)) fun _ => ev_notV (ev_isi (ev_var rfl) ev_c (flat_ty hx) (kit_b hx))) k
def inR : V → Int → Int → Bool
  | .int i, lo, hi => decide (lo ≤ i) && decide (i ≤ hi)
  | _, _, _ => false
def r_is_from_to : List V → Hp → V → Prop := fun vs H z => ∃ x lo hi, vs = [x, .int lo, .int hi] ∧ FlatV x ∧ z = .bl (inR x lo hi)
theorem ok_is_from_to (T : Tx0 K mg) : FnOk P w K mg base CX0 2 (a_is_from_to K) (fd_is_from_to K) p_is_from_to (spV r_is_from_to) := by
  refine T.f_is_from_to.ok sc_is_from_to (fun vs H Q E h => ?_) (fun cdv A outer s H vs Q E hr h => ?_)
  · obtain ⟨z, ⟨x, lo, hi, rfl, _⟩, _⟩ := h
    rfl
  · obtain ⟨z, ⟨x, lo, hi, rfl, hx, rfl⟩, k⟩ := h
    refine ⟨_, (pss_one (ps_ret (pe_and (pe_call (ok_is_integer T) (hr.mono (by decide)) (by rfl) T.m_is_integer T.k_is_integer T.b_is_integer .nil pass0 (pa_cons (pv 0) pa_nil)) (pe_one (pe_chain op_le op_le (pv 1) (pv 0) (pv 2)))))), ?_⟩
    refine s_ret (v := .bl (inR x lo hi)) ?_ k
    have h1 := ev_call (E := E0) (dvs := []) (ea_cons (ev_var (σ := L2.start n_is_from_to [x, .int lo, .int hi]) (H := H) (i := 0) rfl) ea_nil) (spV_ev (R := r_is_integer) fun H1 _ => ⟨x, rfl, hx, rfl⟩)
    cases x with
    | int i => exact ev_is (ev_andV h1 fun _ => ev_chain (ev_var rfl) (ev_var rfl) rv_I0 (ev_var rfl) rv_I0) (by simp [isI, inR])
    | non => exact ev_andV (b := false) h1 fun z => nomatch z
    | bl b => exact ev_andV (b := false) h1 fun z => nomatch z
    | str b => exact ev_andV (b := false) h1 fun z => nomatch z
    | _ => exact hx.elim
theorem kitL {K : PySem.W.Frag} : PySem.W.kitAny K (.type "list") (["list", "tuple"].map Value.type) = some true := by
  have h := kit_ty (K := K) (show kitB "list" "list" = some true by decide +kernel)
  simp only [List.map, PySem.W.kitAny, h]
theorem kitT {K : PySem.W.Frag} : PySem.W.kitAny K (.type "tuple") (["list", "tuple"].map Value.type) = some true := by
  have h := kit_ty (K := K) (show kitB "tuple" "list" = some false by decide +kernel)
  have h2 := kit_ty (K := K) (show kitB "tuple" "tuple" = some true by decide +kernel)
  simp only [List.map, PySem.W.kitAny, h, h2]
def r_is_sequence : List V → Hp → V → Prop := fun vs H z => ∃ a xs, vs = [.ref a] ∧ Sq H a xs ∧ z = .bl true
theorem ok_is_sequence (T : Tx0 K mg) : FnOk P w K mg base CX0 1 (a_is_sequence K) (fd_is_sequence K) p_is_sequence (spV r_is_sequence) := by
  refine T.f_is_sequence.ok sc_is_sequence (fun vs H Q E h => ?_) (fun cdv A outer s H vs Q E hr h => ?_)
  · obtain ⟨z, ⟨x, xs, rfl, _⟩, _⟩ := h
    rfl
  · obtain ⟨z, ⟨a, xs, rfl, hx, rfl⟩, k⟩ := h
    refine ⟨_, (pss_one (ps_ret (pe_callB call_isiT (by rfl) T.n_isinstance (by decide +kernel) (pa_cons (pv 0) (pa_cons (pe_tup (pa_cons (pe_bltn (v := .ty "list") (u := .type "list") (by rfl) T.n_list (by decide +kernel) rfl) (pa_cons (pe_bltn (v := .ty "tuple") (u := .type "tuple") (by rfl) T.n_tuple (by decide +kernel) rfl) pa_nil))) pa_nil))))), ?_⟩
    rcases hx with hx | hx
    · exact s_ret (ev_isiT (ns := ["list", "tuple"]) (ev_var rfl) (ea_cons ev_c (ea_cons ev_c ea_nil)) (by decide) (.base (.lst hx)) kitL) k
    · exact s_ret (ev_isiT (ns := ["list", "tuple"]) (ev_var rfl) (ea_cons ev_c (ea_cons ev_c ea_nil)) (by decide) (.base (.tup hx)) kitT) k
end
end Lw

/-! Cmp -/
/-! Comprehensions over typed items; members of texts. -/
namespace Lw
open PySem PySem.Spec PyProof.Rows L2 Evl Mt
theorem given_take {α : Type} (xs : List α) (g : α → Bool) (w : α → V) (f : Nat → Bool) (v : Nat → V) (h : ∀ i x, xs[i]? = some x → f i = g x ∧ v i = w x) : ∀ n, n ≤ xs.length → given n f v = ((xs.take n).filter g).map w
  | 0, _ => by simp [given]
  | n + 1, hn => by
    have ih := given_take xs g w f v h n (by omega)
    have hx : xs[n]? = some xs[n] := List.getElem?_eq_getElem (by omega)
    obtain ⟨h1, h2⟩ := h n _ hx
    rw [List.take_add_one, hx, List.filter_append, List.map_append]
    cases e : g xs[n] with
    | true =>
      rw [given_yes (h1.trans e), ih, h2]
      congr 1
      show _ = List.map w (List.filter g [xs[n]])
      rw [List.filter_cons, e]
      rfl
    | false =>
      rw [given_no (h1.trans e), ih]
      have : List.filter g (Option.some xs[n]).toList = [] := by
        show List.filter g [xs[n]] = []
        rw [List.filter_cons, e]
        rfl
      rw [this, List.map_nil, List.append_nil]
theorem given_all {α : Type} (xs : List α) (g : α → Bool) (w : α → V) (f : Nat → Bool) (v : Nat → V) (h : ∀ i x, xs[i]? = some x → f i = g x ∧ v i = w x) : given xs.length f v = (xs.filter g).map w := by
  rw [given_take xs g w f v h _ (Nat.le_refl _), List.take_length]
/-- the rule for a def out of which nothing is raised -/
theorem okN {P : Program} {w : World} {K : PySem.W.Frag} {mg : Str → Option Value} {base : Heap} {x qual : Str} {params : Arguments} {body : List Stmt} {scope : Scope} {dvs : List V} {kws : List (Str × V)} {fd : FuncData} {f : Addr} {N ps : List Str} {k : Nat} {sp : Sp} (F : FunD K x qual params body scope dvs kws f fd) (S : FnScope N ps scope) (len : ∀ vs H Q E, sp vs H Q E → vs.length = ps.length)
    (hbody : ∀ (cdv : Value) (A : Around) (outer : List Env) (s : Shared) (H : Hp) (vs : List V) (Q : VK) (E : XK), Room k (A.deeper (envOfC qual scope s.heap.objs.size f cdv)) → sp vs H Q E →
      ∃ t, PSs (cxOf CX0 P w K mg base N qual scope f cdv A outer s H E).nox body t ∧ t { nx := fun _ H' => Q .non H', rt := Q } (L2.start N vs) H) : FnOk P w K mg base CX0 (k + 1) f fd ps sp :=
  F.ok S len fun cdv A outer s H vs Q E hr hsp => by
    obtain ⟨t, h, q⟩ := hbody cdv A outer s H vs Q E hr hsp
    exact ⟨t, h.nox, q⟩
/-- len of a new list -/
theorem ev_lenN1 {K : PySem.W.Frag} {σ : L2.St} {H : Hp} {ta : TE} {xs : List V} {n : Nat} (h : EvL ta σ H xs) (hn : xs.length = n) : Ev (tCB (fun xs H Q => ∃ x n, xs = [x] ∧ LenV K x H n ∧ Q (.int n) H) (tCons ta tNil)) σ H (.int n) := fun H1 e Q q =>
  h H1 e _ fun p H2 _ e2 h2 => ⟨.ref p, xs.length, rfl, lenL (sq_of h2), by rw [hn]; exact q H2 e2⟩
/-- a call, by what its promise asks -/
theorem c_call {sp : Sp} {dvs vs : List V} {E : XK} {t : TA} {σ : L2.St} {H : Hp} {Q : VK} (h : EvA t σ H vs) (k : ∀ H1, Ex H H1 → sp (vs ++ dvs) H1 Q E) : tCall sp dvs E t σ H Q := h H (Ex.refl H) _ k
theorem s_retC {sp : Sp} {dvs vs : List V} {E : XK} {t : TA} {σ : L2.St} {H : Hp} {D : Ends} (h : EvA t σ H vs) (k : ∀ H1, Ex H H1 → sp (vs ++ dvs) H1 D.rt E) : tRet (tCall sp dvs E t) D σ H := h H (Ex.refl H) _ k
theorem q_asgC {sp : Sp} {dvs vs : List V} {E : XK} {t : TA} {σ : L2.St} {H : Hp} {D : Ends} {tz : TS} {i : Nat} (h : EvA t σ H vs) (k : ∀ H1, Ex H H1 → sp (vs ++ dvs) H1 (fun v H2 => tz D (σ.set i (some v)) H2) E) : tSeq (tAsg (tCall sp dvs E t) (gName i)) tz D σ H := h H (Ex.refl H) _ k
theorem q_dropC {sp : Sp} {dvs vs : List V} {E : XK} {t : TA} {σ : L2.St} {H : Hp} {D : Ends} {tz : TS} (h : EvA t σ H vs) (k : ∀ H1, Ex H H1 → sp (vs ++ dvs) H1 (fun _ H2 => tz D σ H2) E) : tSeq (tDrop (tCall sp dvs E t)) tz D σ H := h H (Ex.refl H) _ k
theorem s_dropC {sp : Sp} {dvs vs : List V} {E : XK} {t : TA} {σ : L2.St} {H : Hp} {D : Ends} (h : EvA t σ H vs) (k : ∀ H1, Ex H H1 → sp (vs ++ dvs) H1 (fun _ H2 => D.nx σ H2) E) : tDrop (tCall sp dvs E t) D σ H := h H (Ex.refl H) _ k
/-- tuple(a list) -/
theorem eu_tupL' {K : PySem.W.Frag} {σ : L2.St} {H : Hp} {ta : TE} {a : Addr} {xs : List V} (h : Ev ta σ H (.ref a)) (ha : H a = some (.lst xs)) : EvU (tCB (fun xs H Q => ∃ p ys, xs = [.ref p] ∧ ((SqL K H p ys ∧ ∀ l, H l = none → Q (.ref l) (upd H l (.tup ys))) ∨ (SqT K H p ys ∧ Q (.ref p) H))) (tCons ta tNil)) σ H xs := fun H1 e Q q =>
  h H1 e _ fun H2 e2 => ⟨a, xs, rfl, .inl ⟨sq_of (e2 _ _ (e _ _ ha)), fun l hl => q l _ (fresh_back e2 hl) (e2.trans (Ex.new hl)) upd_same⟩⟩
theorem el_is {σ : L2.St} {H : Hp} {te : TE} {xs ys : List V} (h : EvL te σ H xs) (e : xs = ys) : EvL te σ H ys := e ▸ h
theorem eu_is {σ : L2.St} {H : Hp} {te : TE} {xs ys : List V} (h : EvU te σ H xs) (e : xs = ys) : EvU te σ H ys := e ▸ h
theorem filter_yes {α : Type} (xs : List α) : xs.filter (fun _ => true) = xs := List.filter_eq_self.mpr fun _ _ => rfl
/-- a test, an item by its place -/
def atF {α : Type} (xs : List α) (g : α → Bool) (i : Nat) : Bool := match xs[i]? with
  | some x => g x
  | none => false
def atW {α : Type} (xs : List α) (w : α → V) (i : Nat) : V := match xs[i]? with
  | some x => w x
  | none => .non
theorem given_at {α : Type} (xs : List α) (g : α → Bool) (w : α → V) : given xs.length (atF xs g) (atW xs w) = (xs.filter g).map w :=
  given_all xs g w _ _ fun i x h => by simp [atF, atW, h]
theorem map_at {α β : Type} {xs : List α} {c : α → β} {i : Nat} {y : β} (h : (xs.map c)[i]? = some y) : ∃ x, xs[i]? = some x ∧ c x = y := by
  rw [List.getElem?_map] at h
  cases e : xs[i]? with
  | none => rw [e] at h; cases h
  | some x => rw [e] at h; exact ⟨x, rfl, by simpa using h⟩
section
variable {K : PySem.W.Frag} {σ : L2.St} {H H' : Hp} {tl te : TE} {t : TT} {a : Addr} {j : Nat} {vs : List Nat} {α : Type}
/-- [w(y) for y in list if g(y)] -/
theorem el_mL {ys : List α} (c : α → V) (g : α → Bool) (w : α → V) (h : Ev tl σ H (.ref a)) (hx : SqL K H a (ys.map c)) (hz : ys.length ≤ 40000) (hw : ∀ x, wipe ((wipe σ vs).set j (some x)) vs = wipe σ vs)
    (ht : ∀ y H1, y ∈ ys → Ex H H1 → EvT t ((wipe σ vs).set j (some (c y))) H1 (g y)) (he : ∀ y H1, y ∈ ys → Ex H H1 → g y = true → Ev te ((wipe σ vs).set j (some (c y))) H1 (w y)) :
    EvL (tLc (iList K tl) (gName j) t te vs) σ H ((ys.filter g).map w) := by
  have k := el_lcL (t := t) (te := te) (j := j) (vs := vs) (atF ys g) (atW ys w) h hx (by rw [List.length_map]; exact hz) hw (fun i x H1 e hi => by
    obtain ⟨y, hy, rfl⟩ := map_at hi
    have := ht y H1 (List.mem_of_getElem? hy) e
    simp only [atF, hy]
    exact this) (fun i x H1 e hi hf => by
    obtain ⟨y, hy, rfl⟩ := map_at hi
    simp only [atF, hy] at hf
    simp only [atW, hy]
    exact he y H1 (List.mem_of_getElem? hy) e hf)
  rw [List.length_map, given_at] at k
  exact k
/-- over a tuple -/
theorem el_mT {ys : List α} (c : α → V) (g : α → Bool) (w : α → V) (h : Ev tl σ H (.ref a)) (hx : SqT K H a (ys.map c)) (hz : ys.length ≤ 40000) (hw : ∀ x, wipe ((wipe σ vs).set j (some x)) vs = wipe σ vs)
    (ht : ∀ y H1, y ∈ ys → Ex H H1 → EvT t ((wipe σ vs).set j (some (c y))) H1 (g y)) (he : ∀ y H1, y ∈ ys → Ex H H1 → g y = true → Ev te ((wipe σ vs).set j (some (c y))) H1 (w y)) :
    EvL (tLc (iTup K tl) (gName j) t te vs) σ H ((ys.filter g).map w) := by
  have k := el_lcT (t := t) (te := te) (j := j) (vs := vs) (atF ys g) (atW ys w) h hx (by rw [List.length_map]; exact hz) hw (fun i x H1 e hi => by
    obtain ⟨y, hy, rfl⟩ := map_at hi
    have := ht y H1 (List.mem_of_getElem? hy) e
    simp only [atF, hy]
    exact this) (fun i x H1 e hi hf => by
    obtain ⟨y, hy, rfl⟩ := map_at hi
    simp only [atF, hy] at hf
    simp only [atW, hy]
    exact he y H1 (List.mem_of_getElem? hy) e hf)
  rw [List.length_map, given_at] at k
  exact k
/-- over range(n) -/
theorem el_mR {ta : TA} {n : Nat} (g : Nat → Bool) (w : Nat → V) (h : EvA ta σ H [.int (n : Int)]) (hz : n ≤ 40000) (hw : ∀ x, wipe ((wipe σ vs).set j (some x)) vs = wipe σ vs)
    (ht : ∀ i H1, i < n → Ex H H1 → EvT t ((wipe σ vs).set j (some (.int (i : Int)))) H1 (g i)) (he : ∀ i H1, i < n → Ex H H1 → g i = true → Ev te ((wipe σ vs).set j (some (.int (i : Int)))) H1 (w i)) :
    EvL (tLc (iRng1 ta) (gName j) t te vs) σ H (((List.range n).filter g).map w) := by
  have k := el_lcR1 (t := t) (te := te) (j := j) (vs := vs) g w h (by omega) hw (fun i H1 e hi => ht i H1 (by omega) e) (fun i H1 e hi hf => he i H1 (by omega) e hf)
  simpa [given] using k
/-- over a text -/
theorem el_mS {s : Str} (g : Nat → Bool) (w : Nat → V) (h : Ev tl σ H (.str s)) (hz : s.cps.size ≤ 40000) (hw : ∀ x, wipe ((wipe σ vs).set j (some x)) vs = wipe σ vs)
    (ht : ∀ y H1, y ∈ s.cps.toList → Ex H H1 → EvT t ((wipe σ vs).set j (some (.str ⟨#[y]⟩))) H1 (g y)) (he : ∀ y H1, y ∈ s.cps.toList → Ex H H1 → g y = true → Ev te ((wipe σ vs).set j (some (.str ⟨#[y]⟩))) H1 (w y)) :
    EvL (tLc (iStr tl) (gName j) t te vs) σ H ((s.cps.toList.filter g).map w) := by
  have k := el_lcS (t := t) (te := te) (j := j) (vs := vs) (atF s.cps.toList g) (atW s.cps.toList w) h hz hw (fun i y H1 e hi => by
    have hy : s.cps.toList[i]? = some y := by simpa using hi
    have := ht y H1 (List.mem_of_getElem? hy) e
    simp only [atF, hy]
    exact this) (fun i y H1 e hi hf => by
    have hy : s.cps.toList[i]? = some y := by simpa using hi
    simp only [atF, hy] at hf
    simp only [atW, hy]
    exact he y H1 (List.mem_of_getElem? hy) e hf)
  have e : s.cps.size = s.cps.toList.length := by simp
  rw [e, given_at] at k
  exact k
theorem et_yes {b : Bool} (hb : b = true) : EvT tYes σ H b := by
  subst hb
  exact fun H1 _ _ q => q H1 (Ex.refl H1)
/-- all([..]) -/
theorem ev_allT {bs : List Bool} {ta : TE} (hr : EvL ta σ H (bs.map V.bl)) (hb : ∀ b ∈ bs, b = true) : Ev (tCB (rAll K) (tCons ta tNil)) σ H (.bl true) := fun H1 e Q q =>
  hr H1 e _ fun p H2 _ e2 h2 => ⟨p, bs, rfl, sq_of h2, by
    have : bs.all id = true := List.all_eq_true.mpr fun b hm => by simpa using hb b hm
    rw [this]
    exact q H2 e2⟩
end
section
variable {K : PySem.W.Frag} {σ : L2.St} {H : Hp} {te : TE} {a : Addr} {i j k : Nat} {x y z : V} {tz : TS} {D : Ends}
/-- x, y, z = t -/
theorem q_unp3 (h : Ev te σ H (.ref a)) (ht : SqT K H a [x, y, z]) (n : ∀ H1, Ex H H1 → tz D (((σ.set i (some x)).set j (some y)).set k (some z)) H1) :
    tSeq (tAsg te (gTup K 3 (gCons (gName i) (gCons (gName j) (gCons (gName k) gNil))))) tz D σ H :=
  h H (Ex.refl H) _ fun H1 e1 => ⟨a, _, rfl, ex_t e1 ht, rfl, x, _, rfl, y, _, rfl, z, _, rfl, rfl, n H1 e1⟩
theorem q_unp2 (h : Ev te σ H (.ref a)) (ht : SqT K H a [x, y]) (n : ∀ H1, Ex H H1 → tz D ((σ.set i (some x)).set j (some y)) H1) :
    tSeq (tAsg te (gTup K 2 (gCons (gName i) (gCons (gName j) gNil)))) tz D σ H :=
  h H (Ex.refl H) _ fun H1 e1 => ⟨a, _, rfl, ex_t e1 ht, rfl, x, _, rfl, y, _, rfl, rfl, n H1 e1⟩
end
theorem inV_str {x : Str} : ∀ {ys : List Str}, inV (.str x) (ys.map V.str) = decide (x ∈ ys)
  | [] => rfl
  | y :: ys => by
    have ih := inV_str (x := x) (ys := ys)
    unfold inV at ih ⊢
    rw [List.map_cons, List.any_cons, ih]
    by_cases e : y = x
    · subst e
      simp [eqV]
    · have e' : (y == x) = false := by simpa using e
      have e2 : ¬ x = y := fun h => e h.symm
      simp [eqV, e', e2]
theorem flat_strs {ys : List Str} : (ys.map V.str).all flatV = true := by
  induction ys with
  | nil => rfl
  | cons y ys ih => simpa [flatV] using ih
section
variable {K : PySem.W.Frag} {H H' : Hp} {a : Addr}
theorem rv_strT {x : Str} {ys : List Str} (h : SqT K H a (ys.map V.str)) : RV (rIn K false) (.str x) (.ref a) H (.bl (decide (x ∈ ys))) := by
  have k := rv_isT (x := .str x) h rfl flat_strs
  rw [inV_str] at k
  exact k
theorem rv_strTn {x : Str} {ys : List Str} (h : SqT K H a (ys.map V.str)) : RV (rIn K true) (.str x) (.ref a) H (.bl (!decide (x ∈ ys))) := by
  have k := rv_niT (x := .str x) h rfl flat_strs
  rw [inV_str] at k
  exact k
theorem rv_strL {x : Str} {ys : List Str} (h : SqL K H a (ys.map V.str)) : RV (rIn K false) (.str x) (.ref a) H (.bl (decide (x ∈ ys))) := by
  have k := rv_isL (x := .str x) h rfl flat_strs
  rw [inV_str] at k
  exact k
theorem rv_strLn {x : Str} {ys : List Str} (h : SqL K H a (ys.map V.str)) : RV (rIn K true) (.str x) (.ref a) H (.bl (!decide (x ∈ ys))) := by
  have k := rv_niL (x := .str x) h rfl flat_strs
  rw [inV_str] at k
  exact k
theorem rv_le {i j : Int} : RV (rI0 fun i j => .bl (decide (i ≤ j))) (.int i) (.int j) H (.bl (decide (i ≤ j))) := rv_I0
theorem rv_lt {i j : Int} : RV (rI0 fun i j => .bl (decide (i < j))) (.int i) (.int j) H (.bl (decide (i < j))) := rv_I0
theorem rv_gt {i j : Int} : RV (rI0 fun i j => .bl (decide (j < i))) (.int i) (.int j) H (.bl (decide (j < i))) := rv_I0
theorem rv_add {i j : Int} : RV (rI0 fun i j => .int (i + j)) (.int i) (.int j) H (.int (i + j)) := rv_I0
theorem rv_sub {i j : Int} : RV (rI0 fun i j => .int (i - j)) (.int i) (.int j) H (.int (i - j)) := rv_I0
theorem rv_mul {i j : Int} (h : CMul i j) : RV (rI CMul fun i j => .int (i * j)) (.int i) (.int j) H (.int (i * j)) := rv_I h
theorem rv_eqS {x y : Str} : RV rEq (.str x) (.str y) H (.bl (decide (x = y))) := by
  have k := rv_eq (x := .str x) (y := .str y) (H := H) rfl
  simpa using k
theorem rv_neS {x y : Str} : RV rNe (.str x) (.str y) H (.bl (!decide (x = y))) := by
  have k := rv_ne (x := .str x) (y := .str y) (H := H) rfl
  simpa using k
theorem rv_eqI {x y : Int} : RV rEq (.int x) (.int y) H (.bl (decide (x = y))) := by
  have k := rv_eq (x := .int x) (y := .int y) (H := H) rfl
  simpa using k
theorem rv_neI {x y : Int} : RV rNe (.int x) (.int y) H (.bl (!decide (x = y))) := by
  have k := rv_ne (x := .int x) (y := .int y) (H := H) rfl
  simpa using k
theorem rv_eqB {x y : Bool} : RV rEq (.bl x) (.bl y) H (.bl (decide (x = y))) := by
  have k := rv_eq (x := .bl x) (y := .bl y) (H := H) rfl
  simpa using k
theorem rv_isN {x : V} : RV (fun x y H Q => y = .non ∧ Q (.bl (decide (x = .non))) H) x .non H (.bl (decide (x = .non))) := fun H1 _ _ q => ⟨rfl, q H1 (Ex.refl H1)⟩
theorem rv_notN {x : V} : RV (fun x y H Q => y = .non ∧ Q (.bl (!decide (x = .non))) H) x .non H (.bl (!decide (x = .non))) := fun H1 _ _ q => ⟨rfl, q H1 (Ex.refl H1)⟩
theorem rv_sign {c : Nat} {z : Str} : RV (fun x y H Q => ∃ (c : Nat) (z : Str), x = .str ⟨#[c]⟩ ∧ y = .str z ∧ Q (.bl (decide (c ∈ z.cps.toList))) H) (.str ⟨#[c]⟩) (.str z) H (.bl (decide (c ∈ z.cps.toList))) := fun H1 _ _ q => ⟨c, z, rfl, rfl, q H1 (Ex.refl H1)⟩
theorem rv_atT {xs : List V} {i : Nat} {v : V} (h : SqT K H a xs) (hi : xs[i]? = some v) : RV (rIxT K) (.ref a) (.int (i : Int)) H v := rv_ixT h (atI_nat hi)
theorem rv_atL {xs : List V} {i : Nat} {v : V} (h : SqL K H a xs) (hi : xs[i]? = some v) : RV (rIxL K) (.ref a) (.int (i : Int)) H v := rv_ixL h (atI_nat hi)
end
end Lw

/-! W2 -/
/-! The program's looks at names, sides, schemes, rules. -/
namespace Lw
open PySem PySem.Spec PyProof.Rows L2 Evl Mt
theorem cps_len {s : Str} : s.cps.size = s.length := rfl
section
variable {P : Program} {w : World} {K : PySem.W.Frag} {mg : Str → Option Value} {base : Heap}
def r_is_name : List V → Hp → V → Prop := fun vs H z => ∃ x, vs = [.str x] ∧ goodName x ∧ z = .bl true
theorem ok_is_name (T : Tx0 K mg) : FnOk P w K mg base CX0 1 (a_is_name K) (fd_is_name K) p_is_name (spV r_is_name) := by
  refine T.f_is_name.ok sc_is_name (fun vs H Q E h => ?_) (fun cdv A outer s H vs Q E hr h => ?_)
  · obtain ⟨z, ⟨x, rfl, _⟩, _⟩ := h
    rfl
  · obtain ⟨z, ⟨x, rfl, ⟨h1, h2, h3⟩, rfl⟩, k⟩ := h
    refine ⟨_, (pss_cons (ps_if (PW.pt (pw_or (pt_not (pt_val (pe_callB call_isi (by rfl) T.n_isinstance (by decide +kernel) (pa_cons (pv 0) (pa_cons (pe_bltn (v := .ty "str") (u := .type "str") (by rfl) T.n_str (by decide +kernel) rfl) pa_nil))))) (pw_or1 (pt_not (pt_chain op_le op_le pe_int (pe_callB call_len (by rfl) T.n_len (by decide +kernel) (pa_cons (pv 0) pa_nil)) (pe_cI (by rfl) T.c_MOST_LETTERS)))))) (pss_one (ps_ret pe_bl)) pss_nil)
    (pss_one (ps_ret (pe_callB (cr_all rfl) (by rfl) T.n_all (by decide +kernel) (pa_cons (pe_lc (own := [("sign", 1)]) (g := gName 1) (tt := tYes) (te := (tOp (fun x y H Q => ∃ (c : Nat) (z : Str), x = .str ⟨#[c]⟩ ∧ y = .str z ∧ Q (.bl (decide (c ∈ z.cps.toList))) H) (tVar 1) (tC (.str "abcdefghijklmnopqrstuvwxyz")))) rfl sc_is_name.nd (pi_str (pv 0)) (blkOk_by (N := n_is_name) (sc := defScope s_is_name) (by decide +kernel)) (fun _ _ _ _ _ => pg_name (i := 1) sc_is_name.nd rfl (by first | exact .inl rfl | exact .inr rfl)) (fun _ _ _ _ _ => pts_nil) (fun _ _ _ _ _ => (pe_cmpR op_in_sign (pv 1) (pe_cS (by rfl) T.c_LETTERS) (by rfl)))) pa_nil))))), ?_⟩
    refine q_when (b := false) (et_is (et_or (et_not (et_B (ev_isi (ev_var rfl) ev_c (flat_ty (x := .str x) trivial) (kit_s trivial)))) fun _ => et_not (et_chain ev_c (ev_lenV (ev_var rfl) (lenS (by omega))) rv_I0 ev_c rv_I0)) ?_) (fun z => nomatch z) fun _ H1 e1 => ?_
    · simp only [isS]
      have a1 : (1 : Int) ≤ x.length := by omega
      have a2 : (x.length : Int) ≤ 8 := by omega
      simp [a1, a2]
    · have l := el_mS (H := H1) (σ := L2.start n_is_name [.str x]) (tl := tVar 0) (t := tYes) (te := tOp (fun x y H Q => ∃ (c : Nat) (z : Str), x = .str ⟨#[c]⟩ ∧ y = .str z ∧ Q (.bl (decide (c ∈ z.cps.toList))) H) (tVar 1) (tC (.str "abcdefghijklmnopqrstuvwxyz"))) (j := 1) (vs := [1]) (fun _ => true) (fun c => .bl (decide (c ∈ ("abcdefghijklmnopqrstuvwxyz" : Str).cps.toList))) (ev_var rfl) (by rw [cps_len]; omega) (fun _ => rfl) (fun _ _ _ _ => et_yes rfl) (fun c H2 hc e hg => ev_op (ev_var rfl) ev_c rv_sign)
      rw [filter_yes, show (fun c => V.bl (decide (c ∈ ("abcdefghijklmnopqrstuvwxyz" : Str).cps.toList))) = V.bl ∘ (fun c => decide (c ∈ ("abcdefghijklmnopqrstuvwxyz" : Str).cps.toList)) from rfl, ← List.map_map] at l
      exact s_ret (ev_allT l fun b hb => by
        obtain ⟨c, hc, rfl⟩ := List.mem_map.mp hb
        simpa using h3 c hc) fun H2 e2 => k H2 (e1.trans e2)
def r_are_unlike : List V → Hp → V → Prop := fun vs H z => ∃ (a : Addr) (xs : List Str), vs = [.ref a] ∧ Sq H a (xs.map V.str) ∧ xs.Nodup ∧ xs.length ≤ 100 ∧ z = .bl true
theorem ev_lenSetN {σ : L2.St} {H : Hp} {ta : TE} {a : Addr} {xs : List Str} (h : Ev ta σ H (.ref a)) (hs : Sq H a (xs.map V.str)) (nd : xs.Nodup) (hl : xs.length ≤ 100) : Ev (tLenSetN K ta) σ H (.int xs.length) := fun H1 e Q q =>
  h H1 e _ fun H2 e2 => ⟨a, xs, rfl, (sq_mono (e.trans e2) hs).imp sq_of st_of, nd, by omega, q H2 e2⟩
theorem ok_are_unlike (T : Tx0 K mg) : FnOk P w K mg base CX0 1 (a_are_unlike K) (fd_are_unlike K) p_are_unlike (spV r_are_unlike) := by
  refine T.f_are_unlike.ok sc_are_unlike (fun vs H Q E h => ?_) (fun cdv A outer s H vs Q E hr h => ?_)
  · obtain ⟨z, ⟨x, xs, rfl, _⟩, _⟩ := h
    rfl
  · obtain ⟨z, ⟨a, xs, rfl, hs, nd, hl, rfl⟩, k⟩ := h
    refine ⟨_, (pss_one (ps_ret (pe_cmpR op_eq (pe_lenSetN (by rfl) (by rfl) T.n_len (by rfl) T.n_set (pv 0)) (pe_callB call_len (by rfl) T.n_len (by decide +kernel) (pa_cons (pv 0) pa_nil)) (by rfl)))), ?_⟩
    have hn := sq_len (K := K) hs
    rw [List.length_map] at hn
    exact s_ret (ev_is (ev_op (ev_lenSetN (ev_var rfl) hs nd hl) (ev_lenV (ev_var rfl) hn) rv_eqI) (by simp)) k
def r_are_sides : List V → Hp → V → Prop := fun vs H z => ∃ (a : Addr) (xs : List Str), vs = [.ref a] ∧ Sq H a (xs.map V.str) ∧ goodSides xs ∧ z = .bl true
theorem ok_are_sides (T : Tx0 K mg) : FnOk P w K mg base CX0 2 (a_are_sides K) (fd_are_sides K) p_are_sides (spV r_are_sides) := by
  refine T.f_are_sides.ok sc_are_sides (fun vs H Q E h => ?_) (fun cdv A outer s H vs Q E hr h => ?_)
  · obtain ⟨z, ⟨x, xs, rfl, _⟩, _⟩ := h
    rfl
  · obtain ⟨z, ⟨a, xs, rfl, hs, ⟨h1, h2, h3, h4⟩, rfl⟩, k⟩ := h
    have hn := sq_len (K := K) hs
    rw [List.length_map] at hn
    have first : EvT (tOr (tNot (tB (tCall (spV r_is_sequence) [] E0 (tCons (tVar 0) tNil)))) (tNot (tTest (tChain (rI0 fun i j => .bl (decide (i ≤ j))) (rI0 fun i j => .bl (decide (i ≤ j))) (tC (.int 2)) (tCB (fun xs H Q => ∃ x n, xs = [x] ∧ LenV K x H n ∧ Q (.int n) H) (tCons (tVar 0) tNil)) (tC (.int 8)))))) (L2.start n_are_sides [.ref a]) H false := by
      refine et_is (et_or (et_not (et_B (ev_call (ea_cons (ev_var rfl) ea_nil) (spV_ev (R := r_is_sequence) fun H1 e => ⟨a, _, rfl, sq_mono e hs, rfl⟩)))) fun _ => et_not (et_chain ev_c (ev_lenV (ev_var rfl) hn) rv_I0 ev_c rv_I0)) ?_
      have a1 : (2 : Int) ≤ xs.length := by omega
      have a2 : (xs.length : Int) ≤ 8 := by omega
      simp [a1, a2]
    have last : ∀ H1, Ex H H1 → Ev (tCall (spV r_are_unlike) [] E0 (tCons (tVar 0) tNil)) (L2.start n_are_sides [.ref a]) H1 (.bl true) := fun H1 e1 =>
      ev_call (ea_cons (ev_var rfl) ea_nil) (spV_ev (R := r_are_unlike) fun H2 e => ⟨a, _, rfl, sq_mono (e1.trans e) hs, h3, by omega, rfl⟩)
    have one : ∀ y H1, y ∈ xs → Ev (tCall (spV r_is_name) [] E0 (tCons (tVar 1) tNil)) ((wipe (L2.start n_are_sides [.ref a]) [1]).set 1 (some (.str y))) H1 (.bl true) := fun y H1 hy =>
      ev_call (ea_cons (ev_var rfl) ea_nil) (spV_ev (R := r_is_name) fun H2 e => ⟨y, rfl, h4 y hy, rfl⟩)
    have bs : ∀ b ∈ xs.map (fun _ => true), b = true := fun b hb => by
      obtain ⟨_, _, rfl⟩ := List.mem_map.mp hb
      rfl
    rcases hs with hs | hs
    · refine ⟨_, (pss_cons (ps_if (PW.pt (pw_or (pt_not (pt_val (pe_call (ok_is_sequence T) (hr.mono (by decide)) (by rfl) T.m_is_sequence T.k_is_sequence T.b_is_sequence .nil pass0 (pa_cons (pv 0) pa_nil)))) (pw_or1 (pt_not (pt_chain op_le op_le (pe_cI (by rfl) T.c_LEAST_SIDES) (pe_callB call_len (by rfl) T.n_len (by decide +kernel) (pa_cons (pv 0) pa_nil)) (pe_cI (by rfl) T.c_MOST_SIDES)))))) (pss_one (ps_ret pe_bl)) pss_nil)
    (pss_one (ps_ret (pe_and (pe_callB (cr_all rfl) (by rfl) T.n_all (by decide +kernel) (pa_cons (pe_lc (own := [("one", 1)]) (g := gName 1) (tt := tYes) (te := (tCall (spV r_is_name) [] E0 (tCons (tVar 1) tNil))) rfl sc_are_sides.nd (pi_list (pv 0)) (blkOk_by (N := n_are_sides) (sc := defScope s_are_sides) (by decide +kernel)) (fun _ _ _ _ _ => pg_name (i := 1) sc_are_sides.nd rfl (by first | exact .inl rfl | exact .inr rfl)) (fun _ _ _ _ _ => pts_nil) (fun _ _ _ _ _ => (pe_call (ok_is_name T) (hr.mono (by decide)) (by rfl) T.m_is_name T.k_is_name T.b_is_name .nil pass0 (pa_cons (pv 1) pa_nil)))) pa_nil)) (pe_one (pe_call (ok_are_unlike T) (hr.mono (by decide)) (by rfl) T.m_are_unlike T.k_are_unlike T.b_are_unlike .nil pass0 (pa_cons (pv 0) pa_nil))))))), ?_⟩
      refine q_when first (fun z => nomatch z) fun _ H1 e1 => ?_
      have l := el_mL (K := K) (H := H1) (tl := tVar 0) (t := tYes) (te := tCall (spV r_is_name) [] E0 (tCons (tVar 1) tNil)) (σ := L2.start n_are_sides [.ref a]) (j := 1) (vs := [1]) V.str (fun _ => true) (V.bl ∘ fun _ => true) (ev_var rfl) (sq_of (e1 _ _ hs)) (by omega) (fun _ => rfl) (fun _ _ _ _ => et_yes rfl) (fun y H2 hy e hg => one y H2 hy)
      rw [filter_yes, ← List.map_map] at l
      exact s_ret (ev_andV (ev_allT l bs) fun _ => last H1 e1) fun H2 e2 => k H2 (e1.trans e2)
    · refine ⟨_, (pss_cons (ps_if (PW.pt (pw_or (pt_not (pt_val (pe_call (ok_is_sequence T) (hr.mono (by decide)) (by rfl) T.m_is_sequence T.k_is_sequence T.b_is_sequence .nil pass0 (pa_cons (pv 0) pa_nil)))) (pw_or1 (pt_not (pt_chain op_le op_le (pe_cI (by rfl) T.c_LEAST_SIDES) (pe_callB call_len (by rfl) T.n_len (by decide +kernel) (pa_cons (pv 0) pa_nil)) (pe_cI (by rfl) T.c_MOST_SIDES)))))) (pss_one (ps_ret pe_bl)) pss_nil)
    (pss_one (ps_ret (pe_and (pe_callB (cr_all rfl) (by rfl) T.n_all (by decide +kernel) (pa_cons (pe_lc (own := [("one", 1)]) (g := gName 1) (tt := tYes) (te := (tCall (spV r_is_name) [] E0 (tCons (tVar 1) tNil))) rfl sc_are_sides.nd (pi_tup (pv 0)) (blkOk_by (N := n_are_sides) (sc := defScope s_are_sides) (by decide +kernel)) (fun _ _ _ _ _ => pg_name (i := 1) sc_are_sides.nd rfl (by first | exact .inl rfl | exact .inr rfl)) (fun _ _ _ _ _ => pts_nil) (fun _ _ _ _ _ => (pe_call (ok_is_name T) (hr.mono (by decide)) (by rfl) T.m_is_name T.k_is_name T.b_is_name .nil pass0 (pa_cons (pv 1) pa_nil)))) pa_nil)) (pe_one (pe_call (ok_are_unlike T) (hr.mono (by decide)) (by rfl) T.m_are_unlike T.k_are_unlike T.b_are_unlike .nil pass0 (pa_cons (pv 0) pa_nil))))))), ?_⟩
      refine q_when first (fun z => nomatch z) fun _ H1 e1 => ?_
      have l := el_mT (K := K) (H := H1) (tl := tVar 0) (t := tYes) (te := tCall (spV r_is_name) [] E0 (tCons (tVar 1) tNil)) (σ := L2.start n_are_sides [.ref a]) (j := 1) (vs := [1]) V.str (fun _ => true) (V.bl ∘ fun _ => true) (ev_var rfl) (st_of (e1 _ _ hs)) (by omega) (fun _ => rfl) (fun _ _ _ _ => et_yes rfl) (fun y H2 hy e hg => one y H2 hy)
      rw [filter_yes, ← List.map_map] at l
      exact s_ret (ev_andV (ev_allT l bs) fun _ => last H1 e1) fun H2 e2 => k H2 (e1.trans e2)
/-- a scheme's three -/
def optV : Option Int → V
  | some d => .int d
  | none => .non
def schV (W : Int) (d : Option Int) (l : Int) : List V := [.int W, optV d, .int l]
def r_is_scheme : List V → Hp → V → Prop := fun vs H z => ∃ a W d l, vs = [.ref a] ∧ H a = some (.tup (schV W d l)) ∧ goodScheme W d l ∧ z = .bl true
theorem ok_is_scheme (T : Tx0 K mg) : FnOk P w K mg base CX0 3 (a_is_scheme K) (fd_is_scheme K) p_is_scheme (spV r_is_scheme) := by
  refine T.f_is_scheme.ok sc_is_scheme (fun vs H Q E h => ?_) (fun cdv A outer s H vs Q E hr h => ?_)
  · obtain ⟨z, ⟨x, W, d, l, rfl, _⟩, _⟩ := h
    rfl
  · obtain ⟨z, ⟨a, W, d, l, rfl, hs, ⟨g1, g2, g3, g4⟩, rfl⟩, k⟩ := h
    refine ⟨_, (pss_cons (ps_if (PW.pt (pw_or (pt_not (pt_val (pe_call (ok_is_sequence T) (hr.mono (by decide)) (by rfl) T.m_is_sequence T.k_is_sequence T.b_is_sequence .nil pass0 (pa_cons (pv 0) pa_nil)))) (pw_or1 (pt_cmpR op_ne (pe_callB call_len (by rfl) T.n_len (by decide +kernel) (pa_cons (pv 0) pa_nil)) pe_int (by rfl))))) (pss_one (ps_ret pe_bl)) pss_nil)
    (pss_cons (ps_asg (pv 0) (pg_tup (by rfl) (pgs_cons (pg_name (i := 1) sc_is_scheme.nd rfl (by first | exact .inl rfl | exact .inr rfl)) (pgs_cons (pg_name (i := 2) sc_is_scheme.nd rfl (by first | exact .inl rfl | exact .inr rfl)) (pgs_cons (pg_name (i := 3) sc_is_scheme.nd rfl (by first | exact .inl rfl | exact .inr rfl)) pgs_nil)))))
    (pss_cons (ps_if (PW.pt (pw_or (pt_not (pt_val (pe_call (ok_is_from_to T) (hr.mono (by decide)) (by rfl) T.m_is_from_to T.k_is_from_to T.b_is_from_to .nil pass0 (pa_cons (pv 1) (pa_cons pe_int (pa_cons (pe_cI (by rfl) T.c_MOST_POINTS) pa_nil)))))) (pw_or (pt_not (pt_val (pe_call (ok_is_from_to T) (hr.mono (by decide)) (by rfl) T.m_is_from_to T.k_is_from_to T.b_is_from_to .nil pass0 (pa_cons (pv 3) (pa_cons pe_int (pa_cons (pe_cI (by rfl) T.c_MOST_POINTS) pa_nil)))))) (pw_or1 (pt_cmpR op_le (pv 1) (pv 3) (by rfl)))))) (pss_one (ps_ret pe_bl)) pss_nil)
    (pss_one (ps_ret (pe_or (pe_cmpR op_isN (pv 2) pe_non (by rfl)) (pe_one (pe_call (ok_is_from_to T) (hr.mono (by decide)) (by rfl) T.m_is_from_to T.k_is_from_to T.b_is_from_to .nil pass0 (pa_cons (pv 2) (pa_cons (pv 3) (pa_cons (pv 1) pa_nil))))))))))), ?_⟩
    refine q_when (b := false) (et_is (et_or (et_not (et_B (ev_call (ea_cons (ev_var rfl) ea_nil) (spV_ev (R := r_is_sequence) fun H1 e => ⟨a, _, rfl, .inr (e _ _ hs), rfl⟩)))) fun _ => et_test (ev_op (ev_lenV (ev_var rfl) (lenT (st_of hs))) ev_c rv_neI)) (by simp [schV])) (fun z => nomatch z) fun _ H1 e1 => ?_
    refine q_unp3 (ev_var rfl) (st_of (e1 _ _ hs)) fun H2 e2 => ?_
    replace e1 := e1.trans e2
    clear e2
    have c1 : inR (.int W) 0 100 = true := by simp [inR]; omega
    have c2 : inR (.int l) 0 100 = true := by simp [inR]; omega
    refine q_when (b := false) (et_is (et_or (et_not (et_B (ev_call (ea_cons (ev_var rfl) (ea_cons ev_c (ea_cons ev_c ea_nil))) (spV_ev (R := r_is_from_to) fun H1 e => ⟨.int _, _, _, rfl, trivial, rfl⟩)))) fun _ => et_or (et_not (et_B (ev_call (ea_cons (ev_var rfl) (ea_cons ev_c (ea_cons ev_c ea_nil))) (spV_ev (R := r_is_from_to) fun H1 e => ⟨.int _, _, _, rfl, trivial, rfl⟩)))) fun _ => et_test (ev_op (ev_var rfl) (ev_var rfl) rv_le)) ?_) (fun z => nomatch z) fun _ H3 e2 => ?_
    · rw [c1, c2]
      have : ¬ W ≤ l := by omega
      simp [this]
    · cases d with
      | none => exact s_ret (ev_orV (a := true) (b := true) (ev_op (ev_var rfl) ev_c rv_isN) fun z => nomatch z) fun H4 e3 => k H4 ((e1.trans e2).trans e3)
      | some d =>
        have c3 : inR (.int d) l W = true := by
          have := g4 d rfl
          simp [inR]; omega
        refine s_ret (ev_orV (a := false) (ev_op (ev_var rfl) ev_c rv_isN) fun _ => ev_is (ev_call (ea_cons (ev_var rfl) (ea_cons (ev_var rfl) (ea_cons (ev_var rfl) ea_nil))) (spV_ev (R := r_is_from_to) fun H1 e => ⟨.int _, _, _, rfl, trivial, rfl⟩)) (by rw [c3])) fun H4 e3 => k H4 ((e1.trans e2).trans e3)
theorem t1r (T : Tx0 K mg) (H : Hp) : SqT K H (He.ga K "RULES") (ruleNames.map V.str) := T.t1 H
def r_are_rules : List V → Hp → V → Prop := fun vs H z => ∃ a xs, vs = [.ref a] ∧ Sq H a (xs.map V.str) ∧ goodRules xs ∧ z = .bl true
theorem ok_are_rules (T : Tx0 K mg) : FnOk P w K mg base CX0 2 (a_are_rules K) (fd_are_rules K) p_are_rules (spV r_are_rules) := by
  refine T.f_are_rules.ok sc_are_rules (fun vs H Q E h => ?_) (fun cdv A outer s H vs Q E hr h => ?_)
  · obtain ⟨z, ⟨x, xs, rfl, _⟩, _⟩ := h
    rfl
  · obtain ⟨z, ⟨a, xs, rfl, hs, ⟨h1, h2, h3, h4⟩, rfl⟩, k⟩ := h
    have hn := sq_len (K := K) hs
    rw [List.length_map] at hn
    have hp : 0 < xs.length := by
      cases xs with
      | nil => cases h2
      | cons _ _ => simp
    have first : EvT (tOr (tNot (tB (tCall (spV r_is_sequence) [] E0 (tCons (tVar 0) tNil)))) (tTest (tOp rEq (tCB (fun xs H Q => ∃ x n, xs = [x] ∧ LenV K x H n ∧ Q (.int n) H) (tCons (tVar 0) tNil)) (tC (.int 0))))) (L2.start n_are_rules [.ref a]) H false := by
      refine et_is (et_or (et_not (et_B (ev_call (ea_cons (ev_var rfl) ea_nil) (spV_ev (R := r_is_sequence) fun H1 e => ⟨a, _, rfl, sq_mono e hs, rfl⟩)))) fun _ => et_test (ev_op (ev_lenV (ev_var rfl) hn) ev_c rv_eqI)) ?_
      have a1 : ¬ (xs.length : Int) = 0 := by omega
      rw [decide_eq_false a1]
      rfl
    have last : ∀ H1, Ex H H1 → Ev (tCall (spV r_are_unlike) [] E0 (tCons (tVar 0) tNil)) (L2.start n_are_rules [.ref a]) H1 (.bl true) := fun H1 e1 =>
      ev_call (ea_cons (ev_var rfl) ea_nil) (spV_ev (R := r_are_unlike) fun H2 e => ⟨a, _, rfl, sq_mono (e1.trans e) hs, h3, by omega, rfl⟩)
    have one : ∀ y H1, y ∈ xs → Ev (tAndV (tCB (rIsi K) (tCons (tVar 1) (tCons (tC (.ty "str")) tNil))) (tOp (rIn K false) (tVar 1) (tC (.ref (He.ga K "RULES"))))) ((wipe (L2.start n_are_rules [.ref a]) [1]).set 1 (some (.str y))) H1 (.bl true) := fun y H1 hy =>
      ev_andV (a := true) (ev_isi (ev_var rfl) ev_c (flat_ty (x := .str y) trivial) (kit_s trivial)) fun _ => ev_is (ev_op (ev_var rfl) ev_c (rv_strT (t1r T H1))) (by simpa using h4 y hy)
    have bs : ∀ b ∈ xs.map (fun _ => true), b = true := fun b hb => by
      obtain ⟨_, _, rfl⟩ := List.mem_map.mp hb
      rfl
    have z0 : (xs.map V.str)[0]? = some (.str "points") := by
      rw [List.getElem?_map, h2]
      rfl
    rcases hs with hs | hs
    · refine ⟨_, (pss_cons (ps_if (PW.pt (pw_or (pt_not (pt_val (pe_call (ok_is_sequence T) (hr.mono (by decide)) (by rfl) T.m_is_sequence T.k_is_sequence T.b_is_sequence .nil pass0 (pa_cons (pv 0) pa_nil)))) (pw_or1 (pt_cmpR op_eq (pe_callB call_len (by rfl) T.n_len (by decide +kernel) (pa_cons (pv 0) pa_nil)) pe_int (by rfl))))) (pss_one (ps_ret pe_bl)) pss_nil)
    (pss_cons (ps_if (pt_not (pt_val (pe_callB (cr_all rfl) (by rfl) T.n_all (by decide +kernel) (pa_cons (pe_lc (own := [("one", 1)]) (g := gName 1) (tt := tYes) (te := (tAndV (tCB (rIsi K) (tCons (tVar 1) (tCons (tC (.ty "str")) tNil))) (tOp (rIn K false) (tVar 1) (tC (.ref (He.ga K "RULES")))))) rfl sc_are_rules.nd (pi_list (pv 0)) (blkOk_by (N := n_are_rules) (sc := defScope s_are_rules) (by decide +kernel)) (fun _ _ _ _ _ => pg_name (i := 1) sc_are_rules.nd rfl (by first | exact .inl rfl | exact .inr rfl)) (fun _ _ _ _ _ => pts_nil) (fun _ _ _ _ _ => (pe_and (pe_callB call_isi (by rfl) T.n_isinstance (by decide +kernel) (pa_cons (pv 1) (pa_cons (pe_bltn (v := .ty "str") (u := .type "str") (by rfl) T.n_str (by decide +kernel) rfl) pa_nil))) (pe_one (pe_cmpR op_in_seq (pv 1) (pe_glob (v := .ref (He.ga K "RULES")) (by rfl) T.g_RULES rfl) (by rfl)))))) pa_nil)))) (pss_one (ps_ret pe_bl)) pss_nil)
    (pss_one (ps_ret (pe_and (pe_cmpR op_eq (pe_ix ix_list (pv 0) pe_int (fun _ _ => rfl)) (pe_ix ix_tup (pe_glob (v := .ref (He.ga K "RULES")) (by rfl) T.g_RULES rfl) pe_int (fun _ _ => rfl)) (by rfl)) (pe_one (pe_call (ok_are_unlike T) (hr.mono (by decide)) (by rfl) T.m_are_unlike T.k_are_unlike T.b_are_unlike .nil pass0 (pa_cons (pv 0) pa_nil)))))))), ?_⟩
      refine q_when first (fun z => nomatch z) fun _ H1 e1 => ?_
      have l := el_mL (K := K) (H := H1) (tl := tVar 0) (t := tYes) (te := tAndV (tCB (rIsi K) (tCons (tVar 1) (tCons (tC (.ty "str")) tNil))) (tOp (rIn K false) (tVar 1) (tC (.ref (He.ga K "RULES"))))) (σ := L2.start n_are_rules [.ref a]) (j := 1) (vs := [1]) V.str (fun _ => true) (V.bl ∘ fun _ => true) (ev_var rfl) (sq_of (e1 _ _ hs)) (by omega) (fun _ => rfl) (fun _ _ _ _ => et_yes rfl) (fun y H2 hy e hg => one y H2 hy)
      rw [filter_yes, ← List.map_map] at l
      refine q_when (b := false) (et_not (et_B (ev_allT l bs))) (fun z => nomatch z) fun _ H2 e2 => ?_
      exact s_ret (ev_andV (a := true) (ev_is (ev_op (ev_op (ev_var rfl) ev_c (rv_atL (i := 0) (sq_of ((e1.trans e2) _ _ hs)) z0)) (ev_op ev_c ev_c (rv_atT (i := 0) (t1r T H2) rfl)) rv_eqS) (by simp)) fun _ => last H2 (e1.trans e2)) fun H3 e3 => k H3 ((e1.trans e2).trans e3)
    · refine ⟨_, (pss_cons (ps_if (PW.pt (pw_or (pt_not (pt_val (pe_call (ok_is_sequence T) (hr.mono (by decide)) (by rfl) T.m_is_sequence T.k_is_sequence T.b_is_sequence .nil pass0 (pa_cons (pv 0) pa_nil)))) (pw_or1 (pt_cmpR op_eq (pe_callB call_len (by rfl) T.n_len (by decide +kernel) (pa_cons (pv 0) pa_nil)) pe_int (by rfl))))) (pss_one (ps_ret pe_bl)) pss_nil)
    (pss_cons (ps_if (pt_not (pt_val (pe_callB (cr_all rfl) (by rfl) T.n_all (by decide +kernel) (pa_cons (pe_lc (own := [("one", 1)]) (g := gName 1) (tt := tYes) (te := (tAndV (tCB (rIsi K) (tCons (tVar 1) (tCons (tC (.ty "str")) tNil))) (tOp (rIn K false) (tVar 1) (tC (.ref (He.ga K "RULES")))))) rfl sc_are_rules.nd (pi_tup (pv 0)) (blkOk_by (N := n_are_rules) (sc := defScope s_are_rules) (by decide +kernel)) (fun _ _ _ _ _ => pg_name (i := 1) sc_are_rules.nd rfl (by first | exact .inl rfl | exact .inr rfl)) (fun _ _ _ _ _ => pts_nil) (fun _ _ _ _ _ => (pe_and (pe_callB call_isi (by rfl) T.n_isinstance (by decide +kernel) (pa_cons (pv 1) (pa_cons (pe_bltn (v := .ty "str") (u := .type "str") (by rfl) T.n_str (by decide +kernel) rfl) pa_nil))) (pe_one (pe_cmpR op_in_seq (pv 1) (pe_glob (v := .ref (He.ga K "RULES")) (by rfl) T.g_RULES rfl) (by rfl)))))) pa_nil)))) (pss_one (ps_ret pe_bl)) pss_nil)
    (pss_one (ps_ret (pe_and (pe_cmpR op_eq (pe_ix ix_tup (pv 0) pe_int (fun _ _ => rfl)) (pe_ix ix_tup (pe_glob (v := .ref (He.ga K "RULES")) (by rfl) T.g_RULES rfl) pe_int (fun _ _ => rfl)) (by rfl)) (pe_one (pe_call (ok_are_unlike T) (hr.mono (by decide)) (by rfl) T.m_are_unlike T.k_are_unlike T.b_are_unlike .nil pass0 (pa_cons (pv 0) pa_nil)))))))), ?_⟩
      refine q_when first (fun z => nomatch z) fun _ H1 e1 => ?_
      have l := el_mT (K := K) (H := H1) (tl := tVar 0) (t := tYes) (te := tAndV (tCB (rIsi K) (tCons (tVar 1) (tCons (tC (.ty "str")) tNil))) (tOp (rIn K false) (tVar 1) (tC (.ref (He.ga K "RULES"))))) (σ := L2.start n_are_rules [.ref a]) (j := 1) (vs := [1]) V.str (fun _ => true) (V.bl ∘ fun _ => true) (ev_var rfl) (st_of (e1 _ _ hs)) (by omega) (fun _ => rfl) (fun _ _ _ _ => et_yes rfl) (fun y H2 hy e hg => one y H2 hy)
      rw [filter_yes, ← List.map_map] at l
      refine q_when (b := false) (et_not (et_B (ev_allT l bs))) (fun z => nomatch z) fun _ H2 e2 => ?_
      exact s_ret (ev_andV (a := true) (ev_is (ev_op (ev_op (ev_var rfl) ev_c (rv_atT (i := 0) (st_of ((e1.trans e2) _ _ hs)) z0)) (ev_op ev_c ev_c (rv_atT (i := 0) (t1r T H2) rfl)) rv_eqS) (by simp)) fun _ => last H2 (e1.trans e2)) fun H3 e3 => k H3 ((e1.trans e2).trans e3)
end
end Lw

/-! W3 -/
/-! The league as it stands in the heap; what is read off it. -/
namespace Lw
open PySem PySem.Spec PyProof.Rows L2 Evl Mt
abbrev LC (K : PySem.W.Frag) : Addr := He.ga K "League"
structure LgAd where
  l : Addr
  dx : Addr
  tn : Addr
  tw : Addr
  tr : Addr
  lr : Addr
  tg : Addr
  ts : List Addr
def rowV (g : Game) : List V := [.str g.1, .str g.2.1, .str g.2.2]
def lgF (L : LgAd) : List (Str × V) := [("names", .ref L.tn), ("worth", .ref L.tw), ("ranks", .ref L.tr), ("rows", .ref L.lr), ("gone", .ref L.tg)]
structure LgAt (K : PySem.W.Frag) (H : Hp) (L : LgAd) (B : Bk) (names : List Str) : Prop where
  ob : H L.l = some (.ins (LC K) L.dx (lgF L))
  nm : H L.tn = some (.tup (names.map V.str))
  wt : H L.tw = some (.tup (schV B.win B.draw B.loss))
  rk : H L.tr = some (.tup (B.rules.map V.str))
  rw : H L.lr = some (.lst (L.ts.map V.ref))
  gn : H L.tg = some (.tup (B.gone.map V.str))
  ln : L.ts.length = B.games.length
  ro : ∀ (i : Nat) (t : Addr) (g : Game), L.ts[i]? = some t → B.games[i]? = some g → H t = some (.tup (rowV g))
  mm : names.Perm B.sides
theorem LgAt.mono {K : PySem.W.Frag} {H H' : Hp} {L : LgAd} {B : Bk} {names : List Str} (h : LgAt K H L B names) (e : Ex H H') : LgAt K H' L B names :=
  ⟨e _ _ h.ob, e _ _ h.nm, e _ _ h.wt, e _ _ h.rk, e _ _ h.rw, e _ _ h.gn, h.ln, fun i t g a b => e _ _ (h.ro i t g a b), h.mm⟩
section
variable {K : PySem.W.Frag} {mg : Str → Option Value} {H H' : Hp} {L : LgAd} {B : Bk} {names : List Str} {σ : L2.St} {te : TE}
theorem LgAt.row {i : Nat} {t : Addr} (h : LgAt K H L B names) (ht : L.ts[i]? = some t) : ∃ g, B.games[i]? = some g ∧ H t = some (.tup (rowV g)) := by
  have hi := (List.getElem?_eq_some_iff.mp ht).1
  have hg : B.games[i]? = some (B.games[i]'(by rw [← h.ln]; exact hi)) := List.getElem?_eq_getElem _
  exact ⟨_, hg, h.ro i t _ ht hg⟩
theorem LgAt.rowAt {i : Nat} {g : Game} (h : LgAt K H L B names) (hg : B.games[i]? = some g) : ∃ t, L.ts[i]? = some t ∧ H t = some (.tup (rowV g)) := by
  have hi := (List.getElem?_eq_some_iff.mp hg).1
  have ht : L.ts[i]? = some (L.ts[i]'(by rw [h.ln]; exact hi)) := List.getElem?_eq_getElem _
  exact ⟨_, ht, h.ro i _ g ht hg⟩
theorem ev_names (T : Tx0 K mg) (h : Ev te σ H (.ref L.l)) (ob : H L.l = some (.ins (LC K) L.dx (lgF L))) : Ev (tFld K te "names") σ H (.ref L.tn) := ev_fld h ob T.cl T.a_names (by rfl)
theorem ev_worth (T : Tx0 K mg) (h : Ev te σ H (.ref L.l)) (ob : H L.l = some (.ins (LC K) L.dx (lgF L))) : Ev (tFld K te "worth") σ H (.ref L.tw) := ev_fld h ob T.cl T.a_worth (by rfl)
theorem ev_ranks (T : Tx0 K mg) (h : Ev te σ H (.ref L.l)) (ob : H L.l = some (.ins (LC K) L.dx (lgF L))) : Ev (tFld K te "ranks") σ H (.ref L.tr) := ev_fld h ob T.cl T.a_ranks (by rfl)
theorem ev_rows (T : Tx0 K mg) (h : Ev te σ H (.ref L.l)) (ob : H L.l = some (.ins (LC K) L.dx (lgF L))) : Ev (tFld K te "rows") σ H (.ref L.lr) := ev_fld h ob T.cl T.a_rows (by rfl)
theorem ev_gone (T : Tx0 K mg) (h : Ev te σ H (.ref L.l)) (ob : H L.l = some (.ins (LC K) L.dx (lgF L))) : Ev (tFld K te "gone") σ H (.ref L.tg) := ev_fld h ob T.cl T.a_gone (by rfl)
end
def outNames : List Str := ["home", "draw", "away"]
theorem out_mem {s : Str} : decide (s ∈ outNames) = endedS s := by
  simp [outNames, endedS, Bool.or_assoc]
section
variable {P : Program} {w : World} {K : PySem.W.Frag} {mg : Str → Option Value} {base : Heap}
theorem t2r (T : Tx0 K mg) (H : Hp) : SqT K H (He.ga K "OUTCOMES") (outNames.map V.str) := T.t2 H
variable (K) in
def r_outcome_for : List V → Hp → V → Prop := fun vs H z => ∃ (x : Str) (t : Addr) (g : Game), vs = [.str x, .ref t] ∧ SqT K H t (rowV g) ∧ z = optV (outF x g)
theorem ok_outcome_for (T : Tx0 K mg) : FnOk P w K mg base CX0 1 (a_outcome_for K) (fd_outcome_for K) p_outcome_for (spV (r_outcome_for K)) := by
  refine okN T.f_outcome_for sc_outcome_for (fun vs H Q E h => ?_) (fun cdv A outer s H vs Q E hr h => ?_)
  · obtain ⟨z, ⟨x, t, g, rfl, _⟩, _⟩ := h
    rfl
  · obtain ⟨z, ⟨x, t, ⟨h, a, st⟩, rfl, hs, rfl⟩, k⟩ := h
    refine ⟨_, (pss_cons (ps_asg (pv 1) (pg_tup (by rfl) (pgs_cons (pg_name (i := 2) sc_outcome_for.nd rfl (by first | exact .inl rfl | exact .inr rfl)) (pgs_cons (pg_name (i := 3) sc_outcome_for.nd rfl (by first | exact .inl rfl | exact .inr rfl)) (pgs_cons (pg_name (i := 4) sc_outcome_for.nd rfl (by first | exact .inl rfl | exact .inr rfl)) pgs_nil)))))
    (pss_cons (ps_if (PW.pt (pw_or (pt_cmpR op_notIn_seq (pv 4) (pe_glob (v := .ref (He.ga K "OUTCOMES")) (by rfl) T.g_OUTCOMES rfl) (by rfl)) (pw_or1 (pt_cmpR op_notIn_seq (pv 0) (pe_tup (pa_cons (pv 2) (pa_cons (pv 3) pa_nil))) (by rfl))))) (pss_one (ps_ret pe_non)) pss_nil)
    (pss_cons (ps_if (pt_cmpR op_eq (pv 4) pe_str (by rfl)) (pss_one (ps_ret pe_int)) pss_nil)
    (pss_one (ps_ret (pe_ifExp (pt_cmpR op_eq (pe_cmpR op_eq (pv 4) pe_str (by rfl)) (pe_cmpR op_eq (pv 0) (pv 2) (by rfl)) (by rfl)) pe_int pe_int)))))), ?_⟩
    refine q_unp3 (ev_var rfl) hs fun H1 e1 => ?_
    refine q_when (b := !decide (endedS st = true ∧ (x = h ∨ x = a))) (et_is (et_or (et_test (ev_op (ev_var rfl) ev_c (rv_strTn (t2r T H1)))) fun _ => et_test (ev_opU (ev_var rfl) (eu_tup (vs := [.str h, .str a]) (ea_cons (ev_var rfl) (ea_cons (ev_var rfl) ea_nil)) (show 2 ≤ 100000 by decide)) fun p H2 hp e2 => (rv_strTn (ys := [h, a]) (st_of hp)))) ?_) (fun hb H2 e2 => ?_) fun hb H2 e2 => ?_
    · rw [out_mem]
      by_cases e : endedS st = true <;> by_cases e2 : x = h <;> by_cases e3 : x = a <;> simp [e, e2, e3]
    · refine s_ret ev_c fun H3 e3 => ?_
      have hb' : ¬ (endedS st = true ∧ (x = h ∨ x = a)) := of_decide_eq_false (by simpa only [Bool.not_eq_true'] using hb)
      have := k H3 ((e1.trans e2).trans e3)
      simp only [outF] at this
      rw [if_neg hb'] at this
      exact this
    · have hb' : endedS st = true ∧ (x = h ∨ x = a) := of_decide_eq_true (by simpa only [Bool.not_eq_false'] using hb)
      have k : ∀ H3, Ex H H3 → Q (optV (if st = "draw" then some 1 else if decide (st = "home") = decide (x = h) then some 0 else some 2)) H3 := fun H3 e3 => by
        have := k H3 e3
        simp only [outF] at this
        rw [if_pos hb'] at this
        exact this
      refine q_when (et_test (ev_op (ev_var rfl) ev_c rv_eqS)) (fun hd H3 e3 => s_ret ev_c fun H4 e4 => ?_) fun hd H3 e3 => ?_
      · have := k H4 (((e1.trans e2).trans e3).trans e4)
        rw [if_pos (of_decide_eq_true hd)] at this
        exact this
      · refine s_ret (v := .int (if decide (st = "home") = decide (x = h) then 0 else 2)) (ev_if (et_test (ev_op (ev_op (ev_var rfl) ev_c rv_eqS) (ev_op (ev_var rfl) (ev_var rfl) rv_eqS) rv_eqB)) (fun hh => ev_is ev_c ?_) (fun hh => ev_is ev_c ?_)) fun H4 e4 => ?_
        · rw [if_pos (of_decide_eq_true hh)]
        · rw [if_neg (of_decide_eq_false hh)]
        · have := k H4 (((e1.trans e2).trans e3).trans e4)
          rw [if_neg (of_decide_eq_false hd)] at this
          by_cases c : decide (st = "home") = decide (x = h)
          · rw [if_pos c] at this ⊢
            exact this
          · rw [if_neg c] at this ⊢
            exact this
theorem outF_draw {x : Str} {g : Game} (h : outF x g = some 1) : g.2.2 = "draw" := by
  unfold outF at h
  split at h
  · split at h
    · assumption
    · split at h <;> simp at h
  · cases h
theorem outF_range {x : Str} {g : Game} {w : Int} (h : outF x g = some w) : w = 0 ∨ w = 1 ∨ w = 2 := by
  unfold outF at h
  split at h
  · split at h
    · simp at h; omega
    · split at h <;> (simp at h; omega)
  · cases h
variable (K) in
def r_points_in : List V → Hp → V → Prop := fun vs H z => ∃ (L : LgAd) (B : Bk) (names : List Str) (x : Str) (lot : List Str) (la : Addr), vs = [.ref L.l, .str x, .ref la] ∧ LgAt K H L B names ∧ B.Ok ∧ SqT K H la (lot.map V.str) ∧ z = .int (pts B x lot B.games)
theorem pts_snoc {B : Bk} {x : Str} {lot : List Str} {gs : List Game} {i : Nat} {g : Game} (h : gs[i]? = some g) : pts B x lot (gs.take (i + 1)) = pts B x lot (gs.take i) + ptOf B x lot g := by
  unfold pts
  rw [List.take_add_one, h, List.map_append, List.sum_append]
  simp
theorem ok_points_in (T : Tx0 K mg) : FnOk P w K mg base CX0 2 (a_points_in K) (fd_points_in K) p_points_in (spV (r_points_in K)) := by
  refine okN T.f_points_in sc_points_in (fun vs H Q E h => ?_) (fun cdv A outer s H vs Q E hr h => ?_)
  · obtain ⟨z, ⟨L, B, nm, x, lot, la, rfl, _⟩, _⟩ := h
    rfl
  · obtain ⟨z, ⟨L, B, nm, x, lot, la, rfl, hl, ok, hs, rfl⟩, k⟩ := h
    refine ⟨_, (pss_cons (ps_set (i := 3) sc_points_in.nd rfl (by first | exact .inl rfl | exact .inr rfl) pe_int)
    (pss_cons (ps_for PassesOwn.never rfl (pi_list (pe_fld (pv 0) rfl)) (pg_name (i := 4) sc_points_in.nd rfl (by first | exact .inl rfl | exact .inr rfl)) (pss_cons (ps_set (i := 5) sc_points_in.nd rfl (by first | exact .inl rfl | exact .inr rfl) (pe_call (ok_outcome_for T) (hr.mono (by decide)) (by rfl) T.m_outcome_for T.k_outcome_for T.b_outcome_for .nil pass0 (pa_cons (pv 1) (pa_cons (pv 4) pa_nil))))
    (pss_one (ps_if (PW.pt (pw_and (pt_cmpR op_notN (pv 5) pe_non (by rfl)) (pw_and (pt_cmpR op_in_seq (pe_ix ix_tup (pv 4) pe_int (fun _ _ => rfl)) (pv 2) (by rfl)) (pw_and1 (pt_cmpR op_in_seq (pe_ix ix_tup (pv 4) pe_int (fun _ _ => rfl)) (pv 2) (by rfl)))))) (pss_one (ps_aug (i := 3) sc_points_in.nd rfl (by first | exact .inl rfl | exact .inr rfl) (pe_ix ix_tup (pe_fld (pv 0) rfl) (pv 5) (fun _ _ => rfl)) ip_add)) pss_nil))))
    (pss_one (ps_ret (pv 3))))), ?_⟩
    refine q_asg ev_c fun H1 e1 => ?_
    refine q_forLn (xs := L.ts.map V.ref) (ev_rows T (ev_var rfl) (e1 _ _ hl.ob)) (sq_of (e1 _ _ hl.rw)) (fun i σ' H' => Ex H H' ∧ ∃ v4 v5, σ' = [some (.ref L.l), some (.str x), some (.ref la), some (.int (pts B x lot (B.games.take i))), v4, v5]) (fun H2 e2 => ⟨e1.trans e2, none, none, rfl⟩) (fun i σ' H' _ p => sq_of (p.1 _ _ hl.rw)) (fun i v σ' H' hi p => ?_) fun σ' H' p => ?_
    · obtain ⟨e2, v4, v5, rfl⟩ := p
      obtain ⟨t, ht, rfl⟩ := map_at hi
      obtain ⟨g, hg, hrow⟩ := hl.row ht
      have hrow' := e2 _ _ hrow
      refine q_asg (v := optV (outF x g)) (ev_call (ea_cons (ev_var rfl) (ea_cons (ev_var rfl) ea_nil)) (spV_ev (R := r_outcome_for K) fun H3 e3 => ⟨x, t, g, rfl, st_of (e3 _ _ hrow'), rfl⟩)) fun H3 e3 => ?_
      have e23 := e2.trans e3
      have sp := pts_snoc (B := B) (x := x) (lot := lot) hg
      refine s_when (b := decide (¬ outF x g = none) && (decide (g.1 ∈ lot) && decide (g.2.1 ∈ lot))) (et_and (et_is (et_test (ev_op (ev_var rfl) ev_c rv_notN)) ?_) fun _ => et_and (et_test (ev_op (ev_op (ev_var rfl) ev_c (rv_atT (i := 0) (st_of (e23 _ _ hrow)) rfl)) (ev_var rfl) (rv_strT (ex_t e23 hs)))) fun _ => et_test (ev_op (ev_op (ev_var rfl) ev_c (rv_atT (i := 1) (st_of (e23 _ _ hrow)) rfl)) (ev_var rfl) (rv_strT (ex_t e23 hs)))) (fun hb H4 e4 => ?_) fun hb H4 e4 => ?_
      · cases outF x g <;> simp [optV]
      · have e24 := e23.trans e4
        have hb' : ¬ outF x g = none ∧ g.1 ∈ lot ∧ g.2.1 ∈ lot := by simpa [and_assoc] using hb
        obtain ⟨n1, n2, n3⟩ := hb'
        cases ho : outF x g with
        | none => exact absurd ho n1
        | some q =>
          have hw : ptOf B x lot g = wth B q := by
            unfold ptOf
            rw [ho]
            exact if_pos ⟨n2, n3⟩
          have hv : atI (schV B.win B.draw B.loss) q = some (.int (wth B q)) := by
            rcases outF_range ho with rfl | rfl | rfl
            · exact atI_nat (j := 0) rfl
            · have hdr := outF_draw ho
              cases hd : B.draw with
              | none => exact absurd hdr (ok.dr hd g (List.mem_of_getElem? hg))
              | some d =>
                have : wth B 1 = d := by simp [wth, hd]
                rw [this]
                exact atI_nat (j := 1) rfl
            · exact atI_nat (j := 2) rfl
          refine s_aug (a := pts B x lot (B.games.take i)) (b := wth B q) rfl (ev_op (ev_worth T (ev_var rfl) (e24 _ _ hl.ob)) (ev_var rfl) (rv_ixT (st_of (e24 _ _ hl.wt)) hv)) fun H5 e5 => ⟨e24.trans e5, some (.ref t), some (optV (some q)), ?_⟩
          rw [sp, hw]
          rfl
      · have z : ptOf B x lot g = 0 := by
          unfold ptOf
          cases ho : outF x g with
          | none => rfl
          | some q =>
            have : ¬ (g.1 ∈ lot ∧ g.2.1 ∈ lot) := by
              rw [ho] at hb
              simpa using hb
            exact if_neg this
        refine ⟨e23.trans e4, some (.ref t), some (optV (outF x g)), ?_⟩
        rw [sp, z, Int.add_zero]
        rfl
    · obtain ⟨e2, v4, v5, rfl⟩ := p
      have : (B.games.take (L.ts.map V.ref).length) = B.games := by rw [List.length_map, hl.ln, List.take_length]
      rw [this]
      exact s_ret (ev_var rfl) fun H3 e3 => k H3 (e2.trans e3)
variable (K) in
def r_wins_in : List V → Hp → V → Prop := fun vs H z => ∃ (L : LgAd) (B : Bk) (names : List Str) (x : Str), vs = [.ref L.l, .str x] ∧ LgAt K H L B names ∧ B.Ok ∧ z = .int (winsN x B.games)
/-- the rows' addresses with what stands there -/
theorem LgAt.zip {H : Hp} {L : LgAd} {B : Bk} {names : List Str} (h : LgAt K H L B names) : ∀ p ∈ L.ts.zip B.games, H p.1 = some (.tup (rowV p.2)) := fun p hp => by
  obtain ⟨i, hi⟩ := List.mem_iff_getElem?.mp hp
  rw [List.getElem?_zip_eq_some] at hi
  exact h.ro i p.1 p.2 hi.1 hi.2
theorem LgAt.z1 {H : Hp} {L : LgAd} {B : Bk} {names : List Str} (h : LgAt K H L B names) : (L.ts.zip B.games).map (fun p => V.ref p.1) = L.ts.map V.ref := by
  rw [show (fun p : Addr × Game => V.ref p.1) = V.ref ∘ Prod.fst from rfl, ← List.map_map, List.map_fst_zip (by rw [h.ln]; exact Nat.le_refl _)]
theorem LgAt.z2 {H : Hp} {L : LgAd} {B : Bk} {names : List Str} (h : LgAt K H L B names) (g : Game → Bool) : ((L.ts.zip B.games).filter (fun p => g p.2)).length = (B.games.filter g).length := by
  have e : B.games = (L.ts.zip B.games).map Prod.snd := (List.map_snd_zip (by rw [h.ln]; exact Nat.le_refl _)).symm
  conv => rhs; rw [e]
  rw [List.filter_map, List.length_map]
  rfl
theorem opt_eq {o : Option Int} {c : Int} : decide (optV o = .int c) = decide (o = some c) := by
  cases o with
  | none => simp [optV]
  | some a => simp [optV]
theorem scal_opt {o : Option Int} {c : Int} : scal (optV o) (.int c) = true := by cases o <;> rfl
theorem ok_wins_in (T : Tx0 K mg) : FnOk P w K mg base CX0 2 (a_wins_in K) (fd_wins_in K) p_wins_in (spV (r_wins_in K)) := by
  refine okN T.f_wins_in sc_wins_in (fun vs H Q E h => ?_) (fun cdv A outer s H vs Q E hr h => ?_)
  · obtain ⟨z, ⟨L, B, nm, x, rfl, _⟩, _⟩ := h
    rfl
  · obtain ⟨z, ⟨L, B, nm, x, rfl, hl, ok, rfl⟩, k⟩ := h
    refine ⟨_, (pss_one (ps_ret (pe_callB call_len (by rfl) T.n_len (by decide +kernel) (pa_cons (pe_lc (own := [("row", 2)]) (g := gName 2) (tt := (tTest (tOp rEq (tCall (spV (r_outcome_for K)) [] E0 (tCons (tVar 1) (tCons (tVar 2) tNil))) (tC (.int 0))))) (te := (tVar 2)) rfl sc_wins_in.nd (pi_list (pe_fld (pv 0) rfl)) (blkOk_by (N := n_wins_in) (sc := defScope s_wins_in) (by decide +kernel)) (fun _ _ _ _ _ => pg_name (i := 2) sc_wins_in.nd rfl (by first | exact .inl rfl | exact .inr rfl)) (fun _ _ _ _ _ => (pts_one (pt_cmpR op_eq (pe_call (ok_outcome_for T) (hr.mono (by decide)) (by rfl) T.m_outcome_for T.k_outcome_for T.b_outcome_for .nil pass0 (pa_cons (pv 1) (pa_cons (pv 2) pa_nil))) pe_int (by rfl)))) (fun _ _ _ _ _ => (pv 2))) pa_nil)))), ?_⟩
    refine s_ret (ev_lenN1 (el_mL (ys := L.ts.zip B.games) (fun p => V.ref p.1) (fun p => decide (outF x p.2 = some 0)) (fun p => V.ref p.1) (ev_rows T (ev_var rfl) hl.ob) (by rw [hl.z1]; exact sq_of hl.rw) ?_ (fun _ => rfl) (fun p H1 hp e => ?_) fun p H1 hp e _ => ev_var rfl) ?_) k
    · have := ok.many
      rw [List.length_zip]
      omega
    · exact et_is (et_test (ev_op (ev_call (ea_cons (ev_var rfl) (ea_cons (ev_var rfl) ea_nil)) (spV_ev (R := r_outcome_for K) fun H3 e3 => ⟨x, p.1, p.2, rfl, st_of (e3 _ _ (e _ _ (hl.zip p hp))), rfl⟩)) ev_c (rv_eq scal_opt))) opt_eq
    · rw [List.length_map, hl.z2 fun g => decide (outF x g = some 0)]
      rfl
variable (K) in
def r_away_wins_in : List V → Hp → V → Prop := fun vs H z => ∃ (L : LgAd) (B : Bk) (names : List Str) (x : Str), vs = [.ref L.l, .str x] ∧ LgAt K H L B names ∧ B.Ok ∧ z = .int (awayN x B.games)
theorem ok_away_wins_in (T : Tx0 K mg) : FnOk P w K mg base CX0 2 (a_away_wins_in K) (fd_away_wins_in K) p_away_wins_in (spV (r_away_wins_in K)) := by
  refine okN T.f_away_wins_in sc_away_wins_in (fun vs H Q E h => ?_) (fun cdv A outer s H vs Q E hr h => ?_)
  · obtain ⟨z, ⟨L, B, nm, x, rfl, _⟩, _⟩ := h
    rfl
  · obtain ⟨z, ⟨L, B, nm, x, rfl, hl, ok, rfl⟩, k⟩ := h
    refine ⟨_, (pss_one (ps_ret (pe_callB call_len (by rfl) T.n_len (by decide +kernel) (pa_cons (pe_lc (own := [("row", 2)]) (g := gName 2) (tt := (tAnd (tTest (tOp rEq (tCall (spV (r_outcome_for K)) [] E0 (tCons (tVar 1) (tCons (tVar 2) tNil))) (tC (.int 0)))) (tTest (tOp rEq (tOp (rIxT K) (tVar 2) (tC (.int 1))) (tVar 1))))) (te := (tVar 2)) rfl sc_away_wins_in.nd (pi_list (pe_fld (pv 0) rfl)) (blkOk_by (N := n_away_wins_in) (sc := defScope s_away_wins_in) (by decide +kernel)) (fun _ _ _ _ _ => pg_name (i := 2) sc_away_wins_in.nd rfl (by first | exact .inl rfl | exact .inr rfl)) (fun _ _ _ _ _ => (pts_one (PW.pt (pw_and (pt_cmpR op_eq (pe_call (ok_outcome_for T) (hr.mono (by decide)) (by rfl) T.m_outcome_for T.k_outcome_for T.b_outcome_for .nil pass0 (pa_cons (pv 1) (pa_cons (pv 2) pa_nil))) pe_int (by rfl)) (pw_and1 (pt_cmpR op_eq (pe_ix ix_tup (pv 2) pe_int (fun _ _ => rfl)) (pv 1) (by rfl))))))) (fun _ _ _ _ _ => (pv 2))) pa_nil)))), ?_⟩
    refine s_ret (ev_lenN1 (el_mL (ys := L.ts.zip B.games) (fun p => V.ref p.1) (fun p => decide (outF x p.2 = some 0) && decide (p.2.2.1 = x)) (fun p => V.ref p.1) (ev_rows T (ev_var rfl) hl.ob) (by rw [hl.z1]; exact sq_of hl.rw) ?_ (fun _ => rfl) (fun p H1 hp e => ?_) fun p H1 hp e _ => ev_var rfl) ?_) k
    · have := ok.many
      rw [List.length_zip]
      omega
    · exact et_and (et_is (et_test (ev_op (ev_call (ea_cons (ev_var rfl) (ea_cons (ev_var rfl) ea_nil)) (spV_ev (R := r_outcome_for K) fun H3 e3 => ⟨x, p.1, p.2, rfl, st_of (e3 _ _ (e _ _ (hl.zip p hp))), rfl⟩)) ev_c (rv_eq scal_opt))) opt_eq) fun _ =>
        et_test (ev_op (ev_op (ev_var rfl) ev_c (rv_atT (i := 1) (st_of (e _ _ (hl.zip p hp))) rfl)) (ev_var rfl) rv_eqS)
    · rw [List.length_map, hl.z2 fun g => decide (outF x g = some 0) && decide (g.2.1 = x)]
      rfl
variable (K) in
def r_number_by : List V → Hp → V → Prop := fun vs H z => ∃ (L : LgAd) (B : Bk) (names : List Str) (r x : Str) (lot : List Str) (la : Addr), vs = [.ref L.l, .str r, .str x, .ref la] ∧ LgAt K H L B names ∧ B.Ok ∧ SqT K H la (lot.map V.str) ∧ z = .int (num B r x lot)
theorem ok_number_by (T : Tx0 K mg) : FnOk P w K mg base CX0 3 (a_number_by K) (fd_number_by K) p_number_by (spV (r_number_by K)) := by
  refine okN T.f_number_by sc_number_by (fun vs H Q E h => ?_) (fun cdv A outer s H vs Q E hr h => ?_)
  · obtain ⟨z, ⟨L, B, nm, r, x, lot, la, rfl, _⟩, _⟩ := h
    rfl
  · obtain ⟨z, ⟨L, B, nm, r, x, lot, la, rfl, hl, ok, hs, rfl⟩, k⟩ := h
    refine ⟨_, (pss_cons (ps_if (pt_cmpR op_eq (pv 1) pe_str (by rfl)) (pss_one (ps_ret (pe_call (ok_points_in T) (hr.mono (by decide)) (by rfl) T.m_points_in T.k_points_in T.b_points_in .nil pass0 (pa_cons (pv 0) (pa_cons (pv 2) (pa_cons (pe_fld (pv 0) rfl) pa_nil)))))) pss_nil)
    (pss_cons (ps_if (pt_cmpR op_eq (pv 1) pe_str (by rfl)) (pss_one (ps_ret (pe_call (ok_wins_in T) (hr.mono (by decide)) (by rfl) T.m_wins_in T.k_wins_in T.b_wins_in .nil pass0 (pa_cons (pv 0) (pa_cons (pv 2) pa_nil))))) pss_nil)
    (pss_cons (ps_if (pt_cmpR op_eq (pv 1) pe_str (by rfl)) (pss_one (ps_ret (pe_call (ok_away_wins_in T) (hr.mono (by decide)) (by rfl) T.m_away_wins_in T.k_away_wins_in T.b_away_wins_in .nil pass0 (pa_cons (pv 0) (pa_cons (pv 2) pa_nil))))) pss_nil)
    (pss_one (ps_ret (pe_call (ok_points_in T) (hr.mono (by decide)) (by rfl) T.m_points_in T.k_points_in T.b_points_in .nil pass0 (pa_cons (pv 0) (pa_cons (pv 2) (pa_cons (pv 3) pa_nil))))))))), ?_⟩
    unfold num at k
    refine q_when (et_test (ev_op (ev_var rfl) ev_c rv_eqS)) (fun hb H1 e1 => ?_) fun hb H1 e1 => ?_
    · rw [if_pos (of_decide_eq_true hb)] at k
      refine s_ret (ev_call (ea_cons (ev_var rfl) (ea_cons (ev_var rfl) (ea_cons (ev_names T (ev_var rfl) (e1 _ _ hl.ob)) ea_nil))) (spV_ev (R := r_points_in K) fun H3 e3 => ⟨L, B, nm, x, nm, L.tn, rfl, hl.mono (e1.trans e3), ok, st_of ((e1.trans e3) _ _ hl.nm), ?_⟩)) fun H2 e2 => k H2 (e1.trans e2)
      rw [pts_congr (l := nm) (m := B.sides) (fun s => hl.mm.mem_iff)]
    · rw [if_neg (of_decide_eq_false hb)] at k
      refine q_when (et_test (ev_op (ev_var rfl) ev_c rv_eqS)) (fun hb2 H2 e2 => ?_) fun hb2 H2 e2 => ?_
      · rw [if_pos (of_decide_eq_true hb2)] at k
        exact s_ret (ev_call (ea_cons (ev_var rfl) (ea_cons (ev_var rfl) ea_nil)) (spV_ev (R := r_wins_in K) fun H3 e3 => ⟨L, B, nm, x, rfl, hl.mono ((e1.trans e2).trans e3), ok, rfl⟩)) fun H3 e3 => k H3 ((e1.trans e2).trans e3)
      · rw [if_neg (of_decide_eq_false hb2)] at k
        refine q_when (et_test (ev_op (ev_var rfl) ev_c rv_eqS)) (fun hb3 H3 e3 => ?_) fun hb3 H3 e3 => ?_
        · rw [if_pos (of_decide_eq_true hb3)] at k
          exact s_ret (ev_call (ea_cons (ev_var rfl) (ea_cons (ev_var rfl) ea_nil)) (spV_ev (R := r_away_wins_in K) fun H4 e4 => ⟨L, B, nm, x, rfl, hl.mono (((e1.trans e2).trans e3).trans e4), ok, rfl⟩)) fun H4 e4 => k H4 (((e1.trans e2).trans e3).trans e4)
        · rw [if_neg (of_decide_eq_false hb3)] at k
          exact s_ret (ev_call (ea_cons (ev_var rfl) (ea_cons (ev_var rfl) (ea_cons (ev_var rfl) ea_nil))) (spV_ev (R := r_points_in K) fun H4 e4 => ⟨L, B, nm, x, lot, la, rfl, hl.mono (((e1.trans e2).trans e3).trans e4), ok, ex_t (((e1.trans e2).trans e3).trans e4) hs, rfl⟩)) fun H4 e4 => k H4 (((e1.trans e2).trans e3).trans e4)
end
end Lw

/-! Mp2 -/
/-! How many sides lots hold. No program in sight. -/
namespace Mt
open PySem
variable {α : Type} [DecidableEq α]
theorem sum_flat (f : List α → List (List α)) : ∀ ps : List (List α), (((ps.map f).flatten).map List.length).sum = (ps.map fun p => ((f p).map List.length).sum).sum
  | [] => rfl
  | p :: ps => by
    rw [List.map_cons, List.flatten_cons, List.map_append, List.sum_append, sum_flat f ps, List.map_cons, List.sum_cons]
theorem lotsF_sum (num : Str → α → List α → Int) (rules : List Str) : ∀ (n : Nat) (lot : List α) (at_ : Nat), lot ≠ [] → ((lotsF num rules n lot at_).map List.length).sum = lot.length ∧ ∀ p ∈ lotsF num rules n lot at_, p ≠ [] ∧ p.Sublist lot
  | 0, lot, at_, h => ⟨by simp [lotsF], fun p hp => by simp [lotsF] at hp; subst hp; exact ⟨h, List.Sublist.refl _⟩⟩
  | n + 1, lot, at_, h => by
    rw [lotsF_succ]
    by_cases c : lot.length = 1 ∨ at_ = rules.length
    · rw [if_pos c]
      exact ⟨by simp, fun p hp => by simp at hp; subst hp; exact ⟨h, List.Sublist.refl _⟩⟩
    · rw [if_neg c]
      by_cases c1 : (parts (fun s => num (rules.getD at_ "") s lot) lot).length = 1
      · rw [if_pos c1]
        exact lotsF_sum num rules n lot (at_ + 1) h
      · rw [if_neg c1, sum_flat]
        refine ⟨?_, fun p hp => ?_⟩
        · rw [← parts_len (fun s => num (rules.getD at_ "") s lot) lot]
          congr 1
          refine List.map_congr_left fun p hp => ?_
          exact (lotsF_sum num rules n p _ (parts_ne hp)).1
        · obtain ⟨l, hl, hp⟩ := List.mem_flatten.mp hp
          obtain ⟨q, hq, rfl⟩ := List.mem_map.mp hl
          obtain ⟨h1, h2⟩ := (lotsF_sum num rules n q _ (parts_ne hq)).2 p hp
          exact ⟨h1, h2.trans (parts_sub hq)⟩
theorem len_le_of {ls : List (List α)} (h : ∀ p ∈ ls, p ≠ []) : ls.length ≤ (ls.map List.length).sum := by
  induction ls with
  | nil => simp
  | cons p r ih =>
    have := ih fun q hq => h q (List.mem_cons_of_mem _ hq)
    have hp : 1 ≤ p.length := List.length_pos_iff.mpr (h p List.mem_cons_self)
    simp only [List.length_cons, List.map_cons, List.sum_cons]
    omega
theorem lots_len (num : Str → α → List α → Int) (rules : List Str) {lot : List α} {at_ : Nat} (h : lot ≠ []) : (lots num rules lot at_).length ≤ lot.length := by
  obtain ⟨a, b⟩ := lotsF_sum num rules (need rules lot at_) lot at_ h
  have := len_le_of fun p hp => (b p hp).1
  unfold lots
  omega
theorem lots_flat_len (num : Str → α → List α → Int) (rules : List Str) {lot : List α} {at_ : Nat} (h : lot ≠ []) : (lots num rules lot at_).flatten.length = lot.length := by
  rw [List.length_flatten]
  exact (lotsF_sum num rules (need rules lot at_) lot at_ h).1
theorem lots_sub (num : Str → α → List α → Int) (rules : List Str) {lot p : List α} {at_ : Nat} (h : lot ≠ []) (hp : p ∈ lots num rules lot at_) : p.Sublist lot := ((lotsF_sum num rules (need rules lot at_) lot at_ h).2 p hp).2
theorem sum_le_mul {c : Nat} : ∀ {l : List Nat}, (∀ x ∈ l, x ≤ c) → l.sum ≤ l.length * c
  | [], _ => by simp
  | x :: r, h => by
    have h1 := h x List.mem_cons_self
    have h2 := sum_le_mul (l := r) fun y hy => h y (List.mem_cons_of_mem _ hy)
    rw [List.sum_cons, List.length_cons, Nat.succ_mul]
    omega
end Mt

/-! Dcm -/
/-! Dict comprehensions, comprehensions with two fors. -/
namespace Lw
open PySem PySem.Spec PyProof.Rows L2 Evl Mt
/-! ### what a dict comprehension leaves -/
section
variable {κ : Type} [DecidableEq κ] {α : Type}
def dcomp (kf : α → κ) (vf : α → V) (ys : List α) : List (κ × V) := ys.foldl (fun kvs y => putK kvs (kf y) (vf y)) []
def addK (l : List κ) (k : κ) : List κ := if k ∈ l then l else l ++ [k]
def kset (l : List κ) : List κ := l.foldl addK []
theorem dcomp_snoc (kf : α → κ) (vf : α → V) (ys : List α) (y : α) : dcomp kf vf (ys ++ [y]) = putK (dcomp kf vf ys) (kf y) (vf y) := by
  unfold dcomp
  rw [List.foldl_append]
  rfl
theorem kset_snoc (l : List κ) (k : κ) : kset (l ++ [k]) = addK (kset l) k := by
  unfold kset
  rw [List.foldl_append]
  rfl
theorem list_snoc {α : Type} (l : List α) : l = [] ∨ ∃ m x, l = m ++ [x] := by
  rcases List.eq_nil_or_concat l with h | ⟨m, x, h⟩
  · exact .inl h
  · exact .inr ⟨m, x, by rw [h, List.concat_eq_append]⟩
theorem rev_ind {α : Type} {p : List α → Prop} (h0 : p []) (h1 : ∀ l x, p l → p (l ++ [x])) : ∀ (n : Nat) (l : List α), l.length = n → p l
  | 0, l, e => by rw [List.length_eq_zero_iff.mp e]; exact h0
  | n + 1, l, e => by
    rcases list_snoc l with rfl | ⟨m, x, rfl⟩
    · exact h0
    · exact h1 m x (rev_ind h0 h1 n m (by simpa using e))
theorem revInd {α : Type} {p : List α → Prop} (l : List α) (h0 : p []) (h1 : ∀ l x, p l → p (l ++ [x])) : p l := rev_ind h0 h1 _ l rfl
theorem keys_put (kvs : List (κ × V)) (k : κ) (v : V) : (putK kvs k v).map (·.1) = addK (kvs.map (·.1)) k := by
  unfold putK addK
  by_cases h : (kvs.any fun kv => decide (kv.1 = k)) = true
  · have m : k ∈ kvs.map (·.1) := by
      obtain ⟨kv, h1, h2⟩ := List.any_eq_true.mp h
      exact List.mem_map.mpr ⟨kv, h1, of_decide_eq_true h2⟩
    rw [if_pos h, if_pos m, List.map_map]
    refine List.map_congr_left fun kv _ => ?_
    show (if kv.1 = k then (kv.1, v) else kv).1 = kv.1
    split <;> rfl
  · have m : ¬ k ∈ kvs.map (·.1) := fun m => by
      obtain ⟨kv, h1, h2⟩ := List.mem_map.mp m
      exact h (List.any_eq_true.mpr ⟨kv, h1, decide_eq_true h2⟩)
    rw [if_neg h, if_neg m, List.map_append]
    rfl
theorem keys_dcomp (kf : α → κ) (vf : α → V) (ys : List α) : (dcomp kf vf ys).map (·.1) = kset (ys.map kf) := by
  induction ys using revInd with
  | h0 => rfl
  | h1 l x ih =>
    rw [dcomp_snoc, keys_put, ih, List.map_append]
    exact (kset_snoc _ _).symm
theorem kset_spec (l : List κ) : (kset l).Nodup ∧ ∀ k, k ∈ kset l ↔ k ∈ l := by
  refine revInd (p := fun l => (kset l).Nodup ∧ ∀ k, k ∈ kset l ↔ k ∈ l) l ⟨List.nodup_nil, fun k => Iff.rfl⟩ fun l x ih => ?_
  rw [kset_snoc]
  unfold addK
  by_cases h : x ∈ kset l
  · rw [if_pos h]
    refine ⟨ih.1, fun k => ?_⟩
    rw [ih.2 k, List.mem_append, List.mem_singleton]
    refine ⟨.inl, fun h2 => h2.elim id fun e => ?_⟩
    rw [e]
    exact (ih.2 x).mp h
  · rw [if_neg h]
    refine ⟨List.nodup_append.mpr ⟨ih.1, by simp, fun a ha b hb => ?_⟩, fun k => ?_⟩
    · rw [List.mem_singleton] at hb
      subst hb
      intro e
      exact h (e ▸ ha)
    · rw [List.mem_append, List.mem_append, ih.2 k]
theorem val_dcomp (kf : α → κ) (vf : α → V) (hk : ∀ a b, kf a = kf b → vf a = vf b) (ys : List α) : ∀ y ∈ ys, valV (dcomp kf vf ys) (kf y) = some (vf y) := by
  refine revInd (p := fun ys => ∀ y ∈ ys, valV (dcomp kf vf ys) (kf y) = some (vf y)) ys (fun y h => by cases h) fun l x ih => ?_
  intro y hy
  rw [dcomp_snoc, valV_put]
  by_cases e : kf y = kf x
  · rw [if_pos e, hk y x e]
  · rw [if_neg e]
    rcases List.mem_append.mp hy with h | h
    · exact ih y h
    · rw [List.mem_singleton] at h
      exact absurd (congrArg kf h) e
theorem len_dcomp (kf : α → κ) (vf : α → V) (ys : List α) : (dcomp kf vf ys).length ≤ ys.length := by
  refine revInd (p := fun ys => (dcomp kf vf ys).length ≤ ys.length) ys (Nat.le_refl _) fun l x ih => ?_
  rw [dcomp_snoc, List.length_append]
  have := length_putK (dcomp kf vf l) (kf x) (vf x)
  simp only [List.length_cons, List.length_nil]
  omega
end
theorem addK_inl (l : List Int) (k : Int) : addK (l.map (Sum.inl : Int → Key)) (.inl k) = (addK l k).map Sum.inl := by
  unfold addK
  by_cases h : k ∈ l
  · rw [if_pos h, if_pos (List.mem_map.mpr ⟨k, h, rfl⟩)]
  · have : ¬ (Sum.inl k : Key) ∈ l.map (Sum.inl : Int → Key) := fun m => by
      obtain ⟨j, hj, e⟩ := List.mem_map.mp m
      cases e
      exact h hj
    rw [if_neg h, if_neg this, List.map_append]
    rfl
theorem kset_inl (l : List Int) : kset (l.map (Sum.inl : Int → Key)) = (kset l).map Sum.inl := by
  refine revInd (p := fun l : List Int => kset (l.map (Sum.inl : Int → Key)) = (kset l).map Sum.inl) l rfl fun l x ih => ?_
  rw [List.map_append]
  show kset (l.map Sum.inl ++ [Sum.inl x]) = _
  rw [kset_snoc, kset_snoc, ih, addK_inl]
/-- the ints that a dict's keys are -/
theorem keys_ints {α : Type} (f : α → Int) (vf : α → V) (ys : List α) : (dcomp (fun y => (Sum.inl (f y) : Key)) vf ys).map (fun kv => kV kv.1) = (kset (ys.map f)).map V.int := by
  have h := keys_dcomp (fun y => (Sum.inl (f y) : Key)) vf ys
  rw [show (fun kv : Key × V => kV kv.1) = kV ∘ (·.1) from rfl, ← List.map_map, h, show (fun y => (Sum.inl (f y) : Key)) = Sum.inl ∘ f from rfl, ← List.map_map, kset_inl, List.map_map]
  rfl
/-! ### readings -/
def EvD (te : TE) (σ : L2.St) (H : Hp) (kvs : List (Key × V)) : Prop := ∀ H1, Ex H H1 → ∀ Q : VK, (∀ p H2, H1 p = none → Ex H1 H2 → H2 p = some (.dK kvs) → Q (.ref p) H2) → te σ H1 Q
section
variable {K : PySem.W.Frag} {σ : L2.St} {H H' : Hp} {tl te tk tv : TE} {t : TT} {a : Addr} {j : Nat} {vs : List Nat} {α : Type}
theorem ed_mT {ys : List α} (c : α → V) (kf : α → Key) (vf : α → V) (h : Ev tl σ H (.ref a)) (hx : SqT K H a (ys.map c)) (hz : ys.length ≤ 40000) (hw : ∀ x, wipe ((wipe σ vs).set j (some x)) vs = wipe σ vs)
    (hk : ∀ y H1, y ∈ ys → Ex H H1 → Ev tk ((wipe σ vs).set j (some (c y))) H1 (kV (kf y))) (hv : ∀ y H1, y ∈ ys → Ex H H1 → Ev tv ((wipe σ vs).set j (some (c y))) H1 (vf y)) :
    EvD (tDc (iTup K tl) (gName j) tYes tk tv vs) σ H (dcomp kf vf ys) := fun H0 e Q q => h H0 e _ fun H1 e1 => ⟨a, rfl, ⟨ys.map c, ex_t (e.trans e1) hx⟩, fun Dl hD =>
  dc_tup (xs := ys.map c) (fun i H' => Ex H1 H' ∧ H' Dl = some (.dK (dcomp kf vf (ys.take i)))) ⟨Ex.new hD, upd_same⟩ (fun i H' _ p => ex_t ((e.trans e1).trans p.1) hx)
    (fun i x H' hi p => by
      obtain ⟨y, hy, rfl⟩ := map_at hi
      have hm := List.mem_of_getElem? hy
      have hl := (List.getElem?_eq_some_iff.mp hy).1
      refine ⟨hw _, hk y H' hm ((e.trans e1).trans p.1) H' (Ex.refl _) _ fun H2 e2 => hv y H2 hm (((e.trans e1).trans p.1).trans e2) H2 (Ex.refl _) _ fun H3 e3 => ?_⟩
      refine ⟨dcomp kf vf (ys.take i), kf y, rfl, e3 _ _ (e2 _ _ p.2), ?_, ((p.1.trans e2).trans e3).mut hD, ?_⟩
      · have h1 := len_dcomp kf vf (ys.take i)
        rw [List.length_take] at h1
        exact sz_lt (by omega)
      · rw [upd_same, List.take_add_one, hy]
        show some (HO.dK (putK _ _ _)) = some (HO.dK (dcomp kf vf (ys.take i ++ [y])))
        rw [dcomp_snoc])
    (fun H' p => q Dl H' (fresh_back e1 hD) (e1.trans p.1) (by
      have := p.2
      rw [List.length_map, List.take_length] at this
      exact this))⟩
theorem q_asgD {i : Nat} {kvs : List (Key × V)} {tz : TS} {D : Ends} (h : EvD te σ H kvs) (k : ∀ p H1, H p = none → Ex H H1 → H1 p = some (.dK kvs) → tz D (σ.set i (some (.ref p))) H1) : tSeq (tAsg te (gName i)) tz D σ H :=
  h H (Ex.refl H) _ fun p H1 hp e h1 => k p H1 hp e h1
/-- list(d) -/
theorem el_keys {kvs : List (Key × V)} (h : EvD te σ H kvs) : EvL (tCB rListD (tCons te tNil)) σ H (kvs.map fun kv => kV kv.1) := fun H1 e Q q =>
  h H1 e _ fun p H2 _ e2 hp => ⟨p, kvs, rfl, hp, fun r hr => q r _ (fresh_back e2 hr) (e2.trans (Ex.new hr)) upd_same⟩
theorem yes_run {σ : L2.St} {H : Hp} {A B : Hp → Prop} (h : A H) : tYes σ H fun b H3 => if b = true then A H3 else B H3 := by
  show (if true = true then A H else B H)
  rw [if_pos rfl]
  exact h
/-- all but lists stands -/
def Exl (H H' : Hp) : Prop := ∀ b o, H b = some o → (∀ l, o ≠ .lst l) → H' b = some o
/-- two fors, the inner one's items of a list made anew in each turn -/
theorem lc2_list {xs : List V} {tli : TE} {j1 : Nat} {vs1 : List Nat} (Iv : Nat → Hp → List V → Prop) (mono : ∀ i H H' acc, Exl H H' → Iv i H acc → Iv i H' acc)
    (hw : ∀ x, wipe ((wipe σ vs).set j (some x)) vs = wipe σ vs) (hw1 : ∀ x y, wipe ((wipe ((wipe σ vs).set j (some x)) vs1).set j1 (some y)) vs1 = wipe ((wipe σ vs).set j (some x)) vs1 ∧ ((wipe ((wipe σ vs).set j (some x)) vs1).set j1 (some y))[j1]? = some (some y))
    (h : ∀ Q : VK, (∀ a H1, Ex H H1 → H1 a = some (.lst xs) → Q (.ref a) H1) → tl σ H Q) (h0 : ∀ H1, Ex H H1 → Iv 0 H1 [])
    (hs : ∀ i x H' acc, xs[i]? = some x → Ex H H' → Iv i H' acc → ∀ Q' : VK, (∀ (b : Addr) ys H4, H' b = none → H4 b = some (.lst ys) → Ex H' H4 → acc.length + ys.length < 100000 → Iv (i + 1) H4 (acc ++ ys) → Q' (.ref b) H4) → tli ((wipe σ vs).set j (some x)) H' Q')
    {Q : VK} (hd : ∀ p H2 zs, H p = none → Ex H H2 → H2 p = some (.lst zs) → Iv xs.length H2 zs → Q (.ref p) H2) :
    tLc2 (iList K tl) (gName j) tYes (iList K tli) (gName j1) tYes (tVar j1) vs vs1 σ H Q := by
  refine h _ fun a H1 e1 ha => ⟨a, rfl, ⟨xs, sq_of ha⟩, fun D hD => ?_⟩
  let Pv : Nat → Hp → Prop := fun i H' => Ex H1 H' ∧ ∃ acc, H' D = some (.lst acc) ∧ Iv i H' acc
  have keepD : ∀ (H' : Hp) (l : List V) (o : HO), H' D = some (.lst l) → Exl H' (upd H' D o) := fun H' l o hl b ob hb ho => by
    by_cases e : b = D
    · subst e
      rw [hl] at hb
      cases hb
      exact absurd rfl (ho l)
    · rw [upd_ne e]
      exact hb
  refine ⟨fun i m H' => m = xs.length - i ∧ i ≤ xs.length ∧ Pv i H', ⟨xs.length, by simp, Nat.zero_le _, Ex.new hD, [], upd_same, h0 _ (e1.trans (Ex.new hD))⟩, ?_⟩
  rintro i m H' ⟨rfl, hi, p⟩
  obtain ⟨p1, acc, pD, pI⟩ := p
  have q : SqL K H' a xs := sq_of (p1 _ _ ha)
  by_cases hlt : i < xs.length
  · refine .inr ⟨⟨xs, xs[i], q, by simp [hlt]⟩, Pv (i + 1), fun H2 p' => ⟨xs.length - (i + 1), by omega, rfl, hlt, p'⟩, fun x H2 y => ?_⟩
    obtain ⟨e, y⟩ := y
    subst e
    have hx := y xs q
    refine ⟨hw x, yes_run ?_⟩
    refine hs i x H2 acc hx (e1.trans p1) pI _ fun b ys H4 hn hb e4 hz hI => ⟨b, rfl, ⟨ys, sq_of hb⟩, ?_⟩
    have hD4 := e4 _ _ pD
    have nb : b ≠ D := fun e => by rw [e, pD] at hn; cases hn
    refine ⟨fun k m H5 => m = ys.length - k ∧ k ≤ ys.length ∧ (∀ c o, c ≠ D → H4 c = some o → H5 c = some o) ∧ H5 D = some (.lst (acc ++ ys.take k)), ⟨ys.length, by simp, Nat.zero_le _, fun c o _ e => e, by simpa using hD4⟩, ?_⟩
    rintro k m H5 ⟨rfl, hk, o1, o2⟩
    have hb5 := o1 b _ nb hb
    by_cases hlt1 : k < ys.length
    · refine .inr ⟨⟨ys, ys[k], sq_of hb5, by simp [hlt1]⟩, fun H6 => k + 1 ≤ ys.length ∧ (∀ c o, c ≠ D → H4 c = some o → H6 c = some o) ∧ H6 D = some (.lst (acc ++ ys.take (k + 1))), fun H6 p' => ⟨ys.length - (k + 1), by omega, rfl, p'⟩, fun z H6 yy => ?_⟩
      obtain ⟨e, yy⟩ := yy
      subst e
      have hz1 := yy ys (sq_of hb5)
      refine ⟨(hw1 x z).1, yes_run ⟨z, (hw1 x z).2, acc ++ ys.take k, o2, sz_lt (by rw [List.length_append, List.length_take]; omega), hlt1, fun c o nc e => ?_, ?_⟩⟩
      · rw [upd_ne nc]
        exact o1 c o nc e
      · rw [upd_same, List.take_add_one, hz1]
        simp
    · have e : k = ys.length := by omega
      subst e
      refine .inl ⟨⟨ys, sq_of hb5, Nat.le_refl _⟩, ?_, acc ++ ys, ?_, ?_⟩
      · intro c o hc
        by_cases nc : c = D
        · subst nc
          rw [hD] at hc
          cases hc
        · exact o1 c o nc (e4 _ _ (p1 _ _ hc))
      · rw [o2, List.take_length]
      · refine mono _ H4 _ _ (fun c o hc ho => ?_) hI
        by_cases nc : c = D
        · subst nc
          rw [hD4] at hc
          cases hc
          exact absurd rfl (ho _)
        · exact o1 c o nc hc
  · have e : i = xs.length := by omega
    subst e
    exact .inl ⟨⟨xs, q, Nat.le_refl _⟩, hd D H' acc (fresh_back e1 hD) (e1.trans p1) pD pI⟩
/-- two fors, the inner one's items of a tuple -/
theorem lc2_tup {xs : List V} {tli : TE} {j1 : Nat} {vs1 : List Nat} (Iv : Nat → Hp → List V → Prop) (mono : ∀ i H H' acc, Exl H H' → Iv i H acc → Iv i H' acc)
    (hw : ∀ x, wipe ((wipe σ vs).set j (some x)) vs = wipe σ vs) (hw1 : ∀ x y, wipe ((wipe ((wipe σ vs).set j (some x)) vs1).set j1 (some y)) vs1 = wipe ((wipe σ vs).set j (some x)) vs1 ∧ ((wipe ((wipe σ vs).set j (some x)) vs1).set j1 (some y))[j1]? = some (some y))
    (h : ∀ Q : VK, (∀ a H1, Ex H H1 → H1 a = some (.lst xs) → Q (.ref a) H1) → tl σ H Q) (h0 : ∀ H1, Ex H H1 → Iv 0 H1 [])
    (hs : ∀ i x H' acc, xs[i]? = some x → Ex H H' → Iv i H' acc → ∀ Q' : VK, (∀ (b : Addr) ys H4, H4 b = some (.tup ys) → Ex H' H4 → acc.length + ys.length < 100000 → Iv (i + 1) H4 (acc ++ ys) → Q' (.ref b) H4) → tli ((wipe σ vs).set j (some x)) H' Q')
    {Q : VK} (hd : ∀ p H2 zs, H p = none → Ex H H2 → H2 p = some (.lst zs) → Iv xs.length H2 zs → Q (.ref p) H2) :
    tLc2 (iList K tl) (gName j) tYes (iTup K tli) (gName j1) tYes (tVar j1) vs vs1 σ H Q := by
  refine h _ fun a H1 e1 ha => ⟨a, rfl, ⟨xs, sq_of ha⟩, fun D hD => ?_⟩
  let Pv : Nat → Hp → Prop := fun i H' => Ex H1 H' ∧ ∃ acc, H' D = some (.lst acc) ∧ Iv i H' acc
  have keepD : ∀ (H' : Hp) (l : List V) (o : HO), H' D = some (.lst l) → Exl H' (upd H' D o) := fun H' l o hl b ob hb ho => by
    by_cases e : b = D
    · subst e
      rw [hl] at hb
      cases hb
      exact absurd rfl (ho l)
    · rw [upd_ne e]
      exact hb
  refine ⟨fun i m H' => m = xs.length - i ∧ i ≤ xs.length ∧ Pv i H', ⟨xs.length, by simp, Nat.zero_le _, Ex.new hD, [], upd_same, h0 _ (e1.trans (Ex.new hD))⟩, ?_⟩
  rintro i m H' ⟨rfl, hi, p⟩
  obtain ⟨p1, acc, pD, pI⟩ := p
  have q : SqL K H' a xs := sq_of (p1 _ _ ha)
  by_cases hlt : i < xs.length
  · refine .inr ⟨⟨xs, xs[i], q, by simp [hlt]⟩, Pv (i + 1), fun H2 p' => ⟨xs.length - (i + 1), by omega, rfl, hlt, p'⟩, fun x H2 y => ?_⟩
    obtain ⟨e, y⟩ := y
    subst e
    have hx := y xs q
    refine ⟨hw x, yes_run ?_⟩
    refine hs i x H2 acc hx (e1.trans p1) pI _ fun b ys H4 hb e4 hz hI => ⟨b, rfl, ⟨ys, st_of hb⟩, ?_⟩
    have hD4 := e4 _ _ pD
    have nb : b ≠ D := fun e => by rw [e, hD4] at hb; cases hb
    refine ⟨fun k m H5 => m = ys.length - k ∧ k ≤ ys.length ∧ (∀ c o, c ≠ D → H4 c = some o → H5 c = some o) ∧ H5 D = some (.lst (acc ++ ys.take k)), ⟨ys.length, by simp, Nat.zero_le _, fun c o _ e => e, by simpa using hD4⟩, ?_⟩
    rintro k m H5 ⟨rfl, hk, o1, o2⟩
    have hb5 := o1 b _ nb hb
    by_cases hlt1 : k < ys.length
    · refine .inr ⟨⟨ys, ys[k], st_of hb5, by simp [hlt1]⟩, fun H6 => k + 1 ≤ ys.length ∧ (∀ c o, c ≠ D → H4 c = some o → H6 c = some o) ∧ H6 D = some (.lst (acc ++ ys.take (k + 1))), fun H6 p' => ⟨ys.length - (k + 1), by omega, rfl, p'⟩, fun z H6 yy => ?_⟩
      obtain ⟨e, yy⟩ := yy
      subst e
      have hz1 := yy ys (st_of hb5)
      refine ⟨(hw1 x z).1, yes_run ⟨z, (hw1 x z).2, acc ++ ys.take k, o2, sz_lt (by rw [List.length_append, List.length_take]; omega), hlt1, fun c o nc e => ?_, ?_⟩⟩
      · rw [upd_ne nc]
        exact o1 c o nc e
      · rw [upd_same, List.take_add_one, hz1]
        simp
    · have e : k = ys.length := by omega
      subst e
      refine .inl ⟨⟨ys, st_of hb5, Nat.le_refl _⟩, ?_, acc ++ ys, ?_, ?_⟩
      · intro c o hc
        by_cases nc : c = D
        · subst nc
          rw [hD] at hc
          cases hc
        · exact o1 c o nc (e4 _ _ (p1 _ _ hc))
      · rw [o2, List.take_length]
      · refine mono _ H4 _ _ (fun c o hc ho => ?_) hI
        by_cases nc : c = D
        · subst nc
          rw [hD4] at hc
          cases hc
          exact absurd rfl (ho _)
        · exact o1 c o nc hc
  · have e : i = xs.length := by omega
    subst e
    exact .inl ⟨⟨xs, q, Nat.le_refl _⟩, hd D H' acc (fresh_back e1 hD) (e1.trans p1) pD pI⟩
end
end Lw

/-! W4 -/
/-! The program's order. -/
namespace Lw
open PySem PySem.Spec PyProof.Rows L2 Evl Mt
/-! ### lots in the heap -/
def LotsAt (H : Hp) : List Addr → List (List Str) → Prop
  | [], [] => True
  | a :: as, l :: ls => H a = some (.tup (l.map V.str)) ∧ LotsAt H as ls
  | _, _ => False
theorem LotsAt.mono {H H' : Hp} (e : Exl H H') : ∀ {as : List Addr} {ls : List (List Str)}, LotsAt H as ls → LotsAt H' as ls
  | [], [], _ => trivial
  | _ :: _, _ :: _, h => ⟨e _ _ h.1 (fun _ z => by cases z), h.2.mono e⟩
  | [], _ :: _, h => h.elim
  | _ :: _, [], h => h.elim
theorem Exl.of {H H' : Hp} (e : Ex H H') : Exl H H' := fun b o h _ => e b o h
theorem LotsAt.app {H : Hp} : ∀ {as bs : List Addr} {ls ms : List (List Str)}, LotsAt H as ls → LotsAt H bs ms → LotsAt H (as ++ bs) (ls ++ ms)
  | [], _, [], _, _, h => h
  | _ :: _, _, _ :: _, _, h, h2 => ⟨h.1, h.2.app h2⟩
  | [], _, _ :: _, _, h, _ => h.elim
  | _ :: _, _, [], _, h, _ => h.elim
theorem LotsAt.len {H : Hp} : ∀ {as : List Addr} {ls : List (List Str)}, LotsAt H as ls → as.length = ls.length
  | [], [], _ => rfl
  | _ :: _, _ :: _, h => by rw [List.length_cons, List.length_cons, h.2.len]
  | [], _ :: _, h => h.elim
  | _ :: _, [], h => h.elim
theorem LotsAt.at {H : Hp} : ∀ {as : List Addr} {ls : List (List Str)}, LotsAt H as ls → ∀ {i : Nat} {a : Addr}, as[i]? = some a → ∃ l, ls[i]? = some l ∧ H a = some (.tup (l.map V.str))
  | a :: _, l :: _, h, 0, b, hi => by
    have : a = b := by simpa using hi
    subst this
    exact ⟨l, rfl, h.1⟩
  | _ :: _, _ :: _, h, i + 1, b, hi => h.2.at (i := i) (by simpa using hi)
  | [], [], _, _, _, hi => by simp at hi
  | [], _ :: _, h, _, _, _ => h.elim
  | _ :: _, [], h, _, _, _ => h.elim
section
variable {K : PySem.W.Frag} {σ : L2.St} {H : Hp} {ta te : TE}
/-- sorted(.., of different ints)[::-1] -/
theorem el_sortrev {ks l : List Int} (h : EvL ta σ H (ks.map V.int)) (nd : ks.Nodup) (hm : ∀ n, n ∈ ks ↔ n ∈ l) : EvL (tRevL K (tCB (rSortedI K) (tCons ta tNil))) σ H ((dd l).map V.int) := fun H1 e Q q =>
  h H1 e _ fun p H2 _ e2 hp => ⟨p, ks, rfl, sq_of hp, fun ns' r pm so hr => ⟨r, ns'.map V.int, rfl, sq_of upd_same, fun u hu => by
    rw [← List.map_reverse, dd_sorted nd hm pm so]
    exact q u _ (fresh_back (e2.trans (Ex.new hr)) hu) ((e2.trans (Ex.new hr)).trans (Ex.new hu)) upd_same⟩⟩
/-- tuple(a new list) -/
theorem eu_tupL {xs : List V} (h : EvL ta σ H xs) : EvU (tCB (fun xs H Q => ∃ p ys, xs = [.ref p] ∧ ((SqL K H p ys ∧ ∀ l, H l = none → Q (.ref l) (upd H l (.tup ys))) ∨ (SqT K H p ys ∧ Q (.ref p) H))) (tCons ta tNil)) σ H xs := fun H1 e Q q =>
  h H1 e _ fun p H2 _ e2 hp => ⟨p, xs, rfl, .inl ⟨sq_of hp, fun l hl => q l _ (fresh_back e2 hl) (e2.trans (Ex.new hl)) upd_same⟩⟩
end
section
variable {P : Program} {w : World} {K : PySem.W.Frag} {mg : Str → Option Value} {base : Heap}
variable (K) in
def spP (n : Nat) : Sp := fun vs H Q _ => ∃ (L : LgAd) (B : Bk) (names lot : List Str) (la : Addr) (at_ : Nat), vs = [.ref L.l, .ref la, .int (at_ : Int)] ∧ LgAt K H L B names ∧ B.Ok ∧ H la = some (.tup (lot.map V.str)) ∧ lot ≠ [] ∧ lot.length ≤ 8 ∧ at_ ≤ B.rules.length ∧ need B.rules lot at_ ≤ n ∧
  ∀ p H2 as, H p = none → Ex H H2 → H2 p = some (.lst (as.map V.ref)) → LotsAt H2 as (lots (num B) B.rules lot at_) → Q (.ref p) H2
theorem upd_exl {H : Hp} {f : Addr} {xs : List V} {o : HO} (h : H f = some (.lst xs)) : Exl H (upd H f o) := fun b ob hb hl => by
  by_cases e : b = f
  · subst e
    rw [h] at hb
    cases hb
    exact absurd rfl (hl xs)
  · rw [upd_ne e]
    exact hb
theorem ok_partedN (T : Tx0 K mg) : ∀ n, FnOk P w K mg base CX0 (4 + n) (a_parted K) (fd_parted K) p_parted (spP K n)
  | 0 => okN T.f_parted sc_parted (fun vs H Q E h => by
      obtain ⟨L, B, nm, lot, la, at_, rfl, _⟩ := h
      rfl) (fun cdv A outer s H vs Q E hr h => by
      obtain ⟨L, B, nm, lot, la, at_, rfl, _, _, _, hn, _, _, hz, _⟩ := h
      have := List.length_pos_iff.mpr hn
      unfold need at hz
      omega)
  | n + 1 => by
    have ih := ok_partedN T n
    let SPN := spP K n
    refine okN T.f_parted sc_parted (fun vs H Q E h => ?_) (fun cdv A outer s H vs Q E hr h => ?_)
    · obtain ⟨L, B, nm, lot, la, at_, rfl, _⟩ := h
      rfl
    · obtain ⟨L, B, nm, lot, la, at_, rfl, hl, ok, hla, hn, h8, hat, hz, k⟩ := h
      replace hr : Room (4 + n) (A.deeper (envOfC (Str.ofString "parted") (defScope s_parted) s.heap.objs.size (a_parted K) cdv)) := hr
      refine ⟨_, (pss_cons (ps_if (PW.pt (pw_or (pt_cmpR op_eq (pe_callB call_len (by rfl) T.n_len (by decide +kernel) (pa_cons (pv 1) pa_nil)) pe_int (by rfl)) (pw_or1 (pt_cmpR op_eq (pv 2) (pe_callB call_len (by rfl) T.n_len (by decide +kernel) (pa_cons (pe_fld (pv 0) rfl) pa_nil)) (by rfl))))) (pss_one (ps_ret (pe_lst (pa_cons (pv 1) pa_nil)))) pss_nil)
    (pss_cons (ps_set (i := 3) sc_parted.nd rfl (by first | exact .inl rfl | exact .inr rfl) (pe_ix ix_tup (pe_fld (pv 0) rfl) (pv 2) (fun _ _ => rfl)))
    (pss_cons (ps_set (i := 4) sc_parted.nd rfl (by first | exact .inl rfl | exact .inr rfl) (pe_dc (own := [("side", 8)]) (g := gName 8) (tt := tYes) (tk := (tVar 8)) (tv := (tCall (spV (r_number_by K)) [] E0 (tCons (tVar 0) (tCons (tVar 3) (tCons (tVar 8) (tCons (tVar 1) tNil)))))) rfl sc_parted.nd (pi_tup (pv 1)) (blkOk_by (N := n_parted) (sc := defScope s_parted) (by decide +kernel)) (fun _ _ _ _ _ => pg_name (i := 8) sc_parted.nd rfl (by first | exact .inl rfl | exact .inr rfl)) (fun _ _ _ _ _ => pts_nil) (fun _ _ _ _ _ => (pv 8)) (fun _ _ _ _ _ => (pe_call (ok_number_by T) (hr.mono (by omega)) (by rfl) T.m_number_by T.k_number_by T.b_number_by .nil pass0 (pa_cons (pv 0) (pa_cons (pv 3) (pa_cons (pv 8) (pa_cons (pv 1) pa_nil))))))))
    (pss_cons (ps_set (i := 5) sc_parted.nd rfl (by first | exact .inl rfl | exact .inr rfl) (pe_lst pa_nil))
    (pss_cons (ps_for PassesOwn.never rfl (pi_list (pe_revL (pe_callB cr_sortedI (by rfl) T.n_sorted (by decide +kernel) (pa_cons (pe_callTy (call_list_dK rfl) (by rfl) T.n_list (by decide +kernel) (pa_cons (pe_dc (own := [("side", 8)]) (g := gName 8) (tt := tYes) (tk := (tDGet (tVar 4) (tVar 8))) (tv := (tC (.bl true))) rfl sc_parted.nd (pi_tup (pv 1)) (blkOk_by (N := n_parted) (sc := defScope s_parted) (by decide +kernel)) (fun _ _ _ _ _ => pg_name (i := 8) sc_parted.nd rfl (by first | exact .inl rfl | exact .inr rfl)) (fun _ _ _ _ _ => pts_nil) (fun _ _ _ _ _ => (pe_dget (hu_of hr) (pv 4) (pv 8) (fun _ _ => rfl))) (fun _ _ _ _ _ => pe_bl)) pa_nil)) pa_nil)))) (pg_name (i := 6) sc_parted.nd rfl (by first | exact .inl rfl | exact .inr rfl)) (pss_one (ps_expr (pe_bm PySem.F.plainAttrs_list PySem.F.slot_list_append PySem.F.type_list_append mt_append (pv 5) (pa_cons (pe_callTy call_tuple_of (by rfl) T.n_tuple (by decide +kernel) (pa_cons (pe_lc (own := [("side", 8)]) (g := gName 8) (tt := (tTest (tOp rEq (tDGet (tVar 4) (tVar 8)) (tVar 6)))) (te := (tVar 8)) rfl sc_parted.nd (pi_tup (pv 1)) (blkOk_by (N := n_parted) (sc := defScope s_parted) (by decide +kernel)) (fun _ _ _ _ _ => pg_name (i := 8) sc_parted.nd rfl (by first | exact .inl rfl | exact .inr rfl)) (fun _ _ _ _ _ => (pts_one (pt_cmpR op_eq (pe_dget (hu_of hr) (pv 4) (pv 8) (fun _ _ => rfl)) (pv 6) (by rfl)))) (fun _ _ _ _ _ => (pv 8))) pa_nil)) pa_nil)))))
    (pss_cons (ps_if (pt_cmpR op_eq (pe_callB call_len (by rfl) T.n_len (by decide +kernel) (pa_cons (pv 5) pa_nil)) pe_int (by rfl)) (pss_one (ps_ret (pe_call ih (hr.mono (by omega)) (by rfl) T.m_parted T.k_parted T.b_parted .nil pass0 (pa_cons (pv 0) (pa_cons (pv 1) (pa_cons (pe_op op_add (pv 2) pe_int) pa_nil)))))) pss_nil)
    (pss_cons (ps_set (i := 7) sc_parted.nd rfl (by first | exact .inl rfl | exact .inr rfl) (pe_ifExp (pt_cmpR op_eq (pv 3) pe_str (by rfl)) (pv 2) (pe_op op_add (pv 2) pe_int)))
    (pss_one (ps_ret (pe_lc2 (own := [("part", 9), ("one", 10)]) (g := gName 9) (tt := tYes) (wi1 := (iList K (tCall SPN [] E0 (tCons (tVar 0) (tCons (tVar 9) (tCons (tVar 7) tNil)))))) (te := (tVar 10)) (g1 := gName 10) (tt1 := tYes) (vs1 := [10]) rfl sc_parted.nd (pi_list (pv 5)) (blkOk_by (N := n_parted) (sc := defScope s_parted) (by decide +kernel)) (by decide) (fun _ _ _ _ _ => pg_name (i := 9) sc_parted.nd rfl (by first | exact .inl rfl | exact .inr rfl)) (fun _ _ _ _ _ => pts_nil) (fun _ _ _ _ _ => (pi_list (pe_call ih (hr.mono (by omega)) (by rfl) T.m_parted T.k_parted T.b_parted .nil pass0 (pa_cons (pv 0) (pa_cons (pv 9) (pa_cons (pv 7) pa_nil)))))) (fun _ _ _ _ _ => pg_name (i := 10) sc_parted.nd rfl (by first | exact .inl rfl | exact .inr rfl)) (fun _ _ _ _ _ => pts_nil) (fun _ _ _ _ _ => (pv 10)))))))))))), ?_⟩
      have hlen := lenT (K := K) (st_of hla)
      rw [List.length_map] at hlen
      have hlr := lenT (K := K) (st_of hl.rk)
      rw [List.length_map] at hlr
      refine q_when (b := decide (lot.length = 1 ∨ at_ = B.rules.length)) (et_is (et_or (et_test (ev_op (ev_lenV (ev_var rfl) hlen) ev_c rv_eqI)) fun _ => et_test (ev_op (ev_var rfl) (ev_lenV (ev_ranks T (ev_var rfl) hl.ob) hlr) rv_eqI)) ?_) (fun hb H1 e1 => ?_) fun hb H1 e1 => ?_
      · have a1 : ((lot.length : Int) = 1) = (lot.length = 1) := by apply propext; omega
        have a2 : ((at_ : Int) = (B.rules.length : Int)) = (at_ = B.rules.length) := by apply propext; omega
        simp only [a1, a2]
        by_cases c1 : lot.length = 1 <;> by_cases c2 : at_ = B.rules.length <;> simp [c1, c2]
      · have c := of_decide_eq_true hb
        refine s_retL (el_lst (vs := [.ref la]) (ea_cons (ev_var rfl) ea_nil) (show 1 ≤ 100000 by decide)) fun p H2 hp e2 h2 => k p H2 [la] (fresh_back e1 hp) (e1.trans e2) h2 ?_
        rw [lots_leaf _ _ c]
        exact ⟨(e1.trans e2) _ _ hla, trivial⟩
      · have c := of_decide_eq_false hb
        have hlt : at_ < B.rules.length := by
          have : ¬ at_ = B.rules.length := fun e => c (.inr e)
          omega
        have hr0 : B.rules[at_]? = some (B.rules.getD at_ "") := by rw [List.getD_eq_getElem?_getD, List.getElem?_eq_getElem hlt]; rfl
        let F : Str → Int := fun s => num B (B.rules.getD at_ "") s lot
        refine q_asg (v := .str (B.rules.getD at_ "")) (ev_op (ev_ranks T (ev_var rfl) (e1 _ _ hl.ob)) (ev_var rfl) (rv_atT (st_of (e1 _ _ hl.rk)) (by rw [List.getElem?_map, hr0]; rfl))) fun H2 e2 => ?_
        have e12 := e1.trans e2
        refine q_asgD (ed_mT (ys := lot) V.str (fun s => .inr s) (fun s => .int (F s)) (ev_var rfl) (st_of (e12 _ _ hla)) (by omega) (fun _ => rfl) (fun y H3 hy e => ev_var rfl) (fun y H3 hy e => ev_call (ea_cons (ev_var rfl) (ea_cons (ev_var rfl) (ea_cons (ev_var rfl) (ea_cons (ev_var rfl) ea_nil)))) (spV_ev (R := r_number_by K) fun H4 e4 => ⟨L, B, nm, _, y, lot, la, rfl, hl.mono ((e12.trans e).trans e4), ok, st_of (((e12.trans e).trans e4) _ _ hla), rfl⟩))) fun d H3 hd e3 h3 => ?_
        have e13 := e12.trans e3
        have dget : ∀ {H' : Hp} {y : Str}, y ∈ lot → Ex H3 H' → ∀ {σ' : L2.St}, σ'[4]? = some (some (.ref d)) → σ'[8]? = some (some (.str y)) → Ev (tDGet (tVar 4) (tVar 8)) σ' H' (.int (F y)) := fun {H' y} hy e {σ'} h4 h8 => ev_dkv (k := .inr y) (ev_var h4) (ev_var h8) (e _ _ h3) (val_dcomp _ _ (fun a b e => by cases e; rfl) _ y hy)
        refine q_asgL (el_lst (vs := []) ea_nil (show 0 ≤ 100000 by decide)) fun f H4 hf e4 h4 => ?_
        have e34 := e3.trans e4
        have lst : EvL _ _ H4 ((dd (lot.map F)).map V.int) := el_sortrev (K := K) (ks := kset (lot.map F)) (l := lot.map F) (el_is (el_keys (ed_mT (K := K) (σ := [some (.ref L.l), some (.ref la), some (.int (at_ : Int)), some (.str (B.rules.getD at_ "")), some (.ref d), some (.ref f), none, none, none, none, none]) (tl := tVar 1) (j := 8) (vs := [8]) (tk := tDGet (tVar 4) (tVar 8)) (tv := tC (.bl true)) (ys := lot) V.str (fun s => .inl (F s)) (fun _ => .bl true) (ev_var rfl) (st_of ((e12.trans e34) _ _ hla)) (by omega) (fun _ => rfl) (fun y H3 hy e => dget hy (e4.trans e) rfl rfl) (fun y H3 hy e => ev_c))) (keys_ints F _ lot)) (kset_spec _).1 (kset_spec _).2
        have e04 : Ex H H4 := e12.trans e34
        refine q_forNLn lst (fun p i σ' H' => Ex H3 H' ∧ H' p = some (.lst ((dd (lot.map F)).map V.int)) ∧ ∃ as v6 v8, σ' = [some (.ref L.l), some (.ref la), some (.int (at_ : Int)), some (.str (B.rules.getD at_ "")), some (.ref d), some (.ref f), v6, none, v8, none, none] ∧ H' f = some (.lst (as.map V.ref)) ∧ LotsAt H' as (((dd (lot.map F)).take i).map (part1 F lot))) (fun p H5 hp e5 h5 => ⟨e4.trans e5, h5, [], none, none, rfl, e5 _ _ h4, trivial⟩) (fun p i σ' H' _ q => sq_of q.2.1) (fun p i v σ' H' hi q => ?_) fun p σ' H' q => ?_
        · obtain ⟨q1, q2, as, v6, v8, rfl, q3, q4⟩ := q
          obtain ⟨m, hm, rfl⟩ := map_at hi
          have hlas := q4.len
          refine s_appU (xs := as.map V.ref) (ys := (part1 F lot m).map V.str) q3 (ev_var rfl) (eu_tupL (el_is (el_mT (ys := lot) V.str (fun s => decide (F s = m)) V.str (ev_var rfl) (st_of ((e13.trans q1) _ _ hla)) (by omega) (fun _ => rfl) (fun y H6 hy e => et_test (ev_op (dget hy (q1.trans e) rfl rfl) (ev_var rfl) rv_eqI)) (fun y H6 hy e _ => ev_var rfl)) rfl)) ?_ fun u H6 hu e6 h6 => ?_
          · rw [List.length_map, hlas, List.length_map, List.length_take]
            have := (parts_len F lot)
            have h9 : (dd (lot.map F)).length ≤ lot.length := by
              have h1 := len_le_of (ls := parts F lot) fun p hp => parts_ne hp
              rw [this] at h1
              unfold parts at h1
              rwa [List.length_map] at h1
            omega
          · have nf : u ≠ f := fun e => by rw [e, q3] at hu; cases hu
            have np : p ≠ f := fun e => by
              subst e
              rw [q2] at q3
              cases as with
              | nil => cases hdd : dd (lot.map F) with
                | nil => rw [hdd] at hm; simp at hm
                | cons _ _ => rw [hdd] at q3; cases q3
              | cons _ _ => cases hdd : dd (lot.map F) with
                | nil => rw [hdd] at hm; simp at hm
                | cons _ _ => rw [hdd] at q3; cases q3
            refine ⟨(q1.trans e6).mut hf, ?_, as ++ [u], some (.int m), v8, rfl, ?_, ?_⟩
            · rw [upd_ne np]
              exact e6 _ _ q2
            · rw [upd_same, List.map_append]
              rfl
            · rw [List.take_add_one, hm, List.map_append]
              refine LotsAt.mono (upd_exl (e6 _ _ q3)) ((q4.mono (.of e6)).app ?_)
              exact ⟨h6, trivial⟩
        · obtain ⟨q1, q2, as, v6, v8, rfl, q3, q4⟩ := q
          rw [List.length_map, List.take_length] at q4
          replace q4 : LotsAt H' as (parts F lot) := q4
          have hnode := lots_node (num := num B) (rules := B.rules) c hat
          have eQ := e13.trans q1
          have hps : (parts F lot).length ≤ 8 := by
            have h1 := len_le_of (ls := parts F lot) fun p hp => parts_ne hp
            rw [parts_len] at h1
            omega
          have hf' := lenL (K := K) (sq_of q3)
          rw [List.length_map, q4.len] at hf'
          refine q_when (et_test (ev_op (ev_lenV (ev_var rfl) hf') ev_c rv_eqI)) (fun hb H6 e6 => ?_) fun hb H6 e6 => ?_
          · have c1 : (parts F lot).length = 1 := by have := of_decide_eq_true hb; omega
            refine s_retC (ea_cons (ev_var rfl) (ea_cons (ev_var rfl) (ea_cons (ev_op (ev_var rfl) ev_c rv_add) ea_nil))) fun H7 e7 => ?_
            refine ⟨L, B, nm, lot, la, at_ + 1, rfl, hl.mono ((eQ.trans e6).trans e7), ok, ((eQ.trans e6).trans e7) _ _ hla, hn, h8, hlt, by unfold need at hz ⊢; omega, fun p H8 as hp e8 h8 h9 => k p H8 as (fresh_back ((eQ.trans e6).trans e7) hp) (((eQ.trans e6).trans e7).trans e8) h8 ?_⟩
            have b : behind B.rules at_ (decide (([lot] : List (List Str)).length = 1)) = at_ + 1 := by unfold behind; simp
            rw [hnode, parts_one c1, b]
            simpa using h9
          · have c1 : ¬ (parts F lot).length = 1 := by have := of_decide_eq_false hb; omega
            have hb1 : behind B.rules at_ (decide ((parts F lot).length = 1)) = if B.rules.getD at_ "" = "among" then at_ else at_ + 1 := by
              unfold behind
              rw [decide_eq_false c1]
              simp
            refine q_asg (v := .int ((if B.rules.getD at_ "" = "among" then at_ else at_ + 1 : Nat) : Int)) (ev_if (et_test (ev_op (ev_var rfl) ev_c rv_eqS)) (fun hh => ev_is (ev_var rfl) ?_) (fun hh => ev_is (ev_op (ev_var rfl) ev_c rv_add) ?_)) fun H7 e7 => ?_
            · rw [if_pos (of_decide_eq_true hh)]
            · rw [if_neg (of_decide_eq_false hh)]
              rfl
            · have e67 := e6.trans e7
              refine lc2_list (xs := as.map V.ref) (fun i H' acc => ∃ bs, acc = bs.map V.ref ∧ LotsAt H' bs (((parts F lot).take i).map fun p => lots (num B) B.rules p (if B.rules.getD at_ "" = "among" then at_ else at_ + 1)).flatten) (fun i H1 H2 acc e h => ?_) (fun _ => rfl) (fun _ _ => ⟨rfl, rfl⟩) (fun Q' q => ⟨.ref f, rfl, q f _ (Ex.refl _) (e67 _ _ q3)⟩) (fun H8 e8 => ⟨[], rfl, trivial⟩) (fun i x H8 acc hx e8 hI Q' q => ?_) fun p H8 zs hp e8 h8 hI => ?_
              · obtain ⟨bs, h1, h2⟩ := h
                exact ⟨bs, h1, h2.mono e⟩
              · obtain ⟨u, hu, rfl⟩ := map_at hx
                obtain ⟨l, hl1, hl2⟩ := q4.at hu
                obtain ⟨bs, rfl, hbs⟩ := hI
                have e9 : Ex H' H8 := e67.trans e8
                have hmem : l ∈ parts F lot := List.mem_of_getElem? hl1
                have hlt2 := parts_lt hmem c1
                refine c_call (ea_cons (ev_var rfl) (ea_cons (ev_var rfl) (ea_cons (ev_var rfl) ea_nil))) fun H9 e10 => ?_
                refine ⟨L, B, nm, l, u, _, rfl, hl.mono ((eQ.trans e9).trans e10), ok, (e9.trans e10) _ _ hl2, parts_ne hmem, by omega, by split <;> omega, by unfold need at hz ⊢; split <;> omega, fun p H11 cs hp e11 h11 h12 => ?_⟩
                have hbl := hbs.len
                have hcl := h12.len
                have hll := lots_len (num B) B.rules (lot := l) (at_ := if B.rules.getD at_ "" = "among" then at_ else at_ + 1) (parts_ne hmem)
                refine q p (cs.map V.ref) H11 (fresh_back e10 hp) h11 (e10.trans e11) ?_ ⟨bs ++ cs, by rw [List.map_append], ?_⟩
                · rw [List.length_map, List.length_map, hcl]
                  have : (((parts F lot).take i).map fun p => lots (num B) B.rules p (if B.rules.getD at_ "" = "among" then at_ else at_ + 1)).flatten.length ≤ 64 := by
                    rw [List.length_flatten, List.map_map]
                    have : ∀ x ∈ ((parts F lot).take i).map (List.length ∘ fun p => lots (num B) B.rules p (if B.rules.getD at_ "" = "among" then at_ else at_ + 1)), x ≤ 8 := fun x hx => by
                      obtain ⟨p, hp, rfl⟩ := List.mem_map.mp hx
                      have hp' := List.mem_of_mem_take hp
                      have := lots_len (num B) B.rules (lot := p) (at_ := if B.rules.getD at_ "" = "among" then at_ else at_ + 1) (parts_ne hp')
                      have := parts_lt hp' c1
                      simp only [Function.comp]
                      omega
                    have h2 := sum_le_mul this
                    rw [List.length_map, List.length_take] at h2
                    have : min i (parts F lot).length ≤ 8 := by omega
                    have : min i (parts F lot).length * 8 ≤ 8 * 8 := Nat.mul_le_mul_right _ this
                    omega
                  omega
                · rw [List.take_add_one, hl1, List.map_append, List.flatten_append]
                  refine (hbs.mono (.of (e10.trans e11))).app ?_
                  simpa using h12
              · obtain ⟨bs, rfl, hbs⟩ := hI
                have e9 := (eQ.trans e67).trans e8
                refine k p H8 bs (fresh_back (eQ.trans e67) hp) e9 h8 ?_
                have hfull : (parts F lot).take (as.map V.ref).length = parts F lot := by rw [List.length_map, q4.len, List.take_length]
                rw [hfull] at hbs
                rw [hnode]
                show LotsAt H8 bs ((parts F lot).map fun p => lots (num B) B.rules p (behind B.rules at_ (decide ((parts F lot).length = 1)))).flatten
                rw [hb1]
                exact hbs
theorem LgAt.n8 {H : Hp} {L : LgAd} {B : Bk} {names : List Str} (h : LgAt K H L B names) (ok : B.Ok) : names.length ≤ 8 := by
  rw [h.mm.length_eq]
  exact ok.sides.2.1
theorem LgAt.n0 {H : Hp} {L : LgAd} {B : Bk} {names : List Str} (h : LgAt K H L B names) (ok : B.Ok) : names ≠ [] := by
  have h1 := ok.sides.1
  rw [← h.mm.length_eq] at h1
  intro e
  rw [e] at h1
  simp at h1
variable (K) in
def spLo : Sp := fun vs H Q _ => ∃ (L : LgAd) (B : Bk) (names : List Str), vs = [.ref L.l] ∧ LgAt K H L B names ∧ B.Ok ∧
  ∀ p H2 as, H p = none → Ex H H2 → H2 p = some (.lst (as.map V.ref)) → LotsAt H2 as (lots (num B) B.rules names 0) → Q (.ref p) H2
theorem ok_lots_of (T : Tx0 K mg) : FnOk P w K mg base CX0 49 (a_lots_of K) (fd_lots_of K) p_lots_of (spLo K) := by
  refine okN T.f_lots_of sc_lots_of (fun vs H Q E h => ?_) (fun cdv A outer s H vs Q E hr h => ?_)
  · obtain ⟨L, B, nm, rfl, _⟩ := h
    rfl
  · obtain ⟨L, B, nm, rfl, hl, ok, k⟩ := h
    have okp := ok_partedN (P := P) (w := w) (base := base) T 44
    refine ⟨_, (pss_one (ps_ret (pe_call okp (hr.mono (by decide)) (by rfl) T.m_parted T.k_parted T.b_parted .nil pass0 (pa_cons (pv 0) (pa_cons (pe_fld (pv 0) rfl) (pa_cons pe_int pa_nil)))))), ?_⟩
    refine s_retC (ea_cons (ev_var rfl) (ea_cons (ev_names T (ev_var rfl) hl.ob) (ea_cons ev_c ea_nil))) fun H1 e1 => ?_
    have h8 := hl.n8 ok
    refine ⟨L, B, nm, nm, L.tn, 0, rfl, hl.mono e1, ok, e1 _ _ hl.nm, hl.n0 ok, h8, Nat.zero_le _, by have := ok.rules.1; unfold need; omega, fun p H2 as hp e2 h2 h3 => k p H2 as (fresh_back e1 hp) (e1.trans e2) h2 h3⟩
variable (K) in
def spOr : Sp := fun vs H Q _ => ∃ (L : LgAd) (B : Bk) (names : List Str), vs = [.ref L.l] ∧ LgAt K H L B names ∧ B.Ok ∧
  ∀ p H2, H p = none → Ex H H2 → H2 p = some (.tup ((orderS B names).map V.str)) → Q (.ref p) H2
theorem ok_order (T : Tx0 K mg) : FnOk P w K mg base CX0 50 (a_order K) (fd_order K) p_order (spOr K) := by
  refine okN T.f_order sc_order (fun vs H Q E h => ?_) (fun cdv A outer s H vs Q E hr h => ?_)
  · obtain ⟨L, B, nm, rfl, _⟩ := h
    rfl
  · obtain ⟨L, B, nm, rfl, hl, ok, k⟩ := h
    let SPL := spLo K
    refine ⟨_, (pss_one (ps_ret (pe_callTy call_tuple_of (by rfl) T.n_tuple (by decide +kernel) (pa_cons (pe_lc2 (own := [("lot", 1), ("side", 2)]) (g := gName 1) (tt := tYes) (wi1 := (iTup K (tVar 1))) (te := (tVar 2)) (g1 := gName 2) (tt1 := tYes) (vs1 := [2]) rfl sc_order.nd (pi_list (pe_call (ok_lots_of T) (hr.mono (by decide)) (by rfl) T.m_lots_of T.k_lots_of T.b_lots_of .nil pass0 (pa_cons (pv 0) pa_nil))) (blkOk_by (N := n_order) (sc := defScope s_order) (by decide +kernel)) (by decide) (fun _ _ _ _ _ => pg_name (i := 1) sc_order.nd rfl (by first | exact .inl rfl | exact .inr rfl)) (fun _ _ _ _ _ => pts_nil) (fun _ _ _ _ _ => (pi_tup (pv 1))) (fun _ _ _ _ _ => pg_name (i := 2) sc_order.nd rfl (by first | exact .inl rfl | exact .inr rfl)) (fun _ _ _ _ _ => pts_nil) (fun _ _ _ _ _ => (pv 2))) pa_nil)))), ?_⟩
    have h8 := hl.n8 ok
    have hfl := lots_flat_len (num B) B.rules (lot := nm) (at_ := 0) (hl.n0 ok)
    have hll := lots_len (num B) B.rules (lot := nm) (at_ := 0) (hl.n0 ok)
    refine c_call (ea_cons (ev_var rfl) ea_nil) fun H1 e1 => ?_
    refine ⟨L, B, nm, rfl, hl.mono e1, ok, fun p H2 as hp e2 h2 h3 => ?_⟩
    show tLc2 (iList K (tC (.ref p))) (gName 1) tYes (iTup K (tVar 1)) (gName 2) tYes (tVar 2) [1, 2] [2] (L2.start n_order [.ref L.l]) H2 (fun x H3 => ∃ p ys, [x] = [V.ref p] ∧ ((SqL K H3 p ys ∧ ∀ l, H3 l = none → Q (V.ref l) (upd H3 l (HO.tup ys))) ∨ (SqT K H3 p ys ∧ Q (V.ref p) H3)))
    have bnd : ∀ i, ((lots (num B) B.rules nm 0).take i).flatten.length ≤ 8 := fun i => by
      have h1 : (lots (num B) B.rules nm 0).flatten = ((lots (num B) B.rules nm 0).take i).flatten ++ ((lots (num B) B.rules nm 0).drop i).flatten := by
        rw [← List.flatten_append, List.take_append_drop]
      rw [h1, List.length_append] at hfl
      omega
    refine lc2_tup (xs := as.map V.ref) (fun i H' acc => acc = (((lots (num B) B.rules nm 0).take i).flatten).map V.str) (fun i H1 H2 acc e h => h) (fun _ => rfl) (fun _ _ => ⟨rfl, rfl⟩) (fun Q' q => q p _ (Ex.refl _) h2) (fun H8 e8 => rfl) (fun i x H8 acc hx e8 hI Q' q => ?_) fun r H8 zs hr e8 h8 hI => ?_
    · obtain ⟨u, hu, rfl⟩ := map_at hx
      obtain ⟨l, hl1, hl2⟩ := h3.at hu
      refine ⟨_, rfl, q u (l.map V.str) H8 (e8 _ _ hl2) (Ex.refl _) ?_ ?_⟩
      · rw [hI, List.length_map, List.length_map]
        have h1 := bnd i
        have h2 := (lots_sub (num B) B.rules (hl.n0 ok) (List.mem_of_getElem? hl1)).length_le
        omega
      · rw [hI, List.take_add_one, hl1, List.flatten_append, List.map_append]
        simp
    · subst hI
      refine ⟨r, _, rfl, .inl ⟨sq_of h8, fun t ht => k t _ (fresh_back ((e1.trans e2).trans e8) ht) (((e1.trans e2).trans e8).trans (Ex.new ht)) ?_⟩⟩
      rw [upd_same, List.length_map, h3.len, List.take_length]
      rfl
end
end Lw

/-! W5 -/
/-! A league made and changed. -/
namespace Lw
open PySem PySem.Spec PyProof.Rows L2 Evl Mt
/-! ### what stands, but for some addresses -/
def Kp (W : Addr → Prop) (H H' : Hp) : Prop := ∀ b o, ¬ W b → H b = some o → H' b = some o
theorem Kp.refl {W : Addr → Prop} {H : Hp} : Kp W H H := fun _ _ _ h => h
theorem Kp.of {W : Addr → Prop} {H H' : Hp} (e : Ex H H') : Kp W H H' := fun b o _ h => e b o h
theorem Kp.trans {W : Addr → Prop} {H H1 H2 : Hp} (a : Kp W H H1) (b : Kp W H1 H2) : Kp W H H2 := fun c o n h => b c o n (a c o n h)
theorem Kp.upd {W : Addr → Prop} {H : Hp} {a : Addr} {o : HO} (h : W a) : Kp W H (L2.upd H a o) := fun b ob n e => by
  have : b ≠ a := fun z => n (by rw [z]; exact h)
  rw [upd_ne this]
  exact e
theorem Kp.sub {W W' : Addr → Prop} {H H' : Hp} (k : Kp W H H') (h : ∀ a, H a ≠ none → W a → W' a) : Kp W' H H' := fun b o n e => k b o (fun w => n (h b (by rw [e]; intro z; cases z) w)) e
/-- two steps, what the second may change being changeable by the first, or new since -/
theorem Kp.step {W W' : Addr → Prop} {H H1 H2 : Hp} (k : Kp W H H1) (k2 : Kp W' H1 H2) (h : ∀ a, W' a → W a ∨ H a = none) : Kp W H H2 := fun b o n e => k2 b o (fun w => (h b w).elim n fun z => by rw [e] at z; cases z) (k b o n e)
theorem Kp.ex {W : Addr → Prop} {H H' : Hp} (k : Kp W H H') (h : ∀ a, W a → H a = none) : Ex H H' := fun b o e => k b o (fun w => by rw [h b w] at e; cases e) e
section
variable {K : PySem.W.Frag} {σ : L2.St} {H : Hp} {te to : TE} {v : V} {a C dx : Addr} {fs : List (Str × V)} {f : Str} {tz : TS} {D : Ends}
theorem s_fld (h : Ev te σ H v) (ho : Ev to σ H (.ref a)) (ob : H a = some (.ins C dx fs)) (hc : Cls K C) (hn : NoAttr K C f) (hl : fs.length < 1000) (k : ∀ H1, Ex H H1 → D.nx σ (upd H1 a (.ins C dx (putF f v fs)))) : sFld K to te f D σ H :=
  h H (Ex.refl H) _ fun H1 e1 => ho H1 e1 _ fun H2 e2 => ⟨a, C, dx, fs, rfl, (e1.trans e2) _ _ ob, hc, hn, hl, k H2 (e1.trans e2)⟩
theorem q_fld (h : Ev te σ H v) (ho : Ev to σ H (.ref a)) (ob : H a = some (.ins C dx fs)) (hc : Cls K C) (hn : NoAttr K C f) (hl : fs.length < 1000) (k : ∀ H1, Ex H H1 → tz D σ (upd H1 a (.ins C dx (putF f v fs)))) : tSeq (sFld K to te f) tz D σ H :=
  s_fld (D := { D with nx := tz D }) h ho ob hc hn hl k
/-- a tuple, new or not -/
def EvW (te : TE) (σ : L2.St) (H : Hp) (xs : List V) : Prop := ∀ H1, Ex H H1 → ∀ Q : VK, (∀ p H2, Ex H1 H2 → H2 p = some (.tup xs) → Q (.ref p) H2) → te σ H1 Q
theorem ew_of {xs : List V} (h : EvU te σ H xs) : EvW te σ H xs := fun H1 e Q q => h H1 e Q fun p H2 _ e2 h2 => q p H2 e2 h2
theorem ew_tup {xs : List V} (h : Ev te σ H (.ref a)) (hs : Sq H a xs) : EvW (tCB (fun xs H Q => ∃ p ys, xs = [.ref p] ∧ ((SqL K H p ys ∧ ∀ l, H l = none → Q (.ref l) (upd H l (.tup ys))) ∨ (SqT K H p ys ∧ Q (.ref p) H))) (tCons te tNil)) σ H xs := fun H1 e Q q =>
  h H1 e _ fun H2 e2 => (hs.elim (fun hs => ⟨a, xs, rfl, .inl ⟨sq_of (e2 _ _ (e _ _ hs)), fun l hl => q l _ (e2.trans (Ex.new hl)) upd_same⟩⟩) fun hs => ⟨a, xs, rfl, .inr ⟨st_of (e2 _ _ (e _ _ hs)), q a H2 e2 (e2 _ _ (e _ _ hs))⟩⟩)
theorem q_fldW {xs : List V} (h : EvW te σ H xs) (ho : Ev to σ H (.ref a)) (ob : H a = some (.ins C dx fs)) (hc : Cls K C) (hn : NoAttr K C f) (hl : fs.length < 1000) (k : ∀ p H1, Ex H H1 → H1 p = some (.tup xs) → tz D σ (upd H1 a (.ins C dx (putF f (.ref p) fs)))) : tSeq (sFld K to te f) tz D σ H :=
  h H (Ex.refl H) _ fun p H1 e1 h1 => ho H1 e1 _ fun H2 e2 => ⟨a, C, dx, fs, rfl, (e1.trans e2) _ _ ob, hc, hn, hl, k p H2 (e1.trans e2) (e2 _ _ h1)⟩
theorem s_fldW {xs : List V} (h : EvW te σ H xs) (ho : Ev to σ H (.ref a)) (ob : H a = some (.ins C dx fs)) (hc : Cls K C) (hn : NoAttr K C f) (hl : fs.length < 1000) (k : ∀ p H1, Ex H H1 → H1 p = some (.tup xs) → D.nx σ (upd H1 a (.ins C dx (putF f (.ref p) fs)))) : sFld K to te f D σ H :=
  h H (Ex.refl H) _ fun p H1 e1 h1 => ho H1 e1 _ fun H2 e2 => ⟨a, C, dx, fs, rfl, (e1.trans e2) _ _ ob, hc, hn, hl, k p H2 (e1.trans e2) (e2 _ _ h1)⟩
theorem q_fldL {xs : List V} (h : EvL te σ H xs) (ho : Ev to σ H (.ref a)) (ob : H a = some (.ins C dx fs)) (hc : Cls K C) (hn : NoAttr K C f) (hl : fs.length < 1000) (k : ∀ p H1, H p = none → Ex H H1 → H1 p = some (.lst xs) → tz D σ (upd H1 a (.ins C dx (putF f (.ref p) fs)))) : tSeq (sFld K to te f) tz D σ H :=
  h H (Ex.refl H) _ fun p H1 hp e1 h1 => ho H1 e1 _ fun H2 e2 => ⟨a, C, dx, fs, rfl, (e1.trans e2) _ _ ob, hc, hn, hl, k p H2 hp (e1.trans e2) (e2 _ _ h1)⟩
theorem q_asgM {C : Addr} {sp : Sp} {E : XK} {t : TA} {σ : L2.St} {H : Hp} {D : Ends} {tz : TS} {i : Nat} {vs dvs : List V} (h : EvA t σ H vs) (k : ∀ H1, Ex H H1 → ∀ x dx, H1 x = none → H1 dx = none → dx ≠ x → sp (.ref x :: (vs ++ dvs)) (upd (upd H1 dx (.own x)) x (.ins C dx [])) (fun v H2 => v = .non ∧ tz D (σ.set i (some (.ref x))) H2) E) : tSeq (tAsg (tMake C sp dvs E t) (gName i)) tz D σ H := h H (Ex.refl H) _ k
/-- list(a list, a tuple) -/
theorem el_listL {K : PySem.W.Frag} {σ : L2.St} {H : Hp} {ta : TE} {p : Addr} {xs : List V} (ha : Ev ta σ H (.ref p)) (h : H p = some (.lst xs)) : EvL (tCB (rListS K) (tCons ta tNil)) σ H xs := el_list ha (sq_of h)
theorem ev_meth {σ : L2.St} {H : Hp} {ta : TE} {t : TA} {m : Str} {sp : Sp} {E : XK} {dvs vs : List V} {a C dx : Addr} {fs : List (Str × V)} {z : V} (h : Ev ta σ H (.ref a)) (ob : H a = some (.ins C dx fs)) (hv : EvA t σ H vs) (hm : fs.lookup m = none) (hs : SpV sp (.ref a :: (vs ++ dvs)) H z) :
    Ev (tMeth C m sp dvs E ta t) σ H z := fun H1 e Q q => h H1 e _ fun H2 e2 => ⟨a, dx, fs, rfl, e2 _ _ (e _ _ ob), hm, hv H2 (e.trans e2) _ fun H3 e3 => hs H3 ((e.trans e2).trans e3) Q (fun H4 e4 => q H4 ((e2.trans e3).trans e4)) E⟩
end
theorem ins_ne_tup {H : Hp} {a b C dx : Addr} {fs : List (Str × V)} {xs : List V} (h : H a = some (.ins C dx fs)) (h2 : H b = some (.tup xs)) : b ≠ a := fun e => by
  rw [e, h] at h2
  cases h2
theorem ins_ne_lst {H : Hp} {a b C dx : Addr} {fs : List (Str × V)} {xs : List V} (h : H a = some (.ins C dx fs)) (h2 : H b = some (.lst xs)) : b ≠ a := fun e => by
  rw [e, h] at h2
  cases h2
section
variable {P : Program} {w : World} {K : PySem.W.Frag} {mg : Str → Option Value} {base : Heap}
variable (K) in
def spInit : Sp := fun vs H Q _ => ∃ (x dx sa wa ra : Addr) (B : Bk) (names : List Str), vs = [.ref x, .ref sa, .ref wa, .ref ra] ∧ H x = some (.ins (LC K) dx []) ∧ Sq H sa (names.map V.str) ∧ H wa = some (.tup (schV B.win B.draw B.loss)) ∧ Sq H ra (B.rules.map V.str) ∧
  names.Perm B.sides ∧ goodSides names ∧ goodScheme B.win B.draw B.loss ∧ goodRules B.rules ∧ B.games = [] ∧ B.gone = [] ∧
  ∀ L H2, L.l = x → L.ts = [] → H L.lr = none → Kp (fun b => b = x) H H2 → LgAt K H2 L B names → Q .non H2
theorem ok_Linit (T : Tx0 K mg) : FnOk P w K mg base CX0 4 (a_Linit K) (fd_Linit K) p_Linit (spInit K) := by
  refine okN T.f_Linit sc_Linit (fun vs H Q E h => ?_) (fun cdv A outer s H vs Q E hr h => ?_)
  · obtain ⟨x, dx, sa, wa, ra, B, nm, rfl, _⟩ := h
    rfl
  · obtain ⟨x, dx, sa, wa, ra, B, nm, rfl, hx, hs, hw, hra, pm, g1, g2, g3, b1, b2, k⟩ := h
    refine ⟨_, (pss_cons (ps_if (pt_not (pt_val (pe_call (ok_are_sides T) (hr.mono (by decide)) (by rfl) T.m_are_sides T.k_are_sides T.b_are_sides .nil pass0 (pa_cons (pv 1) pa_nil)))) (pss_one ps_never) pss_nil)
    (pss_cons (ps_if (pt_not (pt_val (pe_call (ok_is_scheme T) (hr.mono (by decide)) (by rfl) T.m_is_scheme T.k_is_scheme T.b_is_scheme .nil pass0 (pa_cons (pv 2) pa_nil)))) (pss_one ps_never) pss_nil)
    (pss_cons (ps_if (pt_not (pt_val (pe_call (ok_are_rules T) (hr.mono (by decide)) (by rfl) T.m_are_rules T.k_are_rules T.b_are_rules .nil pass0 (pa_cons (pv 3) pa_nil)))) (pss_one ps_never) pss_nil)
    (pss_cons (ps_fld (pv 0) (pe_callTy call_tuple_of (by rfl) T.n_tuple (by decide +kernel) (pa_cons (pv 1) pa_nil)) rfl)
    (pss_cons (ps_fld (pv 0) (pe_callTy call_tuple_of (by rfl) T.n_tuple (by decide +kernel) (pa_cons (pv 2) pa_nil)) rfl)
    (pss_cons (ps_fld (pv 0) (pe_callTy call_tuple_of (by rfl) T.n_tuple (by decide +kernel) (pa_cons (pv 3) pa_nil)) rfl)
    (pss_cons (ps_fld (pv 0) (pe_lst pa_nil) rfl)
    (pss_one (ps_fld (pv 0) (pe_tup pa_nil) rfl))))))))), ?_⟩
    refine q_when (b := false) (et_not (et_B (ev_call (ea_cons (ev_var rfl) ea_nil) (spV_ev (R := r_are_sides) fun H1 e => ⟨sa, nm, rfl, sq_mono e hs, g1, rfl⟩)))) (fun z => nomatch z) fun _ H1 e1 => ?_
    refine q_when (b := false) (et_not (et_B (ev_call (ea_cons (ev_var rfl) ea_nil) (spV_ev (R := r_is_scheme) fun H2 e => ⟨wa, _, _, _, rfl, (e1.trans e) _ _ hw, g2, rfl⟩)))) (fun z => nomatch z) fun _ H2 e2 => ?_
    have e12 := e1.trans e2
    refine q_when (b := false) (et_not (et_B (ev_call (ea_cons (ev_var rfl) ea_nil) (spV_ev (R := r_are_rules) fun H3 e => ⟨ra, _, rfl, sq_mono (e12.trans e) hra, g3, rfl⟩)))) (fun z => nomatch z) fun _ H3 e3 => ?_
    have e13 := e12.trans e3
    have kx : ∀ {H : Hp} {o : HO}, Kp (fun b => b = x) H (upd H x o) := Kp.upd rfl
    refine q_fldW (ew_tup (ev_var rfl) (sq_mono e13 hs)) (ev_var rfl) (e13 _ _ hx) T.cl T.a_names (by decide) fun tn H4 e4 h4 => ?_
    have nx4 : tn ≠ x := ins_ne_tup (e4 _ _ (e13 _ _ hx)) h4
    have k4 : Kp (fun b => b = x) H (upd H4 x (.ins (LC K) dx (putF "names" (.ref tn) []))) := (Kp.of (e13.trans e4)).trans kx
    refine q_fldW (ew_tup (ev_var rfl) (.inr (k4 _ _ (ins_ne_tup hx hw) hw))) (ev_var rfl) upd_same T.cl T.a_worth (show 1 < 1000 by decide) fun tw H5 e5 h5 => ?_
    have nx5 : tw ≠ x := ins_ne_tup (e5 _ _ upd_same) h5
    have k5 := (k4.trans (.of e5)).trans (kx (o := (.ins (LC K) dx (putF "worth" (.ref tw) (putF "names" (.ref tn) [])))))
    have hra5 : Sq (upd H5 x (.ins (LC K) dx (putF "worth" (.ref tw) (putF "names" (.ref tn) [])))) ra (B.rules.map V.str) := hra.imp (fun h => k5 _ _ (ins_ne_lst hx h) h) (fun h => k5 _ _ (ins_ne_tup hx h) h)
    refine q_fldW (ew_tup (ev_var rfl) hra5) (ev_var rfl) upd_same T.cl T.a_ranks (show 2 < 1000 by decide) fun tr H6 e6 h6 => ?_
    have nx6 : tr ≠ x := ins_ne_tup (e6 _ _ upd_same) h6
    have k6 := (k5.trans (.of e6)).trans (kx (o := (.ins (LC K) dx (putF "ranks" (.ref tr) (putF "worth" (.ref tw) (putF "names" (.ref tn) []))))))
    refine q_fldL (xs := []) (el_lst (vs := []) ea_nil (show 0 ≤ 100000 by decide)) (ev_var rfl) upd_same T.cl T.a_rows (show 3 < 1000 by decide) fun lr H7 hlr e7 h7 => ?_
    have nx7 : lr ≠ x := ins_ne_lst (e7 _ _ upd_same) h7
    have k7 := (k6.trans (.of e7)).trans (kx (o := (.ins (LC K) dx (putF "rows" (.ref lr) (putF "ranks" (.ref tr) (putF "worth" (.ref tw) (putF "names" (.ref tn) [])))))))
    refine s_fldW (xs := []) (ew_of (eu_tup (vs := []) ea_nil (show 0 ≤ 100000 by decide))) (ev_var rfl) upd_same T.cl T.a_gone (show 4 < 1000 by decide) fun tg H8 e8 h8 => ?_
    have nx8 : tg ≠ x := ins_ne_tup (e8 _ _ upd_same) h8
    have k8 := (k7.trans (.of e8)).trans (kx (o := (.ins (LC K) dx (putF "gone" (.ref tg) (putF "rows" (.ref lr) (putF "ranks" (.ref tr) (putF "worth" (.ref tw) (putF "names" (.ref tn) []))))))))
    have u8 : Kp (fun b => b = x) H8 _ := kx (H := H8) (o := (.ins (LC K) dx (putF "gone" (.ref tg) (putF "rows" (.ref lr) (putF "ranks" (.ref tr) (putF "worth" (.ref tw) (putF "names" (.ref tn) [])))))))
    have j78 := (kx.trans (.of e8)).trans u8
    have j68 := (kx.trans (.of e7)).trans j78
    have j58 := (kx.trans (.of e6)).trans j68
    have j48 := (kx.trans (.of e5)).trans j58
    have lrn : H lr = none := by
      cases hh : H lr with
      | none => rfl
      | some o =>
        have := k6 _ _ nx7 hh
        rw [hlr] at this
        cases this
    refine k ⟨x, dx, tn, tw, tr, lr, tg, []⟩ _ rfl rfl lrn k8 ⟨?_, ?_, ?_, ?_, ?_, ?_, ?_, ?_, pm⟩
    · rw [upd_same]
      rfl
    · exact j48 _ _ nx4 h4
    · exact j58 _ _ nx5 h5
    · exact j68 _ _ nx6 h6
    · exact j78 _ _ nx7 h7
    · rw [b2]
      exact u8 _ _ nx8 h8
    · rw [b1]
      rfl
    · intro i t g hi
      simp at hi
variable (K) in
def r_need_side : List V → Hp → V → Prop := fun vs H z => ∃ (L : LgAd) (B : Bk) (nm : List Str) (x : Str), vs = [.ref L.l, .str x] ∧ LgAt K H L B nm ∧ x ∈ B.sides ∧ x ∉ B.gone ∧ z = .non
theorem ok_Lneed_side (T : Tx0 K mg) : FnOk P w K mg base CX0 1 (a_Lneed_side K) (fd_Lneed_side K) p_Lneed_side (spV (r_need_side K)) := by
  refine okN T.f_Lneed_side sc_Lneed_side (fun vs H Q E h => ?_) (fun cdv A outer s H vs Q E hr h => ?_)
  · obtain ⟨z, ⟨L, B, nm, x, rfl, _⟩, _⟩ := h
    rfl
  · obtain ⟨z, ⟨L, B, nm, x, rfl, hl, h1, h2, rfl⟩, k⟩ := h
    refine ⟨_, (pss_one (ps_if (PW.pt (pw_or (pt_cmpR op_notIn_seq (pv 1) (pe_fld (pv 0) rfl) (by rfl)) (pw_or1 (pt_cmpR op_in_seq (pv 1) (pe_fld (pv 0) rfl) (by rfl))))) (pss_one ps_never) pss_nil)), ?_⟩
    refine s_when (b := false) (et_is (et_or (et_test (ev_op (ev_var rfl) (ev_names T (ev_var rfl) hl.ob) (rv_strTn (st_of hl.nm)))) fun _ => et_test (ev_op (ev_var rfl) (ev_gone T (ev_var rfl) hl.ob) (rv_strT (st_of hl.gn)))) ?_) (fun z => nomatch z) fun _ H1 e1 => k H1 e1
    have := hl.mm.mem_iff.mpr h1
    simp [this, h2]
/-- what a change of the league leaves -/
def LgW (L : LgAd) (b : Addr) : Prop := b = L.l ∨ b = L.lr
variable (K) in
def Chg (H : Hp) (L : LgAd) (B : Bk) (nm : List Str) (v : V) (Q : VK) : Prop := ∀ L' H2, L'.l = L.l → L'.lr = L.lr → Kp (LgW L) H H2 → LgAt K H2 L' B nm → Q v H2
variable (K) in
def spSet : Sp := fun vs H Q _ => ∃ (L : LgAd) (B : Bk) (nm : List Str) (i : Nat) (st : Str) (g : Game), vs = [.ref L.l, .int (i : Int), .str st] ∧ LgAt K H L B nm ∧ B.games[i]? = some g ∧ Chg K H L { B with games := B.games.set i (g.1, g.2.1, st) } nm .non Q
theorem set_getq {α : Type} {xs : List α} {i j : Nat} {x y : α} (h : (xs.set i x)[j]? = some y) : (i = j ∧ x = y) ∨ (i ≠ j ∧ xs[j]? = some y) := by
  by_cases e : i = j
  · subst e
    refine .inl ⟨rfl, ?_⟩
    have hl := (List.getElem?_eq_some_iff.mp h).1
    rw [List.length_set] at hl
    rw [List.getElem?_set_self hl] at h
    exact Option.some.inj h
  · rw [List.getElem?_set_ne e] at h
    exact .inr ⟨e, h⟩
/-- a row put in the place of another -/
theorem LgAt.set {H H1 : Hp} {L : LgAd} {B : Bk} {nm : List Str} (h : LgAt K H L B nm) (e : Ex H H1) {i : Nat} {t : Addr} {g : Game} (ht : H1 t = some (.tup (rowV g))) :
    LgAt K (upd H1 L.lr (.lst ((L.ts.map V.ref).set i (.ref t)))) { L with ts := L.ts.set i t } { B with games := B.games.set i g } nm := by
  have u : ∀ {b : Addr} {o : HO}, (∀ l, o ≠ .lst l) → H1 b = some o → (upd H1 L.lr (.lst ((L.ts.map V.ref).set i (.ref t)))) b = some o := fun {b o} hl hb => upd_exl (e _ _ h.rw) b o hb hl
  refine ⟨u (fun _ z => by cases z) (e _ _ h.ob), u (fun _ z => by cases z) (e _ _ h.nm), u (fun _ z => by cases z) (e _ _ h.wt), u (fun _ z => by cases z) (e _ _ h.rk), ?_, u (fun _ z => by cases z) (e _ _ h.gn), ?_, ?_, h.mm⟩
  · show (upd H1 L.lr (.lst ((L.ts.map V.ref).set i (.ref t)))) L.lr = _
    rw [upd_same, List.map_set]
  · show (L.ts.set i t).length = (B.games.set i g).length
    rw [List.length_set, List.length_set, h.ln]
  · intro j t' g' h1 h2
    rcases set_getq h1 with ⟨e1, rfl⟩ | ⟨n1, h1⟩
    · rcases set_getq h2 with ⟨_, rfl⟩ | ⟨n2, _⟩
      · exact u (fun _ z => by cases z) ht
      · exact absurd e1 n2
    · rcases set_getq h2 with ⟨e2, rfl⟩ | ⟨_, h2⟩
      · exact absurd e2 n1
      · exact u (fun _ z => by cases z) (e _ _ (h.ro j t' g' h1 h2))
/-- xs[i] = a new tuple -/
theorem s_setLU {σ : L2.St} {H : Hp} {ta tb te : TE} {D : Ends} {l : Addr} {xs ys : List V} {j : Nat} (hl : H l = some (.lst xs)) (h : EvU te σ H ys) (ho : Ev ta σ H (.ref l)) (hi : Ev tb σ H (.int (j : Int))) (hj : j < xs.length)
    (k : ∀ p H1, H p = none → Ex H H1 → H1 p = some (.tup ys) → D.nx σ (upd H1 l (.lst (xs.set j (.ref p))))) : tAsg te (gSub ta tb rSetL) D σ H := h H (Ex.refl H) _ fun p H1 hp e1 h1 => ho H1 e1 _ fun H2 e2 => hi H2 (e1.trans e2) _ fun H3 e3 =>
  ⟨l, xs, (j : Int), j, rfl, rfl, ((e1.trans e2).trans e3) l _ hl, ixN_nat hj, k p H3 hp ((e1.trans e2).trans e3) (e3 _ _ (e2 _ _ h1))⟩
theorem ok_Lset_state (T : Tx0 K mg) : FnOk P w K mg base CX0 1 (a_Lset_state K) (fd_Lset_state K) p_Lset_state (spSet K) := by
  refine okN T.f_Lset_state sc_Lset_state (fun vs H Q E h => ?_) (fun cdv A outer s H vs Q E hr h => ?_)
  · obtain ⟨L, B, nm, i, st, g, rfl, _⟩ := h
    rfl
  · obtain ⟨L, B, nm, i, st, g, rfl, hl, hg, k⟩ := h
    obtain ⟨t, ht, hrow⟩ := hl.rowAt hg
    have hi : i < L.ts.length := (List.getElem?_eq_some_iff.mp ht).1
    refine ⟨_, (pss_cons (ps_asg (pe_ix ix_list (pe_fld (pv 0) rfl) (pv 1) (fun _ _ => rfl)) (pg_tup (by rfl) (pgs_cons (pg_name (i := 3) sc_Lset_state.nd rfl (by first | exact .inl rfl | exact .inr rfl)) (pgs_cons (pg_name (i := 4) sc_Lset_state.nd rfl (by first | exact .inl rfl | exact .inr rfl)) (pgs_cons (pg_name (i := 5) sc_Lset_state.nd rfl (by first | exact .inl rfl | exact .inr rfl)) pgs_nil)))))
    (pss_one (ps_asg (pe_tup (pa_cons (pv 3) (pa_cons (pv 4) (pa_cons (pv 2) pa_nil)))) (pg_sub (pe_fld (pv 0) rfl) (pv 1) set_list)))), ?_⟩
    refine q_unp3 (x := .str g.1) (y := .str g.2.1) (z := .str g.2.2) (ev_op (ev_rows T (ev_var rfl) hl.ob) (ev_var rfl) (rv_atL (sq_of hl.rw) (by rw [List.getElem?_map, ht]; rfl))) (st_of hrow) fun H1 e1 => ?_
    refine s_setLU (xs := L.ts.map V.ref) (ys := rowV (g.1, g.2.1, st)) (j := i) (e1 _ _ hl.rw) (eu_tup (ea_cons (ev_var rfl) (ea_cons (ev_var rfl) (ea_cons (ev_var rfl) ea_nil))) (show 3 ≤ 100000 by decide)) (ev_rows T (ev_var rfl) (e1 _ _ hl.ob)) (ev_var rfl) (by rw [List.length_map]; exact hi) fun p H2 hp e2 h2 => ?_
    exact k { L with ts := L.ts.set i p } _ rfl rfl ((Kp.of (e1.trans e2)).trans (Kp.upd (.inr rfl))) (hl.set (e1.trans e2) h2)
variable (K) in
def spAdd : Sp := fun vs H Q _ => ∃ (L : LgAd) (B : Bk) (nm : List Str) (h a : Str), vs = [.ref L.l, .str h, .str a] ∧ LgAt K H L B nm ∧ h ∈ B.sides ∧ h ∉ B.gone ∧ a ∈ B.sides ∧ a ∉ B.gone ∧ h ≠ a ∧ B.games.length < 80 ∧
  Chg K H L { B with games := B.games ++ [(h, a, ("left" : Str))] } nm (.int (B.games.length : Int)) Q
theorem LgAt.add {H H1 : Hp} {L : LgAd} {B : Bk} {nm : List Str} (h : LgAt K H L B nm) (e : Ex H H1) {t : Addr} {g : Game} (ht : H1 t = some (.tup (rowV g))) :
    LgAt K (upd H1 L.lr (.lst (L.ts.map V.ref ++ [.ref t]))) { L with ts := L.ts ++ [t] } { B with games := B.games ++ [g] } nm := by
  have u : ∀ {b : Addr} {o : HO}, (∀ l, o ≠ .lst l) → H1 b = some o → (upd H1 L.lr (.lst (L.ts.map V.ref ++ [.ref t]))) b = some o := fun {b o} hl hb => upd_exl (e _ _ h.rw) b o hb hl
  refine ⟨u (fun _ z => by cases z) (e _ _ h.ob), u (fun _ z => by cases z) (e _ _ h.nm), u (fun _ z => by cases z) (e _ _ h.wt), u (fun _ z => by cases z) (e _ _ h.rk), ?_, u (fun _ z => by cases z) (e _ _ h.gn), ?_, ?_, h.mm⟩
  · show (upd H1 L.lr (.lst (L.ts.map V.ref ++ [.ref t]))) L.lr = _
    rw [upd_same, List.map_append]
    rfl
  · show (L.ts ++ [t]).length = (B.games ++ [g]).length
    rw [List.length_append, List.length_append, h.ln]
    rfl
  · intro j t' g' h1 h2
    by_cases hj : j < L.ts.length
    · rw [List.getElem?_append_left hj] at h1
      rw [List.getElem?_append_left (by rw [← h.ln]; exact hj)] at h2
      exact u (fun _ z => by cases z) (e _ _ (h.ro j t' g' h1 h2))
    · have hj2 := (List.getElem?_eq_some_iff.mp h1).1
      rw [List.length_append] at hj2
      have e1 : j = L.ts.length := by simp at hj2; omega
      subst e1
      have e2 : t = t' := by simpa using h1
      have e3 : g = g' := by
        rw [h.ln] at h2
        simpa using h2
      subst e2 e3
      exact u (fun _ z => by cases z) ht
theorem ok_Ladd_game (T : Tx0 K mg) : FnOk P w K mg base CX0 2 (a_Ladd_game K) (fd_Ladd_game K) p_Ladd_game (spAdd K) := by
  refine okN T.f_Ladd_game sc_Ladd_game (fun vs H Q E h => ?_) (fun cdv A outer s H vs Q E hr h => ?_)
  · obtain ⟨L, B, nm, h, a, rfl, _⟩ := h
    rfl
  · obtain ⟨L, B, nm, h, a, rfl, hl, h1, h2, h3, h4, h5, h6, k⟩ := h
    refine ⟨_, (pss_cons (ps_expr (pe_meth (pv 0) T.cl T.m_Lneed_side (ok_Lneed_side T) (hr.mono (by decide)) T.b_Lneed_side .nil pass0 (pa_cons (pv 1) pa_nil)))
    (pss_cons (ps_expr (pe_meth (pv 0) T.cl T.m_Lneed_side (ok_Lneed_side T) (hr.mono (by decide)) T.b_Lneed_side .nil pass0 (pa_cons (pv 2) pa_nil)))
    (pss_cons (ps_if (pt_cmpR op_eq (pv 1) (pv 2) (by rfl)) (pss_one ps_never) pss_nil)
    (pss_cons (ps_if (pt_cmpR op_eq (pe_callB call_len (by rfl) T.n_len (by decide +kernel) (pa_cons (pe_fld (pv 0) rfl) pa_nil)) (pe_cI (by rfl) T.c_MOST_GAMES) (by rfl)) (pss_one ps_never) pss_nil)
    (pss_cons (ps_expr (pe_bm PySem.F.plainAttrs_list PySem.F.slot_list_append PySem.F.type_list_append mt_append (pe_fld (pv 0) rfl) (pa_cons (pe_tup (pa_cons (pv 1) (pa_cons (pv 2) (pa_cons (pe_cS (by rfl) T.c_LEFT) pa_nil)))) pa_nil)))
    (pss_one (ps_ret (pe_op op_sub (pe_callB call_len (by rfl) T.n_len (by decide +kernel) (pa_cons (pe_fld (pv 0) rfl) pa_nil)) pe_int)))))))), ?_⟩
    refine q_drop (ev_meth (ev_var rfl) hl.ob (ea_cons (ev_var rfl) ea_nil) (by rfl) (spV_ev (R := r_need_side K) fun H1 e => ⟨L, B, nm, h, rfl, hl.mono e, h1, h2, rfl⟩)) fun H1 e1 => ?_
    refine q_drop (ev_meth (ev_var rfl) (e1 _ _ hl.ob) (ea_cons (ev_var rfl) ea_nil) (by rfl) (spV_ev (R := r_need_side K) fun H2 e => ⟨L, B, nm, a, rfl, hl.mono (e1.trans e), h3, h4, rfl⟩)) fun H2 e2 => ?_
    have e12 := e1.trans e2
    refine q_when (b := false) (et_is (et_test (ev_op (ev_var rfl) (ev_var rfl) rv_eqS)) (by simp [h5])) (fun z => nomatch z) fun _ H3 e3 => ?_
    have e13 := e12.trans e3
    have hlr := lenL (K := K) (sq_of (e13 _ _ hl.rw))
    rw [List.length_map, hl.ln] at hlr
    refine q_when (b := false) (et_is (et_test (ev_op (ev_lenV (ev_rows T (ev_var rfl) (e13 _ _ hl.ob)) hlr) ev_c rv_eqI)) ?_) (fun z => nomatch z) fun _ H4 e4 => ?_
    · have : ¬ (B.games.length : Int) = 80 := by omega
      simp [this]
    have e14 := e13.trans e4
    refine q_appU (xs := L.ts.map V.ref) (ys := rowV (h, a, "left")) (e14 _ _ hl.rw) (ev_rows T (ev_var rfl) (e14 _ _ hl.ob)) (eu_tup (ea_cons (ev_var rfl) (ea_cons (ev_var rfl) (ea_cons ev_c ea_nil))) (show 3 ≤ 100000 by decide)) ?_ fun p H5 hp e5 h5 => ?_
    · rw [List.length_map, hl.ln]
      omega
    · have hl2 := hl.add (e14.trans e5) h5
      have hlr := lenL (K := K) (sq_of hl2.rw)
      rw [List.length_map, hl2.ln] at hlr
      refine s_ret (ev_is (ev_op (ev_lenV (ev_rows T (ev_var rfl) hl2.ob) hlr) ev_c rv_sub) ?_) fun H6 e6 => k { L with ts := L.ts ++ [p] } H6 rfl rfl (((Kp.of (e14.trans e5)).trans (Kp.upd (.inr rfl))).trans (.of e6)) (hl2.mono e6)
      rw [List.length_append]
      simp
variable (K) in
def spCopy : Sp := fun vs H Q _ => ∃ (L : LgAd) (B : Bk) (nm : List Str), vs = [.ref L.l] ∧ LgAt K H L B nm ∧ B.Ok ∧ ∀ L' H2, H L'.l = none → H L'.lr = none → Ex H H2 → LgAt K H2 L' B nm → Q (.ref L'.l) H2
theorem ok_Lcopy (T : Tx0 K mg) : FnOk P w K mg base CX0 6 (a_Lcopy K) (fd_Lcopy K) p_Lcopy (spCopy K) := by
  refine okN T.f_Lcopy sc_Lcopy (fun vs H Q E h => ?_) (fun cdv A outer s H vs Q E hr h => ?_)
  · obtain ⟨L, B, nm, rfl, _⟩ := h
    rfl
  · obtain ⟨L, B, nm, rfl, hl, ok, k⟩ := h
    refine ⟨_, (pss_cons (ps_set (i := 1) sc_Lcopy.nd rfl (by first | exact .inl rfl | exact .inr rfl) (pe_make T.mkL (ok_Linit T) (hr.mono (by decide)) (by rfl) T.g_League T.b_Linit .nil pass0 (pa_cons (pe_fld (pv 0) rfl) (pa_cons (pe_fld (pv 0) rfl) (pa_cons (pe_fld (pv 0) rfl) pa_nil)))))
    (pss_cons (ps_fld (pv 1) (pe_callTy call_list_of (by rfl) T.n_list (by decide +kernel) (pa_cons (pe_fld (pv 0) rfl) pa_nil)) rfl)
    (pss_cons (ps_fld (pv 1) (pe_fld (pv 0) rfl) rfl)
    (pss_one (ps_ret (pv 1)))))), ?_⟩
    refine q_asgM (ea_cons (ev_names T (ev_var rfl) hl.ob) (ea_cons (ev_worth T (ev_var rfl) hl.ob) (ea_cons (ev_ranks T (ev_var rfl) hl.ob) ea_nil))) fun H1 e1 x dx nx ndx ne => ?_
    have l1 := hl.mono e1
    have ex1 : Ex H1 (upd (upd H1 dx (.own x)) x (.ins (LC K) dx [])) := (Ex.new ndx).trans (Ex.new (by rw [upd_ne ne.symm]; exact nx))
    have l2 := l1.mono ex1
    have pn := l1.mm
    refine ⟨x, dx, L.tn, L.tw, L.tr, { B with games := [], gone := [] }, nm, rfl, upd_same, .inr l2.nm, l2.wt, .inr l2.rk, pn, ⟨?_, ?_, ?_, fun n hn => ok.sides.2.2.2 n (pn.mem_iff.mp hn)⟩, ok.scheme, ok.rules, rfl, rfl, fun L' H2 hx hts hlr kp lg => ⟨rfl, ?_⟩⟩
    · rw [pn.length_eq]
      exact ok.sides.1
    · rw [pn.length_eq]
      exact ok.sides.2.1
    · exact pn.nodup_iff.mpr ok.sides.2.2.1
    · subst hx
      have xn : H L'.l = none := fresh_back e1 nx
      have e2 : Ex H H2 := fun b o hb => kp b o (fun z => by rw [z, xn] at hb; cases hb) (ex1 _ _ (e1 _ _ hb))
      have l3 := hl.mono e2
      show tSeq _ _ _ _ _
      refine q_fldL (xs := L.ts.map V.ref) (el_listL (ev_rows T (ev_var rfl) l3.ob) l3.rw) (ev_var rfl) lg.ob T.cl T.a_rows (show 5 < 1000 by decide) fun lr H3 hr3 e3 h3 => ?_
      have nlr : lr ≠ L'.l := fun z => by
        rw [z, lg.ob] at hr3
        cases hr3
      have k3 : Kp (fun b => b = L'.l) H2 (upd H3 L'.l (.ins (LC K) L'.dx (putF "rows" (.ref lr) (lgF L')))) := (Kp.of e3).trans (Kp.upd rfl)
      have e4 : Ex H (upd H3 L'.l (.ins (LC K) L'.dx (putF "rows" (.ref lr) (lgF L')))) := fun b o hb => k3 b o (fun z => by rw [z, xn] at hb; cases hb) (e2 _ _ hb)
      have l4 := hl.mono e4
      refine q_fld (v := .ref L.tg) (ev_gone T (ev_var rfl) l4.ob) (ev_var rfl) upd_same T.cl T.a_gone (show 5 < 1000 by decide) fun H5 e5 => ?_
      have k5 : Kp (fun b => b = L'.l) H3 (upd H5 L'.l (.ins (LC K) L'.dx (putF "gone" (.ref L.tg) (putF "rows" (.ref lr) (lgF L'))))) := ((Kp.upd (W := fun b => b = L'.l) rfl).trans (.of e5)).trans (Kp.upd rfl)
      have e6 : Ex H (upd H5 L'.l (.ins (LC K) L'.dx (putF "gone" (.ref L.tg) (putF "rows" (.ref lr) (lgF L'))))) := fun b o hb => k5 b o (fun z => by rw [z, xn] at hb; cases hb) (e3 _ _ (e2 _ _ hb))
      have k25 := (Kp.of e3).trans k5
      refine s_ret (ev_var rfl) fun H7 e7 => ?_
      have l6 := hl.mono e6
      refine k ⟨L'.l, L'.dx, L'.tn, L'.tw, L'.tr, lr, L.tg, L.ts⟩ H7 xn (fresh_back e2 hr3) (e6.trans e7) (LgAt.mono ⟨?_, ?_, ?_, ?_, ?_, ?_, hl.ln, l6.ro, hl.mm⟩ e7)
      · rw [upd_same]
        rfl
      · exact k25 _ _ (ins_ne_tup lg.ob lg.nm) lg.nm
      · exact k25 _ _ (ins_ne_tup lg.ob lg.wt) lg.wt
      · exact k25 _ _ (ins_ne_tup lg.ob lg.rk) lg.rk
      · exact k5 _ _ nlr h3
      · exact l6.gn
end
end Lw

/-! W6 -/
/-! A side's withdrawal. -/
namespace Lw
open PySem PySem.Spec PyProof.Rows L2 Evl Mt
section
variable {K : PySem.W.Frag} {σ : L2.St} {H : Hp} {ta tb te : TE} {t : TA} {a : Addr} {xs ys : List V} {x y z : V} {D : Ends} {tz : TS}
theorem ew_catA (h : Ev ta σ H (.ref a)) (ha : H a = some (.tup xs)) (hb : EvU tb σ H ys) (hl : xs.length + ys.length ≤ 100000) : EvW (tOp (rCatA K) ta tb) σ H (xs ++ ys) := fun H1 e Q q =>
  h H1 e _ fun H2 e2 => hb H2 (e.trans e2) _ fun b H3 hb3 e3 h3 => by
    have ha3 := (((e.trans e2).trans e3) _ _ ha)
    refine ⟨a, b, xs, ys, rfl, rfl, st_of ha3, st_of h3, sz_of hl, fun hx => ?_, fun hx hy => ?_, fun hx hy p hp => ?_⟩
    · subst hx
      exact q b H3 (e2.trans e3) h3
    · subst hy
      rw [List.append_nil] at q
      exact q a H3 (e2.trans e3) ha3
    · exact q p _ ((e2.trans e3).trans (Ex.new hp)) upd_same
theorem eu_sl2 (h : Ev te σ H (.ref a)) (ha : SqT K H a [x, y, z]) : EvU (tSl (rSlT K) te tNoPart (tPart (tC (.int 2)))) σ H [x, y] := fun H1 e Q q =>
  h H1 e _ fun H2 e2 => ⟨2, rfl, a, [x, y, z], rfl, ex_t (e.trans e2) ha, fun hh => absurd hh.2 (show ¬ (2 = 3) by decide), fun p hp => q p _ (fresh_back e2 hp) (e2.trans (Ex.new hp)) upd_same⟩
theorem s_dropM {C : Addr} {m : Str} {sp : Sp} {E : XK} {dvs vs : List V} {dx : Addr} {fs : List (Str × V)} (h : Ev ta σ H (.ref a)) (ob : H a = some (.ins C dx fs)) (hm : fs.lookup m = none) (hv : EvA t σ H vs) (k : ∀ H1, Ex H H1 → sp (.ref a :: (vs ++ dvs)) H1 (fun _ H2 => D.nx σ H2) E) :
    tDrop (tMeth C m sp dvs E ta t) D σ H := h H (Ex.refl H) _ fun H1 e1 => ⟨a, dx, fs, rfl, e1 _ _ ob, hm, hv H1 e1 _ fun H2 e2 => k H2 (e1.trans e2)⟩
theorem q_dropM {C : Addr} {m : Str} {sp : Sp} {E : XK} {dvs vs : List V} {dx : Addr} {fs : List (Str × V)} (h : Ev ta σ H (.ref a)) (ob : H a = some (.ins C dx fs)) (hm : fs.lookup m = none) (hv : EvA t σ H vs) (k : ∀ H1, Ex H H1 → sp (.ref a :: (vs ++ dvs)) H1 (fun _ H2 => tz D σ H2) E) :
    tSeq (tDrop (tMeth C m sp dvs E ta t)) tz D σ H := h H (Ex.refl H) _ fun H1 e1 => ⟨a, dx, fs, rfl, e1 _ _ ob, hm, hv H1 e1 _ fun H2 e2 => k H2 (e1.trans e2)⟩
/-- a method's call, by what its promise asks -/
theorem c_meth {C : Addr} {m : Str} {sp : Sp} {E : XK} {dvs vs : List V} {dx : Addr} {fs : List (Str × V)} {Q : VK} (h : Ev ta σ H (.ref a)) (ob : H a = some (.ins C dx fs)) (hm : fs.lookup m = none) (hv : EvA t σ H vs) (k : ∀ H1, Ex H H1 → sp (.ref a :: (vs ++ dvs)) H1 Q E) :
    tMeth C m sp dvs E ta t σ H Q := h H (Ex.refl H) _ fun H1 e1 => ⟨a, dx, fs, rfl, e1 _ _ ob, hm, hv H1 e1 _ fun H2 e2 => k H2 (e1.trans e2)⟩
theorem s_enum {g : TG} {tb : TS} (h : Ev te σ H (.ref a)) (hs : SqL K H a xs) (k : ∀ H1, Ex H H1 → ∃ W : Nat → Nat → L2.St → Hp → Prop, (∃ m, W 0 m σ H1) ∧ ∀ i m σ H, W i m σ H →
      ((Ite K a).stop i H ∧ D.nx σ H) ∨ ((Ite K a).go i H ∧ ∃ N : L2.St → Hp → Prop, (∀ σ' H', N σ' H' → ∃ m', m' < m ∧ W (i + 1) m' σ' H') ∧ ∀ x H', (Ite K a).yld i H x H' → g x σ H' fun σ2 H2 => tb { D with nx := N, ct := N, bk := D.nx } σ2 H2)) :
    tFor (iEnum K (tCons te tNil)) g tb D σ H := h H (Ex.refl H) _ fun H1 e1 => ⟨a, xs, rfl, ex_l e1 hs, k H1 e1⟩
/-- for i, x in enumerate(xs), the list changing -/
theorem for_ite {g : TG} {tb : TS} (n : Nat) (Pv : Nat → L2.St → Hp → Prop) (h0 : Pv 0 σ H) (hl : ∀ i σ H, i ≤ n → Pv i σ H → ∃ xs, SqL K H a xs ∧ xs.length = n)
    (hs : ∀ i x σ H T, i < n → Pv i σ H → (∀ xs, SqL K H a xs → xs[i]? = some x) → H T = none → g (.ref T) σ (upd H T (.tup [.int (i : Nat), x])) fun σ2 H2 => tb { D with nx := Pv (i + 1), ct := Pv (i + 1), bk := D.nx } σ2 H2) (hd : ∀ σ H, Pv n σ H → D.nx σ H) :
    ∃ W : Nat → Nat → L2.St → Hp → Prop, (∃ m, W 0 m σ H) ∧ ∀ i m σ H, W i m σ H →
      ((Ite K a).stop i H ∧ D.nx σ H) ∨ ((Ite K a).go i H ∧ ∃ N : L2.St → Hp → Prop, (∀ σ' H', N σ' H' → ∃ m', m' < m ∧ W (i + 1) m' σ' H') ∧ ∀ x H', (Ite K a).yld i H x H' → g x σ H' fun σ2 H2 => tb { D with nx := N, ct := N, bk := D.nx } σ2 H2) := by
  refine ⟨fun i m σ H => m = n - i ∧ i ≤ n ∧ Pv i σ H, ⟨n, by simp, Nat.zero_le _, h0⟩, ?_⟩
  rintro i m σ H ⟨rfl, hi, p⟩
  obtain ⟨xs, q, hn⟩ := hl i σ H hi p
  by_cases hlt : i < n
  · refine .inr ⟨⟨xs, xs[i]'(by omega), q, by simp⟩, Pv (i + 1), fun σ' H' p' => ⟨n - (i + 1), by omega, rfl, hlt, p'⟩, fun x H' y => ?_⟩
    obtain ⟨T, x', rfl, hT, rfl, y⟩ := y
    exact hs i x' σ H T hlt p y hT
  · have e : i = n := by omega
    subst e
    exact .inl ⟨⟨xs, q, by omega⟩, hd σ H p⟩
end
theorem ix_take_drop {α : Type} (f : α → α) {gs : List α} {i : Nat} {g : α} (h : gs[i]? = some g) : ((gs.take i).map f ++ gs.drop i)[i]? = some g ∧ ((gs.take i).map f ++ gs.drop i).set i (f g) = (gs.take (i + 1)).map f ++ gs.drop (i + 1) := by
  have hi := (List.getElem?_eq_some_iff.mp h).1
  have hl : ((gs.take i).map f).length = i := by
    rw [List.length_map, List.length_take]
    omega
  have hd : gs.drop i = g :: gs.drop (i + 1) := by
    rw [List.drop_eq_getElem_cons hi]
    congr 1
    rw [List.getElem?_eq_getElem hi] at h
    exact Option.some.inj h
  constructor
  · rw [List.getElem?_append_right (by omega), hl, Nat.sub_self, hd]
    rfl
  · rw [List.set_append_right _ _ (by omega), hl, Nat.sub_self, hd, List.take_add_one, h, List.map_append, List.append_assoc]
    rfl
def offOf (x : Str) (g : Game) : Game := if x = g.1 ∨ x = g.2.1 then (g.1, g.2.1, "off") else g
section
variable {P : Program} {w : World} {K : PySem.W.Frag} {mg : Str → Option Value} {base : Heap}
theorem LgAt.setGone {H H1 : Hp} {L : LgAd} {B : Bk} {nm : List Str} (h : LgAt K H L B nm) (e : Ex H H1) {t : Addr} {gn : List Str} (ht : H1 t = some (.tup (gn.map V.str))) :
    LgAt K (upd H1 L.l (.ins (LC K) L.dx (lgF { L with tg := t }))) { L with tg := t } { B with gone := gn } nm := by
  have l1 := h.mono e
  have k : Kp (fun b => b = L.l) H1 (upd H1 L.l (.ins (LC K) L.dx (lgF { L with tg := t }))) := Kp.upd rfl
  refine ⟨upd_same, k _ _ (ins_ne_tup l1.ob l1.nm) l1.nm, k _ _ (ins_ne_tup l1.ob l1.wt) l1.wt, k _ _ (ins_ne_tup l1.ob l1.rk) l1.rk, k _ _ (ins_ne_lst l1.ob l1.rw) l1.rw, k _ _ (ins_ne_tup l1.ob ht) ht, l1.ln, fun i t g a b => ?_, l1.mm⟩
  have := l1.ro i t g a b
  exact k _ _ (ins_ne_tup l1.ob this) this
variable (K) in
def spWd : Sp := fun vs H Q _ => ∃ (L : LgAd) (B : Bk) (nm : List Str) (x : Str), vs = [.ref L.l, .str x] ∧ LgAt K H L B nm ∧ x ∈ B.sides ∧ x ∉ B.gone ∧ B.gone.length ≤ 8 ∧ Chg K H L { B with gone := B.gone ++ [x], games := B.games.map (offOf x) } nm .non Q
theorem ok_Lwithdraw (T : Tx0 K mg) : FnOk P w K mg base CX0 2 (a_Lwithdraw K) (fd_Lwithdraw K) p_Lwithdraw (spWd K) := by
  refine okN T.f_Lwithdraw sc_Lwithdraw (fun vs H Q E h => ?_) (fun cdv A outer s H vs Q E hr h => ?_)
  · obtain ⟨L, B, nm, x, rfl, _⟩ := h
    rfl
  · obtain ⟨L, B, nm, x, rfl, hl, h1, h2, h8, k⟩ := h
    refine ⟨_, (pss_cons (ps_expr (pe_meth (pv 0) T.cl T.m_Lneed_side (ok_Lneed_side T) (hr.mono (by decide)) T.b_Lneed_side .nil pass0 (pa_cons (pv 1) pa_nil)))
    (pss_cons (ps_fld (pv 0) (pe_op op_catA (pe_fld (pv 0) rfl) (pe_tup (pa_cons (pv 1) pa_nil))) rfl)
    (pss_one (ps_for PassesOwn.never rfl (pi_enum (by rfl) T.n_enumerate (pa_cons (pe_fld (pv 0) rfl) pa_nil)) (pg_tup (by rfl) (pgs_cons (pg_name (i := 2) sc_Lwithdraw.nd rfl (by first | exact .inl rfl | exact .inr rfl)) (pgs_cons (pg_name (i := 3) sc_Lwithdraw.nd rfl (by first | exact .inl rfl | exact .inr rfl)) pgs_nil))) (pss_one (ps_if (pt_cmpR op_in_seq (pv 1) (pe_slice sl_tup (pv 3) po_none (po_some pe_int)) (by rfl)) (pss_one (ps_expr (pe_meth (pv 0) T.cl T.m_Lset_state (ok_Lset_state T) (hr.mono (by decide)) T.b_Lset_state .nil pass0 (pa_cons (pv 2) (pa_cons (pe_cS (by rfl) T.c_OFF) pa_nil))))) pss_nil)))))), ?_⟩
    refine q_drop (ev_meth (ev_var rfl) hl.ob (ea_cons (ev_var rfl) ea_nil) (by rfl) (spV_ev (R := r_need_side K) fun H1 e => ⟨L, B, nm, x, rfl, hl.mono e, h1, h2, rfl⟩)) fun H1 e1 => ?_
    refine q_fldW (ew_catA (xs := B.gone.map V.str) (ys := [.str x]) (ev_gone T (ev_var rfl) (e1 _ _ hl.ob)) (e1 _ _ hl.gn) (eu_tup (ea_cons (ev_var rfl) ea_nil) (show 1 ≤ 100000 by decide)) (by rw [List.length_map]; simp only [List.length_cons, List.length_nil]; omega)) (ev_var rfl) (e1 _ _ hl.ob) T.cl T.a_gone (show 5 < 1000 by decide) fun tg H2 e2 h2 => ?_
    have l2 := hl.setGone (gn := B.gone ++ [x]) (e1.trans e2) (t := tg) (by rw [List.map_append]; exact h2)
    have k2 : Kp (LgW L) H (upd H2 L.l (.ins (LC K) L.dx (lgF { L with tg := tg }))) := (Kp.of (e1.trans e2)).trans (Kp.upd (.inl rfl))
    refine s_enum (a := L.lr) (ev_rows T (L := { L with tg := tg }) (ev_var rfl) l2.ob) (sq_of l2.rw) fun H3 e3 => ?_
    refine for_ite (n := B.games.length) (fun i σ' H' => ∃ L' v2 v3, L'.l = L.l ∧ L'.lr = L.lr ∧ Kp (LgW L) H H' ∧ LgAt K H' L' { B with gone := B.gone ++ [x], games := (B.games.take i).map (offOf x) ++ B.games.drop i } nm ∧ σ' = [some (.ref L.l), some (.str x), v2, v3]) ⟨{ L with tg := tg }, none, none, rfl, rfl, k2.trans (.of e3), by simpa using l2.mono e3, rfl⟩ (fun i σ' H' hi p => ?_) (fun i y σ' H' t hi p hy ht => ?_) fun σ' H' p => ?_
    · obtain ⟨L', v2, v3, a1, a2, a3, a4, rfl⟩ := p
      refine ⟨L'.ts.map V.ref, sq_of (by rw [← a2]; exact a4.rw), ?_⟩
      rw [List.length_map, a4.ln]
      show ((B.games.take i).map (offOf x) ++ B.games.drop i).length = _
      rw [List.length_append, List.length_map, List.length_take, List.length_drop]
      omega
    · obtain ⟨L', v2, v3, a1, a2, a3, a4, rfl⟩ := p
      have hg : B.games[i]? = some B.games[i] := List.getElem?_eq_getElem hi
      obtain ⟨d1, d2⟩ := ix_take_drop (offOf x) hg
      obtain ⟨u, hu, hrow⟩ := a4.rowAt (i := i) d1
      have hyu : y = .ref u := by
        have := hy _ (sq_of (by rw [← a2]; exact a4.rw))
        rw [List.getElem?_map, hu] at this
        exact (Option.some.inj this).symm
      subst hyu
      have e4 : Ex H' (upd H' t (.tup [.int (i : Nat), .ref u])) := Ex.new ht
      refine ⟨t, _, rfl, st_of upd_same, rfl, _, _, rfl, _, _, rfl, rfl, ?_⟩
      have l4 := a4.mono e4
      show tIfS _ _ tNext _ [some (.ref L.l), some (.str x), some (.int (i : Int)), some (.ref u)] _
      refine s_when (et_test (ev_opU (ev_var rfl) (eu_sl2 (ev_var rfl) (st_of (e4 _ _ hrow))) fun p H5 hp e5 => rv_strT (ys := [B.games[i].1, B.games[i].2.1]) (st_of hp))) (fun hb H5 e5 => ?_) fun hb H5 e5 => ?_
      · have l5 := l4.mono e5
        refine s_dropM (a := L.l) (ev_var rfl) (by rw [← a1]; exact l5.ob) (by rfl) (ea_cons (ev_var rfl) (ea_cons ev_c ea_nil)) fun H6 e6 => ?_
        refine ⟨L', _, nm, i, "off", B.games[i], by rw [a1]; rfl, l5.mono e6, d1, fun L2 H7 b1 b2 b3 b4 => ⟨L2, _, _, b1.trans a1, b2.trans a2, ?_, ?_, rfl⟩⟩
        · refine (a3.trans (.of ((e4.trans e5).trans e6))).trans (b3.sub fun b _ hb => ?_)
          unfold LgW at hb ⊢
          rw [a1, a2] at hb
          exact hb
        · have ho : offOf x B.games[i] = (B.games[i].1, B.games[i].2.1, ("off" : Str)) := by
            unfold offOf
            rw [if_pos (by simpa using hb)]
          rw [← ho] at b4
          have : ({ B with gone := B.gone ++ [x], games := (B.games.take (i + 1)).map (offOf x) ++ B.games.drop (i + 1) } : Bk) = { B with gone := B.gone ++ [x], games := ((B.games.take i).map (offOf x) ++ B.games.drop i).set i (offOf x B.games[i]) } := by rw [d2]
          rw [this]
          exact b4
      · have ho : offOf x B.games[i] = B.games[i] := by
          unfold offOf
          rw [if_neg (by simpa using hb)]
        have hs : ((B.games.take i).map (offOf x) ++ B.games.drop i).set i (offOf x B.games[i]) = (B.games.take i).map (offOf x) ++ B.games.drop i := by
          rw [ho]
          refine List.ext_getElem? fun j => ?_
          by_cases e : i = j
          · subst e
            rw [List.getElem?_set_self (List.getElem?_eq_some_iff.mp d1).1, d1]
          · rw [List.getElem?_set_ne e]
        refine ⟨L', _, _, a1, a2, a3.trans (.of (e4.trans e5)), ?_, rfl⟩
        rw [← d2, hs]
        exact l4.mono e5
    · obtain ⟨L', v2, v3, a1, a2, a3, a4, rfl⟩ := p
      refine k L' H' a1 a2 a3 ?_
      have : (B.games.take B.games.length).map (offOf x) ++ B.games.drop B.games.length = B.games.map (offOf x) := by simp
      rw [this] at a4
      exact a4
end
end Lw

/-! W7 -/
/-! What may be refused. -/
namespace Lw
open PySem PySem.Spec PyProof.Rows L2 Evl Mt
/-- the text of an error's making def, by places -/
def srcOf (x m : Str) (s : Stmt) : SupX.Src := match s with
  | .FunctionDef _ a b _ _ _ _ _ _ _ => match a.args, b with
    | [a1, a2], [.Expr (.Call (.Attribute (.Call (.Name _ q1) [] [] q2) _ q3) [.Constant _ _ q4] [] q5) q6, .Assign [.Attribute (.Name _ q7) _ q8] (.Name _ q9) qa] => ⟨x, m, a1.pos, a2.pos, q1, q2, q3, q4, q5, q6, q7, q8, q9, qa⟩
    | _, _ => ⟨x, m, ⟨0, 0, 0, 0⟩, ⟨0, 0, 0, 0⟩, ⟨0, 0, 0, 0⟩, ⟨0, 0, 0, 0⟩, ⟨0, 0, 0, 0⟩, ⟨0, 0, 0, 0⟩, ⟨0, 0, 0, 0⟩, ⟨0, 0, 0, 0⟩, ⟨0, 0, 0, 0⟩, ⟨0, 0, 0, 0⟩, ⟨0, 0, 0, 0⟩, ⟨0, 0, 0, 0⟩⟩
  | _ => ⟨x, m, ⟨0, 0, 0, 0⟩, ⟨0, 0, 0, 0⟩, ⟨0, 0, 0, 0⟩, ⟨0, 0, 0, 0⟩, ⟨0, 0, 0, 0⟩, ⟨0, 0, 0, 0⟩, ⟨0, 0, 0, 0⟩, ⟨0, 0, 0, 0⟩, ⟨0, 0, 0, 0⟩, ⟨0, 0, 0, 0⟩, ⟨0, 0, 0, 0⟩, ⟨0, 0, 0, 0⟩⟩
def S_bv : SupX.Src := { srcOf "" "" (inClass (top 2) 0) with x := "at", m := "an argument is not as it must be" }
def S_bg : SupX.Src := { srcOf "" "" (inClass (top 3) 0) with x := "number", m := "there is no such game for this call" }
theorem s_raise {C : Addr} {f : Str} {W : WX} {t : TA} {σ : L2.St} {H : Hp} {D : Ends} {v : V} (h : EvA t σ H [v]) (k : ∀ H1, Ex H H1 → ∀ d, H1 d = none → W (.ref C) (some d) σ (upd H1 d (.xd [(f, v)]))) : tRaiseSup C f W t D σ H :=
  h H (Ex.refl H) _ fun H1 e1 => ⟨v, rfl, fun d hd => k H1 e1 d hd⟩
structure ErrF (P : Program) (K : PySem.W.Frag) (nm : Str) (S : SupX.Src) : Prop where
  ex : ∃ fI LE cc cda, SupX.Txt P K (He.ga K nm) fI LE cc cda S
  ok : S.Ok
  xf : XfC K (He.ga K nm)
  ea : ExcA K (He.ga K nm)
  em : PySem.W.exmOne K (.ref (He.ga K nm)) (.ref (He.ga K nm)) = some true
structure TXF (P : Program) (K : PySem.W.Frag) : Prop where
  bg : ErrF P K "BadGame" S_bg
  bv : ErrF P K "BadValue" S_bv
  k1 : PySem.W.kitOne K (.ref (He.ga K "BadGame")) (.ref (He.ga K "LeagueError")) = some true
  k2 : PySem.W.kitOne K (.ref (He.ga K "BadGame")) (.ref (He.ga K "BadSide")) = some false
  k3 : PySem.W.kitOne K (.ref (He.ga K "BadValue")) (.ref (He.ga K "LeagueError")) = some true
  k4 : PySem.W.kitOne K (.ref (He.ga K "BadValue")) (.ref (He.ga K "BadGame")) = some false
section
variable {P : Program} {w : World} {K : PySem.W.Frag} {mg : Str → Option Value} {base : Heap}
/-- an error flies, its field told -/
def Flies (K : PySem.W.Frag) (nm f : Str) (v : V) (H : Hp) (E : XK) : Prop := ∀ d H1, Ex H H1 → H1 d = none → E (.ref (He.ga K nm)) (some d) (upd H1 d (.xd [(f, v)]))
variable (K) in
def spNg : Sp := fun vs H Q E => ∃ (L : LgAd) (B : Bk) (nm : List Str) (v : V), vs = [.ref L.l, v] ∧ LgAt K H L B nm ∧ FlatV v ∧
  ((∃ (i : Nat) (g : Game), v = .int (i : Int) ∧ B.games[i]? = some g ∧ g.1 ∉ B.gone ∧ g.2.1 ∉ B.gone ∧ RetV .non H Q) ∨ (inR v 0 ((B.games.length : Int) - 1) = false ∧ Flies K "BadGame" "number" v H E))
theorem ok_Lneed_game (T : Tx0 K mg) (TX : TXF P K) : FnOk P w K mg base (L2N.CX P w) 3 (a_Lneed_game K) (fd_Lneed_game K) p_Lneed_game (spNg K) := by
  obtain ⟨fI, LE, cc, cda, t_BadGame⟩ := TX.bg.ex
  refine T.f_Lneed_game.ok sc_Lneed_game (fun vs H Q E h => ?_) (fun cdv A outer s H vs Q E hr h => ?_)
  · obtain ⟨L, B, nm, v, rfl, _⟩ := h
    rfl
  · obtain ⟨L, B, nm, v, rfl, hl, hv, h⟩ := h
    refine ⟨_, (pss_cons (ps_if (pt_not (pt_val (pe_call (ok_is_from_to T) (hr.mono (by decide)) (by rfl) T.m_is_from_to T.k_is_from_to T.b_is_from_to .nil pass0 (pa_cons (pv 1) (pa_cons pe_int (pa_cons (pe_op op_sub (pe_callB call_len (by rfl) T.n_len (by decide +kernel) (pa_cons (pe_fld (pv 0) rfl) pa_nil)) pe_int) pa_nil)))))) (pss_one (L2.ps_raiseSup rfl t_BadGame TX.bg.ok T.g_BadGame hr (L2N.takes_of rfl rfl rfl rfl) (pa_cons (pv 1) pa_nil) (by rfl))) pss_nil)
    (pss_cons (ps_asg (pe_ix ix_list (pe_fld (pv 0) rfl) (pv 1) (fun _ _ => rfl)) (pg_tup (by rfl) (pgs_cons (pg_name (i := 2) sc_Lneed_game.nd rfl (by first | exact .inl rfl | exact .inr rfl)) (pgs_cons (pg_name (i := 3) sc_Lneed_game.nd rfl (by first | exact .inl rfl | exact .inr rfl)) (pgs_cons (pg_name (i := 4) sc_Lneed_game.nd rfl (by first | exact .inl rfl | exact .inr rfl)) pgs_nil)))))
    (pss_one (ps_if (PW.pt (pw_or (pt_cmpR op_in_seq (pv 2) (pe_fld (pv 0) rfl) (by rfl)) (pw_or1 (pt_cmpR op_in_seq (pv 3) (pe_fld (pv 0) rfl) (by rfl))))) (pss_one ps_never) pss_nil)))), ?_⟩
    have hlr := lenL (K := K) (sq_of hl.rw)
    rw [List.length_map, hl.ln] at hlr
    refine q_when (b := !inR v 0 ((B.games.length : Int) - 1)) (et_not (et_B (ev_call (ea_cons (ev_var rfl) (ea_cons ev_c (ea_cons (ev_op (ev_lenV (ev_rows T (ev_var rfl) hl.ob) hlr) ev_c rv_sub) ea_nil))) (spV_ev (R := r_is_from_to) fun H1 e => ⟨v, _, _, rfl, hv, rfl⟩)))) (fun hb H1 e1 => ?_) fun hb H1 e1 => ?_
    · rcases h with ⟨i, g, rfl, hg, _⟩ | ⟨_, fl⟩
      · have hi := (List.getElem?_eq_some_iff.mp hg).1
        have : inR (.int (i : Int)) 0 ((B.games.length : Int) - 1) = true := by
          simp [inR]
          omega
        rw [this] at hb
        cases hb
      · refine s_raise (ea_cons (ev_var rfl) ea_nil) fun H2 e2 d hd => fl d H2 (e1.trans e2) hd
    · rcases h with ⟨i, g, rfl, hg, f1, f2, q⟩ | ⟨hn, _⟩
      · obtain ⟨t, ht, hrow⟩ := hl.rowAt hg
        refine q_unp3 (x := .str g.1) (y := .str g.2.1) (z := .str g.2.2) (ev_op (ev_rows T (ev_var rfl) (e1 _ _ hl.ob)) (ev_var rfl) (rv_atL (sq_of (e1 _ _ hl.rw)) (by rw [List.getElem?_map, ht]; rfl))) (st_of (e1 _ _ hrow)) fun H2 e2 => ?_
        have e12 := e1.trans e2
        refine s_when (b := false) (et_is (et_or (et_test (ev_op (ev_var rfl) (ev_gone T (ev_var rfl) (e12 _ _ hl.ob)) (rv_strT (st_of (e12 _ _ hl.gn))))) fun _ => et_test (ev_op (ev_var rfl) (ev_gone T (ev_var rfl) (e12 _ _ hl.ob)) (rv_strT (st_of (e12 _ _ hl.gn))))) ?_) (fun z => nomatch z) fun _ H3 e3 => q H3 (e12.trans e3)
        simp [f1, f2]
      · rw [hn] at hb
        cases hb
/-- a game that stands free, its state changed -/
def FreeAt (B : Bk) (i : Nat) (g : Game) : Prop := B.games[i]? = some g ∧ g.1 ∉ B.gone ∧ g.2.1 ∉ B.gone
def putG (B : Bk) (i : Nat) (g : Game) (st : Str) : Bk := { B with games := B.games.set i (g.1, g.2.1, st) }
theorem inR_not {v : V} {B : Bk} {i : Nat} {g : Game} (h : B.games[i]? = some g) : inR (.int (i : Int)) 0 ((B.games.length : Int) - 1) = true := by
  have hi := (List.getElem?_eq_some_iff.mp h).1
  simp [inR]
  omega
variable (K) in
def spOff (st : Str) : Sp := fun vs H Q E => ∃ (L : LgAd) (B : Bk) (nm : List Str) (v : V), vs = [.ref L.l, v] ∧ LgAt K H L B nm ∧ FlatV v ∧
  ((∃ (i : Nat) (g : Game), v = .int (i : Int) ∧ FreeAt B i g ∧ Chg K H L (putG B i g st) nm .non Q) ∨ (inR v 0 ((B.games.length : Int) - 1) = false ∧ Flies K "BadGame" "number" v H E))
theorem Flies.mono {nm f : Str} {v : V} {H H' : Hp} {E : XK} (h : Flies K nm f v H E) (e : Ex H H') : Flies K nm f v H' E := fun d H1 e1 hd => h d H1 (e.trans e1) hd
theorem ok_Lcall_off (T : Tx0 K mg) (TX : TXF P K) : FnOk P w K mg base (L2N.CX P w) 4 (a_Lcall_off K) (fd_Lcall_off K) p_Lcall_off (spOff K "off") := by
  refine T.f_Lcall_off.ok sc_Lcall_off (fun vs H Q E h => ?_) (fun cdv A outer s H vs Q E hr h => ?_)
  · obtain ⟨L, B, nm, v, rfl, _⟩ := h
    rfl
  · obtain ⟨L, B, nm, v, rfl, hl, hv, h⟩ := h
    refine ⟨_, (pss_cons (ps_expr (pe_meth (pv 0) T.cl T.m_Lneed_game (ok_Lneed_game T TX) (hr.mono (by decide)) T.b_Lneed_game .nil (L2N.passes_call (W := fun cls d _ H => E cls d H) (E := E) (L2N.takes_of rfl rfl rfl rfl) fun _ _ _ _ h => h) (pa_cons (pv 1) pa_nil)))
    (pss_one (ps_expr (pe_meth (pv 0) T.cl T.m_Lset_state (ok_Lset_state T) (hr.mono (by decide)) T.b_Lset_state .nil pass0 (pa_cons (pv 1) (pa_cons (pe_cS (by rfl) T.c_OFF) pa_nil)))))), ?_⟩
    refine q_dropM (ev_var rfl) hl.ob (by rfl) (ea_cons (ev_var rfl) ea_nil) fun H1 e1 => ⟨L, B, nm, v, rfl, hl.mono e1, hv, ?_⟩
    rcases h with ⟨i, g, rfl, ⟨hg, f1, f2⟩, q⟩ | ⟨hn, fl⟩
    · refine .inl ⟨i, g, rfl, hg, f1, f2, fun H2 e2 => ?_⟩
      have e12 := e1.trans e2
      refine s_dropM (ev_var rfl) (e12 _ _ hl.ob) (by rfl) (ea_cons (ev_var rfl) (ea_cons ev_c ea_nil)) fun H3 e3 => ⟨L, B, nm, i, "off", g, rfl, hl.mono (e12.trans e3), hg, fun L' H4 a1 a2 a3 a4 => q L' H4 a1 a2 ((Kp.of (e12.trans e3)).trans a3) a4⟩
    · exact .inr ⟨hn, fl.mono e1⟩
variable (K) in
def spRe : Sp := fun vs H Q _ => ∃ (L : LgAd) (B : Bk) (nm : List Str) (i : Nat) (g : Game), vs = [.ref L.l, .int (i : Int)] ∧ LgAt K H L B nm ∧ FreeAt B i g ∧ Chg K H L (putG B i g "left") nm .non Q
theorem ok_Lreopen (T : Tx0 K mg) (TX : TXF P K) : FnOk P w K mg base CX0 4 (a_Lreopen K) (fd_Lreopen K) p_Lreopen (spRe K) := by
  refine okN T.f_Lreopen sc_Lreopen (fun vs H Q E h => ?_) (fun cdv A outer s H vs Q E hr h => ?_)
  · obtain ⟨L, B, nm, i, g, rfl, _⟩ := h
    rfl
  · obtain ⟨L, B, nm, i, g, rfl, hl, ⟨hg, f1, f2⟩, q⟩ := h
    refine ⟨_, (pss_cons (ps_expr (pe_meth (pv 0) T.cl T.m_Lneed_game (ok_Lneed_game T TX) (hr.mono (by decide)) T.b_Lneed_game .nil L2N.passE0 (pa_cons (pv 1) pa_nil)))
    (pss_one (ps_expr (pe_meth (pv 0) T.cl T.m_Lset_state (ok_Lset_state T) (hr.mono (by decide)) T.b_Lset_state .nil pass0 (pa_cons (pv 1) (pa_cons (pe_cS (by rfl) T.c_LEFT) pa_nil)))))), ?_⟩
    refine q_dropM (ev_var rfl) hl.ob (by rfl) (ea_cons (ev_var rfl) ea_nil) fun H1 e1 => ⟨L, B, nm, .int (i : Int), rfl, hl.mono e1, trivial, ?_⟩
    refine .inl ⟨i, g, rfl, hg, f1, f2, fun H2 e2 => ?_⟩
    have e12 := e1.trans e2
    refine s_dropM (ev_var rfl) (e12 _ _ hl.ob) (by rfl) (ea_cons (ev_var rfl) (ea_cons ev_c ea_nil)) fun H3 e3 => ⟨L, B, nm, i, "left", g, rfl, hl.mono (e12.trans e3), hg, fun L' H4 a1 a2 a3 a4 => q L' H4 a1 a2 ((Kp.of (e12.trans e3)).trans a3) a4⟩
variable (K) in
def spEn : Sp := fun vs H Q E => ∃ (L : LgAd) (B : Bk) (nm : List Str) (v : V) (o : Str), vs = [.ref L.l, v, .str o] ∧ LgAt K H L B nm ∧ FlatV v ∧
  ((∃ (i : Nat) (g : Game), v = .int (i : Int) ∧ FreeAt B i g ∧ ((endedS o = true ∧ (o = "draw" → B.draw ≠ none) ∧ Chg K H L (putG B i g o) nm .non Q) ∨ ((endedS o = false ∨ (o = "draw" ∧ B.draw = none)) ∧ Flies K "BadValue" "at" (.int 1) H E))) ∨
   (inR v 0 ((B.games.length : Int) - 1) = false ∧ Flies K "BadGame" "number" v H E))
theorem optV_none {d : Option Int} : decide (optV d = .non) = decide (d = none) := by
  cases d <;> simp [optV]
theorem ok_Lenter (T : Tx0 K mg) (TX : TXF P K) : FnOk P w K mg base (L2N.CX P w) 4 (a_Lenter K) (fd_Lenter K) p_Lenter (spEn K) := by
  obtain ⟨fI, LE, cc, cda, t_BadValue⟩ := TX.bv.ex
  refine T.f_Lenter.ok sc_Lenter (fun vs H Q E h => ?_) (fun cdv A outer s H vs Q E hr h => ?_)
  · obtain ⟨L, B, nm, v, o, rfl, _⟩ := h
    rfl
  · obtain ⟨L, B, nm, v, o, rfl, hl, hv, h⟩ := h
    refine ⟨_, (pss_cons (ps_expr (pe_meth (pv 0) T.cl T.m_Lneed_game (ok_Lneed_game T TX) (hr.mono (by decide)) T.b_Lneed_game .nil (L2N.passes_call (W := fun cls d _ H => E cls d H) (E := E) (L2N.takes_of rfl rfl rfl rfl) fun _ _ _ _ h => h) (pa_cons (pv 1) pa_nil)))
    (pss_cons (ps_if (PW.pt (pw_or (pt_not (pt_val (pe_callB call_isi (by rfl) T.n_isinstance (by decide +kernel) (pa_cons (pv 2) (pa_cons (pe_bltn (v := .ty "str") (u := .type "str") (by rfl) T.n_str (by decide +kernel) rfl) pa_nil))))) (pw_or1 (pt_cmpR op_notIn_seq (pv 2) (pe_glob (v := .ref (He.ga K "OUTCOMES")) (by rfl) T.g_OUTCOMES rfl) (by rfl))))) (pss_one (L2.ps_raiseSup rfl t_BadValue TX.bv.ok T.g_BadValue hr (L2N.takes_of rfl rfl rfl rfl) (pa_cons pe_int pa_nil) (by rfl))) pss_nil)
    (pss_cons (ps_if (PW.pt (pw_and (pt_cmpR op_eq (pv 2) pe_str (by rfl)) (pw_and1 (pt_cmpR op_isN (pe_ix ix_tup (pe_fld (pv 0) rfl) pe_int (fun _ _ => rfl)) pe_non (by rfl))))) (pss_one (L2.ps_raiseSup rfl t_BadValue TX.bv.ok T.g_BadValue hr (L2N.takes_of rfl rfl rfl rfl) (pa_cons pe_int pa_nil) (by rfl))) pss_nil)
    (pss_one (ps_expr (pe_meth (pv 0) T.cl T.m_Lset_state (ok_Lset_state T) (hr.mono (by decide)) T.b_Lset_state .nil pass0 (pa_cons (pv 1) (pa_cons (pv 2) pa_nil)))))))), ?_⟩
    refine q_dropM (ev_var rfl) hl.ob (by rfl) (ea_cons (ev_var rfl) ea_nil) fun H1 e1 => ⟨L, B, nm, v, rfl, hl.mono e1, hv, ?_⟩
    rcases h with ⟨i, g, rfl, ⟨hg, f1, f2⟩, h⟩ | ⟨hn, fl⟩
    · refine .inl ⟨i, g, rfl, hg, f1, f2, fun H2 e2 => ?_⟩
      have e12 := e1.trans e2
      refine q_when (b := !endedS o) (et_is (et_or (a := false) (et_is (et_not (et_B (ev_isi (ev_var rfl) ev_c (flat_ty (x := .str o) trivial) (kit_s trivial)))) rfl) fun _ => et_test (ev_op (ev_var rfl) ev_c (rv_strTn (t2r T H2)))) (by rw [out_mem]; rfl)) (fun hb H3 e3 => ?_) fun hb H3 e3 => ?_
      · rcases h with ⟨ho, _⟩ | ⟨_, fl⟩
        · rw [ho] at hb
          cases hb
        · exact s_raise (ea_cons ev_c ea_nil) fun H4 e4 d hd => fl d H4 ((e12.trans e3).trans e4) hd
      · have e13 := e12.trans e3
        refine q_when (b := decide (o = "draw") && decide (B.draw = none)) (et_and (et_test (ev_op (ev_var rfl) ev_c rv_eqS)) fun _ => et_is (et_test (ev_op (ev_op (ev_worth T (ev_var rfl) (e13 _ _ hl.ob)) ev_c (rv_atT (i := 1) (v := optV B.draw) (st_of (e13 _ _ hl.wt)) rfl)) ev_c rv_isN)) optV_none) (fun hb2 H4 e4 => ?_) fun hb2 H4 e4 => ?_
        · rcases h with ⟨_, hd, _⟩ | ⟨_, fl⟩
          · have : o = "draw" ∧ B.draw = none := by simpa using hb2
            exact absurd this.2 (hd this.1)
          · exact s_raise (ea_cons ev_c ea_nil) fun H5 e5 d hd => fl d H5 ((e13.trans e4).trans e5) hd
        · have e14 := e13.trans e4
          rcases h with ⟨_, _, q⟩ | ⟨hc, _⟩
          · refine s_dropM (ev_var rfl) (e14 _ _ hl.ob) (by rfl) (ea_cons (ev_var rfl) (ea_cons (ev_var rfl) ea_nil)) fun H5 e5 => ⟨L, B, nm, i, o, g, rfl, hl.mono (e14.trans e5), hg, fun L' H6 a1 a2 a3 a4 => q L' H6 a1 a2 ((Kp.of (e14.trans e5)).trans a3) a4⟩
          · exfalso
            rcases hc with hc | ⟨hc1, hc2⟩
            · rw [hc] at hb
              cases hb
            · subst hc1
              simp [hc2] at hb2
    · exact .inr ⟨hn, fl.mono e1⟩
end
end Lw

/-! V1 -/
/-! The law's state and its draws: whatever is drawn lies below what was asked. -/
namespace Lw
open PySem PySem.Spec PyProof.Rows L2 Evl Mt
structure S7 where
  cl : Addr
  at_ : Int
  value : Int
  left : Int
  mixed : Int
  count : Int
  seed : Int
def kvs7 (s : S7) : List (Key × V) := [(.inr "cells", .ref s.cl), (.inr "at", .int s.at_), (.inr "value", .int s.value), (.inr "left", .int s.left), (.inr "mixed", .int s.mixed), (.inr "count", .int s.count), (.inr "seed", .int s.seed)]
def StateAt (H : Hp) (st : Addr) : Prop := ∃ (s : S7) (cells : List Int), H st = some (.dK (kvs7 s)) ∧ H s.cl = some (.lst (cells.map V.int)) ∧ 0 ≤ s.at_
section
variable {K : PySem.W.Frag} {σ : L2.St} {H : Hp} {te td : TE} {v : V} {a : Addr} {kvs : List (Key × V)} {k : Str} {tz : TS} {D : Ends}
theorem s_dput (h : Ev te σ H v) (hd : Ev td σ H (.ref a)) (ho : H a = some (.dK kvs)) (hl : kvs.length < 1000) (n : ∀ H1, Ex H H1 → D.nx σ (upd H1 a (.dK (putK kvs (.inr k) v)))) : sDPut td (tC (.str k)) te D σ H :=
  h H (Ex.refl H) _ fun H1 e1 => hd H1 e1 _ fun H2 e2 => ⟨a, _, rfl, DPut.k (k := .inr k) ((e1.trans e2) _ _ ho) (sz_lt (by omega)), n H2 (e1.trans e2)⟩
theorem q_dput (h : Ev te σ H v) (hd : Ev td σ H (.ref a)) (ho : H a = some (.dK kvs)) (hl : kvs.length < 1000) (n : ∀ H1, Ex H H1 → tz D σ (upd H1 a (.dK (putK kvs (.inr k) v)))) : tSeq (sDPut td (tC (.str k)) te) tz D σ H :=
  s_dput (D := { D with nx := tz D }) h hd ho hl n
end
/-- the list's address that a dict's first entry holds -/
def cl1 : HO → Option Addr
  | .dK ((_, .ref a) :: _) => some a
  | _ => none
/-- all stands but the state at st, whose cells are the same list -/
def Ks (st : Addr) (H H' : Hp) : Prop := Kp (fun b => b = st) H H' ∧ ∀ o, H st = some o → ∃ o2, H' st = some o2 ∧ cl1 o2 = cl1 o
theorem Ks.of {st : Addr} {H H' : Hp} (e : Ex H H') : Ks st H H' := ⟨.of e, fun o h => ⟨o, e _ _ h, rfl⟩⟩
theorem Ks.trans {st : Addr} {H H1 H2 : Hp} (a : Ks st H H1) (b : Ks st H1 H2) : Ks st H H2 := ⟨a.1.trans b.1, fun o h => by
  obtain ⟨o1, h1, e1⟩ := a.2 o h
  obtain ⟨o2, h2, e2⟩ := b.2 o1 h1
  exact ⟨o2, h2, e2.trans e1⟩⟩
theorem Ks.mutNew {st c : Addr} {H H1 : Hp} {o : HO} (a : Ks st H H1) (hc : H c = none) (n : c ≠ st) : Ks st H (upd H1 c o) :=
  ⟨a.1.step (W' := fun b => b = c) (Kp.upd rfl) fun b hb => .inr (by rw [hb]; exact hc), fun o' h => by
    obtain ⟨o1, h1, e1⟩ := a.2 o' h
    exact ⟨o1, by rw [upd_ne n.symm]; exact h1, e1⟩⟩
theorem Ks.cl {st : Addr} {H H' : Hp} {s s' : S7} (a : Ks st H H') (h : H st = some (.dK (kvs7 s))) (h' : H' st = some (.dK (kvs7 s'))) : s'.cl = s.cl := by
  obtain ⟨o, h1, e⟩ := a.2 _ h
  rw [h'] at h1
  cases h1
  exact Option.some.inj e
theorem c_mod {n : Int} (h : 0 < n) {i : Int} : 0 ≤ i % n ∧ i % n < n := ⟨Int.emod_nonneg _ (by omega), Int.emod_lt_of_pos _ h⟩
theorem mulL {c i : Int} (h1 : -18446744073709551616 < c) (h2 : c < 18446744073709551616) : CMul c i := .inl ⟨by show -2 ^ 64 < c; omega, by show c < 2 ^ 64; omega⟩
theorem mulR {c i : Int} (h1 : -18446744073709551616 < c) (h2 : c < 18446744073709551616) : CMul i c := .inr ⟨by show -2 ^ 64 < c; omega, by show c < 2 ^ 64; omega⟩
theorem rv_mod {H : Hp} {i j : Int} (h : 0 < j) : RV (rI (fun _ j => 0 < j) fun i j => .int (i % j)) (.int i) (.int j) H (.int (i % j)) := rv_I h
theorem rv_fdiv {H : Hp} {i j : Int} (h : CDiv i j) : RV (rI CDiv fun i j => .int (i / j)) (.int i) (.int j) H (.int (i / j)) := rv_I h
section
variable {P : Program} {w : World} {K : PySem.W.Frag} {mg : Str → Option Value} {base : Heap}
def StAt (H : Hp) (st : Addr) (s : S7) (cells : List Int) : Prop := H st = some (.dK (kvs7 s)) ∧ H s.cl = some (.lst (cells.map V.int)) ∧ 0 ≤ s.at_
def spDr : Sp := fun vs H Q _ => ∃ (st : Addr) (many : Int), vs = [.ref st, .int many] ∧ StateAt H st ∧ 1 ≤ many ∧ many ≤ 1000000 ∧
  ∀ r H2, 0 ≤ r → r < many → StateAt H2 st → Ks st H H2 → Q (.int r) H2
theorem ok_law_draw (T : Tx0 K mg) : FnOk P w K mg base CX0 1 (a_law_draw K) (fd_law_draw K) p_law_draw spDr := by
  refine okN T.f_law_draw sc_law_draw (fun vs H Q E h => ?_) (fun cdv A outer s H vs Q E hr h => ?_)
  · obtain ⟨st, m, rfl, _⟩ := h
    rfl
  · obtain ⟨st, many, rfl, ⟨s0, cells, hs, hc, h0⟩, m1, m2, k⟩ := h
    refine ⟨_, (pss_cons (ps_dput (hu_of hr) (pv 0) pe_str (pe_op op_add (pe_dget (hu_of hr) (pv 0) pe_str (fun _ _ => rfl)) pe_int) rfl)
    (pss_cut (ps_if (pt_cmpR op_eq (pe_dget (hu_of hr) (pv 0) pe_str (fun _ _ => rfl)) pe_int (by rfl)) (pss_cons (ps_dput (hu_of hr) (pv 0) pe_str pe_int rfl)
    (pss_cons (ps_dput (hu_of hr) (pv 0) pe_str pe_int rfl)
    (pss_cons (ps_dput (hu_of hr) (pv 0) pe_str (pe_dget (hu_of hr) (pv 0) pe_str (fun _ _ => rfl)) rfl)
    (pss_one (ps_if (pt_cmpR op_lt (pe_dget (hu_of hr) (pv 0) pe_str (fun _ _ => rfl)) (pe_callB call_len (by rfl) T.n_len (by decide +kernel) (pa_cons (pe_dget (hu_of hr) (pv 0) pe_str (fun _ _ => rfl)) pa_nil)) (by rfl)) (pss_cons (ps_set (i := 2) sc_law_draw.nd rfl (by first | exact .inl rfl | exact .inr rfl) (pe_ix ix_list (pe_dget (hu_of hr) (pv 0) pe_str (fun _ _ => rfl)) (pe_dget (hu_of hr) (pv 0) pe_str (fun _ _ => rfl)) (fun _ _ => rfl)))
    (pss_cons (ps_dput (hu_of hr) (pv 0) pe_str (pe_op op_add (pe_dget (hu_of hr) (pv 0) pe_str (fun _ _ => rfl)) pe_int) rfl)
    (pss_cons (ps_dput (hu_of hr) (pv 0) pe_str (pe_op op_fdiv (pe_callB call_abs (by rfl) T.n_abs (by decide +kernel) (pa_cons (pv 2) pa_nil)) pe_int) rfl)
    (pss_cons (ps_dput (hu_of hr) (pv 0) pe_str (pe_op op_mod (pe_callTy call_int1 (by rfl) T.n_int (by decide +kernel) (pa_cons (pv 2) pa_nil)) pe_int) rfl)
    (pss_one (ps_dput (hu_of hr) (pv 0) pe_str (pe_op op_sub pe_int (pe_op op_mul pe_int (pe_dget (hu_of hr) (pv 0) pe_str (fun _ _ => rfl)))) rfl)))))) pss_nil))))) pss_nil)
    (pss_cons (ps_dput (hu_of hr) (pv 0) pe_str (pe_op op_sub (pe_dget (hu_of hr) (pv 0) pe_str (fun _ _ => rfl)) pe_int) rfl)
    (pss_cons (ps_if (pt_cmpR op_eq (pe_dget (hu_of hr) (pv 0) pe_str (fun _ _ => rfl)) pe_int (by rfl)) (pss_cons (ps_set (i := 3) sc_law_draw.nd rfl (by first | exact .inl rfl | exact .inr rfl) (pe_op op_mod (pe_callTy call_int1 (by rfl) T.n_int (by decide +kernel) (pa_cons (pe_op op_add (pe_dget (hu_of hr) (pv 0) pe_str (fun _ _ => rfl)) (pe_op op_mul pe_int (pe_dget (hu_of hr) (pv 0) pe_str (fun _ _ => rfl)))) pa_nil)) pe_int))
    (pss_cons (ps_set (i := 3) sc_law_draw.nd rfl (by first | exact .inl rfl | exact .inr rfl) (pe_op op_mod (pe_callTy call_int1 (by rfl) T.n_int (by decide +kernel) (pa_cons (pe_op op_add (pe_op op_mul (pv 3) (pv 3)) (pe_op op_mul pe_int (pe_dget (hu_of hr) (pv 0) pe_str (fun _ _ => rfl)))) pa_nil)) pe_int))
    (pss_one (ps_ret (pe_op op_mod (pe_callTy call_int1 (by rfl) T.n_int (by decide +kernel) (pa_cons (pe_op op_fdiv (pe_op op_mod (pe_callTy call_int1 (by rfl) T.n_int (by decide +kernel) (pa_cons (pe_op op_mul (pv 3) pe_int) pa_nil)) pe_int) pe_int) pa_nil)) (pv 1)))))) pss_nil)
    (pss_cons (ps_set (i := 4) sc_law_draw.nd rfl (by first | exact .inl rfl | exact .inr rfl) (pe_op op_mod (pe_callTy call_int1 (by rfl) T.n_int (by decide +kernel) (pa_cons (pe_dget (hu_of hr) (pv 0) pe_str (fun _ _ => rfl)) pa_nil)) (pv 1)))
    (pss_cons (ps_dput (hu_of hr) (pv 0) pe_str (pe_op op_fdiv (pe_dget (hu_of hr) (pv 0) pe_str (fun _ _ => rfl)) (pv 1)) rfl)
    (pss_cons (ps_if (pt_cmpR op_eq (pe_dget (hu_of hr) (pv 0) pe_str (fun _ _ => rfl)) pe_int (by rfl)) (pss_one (ps_dput (hu_of hr) (pv 0) pe_str pe_int rfl)) pss_nil)
    (pss_one (ps_ret (pv 4)))))))))), ?_⟩
    have ncl : s0.cl ≠ st := fun e => by
      rw [e, hs] at hc
      cases hc
    let J : S7 → Hp → Prop := fun s H' => H' st = some (.dK (kvs7 s)) ∧ s.cl = s0.cl ∧ 0 ≤ s.at_ ∧ Kp (fun b => b = st) H H'
    have step : ∀ {s s' : S7} {key : Str} {v : V} {H' H'' : Hp}, J s H' → Ex H' H'' → putK (kvs7 s) (.inr key) v = kvs7 s' → s'.cl = s.cl → 0 ≤ s'.at_ → J s' (upd H'' st (.dK (putK (kvs7 s) (.inr key) v))) := fun {s s' key v H' H''} h e hp hcl ha =>
      ⟨by rw [upd_same, hp], hcl.trans h.2.1, ha, (h.2.2.2.trans (.of e)).trans (Kp.upd rfl)⟩
    have lst : ∀ {s : S7} {H' : Hp}, J s H' → H' s.cl = some (.lst (cells.map V.int)) := fun {s H'} h => by
      rw [h.2.1]
      exact h.2.2.2 _ _ ncl hc
    have fin : ∀ {s : S7} {H' : Hp} {r : Int}, J s H' → 0 ≤ r → r < many → Q (.int r) H' := fun {s H' r} h a b => k r H' a b ⟨s, cells, h.1, lst h, h.2.2.1⟩ ⟨h.2.2.2, fun o ho => ⟨_, h.1, by
      rw [hs] at ho
      cases ho
      show some s.cl = some s0.cl
      rw [h.2.1]⟩⟩
    have mono : ∀ {s : S7} {H' H'' : Hp}, J s H' → Ex H' H'' → J s H'' := fun {s H' H''} h e => ⟨e _ _ h.1, h.2.1, h.2.2.1, h.2.2.2.trans (.of e)⟩
    have j0 : J s0 H := ⟨hs, rfl, h0, Kp.refl⟩
    have hm : 0 < many := by omega
    refine q_dput (ev_op (ev_dk (ev_var rfl) hs rfl) ev_c rv_add) (ev_var rfl) hs (show 7 < 1000 by decide) fun H1 e1 => ?_
    have j1 := step (key := "count") (v := .int (s0.count + 1)) (s' := { s0 with count := s0.count + 1 }) j0 e1 rfl rfl h0
    refine q_cut (M := fun σ' H' => ∃ (c : Option V) (s : S7), σ' = [some (.ref st), some (.int many), c, none, none] ∧ J s H') ?_ ?_
    · refine s_when (et_test (ev_op (ev_dk (ev_var rfl) j1.1 rfl) ev_c rv_eqI)) (fun hb H2 e2 => ?_) fun hb H2 e2 => ⟨none, _, rfl, mono j1 e2⟩
      have j2 := mono j1 e2
      refine q_dput ev_c (ev_var rfl) j2.1 (show 7 < 1000 by decide) fun H3 e3 => ?_
      have j3 := step (key := "left") (v := .int 60) (s' := { s0 with count := s0.count + 1, left := 60 }) j2 e3 rfl rfl h0
      refine q_dput ev_c (ev_var rfl) j3.1 (show 7 < 1000 by decide) fun H4 e4 => ?_
      have j4 := step (key := "mixed") (v := .int 1) (s' := { s0 with count := s0.count + 1, left := 60, mixed := 1 }) j3 e4 rfl rfl h0
      refine q_dput (ev_dk (ev_var rfl) j4.1 rfl) (ev_var rfl) j4.1 (show 7 < 1000 by decide) fun H5 e5 => ?_
      have j5 := step (key := "value") (v := .int s0.seed) (s' := { s0 with count := s0.count + 1, left := 60, mixed := 1, value := s0.seed }) j4 e5 rfl rfl h0
      have hlen := lenL (K := K) (sq_of (lst j5))
      rw [List.length_map] at hlen
      refine s_when (et_test (ev_op (ev_dk (ev_var rfl) j5.1 rfl) (ev_lenV (ev_dk (ev_var rfl) j5.1 rfl) hlen) rv_lt)) (fun hb H6 e6 => ?_) fun hb H6 e6 => ⟨none, _, rfl, mono j5 e6⟩
      have j6 := mono j5 e6
      have hlt : s0.at_ < cells.length := of_decide_eq_true hb
      obtain ⟨n, hn⟩ := Int.eq_ofNat_of_zero_le h0
      have hn' : n < cells.length := by omega
      have hat : (n : Int) = s0.at_ := hn.symm
      refine q_asg (v := .int cells[n]) (ev_op (ev_dk (ev_var rfl) j6.1 rfl) (ev_dk (v := .int s0.at_) (ev_var rfl) j6.1 rfl) (rv_ixL (sq_of (lst j6)) (hat ▸ atI_nat (j := n) (by rw [List.getElem?_map, List.getElem?_eq_getElem hn']; rfl)))) fun H7 e7 => ?_
      have j7 := mono j6 e7
      refine q_dput (ev_op (ev_dk (ev_var rfl) j7.1 rfl) ev_c rv_add) (ev_var rfl) j7.1 (show 7 < 1000 by decide) fun H8 e8 => ?_
      have j8 := step (key := "at") (v := .int (s0.at_ + 1)) (s' := { s0 with count := s0.count + 1, left := 60, mixed := 1, value := s0.seed, at_ := s0.at_ + 1 }) j7 e8 rfl rfl (show 0 ≤ s0.at_ + 1 by omega)
      refine q_dput (v := .int ((if cells[n] < 0 then -cells[n] else cells[n]) / 2)) (ev_op (ev_cb (ea_cons (ev_var rfl) ea_nil) (fun H1 _ Q q => ⟨cells[n], rfl, q H1 (Ex.refl _)⟩)) ev_c (rv_fdiv (by constructor <;> decide))) (ev_var rfl) j8.1 (show 7 < 1000 by decide) fun H9 e9 => ?_
      have j9 := step (key := "value") (v := .int ((if cells[n] < 0 then -cells[n] else cells[n]) / 2)) (s' := { s0 with count := s0.count + 1, left := 60, mixed := 1, value := (if cells[n] < 0 then -cells[n] else cells[n]) / 2, at_ := s0.at_ + 1 }) j8 e9 rfl rfl (show 0 ≤ s0.at_ + 1 by omega)
      refine q_dput (v := .int (cells[n] % 2)) (ev_op (ev_int (ev_var rfl)) ev_c (rv_mod (by decide))) (ev_var rfl) j9.1 (show 7 < 1000 by decide) fun H10 e10 => ?_
      have j10 := step (key := "mixed") (v := .int (cells[n] % 2)) (s' := { s0 with count := s0.count + 1, left := 60, mixed := cells[n] % 2, value := (if cells[n] < 0 then -cells[n] else cells[n]) / 2, at_ := s0.at_ + 1 }) j9 e10 rfl rfl (show 0 ≤ s0.at_ + 1 by omega)
      refine s_dput (v := .int (60 - 48 * (cells[n] % 2))) (ev_op ev_c (ev_op ev_c (ev_dk (ev_var rfl) j10.1 rfl) (rv_mul (mulL (by decide) (by decide)))) rv_sub) (ev_var rfl) j10.1 (show 7 < 1000 by decide) fun H11 e11 => ?_
      exact ⟨some (.int cells[n]), _, rfl, step (key := "left") (v := .int (60 - 48 * (cells[n] % 2))) (s' := { s0 with count := s0.count + 1, left := 60 - 48 * (cells[n] % 2), mixed := cells[n] % 2, value := (if cells[n] < 0 then -cells[n] else cells[n]) / 2, at_ := s0.at_ + 1 }) j10 e11 rfl rfl (show 0 ≤ s0.at_ + 1 by omega)⟩
    · rintro σ' H2 ⟨c, s2, rfl, j2⟩
      refine q_dput (ev_op (ev_dk (ev_var rfl) j2.1 rfl) ev_c rv_sub) (ev_var rfl) j2.1 (show 7 < 1000 by decide) fun H3 e3 => ?_
      have j3 := step (key := "left") (v := .int (s2.left - 1)) (s' := { s2 with left := s2.left - 1 }) j2 e3 rfl rfl j2.2.2.1
      refine q_when (et_test (ev_op (ev_dk (ev_var rfl) j3.1 rfl) ev_c rv_eqI)) (fun hb H4 e4 => ?_) fun hb H4 e4 => ?_
      · have j4 := mono j3 e4
        refine q_asg (v := .int ((s2.value + 7919 * s2.count) % 1000003)) (ev_op (ev_int (ev_op (ev_dk (ev_var rfl) j4.1 rfl) (ev_op ev_c (ev_dk (ev_var rfl) j4.1 rfl) (rv_mul (mulL (by decide) (by decide)))) rv_add)) ev_c (rv_mod (by decide))) fun H5 e5 => ?_
        have j5 := mono j4 e5
        have b5 := c_mod (n := 1000003) (by decide) (i := s2.value + 7919 * s2.count)
        generalize (s2.value + 7919 * s2.count) % 1000003 = n5 at b5
        refine q_asg (v := .int ((n5 * n5 + 31 * s2.count) % 998244353)) (ev_op (ev_int (ev_op (ev_op (ev_var rfl) (ev_var rfl) (rv_mul (mulL (by omega) (by omega)))) (ev_op ev_c (ev_dk (ev_var rfl) j5.1 rfl) (rv_mul (mulL (by decide) (by decide)))) rv_add)) ev_c (rv_mod (by decide))) fun H6 e6 => ?_
        have j6 := mono j5 e6
        have b6 := c_mod (n := 998244353) (by decide) (i := n5 * n5 + 31 * s2.count)
        generalize (n5 * n5 + 31 * s2.count) % 998244353 = n6 at b6
        refine s_ret (v := .int ((n6 * 48271 % 2147483647 / 16) % many)) (ev_op (ev_int (ev_op (ev_op (ev_int (ev_op (ev_var rfl) ev_c (rv_mul (mulL (by omega) (by omega))))) ev_c (rv_mod (by decide))) ev_c (rv_fdiv (by constructor <;> decide)))) (ev_var rfl) (rv_mod hm)) fun H7 e7 => ?_
        have b7 := c_mod hm (i := n6 * 48271 % 2147483647 / 16)
        exact fin (mono j6 e7) b7.1 b7.2
      · have j4 := mono j3 e4
        refine q_asg (v := .int (s2.value % many)) (ev_op (ev_int (ev_dk (ev_var rfl) j4.1 rfl)) (ev_var rfl) (rv_mod hm)) fun H5 e5 => ?_
        have j5 := mono j4 e5
        have b5 := c_mod hm (i := s2.value)
        refine q_dput (v := .int (s2.value / many)) (ev_op (ev_dk (ev_var rfl) j5.1 rfl) (ev_var rfl) (rv_fdiv ⟨hm, by omega⟩)) (ev_var rfl) j5.1 (show 7 < 1000 by decide) fun H6 e6 => ?_
        have j6 := step (key := "value") (v := .int (s2.value / many)) (s' := { s2 with left := s2.left - 1, value := s2.value / many }) j5 e6 rfl rfl j2.2.2.1
        refine q_when (et_test (ev_op (ev_dk (ev_var rfl) j6.1 rfl) ev_c rv_eqI)) (fun hb H7 e7 => ?_) fun hb H7 e7 => ?_
        · have j7 := mono j6 e7
          refine s_dput ev_c (ev_var rfl) j7.1 (show 7 < 1000 by decide) fun H8 e8 => ?_
          have j8 := step (key := "left") (v := .int 0) (s' := { s2 with left := 0, value := s2.value / many }) j7 e8 rfl rfl j2.2.2.1
          exact s_ret (ev_var rfl) fun H9 e9 => fin (mono j8 e9) b5.1 b5.2
        · exact s_ret (ev_var rfl) fun H8 e8 => fin (mono j6 (e7.trans e8)) b5.1 b5.2
end
end Lw

/-! V2 -/
/-! The law's book as it stands in the heap; what is read off it. -/
namespace Lw
open PySem PySem.Spec PyProof.Rows L2 Evl Mt
structure BkAd where
  b : Addr
  sds : Addr
  scm : Addr
  rls : Addr
  gms : Addr
  gne : Addr
  gs : List Addr
def kvsB (A : BkAd) : List (Key × V) := [(.inr "sides", .ref A.sds), (.inr "scheme", .ref A.scm), (.inr "rules", .ref A.rls), (.inr "games", .ref A.gms), (.inr "gone", .ref A.gne)]
structure BookAt (H : Hp) (A : BkAd) (B : Bk) : Prop where
  ob : H A.b = some (.dK (kvsB A))
  sd : H A.sds = some (.lst (B.sides.map V.str))
  sc : H A.scm = some (.tup (schV B.win B.draw B.loss))
  rl : H A.rls = some (.tup (B.rules.map V.str))
  gm : H A.gms = some (.lst (A.gs.map V.ref))
  gn : H A.gne = some (.lst (B.gone.map V.str))
  ln : A.gs.length = B.games.length
  ro : ∀ (i : Nat) (t : Addr) (g : Game), A.gs[i]? = some t → B.games[i]? = some g → H t = some (.lst (rowV g))
  nd : (A.sds :: A.gms :: A.gne :: A.gs).Nodup
theorem BookAt.mono {H H' : Hp} {A : BkAd} {B : Bk} (h : BookAt H A B) (e : Ex H H') : BookAt H' A B :=
  ⟨e _ _ h.ob, e _ _ h.sd, e _ _ h.sc, e _ _ h.rl, e _ _ h.gm, e _ _ h.gn, h.ln, fun i t g a b => e _ _ (h.ro i t g a b), h.nd⟩
section
variable {H : Hp} {A : BkAd} {B : Bk} {σ : L2.St} {te : TE}
theorem BookAt.row {i : Nat} {t : Addr} (h : BookAt H A B) (ht : A.gs[i]? = some t) : ∃ g, B.games[i]? = some g ∧ H t = some (.lst (rowV g)) := by
  have hi := (List.getElem?_eq_some_iff.mp ht).1
  have hg : B.games[i]? = some (B.games[i]'(by rw [← h.ln]; exact hi)) := List.getElem?_eq_getElem _
  exact ⟨_, hg, h.ro i t _ ht hg⟩
theorem BookAt.rowAt {i : Nat} {g : Game} (h : BookAt H A B) (hg : B.games[i]? = some g) : ∃ t, A.gs[i]? = some t ∧ H t = some (.lst (rowV g)) := by
  have hi := (List.getElem?_eq_some_iff.mp hg).1
  have ht : A.gs[i]? = some (A.gs[i]'(by rw [h.ln]; exact hi)) := List.getElem?_eq_getElem _
  exact ⟨_, ht, h.ro i _ g ht hg⟩
theorem eb_sides (h : Ev te σ H (.ref A.b)) (ob : H A.b = some (.dK (kvsB A))) : Ev (tDGet te (tC (.str "sides"))) σ H (.ref A.sds) := ev_dk h ob (by rfl)
theorem eb_scheme (h : Ev te σ H (.ref A.b)) (ob : H A.b = some (.dK (kvsB A))) : Ev (tDGet te (tC (.str "scheme"))) σ H (.ref A.scm) := ev_dk h ob (by rfl)
theorem eb_rules (h : Ev te σ H (.ref A.b)) (ob : H A.b = some (.dK (kvsB A))) : Ev (tDGet te (tC (.str "rules"))) σ H (.ref A.rls) := ev_dk h ob (by rfl)
theorem eb_games (h : Ev te σ H (.ref A.b)) (ob : H A.b = some (.dK (kvsB A))) : Ev (tDGet te (tC (.str "games"))) σ H (.ref A.gms) := ev_dk h ob (by rfl)
theorem eb_gone (h : Ev te σ H (.ref A.b)) (ob : H A.b = some (.dK (kvsB A))) : Ev (tDGet te (tC (.str "gone"))) σ H (.ref A.gne) := ev_dk h ob (by rfl)
end
section
variable {K : PySem.W.Frag} {σ : L2.St} {H : Hp} {ta tb tl : TE} {v1 v2 : V} {xs : List V} {sp : Sp} {dvs : List V} {E : XK} {Q : VK}
/-- a call whose last argument is a new list -/
theorem c_call3L (ha : Ev ta σ H v1) (hb : Ev tb σ H v2) (hl : EvL tl σ H xs) (k : ∀ p H1, H p = none → Ex H H1 → H1 p = some (.lst xs) → sp ([v1, v2, .ref p] ++ dvs) H1 Q E) : tCall sp dvs E (tCons ta (tCons tb (tCons tl tNil))) σ H Q :=
  ha H (Ex.refl H) _ fun H1 e1 => hb H1 e1 _ fun H2 e2 => hl H2 (e1.trans e2) _ fun p H3 hp e3 h3 => k p H3 (fresh_back (e1.trans e2) hp) ((e1.trans e2).trans e3) h3
end
section
variable {P : Program} {w : World} {K : PySem.W.Frag} {mg : Str → Option Value} {base : Heap}
def r_law_is_free : List V → Hp → V → Prop := fun vs H z => ∃ (A : BkAd) (B : Bk) (i : Nat) (g : Game), vs = [.ref A.b, .int (i : Int)] ∧ BookAt H A B ∧ B.games[i]? = some g ∧ z = .bl (!decide (g.1 ∈ B.gone) && !decide (g.2.1 ∈ B.gone))
theorem ok_law_is_free (T : Tx0 K mg) : FnOk P w K mg base CX0 1 (a_law_is_free K) (fd_law_is_free K) p_law_is_free (spV r_law_is_free) := by
  refine okN T.f_law_is_free sc_law_is_free (fun vs H Q E h => ?_) (fun cdv A outer s H vs Q E hr h => ?_)
  · obtain ⟨z, ⟨A, B, i, g, rfl, _⟩, _⟩ := h
    rfl
  · obtain ⟨z, ⟨A, B, i, g, rfl, hb, hg, rfl⟩, k⟩ := h
    refine ⟨_, (pss_cons (ps_set (i := 2) sc_law_is_free.nd rfl (by first | exact .inl rfl | exact .inr rfl) (pe_ix ix_list (pe_dget (hu_of hr) (pv 0) pe_str (fun _ _ => rfl)) (pv 1) (fun _ _ => rfl)))
    (pss_one (ps_ret (pe_and (pe_cmpR op_notIn_seq (pe_ix ix_list (pv 2) pe_int (fun _ _ => rfl)) (pe_dget (hu_of hr) (pv 0) pe_str (fun _ _ => rfl)) (by rfl)) (pe_one (pe_cmpR op_notIn_seq (pe_ix ix_list (pv 2) pe_int (fun _ _ => rfl)) (pe_dget (hu_of hr) (pv 0) pe_str (fun _ _ => rfl)) (by rfl))))))), ?_⟩
    obtain ⟨t, ht, hrow⟩ := hb.rowAt hg
    refine q_asg (v := .ref t) (ev_op (eb_games (ev_var rfl) hb.ob) (ev_var rfl) (rv_atL (sq_of hb.gm) (by rw [List.getElem?_map, ht]; rfl))) fun H1 e1 => ?_
    have b1 := hb.mono e1
    have r1 := e1 _ _ hrow
    exact s_ret (ev_andV (ev_op (ev_op (ev_var rfl) ev_c (rv_atL (i := 0) (sq_of r1) rfl)) (eb_gone (ev_var rfl) b1.ob) (rv_strLn (sq_of b1.gn))) fun _ => ev_op (ev_op (ev_var rfl) ev_c (rv_atL (i := 1) (sq_of r1) rfl)) (eb_gone (ev_var rfl) b1.ob) (rv_strLn (sq_of b1.gn))) fun H2 e2 => k H2 (e1.trans e2)
def cntV (c : Cnt) : List V := [.int c.won, .int c.drawn, .int c.lost, .int c.away]
def spRs : Sp := fun vs H Q _ => ∃ (A : BkAd) (B : Bk) (x : Str) (others : List Str) (oa : Addr), vs = [.ref A.b, .str x, .ref oa] ∧ BookAt H A B ∧ H oa = some (.lst (others.map V.str)) ∧ RetL (cntV (cnt x others B.games)) H Q
theorem eu_home {σ : L2.St} {H : Hp} : EvU (tTup (tCons (tC (.str "home")) (tCons (tC (.str "draw")) (tCons (tC (.str "away")) tNil)))) σ H (outNames.map V.str) := eu_tup (ea_cons ev_c (ea_cons ev_c (ea_cons ev_c ea_nil))) (show 3 ≤ 100000 by decide)
theorem el_sl2 {σ : L2.St} {H : Hp} {te : TE} {a : Addr} {x y z : V} (h : Ev te σ H (.ref a)) (ha : SqL K H a [x, y, z]) : EvL (tSl (rSlL K) te tNoPart (tPart (tC (.int 2)))) σ H [x, y] := el_sl (lo := none) (hi := some 2) h eo_none (eo_some ev_c) ha
theorem ok_law_results (T : Tx0 K mg) : FnOk P w K mg base CX0 1 (a_law_results K) (fd_law_results K) p_law_results (spRs) := by
  refine okN T.f_law_results sc_law_results (fun vs H Q E h => ?_) (fun cdv A outer s H vs Q E hr h => ?_)
  · obtain ⟨A, B, x, others, oa, rfl, _⟩ := h
    rfl
  · obtain ⟨A, B, x, others, oa, rfl, hb, ho, k⟩ := h
    refine ⟨_, (pss_cons (ps_set (i := 3) sc_law_results.nd rfl (by first | exact .inl rfl | exact .inr rfl) (pe_lst (pa_cons pe_int (pa_cons pe_int (pa_cons pe_int (pa_cons pe_int pa_nil))))))
    (pss_cons (ps_for PassesOwn.never rfl (pi_list (pe_dget (hu_of hr) (pv 0) pe_str (fun _ _ => rfl))) (pg_name (i := 4) sc_law_results.nd rfl (by first | exact .inl rfl | exact .inr rfl)) (pss_one (ps_if (PW.pt (pw_and (pt_cmpR op_in_seq (pv 1) (pe_slice sl_list (pv 4) po_none (po_some pe_int)) (by rfl)) (pw_and (PW.pt (pw_or (pt_cmpR op_in_seq (pe_ix ix_list (pv 4) pe_int (fun _ _ => rfl)) (pv 2) (by rfl)) (pw_or1 (pt_cmpR op_in_seq (pe_ix ix_list (pv 4) pe_int (fun _ _ => rfl)) (pv 2) (by rfl))))) (pw_and1 (pt_cmpR op_in_seq (pe_ix ix_list (pv 4) pe_int (fun _ _ => rfl)) (pe_tup (pa_cons pe_str (pa_cons pe_str (pa_cons pe_str pa_nil)))) (by rfl)))))) (pss_one (ps_if (pt_cmpR op_eq (pe_ix ix_list (pv 4) pe_int (fun _ _ => rfl)) pe_str (by rfl)) (pss_one (ps_asg (pe_op op_add (pe_ix ix_list (pv 3) pe_int (fun _ _ => rfl)) pe_int) (pg_sub (pv 3) pe_int set_list))) (pss_one (ps_if (pt_cmpR op_eq (pe_cmpR op_eq (pe_ix ix_list (pv 4) pe_int (fun _ _ => rfl)) (pv 1) (by rfl)) (pe_cmpR op_eq (pe_ix ix_list (pv 4) pe_int (fun _ _ => rfl)) pe_str (by rfl)) (by rfl)) (pss_cons (ps_asg (pe_op op_add (pe_ix ix_list (pv 3) pe_int (fun _ _ => rfl)) pe_int) (pg_sub (pv 3) pe_int set_list))
    (pss_one (ps_asg (pe_op op_add (pe_ix ix_list (pv 3) pe_int (fun _ _ => rfl)) (pe_callTy call_int1 (by rfl) T.n_int (by decide +kernel) (pa_cons (pe_cmpR op_eq (pe_ix ix_list (pv 4) pe_int (fun _ _ => rfl)) (pv 1) (by rfl)) pa_nil))) (pg_sub (pv 3) pe_int set_list)))) (pss_one (ps_asg (pe_op op_add (pe_ix ix_list (pv 3) pe_int (fun _ _ => rfl)) pe_int) (pg_sub (pv 3) pe_int set_list))))))) pss_nil)))
    (pss_one (ps_ret (pv 3))))), ?_⟩
    refine q_asgL (xs := [.int 0, .int 0, .int 0, .int 0]) (el_lst (ea_cons ev_c (ea_cons ev_c (ea_cons ev_c (ea_cons ev_c ea_nil)))) (show 4 ≤ 100000 by decide)) fun c H1 hc e1 h1 => ?_
    have b1 := hb.mono e1
    refine q_forLn (xs := A.gs.map V.ref) (eb_games (ev_var rfl) b1.ob) (sq_of b1.gm) (fun i σ' H' => Ex H H' ∧ H' c = some (.lst (cntV (cnt x others (B.games.take i)))) ∧ ∃ v4, σ' = [some (.ref A.b), some (.str x), some (.ref oa), some (.ref c), v4]) (fun H2 e2 => ⟨e1.trans e2, e2 _ _ h1, none, rfl⟩) (fun i σ' H' _ p => sq_of (p.1 _ _ hb.gm)) (fun i v σ' H' hi p => ?_) fun σ' H' p => ?_
    · obtain ⟨e2, pc, v4, rfl⟩ := p
      obtain ⟨t, ht, rfl⟩ := map_at hi
      obtain ⟨g, hg, hrow⟩ := hb.row ht
      have sp : cnt x others (B.games.take (i + 1)) = cstep x others (cnt x others (B.games.take i)) g := by
        rw [List.take_add_one, hg]
        exact cnt_snoc x others _ g
      have hr2 := e2 _ _ hrow
      have ho2 := e2 _ _ ho
      show tIfS _ _ tNext _ [some (.ref A.b), some (.str x), some (.ref oa), some (.ref c), some (.ref t)] _
      refine s_when (b := hitB x others g) (et_is (et_and (et_test (ev_opL (ev_var rfl) (el_sl2 (ev_var rfl) (sq_of hr2)) fun p H5 hp e5 => rv_strL (ys := [g.1, g.2.1]) (sq_of hp))) fun _ => et_and (et_or (et_test (ev_op (ev_op (ev_var rfl) ev_c (rv_atL (i := 0) (sq_of hr2) rfl)) (ev_var rfl) (rv_strL (sq_of ho2)))) fun _ => et_test (ev_op (ev_op (ev_var rfl) ev_c (rv_atL (i := 1) (sq_of hr2) rfl)) (ev_var rfl) (rv_strL (sq_of ho2)))) fun _ => et_test (ev_opU (ev_op (ev_var rfl) ev_c (rv_atL (i := 2) (sq_of hr2) rfl)) eu_home fun p H5 hp e5 => rv_strT (st_of hp))) ?_) (fun hb3 H3 e3 => ?_) fun hb3 H3 e3 => ?_
      · rw [out_mem]
        unfold hitB
        simp
      · have r3 := e3 _ _ hr2
        have c3 := e3 _ _ pc
        have e23 := e2.trans e3
        generalize hcc : cnt x others (B.games.take i) = cc at *
        refine s_if (et_test (ev_op (ev_op (ev_var rfl) ev_c (rv_atL (i := 2) (sq_of r3) rfl)) ev_c rv_eqS)) (fun hd H4 e4 => ?_) fun hd H4 e4 => ?_
        · refine s_setL (xs := cntV cc) (j := 1) (e4 _ _ c3) (ev_op (ev_op (ev_var rfl) ev_c (rv_atL (i := 1) (sq_of (e4 _ _ c3)) rfl)) ev_c rv_add) (ev_var rfl) ev_c (show 1 < 4 by decide) fun H5 e5 => ⟨((e23.trans e4).trans e5).mut hc, ?_, some (.ref t), rfl⟩
          rw [upd_same, sp]
          unfold cstep
          rw [if_pos hb3, if_pos (of_decide_eq_true hd)]
          rfl
        · have nd := of_decide_eq_false hd
          refine s_if (et_test (ev_op (ev_op (ev_op (ev_var rfl) ev_c (rv_atL (i := 0) (sq_of (e4 _ _ r3)) rfl)) (ev_var rfl) rv_eqS) (ev_op (ev_op (ev_var rfl) ev_c (rv_atL (i := 2) (sq_of (e4 _ _ r3)) rfl)) ev_c rv_eqS) rv_eqB)) (fun hw H5 e5 => ?_) fun hw H5 e5 => ?_
          · have hw' := of_decide_eq_true hw
            refine q_setL (xs := cntV cc) (j := 0) (e5 _ _ (e4 _ _ c3)) (ev_op (ev_op (ev_var rfl) ev_c (rv_atL (i := 0) (sq_of (e5 _ _ (e4 _ _ c3))) rfl)) ev_c rv_add) (ev_var rfl) ev_c (show 0 < 4 by decide) fun H6 e6 => ?_
            have ntc : t ≠ c := fun e => by
              have := e1 _ _ hrow
              have h2 := fresh_back (Ex.refl H) hc
              rw [← e, hrow] at h2
              cases h2
            have r6 : upd H6 c (.lst ((cntV cc).set 0 (.int (cc.won + 1)))) t = some (.lst (rowV g)) := by
              rw [upd_ne ntc]
              exact e6 _ _ (e5 _ _ (e4 _ _ r3))
            refine s_setL (xs := cntV { cc with won := cc.won + 1 }) (j := 3) upd_same (ev_op (ev_op (ev_var rfl) ev_c (rv_atL (i := 3) (v := .int cc.away) (sq_of upd_same) rfl)) (ev_intB (ev_op (ev_op (ev_var rfl) ev_c (rv_atL (i := 1) (sq_of r6) rfl)) (ev_var rfl) rv_eqS)) rv_add) (ev_var rfl) ev_c (show 3 < 4 by decide) fun H7 e7 => ?_
            have e8 : Ex H (upd H6 c (.lst ((cntV cc).set 0 (.int (cc.won + 1))))) := (((e23.trans e4).trans e5).trans e6).mut hc
            refine ⟨(e8.trans e7).mut hc, ?_, some (.ref t), rfl⟩
            rw [upd_same, sp]
            unfold cstep
            rw [if_pos hb3, if_neg nd, if_pos hw']
            rfl
          · have hw' := of_decide_eq_false hw
            refine s_setL (xs := cntV cc) (j := 2) (e5 _ _ (e4 _ _ c3)) (ev_op (ev_op (ev_var rfl) ev_c (rv_atL (i := 2) (sq_of (e5 _ _ (e4 _ _ c3))) rfl)) ev_c rv_add) (ev_var rfl) ev_c (show 2 < 4 by decide) fun H6 e6 => ⟨(((e23.trans e4).trans e5).trans e6).mut hc, ?_, some (.ref t), rfl⟩
            rw [upd_same, sp]
            unfold cstep
            rw [if_pos hb3, if_neg nd, if_neg hw']
            rfl
      · refine ⟨e2.trans e3, ?_, some (.ref t), rfl⟩
        rw [sp]
        unfold cstep
        rw [if_neg (by rw [hb3]; exact Bool.false_ne_true)]
        exact e3 _ _ pc
    · obtain ⟨e2, pc, v4, rfl⟩ := p
      have : (B.games.take (A.gs.map V.ref).length) = B.games := by rw [List.length_map, hb.ln, List.take_length]
      rw [this] at pc
      exact s_ret (ev_var rfl) fun H3 e3 => k c H3 hc (e2.trans e3) (e3 _ _ pc)
end
end Lw

/-! V3 -/
/-! The law's points, numbers. -/
namespace Lw
open PySem PySem.Spec PyProof.Rows L2 Evl Mt
section
variable {K : PySem.W.Frag} {σ : L2.St} {H : Hp} {ta tb tl : TE} {v1 v2 : V} {xs : List V} {sp : Sp} {dvs : List V} {E : XK} {Q : VK} {D : Ends} {tz : TS} {i : Nat}
theorem q_asgC3L (ha : Ev ta σ H v1) (hb : Ev tb σ H v2) (hl : EvL tl σ H xs) (k : ∀ p H1, H p = none → Ex H H1 → H1 p = some (.lst xs) → sp ([v1, v2, .ref p] ++ dvs) H1 (fun v H2 => tz D (σ.set i (some v)) H2) E) : tSeq (tAsg (tCall sp dvs E (tCons ta (tCons tb (tCons tl tNil)))) (gName i)) tz D σ H := c_call3L ha hb hl k
/-- f(..)[i], f handing back a list -/
theorem ev_callIx {vs : List V} {t : TA} {ti : TE} {n : Int} {v : V} (h : EvA t σ H vs) (hi : ∀ H1, Ex H H1 → Ev ti σ H1 (.int n)) (ha : atI xs n = some v) (hs : ∀ H1, Ex H H1 → ∀ Q : VK, RetL xs H1 Q → sp (vs ++ dvs) H1 Q E) : Ev (tOp (rIxL K) (tCall sp dvs E t) ti) σ H v := fun H1 e Q q =>
  h H1 e _ fun H2 e2 => hs H2 (e.trans e2) _ fun p H3 hp e3 h3 => hi H3 ((e.trans e2).trans e3) H3 (Ex.refl _) _ fun H4 e4 => ⟨p, xs, n, v, rfl, rfl, sq_of (e4 _ _ h3), ha, q H4 ((e2.trans e3).trans e4)⟩
end
section
variable {P : Program} {w : World} {K : PySem.W.Frag} {mg : Str → Option Value} {base : Heap}
def r_law_points : List V → Hp → V → Prop := fun vs H z => ∃ (A : BkAd) (B : Bk) (x : Str) (lot : List Str) (oa : Addr), vs = [.ref A.b, .str x, .ref oa] ∧ BookAt H A B ∧ B.Ok ∧ H oa = some (.lst (lot.map V.str)) ∧ lot.length ≤ 8 ∧ x ∈ lot ∧ z = .int (pts B x lot B.games)
theorem ok_law_points (T : Tx0 K mg) : FnOk P w K mg base CX0 2 (a_law_points K) (fd_law_points K) p_law_points (spV r_law_points) := by
  refine okN T.f_law_points sc_law_points (fun vs H Q E h => ?_) (fun cdv A outer s H vs Q E hr h => ?_)
  · obtain ⟨z, ⟨A, B, x, lot, oa, rfl, _⟩, _⟩ := h
    rfl
  · obtain ⟨z, ⟨A, B, x, lot, oa, rfl, hb, ok, ho, h8, hx, rfl⟩, k⟩ := h
    refine ⟨_, (pss_cons (ps_set (i := 3) sc_law_points.nd rfl (by first | exact .inl rfl | exact .inr rfl) (pe_call (ok_law_results T) (hr.mono (by decide)) (by rfl) T.m_law_results T.k_law_results T.b_law_results .nil pass0 (pa_cons (pv 0) (pa_cons (pv 1) (pa_cons (pe_lc (own := [("_law_other", 7)]) (g := gName 7) (tt := (tTest (tOp rNe (tVar 7) (tVar 1)))) (te := (tVar 7)) rfl sc_law_points.nd (pi_list (pv 2)) (blkOk_by (N := n_law_points) (sc := defScope s_law_points) (by decide +kernel)) (fun _ _ _ _ _ => pg_name (i := 7) sc_law_points.nd rfl (by first | exact .inl rfl | exact .inr rfl)) (fun _ _ _ _ _ => (pts_one (pt_cmpR op_ne (pv 7) (pv 1) (by rfl)))) (fun _ _ _ _ _ => (pv 7))) pa_nil)))))
    (pss_cons (ps_asg (pe_dget (hu_of hr) (pv 0) pe_str (fun _ _ => rfl)) (pg_tup (by rfl) (pgs_cons (pg_name (i := 4) sc_law_points.nd rfl (by first | exact .inl rfl | exact .inr rfl)) (pgs_cons (pg_name (i := 5) sc_law_points.nd rfl (by first | exact .inl rfl | exact .inr rfl)) (pgs_cons (pg_name (i := 6) sc_law_points.nd rfl (by first | exact .inl rfl | exact .inr rfl)) pgs_nil)))))
    (pss_cons (ps_if (pt_cmpR op_isN (pv 5) pe_non (by rfl)) (pss_one (ps_set (i := 5) sc_law_points.nd rfl (by first | exact .inl rfl | exact .inr rfl) pe_int)) pss_nil)
    (pss_one (ps_ret (pe_op op_add (pe_op op_add (pe_op op_mul (pe_ix ix_list (pv 3) pe_int (fun _ _ => rfl)) (pv 4)) (pe_op op_mul (pe_ix ix_list (pv 3) pe_int (fun _ _ => rfl)) (pv 5))) (pe_op op_mul (pe_ix ix_list (pv 3) pe_int (fun _ _ => rfl)) (pv 6)))))))), ?_⟩
    refine q_asgC3L (xs := (lot.filter fun s => !decide (s = x)).map V.str) (ev_var rfl) (ev_var rfl) (el_mL (ys := lot) V.str (fun s => !decide (s = x)) V.str (ev_var rfl) (sq_of ho) (by omega) (fun _ => rfl) (fun y H1 hy e => et_test (ev_op (ev_var rfl) (ev_var rfl) rv_neS)) (fun y H1 hy e _ => ev_var rfl)) fun p H1 hp e1 h1 => ?_
    refine ⟨A, B, x, _, p, rfl, hb.mono e1, h1, fun c H2 hc e2 h2 => ?_⟩
    have e12 := e1.trans e2
    have b2 := hb.mono e12
    obtain ⟨g1, g2, g3, g4⟩ := ok.scheme
    refine q_unp3 (x := .int B.win) (y := optV B.draw) (z := .int B.loss) (eb_scheme (ev_var rfl) b2.ob) (st_of b2.sc) fun H3 e3 => ?_
    have c3 := e3 _ _ h2
    refine q_ifAsg (v := .int (B.draw.getD 0)) (et_test (ev_op (ev_var rfl) ev_c rv_isN)) (fun hd => ?_) (fun hd => ?_) fun H4 e4 => ?_
    · cases hdr : B.draw with
      | none => exact ev_c
      | some d =>
        rw [hdr] at hd
        simp [optV] at hd
    · cases hdr : B.draw with
      | none =>
        rw [hdr] at hd
        simp [optV] at hd
      | some d => rfl
    · have c4 := e4 _ _ c3
      have bd : 0 ≤ B.draw.getD 0 ∧ B.draw.getD 0 ≤ 100 := by
        cases hdr : B.draw with
        | none => exact ⟨Int.le_refl _, by show (0 : Int) ≤ 100; decide⟩
        | some d =>
          have := g4 d hdr
          show 0 ≤ d ∧ d ≤ 100
          omega
      have law := pts_law (B := B) hx B.games ⟨0, 0, 0, 0⟩ fun g hg => (ok.ins g hg).2.2
      have law2 : lawPts B (cnt x (lot.filter fun s => !decide (s = x)) B.games) = pts B x lot B.games := by
        unfold Mt.cnt
        rw [law]
        simp [lawPts]
      generalize cnt x (lot.filter fun s => !decide (s = x)) B.games = cc at *
      refine s_ret (ev_is (ev_op (ev_op (ev_op (ev_op (ev_var rfl) ev_c (rv_atL (i := 0) (v := .int cc.won) (sq_of c4) rfl)) (ev_var rfl) (rv_mul (mulR (by omega) (by omega)))) (ev_op (ev_op (ev_var rfl) ev_c (rv_atL (i := 1) (v := .int cc.drawn) (sq_of c4) rfl)) (ev_var rfl) (rv_mul (mulR (by omega) (by omega)))) rv_add) (ev_op (ev_op (ev_var rfl) ev_c (rv_atL (i := 2) (v := .int cc.lost) (sq_of c4) rfl)) (ev_var rfl) (rv_mul (mulR (by omega) (by omega)))) rv_add) ?_) fun H5 e5 => k H5 (((e12.trans e3).trans e4).trans e5)
      rw [← law2]
      rfl
def r_law_number : List V → Hp → V → Prop := fun vs H z => ∃ (A : BkAd) (B : Bk) (r x : Str) (lot : List Str) (oa : Addr), vs = [.ref A.b, .str r, .str x, .ref oa] ∧ BookAt H A B ∧ B.Ok ∧ H oa = some (.lst (lot.map V.str)) ∧ lot.length ≤ 8 ∧ x ∈ lot ∧ x ∈ B.sides ∧ z = .int (num B r x lot)
theorem ok_law_number (T : Tx0 K mg) : FnOk P w K mg base CX0 3 (a_law_number K) (fd_law_number K) p_law_number (spV r_law_number) := by
  refine okN T.f_law_number sc_law_number (fun vs H Q E h => ?_) (fun cdv A outer s H vs Q E hr h => ?_)
  · obtain ⟨z, ⟨A, B, r, x, lot, oa, rfl, _⟩, _⟩ := h
    rfl
  · obtain ⟨z, ⟨A, B, r, x, lot, oa, rfl, hb, ok, ho, h8, hx, hxs, rfl⟩, k⟩ := h
    refine ⟨_, (pss_cons (ps_if (pt_cmpR op_eq (pv 1) pe_str (by rfl)) (pss_one (ps_ret (pe_call (ok_law_points T) (hr.mono (by decide)) (by rfl) T.m_law_points T.k_law_points T.b_law_points .nil pass0 (pa_cons (pv 0) (pa_cons (pv 2) (pa_cons (pe_dget (hu_of hr) (pv 0) pe_str (fun _ _ => rfl)) pa_nil)))))) pss_nil)
    (pss_cons (ps_if (pt_cmpR op_eq (pv 1) pe_str (by rfl)) (pss_one (ps_ret (pe_ix ix_list (pe_call (ok_law_results T) (hr.mono (by decide)) (by rfl) T.m_law_results T.k_law_results T.b_law_results .nil pass0 (pa_cons (pv 0) (pa_cons (pv 2) (pa_cons (pe_dget (hu_of hr) (pv 0) pe_str (fun _ _ => rfl)) pa_nil)))) pe_int (fun _ _ => rfl)))) pss_nil)
    (pss_cons (ps_if (pt_cmpR op_eq (pv 1) pe_str (by rfl)) (pss_one (ps_ret (pe_ix ix_list (pe_call (ok_law_results T) (hr.mono (by decide)) (by rfl) T.m_law_results T.k_law_results T.b_law_results .nil pass0 (pa_cons (pv 0) (pa_cons (pv 2) (pa_cons (pe_dget (hu_of hr) (pv 0) pe_str (fun _ _ => rfl)) pa_nil)))) pe_int (fun _ _ => rfl)))) pss_nil)
    (pss_one (ps_ret (pe_call (ok_law_points T) (hr.mono (by decide)) (by rfl) T.m_law_points T.k_law_points T.b_law_points .nil pass0 (pa_cons (pv 0) (pa_cons (pv 2) (pa_cons (pv 3) pa_nil))))))))), ?_⟩
    unfold num at k
    have h8s := ok.sides.2.1
    obtain ⟨w1, w2⟩ := wins_law (x := x) (sides := B.sides) B.games ⟨0, 0, 0, 0⟩ fun g hg => (ok.ins g hg).1
    refine q_when (et_test (ev_op (ev_var rfl) ev_c rv_eqS)) (fun hc H1 e1 => ?_) fun hc H1 e1 => ?_
    · rw [if_pos (of_decide_eq_true hc)] at k
      exact s_ret (ev_call (ea_cons (ev_var rfl) (ea_cons (ev_var rfl) (ea_cons (eb_sides (ev_var rfl) (e1 _ _ hb.ob)) ea_nil))) (spV_ev (R := r_law_points) fun H3 e3 => ⟨A, B, x, B.sides, A.sds, rfl, hb.mono (e1.trans e3), ok, (e1.trans e3) _ _ hb.sd, h8s, hxs, rfl⟩)) fun H2 e2 => k H2 (e1.trans e2)
    · rw [if_neg (of_decide_eq_false hc)] at k
      refine q_when (et_test (ev_op (ev_var rfl) ev_c rv_eqS)) (fun hc2 H2 e2 => ?_) fun hc2 H2 e2 => ?_
      · rw [if_pos (of_decide_eq_true hc2)] at k
        have e12 := e1.trans e2
        refine s_ret (ev_is (ev_callIx (xs := cntV (cnt x B.sides B.games)) (n := 0) (v := .int (cnt x B.sides B.games).won) (ea_cons (ev_var rfl) (ea_cons (ev_var rfl) (ea_cons (eb_sides (ev_var rfl) (e12 _ _ hb.ob)) ea_nil))) (fun _ _ => ev_c) (atI_nat (j := 0) rfl) fun H3 e3 Q q => ⟨A, B, x, B.sides, A.sds, rfl, hb.mono (e12.trans e3), (e12.trans e3) _ _ hb.sd, q⟩) ?_) fun H3 e3 => k H3 (e12.trans e3)
        unfold Mt.cnt
        rw [w1]
        simp
      · rw [if_neg (of_decide_eq_false hc2)] at k
        refine q_when (et_test (ev_op (ev_var rfl) ev_c rv_eqS)) (fun hc3 H3 e3 => ?_) fun hc3 H3 e3 => ?_
        · rw [if_pos (of_decide_eq_true hc3)] at k
          have e13 := (e1.trans e2).trans e3
          refine s_ret (ev_is (ev_callIx (xs := cntV (cnt x B.sides B.games)) (n := 3) (v := .int (cnt x B.sides B.games).away) (ea_cons (ev_var rfl) (ea_cons (ev_var rfl) (ea_cons (eb_sides (ev_var rfl) (e13 _ _ hb.ob)) ea_nil))) (fun _ _ => ev_c) (atI_nat (j := 3) rfl) fun H3 e3 Q q => ⟨A, B, x, B.sides, A.sds, rfl, hb.mono (e13.trans e3), (e13.trans e3) _ _ hb.sd, q⟩) ?_) fun H3 e3 => k H3 (e13.trans e3)
          unfold Mt.cnt
          rw [w2]
          simp
        · rw [if_neg (of_decide_eq_false hc3)] at k
          have e13 := (e1.trans e2).trans e3
          exact s_ret (ev_call (ea_cons (ev_var rfl) (ea_cons (ev_var rfl) (ea_cons (ev_var rfl) ea_nil))) (spV_ev (R := r_law_points) fun H4 e4 => ⟨A, B, x, lot, oa, rfl, hb.mono (e13.trans e4), ok, (e13.trans e4) _ _ ho, h8, hx, rfl⟩)) fun H4 e4 => k H4 (e13.trans e4)
end
end Lw

/-! Mp3 -/
/-! Ends of a falling row; a row's potential. No program in sight. -/
namespace Mt
open PySem
theorem nodup_le {α : Type} [DecidableEq α] : ∀ {l m : List α}, l.Nodup → (∀ x ∈ l, x ∈ m) → l.length ≤ m.length
  | [], _, _, _ => by simp
  | a :: l, m, h, hs => by
    obtain ⟨h1, h2⟩ := List.nodup_cons.mp h
    have hm := hs a List.mem_cons_self
    have ih := nodup_le (l := l) (m := m.erase a) h2 fun x hx => by
      have hne : x ≠ a := fun e => h1 (e ▸ hx)
      exact (List.mem_erase_of_ne hne).mpr (hs x (List.mem_cons_of_mem _ hx))
    rw [List.length_erase_of_mem hm] at ih
    have := List.length_pos_of_mem hm
    rw [List.length_cons]
    omega
theorem len1_of {ds : List Int} (nd : ds.Nodup) {c : Int} (hne : ds ≠ []) (h : ∀ n ∈ ds, n = c) : ds.length = 1 := by
  match ds, hne with
  | [a], _ => rfl
  | a :: b :: r, _ =>
    have h1 := h a (by simp)
    have h2 := h b (by simp)
    rw [List.nodup_cons] at nd
    exact absurd (by rw [h1, ← h2]; simp) nd.1
theorem dd_nodup (l : List Int) : (dd l).Nodup := fall_nodup (dd_fall l)
/-- first and last of a falling row are the same only where all are -/
theorem ends_eq {l st : List Int} (hp : st.Perm l) (hs : st.Pairwise (· ≥ ·)) (hne : st ≠ []) : (st.getD 0 0 = st.getD (st.length - 1) 0) ↔ (dd l).length = 1 := by
  have hl : 0 < st.length := List.length_pos_iff.mpr hne
  have mem : ∀ i, i < st.length → st.getD i 0 ∈ l := fun i hi => by
    rw [List.getD_eq_getElem?_getD, List.getElem?_eq_getElem hi]
    exact hp.mem_iff.mp (List.getElem_mem _)
  constructor
  · intro e
    refine len1_of (dd_nodup l) (fun z => ?_) (c := st.getD 0 0) fun n hn => ?_
    · have := dd_mem.mpr (mem 0 hl)
      rw [z] at this
      cases this
    · have hm := hp.mem_iff.mpr (dd_mem.mp hn)
      obtain ⟨i, hi, rfl⟩ := List.mem_iff_getElem.mp hm
      have e2 : st.getD i 0 = st[i] := by rw [List.getD_eq_getElem?_getD, List.getElem?_eq_getElem hi]; rfl
      have a := getD_le hs (Nat.zero_le i) hi
      have b := getD_le hs (show i ≤ st.length - 1 by omega) (by omega)
      omega
  · intro h
    obtain ⟨a, ha⟩ := List.length_eq_one_iff.mp h
    have h1 := dd_mem.mpr (mem 0 hl)
    have h2 := dd_mem.mpr (mem (st.length - 1) (by omega))
    rw [ha, List.mem_singleton] at h1 h2
    rw [h1, h2]
theorem len_pot {α : Type} [DecidableEq α] (rules : List Str) : ∀ {row : List (List α × Nat)}, rowOk rules row → row.length ≤ pot rules row
  | [], _ => by simp [pot]
  | p :: r, h => by
    have ih := len_pot rules (row := r) fun q hq => h q (List.mem_cons_of_mem _ hq)
    have hp := List.length_pos_iff.mpr (h p List.mem_cons_self).1
    unfold pot at ih ⊢
    rw [List.length_cons, List.map_cons, List.sum_cons]
    omega
theorem pot_leaf {α : Type} [DecidableEq α] {rules : List Str} {lot : List α} {at_ : Nat} {r : List (List α × Nat)} (h : lot ≠ []) : pot rules r + 1 ≤ pot rules ((lot, at_) :: r) := by
  have hp := List.length_pos_iff.mpr h
  unfold pot
  rw [List.map_cons, List.sum_cons]
  show _ ≤ 10 * lot.length - 9 + (rules.length - at_) + _
  omega
end Mt

/-! V4 -/
/-! The law's lots. -/
namespace Lw
open PySem PySem.Spec PyProof.Rows L2 Evl Mt
/-- all but lists of objects stands -/
def ExR (H H' : Hp) : Prop := ∀ b o, H b = some o → (∀ rs : List Addr, o ≠ .lst (rs.map V.ref)) → H' b = some o
theorem ExR.of {H H' : Hp} (e : Ex H H') : ExR H H' := fun b o h _ => e b o h
theorem ExR.trans {H H1 H2 : Hp} (a : ExR H H1) (b : ExR H1 H2) : ExR H H2 := fun c o h n => b c o (a c o h n) n
theorem ExR.upd {H : Hp} {a : Addr} {rs : List Addr} {o : HO} (h : H a = some (.lst (rs.map V.ref))) : ExR H (L2.upd H a o) := fun b ob hb n => by
  by_cases e : b = a
  · subst e
    rw [h] at hb
    cases hb
    exact absurd rfl (n rs)
  · rw [upd_ne e]
    exact hb
theorem str_ref {l : List Str} (h : l ≠ []) (rs : List Addr) : HO.lst (l.map V.str) ≠ .lst (rs.map V.ref) := fun e => by
  cases l with
  | nil => exact h rfl
  | cons a l =>
    cases rs with
    | nil => cases e
    | cons b rs => cases e
theorem tup_ref {l : List V} (rs : List Addr) : HO.tup l ≠ .lst (rs.map V.ref) := fun e => by cases e
def FoundAt (H : Hp) : List Addr → List (List Str) → Prop
  | [], [] => True
  | a :: as, l :: ls => H a = some (.lst (l.map V.str)) ∧ l ≠ [] ∧ FoundAt H as ls
  | _, _ => False
theorem FoundAt.mono {H H' : Hp} (e : ExR H H') : ∀ {as : List Addr} {ls : List (List Str)}, FoundAt H as ls → FoundAt H' as ls
  | [], [], _ => trivial
  | _ :: _, _ :: _, h => ⟨e _ _ h.1 (str_ref h.2.1), h.2.1, h.2.2.mono e⟩
  | [], _ :: _, h => h.elim
  | _ :: _, [], h => h.elim
theorem FoundAt.snoc {H : Hp} {a : Addr} {l : List Str} (ha : H a = some (.lst (l.map V.str))) (hl : l ≠ []) : ∀ {as : List Addr} {ls : List (List Str)}, FoundAt H as ls → FoundAt H (as ++ [a]) (ls ++ [l])
  | [], [], _ => ⟨ha, hl, trivial⟩
  | _ :: _, _ :: _, h => ⟨h.1, h.2.1, h.2.2.snoc ha hl⟩
  | [], _ :: _, h => h.elim
  | _ :: _, [], h => h.elim
theorem FoundAt.len {H : Hp} : ∀ {as : List Addr} {ls : List (List Str)}, FoundAt H as ls → as.length = ls.length
  | [], [], _ => rfl
  | _ :: _, _ :: _, h => by rw [List.length_cons, List.length_cons, h.2.2.len]
  | [], _ :: _, h => h.elim
  | _ :: _, [], h => h.elim
theorem FoundAt.at {H : Hp} : ∀ {as : List Addr} {ls : List (List Str)}, FoundAt H as ls → ∀ {i : Nat} {a : Addr}, as[i]? = some a → ∃ l, ls[i]? = some l ∧ H a = some (.lst (l.map V.str)) ∧ l ≠ []
  | a :: _, l :: _, h, 0, b, hi => by
    have : a = b := by simpa using hi
    subst this
    exact ⟨l, rfl, h.1, h.2.1⟩
  | _ :: _, _ :: _, h, i + 1, b, hi => h.2.2.at (i := i) (by simpa using hi)
  | [], [], _, _, _, hi => by simp at hi
  | [], _ :: _, h, _, _, _ => h.elim
  | _ :: _, [], h, _, _, _ => h.elim
def TodoAt (H : Hp) : List Addr → List (List Str × Nat) → Prop
  | [], [] => True
  | p :: ps, q :: qs => (∃ la, H p = some (.tup [.ref la, .int (q.2 : Int)]) ∧ H la = some (.lst (q.1.map V.str)) ∧ q.1 ≠ []) ∧ TodoAt H ps qs
  | _, _ => False
theorem TodoAt.mono {H H' : Hp} (e : ExR H H') : ∀ {as : List Addr} {ls : List (List Str × Nat)}, TodoAt H as ls → TodoAt H' as ls
  | [], [], _ => trivial
  | _ :: _, _ :: _, ⟨⟨la, h1, h2, h3⟩, h⟩ => ⟨⟨la, e _ _ h1 tup_ref, e _ _ h2 (str_ref h3), h3⟩, h.mono e⟩
  | [], _ :: _, h => h.elim
  | _ :: _, [], h => h.elim
theorem TodoAt.app {H : Hp} : ∀ {as bs : List Addr} {ls ms : List (List Str × Nat)}, TodoAt H as ls → TodoAt H bs ms → TodoAt H (as ++ bs) (ls ++ ms)
  | [], _, [], _, _, h => h
  | _ :: _, _, _ :: _, _, h, h2 => ⟨h.1, h.2.app h2⟩
  | [], _, _ :: _, _, h, _ => h.elim
  | _ :: _, _, [], _, h, _ => h.elim
theorem TodoAt.len {H : Hp} : ∀ {as : List Addr} {ls : List (List Str × Nat)}, TodoAt H as ls → as.length = ls.length
  | [], [], _ => rfl
  | _ :: _, _ :: _, h => by rw [List.length_cons, List.length_cons, h.2.len]
  | [], _ :: _, h => h.elim
  | _ :: _, [], h => h.elim
section
variable {K : PySem.W.Frag} {σ : L2.St} {H : Hp} {ta te tl : TE} {a : Addr} {xs ys : List V} {y : V} {D : Ends} {tz : TS} {g : TG}
/-- target = xs.pop(0) -/
theorem q_pop0 (h : Ev ta σ H (.ref a)) (ha : H a = some (.lst (y :: xs))) (k : ∀ H1, Ex H H1 → g y σ (upd H1 a (.lst xs)) (tz D)) : tSeq (tAsg (tBM K "list" rPopAt ta (tCons (tC (.int 0)) tNil)) g) tz D σ H :=
  h H (Ex.refl H) _ fun H1 e1 => ⟨.inl ⟨rfl, _, sq_of (e1 _ _ ha)⟩, a, y :: xs, 0, 0, y, rfl, rfl, e1 _ _ ha, by decide, by decide, (ixN_seq (ixN_nat (n := (y :: xs).length) (j := 0) (Nat.succ_pos _))).1, rfl, k H1 e1⟩
/-- sorted(a new list, reverse=True) -/
theorem q_sortR {ns : List Int} {i : Nat} {l : Addr} (h : Ev ta σ H (.ref l)) (hl : H l = some (.lst (ns.map V.int))) (k : ∀ (st : List Int) p H1, st.Perm ns → st.Pairwise (· ≥ ·) → H p = none → Ex H H1 → H1 p = some (.lst (st.map V.int)) → tz D (σ.set i (some (.ref p))) H1) :
    tSeq (tAsg (tCKw (rSortedKw K true [.bl true]) (tCons ta tNil) (tCons (tC (.bl true)) tNil)) (gName i)) tz D σ H :=
  h H (Ex.refl H) _ fun H1 e1 => ⟨l, ns, rfl, rfl, sq_of (e1 _ _ hl), fun st p pm so hp => k st p _ pm so (fresh_back e1 hp) (e1.trans (Ex.new hp)) upd_same⟩
/-- a + b, lists -/
theorem q_cat {i : Nat} {tb : TE} {b : Addr} (h : Ev ta σ H (.ref a)) (h2 : Ev tb σ H (.ref b)) (ha : H a = some (.lst xs)) (hb : H b = some (.lst ys)) (hl : xs.length + ys.length ≤ 100000) (k : ∀ p H1, H p = none → Ex H H1 → H1 p = some (.lst (xs ++ ys)) → tz D (σ.set i (some (.ref p))) H1) :
    tSeq (tAsg (tOp rCat ta tb) (gName i)) tz D σ H := h H (Ex.refl H) _ fun H1 e1 => h2 H1 e1 _ fun H2 e2 => ⟨a, b, xs, ys, rfl, rfl, (e1.trans e2) _ _ ha, (e1.trans e2) _ _ hb, sz_of hl, fun p hp => k p _ (fresh_back (e1.trans e2) hp) ((e1.trans e2).trans (Ex.new hp)) upd_same⟩
theorem s_cat {i : Nat} {tb : TE} {b : Addr} (h : Ev ta σ H (.ref a)) (h2 : Ev tb σ H (.ref b)) (ha : H a = some (.lst xs)) (hb : H b = some (.lst ys)) (hl : xs.length + ys.length ≤ 100000) (k : ∀ p H1, H p = none → Ex H H1 → H1 p = some (.lst (xs ++ ys)) → D.nx (σ.set i (some (.ref p))) H1) :
    tAsg (tOp rCat ta tb) (gName i) D σ H := h H (Ex.refl H) _ fun H1 e1 => h2 H1 e1 _ fun H2 e2 => ⟨a, b, xs, ys, rfl, rfl, (e1.trans e2) _ _ ha, (e1.trans e2) _ _ hb, sz_of hl, fun p hp => k p _ (fresh_back (e1.trans e2) hp) ((e1.trans e2).trans (Ex.new hp)) upd_same⟩
/-- a new tuple whose first item is a new list -/
theorem eu_tupL2 {v : V} (h : EvL tl σ H xs) (h2 : ∀ H1, Ex H H1 → Ev te σ H1 v) : ∀ H1, Ex H H1 → ∀ Q : VK, (∀ p la H2, H1 p = none → H1 la = none → Ex H1 H2 → H2 p = some (.tup [.ref la, v]) → H2 la = some (.lst xs) → Q (.ref p) H2) → tTup (tCons tl (tCons te tNil)) σ H1 Q := fun H1 e Q q =>
  h H1 e _ fun la H2 hla e2 h22 => h2 H2 (e.trans e2) H2 (Ex.refl _) _ fun H3 e3 => ⟨sz_of (show 2 ≤ 100000 by decide), fun p hp => q p la _ (fresh_back (e2.trans e3) hp) hla ((e2.trans e3).trans (Ex.new hp)) upd_same (by
    have h3 := e3 _ _ h22
    rw [upd_ne (fun z => by rw [z, hp] at h3; cases h3)]
    exact h3)⟩
theorem q_asgLT {v : V} {i : Nat} (h : EvL tl σ H xs) (h2 : ∀ H1, Ex H H1 → Ev te σ H1 v) (k : ∀ l p la H1, H l = none → Ex H H1 → H1 l = some (.lst [.ref p]) → H1 p = some (.tup [.ref la, v]) → H1 la = some (.lst xs) → tz D (σ.set i (some (.ref l))) H1) :
    tSeq (tAsg (tLst (tCons (tTup (tCons tl (tCons te tNil))) tNil)) (gName i)) tz D σ H := by
  show tTup (tCons tl (tCons te tNil)) σ H fun x H1 => [x].length ≤ sizeLine ∧ ∀ l, H1 l = none → tz D (σ.set i (some (.ref l))) (upd H1 l (.lst [x]))
  exact eu_tupL2 h h2 H (Ex.refl H) _ fun p la H1 hp hla e1 h1 h1l => ⟨sz_of (show 1 ≤ 100000 by decide), fun l hl => k l p la _ (fresh_back e1 hl) (e1.trans (Ex.new hl)) upd_same (Ex.new hl _ _ h1) (Ex.new hl _ _ h1l)⟩
theorem s_appLT {v : V} {ys : List V} (ha : H a = some (.lst ys)) (he : Ev ta σ H (.ref a)) (hz : ys.length < 100000) (h : EvL tl σ H xs) (h2 : ∀ H1, Ex H H1 → Ev te σ H1 v) (k : ∀ p la H1, H p = none → H la = none → Ex H H1 → H1 p = some (.tup [.ref la, v]) → H1 la = some (.lst xs) → D.nx σ (upd H1 a (.lst (ys ++ [.ref p])))) :
    tDrop (tBM K "list" rAppend ta (tCons (tTup (tCons tl (tCons te tNil))) tNil)) D σ H := he H (Ex.refl H) _ fun H1 e1 => ⟨.inl ⟨rfl, ys, sq_of (e1 _ _ ha)⟩, eu_tupL2 h h2 H1 e1 _ fun p la H2 hp hla e2 h22 h2l =>
      ⟨a, ys, .ref p, rfl, rfl, (e1.trans e2) _ _ ha, sz_lt hz, k p la H2 (fresh_back e1 hp) (fresh_back e1 hla) (e1.trans e2) h22 h2l⟩⟩
end
theorem atI_neg1 {st : List Int} (h : 0 < st.length) : atI (st.map V.int) (-1) = some (.int (st.getD (st.length - 1) 0)) := by
  have hi : ixN (st.map V.int).length (-1) = some (st.length - 1) := by
    unfold ixN
    rw [List.length_map, if_neg (by omega), if_pos (by omega)]
    congr 1
    omega
  unfold atI
  rw [hi]
  show (st.map V.int)[st.length - 1]? = _
  rw [List.getElem?_map, List.getD_eq_getElem?_getD, List.getElem?_eq_getElem (by omega)]
  rfl
section
variable {P : Program} {w : World} {K : PySem.W.Frag} {mg : Str → Option Value} {base : Heap}
def spLp : Sp := fun vs H Q _ => ∃ (A : BkAd) (B : Bk) (names : List Str) (sa : Addr), vs = [.ref A.b, .ref sa] ∧ BookAt H A B ∧ B.Ok ∧ H sa = some (.lst (names.map V.str)) ∧ names.Perm B.sides ∧
  ∀ p H2 as, H p = none → Ex H H2 → H2 p = some (.lst (as.map V.ref)) → FoundAt H2 as (lots (num B) B.rules names 0) → Q (.ref p) H2
theorem ok_law_parted (T : Tx0 K mg) : FnOk P w K mg base CX0 4 (a_law_parted K) (fd_law_parted K) p_law_parted spLp := by
  refine okN T.f_law_parted sc_law_parted (fun vs H Q E h => ?_) (fun cdv A outer s H vs Q E hr h => ?_)
  · obtain ⟨A, B, nm, sa, rfl, _⟩ := h
    rfl
  · obtain ⟨A, B, nm, sa, rfl, hb, ok, hsa, pm, k⟩ := h
    refine ⟨_, (pss_cons (ps_set (i := 2) sc_law_parted.nd rfl (by first | exact .inl rfl | exact .inr rfl) (pe_lst (pa_cons (pe_tup (pa_cons (pe_callTy call_list_of (by rfl) T.n_list (by decide +kernel) (pa_cons (pv 1) pa_nil)) (pa_cons pe_int pa_nil))) pa_nil)))
    (pss_cons (ps_set (i := 3) sc_law_parted.nd rfl (by first | exact .inl rfl | exact .inr rfl) (pe_lst pa_nil))
    (pss_cons (ps_for PassesOwn.never rfl (pi_range1 (by rfl) T.n_range (pa_cons pe_int pa_nil)) (pg_name (i := 4) sc_law_parted.nd rfl (by first | exact .inl rfl | exact .inr rfl)) (pss_cons (ps_if (pt_cmpR op_eq (pe_callB call_len (by rfl) T.n_len (by decide +kernel) (pa_cons (pv 2) pa_nil)) pe_int (by rfl)) (pss_one ps_break) pss_nil)
    (pss_cons (ps_asg (pe_bm PySem.F.plainAttrs_list PySem.F.slot_list_pop PySem.F.type_list_pop mt_popAt (pv 2) (pa_cons pe_int pa_nil)) (pg_tup (by rfl) (pgs_cons (pg_name (i := 5) sc_law_parted.nd rfl (by first | exact .inl rfl | exact .inr rfl)) (pgs_cons (pg_name (i := 6) sc_law_parted.nd rfl (by first | exact .inl rfl | exact .inr rfl)) pgs_nil))))
    (pss_cons (ps_if (PW.pt (pw_or (pt_cmpR op_eq (pe_callB call_len (by rfl) T.n_len (by decide +kernel) (pa_cons (pv 5) pa_nil)) pe_int (by rfl)) (pw_or1 (pt_cmpR op_eq (pv 6) (pe_callB call_len (by rfl) T.n_len (by decide +kernel) (pa_cons (pe_dget (hu_of hr) (pv 0) pe_str (fun _ _ => rfl)) pa_nil)) (by rfl))))) (pss_cons (ps_expr (pe_bm PySem.F.plainAttrs_list PySem.F.slot_list_append PySem.F.type_list_append mt_append (pv 3) (pa_cons (pv 5) pa_nil)))
    (pss_one ps_continue)) pss_nil)
    (pss_cons (ps_set (i := 7) sc_law_parted.nd rfl (by first | exact .inl rfl | exact .inr rfl) (pe_ix ix_tup (pe_dget (hu_of hr) (pv 0) pe_str (fun _ _ => rfl)) (pv 6) (fun _ _ => rfl)))
    (pss_cons (ps_set (i := 8) sc_law_parted.nd rfl (by first | exact .inl rfl | exact .inr rfl) (pe_lc (own := [("_law_side", 13)]) (g := gName 13) (tt := tYes) (te := (tCall (spV r_law_number) [] E0 (tCons (tVar 0) (tCons (tVar 7) (tCons (tVar 13) (tCons (tVar 5) tNil)))))) rfl sc_law_parted.nd (pi_list (pv 5)) (blkOk_by (N := n_law_parted) (sc := defScope s_law_parted) (by decide +kernel)) (fun _ _ _ _ _ => pg_name (i := 13) sc_law_parted.nd rfl (by first | exact .inl rfl | exact .inr rfl)) (fun _ _ _ _ _ => pts_nil) (fun _ _ _ _ _ => (pe_call (ok_law_number T) (hr.mono (by decide)) (by rfl) T.m_law_number T.k_law_number T.b_law_number .nil pass0 (pa_cons (pv 0) (pa_cons (pv 7) (pa_cons (pv 13) (pa_cons (pv 5) pa_nil))))))))
    (pss_cons (ps_set (i := 9) sc_law_parted.nd rfl (by first | exact .inl rfl | exact .inr rfl) (pe_callBK (cr_sortedRev (b := true)) (by rfl) T.n_sorted (by decide +kernel) (pa_cons (pv 8) pa_nil) (pk_cons pe_bl pk_nil)))
    (pss_cons (ps_set (i := 10) sc_law_parted.nd rfl (by first | exact .inl rfl | exact .inr rfl) (pe_op op_add (pv 6) pe_int))
    (pss_cons (ps_if (PW.pt (pw_and (pt_cmpR op_eq (pv 7) pe_str (by rfl)) (pw_and1 (pt_cmpR op_ne (pe_ix ix_list (pv 9) pe_int (fun _ _ => rfl)) (pe_ix ix_list (pv 9) (pe_un un_neg pe_int) (fun _ _ => rfl)) (by rfl))))) (pss_one (ps_set (i := 10) sc_law_parted.nd rfl (by first | exact .inl rfl | exact .inr rfl) (pv 6))) pss_nil)
    (pss_cons (ps_set (i := 11) sc_law_parted.nd rfl (by first | exact .inl rfl | exact .inr rfl) (pe_lst pa_nil))
    (pss_cons (ps_for PassesOwn.never rfl (pi_range1 (by rfl) T.n_range (pa_cons (pe_callB call_len (by rfl) T.n_len (by decide +kernel) (pa_cons (pv 9) pa_nil)) pa_nil)) (pg_name (i := 12) sc_law_parted.nd rfl (by first | exact .inl rfl | exact .inr rfl)) (pss_one (ps_if (PW.pt (pw_or (pt_cmpR op_eq (pv 12) pe_int (by rfl)) (pw_or1 (pt_cmpR op_ne (pe_ix ix_list (pv 9) (pv 12) (fun _ _ => rfl)) (pe_ix ix_list (pv 9) (pe_op op_sub (pv 12) pe_int) (fun _ _ => rfl)) (by rfl))))) (pss_one (ps_expr (pe_bm PySem.F.plainAttrs_list PySem.F.slot_list_append PySem.F.type_list_append mt_append (pv 11) (pa_cons (pe_tup (pa_cons (pe_lc (own := [("_law_j", 14)]) (g := gName 14) (tt := (tTest (tOp rEq (tOp (rIxL K) (tVar 8) (tVar 14)) (tOp (rIxL K) (tVar 9) (tVar 12))))) (te := (tOp (rIxL K) (tVar 5) (tVar 14))) rfl sc_law_parted.nd (pi_range1 (by rfl) T.n_range (pa_cons (pe_callB call_len (by rfl) T.n_len (by decide +kernel) (pa_cons (pv 5) pa_nil)) pa_nil)) (blkOk_by (N := n_law_parted) (sc := defScope s_law_parted) (by decide +kernel)) (fun _ _ _ _ _ => pg_name (i := 14) sc_law_parted.nd rfl (by first | exact .inl rfl | exact .inr rfl)) (fun _ _ _ _ _ => (pts_one (pt_cmpR op_eq (pe_ix ix_list (pv 8) (pv 14) (fun _ _ => rfl)) (pe_ix ix_list (pv 9) (pv 12) (fun _ _ => rfl)) (by rfl)))) (fun _ _ _ _ _ => (pe_ix ix_list (pv 5) (pv 14) (fun _ _ => rfl)))) (pa_cons (pv 10) pa_nil))) pa_nil)))) pss_nil)))
    (pss_one (ps_set (i := 2) sc_law_parted.nd rfl (by first | exact .inl rfl | exact .inr rfl) (pe_op op_cat (pv 11) (pv 2)))))))))))))))
    (pss_one (ps_ret (pv 3)))))), ?_⟩
    have n8 : nm.length ≤ 8 := by rw [pm.length_eq]; exact ok.sides.2.1
    have n0 : nm ≠ [] := fun e => by
      have := ok.sides.1
      rw [← pm.length_eq, e] at this
      simp at this
    have r4 := ok.rules.1
    refine q_asgLT (v := .int 0) (el_list (ev_var rfl) (sq_of hsa)) (fun _ _ => ev_c) fun T0 p0 l0 H1 hTH e1 hT0 h1 h1l => ?_
    refine q_asgL (xs := []) (el_lst (vs := []) ea_nil (show 0 ≤ 100000 by decide)) fun F H2 hF e2 h2 => ?_
    have e02 : Ex H H2 := e1.trans e2
    have hFH : H F = none := fresh_back e1 hF
    have nTF : T0 ≠ F := fun e => by
      rw [← e, hT0] at hF
      cases hF
    refine q_forR1 (n := 200) (ea_cons ev_c ea_nil) (by decide) (fun i σ' H' => Ex H H' ∧ H F = none ∧ ∃ (T1 : Addr) (ps : List Addr) (row : List (List Str × Nat)) (as : List Addr) (ls : List (List Str)) (v4 v5 v6 v7 v8 v9 v10 v11 v12 v13 v14 : Option V),
      σ' = [some (.ref A.b), some (.ref sa), some (.ref T1), some (.ref F), v4, v5, v6, v7, v8, v9, v10, v11, v12, v13, v14] ∧ H T1 = none ∧ T1 ≠ F ∧ H' T1 = some (.lst (ps.map V.ref)) ∧ TodoAt H' ps row ∧ H' F = some (.lst (as.map V.ref)) ∧ FoundAt H' as ls ∧
      ls ++ lotsRow (num B) B.rules row = lots (num B) B.rules nm 0 ∧ rowOk B.rules row ∧ (∀ p ∈ row, p.1.Sublist nm) ∧ pot B.rules row + i ≤ 75 ∧ as.length ≤ i) (fun H3 e3 => ?_) (fun i σ' H' hi q => ?_) fun σ' H' q => ?_
    · refine ⟨e02.trans e3, hFH, T0, [p0], [(nm, 0)], [], [], none, none, none, none, none, none, none, none, none, none, none, rfl, hTH, nTF, e3 _ _ (e2 _ _ hT0), ⟨⟨l0, e3 _ _ (e2 _ _ h1), e3 _ _ (e2 _ _ h1l), n0⟩, trivial⟩, e3 _ _ h2, trivial, ?_, ?_, ?_, ?_, Nat.le_refl _⟩
      · simp [lotsRow]
      · intro p hp
        rw [List.mem_singleton] at hp
        subst hp
        exact ⟨n0, Nat.zero_le _⟩
      · intro p hp
        rw [List.mem_singleton] at hp
        subst hp
        exact List.Sublist.refl _
      · simp [pot]
        omega
    · obtain ⟨eH, hFn, T1, ps, row, as, ls, v4, v5, v6, v7, v8, v9, v10, v11, v12, v13, v14, rfl, hT1, nTF1, hT, hTd, hFa, hFo, hrow, hok, hsub, hpot, has⟩ := q
      have hlen := lenL (K := K) (sq_of hT)
      rw [List.length_map, hTd.len] at hlen
      show tSeq _ _ _ [some (.ref A.b), some (.ref sa), some (.ref T1), some (.ref F), some (.int (i : Int)), v5, v6, v7, v8, v9, v10, v11, v12, v13, v14] H'
      refine q_when (b := decide (row.length = 0)) (et_is (et_test (ev_op (ev_lenV (ev_var rfl) hlen) ev_c rv_eqI)) (by simp)) (fun hc H3 e3 => ?_) fun hc H3 e3 => ?_
      · have hr0 : row = [] := List.length_eq_zero_iff.mp (of_decide_eq_true hc)
        subst hr0
        have hls : ls = lots (num B) B.rules nm 0 := by
          rw [← hrow]
          simp [lotsRow]
        rw [hls] at hFo
        exact s_ret (ev_var rfl) fun H4 e4 => k F H4 as hFn ((eH.trans e3).trans e4) (e4 _ _ (e3 _ _ hFa)) (hFo.mono (.of (e3.trans e4)))
      · cases ps with
        | nil =>
          cases row with
          | nil => cases hc
          | cons _ _ => exact hTd.elim
        | cons p ps =>
          cases row with
          | nil => exact hTd.elim
          | cons q row =>
            obtain ⟨lot, at_⟩ := q
            obtain ⟨⟨la, t1, t2, t3⟩, hTd⟩ := hTd
            refine q_pop0 (y := .ref p) (xs := ps.map V.ref) (ev_var rfl) (e3 _ _ hT) fun H4 e4 => ?_
            have e34 := e3.trans e4
            have hT4 : H4 T1 = some (.lst ((p :: ps).map V.ref)) := e34 _ _ hT
            have x5 : ExR H4 (upd H4 T1 (.lst (ps.map V.ref))) := ExR.upd hT4
            have e5 : Ex H (upd H4 T1 (.lst (ps.map V.ref))) := (eH.trans e34).mut hT1
            have t1' := x5 _ _ (e34 _ _ t1) tup_ref
            have t2' := x5 _ _ (e34 _ _ t2) (str_ref t3)
            have hTd5 := (hTd.mono (.of e34)).mono x5
            have hFo5 := (hFo.mono (.of e34)).mono x5
            have hF5 : (upd H4 T1 (.lst (ps.map V.ref))) F = some (.lst (as.map V.ref)) := by
              rw [upd_ne (Ne.symm nTF1)]
              exact e34 _ _ hFa
            have hT5 : (upd H4 T1 (.lst (ps.map V.ref))) T1 = some (.lst (ps.map V.ref)) := upd_same
            generalize hH5 : upd H4 T1 (.lst (ps.map V.ref)) = H5 at *
            clear hH5 x5 hT4
            refine ⟨p, _, rfl, st_of t1', rfl, _, _, rfl, _, _, rfl, rfl, ?_⟩
            show tSeq _ _ _ [some (.ref A.b), some (.ref sa), some (.ref T1), some (.ref F), some (.int (i : Int)), some (.ref la), some (.int (at_ : Int)), v7, v8, v9, v10, v11, v12, v13, v14] H5
            have b5 := hb.mono e5
            have hl2 := lenL (K := K) (sq_of t2')
            rw [List.length_map] at hl2
            have hl3 := lenT (K := K) (st_of b5.rl)
            rw [List.length_map] at hl3
            have hat := (hok _ List.mem_cons_self).2
            have hsl := hsub _ List.mem_cons_self
            have l8 : lot.length ≤ 8 := Nat.le_trans hsl.length_le n8
            refine q_when (b := decide (lot.length = 1 ∨ at_ = B.rules.length)) (et_is (et_or (et_test (ev_op (ev_lenV (ev_var rfl) hl2) ev_c rv_eqI)) fun _ => et_test (ev_op (ev_var rfl) (ev_lenV (eb_rules (ev_var rfl) b5.ob) hl3) rv_eqI)) ?_) (fun hc2 H6 e6 => ?_) fun hc2 H6 e6 => ?_
            · have a1 : ((lot.length : Int) = 1) = (lot.length = 1) := by apply propext; omega
              have a2 : ((at_ : Int) = (B.rules.length : Int)) = (at_ = B.rules.length) := by apply propext; omega
              simp only [a1, a2]
              by_cases c1 : lot.length = 1 <;> by_cases c2 : at_ = B.rules.length <;> simp [c1, c2]
            · have c := of_decide_eq_true hc2
              refine q_app (xs := as.map V.ref) (v := .ref la) (e6 _ _ hF5) (ev_var rfl) (ev_var rfl) (by rw [List.length_map]; omega) fun H7 e7 => ?_
              have e67 := e6.trans e7
              have x8 : ExR H7 (upd H7 F (.lst (as.map V.ref ++ [.ref la]))) := ExR.upd (e67 _ _ hF5)
              refine ⟨(e5.trans e67).mut hFn, hFn, T1, ps, row, as ++ [la], ls ++ [lot], _, _, _, _, _, _, _, _, _, _, _, rfl, hT1, nTF1, ?_, (hTd5.mono (.of e67)).mono x8, ?_, ?_, ?_, fun p hp => hok p (List.mem_cons_of_mem _ hp), fun p hp => hsub p (List.mem_cons_of_mem _ hp), ?_, ?_⟩
              · rw [upd_ne nTF1]
                exact e67 _ _ hT5
              · rw [upd_same, List.map_append]
                rfl
              · exact ((hFo5.mono (.of e67)).mono x8).snoc (x8 _ _ (e67 _ _ t2') (str_ref t3)) t3
              · rw [← hrow, row_leaf (num B) B.rules c, List.append_assoc]
              · have : pot B.rules row + 1 ≤ pot B.rules ((lot, at_) :: row) := pot_leaf t3
                omega
              · rw [List.length_append]
                simp
                omega
            · have c := of_decide_eq_false hc2
              have hlt : at_ < B.rules.length := by
                have : ¬ at_ = B.rules.length := fun e => c (.inr e)
                have hat' : at_ ≤ B.rules.length := hat
                omega
              have hr0 : B.rules[at_]? = some (B.rules.getD at_ "") := by rw [List.getD_eq_getElem?_getD, List.getElem?_eq_getElem hlt]; rfl
              let G : Str → Int := fun s => num B (B.rules.getD at_ "") s lot
              have b6 := b5.mono e6
              refine q_asg (v := .str (B.rules.getD at_ "")) (ev_op (eb_rules (ev_var rfl) b6.ob) (ev_var rfl) (rv_atT (st_of b6.rl) (by rw [List.getElem?_map, hr0]; rfl))) fun H7 e7 => ?_
              have e57 := e6.trans e7
              refine q_asgL (xs := (lot.map G).map V.int) (el_is (el_mL (ys := lot) V.str (fun _ => true) (fun s => .int (G s)) (ev_var rfl) (sq_of (e57 _ _ t2')) (by omega) (fun _ => rfl) (fun y H8 hy e => et_yes rfl) (fun y H8 hy e _ => ev_call (ea_cons (ev_var rfl) (ea_cons (ev_var rfl) (ea_cons (ev_var rfl) (ea_cons (ev_var rfl) ea_nil)))) (spV_ev (R := r_law_number) fun H9 e9 => ⟨A, B, _, y, lot, la, rfl, b5.mono ((e57.trans e).trans e9), ok, ((e57.trans e).trans e9) _ _ t2', l8, hy, pm.mem_iff.mp (hsl.subset hy), rfl⟩))) (by rw [filter_yes, List.map_map]; rfl)) fun nu H8 hnu e8 h8 => ?_
              have e58 := e57.trans e8
              refine q_sortR (ns := lot.map G) (ev_var rfl) h8 fun st sa2 H9 pst sst hsa2 e9 h9 => ?_
              have e59 := e58.trans e9
              have h8' := e9 _ _ h8
              have hst : st.length = lot.length := by rw [pst.length_eq, List.length_map]
              have lpos : 0 < lot.length := List.length_pos_iff.mpr t3
              have stne : st ≠ [] := List.length_pos_iff.mp (by omega)
              refine q_asg (v := .int ((at_ + 1 : Nat) : Int)) (ev_op (ev_var rfl) ev_c rv_add) fun H10 e10 => ?_
              have h10 := e10 _ _ h9
              have stI : ∀ {j : Nat}, j < st.length → (st.map V.int)[j]? = some (.int (st.getD j 0)) := fun {j} hj => by
                rw [List.getElem?_map, List.getD_eq_getElem?_getD, List.getElem?_eq_getElem hj]
                rfl
              have hends := ends_eq pst sst stne
              have hpl : (parts G lot).length = (dd (lot.map G)).length := by unfold parts; rw [List.length_map]
              let bh : Nat := behind B.rules at_ (decide ((parts G lot).length = 1))
              refine q_ifAsg (b := decide (B.rules.getD at_ "" = "among") && !decide (st.getD 0 0 = st.getD (st.length - 1) 0)) (v := .int (bh : Int)) (et_and (et_test (ev_op (ev_var rfl) ev_c rv_eqS)) fun _ => et_test (ev_op (ev_op (ev_var rfl) ev_c (rv_atL (i := 0) (sq_of h10) (stI (by omega)))) (ev_op (ev_var rfl) (ev_un ev_c ru_neg) (rv_ixL (sq_of h10) (atI_neg1 (by omega)))) rv_neI)) (fun hh => ?_) (fun hh => ?_) fun H11 e11 => ?_
              · have hh' : B.rules.getD at_ "" = "among" ∧ ¬ (st.getD 0 0 = st.getD (st.length - 1) 0) := by simpa using hh
                have : bh = at_ := by
                  show behind _ _ _ = _
                  unfold behind
                  rw [if_pos ⟨hh'.1, decide_eq_false (by rw [hpl]; exact fun z => hh'.2 (hends.mpr z))⟩]
                rw [this]
                exact ev_var rfl
              · have : bh = at_ + 1 := by
                  show behind _ _ _ = _
                  unfold behind
                  rw [if_neg (fun z => by
                    have z2 := of_decide_eq_false z.2
                    rw [hpl] at z2
                    have z3 : ¬ (st.getD 0 0 = st.getD (st.length - 1) 0) := fun y => z2 (hends.mp y)
                    rw [decide_eq_true z.1, decide_eq_false z3] at hh
                    cases hh)]
                rw [this]
                rfl
              · have e5b := (e59.trans e10).trans e11
                refine q_asgL (xs := []) (el_lst (vs := []) ea_nil (show 0 ≤ 100000 by decide)) fun N H12 hN e12 h12 => ?_
                have e5c := e5b.trans e12
                have hNH : H N = none := fresh_back (e5.trans e5b) hN
                have hs12 := e12 _ _ (e11 _ _ h10)
                have hn12 := e12 _ _ (e11 _ _ (e10 _ _ h8'))
                have hl12 := e5c _ _ t2'
                have hlst := lenL (K := K) (sq_of hs12)
                rw [List.length_map] at hlst
                have nNT : N ≠ T1 := fun e => by
                  have := e5b _ _ hT5
                  rw [← e, hN] at this
                  cases this
                have nNF : N ≠ F := fun e => by
                  have := e5b _ _ hF5
                  rw [← e, hN] at this
                  cases this
                refine q_forR1 (n := (st.length : Int)) (ea_cons (ev_lenV (ev_var rfl) hlst) ea_nil) (by omega) (fun j σ' H' => Ex H11 H' ∧ ∃ (ns : List Addr) (v4 v12 v13 v14 : Option V),
                  σ' = [some (.ref A.b), some (.ref sa), some (.ref T1), some (.ref F), v4, some (.ref la), some (.int (at_ : Int)), some (.str (B.rules.getD at_ "")), some (.ref nu), some (.ref sa2), some (.int (bh : Int)), some (.ref N), v12, v13, v14] ∧
                  H' N = some (.lst (ns.map V.ref)) ∧ TodoAt H' ns ((adj st j).map fun n => (part1 G lot n, bh))) (fun H13 e13 => ⟨e12.trans e13, [], _, _, _, _, rfl, e13 _ _ h12, trivial⟩) (fun j σ' H' hj q => ?_) fun σ' H' q => ?_
                · obtain ⟨eq1, ns, v4, v12, v13, v14, rfl, qN, qT⟩ := q
                  have hj' : j < st.length := by omega
                  have hsX := eq1 _ _ (e11 _ _ h10)
                  have hnX := eq1 _ _ (e11 _ _ (e10 _ _ h8'))
                  have hlX := (e5b.trans eq1) _ _ t2'
                  show tIfS _ _ tNext _ [some (.ref A.b), some (.ref sa), some (.ref T1), some (.ref F), v4, some (.ref la), some (.int (at_ : Int)), some (.str (B.rules.getD at_ "")), some (.ref nu), some (.ref sa2), some (.int (bh : Int)), some (.ref N), some (.int (j : Int)), v13, v14] H'
                  refine s_when (b := firsts st j) (et_is (et_or (a := decide (j = 0)) (et_is (et_test (ev_op (ev_var rfl) ev_c rv_eqI)) (by simp)) fun hj0 => et_test (b := !decide (st.getD j 0 = st.getD (j - 1) 0)) (ev_op (ev_op (ev_var rfl) (ev_var rfl) (rv_atL (sq_of hsX) (stI hj'))) (ev_op (ev_var rfl) (ev_op (ev_var rfl) ev_c rv_sub) (rv_ixL (sq_of hsX) ?_)) rv_neI)) (by unfold firsts; rfl)) (fun hf H13 e13 => ?_) fun hf H13 e13 => ?_
                  · have j0 : j ≠ 0 := of_decide_eq_false hj0
                    have : (j : Int) - 1 = ((j - 1 : Nat) : Int) := by omega
                    rw [this]
                    exact atI_nat (stI (by omega))
                  · have hsY := e13 _ _ hsX
                    have hnY := e13 _ _ hnX
                    have hlY := e13 _ _ hlX
                    have hll := lenL (K := K) (sq_of hlY)
                    rw [List.length_map] at hll
                    refine s_appLT (v := .int (bh : Int)) (ys := ns.map V.ref) (xs := (part1 G lot (st.getD j 0)).map V.str) (e13 _ _ qN) (ev_var rfl) ?_ (el_is (el_mR (n := lot.length) (atF lot fun s => decide (G s = st.getD j 0)) (atW lot V.str) (ea_cons (ev_lenV (ev_var rfl) hll) ea_nil) (by omega) (fun _ => rfl) (fun m H14 hm e => ?_) (fun m H14 hm e hg => ?_)) ?_) (fun _ _ => ev_var rfl) fun p lc H14 hp hlc e14 h14 h14l => ?_
                    · rw [List.length_map, qT.len, List.length_map]
                      have : (adj st j).length ≤ j := by
                        unfold adj
                        rw [List.length_map]
                        refine Nat.le_trans (List.length_filter_le _ _) ?_
                        rw [List.length_range]
                        exact Nat.le_refl _
                      omega
                    · have hm' : lot[m]? = some lot[m] := List.getElem?_eq_getElem hm
                      have : atF lot (fun s => decide (G s = st.getD j 0)) m = decide (G lot[m] = st.getD j 0) := by
                        unfold atF
                        rw [hm']
                      rw [this]
                      exact et_test (ev_op (ev_op (ev_var rfl) (ev_var rfl) (rv_atL (i := m) (v := .int (G lot[m])) (sq_of (e _ _ hnY)) (by rw [List.getElem?_map, List.getElem?_map, hm']; rfl))) (ev_op (ev_var rfl) (ev_var rfl) (rv_atL (sq_of (e _ _ hsY)) (stI hj'))) rv_eqI)
                    · have hm' : lot[m]? = some lot[m] := List.getElem?_eq_getElem hm
                      have : atW lot V.str m = .str lot[m] := by
                        unfold atW
                        rw [hm']
                      rw [this]
                      exact ev_op (ev_var rfl) (ev_var rfl) (rv_atL (i := m) (sq_of (e _ _ hlY)) (by rw [List.getElem?_map, hm']; rfl))
                    · exact given_at lot (fun s => decide (G s = st.getD j 0)) V.str
                    · have x14 : ExR H14 (upd H14 N (.lst (ns.map V.ref ++ [.ref p]))) := ExR.upd ((e13.trans e14) _ _ qN)
                      have pne : part1 G lot (st.getD j 0) ≠ [] := by
                        have hm : st.getD j 0 ∈ dd (lot.map G) := dd_mem.mpr (pst.mem_iff.mp (by rw [List.getD_eq_getElem?_getD, List.getElem?_eq_getElem hj']; exact List.getElem_mem _))
                        exact parts_ne (f := G) (lot := lot) (by unfold parts; exact List.mem_map.mpr ⟨_, hm, rfl⟩)
                      refine ⟨((eq1.trans e13).trans e14).mut hN, ns ++ [p], _, _, _, _, rfl, ?_, ?_⟩
                      · rw [upd_same, List.map_append]
                        rfl
                      · rw [adj_succ, if_pos hf, List.map_append]
                        refine ((qT.mono (.of (e13.trans e14))).mono x14).app ⟨⟨lc, x14 _ _ h14 tup_ref, x14 _ _ h14l (str_ref pne), pne⟩, trivial⟩
                  · refine ⟨eq1.trans e13, ns, _, _, _, _, rfl, e13 _ _ qN, ?_⟩
                    rw [adj_succ, if_neg (by rw [hf]; exact Bool.false_ne_true)]
                    exact qT.mono (.of e13)
                · obtain ⟨eq1, ns, v4', v12', v13', v14', rfl, qN, qT⟩ := q
                  have hnn : ((st.length : Int)).toNat = st.length := by omega
                  rw [hnn, adj_dd pst sst] at qT
                  have hnews : ((dd (lot.map G)).map fun n => (part1 G lot n, bh)) = news (num B) B.rules lot at_ := by
                    unfold news
                    show _ = (parts G lot).map fun p => (p, bh)
                    unfold parts
                    rw [List.map_map]
                    rfl
                  rw [hnews] at qT
                  have eX : Ex H5 H' := e5b.trans eq1
                  have hnl : ns.length ≤ 8 := by
                    rw [qT.len]
                    unfold news
                    rw [List.length_map]
                    have h1 := len_le_of (ls := parts G lot) fun p hp => parts_ne hp
                    rw [parts_len] at h1
                    exact Nat.le_trans h1 l8
                  have hpl2 : ps.length ≤ 75 := by
                    have h1 := len_pot B.rules hok
                    rw [hTd5.len]
                    rw [List.length_cons] at h1
                    omega
                  refine s_cat (xs := ns.map V.ref) (ys := ps.map V.ref) (ev_var rfl) (ev_var rfl) qN (eX _ _ hT5) (by rw [List.length_map, List.length_map]; omega) fun T2 H13 hT2 e13 h13 => ?_
                  have eY := eX.trans e13
                  have hp2 : pot B.rules (news (num B) B.rules lot at_ ++ row) + 1 ≤ pot B.rules ((lot, at_) :: row) := pot_news (num B) B.rules r4 t3 c hat
                  refine ⟨e5.trans eY, hFn, T2, ns ++ ps, news (num B) B.rules lot at_ ++ row, as, ls, _, _, _, _, _, _, _, _, _, _, _, rfl, fresh_back (e5.trans eX) hT2, fun e => ?_, ?_, (qT.mono (.of e13)).app (hTd5.mono (.of eY)), eY _ _ hF5, hFo5.mono (.of eY), ?_, ?_, ?_, ?_, by omega⟩
                  · have := eX _ _ hF5
                    rw [← e, hT2] at this
                    cases this
                  · rw [List.map_append]
                    exact h13
                  · rw [← hrow, row_node (num B) B.rules c hat]
                  · intro p hp
                    rcases List.mem_append.mp hp with hp | hp
                    · exact news_ok (num B) B.rules c hat p hp
                    · exact hok p (List.mem_cons_of_mem _ hp)
                  · intro p hp
                    rcases List.mem_append.mp hp with hp | hp
                    · unfold news at hp
                      obtain ⟨q, hq, rfl⟩ := List.mem_map.mp hp
                      exact (parts_sub hq).trans hsl
                    · exact hsub p (List.mem_cons_of_mem _ hp)
                  · omega
    · obtain ⟨_, _, _, _, _, _, _, _, _, _, _, _, _, _, _, _, _, _, _, _, _, _, _, _, _, _, _, _, hpot, _⟩ := q
      have : (200 : Int).toNat = 200 := rfl
      rw [this] at hpot
      omega
end
end Lw

/-! V5 -/
/-! The law's flat lots, its comparisons, its start. -/
namespace Lw
open PySem PySem.Spec PyProof.Rows L2 Evl Mt
section
variable {P : Program} {w : World} {K : PySem.W.Frag} {mg : Str → Option Value} {base : Heap}
def spLf : Sp := fun vs H Q _ => ∃ (p : Addr) (as : List Addr) (ls : List (List Str)), vs = [.ref p] ∧ H p = some (.lst (as.map V.ref)) ∧ FoundAt H as ls ∧ ls.flatten.length ≤ 1000 ∧ ls.length ≤ 1000 ∧
  ∀ t H2, H t = none → Ex H H2 → H2 t = some (.tup (ls.flatten.map V.str)) → Q (.ref t) H2
theorem ok_law_flat (T : Tx0 K mg) : FnOk P w K mg base CX0 1 (a_law_flat K) (fd_law_flat K) p_law_flat spLf := by
  refine okN T.f_law_flat sc_law_flat (fun vs H Q E h => ?_) (fun cdv A outer s H vs Q E hr h => ?_)
  · obtain ⟨p, as, ls, rfl, _⟩ := h
    rfl
  · obtain ⟨p, as, ls, rfl, hp, hf, hl, hl2, k⟩ := h
    refine ⟨_, (pss_cons (ps_set (i := 1) sc_law_flat.nd rfl (by first | exact .inl rfl | exact .inr rfl) (pe_lst pa_nil))
    (pss_cons (ps_for PassesOwn.never rfl (pi_list (pv 0)) (pg_name (i := 2) sc_law_flat.nd rfl (by first | exact .inl rfl | exact .inr rfl)) (pss_one (ps_set (i := 1) sc_law_flat.nd rfl (by first | exact .inl rfl | exact .inr rfl) (pe_op op_cat (pv 1) (pv 2)))))
    (pss_one (ps_ret (pe_callTy call_tuple_of (by rfl) T.n_tuple (by decide +kernel) (pa_cons (pv 1) pa_nil)))))), ?_⟩
    have bnd : ∀ i, (ls.take i).flatten.length ≤ 1000 := fun i => by
      have h1 : ls.flatten = (ls.take i).flatten ++ (ls.drop i).flatten := by rw [← List.flatten_append, List.take_append_drop]
      rw [h1, List.length_append] at hl
      omega
    refine q_asgL (xs := []) (el_lst (vs := []) ea_nil (show 0 ≤ 100000 by decide)) fun c H1 hc e1 h1 => ?_
    refine q_forLn (xs := as.map V.ref) (ev_var rfl) (sq_of (e1 _ _ hp)) (fun i σ' H' => Ex H H' ∧ ∃ c v2, σ' = [some (.ref p), some (.ref c), v2] ∧ H' c = some (.lst ((ls.take i).flatten.map V.str))) (fun H2 e2 => ⟨e1.trans e2, c, none, rfl, e2 _ _ h1⟩) (fun i σ' H' _ q => sq_of (q.1 _ _ hp)) (fun i v σ' H' hi q => ?_) fun σ' H' q => ?_
    · obtain ⟨e2, c, v2, rfl, hcc⟩ := q
      obtain ⟨a, ha, rfl⟩ := map_at hi
      obtain ⟨l, hl1, hl3, _⟩ := hf.at ha
      have h5 := bnd (i + 1)
      have e5 : ls.take (i + 1) = ls.take i ++ [l] := by rw [List.take_add_one, hl1]; rfl
      rw [e5, List.flatten_append, List.length_append, show [l].flatten = l by simp] at h5
      show tAsg (tOp rCat (tVar 1) (tVar 2)) (gName 1) _ [some (.ref p), some (.ref c), some (.ref a)] H'
      refine s_cat (xs := (ls.take i).flatten.map V.str) (ys := l.map V.str) (ev_var rfl) (ev_var rfl) hcc (e2 _ _ hl3) (by rw [List.length_map, List.length_map]; omega) fun q H3 hq e3 h3 => ⟨e2.trans e3, q, _, rfl, ?_⟩
      rw [h3, e5, List.flatten_append, List.map_append]
      simp
    · obtain ⟨e2, c, v2, rfl, hcc⟩ := q
      rw [List.length_map, hf.len, List.take_length] at hcc
      exact s_retU (eu_tupL' (ev_var rfl) hcc) fun t H3 ht e3 h3 => k t H3 (fresh_back e2 ht) (e2.trans e3) h3
theorem kit_t : ∀ {x : V}, FlatV x → PySem.W.kitOne K (.type (tyS x)) (.type "tuple") = some false
  | .non, _ => kit_ty (show kitB "NoneType" "tuple" = some false by decide +kernel)
  | .bl b, _ => kit_ty (show kitB "bool" "tuple" = some false by decide +kernel)
  | .int i, _ => kit_ty (show kitB "int" "tuple" = some false by decide +kernel)
  | .str s, _ => kit_ty (show kitB "str" "tuple" = some false by decide +kernel)
def r_same0 : List V → Hp → V → Prop := fun vs H z => ∃ x, vs = [x, x] ∧ FlatV x ∧ z = .bl true
/-- what is asked of the walk over flat values -/
theorem same_flat {x : V} (hx : FlatV x) {H : Hp} {Q : VK} (k : ∀ H1, Ex H H1 → Q (.bl true) H1) {tN : TS} {D : Ends} (hD : D.rt = Q) :
    tSeq (tIfS (tTest (tOp (fun x y H Q => y = .non ∧ Q (.bl (decide (x = .non))) H) (tVar 1) (tC .non))) (tRet (tOp (fun x y H Q => y = .non ∧ Q (.bl (decide (x = .non))) H) (tVar 0) (tC .non))) tNext)
      (tSeq (tIfS (tB (tCB (rIsi K) (tCons (tVar 1) (tCons (tC (.ty "tuple")) tNil)))) tN tNext)
      (tSeq (tIfS (tB (tCB (rIsi K) (tCons (tVar 1) (tCons (tC (.ty "bool")) tNil)))) (tRet (tAndV (tCB (rIsi K) (tCons (tVar 0) (tCons (tC (.ty "bool")) tNil))) (tOp rEq (tVar 0) (tVar 1)))) tNext)
      (tSeq (tIfS (tB (tCB (rIsi K) (tCons (tVar 1) (tCons (tC (.ty "int")) tNil)))) (tRet (tAndV (tCB (rIsi K) (tCons (tVar 0) (tCons (tC (.ty "int")) tNil))) (tAndV (tNotV (tCB (rIsi K) (tCons (tVar 0) (tCons (tC (.ty "bool")) tNil)))) (tOp rEq (tVar 0) (tVar 1))))) tNext)
      (tRet (tAndV (tCB (rIsi K) (tCons (tVar 0) (tCons (tC (.ty "str")) tNil))) (tOp rEq (tVar 0) (tVar 1))))))) D [some x, some x, none] H := by
  subst hD
  refine q_when (b := decide (x = .non)) (et_test (ev_op (ev_var rfl) ev_c rv_isN)) (fun hb H1 e1 => s_ret (ev_is (ev_op (ev_var rfl) ev_c rv_isN) (by rw [hb])) fun H2 e2 => k H2 (e1.trans e2)) fun hb H1 e1 => ?_
  refine q_when (b := false) (et_B (ev_isi (ev_var rfl) ev_c (flat_ty hx) (kit_t hx))) (fun z => nomatch z) fun _ H2 e2 => ?_
  have e12 := e1.trans e2
  have hs : scal x x = true := by cases x <;> first | rfl | exact hx.elim
  have he : ∀ {σ : L2.St} {H : Hp} {ta tb : TE}, Ev ta σ H x → Ev tb σ H x → Ev (tOp rEq ta tb) σ H (.bl true) := fun h1 h2 => ev_is (ev_op h1 h2 (rv_eq hs)) (by simp)
  refine q_when (b := isB x) (et_B (ev_isi (ev_var rfl) ev_c (flat_ty hx) (kit_b hx))) (fun h3 H3 e3 => s_ret (ev_is (ev_andV (ev_isi (ev_var rfl) ev_c (flat_ty hx) (kit_b hx)) fun _ => he (ev_var rfl) (ev_var rfl)) (by rw [h3]; rfl)) fun H4 e4 => k H4 ((e12.trans e3).trans e4)) fun h3 H3 e3 => ?_
  have e13 := e12.trans e3
  refine q_when (b := isIB x) (et_B (ev_isi (ev_var rfl) ev_c (flat_ty hx) (kit_i hx))) (fun h4 H4 e4 => s_ret (ev_is (ev_andV (ev_isi (ev_var rfl) ev_c (flat_ty hx) (kit_i hx)) fun _ => ev_andV (ev_notV (ev_isi (ev_var rfl) ev_c (flat_ty hx) (kit_b hx))) fun _ => he (ev_var rfl) (ev_var rfl)) (by rw [h4, h3]; rfl)) fun H5 e5 => k H5 ((e13.trans e4).trans e5)) fun h4 H4 e4 => ?_
  refine s_ret (ev_is (ev_andV (ev_isi (ev_var rfl) ev_c (flat_ty hx) (kit_s hx)) fun _ => he (ev_var rfl) (ev_var rfl)) ?_) fun H5 e5 => k H5 ((e13.trans e4).trans e5)
  cases x with
  | non => cases hb
  | bl b => cases h3
  | int i => cases h4
  | str s => rfl
  | _ => exact hx.elim
theorem ok_law_same0 (T : Tx0 K mg) : FnOk P w K mg base CX0 1 (a_law_same K) (fd_law_same K) p_law_same (spV r_same0) := by
  refine okN T.f_law_same sc_law_same (fun vs H Q E h => ?_) (fun cdv A outer s H vs Q E hr h => ?_)
  · obtain ⟨z, ⟨x, rfl, _⟩, _⟩ := h
    rfl
  · obtain ⟨z, ⟨x, rfl, hx, rfl⟩, k⟩ := h
    exact ⟨_, (pss_cons (ps_if (pt_cmpR op_isN (pv 1) pe_non (by rfl)) (pss_one (ps_ret (pe_cmpR op_isN (pv 0) pe_non (by rfl)))) pss_nil)
    (pss_cons (ps_if (pt_val (pe_callB call_isi (by rfl) T.n_isinstance (by decide +kernel) (pa_cons (pv 1) (pa_cons (pe_bltn (v := .ty "tuple") (u := .type "tuple") (by rfl) T.n_tuple (by decide +kernel) rfl) pa_nil)))) pss_never pss_nil)
    (pss_cons (ps_if (pt_val (pe_callB call_isi (by rfl) T.n_isinstance (by decide +kernel) (pa_cons (pv 1) (pa_cons (pe_bltn (v := .ty "bool") (u := .type "bool") (by rfl) T.n_bool (by decide +kernel) rfl) pa_nil)))) (pss_one (ps_ret (pe_and (pe_callB call_isi (by rfl) T.n_isinstance (by decide +kernel) (pa_cons (pv 0) (pa_cons (pe_bltn (v := .ty "bool") (u := .type "bool") (by rfl) T.n_bool (by decide +kernel) rfl) pa_nil))) (pe_one (pe_cmpR op_eq (pv 0) (pv 1) (by rfl)))))) pss_nil)
    (pss_cons (ps_if (pt_val (pe_callB call_isi (by rfl) T.n_isinstance (by decide +kernel) (pa_cons (pv 1) (pa_cons (pe_bltn (v := .ty "int") (u := .type "int") (by rfl) T.n_int (by decide +kernel) rfl) pa_nil)))) (pss_one (ps_ret (pe_and (pe_callB call_isi (by rfl) T.n_isinstance (by decide +kernel) (pa_cons (pv 0) (pa_cons (pe_bltn (v := .ty "int") (u := .type "int") (by rfl) T.n_int (by decide +kernel) rfl) pa_nil))) (pe_and (pe_not (pe_callB call_isi (by rfl) T.n_isinstance (by decide +kernel) (pa_cons (pv 0) (pa_cons (pe_bltn (v := .ty "bool") (u := .type "bool") (by rfl) T.n_bool (by decide +kernel) rfl) pa_nil)))) (pe_one (pe_cmpR op_eq (pv 0) (pv 1) (by rfl))))))) pss_nil)
    (pss_one (ps_ret (pe_and (pe_callB call_isi (by rfl) T.n_isinstance (by decide +kernel) (pa_cons (pv 0) (pa_cons (pe_bltn (v := .ty "str") (u := .type "str") (by rfl) T.n_str (by decide +kernel) rfl) pa_nil))) (pe_one (pe_cmpR op_eq (pv 0) (pv 1) (by rfl)))))))))), same_flat hx k rfl⟩
theorem okH_law_same (T : Tx0 K mg) : L2H.FnH P w K mg base CX0 1 (a_law_same K) (fd_law_same K) p_law_same (spV r_same0) := by
  obtain ⟨oc, od, dV, kV, doc, pm, an, cdv, ct, osl, hfd, lk, hcd, _, _⟩ := T.f_law_same.ex
  rw [hfd] at lk ⊢
  refine L2H.fn_ofH lk hcd sc_law_same (fun vs H Q E h => ?_) (fun A outer s H vs Q E p hot hr h => ?_)
  · obtain ⟨z, ⟨x, rfl, _⟩, _⟩ := h
    rfl
  · obtain ⟨z, ⟨x, rfl, hx, rfl⟩, k⟩ := h
    exact ⟨_, (pss_cons (ps_if (pt_cmpR op_isN (pv 1) pe_non (by rfl)) (pss_one (ps_ret (pe_cmpR op_isN (pv 0) pe_non (by rfl)))) pss_nil)
    (pss_cons (ps_if (pt_val (pe_callB call_isi (by rfl) T.n_isinstance (by decide +kernel) (pa_cons (pv 1) (pa_cons (pe_bltn (v := .ty "tuple") (u := .type "tuple") (by rfl) T.n_tuple (by decide +kernel) rfl) pa_nil)))) pss_never pss_nil)
    (pss_cons (ps_if (pt_val (pe_callB call_isi (by rfl) T.n_isinstance (by decide +kernel) (pa_cons (pv 1) (pa_cons (pe_bltn (v := .ty "bool") (u := .type "bool") (by rfl) T.n_bool (by decide +kernel) rfl) pa_nil)))) (pss_one (ps_ret (pe_and (pe_callB call_isi (by rfl) T.n_isinstance (by decide +kernel) (pa_cons (pv 0) (pa_cons (pe_bltn (v := .ty "bool") (u := .type "bool") (by rfl) T.n_bool (by decide +kernel) rfl) pa_nil))) (pe_one (pe_cmpR op_eq (pv 0) (pv 1) (by rfl)))))) pss_nil)
    (pss_cons (ps_if (pt_val (pe_callB call_isi (by rfl) T.n_isinstance (by decide +kernel) (pa_cons (pv 1) (pa_cons (pe_bltn (v := .ty "int") (u := .type "int") (by rfl) T.n_int (by decide +kernel) rfl) pa_nil)))) (pss_one (ps_ret (pe_and (pe_callB call_isi (by rfl) T.n_isinstance (by decide +kernel) (pa_cons (pv 0) (pa_cons (pe_bltn (v := .ty "int") (u := .type "int") (by rfl) T.n_int (by decide +kernel) rfl) pa_nil))) (pe_and (pe_not (pe_callB call_isi (by rfl) T.n_isinstance (by decide +kernel) (pa_cons (pv 0) (pa_cons (pe_bltn (v := .ty "bool") (u := .type "bool") (by rfl) T.n_bool (by decide +kernel) rfl) pa_nil)))) (pe_one (pe_cmpR op_eq (pv 0) (pv 1) (by rfl))))))) pss_nil)
    (pss_one (ps_ret (pe_and (pe_callB call_isi (by rfl) T.n_isinstance (by decide +kernel) (pa_cons (pv 0) (pa_cons (pe_bltn (v := .ty "str") (u := .type "str") (by rfl) T.n_str (by decide +kernel) rfl) pa_nil))) (pe_one (pe_cmpR op_eq (pv 0) (pv 1) (by rfl)))))))))), same_flat hx k rfl⟩
def r_law_same : List V → Hp → V → Prop := fun vs H z => ((∃ x, vs = [x, x] ∧ FlatV x) ∨ ∃ (a d : Addr) (ss : List Str), vs = [.ref a, .ref d] ∧ H a = some (.tup (ss.map V.str)) ∧ H d = some (.tup (ss.map V.str)) ∧ ss.length ≤ 1000) ∧ z = .bl true
theorem ok_law_same (T : Tx0 K mg) : FnOk P w K mg base CX0 2 (a_law_same K) (fd_law_same K) p_law_same (spV r_law_same) := by
  refine okN T.f_law_same sc_law_same (fun vs H Q E h => ?_) (fun cdv A outer s H vs Q E hr h => ?_)
  · obtain ⟨z, ⟨⟨x, rfl, _⟩ | ⟨a, d, ss, rfl, _⟩, _⟩, _⟩ := h
    · rfl
    · rfl
  · obtain ⟨z, ⟨h, rfl⟩, k⟩ := h
    have ok0 := ok_law_same0 (P := P) (w := w) (base := base) T
    rcases h with ⟨x, rfl, hx⟩ | ⟨a, d, ss, rfl, ha, hd, hl⟩
    · exact ⟨_, (pss_cons (ps_if (pt_cmpR op_isN (pv 1) pe_non (by rfl)) (pss_one (ps_ret (pe_cmpR op_isN (pv 0) pe_non (by rfl)))) pss_nil)
    (pss_cons (ps_if (pt_val (pe_callB call_isi (by rfl) T.n_isinstance (by decide +kernel) (pa_cons (pv 1) (pa_cons (pe_bltn (v := .ty "tuple") (u := .type "tuple") (by rfl) T.n_tuple (by decide +kernel) rfl) pa_nil)))) pss_never pss_nil)
    (pss_cons (ps_if (pt_val (pe_callB call_isi (by rfl) T.n_isinstance (by decide +kernel) (pa_cons (pv 1) (pa_cons (pe_bltn (v := .ty "bool") (u := .type "bool") (by rfl) T.n_bool (by decide +kernel) rfl) pa_nil)))) (pss_one (ps_ret (pe_and (pe_callB call_isi (by rfl) T.n_isinstance (by decide +kernel) (pa_cons (pv 0) (pa_cons (pe_bltn (v := .ty "bool") (u := .type "bool") (by rfl) T.n_bool (by decide +kernel) rfl) pa_nil))) (pe_one (pe_cmpR op_eq (pv 0) (pv 1) (by rfl)))))) pss_nil)
    (pss_cons (ps_if (pt_val (pe_callB call_isi (by rfl) T.n_isinstance (by decide +kernel) (pa_cons (pv 1) (pa_cons (pe_bltn (v := .ty "int") (u := .type "int") (by rfl) T.n_int (by decide +kernel) rfl) pa_nil)))) (pss_one (ps_ret (pe_and (pe_callB call_isi (by rfl) T.n_isinstance (by decide +kernel) (pa_cons (pv 0) (pa_cons (pe_bltn (v := .ty "int") (u := .type "int") (by rfl) T.n_int (by decide +kernel) rfl) pa_nil))) (pe_and (pe_not (pe_callB call_isi (by rfl) T.n_isinstance (by decide +kernel) (pa_cons (pv 0) (pa_cons (pe_bltn (v := .ty "bool") (u := .type "bool") (by rfl) T.n_bool (by decide +kernel) rfl) pa_nil)))) (pe_one (pe_cmpR op_eq (pv 0) (pv 1) (by rfl))))))) pss_nil)
    (pss_one (ps_ret (pe_and (pe_callB call_isi (by rfl) T.n_isinstance (by decide +kernel) (pa_cons (pv 0) (pa_cons (pe_bltn (v := .ty "str") (u := .type "str") (by rfl) T.n_str (by decide +kernel) rfl) pa_nil))) (pe_one (pe_cmpR op_eq (pv 0) (pv 1) (by rfl)))))))))), same_flat hx k rfl⟩
    · refine ⟨_, (pss_cons (ps_if (pt_cmpR op_isN (pv 1) pe_non (by rfl)) (pss_one (ps_ret (pe_cmpR op_isN (pv 0) pe_non (by rfl)))) pss_nil)
    (pss_cons (ps_if (pt_val (pe_callB call_isi (by rfl) T.n_isinstance (by decide +kernel) (pa_cons (pv 1) (pa_cons (pe_bltn (v := .ty "tuple") (u := .type "tuple") (by rfl) T.n_tuple (by decide +kernel) rfl) pa_nil)))) (pss_cons (ps_if (PW.pt (pw_or (pt_not (pt_val (pe_callB call_isi (by rfl) T.n_isinstance (by decide +kernel) (pa_cons (pv 0) (pa_cons (pe_bltn (v := .ty "tuple") (u := .type "tuple") (by rfl) T.n_tuple (by decide +kernel) rfl) pa_nil))))) (pw_or1 (pt_cmpR op_ne (pe_callB call_len (by rfl) T.n_len (by decide +kernel) (pa_cons (pv 0) pa_nil)) (pe_callB call_len (by rfl) T.n_len (by decide +kernel) (pa_cons (pv 1) pa_nil)) (by rfl))))) (pss_one (ps_ret pe_bl)) pss_nil)
    (pss_cons (ps_for PassesOwn.never rfl (pi_range1 (by rfl) T.n_range (pa_cons (pe_callB call_len (by rfl) T.n_len (by decide +kernel) (pa_cons (pv 1) pa_nil)) pa_nil)) (pg_name (i := 2) sc_law_same.nd rfl (by first | exact .inl rfl | exact .inr rfl)) (pss_one (ps_if (pt_not (pt_val (pe_call ok0 (hr.mono (by decide)) (by rfl) T.m_law_same T.k_law_same T.b_law_same .nil pass0 (pa_cons (pe_ix ix_tup (pv 0) (pv 2) (fun _ _ => rfl)) (pa_cons (pe_ix ix_tup (pv 1) (pv 2) (fun _ _ => rfl)) pa_nil))))) (pss_one (ps_ret pe_bl)) pss_nil)))
    (pss_one (ps_ret pe_bl)))) pss_nil)
    (pss_cons (ps_if (pt_val (pe_callB call_isi (by rfl) T.n_isinstance (by decide +kernel) (pa_cons (pv 1) (pa_cons (pe_bltn (v := .ty "bool") (u := .type "bool") (by rfl) T.n_bool (by decide +kernel) rfl) pa_nil)))) (pss_one (ps_ret (pe_and (pe_callB call_isi (by rfl) T.n_isinstance (by decide +kernel) (pa_cons (pv 0) (pa_cons (pe_bltn (v := .ty "bool") (u := .type "bool") (by rfl) T.n_bool (by decide +kernel) rfl) pa_nil))) (pe_one (pe_cmpR op_eq (pv 0) (pv 1) (by rfl)))))) pss_nil)
    (pss_cons (ps_if (pt_val (pe_callB call_isi (by rfl) T.n_isinstance (by decide +kernel) (pa_cons (pv 1) (pa_cons (pe_bltn (v := .ty "int") (u := .type "int") (by rfl) T.n_int (by decide +kernel) rfl) pa_nil)))) (pss_one (ps_ret (pe_and (pe_callB call_isi (by rfl) T.n_isinstance (by decide +kernel) (pa_cons (pv 0) (pa_cons (pe_bltn (v := .ty "int") (u := .type "int") (by rfl) T.n_int (by decide +kernel) rfl) pa_nil))) (pe_and (pe_not (pe_callB call_isi (by rfl) T.n_isinstance (by decide +kernel) (pa_cons (pv 0) (pa_cons (pe_bltn (v := .ty "bool") (u := .type "bool") (by rfl) T.n_bool (by decide +kernel) rfl) pa_nil)))) (pe_one (pe_cmpR op_eq (pv 0) (pv 1) (by rfl))))))) pss_nil)
    (pss_one (ps_ret (pe_and (pe_callB call_isi (by rfl) T.n_isinstance (by decide +kernel) (pa_cons (pv 0) (pa_cons (pe_bltn (v := .ty "str") (u := .type "str") (by rfl) T.n_str (by decide +kernel) rfl) pa_nil))) (pe_one (pe_cmpR op_eq (pv 0) (pv 1) (by rfl)))))))))), ?_⟩
      refine q_when (b := false) (et_test (ev_op (ev_var rfl) ev_c rv_isN)) (fun z => nomatch z) fun _ H1 e1 => ?_
      refine q_when (b := true) (et_B (ev_isi (ct := .type "tuple") (ev_var rfl) ev_c (.base (.tup (e1 _ _ hd))) (kit_ty (show kitB "tuple" "tuple" = some true by decide +kernel)))) (fun _ H2 e2 => ?_) fun z => nomatch z
      have e12 := e1.trans e2
      have l1 := lenT (K := K) (st_of (e12 _ _ ha))
      have l2 := lenT (K := K) (st_of (e12 _ _ hd))
      rw [List.length_map] at l1 l2
      refine q_when (b := false) (et_is (et_or (a := false) (et_is (et_not (et_B (ev_isi (ct := .type "tuple") (ev_var rfl) ev_c (.base (.tup (e12 _ _ ha))) (kit_ty (show kitB "tuple" "tuple" = some true by decide +kernel))))) rfl) fun _ => et_test (ev_op (ev_lenV (ev_var rfl) l1) (ev_lenV (ev_var rfl) l2) rv_neI)) (by simp)) (fun z => nomatch z) fun _ H3 e3 => ?_
      have e13 := e12.trans e3
      have l3 := lenT (K := K) (st_of (e13 _ _ hd))
      rw [List.length_map] at l3
      refine q_forR1 (n := (ss.length : Int)) (ea_cons (ev_lenV (ev_var rfl) l3) ea_nil) (by omega) (fun i σ' H' => Ex H H' ∧ ∃ v2, σ' = [some (.ref a), some (.ref d), v2]) (fun H4 e4 => ⟨e13.trans e4, none, rfl⟩) (fun i σ' H' hi q => ?_) fun σ' H' q => ?_
      · obtain ⟨e4, v2, rfl⟩ := q
        have hi' : i < ss.length := by omega
        have gi : (ss.map V.str)[i]? = some (.str ss[i]) := by rw [List.getElem?_map, List.getElem?_eq_getElem hi']; rfl
        show tIfS _ _ tNext _ [some (.ref a), some (.ref d), some (.int (i : Int))] H'
        refine s_when (b := false) (et_not (et_B (ev_call (z := .bl true) (ea_cons (ev_op (ev_var rfl) (ev_var rfl) (rv_atT (st_of (e4 _ _ ha)) gi)) (ea_cons (ev_op (ev_var rfl) (ev_var rfl) (rv_atT (st_of (e4 _ _ hd)) gi)) ea_nil)) (spV_ev (R := r_same0) fun H5 e5 => ⟨_, rfl, trivial, rfl⟩)))) (fun z => nomatch z) fun _ H5 e5 => ⟨e4.trans e5, _, rfl⟩
      · obtain ⟨e4, v2, rfl⟩ := q
        exact s_ret ev_c fun H5 e5 => k H5 (e4.trans e5)
end
end Lw

/-! V6 -/
/-! The law's start, its outcomes, the twin league. -/
namespace Lw
open PySem PySem.Spec PyProof.Rows L2 Evl Mt
def EvP (trs : List (TE × TE)) (σ : L2.St) (H : Hp) (ps : List (V × V)) : Prop := ∀ H1, Ex H H1 → ∀ Q : List (V × V) → Hp → Prop, (∀ H2, Ex H1 H2 → Q ps H2) → tPairs trs σ H1 Q
section
variable {K : PySem.W.Frag} {σ : L2.St} {H : Hp} {ta tb tl tk tv : TE} {x y v1 v2 : V} {trs : List (TE × TE)} {ps : List (V × V)} {xs : List V} {D : Ends} {tz : TS}
theorem ep_nil : EvP [] σ H [] := fun H1 _ _ q => q H1 (Ex.refl _)
theorem ep_cons (hk : Ev tk σ H x) (hv : Ev tv σ H y) (hr : EvP trs σ H ps) : EvP ((tk, tv) :: trs) σ H ((x, y) :: ps) := fun H1 e Q q =>
  hk H1 e _ fun H2 e2 => hv H2 (e.trans e2) _ fun H3 e3 => hr H3 ((e.trans e2).trans e3) _ fun H4 e4 => q H4 ((e2.trans e3).trans e4)
theorem s_retD1 {kvs : List (Key × V)} {k0 : Str} (hl : EvL tl σ H xs) (hr : EvP trs σ H (kvs.map fun kv => (kV kv.1, kv.2))) (hn : kvs.length ≤ 14) (k : ∀ p l H1, H p = none → H l = none → Ex H H1 → H1 p = some (.dK (mergeK [] ((.inr k0, .ref l) :: kvs))) → H1 l = some (.lst xs) → D.rt (.ref p) H1) :
    tRet (tDisp ((tC (.str k0), tl) :: trs)) D σ H := fun p hp => hl _ (Ex.new hp) _ fun l H1 hl1 e1 h1 => hr H1 ((Ex.new hp).trans e1) _ fun H2 e2 => by
  have hp2 := (e1.trans e2) p _ (upd_same (H := H) (a := p) (o := .dK []))
  have hl2 := e2 _ _ h1
  have ne : l ≠ p := fun z => by
    rw [z, upd_same] at hl1
    cases hl1
  refine ⟨hp2, (.inr k0, .ref l) :: kvs, rfl, by rw [List.length_cons]; omega, k p l _ hp (fresh_back (Ex.new hp) hl1) ((((Ex.new hp).trans e1).trans e2).mut hp) upd_same ?_⟩
  rw [upd_ne ne]
  exact hl2
theorem q_asgM3L {C : Addr} {sp : Sp} {E : XK} {i : Nat} {dvs : List V} (ha : Ev ta σ H v1) (hb : Ev tb σ H v2) (hl : EvL tl σ H xs) (k : ∀ p H1, H p = none → Ex H H1 → H1 p = some (.lst xs) → ∀ x dx, H1 x = none → H1 dx = none → dx ≠ x → sp (.ref x :: ([v1, v2, .ref p] ++ dvs)) (upd (upd H1 dx (.own x)) x (.ins C dx [])) (fun v H2 => v = .non ∧ tz D (σ.set i (some (.ref x))) H2) E) :
    tSeq (tAsg (tMake C sp dvs E (tCons ta (tCons tb (tCons tl tNil)))) (gName i)) tz D σ H :=
  ha H (Ex.refl H) _ fun H1 e1 => hb H1 e1 _ fun H2 e2 => hl H2 (e1.trans e2) _ fun p H3 hp e3 h3 => k p H3 (fresh_back (e1.trans e2) hp) ((e1.trans e2).trans e3) h3
theorem el_listT {p : Addr} (ha : Ev ta σ H (.ref p)) (h : SqT K H p xs) : EvL (tCB (rListS K) (tCons ta tNil)) σ H xs := fun H1 e Q q =>
  ha H1 e _ fun H2 e2 => ⟨p, xs, rfl, .inr (ex_t (e.trans e2) h), fun l hl => q l _ (fresh_back e2 hl) (e2.trans (Ex.new hl)) upd_same⟩
end
/-- what may be an outcome -/
def outs (d : Option Int) : List Str := if d = none then ["home", "away"] else ["home", "draw", "away"]
section
variable {P : Program} {w : World} {K : PySem.W.Frag} {mg : Str → Option Value} {base : Heap}
variable (K) in
def spSt : Sp := fun vs H Q _ => ∃ (a : Addr) (ns : List Int), vs = [.ref a] ∧ SqL K H a (ns.map V.int) ∧ ns.length ≤ 1000 ∧ ∀ st H2, H st = none → Ex H H2 → StateAt H2 st → Q (.ref st) H2
theorem ok_law_start (T : Tx0 K mg) : FnOk P w K mg base CX0 1 (a_law_start K) (fd_law_start K) p_law_start (spSt K) := by
  refine okN T.f_law_start sc_law_start (fun vs H Q E h => ?_) (fun cdv A outer s H vs Q E hr h => ?_)
  · obtain ⟨a, ns, rfl, _⟩ := h
    rfl
  · obtain ⟨a, ns, rfl, hs, hl, k⟩ := h
    refine ⟨_, (pss_cons (ps_set (i := 1) sc_law_start.nd rfl (by first | exact .inl rfl | exact .inr rfl) pe_int)
    (pss_cons (ps_for PassesOwn.never rfl (pi_list (pv 0)) (pg_name (i := 2) sc_law_start.nd rfl (by first | exact .inl rfl | exact .inr rfl)) (pss_one (ps_set (i := 1) sc_law_start.nd rfl (by first | exact .inl rfl | exact .inr rfl) (pe_op op_mod (pe_callTy call_int1 (by rfl) T.n_int (by decide +kernel) (pa_cons (pe_op op_add (pe_op op_mul (pv 1) pe_int) (pv 2)) pa_nil)) pe_int))))
    (pss_one (ps_ret (pe_disp (pps_cons pe_str (pe_callTy call_list_of (by rfl) T.n_list (by decide +kernel) (pa_cons (pv 0) pa_nil)) (pps_cons pe_str pe_int (pps_cons pe_str (pv 1) (pps_cons pe_str pe_int (pps_cons pe_str pe_int (pps_cons pe_str pe_int (pps_cons pe_str (pv 1) pps_nil))))))) (by rfl) (by rfl) (by intro z; cases z) (by decide)))))), ?_⟩
    refine q_asg ev_c fun H1 e1 => ?_
    refine q_forLn (xs := ns.map V.int) (ev_var rfl) (ex_l e1 hs) (fun i σ' H' => Ex H H' ∧ ∃ n v2, σ' = [some (.ref a), some (.int n), v2]) (fun H2 e2 => ⟨e1.trans e2, 11, none, rfl⟩) (fun i σ' H' _ q => ex_l q.1 hs) (fun i v σ' H' hi q => ?_) fun σ' H' q => ?_
    · obtain ⟨e2, n, v2, rfl⟩ := q
      obtain ⟨c, hc, rfl⟩ := map_at hi
      exact s_asg (v := .int ((n * 31 + c) % 1000003)) (ev_op (ev_int (ev_op (ev_op (ev_var rfl) ev_c (rv_mul (mulR (by decide) (by decide)))) (ev_var rfl) rv_add)) ev_c (rv_mod (by decide))) fun H3 e3 => ⟨e2.trans e3, _, _, rfl⟩
    · obtain ⟨e2, n, v2, rfl⟩ := q
      refine s_retD1 (k0 := "cells") (xs := ns.map V.int) (kvs := [(.inr "at", .int 0), (.inr "value", .int n), (.inr "left", .int 0), (.inr "mixed", .int 1), (.inr "count", .int 0), (.inr "seed", .int n)]) (el_list (ev_var rfl) (ex_l e2 hs)) (ep_cons ev_c ev_c (ep_cons ev_c (ev_var rfl) (ep_cons ev_c ev_c (ep_cons ev_c ev_c (ep_cons ev_c ev_c (ep_cons ev_c (ev_var rfl) ep_nil)))))) (show 6 ≤ 14 by decide) fun p l H3 hp hl e3 h3 h3l => ?_
      exact k p H3 (fresh_back e2 hp) (e2.trans e3) ⟨⟨l, 0, n, 0, 1, 0, n⟩, ns, h3, h3l, Int.le_refl _⟩
def spOu : Sp := fun vs H Q _ => ∃ (A : BkAd) (B : Bk), vs = [.ref A.b] ∧ BookAt H A B ∧ RetL ((outs B.draw).map V.str) H Q
theorem ok_law_outcomes (T : Tx0 K mg) : FnOk P w K mg base CX0 1 (a_law_outcomes K) (fd_law_outcomes K) p_law_outcomes spOu := by
  refine okN T.f_law_outcomes sc_law_outcomes (fun vs H Q E h => ?_) (fun cdv A outer s H vs Q E hr h => ?_)
  · obtain ⟨A, B, rfl, _⟩ := h
    rfl
  · obtain ⟨A, B, rfl, hb, k⟩ := h
    refine ⟨_, (pss_cons (ps_if (pt_cmpR op_isN (pe_ix ix_tup (pe_dget (hu_of hr) (pv 0) pe_str (fun _ _ => rfl)) pe_int (fun _ _ => rfl)) pe_non (by rfl)) (pss_one (ps_ret (pe_lst (pa_cons pe_str (pa_cons pe_str pa_nil))))) pss_nil)
    (pss_one (ps_ret (pe_lst (pa_cons pe_str (pa_cons pe_str (pa_cons pe_str pa_nil))))))), ?_⟩
    refine q_when (b := decide (B.draw = none)) (et_is (et_test (ev_op (ev_op (eb_scheme (ev_var rfl) hb.ob) ev_c (rv_atT (i := 1) (v := optV B.draw) (st_of hb.sc) rfl)) ev_c rv_isN)) optV_none) (fun hc H1 e1 => ?_) fun hc H1 e1 => ?_
    · have : outs B.draw = (["home", "away"] : List Str) := if_pos (of_decide_eq_true hc)
      rw [this] at k
      exact s_retL (el_lst (ea_cons ev_c (ea_cons ev_c ea_nil)) (show 2 ≤ 100000 by decide)) fun p H2 hp e2 h2 => k p H2 (fresh_back e1 hp) (e1.trans e2) h2
    · have : outs B.draw = (["home", "draw", "away"] : List Str) := if_neg (of_decide_eq_false hc)
      rw [this] at k
      exact s_retL (el_lst (ea_cons ev_c (ea_cons ev_c (ea_cons ev_c ea_nil))) (show 3 ≤ 100000 by decide)) fun p H2 hp e2 h2 => k p H2 (fresh_back e1 hp) (e1.trans e2) h2
/-- a game when the first j of those gone are gone -/
def twG (gn : List Str) (g : Game) : Game := (g.1, g.2.1, if g.1 ∈ gn ∨ g.2.1 ∈ gn then "off" else "left")
theorem twG_off (gn : List Str) (x : Str) (g : Game) : offOf x (twG gn g) = twG (gn ++ [x]) g := by
  unfold offOf twG
  by_cases h1 : x = g.1 ∨ x = g.2.1
  · have h2 : g.1 ∈ gn ++ [x] ∨ g.2.1 ∈ gn ++ [x] := by
      rcases h1 with h1 | h1
      · exact .inl (by rw [← h1]; simp)
      · exact .inr (by rw [← h1]; simp)
    rw [if_pos h2]
    exact if_pos h1
  · have h2 : (g.1 ∈ gn ++ [x] ∨ g.2.1 ∈ gn ++ [x]) = (g.1 ∈ gn ∨ g.2.1 ∈ gn) := by
      have a : ¬ x = g.1 := fun z => h1 (.inl z)
      have b : ¬ x = g.2.1 := fun z => h1 (.inr z)
      have a' : ¬ g.1 = x := fun z => a z.symm
      have b' : ¬ g.2.1 = x := fun z => b z.symm
      simp [a', b']
    simp only [h2]
    exact if_neg h1
variable (K) in
def spTw : Sp := fun vs H Q _ => ∃ (A : BkAd) (B : Bk) (names : List Str) (sa : Addr), vs = [.ref A.b, .ref sa] ∧ BookAt H A B ∧ B.Ok ∧ H sa = some (.lst (names.map V.str)) ∧ names.Perm B.sides ∧
  ∀ L H2, H L.l = none → H L.lr = none → Ex H H2 → LgAt K H2 L B names → Q (.ref L.l) H2
theorem ok_law_twin (T : Tx0 K mg) (TX : TXF P K) : FnOk P w K mg base CX0 6 (a_law_twin K) (fd_law_twin K) p_law_twin (spTw K) := by
  refine okN T.f_law_twin sc_law_twin (fun vs H Q E h => ?_) (fun cdv A outer s H vs Q E hr h => ?_)
  · obtain ⟨A, B, nm, sa, rfl, _⟩ := h
    rfl
  · obtain ⟨A, B, nm, sa, rfl, hb, ok, hsa, pm, k⟩ := h
    refine ⟨_, (pss_cons (ps_set (i := 2) sc_law_twin.nd rfl (by first | exact .inl rfl | exact .inr rfl) (pe_make T.mkL (ok_Linit T) (hr.mono (by decide)) (by rfl) T.g_League T.b_Linit .nil pass0 (pa_cons (pv 1) (pa_cons (pe_dget (hu_of hr) (pv 0) pe_str (fun _ _ => rfl)) (pa_cons (pe_callTy call_list_of (by rfl) T.n_list (by decide +kernel) (pa_cons (pe_dget (hu_of hr) (pv 0) pe_str (fun _ _ => rfl)) pa_nil)) pa_nil)))))
    (pss_cons (ps_for PassesOwn.never rfl (pi_list (pe_dget (hu_of hr) (pv 0) pe_str (fun _ _ => rfl))) (pg_name (i := 3) sc_law_twin.nd rfl (by first | exact .inl rfl | exact .inr rfl)) (pss_one (ps_expr (pe_meth (pv 2) T.cl T.m_Ladd_game (ok_Ladd_game T) (hr.mono (by decide)) T.b_Ladd_game .nil pass0 (pa_cons (pe_ix ix_list (pv 3) pe_int (fun _ _ => rfl)) (pa_cons (pe_ix ix_list (pv 3) pe_int (fun _ _ => rfl)) pa_nil))))))
    (pss_cons (ps_for PassesOwn.never rfl (pi_list (pe_dget (hu_of hr) (pv 0) pe_str (fun _ _ => rfl))) (pg_name (i := 4) sc_law_twin.nd rfl (by first | exact .inl rfl | exact .inr rfl)) (pss_one (ps_expr (pe_meth (pv 2) T.cl T.m_Lwithdraw (ok_Lwithdraw T) (hr.mono (by decide)) T.b_Lwithdraw .nil pass0 (pa_cons (pv 4) pa_nil)))))
    (pss_cons (ps_for PassesOwn.never rfl (pi_range1 (by rfl) T.n_range (pa_cons (pe_callB call_len (by rfl) T.n_len (by decide +kernel) (pa_cons (pe_dget (hu_of hr) (pv 0) pe_str (fun _ _ => rfl)) pa_nil)) pa_nil)) (pg_name (i := 5) sc_law_twin.nd rfl (by first | exact .inl rfl | exact .inr rfl)) (pss_cons (ps_set (i := 6) sc_law_twin.nd rfl (by first | exact .inl rfl | exact .inr rfl) (pe_ix ix_list (pe_ix ix_list (pe_dget (hu_of hr) (pv 0) pe_str (fun _ _ => rfl)) (pv 5) (fun _ _ => rfl)) pe_int (fun _ _ => rfl)))
    (pss_one (ps_if (pt_cmpR op_in_seq (pv 6) (pe_tup (pa_cons pe_str (pa_cons pe_str (pa_cons pe_str pa_nil)))) (by rfl)) (pss_one (ps_expr (pe_meth (pv 2) T.cl T.m_Lenter (ok_Lenter T TX) (hr.mono (by decide)) T.b_Lenter .nil L2N.passE0 (pa_cons (pv 5) (pa_cons (pv 6) pa_nil))))) (pss_one (ps_if (PW.pt (pw_and (pt_cmpR op_eq (pv 6) pe_str (by rfl)) (pw_and1 (pt_val (pe_call (ok_law_is_free T) (hr.mono (by decide)) (by rfl) T.m_law_is_free T.k_law_is_free T.b_law_is_free .nil pass0 (pa_cons (pv 0) (pa_cons (pv 5) pa_nil))))))) (pss_one (ps_expr (pe_meth (pv 2) T.cl T.m_Lcall_off (ok_Lcall_off T TX) (hr.mono (by decide)) T.b_Lcall_off .nil L2N.passE0 (pa_cons (pv 5) pa_nil)))) pss_nil))))))
    (pss_one (ps_ret (pv 2))))))), ?_⟩
    refine q_asgM3L (ev_var rfl) (eb_scheme (ev_var rfl) hb.ob) (el_listT (eb_rules (ev_var rfl) hb.ob) (st_of hb.rl)) fun ra H1 hra e1 h1 x dx nx ndx ne => ?_
    have ex1 : Ex H1 (upd (upd H1 dx (.own x)) x (.ins (LC K) dx [])) := (Ex.new ndx).trans (Ex.new (by rw [upd_ne ne.symm]; exact nx))
    have e2 := e1.trans ex1
    refine ⟨x, dx, sa, A.scm, ra, { B with games := [], gone := [] }, nm, rfl, upd_same, .inl (e2 _ _ hsa), e2 _ _ hb.sc, .inl (ex1 _ _ h1), pm, ⟨?_, ?_, ?_, fun n hn => ok.sides.2.2.2 n (pm.mem_iff.mp hn)⟩, ok.scheme, ok.rules, rfl, rfl, fun L0 H2 hx hts hlr kp lg => ⟨rfl, ?_⟩⟩
    · rw [pm.length_eq]
      exact ok.sides.1
    · rw [pm.length_eq]
      exact ok.sides.2.1
    · exact pm.nodup_iff.mpr ok.sides.2.2.1
    subst hx
    replace lg : LgAt K H2 L0 { B with games := [], gone := [] } nm := lg
    have xn : H L0.l = none := fresh_back e1 nx
    have lrn : H L0.lr = none := fresh_back e2 hlr
    have eH : Ex H H2 := fun b o hb => kp b o (fun z => by rw [z, xn] at hb; cases hb) (ex1 _ _ (e1 _ _ hb))
    have chg : ∀ {L L' : LgAd} {Ha Hb : Hp}, H L.l = none → H L.lr = none → Ex H Ha → Kp (LgW L) Ha Hb → Ex H Hb := fun {L L' Ha Hb} a b e kk c o hc => kk c o (fun z => by
      rcases z with z | z
      · rw [z, a] at hc
        cases hc
      · rw [z, b] at hc
        cases hc) (e _ _ hc)
    show tSeq _ _ _ [some (.ref A.b), some (.ref sa), some (.ref L0.l), none, none, none, none] H2
    refine q_forLn (xs := A.gs.map V.ref) (eb_games (ev_var rfl) (eH _ _ hb.ob)) (sq_of (eH _ _ hb.gm)) (fun i σ' H' => ∃ L v3, σ' = [some (.ref A.b), some (.ref sa), some (.ref L.l), v3, none, none, none] ∧ H L.l = none ∧ H L.lr = none ∧ Ex H H' ∧ LgAt K H' L { B with games := (B.games.take i).map (twG []), gone := [] } nm) (fun H3 e3 => ⟨L0, none, rfl, xn, lrn, eH.trans e3, by simpa using lg.mono e3⟩) (fun i σ' H' _ q => ?_) (fun i v σ' H' hi q => ?_) fun σ' H' q => ?_
    · obtain ⟨L, v3, rfl, a1, a2, a3, a4⟩ := q
      exact sq_of (a3 _ _ hb.gm)
    · obtain ⟨L, v3, rfl, a1, a2, a3, a4⟩ := q
      obtain ⟨t, ht, rfl⟩ := map_at hi
      obtain ⟨g, hg, hrow⟩ := hb.row ht
      have hgm := List.mem_of_getElem? hg
      obtain ⟨i1, i2, i3⟩ := ok.ins g hgm
      have hi2 := (List.getElem?_eq_some_iff.mp hg).1
      have many := ok.many
      show tDrop (tMeth _ _ _ _ _ (tVar 2) _) _ [some (.ref A.b), some (.ref sa), some (.ref L.l), some (.ref t), none, none, none] H'
      refine s_dropM (a := L.l) (ev_var rfl) a4.ob (by rfl) (ea_cons (ev_op (ev_var rfl) ev_c (rv_atL (i := 0) (sq_of (a3 _ _ hrow)) rfl)) (ea_cons (ev_op (ev_var rfl) ev_c (rv_atL (i := 1) (sq_of (a3 _ _ hrow)) rfl)) ea_nil)) fun H3 e3 => ?_
      refine ⟨L, _, nm, g.1, g.2.1, rfl, a4.mono e3, i1, by simp, i2, by simp, i3, ?_, fun L' H4 b1 b2 b3 b4 => ⟨L', _, by rw [b1], by rw [b1]; exact a1, by rw [b2]; exact a2, chg (L' := L') a1 a2 (a3.trans e3) b3, ?_⟩⟩
      · show ((B.games.take i).map (twG [])).length < 80
        rw [List.length_map, List.length_take]
        omega
      · rw [List.take_add_one, hg, List.map_append]
        exact b4
    · obtain ⟨L, v3, rfl, a1, a2, a3, a4⟩ := q
      rw [List.length_map, hb.ln, List.take_length] at a4
      refine q_forLn (xs := B.gone.map V.str) (eb_gone (ev_var rfl) (a3 _ _ hb.ob)) (sq_of (a3 _ _ hb.gn)) (fun i σ' H' => ∃ L v3 v4, σ' = [some (.ref A.b), some (.ref sa), some (.ref L.l), v3, v4, none, none] ∧ H L.l = none ∧ H L.lr = none ∧ Ex H H' ∧ LgAt K H' L { B with games := B.games.map (twG (B.gone.take i)), gone := B.gone.take i } nm) (fun H3 e3 => ⟨L, v3, none, rfl, a1, a2, a3.trans e3, by simpa using a4.mono e3⟩) (fun i σ' H' _ q => ?_) (fun i v σ' H' hi q => ?_) fun σ' H' q => ?_
      · obtain ⟨L, v3, v4, rfl, a1, a2, a3, a4⟩ := q
        exact sq_of (a3 _ _ hb.gn)
      · obtain ⟨L, v3, v4, rfl, a1, a2, a3, a4⟩ := q
        obtain ⟨y, hy, rfl⟩ := map_at hi
        have hlt := (List.getElem?_eq_some_iff.mp hy).1
        have hgl : B.gone.length ≤ 8 := Nat.le_trans (nodup_le ok.gnd ok.gone) ok.sides.2.1
        have hnot : y ∉ B.gone.take i := fun hm => by
          obtain ⟨j, hj⟩ := List.mem_iff_getElem?.mp hm
          rw [List.getElem?_take] at hj
          split at hj
          · rename_i hji
            have := (List.getElem?_inj (by omega) ok.gnd).mp (hj.trans hy.symm)
            omega
          · cases hj
        show tDrop (tMeth _ _ _ _ _ (tVar 2) _) _ [some (.ref A.b), some (.ref sa), some (.ref L.l), v3, some (.str y), none, none] H'
        refine s_dropM (a := L.l) (ev_var rfl) a4.ob (by rfl) (ea_cons (ev_var rfl) ea_nil) fun H3 e3 => ?_
        refine ⟨L, _, nm, y, rfl, a4.mono e3, ok.gone y (List.mem_of_getElem? hy), hnot, ?_, fun L' H4 b1 b2 b3 b4 => ⟨L', _, _, by rw [b1], by rw [b1]; exact a1, by rw [b2]; exact a2, chg (L' := L') a1 a2 (a3.trans e3) b3, ?_⟩⟩
        · show (B.gone.take i).length ≤ 8
          rw [List.length_take]
          omega
        · have e5 : B.gone.take (i + 1) = B.gone.take i ++ [y] := by rw [List.take_add_one, hy]; rfl
          rw [e5]
          have : B.games.map (twG (B.gone.take i ++ [y])) = (B.games.map (twG (B.gone.take i))).map (offOf y) := by
            rw [List.map_map]
            exact List.map_congr_left fun g _ => (twG_off _ _ g).symm
          rw [this]
          exact b4
      · obtain ⟨L, v3, v4, rfl, a1, a2, a3, a4⟩ := q
        rw [List.length_map, List.take_length] at a4
        have hll := lenL (K := K) (sq_of (a3 _ _ hb.gm))
        rw [List.length_map, hb.ln] at hll
        have many := ok.many
        refine q_forR1 (n := (B.games.length : Int)) (ea_cons (ev_lenV (eb_games (ev_var rfl) (a3 _ _ hb.ob)) hll) ea_nil) (by omega) (fun i σ' H' => ∃ L v3 v4 v5 v6, σ' = [some (.ref A.b), some (.ref sa), some (.ref L.l), v3, v4, v5, v6] ∧ H L.l = none ∧ H L.lr = none ∧ Ex H H' ∧ LgAt K H' L { B with games := B.games.take i ++ (B.games.drop i).map (twG B.gone) } nm) (fun H3 e3 => ⟨L, v3, v4, none, none, rfl, a1, a2, a3.trans e3, by simpa using a4.mono e3⟩) (fun i σ' H' hi q => ?_) fun σ' H' q => ?_
        · obtain ⟨L, v3, v4, v5, v6, rfl, a1, a2, a3, a4⟩ := q
          have hi' : i < B.games.length := by omega
          have hg : B.games[i]? = some B.games[i] := List.getElem?_eq_getElem hi'
          generalize B.games[i] = g at hg
          have hgm := List.mem_of_getElem? hg
          obtain ⟨t, ht, hrow⟩ := hb.rowAt hg
          have htl : (B.games.take i).length = i := by rw [List.length_take]; omega
          have hcur : (B.games.take i ++ (B.games.drop i).map (twG B.gone))[i]? = some (twG B.gone g) := by
            rw [List.getElem?_append_right (by omega), htl, Nat.sub_self, List.getElem?_map, List.getElem?_drop]
            simp [hg]
          have hset : (B.games.take i ++ (B.games.drop i).map (twG B.gone)).set i g = B.games.take (i + 1) ++ (B.games.drop (i + 1)).map (twG B.gone) := by
            have hd : B.games.drop i = g :: B.games.drop (i + 1) := by
              rw [List.drop_eq_getElem_cons hi']
              congr 1
              rw [List.getElem?_eq_getElem hi'] at hg
              exact Option.some.inj hg
            rw [List.set_append_right _ _ (by omega), htl, Nat.sub_self, hd, List.take_add_one, hg, List.append_assoc]
            rfl
          have hsame : twG B.gone g = g → B.games.take i ++ (B.games.drop i).map (twG B.gone) = B.games.take (i + 1) ++ (B.games.drop (i + 1)).map (twG B.gone) := fun hs => by
            rw [← hset]
            refine List.ext_getElem? fun j => ?_
            by_cases e : i = j
            · subst e
              rw [List.getElem?_set_self (List.getElem?_eq_some_iff.mp hcur).1, hcur, hs]
            · rw [List.getElem?_set_ne e]
          show tSeq _ _ _ [some (.ref A.b), some (.ref sa), some (.ref L.l), v3, v4, some (.int (i : Int)), v6] H'
          refine q_asg (v := .str g.2.2) (ev_op (ev_op (eb_games (ev_var rfl) (a3 _ _ hb.ob)) (ev_var rfl) (rv_atL (sq_of (a3 _ _ hb.gm)) (by rw [List.getElem?_map, ht]; rfl))) ev_c (rv_atL (i := 2) (sq_of (a3 _ _ hrow)) rfl)) fun H3 e3 => ?_
          have e03 := a3.trans e3
          refine s_if (b := endedS g.2.2) (et_is (et_test (ev_opU (ev_var rfl) eu_home fun p H4 hp e4 => rv_strT (st_of hp))) out_mem) (fun hc H4 e4 => ?_) fun hc H4 e4 => ?_
          · have hfree : g.1 ∉ B.gone ∧ g.2.1 ∉ B.gone := by
              constructor
              · intro hm
                rw [ok.off g hgm (.inl hm)] at hc
                cases hc
              · intro hm
                rw [ok.off g hgm (.inr hm)] at hc
                cases hc
            have e04 := e03.trans e4
            refine s_dropM (a := L.l) (ev_var rfl) ((e3.trans e4) _ _ a4.ob) (by rfl) (ea_cons (ev_var rfl) (ea_cons (ev_var rfl) ea_nil)) fun H5 e5 => ?_
            refine ⟨L, _, nm, .int (i : Int), g.2.2, rfl, a4.mono ((e3.trans e4).trans e5), trivial, .inl ⟨i, twG B.gone g, rfl, ⟨hcur, hfree.1, hfree.2⟩, .inl ⟨hc, fun hd hn => ok.dr hn g hgm hd, fun L' H6 b1 b2 b3 b4 => ⟨L', v3, v4, some (.int (i : Int)), some (.str g.2.2), by rw [b1]; rfl, by rw [b1]; exact a1, by rw [b2]; exact a2, chg (L' := L') a1 a2 (e04.trans e5) b3, ?_⟩⟩⟩⟩
            rw [← hset]
            exact b4
          · have e04 := e03.trans e4
            have b4' := hb.mono e04
            refine s_when (b := decide (g.2.2 = "off") && (!decide (g.1 ∈ B.gone) && !decide (g.2.1 ∈ B.gone))) (et_and (et_test (ev_op (ev_var rfl) ev_c rv_eqS)) fun _ => et_B (ev_call (ea_cons (ev_var rfl) (ea_cons (ev_var rfl) ea_nil)) (spV_ev (R := r_law_is_free) fun H5 e5 => ⟨A, B, i, g, rfl, b4'.mono e5, hg, rfl⟩))) (fun hf H5 e5 => ?_) fun hf H5 e5 => ?_
            · have hf' : g.2.2 = "off" ∧ g.1 ∉ B.gone ∧ g.2.1 ∉ B.gone := by simpa using hf
              refine s_dropM (a := L.l) (ev_var rfl) (((e3.trans e4).trans e5) _ _ a4.ob) (by rfl) (ea_cons (ev_var rfl) ea_nil) fun H6 e6 => ?_
              refine ⟨L, _, nm, .int (i : Int), rfl, a4.mono (((e3.trans e4).trans e5).trans e6), trivial, .inl ⟨i, twG B.gone g, rfl, ⟨hcur, hf'.2.1, hf'.2.2⟩, fun L' H7 b1 b2 b3 b4 => ⟨L', v3, v4, some (.int (i : Int)), some (.str g.2.2), by rw [b1]; rfl, by rw [b1]; exact a1, by rw [b2]; exact a2, chg (L' := L') a1 a2 ((e04.trans e5).trans e6) b3, ?_⟩⟩⟩
              rw [← hset]
              have : g = ((twG B.gone g).1, (twG B.gone g).2.1, ("off" : Str)) := by
                rw [← hf'.1]
                rfl
              rw [this]
              exact b4
            · refine ⟨L, _, _, _, _, rfl, a1, a2, e04.trans e5, ?_⟩
              rw [← hsame ?_]
              · exact a4.mono ((e3.trans e4).trans e5)
              · have hst : g.2.2 = (if g.1 ∈ B.gone ∨ g.2.1 ∈ B.gone then ("off" : Str) else ("left" : Str)) := by
                  by_cases hgo : g.1 ∈ B.gone ∨ g.2.1 ∈ B.gone
                  · rw [if_pos hgo]
                    exact ok.off g hgm hgo
                  · rw [if_neg hgo]
                    rcases ok.st g hgm with h | h | h
                    · exact h
                    · rw [h] at hf
                      have n1 : g.1 ∉ B.gone := fun z => hgo (.inl z)
                      have n2 : g.2.1 ∉ B.gone := fun z => hgo (.inr z)
                      simp [n1, n2] at hf
                    · rw [h] at hc
                      cases hc
                unfold twG
                rw [← hst]
        · obtain ⟨L, v3, v4, v5, v6, rfl, a1, a2, a3, a4⟩ := q
          have hnn : ((B.games.length : Int)).toNat = B.games.length := by omega
          rw [hnn] at a4
          have : B.games.take B.games.length ++ (B.games.drop B.games.length).map (twG B.gone) = B.games := by simp
          rw [this] at a4
          exact s_ret (ev_var rfl) fun H4 e4 => k L H4 a1 a2 (a3.trans e4) (a4.mono e4)
end
end Lw

/-! V7 -/
/-! The law's question: the order, three times. -/
namespace Lw
open PySem PySem.Spec PyProof.Rows L2 Evl Mt
/-! ### calls by keywords -/
section
variable {K : PySem.W.Frag} {mg : Str → Option Value}
theorem kb_order (T : Tx0 K mg) : KBn K (fd_order K) p_order 0 ["league"] (fun us ws => us ++ ws) (fun vs zs => vs ++ zs) :=
  kbn_of T.f_order 0 (fun us ws => us ++ ws) (fun r1 r2 => r1.append r2) fun kV doc pm an cdv ct us ws l1 l2 => match us, ws, l1, l2 with | [], [_], _, _ => rfl
theorem kb_Lreopen0 (T : Tx0 K mg) : KBn K (fd_Lreopen K) p_Lreopen 1 ["number"] (fun us ws => us ++ ws) (fun vs zs => vs ++ zs) :=
  kbn_of T.f_Lreopen 1 (fun us ws => us ++ ws) (fun r1 r2 => r1.append r2) fun kV doc pm an cdv ct us ws l1 l2 => match us, ws, l1, l2 with | [_], [_], _, _ => rfl
theorem kb_Lenter1 (T : Tx0 K mg) : KBn K (fd_Lenter K) p_Lenter 2 ["outcome"] (fun us ws => us ++ ws) (fun vs zs => vs ++ zs) :=
  kbn_of T.f_Lenter 2 (fun us ws => us ++ ws) (fun r1 r2 => r1.append r2) fun kV doc pm an cdv ct us ws l1 l2 => match us, ws, l1, l2 with | [_, _], [_], _, _ => rfl
theorem kb_Ladd_game0 (T : Tx0 K mg) : KBn K (fd_Ladd_game K) p_Ladd_game 1 ["home", "away"] (fun us ws => us ++ ws) (fun vs zs => vs ++ zs) :=
  kbn_of T.f_Ladd_game 1 (fun us ws => us ++ ws) (fun r1 r2 => r1.append r2) fun kV doc pm an cdv ct us ws l1 l2 => match us, ws, l1, l2 with | [_], [_, _], _, _ => rfl
end
/-! ### what the draws leave -/
section
variable {K : PySem.W.Frag} {H H' : Hp} {st : Addr} {L : LgAd} {A : BkAd} {B : Bk} {nm : List Str}
theorem st_ne {a : Addr} {o : HO} (hs : StateAt H st) (ha : H a = some o) (hn : ∀ s, o ≠ .dK (kvs7 s)) : a ≠ st := fun e => by
  obtain ⟨s, _, h, _⟩ := hs
  rw [e, h] at ha
  cases ha
  exact hn s rfl
theorem BookAt.kst (h : BookAt H A B) (hs : StateAt H st) (kk : Ks st H H') : BookAt H' A B :=
  have k := kk.1
  ⟨k _ _ (st_ne hs h.ob fun s z => by cases z) h.ob, k _ _ (st_ne hs h.sd fun s z => by cases z) h.sd, k _ _ (st_ne hs h.sc fun s z => by cases z) h.sc, k _ _ (st_ne hs h.rl fun s z => by cases z) h.rl, k _ _ (st_ne hs h.gm fun s z => by cases z) h.gm,
    k _ _ (st_ne hs h.gn fun s z => by cases z) h.gn, h.ln, fun i t g a b => k _ _ (st_ne hs (h.ro i t g a b) fun s z => by cases z) (h.ro i t g a b), h.nd⟩
theorem LgAt.kst (h : LgAt K H L B nm) (hs : StateAt H st) (kk : Ks st H H') : LgAt K H' L B nm :=
  have k := kk.1
  ⟨k _ _ (st_ne hs h.ob fun s z => by cases z) h.ob, k _ _ (st_ne hs h.nm fun s z => by cases z) h.nm, k _ _ (st_ne hs h.wt fun s z => by cases z) h.wt, k _ _ (st_ne hs h.rk fun s z => by cases z) h.rk, k _ _ (st_ne hs h.rw fun s z => by cases z) h.rw,
    k _ _ (st_ne hs h.gn fun s z => by cases z) h.gn, h.ln, fun i t g a b => k _ _ (st_ne hs (h.ro i t g a b) fun s z => by cases z) (h.ro i t g a b), h.mm⟩
theorem StateAt.mono (h : StateAt H st) (e : Ex H H') : StateAt H' st := by
  obtain ⟨s, c, a1, a2, a3⟩ := h
  exact ⟨s, c, e _ _ a1, e _ _ a2, a3⟩
end
/-! ### composed calls -/
section
variable {P : Program} {w : World} {K : PySem.W.Frag} {σ : L2.St} {H : Hp} {ta tb te : TE} {L : LgAd} {A : BkAd} {B : Bk} {nm : List Str} {sa st : Addr} {D : Ends} {tz : TS}
theorem eu_order (h : Ev te σ H (.ref L.l)) (hl : LgAt K H L B nm) (ok : B.Ok) : EvU (tCall (spOr K) [] E0 (tCons te tNil)) σ H ((orderS B nm).map V.str) := fun H1 e Q q =>
  h H1 e _ fun H2 e2 => ⟨L, B, nm, rfl, hl.mono (e.trans e2), ok, fun p H3 hp e3 h3 => q p H3 (fresh_back e2 hp) (e2.trans e3) h3⟩
theorem order_len (ok : B.Ok) (pm : nm.Perm B.sides) : (orderS B nm).length ≤ 8 ∧ (lots (num B) B.rules nm 0).length ≤ 8 := by
  have n0 : nm ≠ [] := fun e => by
    have := ok.sides.1
    rw [← pm.length_eq, e] at this
    simp at this
  have n8 : nm.length ≤ 8 := by rw [pm.length_eq]; exact ok.sides.2.1
  have h1 := lots_flat_len (num B) B.rules (at_ := 0) n0
  have h2 := lots_len (num B) B.rules (at_ := 0) n0
  exact ⟨by unfold orderS; omega, by omega⟩
theorem eu_flatp (ha : Ev ta σ H (.ref A.b)) (hb : Ev tb σ H (.ref sa)) (h : BookAt H A B) (ok : B.Ok) (hsa : H sa = some (.lst (nm.map V.str))) (pm : nm.Perm B.sides) : EvU (tCall spLf [] E0 (tCons (tCall spLp [] E0 (tCons ta (tCons tb tNil))) tNil)) σ H ((orderS B nm).map V.str) := fun H1 e Q q =>
  ha H1 e _ fun H2 e2 => hb H2 (e.trans e2) _ fun H3 e3 => ⟨A, B, nm, sa, rfl, h.mono ((e.trans e2).trans e3), ok, ((e.trans e2).trans e3) _ _ hsa, pm, fun p H4 as hp e4 h4 hf => by
    obtain ⟨l1, l2⟩ := order_len ok pm
    exact ⟨p, as, _, rfl, h4, hf, Nat.le_trans l1 (by decide), Nat.le_trans l2 (by decide), fun t H5 ht e5 h5 => q t H5 (fresh_back ((e2.trans e3).trans e4) ht) (((e2.trans e3).trans e4).trans e5) h5⟩⟩
theorem ev_sameU {ss : List Str} (ha : EvU ta σ H (ss.map V.str)) (hb : ∀ H1, Ex H H1 → EvU tb σ H1 (ss.map V.str)) (hl : ss.length ≤ 1000) : Ev (tCall (spV r_law_same) [] E0 (tCons ta (tCons tb tNil))) σ H (.bl true) := fun H1 e Q q =>
  ha H1 e _ fun p H2 hp e2 h2 => hb H2 (e.trans e2) H2 (Ex.refl _) _ fun r H3 hr e3 h3 => ⟨.bl true, ⟨.inr ⟨p, r, ss, rfl, e3 _ _ h2, h3, hl⟩, rfl⟩, fun H4 e4 => q H4 ((e2.trans e3).trans e4)⟩
theorem ev_sameV {ss : List Str} {d : Addr} (ha : EvU ta σ H (ss.map V.str)) (hb : Ev tb σ H (.ref d)) (hd : H d = some (.tup (ss.map V.str))) (hl : ss.length ≤ 1000) : Ev (tCall (spV r_law_same) [] E0 (tCons ta (tCons tb tNil))) σ H (.bl true) := fun H1 e Q q =>
  ha H1 e _ fun p H2 hp e2 h2 => hb H2 (e.trans e2) _ fun H3 e3 => ⟨.bl true, ⟨.inr ⟨p, d, ss, rfl, e3 _ _ h2, ((e.trans e2).trans e3) _ _ hd, hl⟩, rfl⟩, fun H4 e4 => q H4 ((e2.trans e3).trans e4)⟩
theorem eu_orderTw (ha : Ev ta σ H (.ref A.b)) (hb : Ev tb σ H (.ref sa)) (h : BookAt H A B) (ok : B.Ok) (hsa : H sa = some (.lst (nm.map V.str))) (pm : nm.Perm B.sides) : EvU (tCall (spOr K) [] E0 (tCons (tCall (spTw K) [] E0 (tCons ta (tCons tb tNil))) tNil)) σ H ((orderS B nm).map V.str) := fun H1 e Q q =>
  ha H1 e _ fun H2 e2 => hb H2 (e.trans e2) _ fun H3 e3 => ⟨A, B, nm, sa, rfl, h.mono ((e.trans e2).trans e3), ok, ((e.trans e2).trans e3) _ _ hsa, pm, fun L H4 _ _ e4 hl =>
    ⟨L, B, nm, rfl, hl, ok, fun t H5 ht e5 h5 => q t H5 (fresh_back ((e2.trans e3).trans e4) ht) (((e2.trans e3).trans e4).trans e5) h5⟩⟩
theorem eu_orderCp (h : Ev te σ H (.ref L.l)) (hl : LgAt K H L B nm) (ok : B.Ok) : EvU (tCallN 0 1 (spOr K) (fun vs zs => vs ++ zs) E0 tNil (tCons (tMeth (LC K) "copy" (spCopy K) [] E0 te tNil) tNil)) σ H ((orderS B nm).map V.str) := fun H1 e Q q =>
  h H1 e _ fun H2 e2 => ⟨L.l, L.dx, lgF L, rfl, (e.trans e2) _ _ hl.ob, by rfl, L, B, nm, rfl, hl.mono (e.trans e2), ok, fun L' H3 _ _ e3 hl3 => ⟨rfl, rfl, L', B, nm, rfl, hl3, ok, fun t H5 ht e5 h5 => q t H5 (fresh_back (e2.trans e3) ht) ((e2.trans e3).trans e5) h5⟩⟩
theorem q_catLL {xs ys : List V} {i : Nat} (h : EvL ta σ H xs) (h2 : ∀ H1, Ex H H1 → EvL tb σ H1 ys) (hl : xs.length + ys.length ≤ 100000) (k : ∀ p H1, H p = none → Ex H H1 → H1 p = some (.lst (xs ++ ys)) → tz D (σ.set i (some (.ref p))) H1) : tSeq (tAsg (tOp rCat ta tb) (gName i)) tz D σ H :=
  h H (Ex.refl H) _ fun a H1 ha e1 h1 => h2 H1 e1 H1 (Ex.refl _) _ fun b H2 hb e2 hb2 => ⟨a, b, xs, ys, rfl, rfl, e2 _ _ h1, hb2, sz_of hl, fun p hp => k p _ (fresh_back (e1.trans e2) hp) ((e1.trans e2).trans (Ex.new hp)) upd_same⟩
/-- a draw, then the rest -/
theorem q_draw {t : TA} {i : Nat} {many : Int} (h : EvA t σ H [.ref st, .int many]) (hs : StateAt H st) (h1 : 1 ≤ many) (h2 : many ≤ 1000000) (k : ∀ r H2, 0 ≤ r → r < many → StateAt H2 st → Ks st H H2 → tz D (σ.set i (some (.int r))) H2) : tSeq (tAsg (tCall spDr [] E0 t) (gName i)) tz D σ H :=
  h H (Ex.refl H) _ fun H1 e1 => ⟨st, many, rfl, hs.mono e1, h1, h2, fun r H2 a b c d => k r H2 a b c ((Ks.of e1).trans d)⟩
end
theorem cut_drop {xs : List V} {k : Nat} : cutV xs (some (k : Int)) none = xs.drop k := by
  unfold cutV
  rw [HT.sIx_nat, HT.sIx_none]
  by_cases h : k ≤ xs.length
  · rw [Nat.min_eq_left h, List.take_of_length_le (by rw [List.length_drop]; exact Nat.le_refl _)]
  · rw [Nat.min_eq_right (by omega), List.drop_of_length_le (Nat.le_refl _), List.drop_of_length_le (by omega)]
    simp
theorem cut_take {xs : List V} {k : Nat} : cutV xs none (some (k : Int)) = xs.take k := by
  unfold cutV
  rw [HT.sIx_nat, HT.sIx_none, List.drop_zero, Nat.sub_zero]
  by_cases h : k ≤ xs.length
  · rw [Nat.min_eq_left h]
  · rw [Nat.min_eq_right (by omega), List.take_of_length_le (Nat.le_refl _), List.take_of_length_le (by omega)]
section
variable {P : Program} {w : World} {K : PySem.W.Frag} {mg : Str → Option Value} {base : Heap}
variable (K) in
def spRt : Sp := fun vs H Q _ => ∃ (st : Addr) (L : LgAd) (A : BkAd) (B : Bk), vs = [.ref st, .ref L.l, .ref A.b] ∧ StateAt H st ∧ LgAt K H L B B.sides ∧ BookAt H A B ∧ B.Ok ∧ ∀ H2, StateAt H2 st → Ks st H H2 → Q (.bl true) H2
theorem ok_law_right (T : Tx0 K mg) (TX : TXF P K) : FnOk P w K mg base CX0 60 (a_law_right K) (fd_law_right K) p_law_right (spRt K) := by
  refine okN T.f_law_right sc_law_right (fun vs H Q E h => ?_) (fun cdv A outer s H vs Q E hr h => ?_)
  · obtain ⟨st, L, A, B, rfl, _⟩ := h
    rfl
  · obtain ⟨st, L, A, B, rfl, hs, hl, hb, ok, k⟩ := h
    have oktw := ok_law_twin (P := P) (w := w) (base := base) T TX
    refine ⟨_, (pss_cons (ps_set (i := 3) sc_law_right.nd rfl (by first | exact .inl rfl | exact .inr rfl) (pe_dget (hu_of hr) (pv 2) pe_str (fun _ _ => rfl)))
    (pss_cons (ps_if (pt_not (pt_val (pe_call (ok_law_same T) (hr.mono (by decide)) (by rfl) T.m_law_same T.k_law_same T.b_law_same .nil pass0 (pa_cons (pe_call (ok_order T) (hr.mono (by decide)) (by rfl) T.m_order T.k_order T.b_order .nil pass0 (pa_cons (pv 1) pa_nil)) (pa_cons (pe_call (ok_law_flat T) (hr.mono (by decide)) (by rfl) T.m_law_flat T.k_law_flat T.b_law_flat .nil pass0 (pa_cons (pe_call (ok_law_parted T) (hr.mono (by decide)) (by rfl) T.m_law_parted T.k_law_parted T.b_law_parted .nil pass0 (pa_cons (pv 2) (pa_cons (pv 3) pa_nil))) pa_nil)) pa_nil))))) (pss_one (ps_ret pe_bl)) pss_nil)
    (pss_cons (ps_set (i := 4) sc_law_right.nd rfl (by first | exact .inl rfl | exact .inr rfl) (pe_call (ok_law_draw T) (hr.mono (by decide)) (by rfl) T.m_law_draw T.k_law_draw T.b_law_draw .nil pass0 (pa_cons (pv 0) (pa_cons (pe_callB call_len (by rfl) T.n_len (by decide +kernel) (pa_cons (pv 3) pa_nil)) pa_nil))))
    (pss_cons (ps_setLc (i := 5) (own := [("_law_k", 7)]) (g := gName 7) (tt := tYes) (te := (tOp (rIxL K) (tVar 3) (tOp (rI0 fun i j => .int (i - j)) (tOp (rI0 fun i j => .int (i - j)) (tCB (fun xs H Q => ∃ x n, xs = [x] ∧ LenV K x H n ∧ Q (.int n) H) (tCons (tVar 3) tNil)) (tC (.int 1))) (tVar 7)))) rfl sc_law_right.nd rfl rfl (sw_true rfl rfl rfl rfl) (pi_range1 (by rfl) T.n_range (pa_cons (pe_callB call_len (by rfl) T.n_len (by decide +kernel) (pa_cons (pv 3) pa_nil)) pa_nil)) (blkOk_by (N := n_law_right) (sc := defScope s_law_right) (by decide +kernel)) (fun _ _ _ _ _ => pg_name (i := 7) sc_law_right.nd rfl (by first | exact .inl rfl | exact .inr rfl)) (fun _ _ _ _ _ => pts_nil) (fun _ _ _ _ _ => (pe_ix ix_list (pv 3) (pe_op op_sub (pe_op op_sub (pe_callB call_len (by rfl) T.n_len (by decide +kernel) (pa_cons (pv 3) pa_nil)) pe_int) (pv 7)) (fun _ _ => rfl))))
    (pss_cons (ps_set (i := 5) sc_law_right.nd rfl (by first | exact .inl rfl | exact .inr rfl) (pe_op op_cat (pe_slice sl_list (pv 5) (po_some (pv 4)) po_none) (pe_slice sl_list (pv 5) po_none (po_some (pv 4)))))
    (pss_cons (ps_set (i := 6) sc_law_right.nd rfl (by first | exact .inl rfl | exact .inr rfl) (pe_call (ok_law_flat T) (hr.mono (by decide)) (by rfl) T.m_law_flat T.k_law_flat T.b_law_flat .nil pass0 (pa_cons (pe_call (ok_law_parted T) (hr.mono (by decide)) (by rfl) T.m_law_parted T.k_law_parted T.b_law_parted .nil pass0 (pa_cons (pv 2) (pa_cons (pv 5) pa_nil))) pa_nil)))
    (pss_cons (ps_if (pt_not (pt_val (pe_call (ok_law_same T) (hr.mono (by decide)) (by rfl) T.m_law_same T.k_law_same T.b_law_same .nil pass0 (pa_cons (pe_call (ok_order T) (hr.mono (by decide)) (by rfl) T.m_order T.k_order T.b_order .nil pass0 (pa_cons (pe_call oktw (hr.mono (by decide)) (by rfl) T.m_law_twin T.k_law_twin T.b_law_twin .nil pass0 (pa_cons (pv 2) (pa_cons (pv 5) pa_nil))) pa_nil)) (pa_cons (pv 6) pa_nil))))) (pss_one (ps_ret pe_bl)) pss_nil)
    (pss_one (ps_ret (pe_call (ok_law_same T) (hr.mono (by decide)) (by rfl) T.m_law_same T.k_law_same T.b_law_same .nil pass0 (pa_cons (pe_callKw0 (ok_order T) (hr.mono (by decide)) (by rfl) T.m_order T.k_order (kb_order T) pass0 (pk_cons (pe_meth0 (pv 1) T.cl T.m_Lcopy (ok_Lcopy T) (hr.mono (by decide)) T.b_Lcopy .nil pass0) pk_nil)) (pa_cons (pe_call (ok_law_flat T) (hr.mono (by decide)) (by rfl) T.m_law_flat T.k_law_flat T.b_law_flat .nil pass0 (pa_cons (pe_call (ok_law_parted T) (hr.mono (by decide)) (by rfl) T.m_law_parted T.k_law_parted T.b_law_parted .nil pass0 (pa_cons (pv 2) (pa_cons (pv 3) pa_nil))) pa_nil)) pa_nil)))))))))))), ?_⟩
    obtain ⟨ol, _⟩ := order_len ok (List.Perm.refl B.sides)
    have s2 := ok.sides.1
    have s8 := ok.sides.2.1
    refine q_asg (v := .ref A.sds) (eb_sides (ev_var rfl) hb.ob) fun H1 e1 => ?_
    have l1 := hl.mono e1
    have b1 := hb.mono e1
    refine q_when (b := false) (et_not (et_B (ev_sameU (eu_order (ev_var rfl) l1 ok) (fun H2 e2 => eu_flatp (ev_var rfl) (ev_var rfl) (b1.mono e2) ok (e2 _ _ b1.sd) (List.Perm.refl _)) (by omega)))) (fun z => nomatch z) fun _ H2 e2 => ?_
    have b2 := b1.mono e2
    have e12 := e1.trans e2
    have n2 := lenL (K := K) (sq_of b2.sd)
    rw [List.length_map] at n2
    refine q_draw (ea_cons (ev_var rfl) (ea_cons (ev_lenV (ev_var rfl) n2) ea_nil)) (hs.mono e12) (by omega) (by omega) fun r H3 r0 r1 hs3 k3 => ?_
    have b3 := b2.kst (hs.mono e12) k3
    have l3 := (l1.mono e2).kst (hs.mono e12) k3
    obtain ⟨rn, hrn⟩ := Int.eq_ofNat_of_zero_le r0
    subst hrn
    have kH : Ks st H H3 := (Ks.of e12).trans k3
    have n3 := lenL (K := K) (sq_of b3.sd)
    rw [List.length_map] at n3
    refine q_asgL (xs := B.sides.reverse.map V.str) (el_is (el_mR (n := B.sides.length) (fun _ => true) (fun i => .str (B.sides.reverse.getD i "")) (ea_cons (ev_lenV (ev_var rfl) n3) ea_nil) (by omega) (fun _ => rfl) (fun i H4 hi e => et_yes rfl) (fun i H4 hi e _ => ev_op (ev_var rfl) (ev_op (ev_op (ev_lenV (ev_var rfl) (lenV_mono e n3)) ev_c rv_sub) (ev_var rfl) rv_sub) (rv_ixL (sq_of (e _ _ b3.sd)) ?_))) ?_) fun tu H4 htu e4 h4 => ?_
    · have e5 : (B.sides.length : Int) - 1 - (i : Int) = ((B.sides.length - 1 - i : Nat) : Int) := by omega
      rw [e5]
      refine atI_nat ?_
      rw [List.getElem?_map, List.getD_eq_getElem?_getD, List.getElem?_reverse hi, List.getElem?_eq_getElem (by omega)]
      rfl
    · rw [filter_yes]
      refine List.ext_getElem? fun i => ?_
      rw [List.getElem?_map, List.getElem?_map]
      by_cases hi : i < B.sides.length
      · rw [List.getElem?_range hi]
        show some (V.str (B.sides.reverse.getD i "")) = _
        rw [List.getD_eq_getElem?_getD, List.getElem?_eq_getElem (by rw [List.length_reverse]; exact hi)]
        rfl
      · rw [List.getElem?_eq_none (by rw [List.length_range]; omega), List.getElem?_eq_none (by rw [List.length_reverse]; omega)]
        rfl
    · let nm : List Str := B.sides.reverse.drop rn ++ B.sides.reverse.take rn
      have pm : nm.Perm B.sides := (List.perm_append_comm.trans (by rw [List.take_append_drop])).trans (List.reverse_perm _)
      refine q_catLL (xs := (B.sides.reverse.drop rn).map V.str) (ys := (B.sides.reverse.take rn).map V.str) (el_is (el_sl (lo := some (rn : Int)) (hi := none) (ev_var rfl) (eo_some (ev_var rfl)) eo_none (sq_of h4)) (by rw [cut_drop, List.map_drop])) (fun H5 e5 => el_is (el_sl (lo := none) (hi := some (rn : Int)) (ev_var rfl) eo_none (eo_some (ev_var rfl)) (sq_of (e5 _ _ h4))) (by rw [cut_take, List.map_take])) (by simp only [List.length_map, List.length_drop, List.length_take, List.length_reverse]; omega) fun tt H5 htt e5 h5 => ?_
      have e45 := e4.trans e5
      rw [← List.map_append] at h5
      have b5 := b3.mono e45
      have l5 := l3.mono e45
      obtain ⟨ol2, _⟩ := order_len ok pm
      refine q_asgU (eu_flatp (ev_var rfl) (ev_var rfl) b5 ok h5 pm) fun du H6 hdu e6 h6 => ?_
      have b6 := b5.mono e6
      have l6 := l5.mono e6
      refine q_when (b := false) (et_not (et_B (ev_sameV (eu_orderTw (ev_var rfl) (ev_var rfl) b6 ok (e6 _ _ h5) pm) (ev_var rfl) h6 (Nat.le_trans ol2 (by decide))))) (fun z => nomatch z) fun _ H7 e7 => ?_
      have b7 := b6.mono e7
      have l7 := l6.mono e7
      have e37 := (e45.trans e6).trans e7
      refine s_ret (ev_sameU (eu_orderCp (ev_var rfl) l7 ok) (fun H8 e8 => eu_flatp (ev_var rfl) (ev_var rfl) (b7.mono e8) ok (e8 _ _ b7.sd) (List.Perm.refl _)) (by omega)) fun H8 e8 => k H8 (hs3.mono (e37.trans e8)) (kH.trans (.of (e37.trans e8)))
end
end Lw

/-! Mn -/
/-! Names made unlike: the last letter's successor, as often as there are names. No program in sight. -/
namespace Mt
open PySem
def mkS (l : List Nat) : Str := ⟨l.toArray⟩
theorem mkS_toList (l : List Nat) : (mkS l).cps.toList = l := rfl
theorem mkS_of (s : Str) : s = mkS s.cps.toList := by
  obtain ⟨a⟩ := s
  rfl
theorem mkS_len (l : List Nat) : (mkS l).length = l.length := rfl
theorem mkS_inj {l m : List Nat} (h : mkS l = mkS m) : l = m := by
  have := congrArg (fun s : Str => s.cps.toList) h
  exact this
def letters : Str := "abcdefghijklmnopqrstuvwxyz"
theorem letters_eq : letters.cps.toList = List.range' 97 26 := by decide +kernel
theorem letter_iff {c : Nat} : c ∈ letters.cps.toList ↔ 97 ≤ c ∧ c ≤ 122 := by
  rw [letters_eq, List.mem_range'_1]
  omega
theorem letter_at {i : Nat} (h : i < 26) : letters.cps.toList[i]? = some (97 + i) := by
  rw [letters_eq, List.getElem?_range' h]
  simp
theorem index_letter {c : Nat} (h : 97 ≤ c ∧ c ≤ 122) : Txt.index0 letters ⟨#[c]⟩ = some (c - 97) := by
  have all : ∀ c ∈ List.range' 97 26, Txt.index0 letters ⟨#[c]⟩ = some (c - 97) := by decide +kernel
  exact all c (List.mem_range'_1.mpr (by omega))
/-- the letter behind c, a behind z -/
def nxt (c : Nat) : Nat := 97 + (c - 97 + 1) % 26
def sucS (s : Str) : Str := mkS (s.cps.toList.dropLast ++ [nxt (s.cps.toList.getLastD 0)])
def tries (S : List Str) : Nat → Str → Str
  | 0, s => s
  | n + 1, s => if tries S n s ∈ S then sucS (tries S n s) else tries S n s
/-- a name as its signs but the last, and the last -/
theorem good_split {s : Str} (h : goodName s) : ∃ p c, s = mkS (p ++ [c]) ∧ p.length ≤ 7 ∧ (∀ x ∈ p, 97 ≤ x ∧ x ≤ 122) ∧ 97 ≤ c ∧ c ≤ 122 := by
  obtain ⟨h1, h2, h3⟩ := h
  have hl : s.length = s.cps.toList.length := by simp [Str.length]
  rcases List.eq_nil_or_concat s.cps.toList with e | ⟨p, c, e⟩
  · rw [hl, e] at h1
    simp at h1
  · rw [List.concat_eq_append] at e
    have hs : s = mkS (p ++ [c]) := by rw [← e]; exact mkS_of s
    refine ⟨p, c, hs, ?_, fun x hx => letter_iff.mp (h3 x (by rw [e]; simp [hx])), letter_iff.mp (h3 c (by rw [e]; simp))⟩
    rw [hl, e, List.length_append] at h2
    simp at h2
    omega
theorem good_mk {l : List Nat} (h1 : 1 ≤ l.length) (h2 : l.length ≤ 8) (h3 : ∀ x ∈ l, 97 ≤ x ∧ x ≤ 122) : goodName (mkS l) :=
  ⟨h1, h2, fun c hc => letter_iff.mpr (h3 c hc)⟩
theorem suc_mk {p : List Nat} {c : Nat} : sucS (mkS (p ++ [c])) = mkS (p ++ [nxt c]) := by
  unfold sucS
  rw [mkS_toList]
  simp
theorem tries_form {S : List Str} {p : List Nat} {c : Nat} (hc : 97 ≤ c ∧ c ≤ 122) : ∀ n, (∀ j, j < n → tries S j (mkS (p ++ [c])) ∈ S) → tries S n (mkS (p ++ [c])) = mkS (p ++ [97 + (c - 97 + n) % 26])
  | 0, _ => by
    show mkS (p ++ [c]) = _
    have : 97 + (c - 97 + 0) % 26 = c := by omega
    rw [this]
  | n + 1, h => by
    have ih := tries_form (p := p) hc n fun j hj => h j (by omega)
    have hm := h n (by omega)
    show (if tries S n _ ∈ S then _ else _) = _
    rw [if_pos hm, ih, suc_mk]
    unfold nxt
    congr 3
    omega
theorem tries_stays {S : List Str} {s : Str} {j : Nat} (h : tries S j s ∉ S) : ∀ n, j ≤ n → tries S n s = tries S j s
  | 0, hn => by
    have : j = 0 := by omega
    rw [this]
  | n + 1, hn => by
    by_cases e : j = n + 1
    · rw [e]
    · have ih := tries_stays h n (by omega)
      show (if tries S n s ∈ S then _ else _) = _
      rw [ih, if_neg h]
theorem tries_out {S : List Str} {s : Str} (hs : goodName s) (h8 : S.length ≤ 8) : tries S S.length s ∉ S := by
  obtain ⟨p, c, rfl, hp, _, hc⟩ := good_split hs
  intro hin
  have all : ∀ j, j ≤ S.length → tries S j (mkS (p ++ [c])) ∈ S := fun j hj => by
    by_cases hm : tries S j (mkS (p ++ [c])) ∈ S
    · exact hm
    · have := tries_stays hm S.length hj
      rw [this] at hin
      exact absurd hin hm
  have form : ∀ j, j ≤ S.length → tries S j (mkS (p ++ [c])) = mkS (p ++ [97 + (c - 97 + j) % 26]) := fun j hj => tries_form hc j fun i hi => all i (by omega)
  have nd : ((List.range (S.length + 1)).map fun j => mkS (p ++ [97 + (c - 97 + j) % 26])).Nodup := by
    refine List.pairwise_map.mpr (List.Pairwise.imp_of_mem ?_ (List.nodup_range (n := S.length + 1)))
    intro a b ha hb hab e
    have ha' := List.mem_range.mp ha
    have hb' := List.mem_range.mp hb
    have e2 := mkS_inj e
    have e3 : 97 + (c - 97 + a) % 26 = 97 + (c - 97 + b) % 26 := by simpa using e2
    exact hab (by omega)
  have sub : ∀ x ∈ (List.range (S.length + 1)).map fun j => mkS (p ++ [97 + (c - 97 + j) % 26]), x ∈ S := fun x hx => by
    obtain ⟨j, hj, rfl⟩ := List.mem_map.mp hx
    have hj' := List.mem_range.mp hj
    rw [← form j (by omega)]
    exact all j (by omega)
  have := nodup_le nd sub
  rw [List.length_map, List.length_range] at this
  omega
theorem suc_good {s : Str} (h : goodName s) : goodName (sucS s) := by
  obtain ⟨p, c, rfl, h1, h2, h3⟩ := good_split h
  rw [suc_mk]
  refine good_mk (by simp) (by simp; omega) fun x hx => ?_
  rcases List.mem_append.mp hx with hx | hx
  · exact h2 x hx
  · rw [List.mem_singleton] at hx
    subst hx
    unfold nxt
    omega
theorem tries_good {S : List Str} {s : Str} (h : goodName s) : ∀ n, goodName (tries S n s)
  | 0 => h
  | n + 1 => by
    have ih := tries_good (S := S) h n
    show goodName (if tries S n s ∈ S then _ else _)
    split
    · exact suc_good ih
    · exact ih
end Mt

/-! V8 -/
/-! The law's sides. -/
namespace Lw
open PySem PySem.Spec PyProof.Rows L2 Evl Mt
theorem takesL {X : Cx} : L2.Takes X (fun _ _ _ _ => False) := fun _ _ x => by
  obtain ⟨_, _, _, _, _, _, _, _, _, _, _, _, _, _, _, _, z⟩ := x
  exact z.elim
/-! ### draws within expressions -/
section
variable {K : PySem.W.Frag} {σ : L2.St} {H : Hp} {ta te : TE} {t : TA} {st : Addr} {many : Int} {D : Ends} {tz tu tw : TS}
theorem c_draw {Q : VK} (h : EvA t σ H [.ref st, .int many]) (hs : StateAt H st) (h1 : 1 ≤ many) (h2 : many ≤ 1000000) (k : ∀ r H2, 0 ≤ r → r < many → StateAt H2 st → Ks st H H2 → Q (.int r) H2) : tCall spDr [] E0 t σ H Q :=
  h H (Ex.refl H) _ fun H1 e1 => ⟨st, many, rfl, hs.mono e1, h1, h2, fun r H2 a b c d => k r H2 a b c ((Ks.of e1).trans d)⟩
/-- x = e + draw -/
theorem q_drawAdd {i : Nat} {c : Int} (hc : Ev te σ H (.int c)) (h : EvA t σ H [.ref st, .int many]) (hs : StateAt H st) (h1 : 1 ≤ many) (h2 : many ≤ 1000000) (k : ∀ r H2, 0 ≤ r → r < many → StateAt H2 st → Ks st H H2 → tz D (σ.set i (some (.int (c + r)))) H2) :
    tSeq (tAsg (tOp (rI0 fun i j => .int (i + j)) te (tCall spDr [] E0 t)) (gName i)) tz D σ H :=
  hc H (Ex.refl H) _ fun H1 e1 => c_draw (h.mono e1) (hs.mono e1) h1 h2 fun r H2 a b c' d => ⟨c, r, rfl, rfl, k r H2 a b c' ((Ks.of e1).trans d)⟩
/-- x = e + n * draw -/
theorem q_drawMul {i : Nat} {c n : Int} (hc : Ev te σ H (.int c)) (hn : -18446744073709551616 < n) (hn2 : n < 18446744073709551616) (h : EvA t σ H [.ref st, .int many]) (hs : StateAt H st) (h1 : 1 ≤ many) (h2 : many ≤ 1000000) (k : ∀ r H2, 0 ≤ r → r < many → StateAt H2 st → Ks st H H2 → tz D (σ.set i (some (.int (c + n * r)))) H2) :
    tSeq (tAsg (tOp (rI0 fun i j => .int (i + j)) te (tOp (rI CMul fun i j => .int (i * j)) (tC (.int n)) (tCall spDr [] E0 t))) (gName i)) tz D σ H :=
  hc H (Ex.refl H) _ fun H1 e1 => c_draw (h.mono e1) (hs.mono e1) h1 h2 fun r H2 a b c' d => ⟨n, r, rfl, rfl, mulL hn hn2, c, n * r, rfl, rfl, k r H2 a b c' ((Ks.of e1).trans d)⟩
/-- draw against a number -/
theorem t_draw {rr : R2} {g : Int → Bool} {c : Int} {Q : Bool → Hp → Prop} (hr : ∀ r H, RV rr (.int r) (.int c) H (.bl (g r))) (h : EvA t σ H [.ref st, .int many]) (hs : StateAt H st) (h1 : 1 ≤ many) (h2 : many ≤ 1000000) (k : ∀ r H2, 0 ≤ r → r < many → StateAt H2 st → Ks st H H2 → Q (g r) H2) :
    tTest (tOp rr (tCall spDr [] E0 t) (tC (.int c))) σ H Q :=
  c_draw h hs h1 h2 fun r H2 a b c' d => hr r H2 H2 (Ex.refl _) _ fun H3 e3 => ⟨g r, rfl, k r H3 a b (c'.mono e3) (d.trans (.of e3))⟩
/-- if c and draw == n: .. -/
theorem s_ifDraw {tt : TT} {b : Bool} {rr : R2} {g : Int → Bool} {c : Int} (hb : EvT tt σ H b) (hr : ∀ r H, RV rr (.int r) (.int c) H (.bl (g r))) (h : EvA t σ H [.ref st, .int many]) (hs : StateAt H st) (h1 : 1 ≤ many) (h2 : many ≤ 1000000)
    (k1 : b = true → ∀ r H2, 0 ≤ r → r < many → StateAt H2 st → Ks st H H2 → g r = true → tu D σ H2) (k2 : ∀ H2, StateAt H2 st → Ks st H H2 → D.nx σ H2) :
    tIfS (tAnd tt (tTest (tOp rr (tCall spDr [] E0 t) (tC (.int c))))) tu tNext D σ H := hb H (Ex.refl H) _ fun H1 e1 => by
  cases b with
  | false => exact k2 H1 (hs.mono e1) (.of e1)
  | true =>
    show tTest (tOp rr (tCall spDr [] E0 t) (tC (.int c))) σ H1 fun b H1 => if b = true then tu D σ H1 else tNext D σ H1
    refine t_draw hr (h.mono e1) (hs.mono e1) h1 h2 fun r H2 a b' c' d => ?_
    cases hg : g r with
    | true => exact k1 rfl r H2 a b' c' ((Ks.of e1).trans d) hg
    | false => exact k2 H2 c' ((Ks.of e1).trans d)
end
/-! ### texts -/
theorem mkS_app (l m : List Nat) : mkS l ++ mkS m = mkS (l ++ m) := by
  have h : (mkS l ++ mkS m).cps.toList = l ++ m := by
    show (l.toArray ++ m.toArray).toList = _
    simp
  rw [mkS_of (mkS l ++ mkS m), h]
theorem good_lines {s : Str} (h : s.length ≤ 8) : s.length ≤ sizeLine := sz_of (by omega)
section
variable {σ : L2.St} {H : Hp} {ta tb te : TE} {tl th : TO} {x y : Str}
theorem rv_addS (h : x.length + y.length ≤ 100000) : RV (fun x y H Q => ∃ i j, x = V.str i ∧ y = V.str j ∧ i.length + j.length ≤ sizeLine ∧ Q (.str (i ++ j)) H) (.str x) (.str y) H (.str (x ++ y)) := fun H1 _ _ q => ⟨x, y, rfl, rfl, sz_of h, q H1 (Ex.refl _)⟩
theorem ev_slS {lo hi : Option Int} (h : Ev te σ H (.str x)) (h1 : EvO tl σ H lo) (h2 : EvO th σ H hi) (hx : x.length ≤ 100000) : Ev (tSl rSlS te tl th) σ H (.str (cutS x lo hi)) := fun H1 e _ q =>
  h H1 e _ fun H2 e2 => h1 H2 (e.trans e2) _ fun H3 e3 => h2 H3 ((e.trans e2).trans e3) _ fun H4 e4 => ⟨x, rfl, sz_of hx, q H4 ((e2.trans e3).trans e4)⟩
/-- letters.index(c) -/
theorem ev_index {K : PySem.W.Frag} {c : Nat} (h : Ev ta σ H (.str letters)) (hb : Ev tb σ H (.str ⟨#[c]⟩)) (hc : 97 ≤ c ∧ c ≤ 122) : Ev (tBMS K "str" (rIndexX fun _ _ _ _ => False) ta (tCons tb tNil)) σ H (.int ((c - 97 : Nat) : Int)) := fun H1 e Q q =>
  h H1 e _ fun H2 e2 => ⟨rfl, hb H2 (e.trans e2) _ fun H3 e3 => ⟨letters, ⟨#[c]⟩, rfl, rfl, fun k hk => by
    rw [index_letter hc] at hk
    cases hk
    exact q H3 (e2.trans e3), fun hn => by
    rw [index_letter hc] at hn
    cases hn⟩⟩
theorem rv_sign_at {l : List Nat} {c : Nat} {i : Int} (hl : l.length ≤ 100000) (h : atI l i = some c) : RV rIxS (.str (mkS l)) (.int i) H (.str ⟨#[c]⟩) := rv_ixS (by rw [mkS_len]; exact hl) h
end
theorem cutS_take {l : List Nat} {k : Nat} : cutS (mkS l) none (some (k : Int)) = mkS (l.take k) := by
  unfold cutS
  rw [HT.sIx_nat, HT.sIx_none, mkS_toList, mkS_len, List.drop_zero, Nat.sub_zero]
  by_cases h : k ≤ l.length
  · rw [Nat.min_eq_left h]; rfl
  · rw [Nat.min_eq_right (by omega), List.take_of_length_le (Nat.le_refl _), List.take_of_length_le (by omega)]; rfl
theorem cutS_drop {l : List Nat} {k : Nat} : cutS (mkS l) (some (k : Int)) none = mkS (l.drop k) := by
  unfold cutS
  rw [HT.sIx_nat, HT.sIx_none, mkS_toList, mkS_len]
  by_cases h : k ≤ l.length
  · rw [Nat.min_eq_left h, List.take_of_length_le (by rw [List.length_drop]; exact Nat.le_refl _)]; rfl
  · rw [Nat.min_eq_right (by omega), List.drop_of_length_le (Nat.le_refl _), List.drop_of_length_le (by omega), Nat.sub_self]; rfl
theorem cutS_last {p : List Nat} {c : Nat} : cutS (mkS (p ++ [c])) none (some (-1)) = mkS p := by
  unfold cutS
  rw [HT.sIx_none, mkS_toList, mkS_len, List.drop_zero, Nat.sub_zero]
  have : HT.sIx (p ++ [c]).length (p ++ [c]).length (some (-1)) = p.length := by
    show (if (-1 : Int) < 0 then ((-1 : Int) + ((p ++ [c]).length : Int)).toNat else min (-1 : Int).toNat (p ++ [c]).length) = _
    rw [if_pos (by decide), List.length_append, List.length_cons, List.length_nil]
    omega
  rw [this]
  show mkS ((p ++ [c]).take p.length) = _
  rw [List.take_left' rfl]
theorem atI_last' {p : List Nat} {c : Nat} : atI (p ++ [c]) (-1) = some c := atI_last p c
section
variable {P : Program} {w : World} {K : PySem.W.Frag} {mg : Str → Option Value} {base : Heap}
def spLs : Sp := fun vs H Q _ => ∃ (st : Addr) (n : Nat), vs = [.ref st, .int (n : Int)] ∧ StateAt H st ∧ 2 ≤ n ∧ n ≤ 8 ∧ ∀ p H2 S, H p = none → StateAt H2 st → Ks st H H2 → H2 p = some (.lst (S.map V.str)) → goodSides S → Q (.ref p) H2
theorem ok_law_sides (T : Tx0 K mg) : FnOk P w K mg base CX0 2 (a_law_sides K) (fd_law_sides K) p_law_sides spLs := by
  refine okN T.f_law_sides sc_law_sides (fun vs H Q E h => ?_) (fun cdv A outer s H vs Q E hr h => ?_)
  · obtain ⟨st, n, rfl, _⟩ := h
    rfl
  · obtain ⟨st, n, rfl, hs, n2, n8, k⟩ := h
    refine ⟨_, (pss_cons (ps_set (i := 2) sc_law_sides.nd rfl (by first | exact .inl rfl | exact .inr rfl) pe_str)
    (pss_cons (ps_set (i := 3) sc_law_sides.nd rfl (by first | exact .inl rfl | exact .inr rfl) (pe_lst pa_nil))
    (pss_cons (ps_for PassesOwn.never rfl (pi_range1 (by rfl) T.n_range (pa_cons (pv 1) pa_nil)) (pg_name (i := 4) sc_law_sides.nd rfl (by first | exact .inl rfl | exact .inr rfl)) (pss_cons (ps_set (i := 5) sc_law_sides.nd rfl (by first | exact .inl rfl | exact .inr rfl) (pe_op op_add pe_int (pe_call (ok_law_draw T) (hr.mono (by decide)) (by rfl) T.m_law_draw T.k_law_draw T.b_law_draw .nil pass0 (pa_cons (pv 0) (pa_cons pe_int pa_nil)))))
    (pss_cons (ps_set (i := 6) sc_law_sides.nd rfl (by first | exact .inl rfl | exact .inr rfl) (pe_call (ok_law_draw T) (hr.mono (by decide)) (by rfl) T.m_law_draw T.k_law_draw T.b_law_draw .nil pass0 (pa_cons (pv 0) (pa_cons pe_int pa_nil))))
    (pss_cons (ps_set (i := 6) sc_law_sides.nd rfl (by first | exact .inl rfl | exact .inr rfl) (pe_op op_add (pv 6) (pe_op op_mul pe_int (pe_call (ok_law_draw T) (hr.mono (by decide)) (by rfl) T.m_law_draw T.k_law_draw T.b_law_draw .nil pass0 (pa_cons (pv 0) (pa_cons pe_int pa_nil))))))
    (pss_cons (ps_set (i := 7) sc_law_sides.nd rfl (by first | exact .inl rfl | exact .inr rfl) pe_str)
    (pss_cons (ps_for PassesOwn.never rfl (pi_range1 (by rfl) T.n_range (pa_cons (pv 5) pa_nil)) (pg_name (i := 8) sc_law_sides.nd rfl (by first | exact .inl rfl | exact .inr rfl)) (pss_cons (ps_set (i := 7) sc_law_sides.nd rfl (by first | exact .inl rfl | exact .inr rfl) (pe_op op_add_str (pv 7) (pe_ix ix_str (pv 2) (pe_op op_mod (pe_callTy call_int1 (by rfl) T.n_int (by decide +kernel) (pa_cons (pv 6) pa_nil)) pe_int) (fun _ _ => rfl))))
    (pss_one (ps_set (i := 6) sc_law_sides.nd rfl (by first | exact .inl rfl | exact .inr rfl) (pe_op op_fdiv (pv 6) pe_int)))))
    (pss_cut (ps_if (PW.pt (pw_and (pt_cmpR op_gt (pv 4) pe_int (by rfl)) (pw_and1 (pt_cmpR op_eq (pe_call (ok_law_draw T) (hr.mono (by decide)) (by rfl) T.m_law_draw T.k_law_draw T.b_law_draw .nil pass0 (pa_cons (pv 0) (pa_cons pe_int pa_nil))) pe_int (by rfl))))) (pss_cons (ps_set (i := 8) sc_law_sides.nd rfl (by first | exact .inl rfl | exact .inr rfl) (pe_call (ok_law_draw T) (hr.mono (by decide)) (by rfl) T.m_law_draw T.k_law_draw T.b_law_draw .nil pass0 (pa_cons (pv 0) (pa_cons (pe_callB call_len (by rfl) T.n_len (by decide +kernel) (pa_cons (pe_ix ix_list (pv 3) pe_int (fun _ _ => rfl)) pa_nil)) pa_nil))))
    (pss_one (ps_set (i := 7) sc_law_sides.nd rfl (by first | exact .inl rfl | exact .inr rfl) (pe_op op_add_str (pe_op op_add_str (pe_slice sl_str (pe_ix ix_list (pv 3) pe_int (fun _ _ => rfl)) po_none (po_some (pv 8))) (pe_ix ix_str (pv 7) pe_int (fun _ _ => rfl))) (pe_slice sl_str (pe_ix ix_list (pv 3) pe_int (fun _ _ => rfl)) (po_some (pe_op op_add (pv 8) pe_int)) po_none))))) pss_nil)
    (pss_cons (ps_for PassesOwn.never rfl (pi_range1 (by rfl) T.n_range (pa_cons (pv 4) pa_nil)) (pg_name (i := 9) sc_law_sides.nd rfl (by first | exact .inl rfl | exact .inr rfl)) (pss_one (ps_if (pt_cmpR op_in_seq (pv 7) (pv 3) (by rfl)) (pss_one (ps_set (i := 7) sc_law_sides.nd rfl (by first | exact .inl rfl | exact .inr rfl) (pe_op op_add_str (pe_slice sl_str (pv 7) po_none (po_some (pe_un un_neg pe_int))) (pe_ix ix_str (pv 2) (pe_op op_mod (pe_op op_add (pe_bmS PySem.F.plainAttrs_str PySem.F.slot_str_index PySem.F.type_str_index (mt_indexX (by rfl) takesL) (pv 2) (pa_cons (pe_ix ix_str (pv 7) (pe_un un_neg pe_int) (fun _ _ => rfl)) pa_nil)) pe_int) pe_int) (fun _ _ => rfl))))) pss_nil)))
    (pss_one (ps_expr (pe_bm PySem.F.plainAttrs_list PySem.F.slot_list_append PySem.F.type_list_append mt_append (pv 3) (pa_cons (pv 7) pa_nil))))))))))))
    (pss_one (ps_ret (pv 3)))))), ?_⟩
    refine q_asg ev_c fun H1 e1 => ?_
    refine q_asgL (xs := []) (el_lst (vs := []) ea_nil (show 0 ≤ 100000 by decide)) fun c H2 hc e2 h2 => ?_
    have e12 := e1.trans e2
    have cn : H c = none := fresh_back e1 hc
    have cst : c ≠ st := fun e => by
      obtain ⟨_, _, h, _⟩ := hs.mono e12
      rw [← e, h2] at h
      cases h
    let σk : Option V → Option V → Option V → Option V → Option V → Option V → L2.St := fun v4 v5 v6 v7 v8 v9 => [some (.ref st), some (.int (n : Int)), some (.str letters), some (.ref c), v4, v5, v6, v7, v8, v9]
    let J : Hp → List Str → Prop := fun H' S => StateAt H' st ∧ Ks st H H' ∧ H' c = some (.lst (S.map V.str))
    have Jex : ∀ {H' H'' : Hp} {S : List Str}, J H' S → Ex H' H'' → J H'' S := fun {H' H'' S} j e => ⟨j.1.mono e, j.2.1.trans (.of e), e _ _ j.2.2⟩
    have Jst : ∀ {H' H'' : Hp} {S : List Str}, J H' S → StateAt H'' st → Ks st H' H'' → J H'' S := fun {H' H'' S} j hs2 kk => ⟨hs2, j.2.1.trans kk, kk.1 _ _ cst j.2.2⟩
    refine q_forR1 (n := (n : Int)) (ea_cons (ev_var rfl) ea_nil) (by omega) (fun i σ' H' => ∃ S v4 v5 v6 v7 v8 v9, σ' = σk v4 v5 v6 v7 v8 v9 ∧ J H' S ∧ S.length = i ∧ S.Nodup ∧ ∀ m ∈ S, goodName m) (fun H3 e3 => ⟨[], none, none, none, none, none, none, rfl, ⟨hs.mono (e12.trans e3), .of (e12.trans e3), e3 _ _ h2⟩, rfl, List.nodup_nil, fun m hm => by cases hm⟩) (fun i σ' H' hi q => ?_) fun σ' H' q => ?_
    · obtain ⟨S, v4, v5, v6, v7, v8, v9, rfl, j0, sl, snd, sg⟩ := q
      show tSeq _ _ _ (σk (some (.int (i : Int))) v5 v6 v7 v8 v9) H'
      refine q_drawAdd (c := 1) ev_c (ea_cons (ev_var rfl) (ea_cons ev_c ea_nil)) j0.1 (by decide) (by decide) fun r1 H3 r10 r11 hs3 k3 => ?_
      have j3 := Jst j0 hs3 k3
      refine q_draw (ea_cons (ev_var rfl) (ea_cons ev_c ea_nil)) j3.1 (by decide) (by decide) fun r2 H4 r20 r21 hs4 k4 => ?_
      have j4 := Jst j3 hs4 k4
      refine q_drawMul (c := r2) (n := 456976) (ev_var rfl) (by decide) (by decide) (ea_cons (ev_var rfl) (ea_cons ev_c ea_nil)) j4.1 (by decide) (by decide) fun r3 H5 r30 r31 hs5 k5 => ?_
      have j5 := Jst j4 hs5 k5
      refine q_asg (v := .str (mkS [])) ev_c fun H6 e6 => ?_
      have j6 := Jex j5 e6
      obtain ⟨ln, hln⟩ := Int.eq_ofNat_of_zero_le r10
      subst hln
      show tSeq _ _ _ (σk (some (.int (i : Int))) (some (.int (1 + (ln : Int)))) (some (.int (r2 + 456976 * r3))) (some (.str (mkS []))) v8 v9) H6
      refine q_forR1 (n := (1 + (ln : Int))) (ea_cons (ev_var rfl) ea_nil) (by omega) (fun m σ' H' => ∃ l nn v8, σ' = σk (some (.int (i : Int))) (some (.int (1 + (ln : Int)))) (some (.int nn)) (some (.str (mkS l))) v8 v9 ∧ J H' S ∧ l.length = m ∧ ∀ x ∈ l, 97 ≤ x ∧ x ≤ 122) (fun H7 e7 => ⟨[], _, v8, rfl, Jex j6 e7, rfl, fun x hx => by cases hx⟩) (fun m σ' H' hm q => ?_) fun σ' H' q => ?_
      · obtain ⟨l, nn, v8, rfl, j7, ll, lg⟩ := q
        show tSeq _ _ _ (σk (some (.int (i : Int))) (some (.int (1 + (ln : Int)))) (some (.int nn)) (some (.str (mkS l))) (some (.int (m : Int))) v9) H'
        have hmod := c_mod (n := 26) (by decide) (i := nn)
        obtain ⟨q, hq⟩ := Int.eq_ofNat_of_zero_le hmod.1
        have q26 : q < 26 := by omega
        refine q_asg (v := .str (mkS (l ++ [97 + q]))) (ev_is (ev_op (ev_var rfl) (ev_op (ev_var rfl) (ev_op (ev_int (ev_var rfl)) ev_c (rv_mod (by decide))) (rv_ixS (w := letters) (c := 97 + q) (by decide +kernel) (by rw [hq]; exact atI_nat (letter_at q26)))) (rv_addS ?_)) ?_) fun H8 e8 => ?_
        · show (mkS l).length + 1 ≤ 100000
          rw [mkS_len]
          omega
        · show V.str (mkS l ++ mkS [97 + q]) = _
          rw [mkS_app]
        · refine s_asg (v := .int (nn / 26)) (ev_op (ev_var rfl) ev_c (rv_fdiv (by constructor <;> decide))) fun H9 e9 => ⟨l ++ [97 + q], nn / 26, _, rfl, Jex j7 (e8.trans e9), by rw [List.length_append, ll]; rfl, fun x hx => ?_⟩
          rcases List.mem_append.mp hx with hx | hx
          · exact lg x hx
          · rw [List.mem_singleton] at hx
            omega
      · obtain ⟨l, nn, v8, rfl, j7, ll, lg⟩ := q
        have lt : (1 + (ln : Int)).toNat = 1 + ln := by omega
        rw [lt] at ll
        have g7 : goodName (mkS l) := good_mk (by omega) (by omega) lg
        refine q_cut (M := fun σ' H' => ∃ nm v8, σ' = σk (some (.int (i : Int))) (some (.int (1 + (ln : Int)))) (some (.int nn)) (some (.str nm)) v8 v9 ∧ J H' S ∧ goodName nm) ?_ ?_
        · refine s_ifDraw (b := decide (0 < (i : Int))) (g := fun r => decide (r = 1)) (c := 1) (et_test (ev_op (ev_var rfl) ev_c rv_gt)) (fun r H => rv_eqI) (ea_cons (ev_var rfl) (ea_cons ev_c ea_nil)) j7.1 (by decide) (by decide) (fun hb r4 H8 _ _ hs8 k8 _ => ?_) fun H8 hs8 k8 => ⟨_, _, rfl, Jst j7 hs8 k8, g7⟩
          have j8 := Jst j7 hs8 k8
          have hi0 : 0 < i := by
            have := of_decide_eq_true hb
            omega
          have hS0 : S[0]? = some (S[0]'(by omega)) := List.getElem?_eq_getElem _
          generalize S[0]'(by omega) = s0 at hS0
          have g0 := sg s0 (List.mem_of_getElem? hS0)
          obtain ⟨p0, c0, es0, pl0, pg0, cg0⟩ := good_split g0
          have len0 : s0.length = p0.length + 1 := by
            rw [es0, mkS_len, List.length_append]
            rfl
          have gS0 : (S.map V.str)[0]? = some (.str s0) := by rw [List.getElem?_map, hS0]; rfl
          refine q_draw (many := (s0.length : Int)) (ea_cons (ev_var rfl) (ea_cons (ev_lenV (ev_op (ev_var rfl) ev_c (rv_atL (i := 0) (sq_of j8.2.2) gS0)) (lenS (by omega))) ea_nil)) j8.1 (by omega) (by omega) fun r5 H9 r50 r51 hs9 k9 => ?_
          have j9 := Jst j8 hs9 k9
          obtain ⟨pp, hpp⟩ := Int.eq_ofNat_of_zero_le r50
          subst hpp
          obtain ⟨x0, l', hl'⟩ : ∃ x0 l', l = x0 :: l' := by
            cases l with
            | nil =>
              simp at ll
              omega
            | cons a b => exact ⟨a, b, rfl⟩
          have hx0 := lg x0 (by rw [hl']; exact List.mem_cons_self)
          have all0 : ∀ x ∈ p0 ++ [c0], 97 ≤ x ∧ x ≤ 122 := fun x hx => by
            rcases List.mem_append.mp hx with hx | hx
            · exact pg0 x hx
            · rw [List.mem_singleton] at hx
              rw [hx]
              exact cg0
          have hpl : (p0 ++ [c0]).length = p0.length + 1 := by rw [List.length_append]; rfl
          refine s_asg (v := .str (mkS ((p0 ++ [c0]).take pp ++ [x0] ++ (p0 ++ [c0]).drop (pp + 1)))) (ev_is (ev_op (ev_op (ev_slS (x := s0) (lo := none) (hi := some (pp : Int)) (ev_op (ev_var rfl) ev_c (rv_atL (i := 0) (sq_of j9.2.2) gS0)) eo_none (eo_some (ev_var rfl)) (by omega)) (ev_op (ev_var rfl) ev_c (rv_sign_at (l := l) (c := x0) (by omega) (by rw [hl']; exact atI_nat (j := 0) rfl))) (rv_addS ?_)) (ev_slS (x := s0) (lo := some ((pp + 1 : Nat) : Int)) (hi := none) (ev_op (ev_var rfl) ev_c (rv_atL (i := 0) (sq_of j9.2.2) gS0)) (eo_some (ev_op (ev_var rfl) ev_c rv_add)) eo_none (by omega)) (rv_addS ?_)) ?_) fun H10 e10 => ⟨_, _, rfl, Jex j9 e10, good_mk ?_ ?_ ?_⟩
          · rw [es0, cutS_take, mkS_len]
            show _ + 1 ≤ _
            rw [List.length_take]
            omega
          · rw [es0, cutS_take, cutS_drop, PySem.Str.length_append, mkS_len, mkS_len]
            show _ + 1 + _ ≤ _
            rw [List.length_take, List.length_drop]
            omega
          · rw [es0, cutS_take, cutS_drop]
            show V.str (mkS _ ++ mkS [x0] ++ mkS _) = _
            rw [mkS_app, mkS_app]
          · simp only [List.length_append, List.length_cons, List.length_nil]
            omega
          · simp only [List.length_append, List.length_take, List.length_drop, List.length_cons, List.length_nil]
            omega
          · intro x hx
            rcases List.mem_append.mp hx with hx | hx
            · rcases List.mem_append.mp hx with hx | hx
              · exact all0 x (List.mem_of_mem_take hx)
              · rw [List.mem_singleton] at hx
                rw [hx]
                exact hx0
            · exact all0 x (List.mem_of_mem_drop hx)
        · rintro σ' H8 ⟨nm, v8', rfl, j8, g8⟩
          refine q_forR1 (n := (i : Int)) (ea_cons (ev_var rfl) ea_nil) (by omega) (fun m σ' H' => ∃ v9, σ' = σk (some (.int (i : Int))) (some (.int (1 + (ln : Int)))) (some (.int nn)) (some (.str (tries S m nm))) v8' v9 ∧ J H' S) (fun H9 e9 => ⟨v9, rfl, Jex j8 e9⟩) (fun m σ' H' hm q => ?_) fun σ' H' q => ?_
          · obtain ⟨v9, rfl, j9⟩ := q
            have gm := tries_good (S := S) g8 m
            obtain ⟨p1, c1, es1, pl1, pg1, cg1⟩ := good_split gm
            show tIfS _ _ tNext _ (σk (some (.int (i : Int))) (some (.int (1 + (ln : Int)))) (some (.int nn)) (some (.str (tries S m nm))) v8' (some (.int (m : Int)))) H'
            have hl1 : (p1 ++ [c1]).length ≤ 8 := by rw [List.length_append]; simp; omega
            refine s_ifAsg (b := decide (tries S m nm ∈ S)) (v := .str (tries S (m + 1) nm)) (et_test (ev_op (ev_var rfl) (ev_var rfl) (rv_strL (sq_of j9.2.2)))) (fun hb => ?_) (fun hb => ?_) fun H9 e9 => ⟨_, rfl, Jex j9 e9⟩
            · have hin := of_decide_eq_true hb
              have : tries S (m + 1) nm = mkS (p1 ++ [nxt c1]) := by
                show (if tries S m nm ∈ S then _ else _) = _
                rw [if_pos hin, es1, suc_mk]
              rw [this]
              have hnx : (((c1 - 97 : Nat) : Int) + 1) % 26 = (((c1 - 97 + 1) % 26 : Nat) : Int) := by omega
              refine ev_is (ev_op (ev_slS (x := tries S m nm) (lo := none) (hi := some (-1)) (ev_var rfl) eo_none (eo_some (ev_un ev_c ru_neg)) (by rw [es1, mkS_len]; omega)) (ev_op (ev_var rfl) (ev_op (ev_op (ev_index (c := c1) (ev_var rfl) (ev_op (ev_var rfl) (ev_un ev_c ru_neg) (by rw [es1]; exact rv_sign_at (by omega) atI_last')) cg1) ev_c rv_add) ev_c (rv_mod (by decide))) (rv_ixS (w := letters) (c := nxt c1) (by decide +kernel) (by rw [hnx]; exact atI_nat (letter_at (by omega))))) (rv_addS ?_)) ?_
              · rw [es1, cutS_last, mkS_len]
                show _ + 1 ≤ _
                omega
              · rw [es1, cutS_last]
                show V.str (mkS p1 ++ mkS [nxt c1]) = _
                rw [mkS_app]
            · have hout := of_decide_eq_false hb
              have : tries S (m + 1) nm = tries S m nm := by
                show (if tries S m nm ∈ S then _ else _) = _
                rw [if_neg hout]
              rw [this]
              rfl
          · obtain ⟨v9', rfl, j9⟩ := q
            have hnn : ((i : Int)).toNat = S.length := by omega
            rw [hnn]
            have hout := tries_out (S := S) g8 (by omega)
            have hgood := tries_good (S := S) g8 S.length
            refine s_app (xs := S.map V.str) (v := .str (tries S S.length nm)) j9.2.2 (ev_var rfl) (ev_var rfl) (by rw [List.length_map]; omega) fun H9 e9 => ⟨S ++ [tries S S.length nm], _, _, _, _, _, _, rfl, ⟨?_, ?_, ?_⟩, by rw [List.length_append, sl]; rfl, ?_, ?_⟩
            · obtain ⟨s7, cs, q1, q2, q3⟩ := j9.1.mono e9
              refine ⟨s7, cs, by rw [upd_ne cst.symm]; exact q1, ?_, q3⟩
              by_cases hcl : s7.cl = c
              · exfalso
                obtain ⟨t7, ct, p1, p2, p3⟩ := hs
                have := (j9.2.1.trans (.of e9)).cl p1 q1
                rw [hcl] at this
                rw [← this, cn] at p2
                cases p2
              · rw [upd_ne hcl]
                exact q2
            · exact (j9.2.1.trans (.of e9)).mutNew cn cst
            · rw [upd_same, List.map_append]
              rfl
            · exact List.nodup_append.mpr ⟨snd, by simp, fun a ha b hb => by
                rw [List.mem_singleton] at hb
                subst hb
                intro e
                exact hout (e ▸ ha)⟩
            · intro m hm
              rcases List.mem_append.mp hm with hm | hm
              · exact sg m hm
              · rw [List.mem_singleton] at hm
                rw [hm]
                exact hgood
    · obtain ⟨S, v4, v5, v6, v7, v8, v9, rfl, j0, sl, snd, sg⟩ := q
      have hnn : ((n : Int)).toNat = n := by omega
      rw [hnn] at sl
      exact s_ret (ev_var rfl) fun H3 e3 => by
        have j1 := Jex j0 e3
        exact k c H3 S cn j1.1 j1.2.1 j1.2.2 ⟨by omega, by omega, snd, sg⟩
end
end Lw

/-! V9 -/
/-! The law's schemes, rules, books. -/
namespace Lw
open PySem PySem.Spec PyProof.Rows L2 Evl Mt
theorem erase_map {α β : Type} (f : α → β) : ∀ (l : List α) (n : Nat), (l.map f).eraseIdx n = (l.eraseIdx n).map f
  | [], _ => rfl
  | _ :: _, 0 => rfl
  | a :: l, n + 1 => by
    rw [List.map_cons, List.eraseIdx_cons_succ, List.eraseIdx_cons_succ, List.map_cons, erase_map f l n]
theorem erase_perm {α : Type} : ∀ {l : List α} {n : Nat} (h : n < l.length), ([l[n]] ++ l.eraseIdx n).Perm l
  | a :: l, 0, _ => List.Perm.refl _
  | a :: l, n + 1, h => by
    have h' : n < l.length := by simpa using h
    have ih := erase_perm (l := l) (n := n) h'
    show (l[n] :: a :: l.eraseIdx n).Perm (a :: l)
    exact (List.Perm.swap a l[n] _).trans (List.Perm.cons a ih)
theorem StateAt.mutNew {H H1 : Hp} {st c : Addr} {o : HO} (h0 : StateAt H st) (k : Ks st H H1) (h1 : StateAt H1 st) (hc : H c = none) (n : c ≠ st) : StateAt (upd H1 c o) st := by
  obtain ⟨s7, cs, q1, q2, q3⟩ := h1
  obtain ⟨t7, ct, p1, p2, p3⟩ := h0
  have e := k.cl p1 q1
  have ncl : s7.cl ≠ c := fun hcl => by
    rw [← e, hcl, hc] at p2
    cases p2
  exact ⟨s7, cs, by rw [upd_ne n.symm]; exact q1, by rw [upd_ne ncl]; exact q2, q3⟩
theorem StateAt.ne {H : Hp} {st : Addr} (h : StateAt H st) {c : Addr} (hc : H c = none) : c ≠ st := fun e => by
  obtain ⟨_, _, h, _⟩ := h
  rw [← e, hc] at h
  cases h
section
variable {K : PySem.W.Frag} {σ : L2.St} {H : Hp} {ta te : TE} {t t1 t2 t3 t4 : TA} {st : Addr} {many : Int} {D : Ends} {tz tu tw : TS} {xs x1 x2 x3 x4 : List V}
theorem q_ifDraw1 {rr : R2} {g : Int → Bool} {c : Int} (hr : ∀ r H, RV rr (.int r) (.int c) H (.bl (g r))) (h : EvA t σ H [.ref st, .int many]) (hs : StateAt H st) (h1 : 1 ≤ many) (h2 : many ≤ 1000000)
    (k1 : ∀ r H2, 0 ≤ r → r < many → StateAt H2 st → Ks st H H2 → g r = true → tu { D with nx := tz D } σ H2) (k2 : ∀ r H2, 0 ≤ r → r < many → StateAt H2 st → Ks st H H2 → g r = false → tz D σ H2) :
    tSeq (tIfS (tTest (tOp rr (tCall spDr [] E0 t) (tC (.int c)))) tu tNext) tz D σ H := by
  show tTest (tOp rr (tCall spDr [] E0 t) (tC (.int c))) σ H fun b H1 => if b = true then tu { D with nx := tz D } σ H1 else tz D σ H1
  refine t_draw hr h hs h1 h2 fun r H2 a b' c' d => ?_
  cases hg : g r with
  | true => exact k1 r H2 a b' c' d hg
  | false => exact k2 r H2 a b' c' d hg
theorem c_tup4 {Q : VK} (h1 : EvA t1 σ H x1) (h2 : EvA t2 σ H x2) (h3 : EvA t3 σ H x3) (h4 : EvA t4 σ H x4) (l1 : x1.length ≤ 1000) (l2 : x2.length ≤ 1000) (l3 : x3.length ≤ 1000) (l4 : x4.length ≤ 1000)
    (k : ∀ p p1 p2 p3 p4 H1, (H p1 = none ∧ H p2 = none ∧ H p3 = none ∧ H p4 = none) → Ex H H1 → H1 p = some (.tup [.ref p1, .ref p2, .ref p3, .ref p4]) → H1 p1 = some (.tup x1) → H1 p2 = some (.tup x2) → H1 p3 = some (.tup x3) → H1 p4 = some (.tup x4) → Q (.ref p) H1) :
    tTup (tCons (tTup t1) (tCons (tTup t2) (tCons (tTup t3) (tCons (tTup t4) tNil)))) σ H Q := by
  show tTup t1 σ H fun y1 H1 => tTup t2 σ H1 fun y2 H2 => tTup t3 σ H2 fun y3 H3 => tTup t4 σ H3 fun y4 H4 => [y1, y2, y3, y4].length ≤ sizeLine ∧ ∀ p, H4 p = none → Q (.ref p) (upd H4 p (.tup [y1, y2, y3, y4]))
  refine eu_tup h1 (by omega) H (Ex.refl _) _ fun p1 H1 f1 e1 g1 => eu_tup h2 (by omega) H1 e1 _ fun p2 H2 f2 e2 g2 => eu_tup h3 (by omega) H2 (e1.trans e2) _ fun p3 H3 f3 e3 g3 => eu_tup h4 (by omega) H3 ((e1.trans e2).trans e3) _ fun p4 H4 f4 e4 g4 => ⟨sz_of (show 4 ≤ 100000 by decide), fun p hp => ?_⟩
  have en : Ex H4 (upd H4 p (.tup [.ref p1, .ref p2, .ref p3, .ref p4])) := Ex.new hp
  exact k p p1 p2 p3 p4 _ ⟨f1, fresh_back e1 f2, fresh_back (e1.trans e2) f3, fresh_back ((e1.trans e2).trans e3) f4⟩ ((((e1.trans e2).trans e3).trans e4).trans en) upd_same (en _ _ (e4 _ _ (e3 _ _ (e2 _ _ g1)))) (en _ _ (e4 _ _ (e3 _ _ g2))) (en _ _ (e4 _ _ g3)) (en _ _ g4)
/-- return (.., .., .., ..)[draw] -/
theorem s_retIx4 (h1 : EvA t1 σ H x1) (h2 : EvA t2 σ H x2) (h3 : EvA t3 σ H x3) (h4 : EvA t4 σ H x4) (l1 : x1.length ≤ 1000) (l2 : x2.length ≤ 1000) (l3 : x3.length ≤ 1000) (l4 : x4.length ≤ 1000)
    (h : EvA t σ H [.ref st, .int 4]) (hs : StateAt H st) (k : ∀ p x H2, H p = none → StateAt H2 st → Ks st H H2 → (x = x1 ∨ x = x2 ∨ x = x3 ∨ x = x4) → H2 p = some (.tup x) → D.rt (.ref p) H2) :
    tRet (tOp (rIxT K) (tTup (tCons (tTup t1) (tCons (tTup t2) (tCons (tTup t3) (tCons (tTup t4) tNil))))) (tCall spDr [] E0 t)) D σ H := by
  show tTup (tCons (tTup t1) (tCons (tTup t2) (tCons (tTup t3) (tCons (tTup t4) tNil)))) σ H fun x H1 => tCall spDr [] E0 t σ H1 fun y H2 => rIxT K x y H2 D.rt
  refine c_tup4 h1 h2 h3 h4 l1 l2 l3 l4 fun p p1 p2 p3 p4 H1 fr e1 gp g1 g2 g3 g4 => ?_
  have hs1 := hs.mono e1
  refine c_draw (h.mono e1) hs1 (by decide) (by decide) fun r H2 r0 r4 hs2 k2 => ?_
  have kH : Ks st H H2 := (Ks.of e1).trans k2
  have sd : ∀ {a : Addr} {x : List V}, H1 a = some (.tup x) → H2 a = some (.tup x) := fun {a x} ha => k2.1 _ _ (st_ne hs1 ha fun s z => by cases z) ha
  have h4 : r = 0 ∨ r = 1 ∨ r = 2 ∨ r = 3 := by omega
  obtain ⟨f1, f2, f3, f4⟩ := fr
  rcases h4 with rfl | rfl | rfl | rfl
  · exact ⟨p, _, 0, .ref p1, rfl, rfl, st_of (sd gp), atI_nat (j := 0) rfl, k p1 x1 H2 f1 hs2 kH (.inl rfl) (sd g1)⟩
  · exact ⟨p, _, 1, .ref p2, rfl, rfl, st_of (sd gp), atI_nat (j := 1) rfl, k p2 x2 H2 f2 hs2 kH (.inr (.inl rfl)) (sd g2)⟩
  · exact ⟨p, _, 2, .ref p3, rfl, rfl, st_of (sd gp), atI_nat (j := 2) rfl, k p3 x3 H2 f3 hs2 kH (.inr (.inr (.inl rfl))) (sd g3)⟩
  · exact ⟨p, _, 3, .ref p4, rfl, rfl, st_of (sd gp), atI_nat (j := 3) rfl, k p4 x4 H2 f4 hs2 kH (.inr (.inr (.inr rfl))) (sd g4)⟩
/-- for k in range(draw) -/
theorem q_forRdraw {j : Nat} (h : EvA t σ H [.ref st, .int many]) (hs : StateAt H st) (h1 : 1 ≤ many) (h2 : many ≤ 1000000) (k : ∀ r H2, 0 ≤ r → r < many → StateAt H2 st → Ks st H H2 → tSeq (tFor (iRng1 (tCons (tC (.int r)) tNil)) (gName j) tu) tz D σ H2) :
    tSeq (tFor (iRng1 (tCons (tCall spDr [] E0 t) tNil)) (gName j) tu) tz D σ H :=
  c_draw (Q := fun v H1 => tSeq (tFor (iRng1 (tCons (tC v) tNil)) (gName j) tu) tz D σ H1) h hs h1 h2 fun r H2 a b c d => k r H2 a b c d
/-- x = (..)[draw] -/
theorem q_ixTdraw {i : Nat} (hx : EvU te σ H xs) (h : EvA t σ H [.ref st, .int many]) (hs : StateAt H st) (h1 : 1 ≤ many) (h2 : many ≤ 1000000) (hl : (xs.length : Int) = many) (k : ∀ v H2, v ∈ xs → StateAt H2 st → Ks st H H2 → tz D (σ.set i (some v)) H2) :
    tSeq (tAsg (tOp (rIxT K) te (tCall spDr [] E0 t)) (gName i)) tz D σ H := by
  show te σ H fun x H1 => tCall spDr [] E0 t σ H1 fun y H2 => rIxT K x y H2 fun v H3 => tz D (σ.set i (some v)) H3
  refine hx H (Ex.refl _) _ fun p H1 hp e1 g1 => ?_
  have hs1 := hs.mono e1
  refine c_draw (h.mono e1) hs1 h1 h2 fun r H2 r0 r1 hs2 k2 => ?_
  obtain ⟨n, hn⟩ := Int.eq_ofNat_of_zero_le r0
  subst hn
  have hn' : n < xs.length := by omega
  have g2 := k2.1 _ _ (st_ne hs1 g1 fun s z => by cases z) g1
  exact ⟨p, xs, (n : Int), xs[n], rfl, rfl, st_of g2, atI_nat (List.getElem?_eq_getElem hn'), k _ H2 (List.getElem_mem _) hs2 ((Ks.of e1).trans k2)⟩
end
section
variable {P : Program} {w : World} {K : PySem.W.Frag} {mg : Str → Option Value} {base : Heap}
def spSc : Sp := fun vs H Q _ => ∃ (st : Addr), vs = [.ref st] ∧ StateAt H st ∧ ∀ p H2 W d l, H p = none → StateAt H2 st → Ks st H H2 → H2 p = some (.tup (schV W d l)) → goodScheme W d l → Q (.ref p) H2
theorem ok_law_scheme (T : Tx0 K mg) : FnOk P w K mg base CX0 2 (a_law_scheme K) (fd_law_scheme K) p_law_scheme spSc := by
  refine okN T.f_law_scheme sc_law_scheme (fun vs H Q E h => ?_) (fun cdv A outer s H vs Q E hr h => ?_)
  · obtain ⟨st, rfl, _⟩ := h
    rfl
  · obtain ⟨st, rfl, hs, k⟩ := h
    refine ⟨_, (pss_cons (ps_if (pt_cmpR op_gt (pe_call (ok_law_draw T) (hr.mono (by decide)) (by rfl) T.m_law_draw T.k_law_draw T.b_law_draw .nil pass0 (pa_cons (pv 0) (pa_cons pe_int pa_nil))) pe_int (by rfl)) (pss_one (ps_ret (pe_ix ix_tup (pe_tup (pa_cons (pe_tup (pa_cons pe_int (pa_cons pe_non (pa_cons pe_int pa_nil)))) (pa_cons (pe_tup (pa_cons pe_int (pa_cons pe_int (pa_cons pe_int pa_nil)))) (pa_cons (pe_tup (pa_cons pe_int (pa_cons pe_int (pa_cons pe_int pa_nil)))) (pa_cons (pe_tup (pa_cons pe_int (pa_cons pe_int (pa_cons pe_int pa_nil)))) pa_nil))))) (pe_call (ok_law_draw T) (hr.mono (by decide)) (by rfl) T.m_law_draw T.k_law_draw T.b_law_draw .nil pass0 (pa_cons (pv 0) (pa_cons pe_int pa_nil))) (fun _ _ => rfl)))) pss_nil)
    (pss_cons (ps_set (i := 1) sc_law_scheme.nd rfl (by first | exact .inl rfl | exact .inr rfl) (pe_call (ok_law_draw T) (hr.mono (by decide)) (by rfl) T.m_law_draw T.k_law_draw T.b_law_draw .nil pass0 (pa_cons (pv 0) (pa_cons pe_int pa_nil))))
    (pss_cons (ps_set (i := 2) sc_law_scheme.nd rfl (by first | exact .inl rfl | exact .inr rfl) (pe_op op_add (pe_op op_add (pv 1) pe_int) (pe_call (ok_law_draw T) (hr.mono (by decide)) (by rfl) T.m_law_draw T.k_law_draw T.b_law_draw .nil pass0 (pa_cons (pv 0) (pa_cons (pe_op op_sub pe_int (pv 1)) pa_nil)))))
    (pss_cons (ps_if (pt_cmpR op_eq (pe_call (ok_law_draw T) (hr.mono (by decide)) (by rfl) T.m_law_draw T.k_law_draw T.b_law_draw .nil pass0 (pa_cons (pv 0) (pa_cons pe_int pa_nil))) pe_int (by rfl)) (pss_one (ps_ret (pe_tup (pa_cons (pv 2) (pa_cons pe_non (pa_cons (pv 1) pa_nil)))))) pss_nil)
    (pss_one (ps_ret (pe_tup (pa_cons (pv 2) (pa_cons (pe_op op_add (pv 1) (pe_call (ok_law_draw T) (hr.mono (by decide)) (by rfl) T.m_law_draw T.k_law_draw T.b_law_draw .nil pass0 (pa_cons (pv 0) (pa_cons (pe_op op_add (pe_op op_sub (pv 2) (pv 1)) pe_int) pa_nil)))) (pa_cons (pv 1) pa_nil)))))))))), ?_⟩
    refine q_ifDraw1 (g := fun r => decide (0 < r)) (c := 0) (fun r H => rv_gt) (ea_cons (ev_var rfl) (ea_cons ev_c ea_nil)) hs (by decide) (by decide) (fun r H1 _ _ hs1 k1 _ => ?_) fun r H1 _ _ hs1 k1 _ => ?_
    · refine s_retIx4 (x1 := schV 1 none 0) (x2 := schV 2 (some 1) 0) (x3 := schV 3 (some 1) 0) (x4 := schV 4 (some 2) 1) (ea_cons ev_c (ea_cons ev_c (ea_cons ev_c ea_nil))) (ea_cons ev_c (ea_cons ev_c (ea_cons ev_c ea_nil))) (ea_cons ev_c (ea_cons ev_c (ea_cons ev_c ea_nil))) (ea_cons ev_c (ea_cons ev_c (ea_cons ev_c ea_nil))) (by decide) (by decide) (by decide) (by decide) (ea_cons (ev_var rfl) (ea_cons ev_c ea_nil)) hs1 fun p x H2 hp hs2 k2 hx h2 => ?_
      have hpH : H p = none := by
        cases hh : H p with
        | none => rfl
        | some o =>
          by_cases e : p = st
          · exact absurd e (hs1.ne hp)
          · rw [k1.1 _ _ e hh] at hp
            cases hp
      rcases hx with rfl | rfl | rfl | rfl
      · exact k p H2 _ _ _ hpH hs2 (k1.trans k2) h2 ⟨by decide, by decide, by decide, fun x hx => by cases hx⟩
      · exact k p H2 _ _ _ hpH hs2 (k1.trans k2) h2 ⟨by decide, by decide, by decide, fun x hx => by cases hx; decide⟩
      · exact k p H2 _ _ _ hpH hs2 (k1.trans k2) h2 ⟨by decide, by decide, by decide, fun x hx => by cases hx; decide⟩
      · exact k p H2 _ _ _ hpH hs2 (k1.trans k2) h2 ⟨by decide, by decide, by decide, fun x hx => by cases hx; decide⟩
    · refine q_draw (ea_cons (ev_var rfl) (ea_cons ev_c ea_nil)) hs1 (by decide) (by decide) fun l H2 l0 l1 hs2 k2 => ?_
      refine q_drawAdd (c := l + 1) (many := 100 - l) (ev_op (ev_var rfl) ev_c rv_add) (ea_cons (ev_var rfl) (ea_cons (ev_op ev_c (ev_var rfl) rv_sub) ea_nil)) hs2 (by omega) (by omega) fun u H3 u0 u1 hs3 k3 => ?_
      refine q_ifDraw1 (g := fun r => decide (r = 0)) (c := 0) (fun r H => rv_eqI) (ea_cons (ev_var rfl) (ea_cons ev_c ea_nil)) hs3 (by decide) (by decide) (fun r H4 _ _ hs4 k4 _ => ?_) fun r H4 _ _ hs4 k4 _ => ?_
      · have kH := ((k1.trans k2).trans k3).trans k4
        refine s_retU (xs := schV (l + 1 + u) none l) (eu_tup (ea_cons (ev_var rfl) (ea_cons ev_c (ea_cons (ev_var rfl) ea_nil))) (show 3 ≤ 100000 by decide)) fun p H5 hp e5 h5 => k p H5 _ _ _ ?_ (hs4.mono e5) (kH.trans (.of e5)) h5 ⟨by omega, by omega, by omega, fun x hx => by cases hx⟩
        cases hh : H p with
        | none => rfl
        | some o =>
          by_cases e : p = st
          · exact absurd e (hs4.ne hp)
          · rw [kH.1 _ _ e hh] at hp
            cases hp
      · have k04 := ((k1.trans k2).trans k3).trans k4
        show tTup (tCons (tVar 2) (tCons (tOp (rI0 fun i j => .int (i + j)) (tVar 1) (tCall spDr [] E0 (tCons (tVar 0) (tCons (tOp (rI0 fun i j => .int (i + j)) (tOp (rI0 fun i j => .int (i - j)) (tVar 2) (tVar 1)) (tC (.int 1))) tNil)))) (tCons (tVar 1) tNil))) [some (.ref st), some (.int l), some (.int (l + 1 + u))] H4 Q
        refine ⟨.int (l + 1 + u), rfl, .int l, rfl, c_draw (many := l + 1 + u - l + 1) (ea_cons (ev_var rfl) (ea_cons (ev_op (ev_op (ev_var rfl) (ev_var rfl) rv_sub) ev_c rv_add) ea_nil)) hs4 (by omega) (by omega) fun v H5 v0 v1 hs5 k5 => ⟨l, v, rfl, rfl, .int l, rfl, sz_of (show 3 ≤ 100000 by decide), fun p hp => ?_⟩⟩
        have kH := k04.trans k5
        refine k p _ (l + 1 + u) (some (l + v)) l ?_ (hs5.mono (Ex.new hp)) (kH.trans (.of (Ex.new hp))) upd_same ⟨by omega, by omega, by omega, fun x hx => by cases hx; constructor <;> omega⟩
        cases hh : H p with
        | none => rfl
        | some o =>
          by_cases e : p = st
          · exact absurd e (hs5.ne hp)
          · rw [kH.1 _ _ e hh] at hp
            cases hp
def spRu : Sp := fun vs H Q _ => ∃ (st : Addr), vs = [.ref st] ∧ StateAt H st ∧ ∀ p H2 rl, H p = none → StateAt H2 st → Ks st H H2 → H2 p = some (.tup (rl.map V.str)) → goodRules rl → Q (.ref p) H2
theorem fresh_ks {st : Addr} {H H1 : Hp} {p : Addr} (k : Ks st H H1) (hs : StateAt H1 st) (h : H1 p = none) : H p = none := by
  cases hh : H p with
  | none => rfl
  | some o =>
    by_cases e : p = st
    · exact absurd e (hs.ne h)
    · rw [k.1 _ _ e hh] at h
      cases h
theorem ok_law_rules (T : Tx0 K mg) : FnOk P w K mg base CX0 2 (a_law_rules K) (fd_law_rules K) p_law_rules spRu := by
  refine okN T.f_law_rules sc_law_rules (fun vs H Q E h => ?_) (fun cdv A outer s H vs Q E hr h => ?_)
  · obtain ⟨st, rfl, _⟩ := h
    rfl
  · obtain ⟨st, rfl, hs, k⟩ := h
    refine ⟨_, (pss_cons (ps_set (i := 1) sc_law_rules.nd rfl (by first | exact .inl rfl | exact .inr rfl) (pe_lst (pa_cons pe_str (pa_cons pe_str (pa_cons pe_str pa_nil)))))
    (pss_cons (ps_set (i := 2) sc_law_rules.nd rfl (by first | exact .inl rfl | exact .inr rfl) (pe_lst (pa_cons pe_str pa_nil)))
    (pss_cons (ps_for PassesOwn.never rfl (pi_range1 (by rfl) T.n_range (pa_cons (pe_call (ok_law_draw T) (hr.mono (by decide)) (by rfl) T.m_law_draw T.k_law_draw T.b_law_draw .nil pass0 (pa_cons (pv 0) (pa_cons pe_int pa_nil))) pa_nil)) (pg_name (i := 3) sc_law_rules.nd rfl (by first | exact .inl rfl | exact .inr rfl)) (pss_one (ps_expr (pe_bm PySem.F.plainAttrs_list PySem.F.slot_list_append PySem.F.type_list_append mt_append (pv 2) (pa_cons (pe_bm PySem.F.plainAttrs_list PySem.F.slot_list_pop PySem.F.type_list_pop mt_popAt (pv 1) (pa_cons (pe_call (ok_law_draw T) (hr.mono (by decide)) (by rfl) T.m_law_draw T.k_law_draw T.b_law_draw .nil pass0 (pa_cons (pv 0) (pa_cons (pe_callB call_len (by rfl) T.n_len (by decide +kernel) (pa_cons (pv 1) pa_nil)) pa_nil))) pa_nil)) pa_nil)))))
    (pss_one (ps_ret (pe_callTy call_tuple_of (by rfl) T.n_tuple (by decide +kernel) (pa_cons (pv 2) pa_nil))))))), ?_⟩
    refine q_asgL (xs := [.str "wins", .str "away", .str "among"]) (el_lst (ea_cons ev_c (ea_cons ev_c (ea_cons ev_c ea_nil))) (show 3 ≤ 100000 by decide)) fun a H1 ha e1 h1 => ?_
    refine q_asgL (xs := [.str "points"]) (el_lst (ea_cons ev_c ea_nil) (show 1 ≤ 100000 by decide)) fun b H2 hb e2 h2 => ?_
    have e12 := e1.trans e2
    have hbH := fresh_back e1 hb
    have nab : a ≠ b := fun e => by
      rw [← e, h1] at hb
      cases hb
    have na : a ≠ st := hs.ne ha
    have nb : b ≠ st := hs.ne hbH
    refine q_forRdraw (ea_cons (ev_var rfl) (ea_cons ev_c ea_nil)) (hs.mono e12) (by decide) (by decide) fun r H3 r0 r4 hs3 k3 => ?_
    have kH : Ks st H H3 := (Ks.of e12).trans k3
    refine q_forR1 (n := r) (ea_cons ev_c ea_nil) (by omega) (fun i σ' H' => ∃ (lf hr : List Str) (v3 : Option V), σ' = [some (.ref st), some (.ref a), some (.ref b), v3] ∧ StateAt H' st ∧ Ks st H H' ∧ H' a = some (.lst (lf.map V.str)) ∧ H' b = some (.lst (hr.map V.str)) ∧ (hr ++ lf).Perm ruleNames ∧ lf.length + i = 3 ∧ hr[0]? = some ("points" : Str)) (fun H4 e4 => ⟨["wins", "away", "among"], ["points"], none, rfl, hs3.mono e4, kH.trans (.of e4), e4 _ _ (k3.1 _ _ na (e2 _ _ h1)), e4 _ _ (k3.1 _ _ nb h2), List.Perm.refl _, rfl, rfl⟩) (fun i σ' H' hi q => ?_) fun σ' H' q => ?_
    · obtain ⟨lf, hr, v3, rfl, hs4, k4, ga, gb, pm, ln, h0⟩ := q
      have hll := lenL (K := K) (sq_of ga)
      rw [List.length_map] at hll
      have hhr : hr.length ≤ 4 := by
        have := pm.length_eq
        rw [List.length_append] at this
        have h5 : ruleNames.length = 4 := rfl
        omega
      show tDrop (tBM K "list" rAppend (tVar 2) (tCons (tBM K "list" rPopAt (tVar 1) (tCons (tCall spDr [] E0 (tCons (tVar 0) (tCons (tCB (fun xs H Q => ∃ x n, xs = [x] ∧ LenV K x H n ∧ Q (.int n) H) (tCons (tVar 1) tNil)) tNil))) tNil)) tNil)) _ [some (.ref st), some (.ref a), some (.ref b), some (.int (i : Int))] H'
      refine ⟨.ref b, rfl, .inl ⟨rfl, _, sq_of gb⟩, .ref a, rfl, .inl ⟨rfl, _, sq_of ga⟩, c_draw (many := (lf.length : Int)) (ea_cons (ev_var rfl) (ea_cons (ev_lenV (ev_var rfl) hll) ea_nil)) hs4 (by omega) (by omega) fun d H5 d0 d1 hs5 k5 => ?_⟩
      obtain ⟨n, hn⟩ := Int.eq_ofNat_of_zero_le d0
      subst hn
      have hn' : n < lf.length := by omega
      have ga5 := k5.1 _ _ na ga
      have gb5 := k5.1 _ _ nb gb
      have k45 := k4.trans k5
      refine ⟨a, lf.map V.str, (n : Int), n, .str lf[n], rfl, rfl, ga5, by omega, by omega, (ixN_seq (ixN_nat (n := (lf.map V.str).length) (j := n) (by rw [List.length_map]; exact hn'))).1, by rw [List.getElem?_map, List.getElem?_eq_getElem hn']; rfl, ?_⟩
      have k6 : Ks st H (upd H5 a (.lst ((lf.map V.str).eraseIdx n))) := k45.mutNew ha na
      have hs6 : StateAt (upd H5 a (.lst ((lf.map V.str).eraseIdx n))) st := hs.mutNew k45 hs5 ha na
      refine ⟨b, hr.map V.str, .str lf[n], rfl, rfl, by rw [upd_ne nab.symm]; exact gb5, sz_lt (by rw [List.length_map]; omega), lf.eraseIdx n, hr ++ [lf[n]], _, rfl, hs.mutNew k6 hs6 hbH nb, k6.mutNew hbH nb, ?_, ?_, ?_, ?_, ?_⟩
      · rw [upd_ne nab, upd_same, erase_map]
      · rw [upd_same, List.map_append]
        rfl
      · refine List.Perm.trans ?_ pm
        rw [List.append_assoc]
        exact List.Perm.append_left _ (erase_perm hn')
      · rw [List.length_eraseIdx_of_lt hn']
        omega
      · cases hr with
        | nil => cases h0
        | cons x y => simpa using h0
    · obtain ⟨lf, hr, v3, rfl, hs4, k4, ga, gb, pm, ln, h0⟩ := q
      have nd : (hr ++ lf).Nodup := pm.nodup_iff.mpr (by decide +kernel)
      refine s_retU (eu_tupL' (ev_var rfl) gb) fun p H5 hp e5 h5 => k p H5 hr (fresh_ks k4 hs4 hp) (hs4.mono e5) (k4.trans (.of e5)) h5 ⟨?_, h0, (List.nodup_append.mp nd).1, fun x hx => pm.mem_iff.mp (List.mem_append_left _ hx)⟩
      have := pm.length_eq
      rw [List.length_append] at this
      have h5 : ruleNames.length = 4 := rfl
      omega
def spBk : Sp := fun vs H Q _ => ∃ (st : Addr), vs = [.ref st] ∧ StateAt H st ∧ ∀ A H2 B, H A.b = none → H A.sds = none → H A.gms = none → H A.gne = none → A.gs = [] → StateAt H2 st → Ks st H H2 → BookAt H2 A B → B.Ok → B.games = [] → B.gone = [] → Q (.ref A.b) H2
theorem ok_law_book (T : Tx0 K mg) : FnOk P w K mg base CX0 3 (a_law_book K) (fd_law_book K) p_law_book spBk := by
  refine okN T.f_law_book sc_law_book (fun vs H Q E h => ?_) (fun cdv A outer s H vs Q E hr h => ?_)
  · obtain ⟨st, rfl, _⟩ := h
    rfl
  · obtain ⟨st, rfl, hs, k⟩ := h
    refine ⟨_, (pss_cons (ps_set (i := 1) sc_law_book.nd rfl (by first | exact .inl rfl | exact .inr rfl) (pe_ix ix_tup (pe_tup (pa_cons pe_int (pa_cons pe_int (pa_cons pe_int (pa_cons pe_int (pa_cons pe_int (pa_cons pe_int (pa_cons pe_int (pa_cons pe_int pa_nil))))))))) (pe_call (ok_law_draw T) (hr.mono (by decide)) (by rfl) T.m_law_draw T.k_law_draw T.b_law_draw .nil pass0 (pa_cons (pv 0) (pa_cons pe_int pa_nil))) (fun _ _ => rfl)))
    (pss_one (ps_ret (pe_disp (pps_cons pe_str (pe_call (ok_law_sides T) (hr.mono (by decide)) (by rfl) T.m_law_sides T.k_law_sides T.b_law_sides .nil pass0 (pa_cons (pv 0) (pa_cons (pv 1) pa_nil))) (pps_cons pe_str (pe_call (ok_law_scheme T) (hr.mono (by decide)) (by rfl) T.m_law_scheme T.k_law_scheme T.b_law_scheme .nil pass0 (pa_cons (pv 0) pa_nil)) (pps_cons pe_str (pe_call (ok_law_rules T) (hr.mono (by decide)) (by rfl) T.m_law_rules T.k_law_rules T.b_law_rules .nil pass0 (pa_cons (pv 0) pa_nil)) (pps_cons pe_str (pe_lst pa_nil) (pps_cons pe_str (pe_lst pa_nil) pps_nil))))) (by rfl) (by rfl) (by intro z; cases z) (by decide))))), ?_⟩
    refine q_ixTdraw (xs := [.int 3, .int 4, .int 4, .int 5, .int 3, .int 2, .int 6, .int 8]) (eu_tup (ea_cons ev_c (ea_cons ev_c (ea_cons ev_c (ea_cons ev_c (ea_cons ev_c (ea_cons ev_c (ea_cons ev_c (ea_cons ev_c ea_nil)))))))) (show 8 ≤ 100000 by decide)) (ea_cons (ev_var rfl) (ea_cons ev_c ea_nil)) hs (by decide) (by decide) rfl fun v H1 hv hs1 k1 => ?_
    obtain ⟨n, n2, n8, rfl⟩ : ∃ n : Nat, 2 ≤ n ∧ n ≤ 8 ∧ v = .int (n : Int) := by
      simp only [List.mem_cons, List.not_mem_nil, or_false] at hv
      rcases hv with rfl | rfl | rfl | rfl | rfl | rfl | rfl | rfl
      · exact ⟨3, by decide, by decide, rfl⟩
      · exact ⟨4, by decide, by decide, rfl⟩
      · exact ⟨4, by decide, by decide, rfl⟩
      · exact ⟨5, by decide, by decide, rfl⟩
      · exact ⟨3, by decide, by decide, rfl⟩
      · exact ⟨2, by decide, by decide, rfl⟩
      · exact ⟨6, by decide, by decide, rfl⟩
      · exact ⟨8, by decide, by decide, rfl⟩
    refine fun p hp => ?_
    have ep : Ex H1 (upd H1 p (.dK [])) := Ex.new hp
    have hsp := hs1.mono ep
    have kp : Ks st H (upd H1 p (.dK [])) := k1.trans (.of ep)
    have pH := fresh_ks k1 hs1 hp
    have npst := hs1.ne hp
    have gp : (upd H1 p (.dK [])) p = some (.dK []) := upd_same
    generalize upd H1 p (.dK []) = H2 at *
    show tCall spLs [] E0 (tCons (tVar 0) (tCons (tVar 1) tNil)) [some (.ref st), some (.int (n : Int))] H2 _
    refine c_call (ea_cons (ev_var rfl) (ea_cons (ev_var rfl) ea_nil)) fun H3 e3 => ⟨st, n, rfl, hsp.mono e3, n2, n8, fun sd H4 S hsd hs4 k4 gS okS => ?_⟩
    show tCall spSc [] E0 (tCons (tVar 0) tNil) [some (.ref st), some (.int (n : Int))] H4 _
    refine c_call (ea_cons (ev_var rfl) ea_nil) fun H5 e5 => ⟨st, rfl, hs4.mono e5, fun sc H6 W d l hsc hs6 k6 gSc okSc => ?_⟩
    show tCall spRu [] E0 (tCons (tVar 0) tNil) [some (.ref st), some (.int (n : Int))] H6 _
    refine c_call (ea_cons (ev_var rfl) ea_nil) fun H7 e7 => ⟨st, rfl, hs6.mono e7, fun rl H8 R hrl hs8 k8 gR okR => ?_⟩
    refine ⟨sz_of (show 0 ≤ 100000 by decide), fun gm hgm => ⟨sz_of (show 0 ≤ 100000 by decide), fun gn hgn => ?_⟩⟩
    have e9 : Ex H8 (upd H8 gm (.lst [])) := Ex.new hgm
    have e10 : Ex (upd H8 gm (.lst [])) (upd (upd H8 gm (.lst [])) gn (.lst [])) := Ex.new hgn
    have e8X := e9.trans e10
    have gmX : (upd (upd H8 gm (.lst [])) gn (.lst [])) gm = some (.lst []) := e10 _ _ upd_same
    have gnX : (upd (upd H8 gm (.lst [])) gn (.lst [])) gn = some (.lst []) := upd_same
    generalize upd (upd H8 gm (.lst [])) gn (.lst []) = HX at *
    have k3 : Ks st H H3 := kp.trans (.of e3)
    have k04 := k3.trans k4
    have k05 := k04.trans (.of e5)
    have k06 := k05.trans k6
    have k07 := k06.trans (.of e7)
    have k08 := k07.trans k8
    have k2X : Ks st H2 HX := ((((((Ks.of e3).trans k4).trans (.of e5)).trans k6).trans (.of e7)).trans k8).trans (.of e8X)
    have sdH := fresh_ks k3 (hsp.mono e3) hsd
    have scH := fresh_ks k05 (hs4.mono e5) hsc
    have rlH := fresh_ks k07 (hs6.mono e7) hrl
    have gmH := fresh_ks k08 hs8 hgm
    have gnH := fresh_ks k08 hs8 (fresh_back e9 hgn)
    have gpX := k2X.1 _ _ npst gp
    have gSX := (((((Ks.of e5).trans k6).trans (.of e7)).trans k8).trans (.of e8X)).1 _ _ (hs.ne sdH) gS
    have gScX := (((Ks.of e7).trans k8).trans (.of e8X)).1 _ _ (hs.ne scH) gSc
    have gRX := e8X _ _ gR
    have nsg : sd ≠ gm := fun e => by
      have := ((((Ks.of e5).trans k6).trans (.of e7)).trans k8).1 _ _ (hs.ne sdH) gS
      rw [e, hgm] at this
      cases this
    have nsn : sd ≠ gn := fun e => by
      have := e9 _ _ (((((Ks.of e5).trans k6).trans (.of e7)).trans k8).1 _ _ (hs.ne sdH) gS)
      rw [e, hgn] at this
      cases this
    have ngn : gm ≠ gn := fun e => by
      rw [← e, upd_same] at hgn
      cases hgn
    have kX : Ks st H HX := k08.trans (.of e8X)
    have hsX := hs8.mono e8X
    have pne : ∀ {b : Addr} {o : HO}, HX b = some o → o ≠ .dK [] → b ≠ p := fun {b o} hb ho e => by
      rw [e, gpX] at hb
      cases hb
      exact ho rfl
    refine ⟨gpX, [(.inr "sides", .ref sd), (.inr "scheme", .ref sc), (.inr "rules", .ref rl), (.inr "games", .ref gm), (.inr "gone", .ref gn)], rfl, show 5 ≤ 15 by decide, ?_⟩
    refine k ⟨p, sd, sc, rl, gm, gn, []⟩ _ ⟨S, W, d, l, R, [], []⟩ pH sdH gmH gnH rfl (hs.mutNew kX hsX pH npst) (kX.mutNew pH npst) ⟨upd_same, ?_, ?_, ?_, ?_, ?_, rfl, fun i t g h => by simp at h, ?_⟩ ⟨okS, okSc, okR, show 0 ≤ 80 by decide, fun g hg => (by cases hg), fun g hg => (by cases hg), fun _ g hg => (by cases hg), fun x hx => (by cases hx), List.nodup_nil, fun g hg => (by cases hg)⟩ rfl rfl
    · rw [upd_ne (pne gSX (fun z => by cases z))]; exact gSX
    · rw [upd_ne (pne gScX (fun z => by cases z))]; exact gScX
    · rw [upd_ne (pne gRX (fun z => by cases z))]; exact gRX
    · rw [upd_ne (pne gmX (fun z => by cases z))]; exact gmX
    · rw [upd_ne (pne gnX (fun z => by cases z))]; exact gnX
    · simp [nsg, nsn, ngn]
end
end Lw

/-! X1 -/
/-! A league with its book: what a change of one leaves of all else. -/
namespace Lw
open PySem PySem.Spec PyProof.Rows L2 Evl Mt
/-! ### data after a change -/
theorem ok_add {B : Bk} (ok : B.Ok) {h a : Str} (h1 : h ∈ B.sides) (h2 : h ∉ B.gone) (a1 : a ∈ B.sides) (a2 : a ∉ B.gone) (ne : h ≠ a) (lt : B.games.length < 80) : ({ B with games := B.games ++ [(h, a, ("left" : Str))] } : Bk).Ok := by
  have mem : ∀ {p : Game → Prop}, (∀ g ∈ B.games, p g) → p (h, a, "left") → ∀ g ∈ B.games ++ [(h, a, ("left" : Str))], p g := fun {p} hp hl g hg => by
    rcases List.mem_append.mp hg with hg | hg
    · exact hp g hg
    · rw [List.mem_singleton] at hg
      rw [hg]
      exact hl
  refine ⟨ok.sides, ok.scheme, ok.rules, ?_, mem ok.ins ⟨h1, a1, ne⟩, mem ok.st (.inl rfl), fun hd => mem (ok.dr hd) (show ("left" : Str) ≠ "draw" by decide +kernel), ok.gone, ok.gnd, mem ok.off fun z => ?_⟩
  · show (B.games ++ [(h, a, ("left" : Str))]).length ≤ 80
    rw [List.length_append]
    simp
    omega
  · rcases z with z | z
    · exact absurd z h2
    · exact absurd z a2
theorem ok_put {B : Bk} (ok : B.Ok) {i : Nat} {g : Game} (hf : FreeAt B i g) {s : Str} (hs : isState s) (hd : B.draw = none → s ≠ "draw") : (putG B i g s).Ok := by
  obtain ⟨hg, f1, f2⟩ := hf
  have hgm := List.mem_of_getElem? hg
  have mem : ∀ {p : Game → Prop}, (∀ g ∈ B.games, p g) → p (g.1, g.2.1, s) → ∀ x ∈ B.games.set i (g.1, g.2.1, s), p x := fun {p} hp hl x hx => by
    rcases List.mem_or_eq_of_mem_set hx with hx | hx
    · exact hp x hx
    · rw [hx]
      exact hl
  refine ⟨ok.sides, ok.scheme, ok.rules, ?_, mem ok.ins (ok.ins g hgm), mem ok.st hs, fun h => mem (ok.dr h) (hd h), ok.gone, ok.gnd, mem ok.off fun z => ?_⟩
  · show (B.games.set i _).length ≤ 80
    rw [List.length_set]
    exact ok.many
  · rcases z with z | z
    · exact absurd z f1
    · exact absurd z f2
theorem offOf_1 (x : Str) (g : Game) : (offOf x g).1 = g.1 ∧ (offOf x g).2.1 = g.2.1 := by
  unfold offOf
  split <;> exact ⟨rfl, rfl⟩
theorem ok_wd {B : Bk} (ok : B.Ok) {x : Str} (h1 : x ∈ B.sides) (h2 : x ∉ B.gone) : ({ B with gone := B.gone ++ [x], games := B.games.map (offOf x) } : Bk).Ok := by
  have mem : ∀ {p : Game → Prop}, (∀ g ∈ B.games, p (offOf x g)) → ∀ y ∈ B.games.map (offOf x), p y := fun {p} hp y hy => by
    obtain ⟨g, hg, rfl⟩ := List.mem_map.mp hy
    exact hp g hg
  have same : ∀ g, offOf x g = g ∨ (offOf x g).2.2 = "off" := fun g => by
    unfold offOf
    split
    · exact .inr rfl
    · exact .inl rfl
  refine ⟨ok.sides, ok.scheme, ok.rules, ?_, mem fun g hg => ?_, mem fun g hg => ?_, fun hd => mem fun g hg => ?_, fun y hy => ?_, ?_, mem fun g hg hz => ?_⟩
  · show (B.games.map (offOf x)).length ≤ 80
    rw [List.length_map]
    exact ok.many
  · rw [(offOf_1 x g).1, (offOf_1 x g).2]
    exact ok.ins g hg
  · rcases same g with e | e
    · rw [e]; exact ok.st g hg
    · rw [e]; exact .inr (.inl rfl)
  · rcases same g with e | e
    · rw [e]; exact ok.dr hd g hg
    · rw [e]; decide +kernel
  · rcases List.mem_append.mp hy with hy | hy
    · exact ok.gone y hy
    · rw [List.mem_singleton] at hy
      rw [hy]
      exact h1
  · exact List.nodup_append.mpr ⟨ok.gnd, by simp, fun a ha b hb e => by
      rw [List.mem_singleton] at hb
      rw [hb] at e
      exact h2 (e ▸ ha)⟩
  · rw [(offOf_1 x g).1, (offOf_1 x g).2] at hz
    by_cases c : x = g.1 ∨ x = g.2.1
    · unfold offOf
      rw [if_pos c]
    · have e : offOf x g = g := by
        unfold offOf
        rw [if_neg c]
      rw [e]
      refine ok.off g hg ?_
      have n1 : ¬ g.1 = x := fun z => c (.inl z.symm)
      have n2 : ¬ g.2.1 = x := fun z => c (.inr z.symm)
      simpa [n1, n2] using hz
/-! ### the league and the book in the heap -/
/-- what a change may change -/
def Foot (L : LgAd) (A : BkAd) (b : Addr) : Prop := b = L.l ∨ b = L.lr ∨ b = A.gms ∨ b = A.gne ∨ b ∈ A.gs
/-- the book's lists -/
def bkL (A : BkAd) (b : Addr) : Prop := b = A.gms ∨ b = A.gne ∨ b ∈ A.gs
section
variable {K : PySem.W.Frag} {H H' : Hp} {L : LgAd} {A : BkAd} {B B2 : Bk} {nm : List Str} {st : Addr}
theorem kp_tup {W : Addr → Prop} (k : Kp W H H') (hW : ∀ b, W b → ∃ o, H b = some o ∧ (∀ t, o ≠ .tup t)) {b : Addr} {t : List V} (h : H b = some (.tup t)) : H' b = some (.tup t) := k b _ (fun w => by
  obtain ⟨o, h1, h2⟩ := hW b w
  rw [h] at h1
  cases h1
  exact h2 t rfl) h
theorem LgAt.kinds (h : LgAt K H L B nm) : ∀ b, LgW L b → ∃ o, H b = some o ∧ (∀ t, o ≠ .tup t) ∧ (∀ kvs, o ≠ .dK kvs) := fun b hb => by
  rcases hb with rfl | rfl
  · exact ⟨_, h.ob, fun t z => (by cases z), fun t z => (by cases z)⟩
  · exact ⟨_, h.rw, fun t z => (by cases z), fun t z => (by cases z)⟩
theorem mem_rowL {A : BkAd} {B : Bk} (h : BookAt H A B) {b : Addr} (hb : b ∈ A.gs) : ∃ g, H b = some (.lst (rowV g)) := by
  obtain ⟨i, hi⟩ := List.mem_iff_getElem?.mp hb
  obtain ⟨g, _, hg⟩ := h.row hi
  exact ⟨g, hg⟩
theorem BookAt.kinds (h : BookAt H A B) : ∀ b, bkL A b → ∃ xs, H b = some (.lst xs) := fun b hb => by
  rcases hb with rfl | rfl | hb
  · exact ⟨_, h.gm⟩
  · exact ⟨_, h.gn⟩
  · obtain ⟨g, hg⟩ := mem_rowL h hb
    exact ⟨_, hg⟩
/-- the book stands where the league changes -/
theorem BookAt.keepL (h : BookAt H A B) (hl : LgAt K H L B2 nm) (hn : L.lr ∉ A.sds :: A.gms :: A.gne :: A.gs) (k : Kp (LgW L) H H') : BookAt H' A B := by
  have n1 : ∀ {b : Addr} {xs : List V}, H b = some (.lst xs) → b ∈ A.sds :: A.gms :: A.gne :: A.gs → H' b = some (.lst xs) := fun {b xs} hb hm => k b _ (fun w => by
    rcases w with rfl | rfl
    · rw [hl.ob] at hb
      cases hb
    · exact hn hm) hb
  have n2 : ∀ {b : Addr} {xs : List V}, H b = some (.tup xs) → H' b = some (.tup xs) := fun {b xs} hb => k b _ (fun w => by
    obtain ⟨o, h1, h2, _⟩ := hl.kinds b w
    rw [hb] at h1
    cases h1
    exact h2 _ rfl) hb
  refine ⟨k _ _ (fun w => ?_) h.ob, n1 h.sd (by simp), n2 h.sc, n2 h.rl, n1 h.gm (by simp), n1 h.gn (by simp), h.ln, fun i t g a b => n1 (h.ro i t g a b) (by simp [List.mem_of_getElem? a]), h.nd⟩
  obtain ⟨o, h1, _, h2⟩ := hl.kinds _ w
  rw [h.ob] at h1
  cases h1
  exact h2 _ rfl
/-- the league stands where the book changes -/
theorem LgAt.keepB (h : LgAt K H L B nm) (hb : BookAt H A B2) (hn : L.lr ∉ A.sds :: A.gms :: A.gne :: A.gs) (k : Kp (bkL A) H H') : LgAt K H' L B nm := by
  have n2 : ∀ {b : Addr} {o : HO}, H b = some o → (∀ xs, o ≠ .lst xs) → H' b = some o := fun {b o} hb2 ho => k b _ (fun w => by
    obtain ⟨xs, h1⟩ := hb.kinds b w
    rw [hb2] at h1
    cases h1
    exact ho _ rfl) hb2
  refine ⟨n2 h.ob fun xs z => (by cases z), n2 h.nm fun xs z => (by cases z), n2 h.wt fun xs z => (by cases z), n2 h.rk fun xs z => (by cases z), k _ _ (fun w => hn ?_) h.rw, n2 h.gn fun xs z => (by cases z), h.ln, fun i t g a b => n2 (h.ro i t g a b) fun xs z => (by cases z), h.mm⟩
  rcases w with w | w | w
  · simp [w]
  · simp [w]
  · simp [w]
/-- a game laid -/
theorem BookAt.addG (h : BookAt H A B) {H1 : Hp} (e : Ex H H1) {t : Addr} {g : Game} (ht : H t = none) (h1 : H1 t = some (.lst (rowV g))) :
    BookAt (upd H1 A.gms (.lst (A.gs.map V.ref ++ [.ref t]))) { A with gs := A.gs ++ [t] } { B with games := B.games ++ [g] } := by
  have b1 := h.mono e
  have nd := h.nd
  have ngm : A.sds ≠ A.gms ∧ A.gne ≠ A.gms ∧ ∀ a ∈ A.gs, a ≠ A.gms := by
    simp only [List.nodup_cons, List.mem_cons, not_or] at nd
    exact ⟨nd.1.1, fun z => nd.2.1.1 z.symm, fun a ha z => nd.2.1.2 (z ▸ ha)⟩
  have ntm : t ≠ A.gms := fun z => by
    rw [z, h.gm] at ht
    cases ht
  have u : ∀ {b : Addr} {o : HO}, b ≠ A.gms → H1 b = some o → (upd H1 A.gms (.lst (A.gs.map V.ref ++ [.ref t]))) b = some o := fun {b o} n hb => by
    rw [upd_ne n]
    exact hb
  have kd : ∀ {b : Addr} {o : HO}, H1 b = some o → (∀ xs, o ≠ .lst xs) → b ≠ A.gms := fun {b o} hb ho z => by
    rw [z, b1.gm] at hb
    cases hb
    exact ho _ rfl
  refine ⟨u (kd b1.ob fun xs z => (by cases z)) b1.ob, u ngm.1 b1.sd, u (kd b1.sc fun xs z => (by cases z)) b1.sc, u (kd b1.rl fun xs z => (by cases z)) b1.rl, ?_, u ngm.2.1 b1.gn, ?_, ?_, ?_⟩
  · show (upd H1 A.gms _) A.gms = _
    rw [upd_same, List.map_append]
    rfl
  · show (A.gs ++ [t]).length = (B.games ++ [g]).length
    rw [List.length_append, List.length_append, h.ln]
    rfl
  · intro i t' g' q1 q2
    by_cases hi : i < A.gs.length
    · rw [List.getElem?_append_left hi] at q1
      rw [List.getElem?_append_left (by rw [← h.ln]; exact hi)] at q2
      exact u (ngm.2.2 _ (List.mem_of_getElem? q1)) (b1.ro i t' g' q1 q2)
    · have hi2 := (List.getElem?_eq_some_iff.mp q1).1
      rw [List.length_append] at hi2
      have e1 : i = A.gs.length := by simp at hi2; omega
      subst e1
      have e2 : t = t' := by simpa using q1
      have e3 : g = g' := by
        rw [h.ln] at q2
        simpa using q2
      subst e2 e3
      exact u ntm h1
  · have hnew : ∀ {b : Addr} {o : HO}, H b = some o → b ≠ t := fun {b o} hb z => by
      rw [z, ht] at hb
      cases hb
    have q1 := hnew h.sd
    have q2 := hnew h.gm
    have q3 := hnew h.gn
    have q4 : ∀ a ∈ A.gs, a ≠ t := fun a ha => by
      obtain ⟨g', hg'⟩ := mem_rowL h ha
      exact hnew hg'
    show (A.sds :: A.gms :: A.gne :: (A.gs ++ [t])).Nodup
    have : (A.sds :: A.gms :: A.gne :: (A.gs ++ [t])) = (A.sds :: A.gms :: A.gne :: A.gs) ++ [t] := rfl
    rw [this]
    refine List.nodup_append.mpr ⟨nd, by simp, fun a ha b hb z => ?_⟩
    rw [List.mem_singleton] at hb
    rw [hb] at z
    simp only [List.mem_cons] at ha
    rcases ha with rfl | rfl | rfl | ha
    · exact q1 z
    · exact q2 z
    · exact q3 z
    · exact q4 a ha z
/-- a game's state changed -/
theorem BookAt.setG (h : BookAt H A B) {H1 : Hp} (e : Ex H H1) {i : Nat} {t : Addr} {g : Game} (hg : B.games[i]? = some g) (ht : A.gs[i]? = some t) (s : Str) :
    BookAt (upd H1 t (.lst (rowV (g.1, g.2.1, s)))) A (putG B i g s) := by
  have b1 := h.mono e
  have nd := h.nd
  have htm := List.mem_of_getElem? ht
  simp only [List.nodup_cons, List.mem_cons, not_or] at nd
  have htr := b1.ro i t g ht hg
  have u : ∀ {b : Addr} {o : HO}, b ≠ t → H1 b = some o → (upd H1 t (.lst (rowV (g.1, g.2.1, s)))) b = some o := fun {b o} n hb => by
    rw [upd_ne n]
    exact hb
  have kd : ∀ {b : Addr} {o : HO}, H1 b = some o → (∀ xs, o ≠ .lst xs) → b ≠ t := fun {b o} hb ho z => by
    rw [z, htr] at hb
    cases hb
    exact ho _ rfl
  refine ⟨u (kd b1.ob fun xs z => (by cases z)) b1.ob, u (fun z => nd.1.2.2 (z ▸ htm)) b1.sd, u (kd b1.sc fun xs z => (by cases z)) b1.sc, u (kd b1.rl fun xs z => (by cases z)) b1.rl, u (fun z => nd.2.1.2 (z ▸ htm)) b1.gm, u (fun z => nd.2.2.1 (z ▸ htm)) b1.gn, ?_, ?_, h.nd⟩
  · show A.gs.length = (B.games.set i _).length
    rw [List.length_set]
    exact h.ln
  · intro j t' g' q1 q2
    rcases set_getq q2 with ⟨e1, e2⟩ | ⟨n1, q2⟩
    · subst e1
      rw [ht] at q1
      cases q1
      rw [upd_same, ← e2]
    · have nt : t' ≠ t := fun z => by
        rw [z] at q1
        have hlt := (List.getElem?_eq_some_iff.mp ht).1
        exact n1 ((List.getElem?_inj hlt nd.2.2.2).mp (ht.trans q1.symm))
      exact u nt (b1.ro j t' g' q1 q2)
/-- a side gone -/
theorem BookAt.goneG (h : BookAt H A B) {H1 : Hp} (e : Ex H H1) (x : Str) : BookAt (upd H1 A.gne (.lst (B.gone.map V.str ++ [.str x]))) A { B with gone := B.gone ++ [x] } := by
  have b1 := h.mono e
  have nd := h.nd
  simp only [List.nodup_cons, List.mem_cons, not_or] at nd
  have u : ∀ {b : Addr} {o : HO}, b ≠ A.gne → H1 b = some o → (upd H1 A.gne (.lst (B.gone.map V.str ++ [.str x]))) b = some o := fun {b o} n hb => by
    rw [upd_ne n]
    exact hb
  have kd : ∀ {b : Addr} {o : HO}, H1 b = some o → (∀ xs, o ≠ .lst xs) → b ≠ A.gne := fun {b o} hb ho z => by
    rw [z, b1.gn] at hb
    cases hb
    exact ho _ rfl
  refine ⟨u (kd b1.ob fun xs z => (by cases z)) b1.ob, u nd.1.2.1 b1.sd, u (kd b1.sc fun xs z => (by cases z)) b1.sc, u (kd b1.rl fun xs z => (by cases z)) b1.rl, u nd.2.1.1 b1.gm, ?_, h.ln, fun i t g q1 q2 => u (fun z => nd.2.2.1 (z ▸ List.mem_of_getElem? q1)) (b1.ro i t g q1 q2), h.nd⟩
  show (upd H1 A.gne _) A.gne = _
  rw [upd_same, List.map_append]
  rfl
/-- league and book, as one -/
structure Sys (K : PySem.W.Frag) (H : Hp) (L : LgAd) (A : BkAd) (B : Bk) : Prop where
  lg : LgAt K H L B B.sides
  bk : BookAt H A B
  ok : B.Ok
  ds : L.lr ∉ A.sds :: A.gms :: A.gne :: A.gs
theorem Sys.mono (h : Sys K H L A B) (e : Ex H H') : Sys K H' L A B := ⟨h.lg.mono e, h.bk.mono e, h.ok, h.ds⟩
theorem Sys.kinds (h : Sys K H L A B) : ∀ b, Foot L A b → ∃ o, H b = some o ∧ (∀ t, o ≠ .tup t) ∧ (∀ kvs, o ≠ .dK kvs) := fun b hb => by
  rcases hb with hb | hb | hb | hb | hb
  · exact h.lg.kinds b (.inl hb)
  · exact h.lg.kinds b (.inr hb)
  · subst hb
    exact ⟨_, h.bk.gm, fun t z => (by cases z), fun t z => (by cases z)⟩
  · subst hb
    exact ⟨_, h.bk.gn, fun t z => (by cases z), fun t z => (by cases z)⟩
  · obtain ⟨g, hg⟩ := mem_rowL h.bk hb
    exact ⟨_, hg, fun t z => (by cases z), fun t z => (by cases z)⟩
/-- the state, the system, the state's cells apart from what changes -/
structure InvS (K : PySem.W.Frag) (H : Hp) (st : Addr) (L : LgAd) (A : BkAd) (B : Bk) : Prop where
  sa : StateAt H st
  sy : Sys K H L A B
  cl : ∀ s, H st = some (.dK (kvs7 s)) → ¬ Foot L A s.cl
/-- all but st and F stands, the state's cells are the same list -/
def Kc (st : Addr) (F : Addr → Prop) (H H' : Hp) : Prop := Kp (fun b => b = st ∨ F b) H H' ∧ ∀ o, H st = some o → ∃ o2, H' st = some o2 ∧ cl1 o2 = cl1 o
structure StepS (st : Addr) (H H' : Hp) (L : LgAd) (A : BkAd) (L' : LgAd) (A' : BkAd) : Prop where
  l : L'.l = L.l
  b : A'.b = A.b
  sd : A'.sds = A.sds
  kc : Kc st (Foot L A) H H'
  ft : ∀ b, Foot L' A' b → Foot L A b ∨ H b = none
theorem Kc.of {F : Addr → Prop} (e : Ex H H') : Kc st F H H' := ⟨.of e, fun o h => ⟨o, e _ _ h, rfl⟩⟩
theorem Kc.ks {F : Addr → Prop} (k : Ks st H H') : Kc st F H H' := ⟨fun b o n h => k.1 b o (fun z => n (.inl z)) h, k.2⟩
theorem StepS.ks (k : Ks st H H') : StepS st H H' L A L A := ⟨rfl, rfl, rfl, .ks k, fun b h => .inl h⟩
theorem StepS.of (e : Ex H H') : StepS st H H' L A L A := .ks (.of e)
theorem StepS.trans {H1 H2 : Hp} {L1 L2 : LgAd} {A1 A2 : BkAd} (a : StepS st H H1 L A L1 A1) (b : StepS st H1 H2 L1 A1 L2 A2) : StepS st H H2 L A L2 A2 := by
  refine ⟨b.l.trans a.l, b.b.trans a.b, b.sd.trans a.sd, ⟨a.kc.1.step b.kc.1 fun x hx => ?_, fun o h => ?_⟩, fun x hx => ?_⟩
  · rcases hx with hx | hx
    · exact .inl (.inl hx)
    · exact (a.ft x hx).imp .inr id
  · obtain ⟨o1, h1, e1⟩ := a.kc.2 o h
    obtain ⟨o2, h2, e2⟩ := b.kc.2 o1 h1
    exact ⟨o2, h2, e2.trans e1⟩
  · rcases b.ft x hx with h | h
    · exact a.ft x h
    · by_cases hf : Foot L A x
      · exact .inl hf
      · cases hh : H x with
        | none => exact .inr rfl
        | some o =>
          by_cases hs : x = st
          · subst hs
            obtain ⟨o2, h2, _⟩ := a.kc.2 o hh
            rw [h] at h2
            cases h2
          · rw [a.kc.1 x o (fun z => z.elim hs hf) hh] at h
            cases h
theorem Kc.cl {F : Addr → Prop} {s s' : S7} (a : Kc st F H H') (h : H st = some (.dK (kvs7 s))) (h' : H' st = some (.dK (kvs7 s'))) : s'.cl = s.cl := by
  obtain ⟨o, h1, e⟩ := a.2 _ h
  rw [h'] at h1
  cases h1
  exact Option.some.inj e
/-- draws leave the system -/
theorem InvS.kst (h : InvS K H st L A B) (k : Ks st H H') (hs : StateAt H' st) : InvS K H' st L A B :=
  ⟨hs, ⟨h.sy.lg.kst h.sa k, h.sy.bk.kst h.sa k, h.sy.ok, h.sy.ds⟩, fun s hh => by
    obtain ⟨s0, c0, q0, _⟩ := h.sa
    rw [k.cl q0 hh]
    exact h.cl s0 q0⟩
theorem InvS.mono (h : InvS K H st L A B) (e : Ex H H') : InvS K H' st L A B := h.kst (.of e) (h.sa.mono e)
theorem foot_st (h : InvS K H st L A B) {b : Addr} (hb : Foot L A b) : b ≠ st := fun e => by
  obtain ⟨o, h1, _, h2⟩ := h.sy.kinds b hb
  obtain ⟨s0, c0, q0, _⟩ := h.sa
  rw [e, q0] at h1
  cases h1
  exact h2 _ rfl
/-- a change of the system's own addresses: the state stands -/
theorem InvS.sa_keep (h : InvS K H st L A B) (k : Kp (Foot L A) H H') : StateAt H' st ∧ H' st = H st := by
  obtain ⟨s0, c0, q0, q1, q2⟩ := h.sa
  have g0 := k _ _ (fun w => foot_st h w rfl) q0
  exact ⟨⟨s0, c0, g0, k _ _ (h.cl s0 q0) q1, q2⟩, by rw [g0, q0]⟩
/-- a change, told as a step -/
theorem InvS.step {L' : LgAd} {A' : BkAd} {B' : Bk} (h : InvS K H st L A B) (k : Kp (Foot L A) H H') (hl : L'.l = L.l) (hb : A'.b = A.b) (hsd : A'.sds = A.sds) (ft : ∀ b, Foot L' A' b → Foot L A b ∨ H b = none) (sy : Sys K H' L' A' B') : InvS K H' st L' A' B' ∧ StepS st H H' L A L' A' := by
  obtain ⟨s1, s2⟩ := h.sa_keep k
  refine ⟨⟨s1, sy, fun s hh hf => ?_⟩, hl, hb, hsd, ⟨fun b o n e => k b o (fun w => n (.inr w)) e, fun o e => ⟨o, by rw [s2]; exact e, rfl⟩⟩, ft⟩
  rw [s2] at hh
  rcases ft _ hf with hf | hf
  · exact h.cl s hh hf
  · obtain ⟨s0, c0, q0, q1, q2⟩ := h.sa
    rw [q0] at hh
    have e : kvs7 s0 = kvs7 s := HO.dK.inj (Option.some.inj hh)
    have e2 : s0.cl = s.cl := by
      have := congrArg (fun l => cl1 (.dK l)) e
      exact Option.some.inj this
    rw [← e2, q1] at hf
    cases hf
/-- what another system's change leaves -/
theorem Sys.apart {L2 : LgAd} {A2 : BkAd} {B2 : Bk} (h : Sys K H L A B) (h2 : Sys K H L2 A2 B2) (hs : StateAt H st) (ap : ∀ b, Foot L A b → ¬ (Foot L2 A2 b ∨ b = A2.sds)) (k : Kc st (Foot L A) H H') : Sys K H' L2 A2 B2 := by
  have n2 : ∀ {b : Addr} {t : List V}, H b = some (.tup t) → H' b = some (.tup t) := fun {b t} hb => k.1 b _ (fun w => by
    rcases w with w | w
    · exact st_ne hs hb (fun s z => by cases z) w
    · obtain ⟨o, h1, h3, _⟩ := h.kinds b w
      rw [hb] at h1
      cases h1
      exact h3 _ rfl) hb
  have n3 : ∀ {b : Addr} {o : HO}, (Foot L2 A2 b ∨ b = A2.sds) → H b = some o → (∀ s, o ≠ .dK (kvs7 s)) → H' b = some o := fun {b o} hf hb ho => k.1 b _ (fun w => by
    rcases w with w | w
    · exact st_ne hs hb ho w
    · exact ap b w hf) hb
  refine ⟨⟨n3 (.inl (.inl rfl)) h2.lg.ob fun s z => (by cases z), n2 h2.lg.nm, n2 h2.lg.wt, n2 h2.lg.rk, n3 (.inl (.inr (.inl rfl))) h2.lg.rw fun s z => (by cases z), n2 h2.lg.gn, h2.lg.ln, fun i t g a b => n2 (h2.lg.ro i t g a b), h2.lg.mm⟩,
    ⟨k.1 _ _ (fun w => ?_) h2.bk.ob, n3 (.inr rfl) h2.bk.sd fun s z => (by cases z), n2 h2.bk.sc, n2 h2.bk.rl, n3 (.inl (.inr (.inr (.inl rfl)))) h2.bk.gm fun s z => (by cases z), n3 (.inl (.inr (.inr (.inr (.inl rfl))))) h2.bk.gn fun s z => (by cases z), h2.bk.ln, fun i t g a b => n3 (.inl (.inr (.inr (.inr (.inr (List.mem_of_getElem? a)))))) (h2.bk.ro i t g a b) fun s z => (by cases z), h2.bk.nd⟩, h2.ok, h2.ds⟩
  rcases w with w | w
  · exact st_ne hs h2.bk.ob (fun s z => by cases z) w
  · obtain ⟨o, h1, _, h3⟩ := h.kinds _ w
    rw [h2.bk.ob] at h1
    cases h1
    exact h3 _ rfl
end
end Lw

/-! X2 -/
/-! The law's additions, changes. -/
namespace Lw
open PySem PySem.Spec PyProof.Rows L2 Evl Mt
/-- the sides that are there -/
def avail (B : Bk) : List Str := B.sides.filter fun x => !decide (x ∈ B.gone)
theorem avail_mem {B : Bk} {x : Str} : x ∈ avail B ↔ x ∈ B.sides ∧ x ∉ B.gone := by
  unfold avail
  rw [List.mem_filter]
  simp
theorem avail_nd {B : Bk} (ok : B.Ok) : (avail B).Nodup := ok.sides.2.2.1.filter _
theorem avail_len {B : Bk} (ok : B.Ok) : (avail B).length ≤ 8 := Nat.le_trans (List.length_filter_le _ _) ok.sides.2.1
theorem avail_pos {B : Bk} (ok : B.Ok) (h : B.gone.length < B.sides.length) : 0 < (avail B).length := by
  by_cases e : avail B = []
  · exfalso
    have : ∀ x ∈ B.sides, x ∈ B.gone := fun x hx => by
      by_cases hg : x ∈ B.gone
      · exact hg
      · have := avail_mem.mpr ⟨hx, hg⟩
        rw [e] at this
        cases this
    have := nodup_le ok.sides.2.2.1 this
    omega
  · exact List.length_pos_iff.mpr e
section
variable {K : PySem.W.Frag} {σ : L2.St} {H H' : Hp} {ta te tm : TE} {t : TA} {a st C dx : Addr} {many : Int} {D : Ends} {tz : TS} {vs dvs : List V} {sp : Sp} {E : XK} {m : Str} {fs : List (Str × V)} {L : LgAd} {A : BkAd} {B : Bk}
/-- x = (e + draw) % n -/
theorem q_drawMod {i : Nat} {c n : Int} (hc : Ev te σ H (.int c)) (h : EvA t σ H [.ref st, .int many]) (hs : StateAt H st) (h1 : 1 ≤ many) (h2 : many ≤ 1000000) (hn : 0 < n) (hm : ∀ H2, StateAt H2 st → Ks st H H2 → Ev tm σ H2 (.int n)) (k : ∀ r H2, 0 ≤ r → r < many → StateAt H2 st → Ks st H H2 → tz D (σ.set i (some (.int ((c + r) % n)))) H2) :
    tSeq (tAsg (tOp (rI (fun _ j => 0 < j) fun i j => .int (i % j)) (tOp (rI0 fun i j => .int (i + j)) te (tCall spDr [] E0 t)) tm) (gName i)) tz D σ H := by
  show te σ H fun x H1 => tCall spDr [] E0 t σ H1 fun y H2 => rI0 (fun i j => .int (i + j)) x y H2 fun z H3 => tm σ H3 fun w H4 => rI (fun _ j => 0 < j) (fun i j => .int (i % j)) z w H4 fun v H5 => tz D (σ.set i (some v)) H5
  refine hc H (Ex.refl H) _ fun H1 e1 => c_draw (h.mono e1) (hs.mono e1) h1 h2 fun r H2 a b c' d => ⟨c, r, rfl, rfl, ?_⟩
  have kH := (Ks.of e1).trans d
  exact hm H2 c' kH H2 (Ex.refl _) _ fun H3 e3 => ⟨c + r, n, rfl, rfl, hn, k r H3 a b (c'.mono e3) (kH.trans (.of e3))⟩
/-- x = xs[draw] -/
theorem q_ixLdraw {i : Nat} {l : Addr} {xs : List V} (hx : Ev te σ H (.ref l)) (hl : H l = some (.lst xs)) (h : EvA t σ H [.ref st, .int many]) (hs : StateAt H st) (h1 : 1 ≤ many) (h2 : many ≤ 1000000) (hn : (xs.length : Int) = many) (k : ∀ (n : Nat) v H2, xs[n]? = some v → StateAt H2 st → Ks st H H2 → tz D (σ.set i (some v)) H2) :
    tSeq (tAsg (tOp (rIxL K) te (tCall spDr [] E0 t)) (gName i)) tz D σ H := by
  show te σ H fun x H1 => tCall spDr [] E0 t σ H1 fun y H2 => rIxL K x y H2 fun v H3 => tz D (σ.set i (some v)) H3
  refine hx H (Ex.refl _) _ fun H1 e1 => ?_
  have hs1 := hs.mono e1
  have g1 := e1 _ _ hl
  refine c_draw (h.mono e1) hs1 h1 h2 fun r H2 r0 r1 hs2 k2 => ?_
  obtain ⟨n, hn2⟩ := Int.eq_ofNat_of_zero_le r0
  subst hn2
  have hn' : n < xs.length := by omega
  have g2 := k2.1 _ _ (st_ne hs1 g1 fun s z => by cases z) g1
  exact ⟨l, xs, (n : Int), xs[n], rfl, rfl, sq_of g2, atI_nat (List.getElem?_eq_getElem hn'), k n _ H2 (List.getElem?_eq_getElem hn') hs2 ((Ks.of e1).trans k2)⟩
/-- return same(o.m(..), e) -/
theorem s_retSameM {v : V} (h : Ev ta σ H (.ref a)) (ob : H a = some (.ins C dx fs)) (hm : fs.lookup m = none) (hv : EvA t σ H vs) (hf : FlatV v) (he : ∀ H1, Ev te σ H1 v) (k : ∀ H1, Ex H H1 → sp (.ref a :: (vs ++ dvs)) H1 (fun u H2 => u = v ∧ ∀ H3, Ex H2 H3 → D.rt (.bl true) H3) E) (km : ∀ H1 Q Q', (∀ u H2, Q u H2 → Q' u H2) → sp (.ref a :: (vs ++ dvs)) H1 Q E → sp (.ref a :: (vs ++ dvs)) H1 Q' E) :
    tRet (tCall (spV r_law_same) [] E0 (tCons (tMeth C m sp dvs E ta t) (tCons te tNil))) D σ H := by
  show tMeth C m sp dvs E ta t σ H fun x H1 => te σ H1 fun y H2 => spV r_law_same [x, y] H2 D.rt E0
  refine c_meth h ob hm hv fun H1 e1 => km H1 _ _ (fun u H2 hu => ?_) (k H1 e1)
  obtain ⟨rfl, hu⟩ := hu
  exact he H2 H2 (Ex.refl _) _ fun H3 e3 => ⟨.bl true, ⟨.inl ⟨u, rfl, hf⟩, rfl⟩, fun H4 e4 => hu H4 (e3.trans e4)⟩
end
theorem row_set {g : Game} {s : Str} : (rowV g).set 2 (.str s) = rowV (g.1, g.2.1, s) := rfl
section
variable {K : PySem.W.Frag} {H H1 H2 H3 : Hp} {st : Addr} {L L' : LgAd} {A A' : BkAd} {B : Bk}
theorem bkL_foot {b : Addr} (h : bkL A b) : Foot L A b := .inr (.inr h)
theorem lgW_foot {b : Addr} (h : LgW L b) : Foot L A b := h.imp id .inl
/-- a game's state set in the book: the league stands, the book has it -/
theorem InvS.setB (h : InvS K H st L A B) {i : Nat} {t : Addr} {g : Game} (hg : B.games[i]? = some g) (ht : A.gs[i]? = some t) (s : Str) (e : Ex H H1) :
    BookAt (upd H1 t (.lst (rowV (g.1, g.2.1, s)))) A (putG B i g s) ∧ LgAt K (upd H1 t (.lst (rowV (g.1, g.2.1, s)))) L B B.sides ∧ Kp (bkL A) H (upd H1 t (.lst (rowV (g.1, g.2.1, s)))) := by
  have k : Kp (bkL A) H (upd H1 t (.lst (rowV (g.1, g.2.1, s)))) := (Kp.of e).trans (Kp.upd (.inr (.inr (List.mem_of_getElem? ht))))
  exact ⟨h.sy.bk.setG e hg ht s, h.sy.lg.keepB h.sy.bk h.sy.ds k, k⟩
/-- then the league has it, too -/
theorem InvS.setL {B' : Bk} (h : InvS K H st L A B) (hb : BookAt H2 A B') (hl : LgAt K H2 L B B.sides) (k2 : Kp (bkL A) H H2) (ok : B'.Ok) (hs : B'.sides = B.sides) (a1 : L'.l = L.l) (a2 : L'.lr = L.lr) (k3 : Kp (LgW L) H2 H3) (lg : LgAt K H3 L' B' B.sides) :
    InvS K H3 st L' A B' ∧ StepS st H H3 L A L' A := by
  refine h.step ((fun b o n e => k3 b o (fun w => n (lgW_foot w)) (k2 b o (fun w => n (bkL_foot w)) e)) : Kp (Foot L A) H H3) a1 rfl rfl (fun b hb => .inl ?_) ⟨by rw [hs]; exact lg, hb.keepL hl h.sy.ds k3, ok, by rw [a2]; exact h.sy.ds⟩
  unfold Foot at hb ⊢
  rw [a1, a2] at hb
  exact hb
/-- what a step leaves of a list that is none of the system's -/
theorem StepS.keep (s : StepS st H H2 L A L' A') {b : Addr} {o : HO} (h : H b = some o) (n : b ≠ st) (nf : ¬ Foot L A b) : H2 b = some o ∧ ¬ Foot L' A' b :=
  ⟨s.kc.1 b o (fun z => z.elim n nf) h, fun hf => (s.ft b hf).elim nf fun z => by rw [h] at z; cases z⟩
end
section
variable {P : Program} {w : World} {K : PySem.W.Frag} {mg : Str → Option Value} {base : Heap}
variable (K) in
def Done (H : Hp) (st : Addr) (L : LgAd) (A : BkAd) (g0 : Option (List Str)) (Q : VK) : Prop := ∀ L' A' B' H2, InvS K H2 st L' A' B' → StepS st H H2 L A L' A' → (∀ x, g0 = some x → B'.gone = x) → Q (.bl true) H2
variable (K) in
def spAd : Sp := fun vs H Q _ => ∃ (st : Addr) (L : LgAd) (A : BkAd) (B : Bk), vs = [.ref st, .ref L.l, .ref A.b] ∧ InvS K H st L A B ∧ Done K H st L A (some B.gone) Q
theorem mono_add {vs : List V} {H : Hp} {E : XK} {Q Q' : VK} (h : ∀ u H2, Q u H2 → Q' u H2) (hs : spAdd K vs H Q E) : spAdd K vs H Q' E := by
  obtain ⟨L, B, nm, x, y, h1, h2, h3, h4, h5, h6, h7, h8, k⟩ := hs
  exact ⟨L, B, nm, x, y, h1, h2, h3, h4, h5, h6, h7, h8, fun L' H2 a b c d => h _ _ (k L' H2 a b c d)⟩
theorem ok_law_add (T : Tx0 K mg) : FnOk P w K mg base CX0 7 (a_law_add K) (fd_law_add K) p_law_add (spAd K) := by
  refine okN T.f_law_add sc_law_add (fun vs H Q E h => ?_) (fun cdv A outer s H vs Q E hr h => ?_)
  · obtain ⟨st, L, A, B, rfl, _⟩ := h
    rfl
  · obtain ⟨st, L, A, B, rfl, hi, k⟩ := h
    refine ⟨_, (pss_cons (ps_setLc (i := 3) (own := [("_law_side", 7)]) (g := gName 7) (tt := (tTest (tOp (rIn K true) (tVar 7) (tDGet (tVar 2) (tC (.str "gone")))))) (te := (tVar 7)) rfl sc_law_add.nd rfl rfl (sw_true rfl rfl rfl rfl) (pi_list (pe_dget (hu_of hr) (pv 2) pe_str (fun _ _ => rfl))) (blkOk_by (N := n_law_add) (sc := defScope s_law_add) (by decide +kernel)) (fun _ _ _ _ _ => pg_name (i := 7) sc_law_add.nd rfl (by first | exact .inl rfl | exact .inr rfl)) (fun _ _ _ _ _ => (pts_one (pt_cmpR op_notIn_seq (pv 7) (pe_dget (hu_of hr) (pv 2) pe_str (fun _ _ => rfl)) (by rfl)))) (fun _ _ _ _ _ => (pv 7)))
    (pss_cons (ps_if (PW.pt (pw_or (pt_cmpR op_lt (pe_callB call_len (by rfl) T.n_len (by decide +kernel) (pa_cons (pv 3) pa_nil)) pe_int (by rfl)) (pw_or1 (pt_cmpR op_eq (pe_callB call_len (by rfl) T.n_len (by decide +kernel) (pa_cons (pe_dget (hu_of hr) (pv 2) pe_str (fun _ _ => rfl)) pa_nil)) pe_int (by rfl))))) (pss_one (ps_ret pe_bl)) pss_nil)
    (pss_cons (ps_set (i := 4) sc_law_add.nd rfl (by first | exact .inl rfl | exact .inr rfl) (pe_call (ok_law_draw T) (hr.mono (by decide)) (by rfl) T.m_law_draw T.k_law_draw T.b_law_draw .nil pass0 (pa_cons (pv 0) (pa_cons (pe_callB call_len (by rfl) T.n_len (by decide +kernel) (pa_cons (pv 3) pa_nil)) pa_nil))))
    (pss_cons (ps_set (i := 5) sc_law_add.nd rfl (by first | exact .inl rfl | exact .inr rfl) (pe_op op_mod (pe_op op_add (pe_op op_add (pv 4) pe_int) (pe_call (ok_law_draw T) (hr.mono (by decide)) (by rfl) T.m_law_draw T.k_law_draw T.b_law_draw .nil pass0 (pa_cons (pv 0) (pa_cons (pe_op op_sub (pe_callB call_len (by rfl) T.n_len (by decide +kernel) (pa_cons (pv 3) pa_nil)) pe_int) pa_nil)))) (pe_callB call_len (by rfl) T.n_len (by decide +kernel) (pa_cons (pv 3) pa_nil))))
    (pss_cons (ps_set (i := 6) sc_law_add.nd rfl (by first | exact .inl rfl | exact .inr rfl) (pe_callB call_len (by rfl) T.n_len (by decide +kernel) (pa_cons (pe_dget (hu_of hr) (pv 2) pe_str (fun _ _ => rfl)) pa_nil)))
    (pss_cons (ps_expr (pe_bm PySem.F.plainAttrs_list PySem.F.slot_list_append PySem.F.type_list_append mt_append (pe_dget (hu_of hr) (pv 2) pe_str (fun _ _ => rfl)) (pa_cons (pe_lst (pa_cons (pe_ix ix_list (pv 3) (pv 4) (fun _ _ => rfl)) (pa_cons (pe_ix ix_list (pv 3) (pv 5) (fun _ _ => rfl)) (pa_cons pe_str pa_nil)))) pa_nil)))
    (pss_one (ps_ret (pe_call (ok_law_same T) (hr.mono (by decide)) (by rfl) T.m_law_same T.k_law_same T.b_law_same .nil pass0 (pa_cons (pe_meth (pv 1) T.cl T.m_Ladd_game (ok_Ladd_game T) (hr.mono (by decide)) T.b_Ladd_game .nil pass0 (pa_cons (pe_ix ix_list (pv 3) (pv 4) (fun _ _ => rfl)) (pa_cons (pe_ix ix_list (pv 3) (pv 5) (fun _ _ => rfl)) pa_nil))) (pa_cons (pv 6) pa_nil))))))))))), ?_⟩
    have bk := hi.sy.bk
    have ok := hi.sy.ok
    refine q_asgL (xs := (avail B).map V.str) (el_mL (ys := B.sides) V.str (fun x => !decide (x ∈ B.gone)) V.str (eb_sides (ev_var rfl) bk.ob) (sq_of bk.sd) (by have := ok.sides.2.1; omega) (fun _ => rfl) (fun y H1 hy e => et_test (ev_op (ev_var rfl) (eb_gone (ev_var rfl) (e _ _ bk.ob)) (rv_strLn (sq_of (e _ _ bk.gn))))) (fun y H1 hy e _ => ev_var rfl)) fun th H1 hth e1 h1 => ?_
    have i1 := hi.mono e1
    have l1 := lenL (K := K) (sq_of h1)
    have l2 := lenL (K := K) (sq_of i1.sy.bk.gm)
    rw [List.length_map] at l1
    rw [List.length_map, bk.ln] at l2
    have a8 := avail_len ok
    have g80 := ok.many
    refine q_when (b := decide ((avail B).length < 2) || decide (B.games.length = 80)) (et_or (et_is (et_test (ev_op (ev_lenV (ev_var rfl) l1) ev_c rv_lt)) (by simp only [decide_eq_decide]; omega)) fun _ => et_is (et_test (ev_op (ev_lenV (eb_games (ev_var rfl) i1.sy.bk.ob) l2) ev_c rv_eqI)) (by simp only [decide_eq_decide]; omega)) (fun hb H2 e2 => s_ret ev_c fun H3 e3 => k L A B H3 (i1.mono (e2.trans e3)) (.of ((e1.trans e2).trans e3)) fun x hx => Option.some.inj hx) fun hb H2 e2 => ?_
    have hb' : ¬ (avail B).length < 2 ∧ ¬ B.games.length = 80 := by simpa using hb
    obtain ⟨hn2, hn80⟩ := hb'
    have i2 := i1.mono e2
    have h2 := e2 _ _ h1
    have nst : th ≠ st := st_ne i2.sa h2 fun s z => by cases z
    have l3 := lenL (K := K) (sq_of h2)
    rw [List.length_map] at l3
    refine q_draw (many := ((avail B).length : Int)) (ea_cons (ev_var rfl) (ea_cons (ev_lenV (ev_var rfl) l3) ea_nil)) i2.sa (by omega) (by omega) fun r H3 r0 r1 s3 k3 => ?_
    have i3 := i2.kst k3 s3
    have h3 := k3.1 _ _ nst h2
    have l3' := lenL (K := K) (sq_of h3)
    rw [List.length_map] at l3'
    refine q_drawMod (c := r + 1) (n := ((avail B).length : Int)) (many := ((avail B).length : Int) - 1) (ev_op (ev_var rfl) ev_c rv_add) (ea_cons (ev_var rfl) (ea_cons (ev_op (ev_lenV (ev_var rfl) l3') ev_c rv_sub) ea_nil)) i3.sa (by omega) (by omega) (by omega) (fun H4 s4 k4 => ev_lenV (ev_var rfl) (by have := lenL (K := K) (sq_of (k4.1 _ _ nst h3)); rwa [List.length_map] at this)) fun d H4 d0 d1 s4 k4 => ?_
    have i4 := i3.kst k4 s4
    have h4 := k4.1 _ _ nst h3
    obtain ⟨n, hn⟩ := Int.eq_ofNat_of_zero_le r0
    subst hn
    have hm := c_mod (n := ((avail B).length : Int)) (by omega) (i := (n : Int) + 1 + d)
    obtain ⟨m, hm2⟩ := Int.eq_ofNat_of_zero_le hm.1
    have hne : m ≠ n := fun e => by
      subst e
      have h5 : ((m : Int) + 1 + d) % ((avail B).length : Int) = m := hm2
      by_cases c : (m : Int) + 1 + d < ((avail B).length : Int)
      · rw [Int.emod_eq_of_lt (by omega) c] at h5
        omega
      · have h6 : ((m : Int) + 1 + d) % ((avail B).length : Int) = (m : Int) + 1 + d - ((avail B).length : Int) := by
          rw [← Int.sub_emod_right, Int.emod_eq_of_lt (by omega) (by omega)]
        rw [h6] at h5
        omega
    rw [hm2]
    rw [hm2] at hm
    have mlt : m < (avail B).length := by omega
    have nlt : n < (avail B).length := by omega
    have hx : (avail B)[n]? = some (avail B)[n] := List.getElem?_eq_getElem nlt
    have hy : (avail B)[m]? = some (avail B)[m] := List.getElem?_eq_getElem mlt
    have xm := avail_mem.mp (List.mem_of_getElem? hx)
    have ym := avail_mem.mp (List.mem_of_getElem? hy)
    have xy : (avail B)[n] ≠ (avail B)[m] := fun e => by
      rw [e] at hx
      exact hne ((List.getElem?_inj mlt (avail_nd ok)).mp (hy.trans hx.symm))
    generalize (avail B)[n] = x at *
    generalize (avail B)[m] = y at *
    have gx : ((avail B).map V.str)[n]? = some (.str x) := by rw [List.getElem?_map, hx]; rfl
    have gy : ((avail B).map V.str)[m]? = some (.str y) := by rw [List.getElem?_map, hy]; rfl
    have l4 := lenL (K := K) (sq_of i4.sy.bk.gm)
    rw [List.length_map, bk.ln] at l4
    refine q_asg (v := .int (B.games.length : Int)) (ev_lenV (eb_games (ev_var rfl) i4.sy.bk.ob) l4) fun H5 e5 => ?_
    have i5 := i4.mono e5
    have h5 := e5 _ _ h4
    refine q_appL (xs := A.gs.map V.ref) (ys := rowV (x, y, "left")) i5.sy.bk.gm (eb_games (ev_var rfl) i5.sy.bk.ob) (el_lst (ea_cons (ev_op (ev_var rfl) (ev_var rfl) (rv_atL (sq_of h5) gx)) (ea_cons (ev_op (ev_var rfl) (ev_var rfl) (rv_atL (sq_of h5) gy)) (ea_cons ev_c ea_nil))) (show 3 ≤ 100000 by decide)) (by rw [List.length_map, bk.ln]; omega) fun p H6 hp e6 h6 => ?_
    have b7 := i5.sy.bk.addG e6 hp h6
    have k7 : Kp (bkL A) H5 (upd H6 A.gms (.lst (A.gs.map V.ref ++ [.ref p]))) := (Kp.of e6).trans (Kp.upd (.inl rfl))
    have l7 := i5.sy.lg.keepB i5.sy.bk i5.sy.ds k7
    have nth : th ≠ A.gms := fun z => by
      have := bk.gm
      rw [z, this] at hth
      cases hth
    have h7 : (upd H6 A.gms (.lst (A.gs.map V.ref ++ [.ref p]))) th = some (.lst ((avail B).map V.str)) := by
      rw [upd_ne nth]
      exact e6 _ _ h5
    generalize upd H6 A.gms (.lst (A.gs.map V.ref ++ [.ref p])) = H7 at *
    have kS : Ks st H H5 := ((((Ks.of e1).trans (.of e2)).trans k3).trans k4).trans (.of e5)
    refine s_retSameM (v := .int (B.games.length : Int)) (ev_var rfl) l7.ob (by rfl) (ea_cons (ev_op (ev_var rfl) (ev_var rfl) (rv_atL (sq_of h7) gx)) (ea_cons (ev_op (ev_var rfl) (ev_var rfl) (rv_atL (sq_of h7) gy)) ea_nil)) trivial (fun H1 => ev_var rfl) (fun H8 e8 => ?_) (fun H1 Q Q' hq hs => mono_add hq hs)
    refine ⟨L, B, B.sides, x, y, rfl, l7.mono e8, xm.1, xm.2, ym.1, ym.2, xy, by omega, fun L' H9 a1 a2 a3 a4 => ⟨rfl, fun H10 e10 => ?_⟩⟩
    have pn : ¬ L.lr = p := fun z => by
      have := i5.sy.lg.rw
      rw [z, hp] at this
      cases this
    have dsN : L.lr ∉ A.sds :: A.gms :: A.gne :: (A.gs ++ [p]) := fun hm => by
      have := i5.sy.ds
      simp only [List.mem_cons, List.mem_append, List.mem_singleton, List.not_mem_nil, or_false] at hm this
      rcases hm with h | h | h | h | h
      · exact this (.inl h)
      · exact this (.inr (.inl h))
      · exact this (.inr (.inr (.inl h)))
      · exact this (.inr (.inr (.inr h)))
      · exact pn h
    obtain ⟨iF, sF⟩ := i5.step (L' := L') (A' := { A with gs := A.gs ++ [p] }) (H' := H10) (B' := { B with games := B.games ++ [(x, y, ("left" : Str))] })
      (fun b o n e => e10 _ _ (a3 b o (fun w => n (lgW_foot w)) (e8 _ _ (k7 b o (fun w => n (bkL_foot w)) e)))) a1 rfl rfl (fun b hb => by
        unfold Foot at hb ⊢
        rw [a1, a2] at hb
        rcases hb with h | h | h | h | h
        · exact .inl (.inl h)
        · exact .inl (.inr (.inl h))
        · exact .inl (.inr (.inr (.inl h)))
        · exact .inl (.inr (.inr (.inr (.inl h))))
        · rcases List.mem_append.mp h with h | h
          · exact .inl (.inr (.inr (.inr (.inr h))))
          · rw [List.mem_singleton] at h
            rw [h]
            exact .inr hp)
      ⟨a4.mono e10, ((b7.mono e8).keepL (l7.mono e8) dsN a3).mono e10, ok_add ok xm.1 xm.2 ym.1 ym.2 xy (by omega), by rw [a2]; exact dsN⟩
    exact k L' _ _ H10 iF ((StepS.ks kS).trans sF) fun z hz => Option.some.inj hz
end
end Lw

/-! X3 -/
/-! The law's changes. -/
namespace Lw
open PySem PySem.Spec PyProof.Rows L2 Evl Mt
/-- which games are free -/
def freeB (B : Bk) (i : Nat) : Bool := match B.games[i]? with
  | some g => !decide (g.1 ∈ B.gone) && !decide (g.2.1 ∈ B.gone)
  | none => false
def opens (B : Bk) : List Nat := (List.range B.games.length).filter (freeB B)
theorem opens_mem {B : Bk} {i : Nat} (h : i ∈ opens B) : ∃ g, FreeAt B i g := by
  unfold opens at h
  rw [List.mem_filter] at h
  obtain ⟨h1, h2⟩ := h
  have hi := List.mem_range.mp h1
  have hg : B.games[i]? = some B.games[i] := List.getElem?_eq_getElem hi
  unfold freeB at h2
  rw [hg] at h2
  have h3 : B.games[i].1 ∉ B.gone ∧ B.games[i].2.1 ∉ B.gone := by simpa using h2
  exact ⟨_, hg, h3.1, h3.2⟩
theorem opens_len {B : Bk} : (opens B).length ≤ B.games.length := by
  unfold opens
  have := List.length_filter_le (freeB B) (List.range B.games.length)
  rwa [List.length_range] at this
theorem outs_ok {d : Option Int} {o : Str} (h : o ∈ outs d) : endedS o = true ∧ (o = "draw" → d ≠ none) := by
  unfold outs at h
  by_cases e : d = none
  · rw [if_pos e] at h
    simp only [List.mem_cons, List.not_mem_nil, or_false] at h
    rcases h with rfl | rfl
    · exact ⟨by decide +kernel, fun z => absurd z (by decide +kernel)⟩
    · exact ⟨by decide +kernel, fun z => absurd z (by decide +kernel)⟩
  · rw [if_neg e] at h
    simp only [List.mem_cons, List.not_mem_nil, or_false] at h
    rcases h with rfl | rfl | rfl
    · exact ⟨by decide +kernel, fun _ => e⟩
    · exact ⟨by decide +kernel, fun _ => e⟩
    · exact ⟨by decide +kernel, fun _ => e⟩
section
variable {K : PySem.W.Frag} {σ : L2.St} {H : Hp} {ta tb te : TE} {t tk : TA} {a C dx : Addr} {D : Ends} {tz : TS} {vs zs dvs : List V} {sp : Sp} {E : XK} {m : Str} {fs : List (Str × V)} {A : BkAd} {B : Bk}
/-- [k for k in range(len(games)) if free] -/
theorem el_opens {vb : Nat} {vk : Nat} {vw : List Nat} (hb : BookAt H A B) (many : B.games.length ≤ 80) (hv : σ[vb]? = some (some (.ref A.b))) (hv2 : ∀ x, ((wipe σ vw).set vk (some x))[vb]? = some (some (.ref A.b))) (hk : ∀ x, ((wipe σ vw).set vk (some x))[vk]? = some (some x)) (hw : ∀ x, wipe ((wipe σ vw).set vk (some x)) vw = wipe σ vw) :
    EvL (tLc (iRng1 (tCons (tCB (fun xs H Q => ∃ x n, xs = [x] ∧ LenV K x H n ∧ Q (.int n) H) (tCons (tDGet (tVar vb) (tC (.str "games"))) tNil)) tNil)) (gName vk) (tB (tCall (spV r_law_is_free) [] E0 (tCons (tVar vb) (tCons (tVar vk) tNil)))) (tVar vk) vw) σ H ((opens B).map fun i : Nat => V.int (i : Int)) := by
  have l1 := lenL (K := K) (sq_of hb.gm)
  rw [List.length_map, hb.ln] at l1
  exact el_mR (n := B.games.length) (freeB B) (fun i => .int (i : Int)) (ea_cons (ev_lenV (eb_games (ev_var hv) hb.ob) l1) ea_nil) (by omega) hw (fun i H1 hi e => by
    have hg : B.games[i]? = some B.games[i] := List.getElem?_eq_getElem hi
    have e2 : freeB B i = (!decide (B.games[i].1 ∈ B.gone) && !decide (B.games[i].2.1 ∈ B.gone)) := by
      unfold freeB
      rw [hg]
    rw [e2]
    exact et_B (ev_call (ea_cons (ev_var (hv2 _)) (ea_cons (ev_var (hk _)) ea_nil)) (spV_ev (R := r_law_is_free) fun H2 e3 => ⟨A, B, i, _, rfl, hb.mono (e.trans e3), hg, rfl⟩))) (fun i H1 hi e _ => ev_var (hk _))
/-- return o.m(..) is None -/
theorem s_retNoneM (h : Ev ta σ H (.ref a)) (ob : H a = some (.ins C dx fs)) (hm : fs.lookup m = none) (hv : EvA t σ H vs) (k : ∀ H1, Ex H H1 → sp (.ref a :: (vs ++ dvs)) H1 (fun u H2 => D.rt (.bl (decide (u = .non))) H2) E) :
    tRet (tOp (fun x y H Q => y = .non ∧ Q (.bl (decide (x = .non))) H) (tMeth C m sp dvs E ta t) (tC .non)) D σ H := by
  show tMeth C m sp dvs E ta t σ H fun x H1 => V.non = .non ∧ D.rt (.bl (decide (x = .non))) H1
  refine h H (Ex.refl H) _ fun H1 e1 => ⟨a, dx, fs, rfl, e1 _ _ ob, hm, hv H1 e1 _ fun H2 e2 => ?_⟩
  have q := k H2 (e1.trans e2)
  simpa using q
theorem s_retNoneMk {gV : List V → List V → List V} {n l : Nat} (h : Ev ta σ H (.ref a)) (ob : H a = some (.ins C dx fs)) (hm : fs.lookup m = none) (hv : EvA t σ H vs) (hz : EvA tk σ H zs) (ln : vs.length = n) (ll : zs.length = l) (k : ∀ H1, Ex H H1 → sp (gV (.ref a :: vs) zs) H1 (fun u H2 => D.rt (.bl (decide (u = .non))) H2) E) :
    tRet (tOp (fun x y H Q => y = .non ∧ Q (.bl (decide (x = .non))) H) (tMethN C m n l sp gV E ta t tk) (tC .non)) D σ H := by
  show tMethN C m n l sp gV E ta t tk σ H fun x H1 => V.non = .non ∧ D.rt (.bl (decide (x = .non))) H1
  refine h H (Ex.refl H) _ fun H1 e1 => ⟨a, dx, fs, rfl, e1 _ _ ob, hm, hv H1 e1 _ fun H2 e2 => hz H2 (e1.trans e2) _ fun H3 e3 => ⟨ln, ll, ?_⟩⟩
  have q := k H3 ((e1.trans e2).trans e3)
  simpa using q
end
section
variable {P : Program} {w : World} {K : PySem.W.Frag} {mg : Str → Option Value} {base : Heap}
theorem dn {R : VK} {H : Hp} (h : R (.bl true) H) : R (.bl (decide (V.non = V.non))) H := by simpa using h
variable (K) in
def spCh : Sp := fun vs H Q _ => ∃ (st : Addr) (L : LgAd) (A : BkAd) (B : Bk), vs = [.ref st, .ref L.l, .ref A.b] ∧ InvS K H st L A B ∧ Done K H st L A none Q
theorem ok_law_change (T : Tx0 K mg) (TX : TXF P K) : FnOk P w K mg base CX0 7 (a_law_change K) (fd_law_change K) p_law_change (spCh K) := by
  refine okN T.f_law_change sc_law_change (fun vs H Q E h => ?_) (fun cdv A outer s H vs Q E hr h => ?_)
  · obtain ⟨st, L, A, B, rfl, _⟩ := h
    rfl
  · obtain ⟨st, L, A, B, rfl, hi, k⟩ := h
    have okre := ok_Lreopen (P := P) (w := w) (base := base) T TX
    refine ⟨_, (pss_cons (ps_setLc (i := 3) (own := [("_law_k", 11)]) (g := gName 11) (tt := (tB (tCall (spV r_law_is_free) [] E0 (tCons (tVar 2) (tCons (tVar 11) tNil))))) (te := (tVar 11)) rfl sc_law_change.nd rfl rfl (sw_true rfl rfl rfl rfl) (pi_range1 (by rfl) T.n_range (pa_cons (pe_callB call_len (by rfl) T.n_len (by decide +kernel) (pa_cons (pe_dget (hu_of hr) (pv 2) pe_str (fun _ _ => rfl)) pa_nil)) pa_nil)) (blkOk_by (N := n_law_change) (sc := defScope s_law_change) (by decide +kernel)) (fun _ _ _ _ _ => pg_name (i := 11) sc_law_change.nd rfl (by first | exact .inl rfl | exact .inr rfl)) (fun _ _ _ _ _ => (pts_one (pt_val (pe_call (ok_law_is_free T) (hr.mono (by decide)) (by rfl) T.m_law_is_free T.k_law_is_free T.b_law_is_free .nil pass0 (pa_cons (pv 2) (pa_cons (pv 11) pa_nil)))))) (fun _ _ _ _ _ => (pv 11)))
    (pss_cons (ps_set (i := 4) sc_law_change.nd rfl (by first | exact .inl rfl | exact .inr rfl) (pe_call (ok_law_draw T) (hr.mono (by decide)) (by rfl) T.m_law_draw T.k_law_draw T.b_law_draw .nil pass0 (pa_cons (pv 0) (pa_cons pe_int pa_nil))))
    (pss_cons (ps_if (PW.pt (pw_and (pt_cmpR op_eq (pv 4) pe_int (by rfl)) (pw_and1 (pt_cmpR op_lt (pe_callB call_len (by rfl) T.n_len (by decide +kernel) (pa_cons (pe_dget (hu_of hr) (pv 2) pe_str (fun _ _ => rfl)) pa_nil)) (pe_callB call_len (by rfl) T.n_len (by decide +kernel) (pa_cons (pe_dget (hu_of hr) (pv 2) pe_str (fun _ _ => rfl)) pa_nil)) (by rfl))))) (pss_cons (ps_setLc (i := 5) (own := [("_law_side", 6)]) (g := gName 6) (tt := (tTest (tOp (rIn K true) (tVar 6) (tDGet (tVar 2) (tC (.str "gone")))))) (te := (tVar 6)) rfl sc_law_change.nd rfl rfl (sw_true rfl rfl rfl rfl) (pi_list (pe_dget (hu_of hr) (pv 2) pe_str (fun _ _ => rfl))) (blkOk_by (N := n_law_change) (sc := defScope s_law_change) (by decide +kernel)) (fun _ _ _ _ _ => pg_name (i := 6) sc_law_change.nd rfl (by first | exact .inl rfl | exact .inr rfl)) (fun _ _ _ _ _ => (pts_one (pt_cmpR op_notIn_seq (pv 6) (pe_dget (hu_of hr) (pv 2) pe_str (fun _ _ => rfl)) (by rfl)))) (fun _ _ _ _ _ => (pv 6)))
    (pss_cons (ps_set (i := 6) sc_law_change.nd rfl (by first | exact .inl rfl | exact .inr rfl) (pe_ix ix_list (pv 5) (pe_call (ok_law_draw T) (hr.mono (by decide)) (by rfl) T.m_law_draw T.k_law_draw T.b_law_draw .nil pass0 (pa_cons (pv 0) (pa_cons (pe_callB call_len (by rfl) T.n_len (by decide +kernel) (pa_cons (pv 5) pa_nil)) pa_nil))) (fun _ _ => rfl)))
    (pss_cons (ps_expr (pe_bm PySem.F.plainAttrs_list PySem.F.slot_list_append PySem.F.type_list_append mt_append (pe_dget (hu_of hr) (pv 2) pe_str (fun _ _ => rfl)) (pa_cons (pv 6) pa_nil)))
    (pss_cons (ps_for PassesOwn.never rfl (pi_list (pe_dget (hu_of hr) (pv 2) pe_str (fun _ _ => rfl))) (pg_name (i := 7) sc_law_change.nd rfl (by first | exact .inl rfl | exact .inr rfl)) (pss_one (ps_if (pt_cmpR op_in_seq (pv 6) (pe_slice sl_list (pv 7) po_none (po_some pe_int)) (by rfl)) (pss_one (ps_asg pe_str (pg_sub (pv 7) pe_int set_list))) pss_nil)))
    (pss_one (ps_ret (pe_cmpR op_isN (pe_meth (pv 1) T.cl T.m_Lwithdraw (ok_Lwithdraw T) (hr.mono (by decide)) T.b_Lwithdraw .nil pass0 (pa_cons (pv 6) pa_nil)) pe_non (by rfl)))))))) pss_nil)
    (pss_cons (ps_if (pt_cmpR op_eq (pe_callB call_len (by rfl) T.n_len (by decide +kernel) (pa_cons (pv 3) pa_nil)) pe_int (by rfl)) (pss_one (ps_ret pe_bl)) pss_nil)
    (pss_cons (ps_set (i := 8) sc_law_change.nd rfl (by first | exact .inl rfl | exact .inr rfl) (pe_ix ix_list (pv 3) (pe_call (ok_law_draw T) (hr.mono (by decide)) (by rfl) T.m_law_draw T.k_law_draw T.b_law_draw .nil pass0 (pa_cons (pv 0) (pa_cons (pe_callB call_len (by rfl) T.n_len (by decide +kernel) (pa_cons (pv 3) pa_nil)) pa_nil))) (fun _ _ => rfl)))
    (pss_cons (ps_if (pt_cmpR op_eq (pv 4) pe_int (by rfl)) (pss_cons (ps_asg pe_str (pg_sub (pe_ix ix_list (pe_dget (hu_of hr) (pv 2) pe_str (fun _ _ => rfl)) (pv 8) (fun _ _ => rfl)) pe_int set_list))
    (pss_one (ps_ret (pe_cmpR op_isN (pe_meth (pv 1) T.cl T.m_Lcall_off (ok_Lcall_off T TX) (hr.mono (by decide)) T.b_Lcall_off .nil L2N.passE0 (pa_cons (pv 8) pa_nil)) pe_non (by rfl))))) pss_nil)
    (pss_cons (ps_if (pt_cmpR op_eq (pv 4) pe_int (by rfl)) (pss_cons (ps_asg pe_str (pg_sub (pe_ix ix_list (pe_dget (hu_of hr) (pv 2) pe_str (fun _ _ => rfl)) (pv 8) (fun _ _ => rfl)) pe_int set_list))
    (pss_one (ps_ret (pe_cmpR op_isN (pe_methKw0 (pv 1) T.cl T.m_Lreopen okre (hr.mono (by decide)) (kb_Lreopen0 T) pass0 (pk_cons (pv 8) pk_nil)) pe_non (by rfl))))) pss_nil)
    (pss_cons (ps_set (i := 9) sc_law_change.nd rfl (by first | exact .inl rfl | exact .inr rfl) (pe_call (ok_law_outcomes T) (hr.mono (by decide)) (by rfl) T.m_law_outcomes T.k_law_outcomes T.b_law_outcomes .nil pass0 (pa_cons (pv 2) pa_nil)))
    (pss_cons (ps_set (i := 10) sc_law_change.nd rfl (by first | exact .inl rfl | exact .inr rfl) (pe_ix ix_list (pv 9) (pe_call (ok_law_draw T) (hr.mono (by decide)) (by rfl) T.m_law_draw T.k_law_draw T.b_law_draw .nil pass0 (pa_cons (pv 0) (pa_cons (pe_callB call_len (by rfl) T.n_len (by decide +kernel) (pa_cons (pv 9) pa_nil)) pa_nil))) (fun _ _ => rfl)))
    (pss_cons (ps_asg (pv 10) (pg_sub (pe_ix ix_list (pe_dget (hu_of hr) (pv 2) pe_str (fun _ _ => rfl)) (pv 8) (fun _ _ => rfl)) pe_int set_list))
    (pss_one (ps_ret (pe_cmpR op_isN (pe_meth (pv 1) T.cl T.m_Lenter (ok_Lenter T TX) (hr.mono (by decide)) T.b_Lenter .nil L2N.passE0 (pa_cons (pv 8) (pa_cons (pv 10) pa_nil))) pe_non (by rfl)))))))))))))), ?_⟩
    have bk := hi.sy.bk
    have ok := hi.sy.ok
    have g80 := ok.many
    have ol := opens_len (B := B)
    refine q_asgL (xs := (opens B).map fun i : Nat => V.int (i : Int)) (el_opens bk g80 rfl (fun _ => rfl) (fun _ => rfl) (fun _ => rfl)) fun op H1 hop e1 h1 => ?_
    have i1 := hi.mono e1
    refine q_draw (ea_cons (ev_var rfl) (ea_cons ev_c ea_nil)) i1.sa (by decide) (by decide) fun pk H2 p0 p1 s2 k2 => ?_
    have i2 := i1.kst k2 s2
    have nst : op ≠ st := hi.sa.ne hop
    have h2 := k2.1 _ _ nst h1
    have lg := lenL (K := K) (sq_of i2.sy.bk.gn)
    have ls := lenL (K := K) (sq_of i2.sy.bk.sd)
    rw [List.length_map] at lg ls
    have kS : Ks st H H2 := (Ks.of e1).trans k2
    refine q_when (b := decide (pk = 0) && decide (B.gone.length < B.sides.length)) (et_and (et_test (ev_op (ev_var rfl) ev_c rv_eqI)) fun _ => et_is (et_test (ev_op (ev_lenV (eb_gone (ev_var rfl) i2.sy.bk.ob) lg) (ev_lenV (eb_sides (ev_var rfl) i2.sy.bk.ob) ls) rv_lt)) (by simp only [decide_eq_decide]; omega)) (fun hb H3 e3 => ?_) fun hb H3 e3 => ?_
    · have hb' : pk = 0 ∧ B.gone.length < B.sides.length := by simpa using hb
      have i3 := i2.mono e3
      refine q_asgL (xs := (avail B).map V.str) (el_mL (ys := B.sides) V.str (fun x => !decide (x ∈ B.gone)) V.str (eb_sides (ev_var rfl) i3.sy.bk.ob) (sq_of i3.sy.bk.sd) (by have := ok.sides.2.1; omega) (fun _ => rfl) (fun y H4 hy e => et_test (ev_op (ev_var rfl) (eb_gone (ev_var rfl) (e _ _ i3.sy.bk.ob)) (rv_strLn (sq_of (e _ _ i3.sy.bk.gn))))) (fun y H4 hy e _ => ev_var rfl)) fun th H4 hth e4 h4 => ?_
      have i4 := i3.mono e4
      have lt := lenL (K := K) (sq_of h4)
      rw [List.length_map] at lt
      have ap := avail_pos ok hb'.2
      have a8 := avail_len ok
      refine q_ixLdraw (many := ((avail B).length : Int)) (xs := (avail B).map V.str) (ev_var rfl) h4 (ea_cons (ev_var rfl) (ea_cons (ev_lenV (ev_var rfl) lt) ea_nil)) i4.sa (by omega) (by omega) (by rw [List.length_map]) fun n v H5 hv s5 k5 => ?_
      obtain ⟨x, hx, rfl⟩ := map_at hv
      have xm := avail_mem.mp (List.mem_of_getElem? hx)
      have i5 := i4.kst k5 s5
      have gl : B.gone.length ≤ 8 := Nat.le_trans (nodup_le ok.gnd ok.gone) ok.sides.2.1
      refine q_app (xs := B.gone.map V.str) (v := .str x) i5.sy.bk.gn (eb_gone (ev_var rfl) i5.sy.bk.ob) (ev_var rfl) (by rw [List.length_map]; omega) fun H6 e6 => ?_
      have b7 := i5.sy.bk.goneG e6 x
      have k7 : Kp (bkL A) H5 (upd H6 A.gne (.lst (B.gone.map V.str ++ [.str x]))) := (Kp.of e6).trans (Kp.upd (.inr (.inl rfl)))
      generalize upd H6 A.gne (.lst (B.gone.map V.str ++ [.str x])) = H7 at *
      refine q_forLn (xs := A.gs.map V.ref) (eb_games (ev_var rfl) b7.ob) (sq_of b7.gm) (fun i σ' H' => Kp (bkL A) H5 H' ∧ BookAt H' A { B with gone := B.gone ++ [x], games := (B.games.take i).map (offOf x) ++ B.games.drop i } ∧ ∃ v7, σ' = [some (.ref st), some (.ref L.l), some (.ref A.b), some (.ref op), some (.int pk), some (.ref th), some (.str x), v7, none, none, none, none]) (fun H8 e8 => ⟨k7.trans (.of e8), by simpa using b7.mono e8, none, rfl⟩) (fun i σ' H' _ q => sq_of q.2.1.gm) (fun i v σ' H' hi7 q => ?_) fun σ' H' q => ?_
      · obtain ⟨q1, q2, v7, rfl⟩ := q
        obtain ⟨t, ht, rfl⟩ := map_at hi7
        obtain ⟨g, hg, _⟩ := bk.row ht
        obtain ⟨d1, d2⟩ := ix_take_drop (offOf x) hg
        have hrow := q2.ro i t g ht d1
        show tIfS _ _ tNext _ [some (.ref st), some (.ref L.l), some (.ref A.b), some (.ref op), some (.int pk), some (.ref th), some (.str x), some (.ref t), none, none, none, none] H'
        refine s_when (et_test (ev_opL (ev_var rfl) (el_sl2 (ev_var rfl) (sq_of hrow)) fun p H8 hp e8 => rv_strL (ys := [g.1, g.2.1]) (sq_of hp))) (fun hb8 H8 e8 => ?_) fun hb8 H8 e8 => ?_
        · have ho : offOf x g = (g.1, g.2.1, ("off" : Str)) := by
            unfold offOf
            rw [if_pos (by simpa using hb8)]
          refine s_setL (xs := rowV g) (j := 2) (v := .str "off") (e8 _ _ hrow) ev_c (ev_var rfl) ev_c (show 2 < 3 by decide) fun H9 e9 => ⟨?_, ?_, _, rfl⟩
          · exact ((q1.trans (.of (e8.trans e9))).trans (Kp.upd (.inr (.inr (List.mem_of_getElem? ht)))))
          · have b9 := q2.setG (e8.trans e9) d1 ht "off"
            have e10 : ({ B with gone := B.gone ++ [x], games := (B.games.take (i + 1)).map (offOf x) ++ B.games.drop (i + 1) } : Bk) = putG { B with gone := B.gone ++ [x], games := (B.games.take i).map (offOf x) ++ B.games.drop i } i g "off" := by
              unfold putG
              rw [← d2, ho]
            rw [e10]
            exact b9
        · have ho : offOf x g = g := by
            unfold offOf
            rw [if_neg (by simpa using hb8)]
          have hs : (B.games.take (i + 1)).map (offOf x) ++ B.games.drop (i + 1) = (B.games.take i).map (offOf x) ++ B.games.drop i := by
            rw [← d2, ho]
            refine List.ext_getElem? fun j => ?_
            by_cases e : i = j
            · subst e
              rw [List.getElem?_set_self (List.getElem?_eq_some_iff.mp d1).1, d1]
            · rw [List.getElem?_set_ne e]
          refine ⟨q1.trans (.of e8), ?_, _, rfl⟩
          rw [hs]
          exact q2.mono e8
      · obtain ⟨q1, q2, v7, rfl⟩ := q
        have hfull : (B.games.take (A.gs.map V.ref).length).map (offOf x) ++ B.games.drop (A.gs.map V.ref).length = B.games.map (offOf x) := by
          rw [List.length_map, bk.ln]
          simp
        rw [hfull] at q2
        have lQ := i5.sy.lg.keepB i5.sy.bk i5.sy.ds q1
        refine s_retNoneM (ev_var rfl) lQ.ob (by rfl) (ea_cons (ev_var rfl) ea_nil) fun H8 e8 => ⟨L, B, B.sides, x, rfl, lQ.mono e8, xm.1, xm.2, gl, fun L' H9 a1 a2 a3 a4 => ?_⟩
        refine dn ?_
        obtain ⟨iF, sF⟩ := i5.setL (q2.mono e8) (lQ.mono e8) (q1.trans (.of e8)) (ok_wd ok xm.1 xm.2) rfl a1 a2 a3 a4
        exact k L' A _ H9 iF ((StepS.ks ((kS.trans (.of (e3.trans e4))).trans k5)).trans sF) fun z hz => by cases hz
    · have i3 := i2.mono e3
      have h3 := e3 _ _ h2
      have lo := lenL (K := K) (sq_of h3)
      rw [List.length_map] at lo
      have kS3 := kS.trans (.of e3)
      refine q_when (b := decide ((opens B).length = 0)) (et_is (et_test (ev_op (ev_lenV (ev_var rfl) lo) ev_c rv_eqI)) (by simp only [decide_eq_decide]; omega)) (fun hb H4 e4 => s_ret ev_c fun H5 e5 => k L A B H5 (i3.mono (e4.trans e5)) (.ks (kS3.trans (.of (e4.trans e5)))) fun z hz => by cases hz) fun hb H4 e4 => ?_
      have hpos : ¬ (opens B).length = 0 := of_decide_eq_false hb
      have i4 := i3.mono e4
      have h4 := e4 _ _ h3
      have lo4 := lenL (K := K) (sq_of h4)
      rw [List.length_map] at lo4
      refine q_ixLdraw (many := ((opens B).length : Int)) (xs := (opens B).map fun i : Nat => V.int (i : Int)) (ev_var rfl) h4 (ea_cons (ev_var rfl) (ea_cons (ev_lenV (ev_var rfl) lo4) ea_nil)) i4.sa (by omega) (by omega) (by rw [List.length_map]) fun n v H5 hv s5 k5 => ?_
      obtain ⟨i, hin, rfl⟩ := map_at hv
      obtain ⟨g, hf⟩ := opens_mem (List.mem_of_getElem? hin)
      have i5 := i4.kst k5 s5
      have kS5 := (kS3.trans (.of e4)).trans k5
      obtain ⟨t, ht, _⟩ := bk.rowAt hf.1
      have put : ∀ {H6 : Hp} {s' : Str} {tz : TS} {D : Ends} {te : TE} {σ6 : L2.St}, InvS K H6 st L A B → Ev te σ6 H6 (.str s') → σ6[2]? = some (some (.ref A.b)) → σ6[8]? = some (some (.int (i : Int))) →
          (∀ H7, BookAt H7 A (putG B i g s') → LgAt K H7 L B B.sides → Kp (bkL A) H6 H7 → tz D σ6 H7) → tSeq (tAsg te (gSub (tOp (rIxL K) (tDGet (tVar 2) (tC (.str "games"))) (tVar 8)) (tC (.int 2)) rSetL)) tz D σ6 H6 := fun {H6 s' tz D te σ6} i6 ht6 hv2 hv8 kk => by
        refine q_setL (l := t) (xs := rowV g) (j := 2) (i6.sy.bk.ro i t g ht hf.1) ht6 (ev_op (eb_games (ev_var hv2) i6.sy.bk.ob) (ev_var hv8) (rv_atL (sq_of i6.sy.bk.gm) (by rw [List.getElem?_map, ht]; rfl))) ev_c (show 2 < 3 by decide) fun H7 e7 => ?_
        obtain ⟨u1, u2, u3⟩ := i6.setB hf.1 ht s' e7
        exact kk _ u1 u2 u3
      refine q_when (et_test (ev_op (ev_var rfl) ev_c rv_eqI)) (fun hb1 H6 e6 => ?_) fun hb1 H6 e6 => ?_
      · have i6 := i5.mono e6
        refine put (s' := "off") i6 ev_c rfl rfl fun H7 u1 u2 u3 => ?_
        refine s_retNoneM (ev_var rfl) u2.ob (by rfl) (ea_cons (ev_var rfl) ea_nil) fun H8 e8 => ⟨L, B, B.sides, .int (i : Int), rfl, u2.mono e8, trivial, .inl ⟨i, g, rfl, hf, fun L' H9 a1 a2 a3 a4 => ?_⟩⟩
        refine dn ?_
        obtain ⟨iF, sF⟩ := i6.setL (u1.mono e8) (u2.mono e8) (u3.trans (.of e8)) (ok_put ok hf (.inr (.inl rfl)) fun _ => by decide +kernel) rfl a1 a2 a3 a4
        exact k L' A _ H9 iF ((StepS.ks (kS5.trans (.of e6))).trans sF) fun z hz => by cases hz
      · refine q_when (et_test (ev_op (ev_var rfl) ev_c rv_eqI)) (fun hb2 H7 e7 => ?_) fun hb2 H7 e7 => ?_
        · have i6 := i5.mono (e6.trans e7)
          refine put (s' := "left") i6 ev_c rfl rfl fun H7 u1 u2 u3 => ?_
          refine s_retNoneMk (vs := []) (zs := [.int (i : Int)]) (ev_var rfl) u2.ob (by rfl) ea_nil (ea_cons (ev_var rfl) ea_nil) rfl rfl fun H8 e8 => ⟨L, B, B.sides, i, g, rfl, u2.mono e8, hf, fun L' H9 a1 a2 a3 a4 => ?_⟩
          refine dn ?_
          obtain ⟨iF, sF⟩ := i6.setL (u1.mono e8) (u2.mono e8) (u3.trans (.of e8)) (ok_put ok hf (.inl rfl) fun _ => by decide +kernel) rfl a1 a2 a3 a4
          exact k L' A _ H9 iF ((StepS.ks (kS5.trans (.of (e6.trans e7)))).trans sF) fun z hz => by cases hz
        · have i7 := i5.mono (e6.trans e7)
          refine q_asgC (ea_cons (ev_var rfl) ea_nil) fun H8 e8 => ⟨A, B, rfl, (i7.mono e8).sy.bk, fun ou H9 hou e9 h9 => ?_⟩
          have i9 := i7.mono (e8.trans e9)
          have lou := lenL (K := K) (sq_of h9)
          rw [List.length_map] at lou
          have o3 : (outs B.draw).length ≤ 3 ∧ 2 ≤ (outs B.draw).length := by
            unfold outs
            split <;> decide
          refine q_ixLdraw (many := ((outs B.draw).length : Int)) (xs := (outs B.draw).map V.str) (ev_var rfl) h9 (ea_cons (ev_var rfl) (ea_cons (ev_lenV (ev_var rfl) lou) ea_nil)) i9.sa (by omega) (by omega) (by rw [List.length_map]) fun n2 v2 H10 hv2 s10 k10 => ?_
          obtain ⟨o, ho, rfl⟩ := map_at hv2
          have om := outs_ok (List.mem_of_getElem? ho)
          have i10 := i9.kst k10 s10
          refine put (s' := o) i10 (ev_var rfl) rfl rfl fun H11 u1 u2 u3 => ?_
          refine s_retNoneM (ev_var rfl) u2.ob (by rfl) (ea_cons (ev_var rfl) (ea_cons (ev_var rfl) ea_nil)) fun H12 e12 => ⟨L, B, B.sides, .int (i : Int), o, rfl, u2.mono e12, trivial, .inl ⟨i, g, rfl, hf, .inl ⟨om.1, om.2, fun L' H13 a1 a2 a3 a4 => ?_⟩⟩⟩
          refine dn ?_
          obtain ⟨iF, sF⟩ := i10.setL (u1.mono e12) (u2.mono e12) (u3.trans (.of e12)) (ok_put ok hf (.inr (.inr om.1)) fun hd hz => om.2 hz hd) rfl a1 a2 a3 a4
          exact k L' A _ H13 iF ((StepS.ks ((kS5.trans (.of (((e6.trans e7).trans e8).trans e9))).trans k10)).trans sF) fun z hz => by cases hz
end
end Lw

/-! X4 -/
/-! The law's filling of a book, its rounds. -/
namespace Lw
open PySem PySem.Spec PyProof.Rows L2 Evl Mt
theorem nb {A B : Prop} (h : B) : ∃ c, V.bl true = .bl c ∧ (if (!c) = true then A else B) := ⟨true, rfl, by simpa using h⟩
section
variable {K : PySem.W.Frag} {σ : L2.St} {H : Hp} {ta te : TE} {t tk : TA} {a C dx st : Addr} {many : Int} {D : Ends} {tz tu : TS} {vs zs dvs : List V} {sp : Sp} {E : XK} {m : Str} {fs : List (Str × V)} {gV : List V → List V → List V} {n l : Nat} {v : V}
theorem s_ifDraw1 {rr : R2} {g : Int → Bool} {c : Int} (hr : ∀ r H, RV rr (.int r) (.int c) H (.bl (g r))) (h : EvA t σ H [.ref st, .int many]) (hs : StateAt H st) (h1 : 1 ≤ many) (h2 : many ≤ 1000000)
    (k1 : ∀ r H2, 0 ≤ r → r < many → StateAt H2 st → Ks st H H2 → g r = true → tu D σ H2) (k2 : ∀ r H2, 0 ≤ r → r < many → StateAt H2 st → Ks st H H2 → g r = false → D.nx σ H2) :
    tIfS (tTest (tOp rr (tCall spDr [] E0 t) (tC (.int c)))) tu tNext D σ H := by
  show tTest (tOp rr (tCall spDr [] E0 t) (tC (.int c))) σ H fun b H1 => if b = true then tu D σ H1 else D.nx σ H1
  refine t_draw hr h hs h1 h2 fun r H2 a b' c' d => ?_
  cases hg : g r with
  | true => exact k1 r H2 a b' c' d hg
  | false => exact k2 r H2 a b' c' d hg
/-- if not f(..): .. -/
theorem s_ifNotC (h : EvA t σ H vs) (k : ∀ H1, Ex H H1 → sp (vs ++ dvs) H1 (fun x H2 => ∃ c, x = .bl c ∧ if (!c) = true then tu D σ H2 else D.nx σ H2) E) : tIfS (tNot (tB (tCall sp dvs E t))) tu tNext D σ H := h H (Ex.refl H) _ k
/-- if o.m(..) is not None: .. -/
theorem s_ifNotNoneM (h : Ev ta σ H (.ref a)) (ob : H a = some (.ins C dx fs)) (hm : fs.lookup m = none) (hv : EvA t σ H vs) (k : ∀ H1, Ex H H1 → sp (.ref a :: (vs ++ dvs)) H1 (fun u H2 => V.non = .non ∧ ∃ k, V.bl (!decide (u = .non)) = .bl k ∧ if k = true then tu D σ H2 else D.nx σ H2) E) :
    tIfS (tTest (tOp (fun x y H Q => y = .non ∧ Q (.bl (!decide (x = .non))) H) (tMeth C m sp dvs E ta t) (tC .non))) tu tNext D σ H :=
  h H (Ex.refl H) _ fun H1 e1 => ⟨a, dx, fs, rfl, e1 _ _ ob, hm, hv H1 e1 _ fun H2 e2 => k H2 (e1.trans e2)⟩
theorem s_ifNotNoneMk (h : Ev ta σ H (.ref a)) (ob : H a = some (.ins C dx fs)) (hm : fs.lookup m = none) (hv : EvA t σ H vs) (hz : EvA tk σ H zs) (ln : vs.length = n) (ll : zs.length = l) (k : ∀ H1, Ex H H1 → sp (gV (.ref a :: vs) zs) H1 (fun u H2 => V.non = .non ∧ ∃ k, V.bl (!decide (u = .non)) = .bl k ∧ if k = true then tu D σ H2 else D.nx σ H2) E) :
    tIfS (tTest (tOp (fun x y H Q => y = .non ∧ Q (.bl (!decide (x = .non))) H) (tMethN C m n l sp gV E ta t tk) (tC .non))) tu tNext D σ H :=
  h H (Ex.refl H) _ fun H1 e1 => ⟨a, dx, fs, rfl, e1 _ _ ob, hm, hv H1 e1 _ fun H2 e2 => hz H2 (e1.trans e2) _ fun H3 e3 => ⟨ln, ll, k H3 ((e1.trans e2).trans e3)⟩⟩
theorem nn {A B : Prop} (h : B) : V.non = V.non ∧ ∃ k, V.bl (!decide (V.non = V.non)) = .bl k ∧ (if k = true then A else B) := ⟨rfl, false, by simp, by simpa using h⟩
/-- if not same(o.m(k = ..), e): .. -/
theorem q_ifNotSameMk (h : Ev ta σ H (.ref a)) (ob : H a = some (.ins C dx fs)) (hm : fs.lookup m = none) (hv : EvA t σ H vs) (hz : EvA tk σ H zs) (ln : vs.length = n) (ll : zs.length = l) (hf : FlatV v) (he : ∀ H1, Ev te σ H1 v)
    (k : ∀ H1, Ex H H1 → sp (gV (.ref a :: vs) zs) H1 (fun u H2 => u = v ∧ ∀ H3, Ex H2 H3 → tz D σ H3) E) (km : ∀ H1 Q Q', (∀ u H2, Q u H2 → Q' u H2) → sp (gV (.ref a :: vs) zs) H1 Q E → sp (gV (.ref a :: vs) zs) H1 Q' E) :
    tSeq (tIfS (tNot (tB (tCall (spV r_law_same) [] E0 (tCons (tMethN C m n l sp gV E ta t tk) (tCons te tNil))))) tu tNext) tz D σ H := by
  show tMethN C m n l sp gV E ta t tk σ H fun x H1 => te σ H1 fun y H2 => spV r_law_same [x, y] H2 (fun b H3 => ∃ c, b = .bl c ∧ if (!c) = true then tu { D with nx := tz D } σ H3 else tz D σ H3) E0
  refine h H (Ex.refl H) _ fun H1 e1 => ⟨a, dx, fs, rfl, e1 _ _ ob, hm, hv H1 e1 _ fun H2 e2 => hz H2 (e1.trans e2) _ fun H3 e3 => ⟨ln, ll, km H3 _ _ (fun u H4 hu => ?_) (k H3 ((e1.trans e2).trans e3))⟩⟩
  obtain ⟨rfl, hu⟩ := hu
  exact he H4 H4 (Ex.refl _) _ fun H5 e5 => ⟨.bl true, ⟨.inl ⟨u, rfl, hf⟩, rfl⟩, fun H6 e6 => nb (hu H6 (e5.trans e6))⟩
end
section
variable {P : Program} {w : World} {K : PySem.W.Frag} {mg : Str → Option Value} {base : Heap}
variable (K) in
def spFi : Sp := fun vs H Q _ => ∃ (st : Addr) (L : LgAd) (A : BkAd) (B : Bk), vs = [.ref st, .ref L.l, .ref A.b] ∧ InvS K H st L A B ∧ B.gone = [] ∧ Done K H st L A none Q
theorem ok_law_fill (T : Tx0 K mg) (TX : TXF P K) : FnOk P w K mg base CX0 8 (a_law_fill K) (fd_law_fill K) p_law_fill (spFi K) := by
  refine okN T.f_law_fill sc_law_fill (fun vs H Q E h => ?_) (fun cdv A outer s H vs Q E hr h => ?_)
  · obtain ⟨st, L, A, B, rfl, _⟩ := h
    rfl
  · obtain ⟨st, L, A, B, rfl, hi, hgo, k⟩ := h
    refine ⟨_, (pss_cons (ps_set (i := 3) sc_law_fill.nd rfl (by first | exact .inl rfl | exact .inr rfl) (pe_op op_add pe_int (pe_call (ok_law_draw T) (hr.mono (by decide)) (by rfl) T.m_law_draw T.k_law_draw T.b_law_draw .nil pass0 (pa_cons (pv 0) (pa_cons pe_int pa_nil)))))
    (pss_cut (ps_if (pt_cmpR op_eq (pe_call (ok_law_draw T) (hr.mono (by decide)) (by rfl) T.m_law_draw T.k_law_draw T.b_law_draw .nil pass0 (pa_cons (pv 0) (pa_cons pe_int pa_nil))) pe_int (by rfl)) (pss_one (ps_set (i := 3) sc_law_fill.nd rfl (by first | exact .inl rfl | exact .inr rfl) pe_int)) pss_nil)
    (pss_cons (ps_for PassesOwn.never rfl (pi_range1 (by rfl) T.n_range (pa_cons (pv 3) pa_nil)) (pg_name (i := 4) sc_law_fill.nd rfl (by first | exact .inl rfl | exact .inr rfl)) (pss_one (ps_if (pt_not (pt_val (pe_call (ok_law_add T) (hr.mono (by decide)) (by rfl) T.m_law_add T.k_law_add T.b_law_add .nil pass0 (pa_cons (pv 0) (pa_cons (pv 1) (pa_cons (pv 2) pa_nil)))))) (pss_one (ps_ret pe_bl)) pss_nil)))
    (pss_cons (ps_set (i := 5) sc_law_fill.nd rfl (by first | exact .inl rfl | exact .inr rfl) (pe_call (ok_law_outcomes T) (hr.mono (by decide)) (by rfl) T.m_law_outcomes T.k_law_outcomes T.b_law_outcomes .nil pass0 (pa_cons (pv 2) pa_nil)))
    (pss_cons (ps_set (i := 6) sc_law_fill.nd rfl (by first | exact .inl rfl | exact .inr rfl) (pe_call (ok_law_draw T) (hr.mono (by decide)) (by rfl) T.m_law_draw T.k_law_draw T.b_law_draw .nil pass0 (pa_cons (pv 0) (pa_cons pe_int pa_nil))))
    (pss_cons (ps_for PassesOwn.never rfl (pi_range1 (by rfl) T.n_range (pa_cons (pe_callB call_len (by rfl) T.n_len (by decide +kernel) (pa_cons (pe_dget (hu_of hr) (pv 2) pe_str (fun _ _ => rfl)) pa_nil)) pa_nil)) (pg_name (i := 4) sc_law_fill.nd rfl (by first | exact .inl rfl | exact .inr rfl)) (pss_cons (ps_set (i := 7) sc_law_fill.nd rfl (by first | exact .inl rfl | exact .inr rfl) (pe_ix ix_list (pv 5) (pe_call (ok_law_draw T) (hr.mono (by decide)) (by rfl) T.m_law_draw T.k_law_draw T.b_law_draw .nil pass0 (pa_cons (pv 0) (pa_cons (pe_callB call_len (by rfl) T.n_len (by decide +kernel) (pa_cons (pv 5) pa_nil)) pa_nil))) (fun _ _ => rfl)))
    (pss_cons (ps_if (pt_cmpR op_eq (pv 6) pe_int (by rfl)) (pss_one (ps_set (i := 7) sc_law_fill.nd rfl (by first | exact .inl rfl | exact .inr rfl) (pe_ix ix_list (pv 5) pe_int (fun _ _ => rfl)))) pss_nil)
    (pss_cons (ps_if (pt_cmpR op_eq (pv 6) pe_int (by rfl)) (pss_one (ps_set (i := 7) sc_law_fill.nd rfl (by first | exact .inl rfl | exact .inr rfl) (pe_ix ix_list (pv 5) (pe_op op_fdiv (pe_callB call_len (by rfl) T.n_len (by decide +kernel) (pa_cons (pv 5) pa_nil)) pe_int) (fun _ _ => rfl)))) pss_nil)
    (pss_one (ps_if (pt_cmpR op_gt (pe_call (ok_law_draw T) (hr.mono (by decide)) (by rfl) T.m_law_draw T.k_law_draw T.b_law_draw .nil pass0 (pa_cons (pv 0) (pa_cons pe_int pa_nil))) pe_int (by rfl)) (pss_cons (ps_asg (pv 7) (pg_sub (pe_ix ix_list (pe_dget (hu_of hr) (pv 2) pe_str (fun _ _ => rfl)) (pv 4) (fun _ _ => rfl)) pe_int set_list))
    (pss_one (ps_if (pt_cmpR op_notN (pe_methKw (pv 1) T.cl T.m_Lenter (ok_Lenter T TX) (hr.mono (by decide)) (kb_Lenter1 T) L2N.passE0 (pa_cons (pv 4) pa_nil) (pk_cons (pv 7) pk_nil)) pe_non (by rfl)) (pss_one (ps_ret pe_bl)) pss_nil))) pss_nil))))))
    (pss_one (ps_ret pe_bl)))))))), ?_⟩
    refine q_drawAdd (c := 4) ev_c (ea_cons (ev_var rfl) (ea_cons ev_c ea_nil)) hi.sa (by decide) (by decide) fun r1 H1 r10 r11 s1 k1 => ?_
    have i1 := hi.kst k1 s1
    refine q_cut (M := fun σ' H' => ∃ mm : Nat, mm ≤ 80 ∧ σ' = [some (.ref st), some (.ref L.l), some (.ref A.b), some (.int (mm : Int)), none, none, none, none] ∧ InvS K H' st L A B ∧ Ks st H H') ?_ ?_
    · obtain ⟨q, hq⟩ := Int.eq_ofNat_of_zero_le r10
      refine s_ifDraw1 (g := fun r => decide (r = 0)) (c := 0) (fun r H => rv_eqI) (ea_cons (ev_var rfl) (ea_cons ev_c ea_nil)) i1.sa (by decide) (by decide) (fun r H2 _ _ s2 k2 _ => s_asg ev_c fun H3 e3 => ⟨80, by decide, rfl, (i1.kst k2 s2).mono e3, (k1.trans k2).trans (.of e3)⟩) fun r H2 _ _ s2 k2 _ => ⟨4 + q, by omega, by rw [hq]; rfl, i1.kst k2 s2, k1.trans k2⟩
    · rintro σ' H2 ⟨mm, hmm, rfl, i2, k2⟩
      refine q_forR1 (n := (mm : Int)) (ea_cons (ev_var rfl) ea_nil) (by omega) (fun i σ' H' => ∃ L' A' B' v4, σ' = [some (.ref st), some (.ref L.l), some (.ref A.b), some (.int (mm : Int)), v4, none, none, none] ∧ InvS K H' st L' A' B' ∧ StepS st H H' L A L' A' ∧ B'.gone = []) (fun H3 e3 => ⟨L, A, B, none, rfl, i2.mono e3, .ks (k2.trans (.of e3)), hgo⟩) (fun i σ' H' hi2 q => ?_) fun σ' H' q => ?_
      · obtain ⟨L', A', B', v4, rfl, j1, j2, j3⟩ := q
        refine s_ifNotC (ea_cons (ev_var rfl) (ea_cons (ev_var rfl) (ea_cons (ev_var rfl) ea_nil))) fun H3 e3 => ⟨st, L', A', B', by rw [j2.l, j2.b]; rfl, j1.mono e3, fun L2 A2 B2 H4 q1 q2 q3 => nb ⟨L2, A2, B2, _, rfl, q1, (j2.trans (.of e3)).trans q2, by rw [q3 _ rfl]; exact j3⟩⟩
      · obtain ⟨L', A', B', v4, rfl, j1, j2, j3⟩ := q
        refine q_asgC (ea_cons (ev_var rfl) ea_nil) fun H3 e3 => ⟨A', B', by rw [j2.b]; rfl, (j1.mono e3).sy.bk, fun ou H4 hou e4 h4 => ?_⟩
        have i3 := j1.mono e3
        have i4 := i3.mono e4
        have ouH : H' ou = none := fresh_back e3 hou
        have ost : ou ≠ st := i3.sa.ne hou
        have onf : ¬ Foot L' A' ou := fun hf => by
          obtain ⟨o, h, _⟩ := i3.sy.kinds _ hf
          rw [hou] at h
          cases h
        refine q_draw (ea_cons (ev_var rfl) (ea_cons ev_c ea_nil)) i4.sa (by decide) (by decide) fun kd H5 kd0 kd5 s5 k5 => ?_
        have i5 := i4.kst k5 s5
        have h5 := k5.1 _ _ ost h4
        have st5 : StepS st H H5 L A L' A' := j2.trans (.ks (((Ks.of e3).trans (.of e4)).trans k5))
        have lg := lenL (K := K) (sq_of i5.sy.bk.gm)
        rw [List.length_map, i5.sy.bk.ln] at lg
        have many := i5.sy.ok.many
        have o3 : (outs B'.draw).length ≤ 3 ∧ 2 ≤ (outs B'.draw).length := by
          unfold outs
          split <;> decide
        let n := B'.games.length
        refine q_forR1 (n := (n : Int)) (ea_cons (ev_lenV (eb_games (by rw [j2.b]; exact ev_var rfl) i5.sy.bk.ob) lg) ea_nil) (by omega) (fun i σ' H' => ∃ L2 A2 B2 v4 v7, σ' = [some (.ref st), some (.ref L.l), some (.ref A.b), some (.int (mm : Int)), v4, some (.ref ou), some (.int kd), v7] ∧ InvS K H' st L2 A2 B2 ∧ StepS st H H' L A L2 A2 ∧ B2.gone = [] ∧ B2.draw = B'.draw ∧ B2.games.length = n ∧ H' ou = some (.lst ((outs B'.draw).map V.str)) ∧ ¬ Foot L2 A2 ou) (fun H6 e6 => ⟨L', A', B', _, none, rfl, i5.mono e6, st5.trans (.of e6), j3, rfl, rfl, e6 _ _ h5, onf⟩) (fun i σ' H' hi2 q => ?_) fun σ' H' q => ?_
        · obtain ⟨L2, A2, B2, v4', v7, rfl, m1, m2, m3, m4, m5, m6, m7⟩ := q
          have hin : i < B2.games.length := by omega
          have hg : B2.games[i]? = some B2.games[i] := List.getElem?_eq_getElem hin
          generalize B2.games[i] = g at hg
          have hf : FreeAt B2 i g := ⟨hg, by rw [m3]; simp, by rw [m3]; simp⟩
          obtain ⟨t, ht, hrow⟩ := m1.sy.bk.rowAt hg
          have lo := lenL (K := K) (sq_of m6)
          rw [List.length_map] at lo
          show tSeq _ _ _ [some (.ref st), some (.ref L.l), some (.ref A.b), some (.int (mm : Int)), some (.int (i : Int)), some (.ref ou), some (.int kd), v7] H'
          refine q_ixLdraw (many := ((outs B'.draw).length : Int)) (xs := (outs B'.draw).map V.str) (ev_var rfl) m6 (ea_cons (ev_var rfl) (ea_cons (ev_lenV (ev_var rfl) lo) ea_nil)) m1.sa (by omega) (by omega) (by rw [List.length_map]) fun n2 v2 H6 hv2 s6 k6 => ?_
          obtain ⟨o, ho, rfl⟩ := map_at hv2
          have p6 := m1.kst k6 s6
          have g6 := k6.1 _ _ ost m6
          have q0 : (outs B'.draw)[0]? = some ((outs B'.draw)[0]'(by omega)) := List.getElem?_eq_getElem _
          generalize (outs B'.draw)[0]'(by omega) = o0 at q0
          have q0' : ((outs B'.draw).map V.str)[0]? = some (.str o0) := by rw [List.getElem?_map, q0]; rfl
          refine q_ifAsg (v := .str (if kd = 0 then o0 else o)) (et_test (ev_op (ev_var rfl) ev_c rv_eqI)) (fun hb => ?_) (fun hb => ?_) fun H7 e7 => ?_
          · rw [if_pos (of_decide_eq_true hb)]
            exact ev_op (ev_var rfl) ev_c (rv_atL (i := 0) (sq_of g6) q0')
          · rw [if_neg (of_decide_eq_false hb)]
            rfl
          have g7 := e7 _ _ g6
          have lo7 := lenL (K := K) (sq_of g7)
          rw [List.length_map] at lo7
          have hdiv : ((outs B'.draw).length : Int) / 2 = (((outs B'.draw).length / 2 : Nat) : Int) := by omega
          have q1 : (outs B'.draw)[(outs B'.draw).length / 2]? = some ((outs B'.draw)[(outs B'.draw).length / 2]'(by omega)) := List.getElem?_eq_getElem _
          generalize (outs B'.draw)[(outs B'.draw).length / 2]'(by omega) = o1 at q1
          have q1' : ((outs B'.draw).map V.str)[(outs B'.draw).length / 2]? = some (.str o1) := by rw [List.getElem?_map, q1]; rfl
          refine q_ifAsg (v := .str (if kd = 1 then o1 else if kd = 0 then o0 else o)) (et_test (ev_op (ev_var rfl) ev_c rv_eqI)) (fun hb => ?_) (fun hb => ?_) fun H8 e8 => ?_
          · rw [if_pos (of_decide_eq_true hb)]
            exact ev_op (ev_var rfl) (ev_op (ev_lenV (ev_var rfl) lo7) ev_c (rv_fdiv (by constructor <;> decide))) (rv_ixL (sq_of g7) (by rw [hdiv]; exact atI_nat q1'))
          · rw [if_neg (of_decide_eq_false hb)]
            rfl
          have om : endedS (if kd = 1 then o1 else if kd = 0 then o0 else o) = true ∧ ((if kd = 1 then o1 else if kd = 0 then o0 else o) = "draw" → B'.draw ≠ none) := by
            refine outs_ok ?_
            split
            · exact List.mem_of_getElem? q1
            · split
              · exact List.mem_of_getElem? q0
              · exact List.mem_of_getElem? ho
          generalize (if kd = 1 then o1 else if kd = 0 then o0 else o) = oo at om
          have p8 := p6.mono (e7.trans e8)
          have k8 := k6.trans (.of (e7.trans e8))
          have g8 := e8 _ _ g7
          show tIfS _ _ tNext _ [some (.ref st), some (.ref L.l), some (.ref A.b), some (.int (mm : Int)), some (.int (i : Int)), some (.ref ou), some (.int kd), some (.str oo)] H8
          refine s_ifDraw1 (g := fun r => decide (0 < r)) (c := 0) (fun r H => rv_gt) (ea_cons (ev_var rfl) (ea_cons ev_c ea_nil)) p8.sa (by decide) (by decide) (fun r H9 _ _ s9 k9 _ => ?_) fun r H9 _ _ s9 k9 _ => ⟨L2, A2, B2, _, _, rfl, p8.kst k9 s9, m2.trans (.ks (k8.trans k9)), m3, m4, m5, k9.1 _ _ ost g8, m7⟩
          have p9 := p8.kst k9 s9
          have g9 := k9.1 _ _ ost g8
          refine q_setL (l := t) (xs := rowV g) (j := 2) (v := .str oo) (p9.sy.bk.ro i t g ht hg) (ev_var rfl) (ev_op (eb_games (by rw [m2.b]; exact ev_var rfl) p9.sy.bk.ob) (ev_var rfl) (rv_atL (sq_of p9.sy.bk.gm) (by rw [List.getElem?_map, ht]; rfl))) ev_c (show 2 < 3 by decide) fun H10 e10 => ?_
          obtain ⟨u1, u2, u3⟩ := p9.setB hg ht oo e10
          refine s_ifNotNoneMk (a := L2.l) (vs := [.int (i : Int)]) (zs := [.str oo]) (by rw [m2.l]; exact ev_var rfl) u2.ob (by rfl) (ea_cons (ev_var rfl) ea_nil) (ea_cons (ev_var rfl) ea_nil) rfl rfl fun H11 e11 => ⟨L2, B2, B2.sides, .int (i : Int), oo, rfl, u2.mono e11, trivial, .inl ⟨i, g, rfl, hf, .inl ⟨om.1, fun z => by rw [m4]; exact om.2 z, fun L3 H12 a1 a2 a3 a4 => nn ?_⟩⟩⟩
          obtain ⟨iF, sF⟩ := p9.setL (u1.mono e11) (u2.mono e11) (u3.trans (.of e11)) (ok_put p9.sy.ok hf (.inr (.inr om.1)) fun hd hz => om.2 hz (by rw [← m4]; exact hd)) rfl a1 a2 a3 a4
          obtain ⟨w1, w2⟩ := sF.keep g9 ost m7
          exact ⟨L3, A2, _, _, _, rfl, iF, (m2.trans (.ks (k8.trans k9))).trans sF, m3, m4, by show (B2.games.set i _).length = n; rw [List.length_set]; exact m5, w1, w2⟩
        · obtain ⟨L2, A2, B2, v4', v7, rfl, m1, m2, m3, m4, m5, m6, m7⟩ := q
          exact s_ret ev_c fun H6 e6 => k L2 A2 B2 H6 (m1.mono e6) (m2.trans (.of e6)) fun z hz => by cases hz
end
end Lw

/-! X5 -/
/-! The law's rounds. -/
namespace Lw
open PySem PySem.Spec PyProof.Rows L2 Evl Mt
section
variable {P : Program} {w : World} {K : PySem.W.Frag} {mg : Str → Option Value} {base : Heap}
variable (K) in
def spRo : Sp := fun vs H Q _ => ∃ (st : Addr) (L : LgAd) (A : BkAd) (B : Bk), vs = [.ref L.l, .ref A.b] ∧ InvS K H st L A B ∧ Done K H st L A none Q
theorem ok_law_round (T : Tx0 K mg) (TX : TXF P K) : FnOk P w K mg base CX0 8 (a_law_round K) (fd_law_round K) p_law_round (spRo K) := by
  refine okN T.f_law_round sc_law_round (fun vs H Q E h => ?_) (fun cdv A outer s H vs Q E hr h => ?_)
  · obtain ⟨st, L, A, B, rfl, _⟩ := h
    rfl
  · obtain ⟨st, L, A, B, rfl, hi, k⟩ := h
    refine ⟨_, (pss_cons (ps_setLc (i := 2) (own := [("_law_side", 6)]) (g := gName 6) (tt := (tTest (tOp (rIn K true) (tVar 6) (tDGet (tVar 1) (tC (.str "gone")))))) (te := (tVar 6)) rfl sc_law_round.nd rfl rfl (sw_true rfl rfl rfl rfl) (pi_list (pe_dget (hu_of hr) (pv 1) pe_str (fun _ _ => rfl))) (blkOk_by (N := n_law_round) (sc := defScope s_law_round) (by decide +kernel)) (fun _ _ _ _ _ => pg_name (i := 6) sc_law_round.nd rfl (by first | exact .inl rfl | exact .inr rfl)) (fun _ _ _ _ _ => (pts_one (pt_cmpR op_notIn_seq (pv 6) (pe_dget (hu_of hr) (pv 1) pe_str (fun _ _ => rfl)) (by rfl)))) (fun _ _ _ _ _ => (pv 6)))
    (pss_cons (ps_if (PW.pt (pw_or (pt_cmpR op_lt (pe_callB call_len (by rfl) T.n_len (by decide +kernel) (pa_cons (pv 2) pa_nil)) pe_int (by rfl)) (pw_or1 (pt_cmpR op_gt (pe_op op_add (pe_callB call_len (by rfl) T.n_len (by decide +kernel) (pa_cons (pe_dget (hu_of hr) (pv 1) pe_str (fun _ _ => rfl)) pa_nil)) (pe_callB call_len (by rfl) T.n_len (by decide +kernel) (pa_cons (pv 2) pa_nil))) pe_int (by rfl))))) (pss_one (ps_ret pe_bl)) pss_nil)
    (pss_cons (ps_for PassesOwn.never rfl (pi_range1 (by rfl) T.n_range (pa_cons (pe_callB call_len (by rfl) T.n_len (by decide +kernel) (pa_cons (pv 2) pa_nil)) pa_nil)) (pg_name (i := 3) sc_law_round.nd rfl (by first | exact .inl rfl | exact .inr rfl)) (pss_cons (ps_set (i := 4) sc_law_round.nd rfl (by first | exact .inl rfl | exact .inr rfl) (pe_ix ix_list (pv 2) (pe_op op_mod (pe_op op_add (pv 3) pe_int) (pe_callB call_len (by rfl) T.n_len (by decide +kernel) (pa_cons (pv 2) pa_nil))) (fun _ _ => rfl)))
    (pss_cons (ps_set (i := 5) sc_law_round.nd rfl (by first | exact .inl rfl | exact .inr rfl) (pe_callB call_len (by rfl) T.n_len (by decide +kernel) (pa_cons (pe_dget (hu_of hr) (pv 1) pe_str (fun _ _ => rfl)) pa_nil)))
    (pss_cons (ps_expr (pe_bm PySem.F.plainAttrs_list PySem.F.slot_list_append PySem.F.type_list_append mt_append (pe_dget (hu_of hr) (pv 1) pe_str (fun _ _ => rfl)) (pa_cons (pe_lst (pa_cons (pe_ix ix_list (pv 2) (pv 3) (fun _ _ => rfl)) (pa_cons (pv 4) (pa_cons pe_str pa_nil)))) pa_nil)))
    (pss_cons (ps_if (pt_not (pt_val (pe_call (ok_law_same T) (hr.mono (by decide)) (by rfl) T.m_law_same T.k_law_same T.b_law_same .nil pass0 (pa_cons (pe_methKw0 (pv 0) T.cl T.m_Ladd_game (ok_Ladd_game T) (hr.mono (by decide)) (kb_Ladd_game0 T) pass0 (pk_cons (pe_ix ix_list (pv 2) (pv 3) (fun _ _ => rfl)) (pk_cons (pv 4) pk_nil))) (pa_cons (pv 5) pa_nil))))) (pss_one (ps_ret pe_bl)) pss_nil)
    (pss_one (ps_if (pt_cmpR op_notN (pe_meth (pv 0) T.cl T.m_Lenter (ok_Lenter T TX) (hr.mono (by decide)) T.b_Lenter .nil L2N.passE0 (pa_cons (pv 5) (pa_cons pe_str pa_nil))) pe_non (by rfl)) (pss_one (ps_ret pe_bl)) pss_nil)))))))
    (pss_one (ps_ret pe_bl))))), ?_⟩
    have bk := hi.sy.bk
    have ok := hi.sy.ok
    refine q_asgL (xs := (avail B).map V.str) (el_mL (ys := B.sides) V.str (fun x => !decide (x ∈ B.gone)) V.str (eb_sides (ev_var rfl) bk.ob) (sq_of bk.sd) (by have := ok.sides.2.1; omega) (fun _ => rfl) (fun y H1 hy e => et_test (ev_op (ev_var rfl) (eb_gone (ev_var rfl) (e _ _ bk.ob)) (rv_strLn (sq_of (e _ _ bk.gn))))) (fun y H1 hy e _ => ev_var rfl)) fun th H1 hth e1 h1 => ?_
    have i1 := hi.mono e1
    have tst : th ≠ st := hi.sa.ne hth
    have tnf : ¬ Foot L A th := fun hf => by
      obtain ⟨o, h, _⟩ := hi.sy.kinds _ hf
      rw [hth] at h
      cases h
    have l1 := lenL (K := K) (sq_of h1)
    have l2 := lenL (K := K) (sq_of i1.sy.bk.gm)
    rw [List.length_map] at l1
    rw [List.length_map, bk.ln] at l2
    have a8 := avail_len ok
    refine q_when (b := decide ((avail B).length < 3) || decide (80 < B.games.length + (avail B).length)) (et_or (et_is (et_test (ev_op (ev_lenV (ev_var rfl) l1) ev_c rv_lt)) (by simp only [decide_eq_decide]; omega)) fun _ => et_is (et_test (ev_op (ev_op (ev_lenV (eb_games (ev_var rfl) i1.sy.bk.ob) l2) (ev_lenV (ev_var rfl) l1) rv_add) ev_c rv_gt)) (by simp only [decide_eq_decide]; omega)) (fun hb H2 e2 => s_ret ev_c fun H3 e3 => k L A B H3 (i1.mono (e2.trans e3)) (.of ((e1.trans e2).trans e3)) fun x hx => by cases hx) fun hb H2 e2 => ?_
    have hb' : ¬ (avail B).length < 3 ∧ ¬ 80 < B.games.length + (avail B).length := by simpa using hb
    obtain ⟨hn3, hn80⟩ := hb'
    have i2 := i1.mono e2
    have h2 := e2 _ _ h1
    have l3 := lenL (K := K) (sq_of h2)
    rw [List.length_map] at l3
    refine q_forR1 (n := ((avail B).length : Int)) (ea_cons (ev_lenV (ev_var rfl) l3) ea_nil) (by omega) (fun i σ' H' => ∃ L' A' B' v3 v4 v5, σ' = [some (.ref L.l), some (.ref A.b), some (.ref th), v3, v4, v5, none] ∧ InvS K H' st L' A' B' ∧ StepS st H H' L A L' A' ∧ B'.gone = B.gone ∧ B'.sides = B.sides ∧ B'.games.length = B.games.length + i ∧ H' th = some (.lst ((avail B).map V.str)) ∧ ¬ Foot L' A' th) (fun H3 e3 => ⟨L, A, B, none, none, none, rfl, i2.mono e3, .of ((e1.trans e2).trans e3), rfl, rfl, rfl, e3 _ _ h2, tnf⟩) (fun i σ' H' hi2 q => ?_) fun σ' H' q => ?_
    · obtain ⟨L', A', B', v3, v4, v5, rfl, m1, m2, m3, m4, m5, m6, m7⟩ := q
      have hin : i < (avail B).length := by omega
      have lo := lenL (K := K) (sq_of m6)
      rw [List.length_map] at lo
      let j := (i + 1) % (avail B).length
      have hj : j < (avail B).length := Nat.mod_lt _ (by omega)
      have hij : i ≠ j := fun e => by
        have h5 : (i + 1) % (avail B).length = i := e.symm
        by_cases c : i + 1 < (avail B).length
        · rw [Nat.mod_eq_of_lt c] at h5
          omega
        · have : i + 1 = (avail B).length := by omega
          rw [this, Nat.mod_self] at h5
          omega
      have hx : (avail B)[i]? = some (avail B)[i] := List.getElem?_eq_getElem hin
      have hy : (avail B)[j]? = some (avail B)[j] := List.getElem?_eq_getElem hj
      have xm := avail_mem.mp (List.mem_of_getElem? hx)
      have ym := avail_mem.mp (List.mem_of_getElem? hy)
      have xy : (avail B)[i] ≠ (avail B)[j] := fun e => by
        rw [e] at hx
        exact hij ((List.getElem?_inj hin (avail_nd ok)).mp (by rw [hx, hy]))
      generalize (avail B)[i] = x at *
      generalize (avail B)[j] = y at *
      have gx : ((avail B).map V.str)[i]? = some (.str x) := by rw [List.getElem?_map, hx]; rfl
      have gy : ((avail B).map V.str)[j]? = some (.str y) := by rw [List.getElem?_map, hy]; rfl
      have hjI : ((i : Int) + 1) % ((avail B).length : Int) = (j : Int) := by
        show _ = (((i + 1) % (avail B).length : Nat) : Int)
        rw [Int.natCast_emod]
        rfl
      show tSeq _ _ _ [some (.ref L.l), some (.ref A.b), some (.ref th), some (.int (i : Int)), v4, v5, none] H'
      refine q_asg (v := .str y) (ev_op (ev_var rfl) (ev_op (ev_op (ev_var rfl) ev_c rv_add) (ev_lenV (ev_var rfl) lo) (rv_mod (by omega))) (rv_ixL (sq_of m6) (by rw [hjI]; exact atI_nat gy))) fun H3 e3 => ?_
      have p3 := m1.mono e3
      have lg := lenL (K := K) (sq_of p3.sy.bk.gm)
      rw [List.length_map, p3.sy.bk.ln] at lg
      refine q_asg (v := .int (B'.games.length : Int)) (ev_lenV (eb_games (by rw [m2.b]; exact ev_var rfl) p3.sy.bk.ob) lg) fun H5 e5 => ?_
      have p5 := p3.mono e5
      have h5 := e5 _ _ (e3 _ _ m6)
      refine q_appL (l := A'.gms) (xs := A'.gs.map V.ref) (ys := rowV (x, y, "home")) p5.sy.bk.gm (eb_games (by rw [m2.b]; exact ev_var rfl) p5.sy.bk.ob) (el_lst (ea_cons (ev_op (ev_var rfl) (ev_var rfl) (rv_atL (sq_of h5) gx)) (ea_cons (ev_var rfl) (ea_cons ev_c ea_nil))) (show 3 ≤ 100000 by decide)) (by rw [List.length_map, p5.sy.bk.ln]; omega) fun p H6 hp e6 h6 => ?_
      have b7 := p5.sy.bk.addG e6 hp h6
      have k7 : Kp (bkL A') H5 (upd H6 A'.gms (.lst (A'.gs.map V.ref ++ [.ref p]))) := (Kp.of e6).trans (Kp.upd (.inl rfl))
      have l7 := p5.sy.lg.keepB p5.sy.bk p5.sy.ds k7
      have h7 : (upd H6 A'.gms (.lst (A'.gs.map V.ref ++ [.ref p]))) th = some (.lst ((avail B).map V.str)) := by
        rw [upd_ne (fun z => m7 (.inr (.inr (.inl z))))]
        exact e6 _ _ h5
      generalize upd H6 A'.gms (.lst (A'.gs.map V.ref ++ [.ref p])) = H7 at *
      have pn : ¬ L'.lr = p := fun z => by
        have := p5.sy.lg.rw
        rw [z, hp] at this
        cases this
      have dsN : L'.lr ∉ A'.sds :: A'.gms :: A'.gne :: (A'.gs ++ [p]) := fun hm => by
        have := p5.sy.ds
        simp only [List.mem_cons, List.mem_append, List.mem_singleton, List.not_mem_nil, or_false] at hm this
        rcases hm with h | h | h | h | h
        · exact this (.inl h)
        · exact this (.inr (.inl h))
        · exact this (.inr (.inr (.inl h)))
        · exact this (.inr (.inr (.inr h)))
        · exact pn h
      have hxs : x ∈ B'.sides := by rw [m4]; exact xm.1
      have hxg : x ∉ B'.gone := by rw [m3]; exact xm.2
      have hys : y ∈ B'.sides := by rw [m4]; exact ym.1
      have hyg : y ∉ B'.gone := by rw [m3]; exact ym.2
      refine q_ifNotSameMk (a := L'.l) (vs := []) (zs := [.str x, .str y]) (v := .int (B'.games.length : Int)) (by rw [m2.l]; exact ev_var rfl) l7.ob (by rfl) ea_nil (ea_cons (ev_op (ev_var rfl) (ev_var rfl) (rv_atL (sq_of h7) gx)) (ea_cons (ev_var rfl) ea_nil)) rfl rfl trivial (fun H1 => ev_var rfl) (fun H8 e8 => ?_) (fun H1 Q Q' hq hs => mono_add hq hs)
      refine ⟨L', B', B'.sides, x, y, rfl, l7.mono e8, hxs, hxg, hys, hyg, xy, by omega, fun L1 H9 a1 a2 a3 a4 => ⟨rfl, fun H10 e10 => ?_⟩⟩
      have b10 := ((b7.mono e8).keepL (l7.mono e8) dsN a3).mono e10
      have l10 := a4.mono e10
      have hfr : FreeAt ({ B' with games := B'.games ++ [(x, y, ("left" : Str))] } : Bk) B'.games.length (x, y, "left") := ⟨by simp, hxg, hyg⟩
      refine s_ifNotNoneM (a := L1.l) (by rw [a1, m2.l]; exact ev_var rfl) l10.ob (by rfl) (ea_cons (ev_var rfl) (ea_cons ev_c ea_nil)) fun H11 e11 => ⟨L1, _, B'.sides, .int (B'.games.length : Int), "home", rfl, l10.mono e11, trivial, .inl ⟨B'.games.length, (x, y, "left"), rfl, hfr, .inl ⟨by decide +kernel, fun z => absurd z (by decide +kernel), fun L2 H12 c1 c2 c3 c4 => nn ?_⟩⟩⟩
      have okA := ok_add p5.sy.ok hxs hxg hys hyg xy (by omega)
      have okP := ok_put okA hfr (s := "home") (.inr (.inr (by decide +kernel))) fun _ => by decide +kernel
      have eB : putG { B' with games := B'.games ++ [(x, y, ("left" : Str))] } B'.games.length (x, y, "left") "home" = ({ B' with games := B'.games ++ [(x, y, ("home" : Str))] } : Bk) := by
        unfold putG
        have : (B'.games ++ [(x, y, ("left" : Str))]).set B'.games.length (x, y, ("home" : Str)) = B'.games ++ [(x, y, ("home" : Str))] := by
          rw [List.set_append_right _ _ (Nat.le_refl _), Nat.sub_self]
          rfl
        show ({ B' with games := (B'.games ++ [(x, y, ("left" : Str))]).set B'.games.length (x, y, ("home" : Str)) } : Bk) = _
        rw [this]
      rw [eB] at okP c4
      have b12 := (b10.mono e11).keepL (l10.mono e11) (by rw [a2]; exact dsN) c3
      obtain ⟨iF, sF⟩ := p5.step (L' := L2) (A' := { A' with gs := A'.gs ++ [p] }) (H' := H12) (B' := { B' with games := B'.games ++ [(x, y, ("home" : Str))] })
        (fun b o n e => c3 b o (fun w => n (lgW_foot (by unfold LgW at w ⊢; rw [a1, a2] at w; exact w))) (e11 _ _ (e10 _ _ (a3 b o (fun w => n (lgW_foot w)) (e8 _ _ (k7 b o (fun w => n (bkL_foot w)) e)))))) (c1.trans a1) rfl rfl (fun b hb => by
          unfold Foot at hb ⊢
          rw [c1, c2, a1, a2] at hb
          rcases hb with h | h | h | h | h
          · exact .inl (.inl h)
          · exact .inl (.inr (.inl h))
          · exact .inl (.inr (.inr (.inl h)))
          · exact .inl (.inr (.inr (.inr (.inl h))))
          · rcases List.mem_append.mp h with h | h
            · exact .inl (.inr (.inr (.inr (.inr h))))
            · rw [List.mem_singleton] at h
              rw [h]
              exact .inr hp)
        ⟨c4, b12, okP, by rw [c2, a2]; exact dsN⟩
      obtain ⟨w1, w2⟩ := sF.keep h5 tst m7
      exact ⟨L2, _, _, _, _, _, rfl, iF, (m2.trans (.of (e3.trans e5))).trans sF, m3, m4, by show (B'.games ++ _).length = _; rw [List.length_append, m5]; simp; omega, w1, w2⟩
    · obtain ⟨L', A', B', v3, v4, v5, rfl, m1, m2, m3, m4, m5, m6, m7⟩ := q
      exact s_ret ev_c fun H6 e6 => k L' A' B' H6 (m1.mono e6) (m2.trans (.of e6)) fun z hz => by cases hz
end
end Lw

/-! X6 -/
/-! The law's refused deeds. -/
namespace Lw
open PySem PySem.Spec PyProof.Rows L2 Evl Mt
section
variable {X : Cx} {CX : CXT} {k : Nat} {f C : Addr} {fd : FuncData} {ps : List Str} {sp : Sp} {E : L2.St → XK} {m : Str} {pos apos : Pos} {e o : Expr} {es : List Expr} {ta : TE} {t : TA}
def tMethX (C : Addr) (m : Str) (sp : Sp) (E : L2.St → XK) (ta : TE) (t : TA) : TE := fun σ H Q => ta σ H fun x H1 => ∃ a dx fs, x = .ref a ∧ H1 a = some (.ins C dx fs) ∧ fs.lookup m = none ∧ t σ H1 fun vs H2 => sp (x :: vs) H2 Q (E σ)
/-- a method's call within a try -/
theorem pe_methX {pl : Sem Bool} (he : PE X o ta) (c : Cls X.K C) (hm : Meth X.K C m f) (F : FnOk X.prog X.w X.K X.mg X.base CX k f fd ps sp) (hr : Room k X.A) (hb : Binds X.K fd ps []) (hx : ∀ σ, PassesAt CX X σ (E σ)) (ha : PA X (e :: es) t)
    (hst : starEach (e :: es) X.env = (false, eval e X.env) :: starEach es X.env := by rfl) (hpl : (backTo pos (starEach es X.env)).any (·.1) = false := by rfl)
    (ht : eval (.Call (.Attribute o m apos) (e :: es) [] pos) X.env = (do
      let ov ← eval o X.env
      standAt apos.atName
      let (f, first) ← holding [ov] (getMethod ov m pl)
      callWith pos f first (backTo pos (starEach (e :: es) X.env)) (backToKw pos (keywordEach [] X.env))) := by rfl) :
    PE X (.Call (.Attribute o m apos) (e :: es) [] pos) (tMethX C m sp E ta t) := by
  refine ⟨fun pins s σ H Q I h => ?_⟩
  refine PySem.W.methodCall_KW (pl := pl) (thn (he.run pins s σ H _ I h) fun u s1 ⟨x, H1, I1, rx, a, dx, fs, ex, ea, l, q⟩ => ?_) ht
  subst ex
  obtain rfl : u = Value.ref a := rx
  refine getmeth_ok I1 ea c hm l ?_
  refine PySem.W.callWith_K (first := [.ref a]) (h₀ := X.base) I.ok.mod.kin hm.kp (thn (ha.run pos pins s1 σ H1 _ I1 q) fun us s2 ⟨vs, H2, I2, r, q2⟩ => ⟨I2.kIn, ?_⟩) hst hpl
  exact run_fnS (us := .ref a :: us) (vs := .ref a :: vs) F hr hb (hx σ) I2 (.cons rfl r) q2
/-- isinstance of the error that the suite holds -/
def rIsF2 (K : PySem.W.Frag) (D a : Addr) (cls : Value) (d : Option Addr) : List V → Hp → VK → Prop := fun xs H Q => cls = .ref D ∧ ∃ dd, d = some dd ∧ rIsF K D a dd xs H Q
theorem call_isF2 {a D : Addr} {cls : Value} {d : Option Addr} {oe : Obj} {pn : List (Addr × Obj)} (hC : ExcA X.K D) (hz : Zc cls d oe) (hf : ∃ vs, oe.data = .fields vs) : CallR (X.suite a ((a, oe) :: pn)) (.builtin "isinstance") (rIsF2 X.K D a cls d) := by
  intro pins s σ H xs us Q I r h
  obtain ⟨rfl, dd, rfl, h⟩ := h
  exact call_isF hC hz hf pins s σ H xs us Q I r h
theorem roomS {A : Around} {x : Option Value} (r : Room k A) : L2H.RoomH k (A.mark x) := ⟨r.dp, r.un⟩
theorem hotS {a : Addr} {cls : Value} {d : Option Addr} {oe : Obj} {pn : List (Addr × Obj)} (hz : L2N.Zn cls d oe) (hf : ∃ vs, oe.data = .fields vs) : L2H.HotC (X.suite a ((a, oe) :: pn)) := by
  obtain ⟨vs, hv⟩ := hf
  exact ⟨(a, oe), ⟨rfl, vs, hv, hz.2.2 vs hv⟩, List.mem_cons_self⟩
end
section
variable {K : PySem.W.Frag} {σ : L2.St} {H : Hp} {ta tb te : TE} {t : TA} {a C C2 d : Addr} {fs : List (Str × V)} {b : Bool} {f : Str} {v z : V} {sp : Sp} {E : L2.St → XK} {vs : List V} {D : Ends} {dx : Addr} {m : Str}
theorem ev_isF (h : Ev ta σ H (.ref a)) (hb : Ev tb σ H (.ref C2)) (hd : H d = some (.xd fs)) (hk : PySem.W.kitOne K (.ref C) (.ref C2) = some b) : Ev (tCB (rIsF2 K C a (.ref C) (some d)) (tCons ta (tCons tb tNil))) σ H (.bl b) := fun H1 e Q q =>
  h H1 e _ fun H2 e2 => hb H2 (e.trans e2) _ fun H3 e3 => ⟨rfl, d, rfl, .ref C2, .ref C2, b, fs, rfl, fun u hu => hu, ((e.trans e2).trans e3) _ _ hd, hk, q H3 (e2.trans e3)⟩
theorem ev_xf (h : Ev te σ H (.ref a)) (hd : H d = some (.xd fs)) (hl : fs.lookup f = some v) : Ev (tXf a (.ref C) (some d) C f te) σ H v := fun H1 e Q q =>
  h H1 e _ fun H2 e2 => ⟨rfl, rfl, d, fs, v, rfl, (e.trans e2) _ _ hd, hl, q H2 e2⟩
theorem ev_callS (h : EvA t σ H vs) (hs : SpV sp vs H z) : Ev (tCallS sp E t) σ H z := fun H1 e Q q => h H1 e _ fun H2 e2 => hs H2 (e.trans e2) Q (fun H3 e3 => q H3 (e2.trans e3)) (E σ)
/-- what a suite says of the error -/
theorem suite_ok {j : Nat} {C3 : Addr} (hj : σ[j]? = some (some (.ref a))) (hd : H d = some (.xd [(f, v)])) (hf : FlatV v) (hv : Ev te σ H v) (k1 : PySem.W.kitOne K (.ref C) (.ref C2) = some true) (k2 : PySem.W.kitOne K (.ref C) (.ref C3) = some false) (q : ∀ H1, Ex H H1 → D.rt (.bl true) H1) :
    tRet (tAndV (tCB (rIsF2 K C a (.ref C) (some d)) (tCons (tVar j) (tCons (tC (.ref C2)) tNil))) (tAndV (tNotV (tCB (rIsF2 K C a (.ref C) (some d)) (tCons (tVar j) (tCons (tC (.ref C3)) tNil)))) (tCallS (spV r_same0) E (tCons (tXf a (.ref C) (some d) C f (tVar j)) (tCons te tNil))))) D σ H :=
  s_ret (ev_andV (a := true) (ev_isF (ev_var hj) ev_c hd k1) fun _ => ev_andV (a := true) (ev_notV (ev_isF (ev_var hj) ev_c hd k2)) fun _ => ev_callS (z := .bl true) (ea_cons (ev_xf (ev_var hj) hd (by simp [List.lookup])) (ea_cons hv ea_nil)) (spV_ev (R := r_same0) fun H1 _ => ⟨v, rfl, hf, rfl⟩)) q
/-- o.m(..) within a try -/
theorem c_methX {Q : VK} (h : Ev ta σ H (.ref a)) (ob : H a = some (.ins C dx fs)) (hm : fs.lookup m = none) (hv : EvA t σ H vs) (k : ∀ H1, Ex H H1 → sp (.ref a :: vs) H1 Q (E σ)) : tMethX C m sp E ta t σ H Q :=
  h H (Ex.refl H) _ fun H1 e1 => ⟨a, dx, fs, rfl, e1 _ _ ob, hm, hv H1 e1 _ fun H2 e2 => k H2 (e1.trans e2)⟩
end
section
variable {P : Program} {w : World} {K : PySem.W.Frag} {mg : Str → Option Value} {base : Heap}
variable (K) in
def spRf : Sp := fun vs H Q _ => ∃ (st : Addr) (L : LgAd) (A : BkAd) (B : Bk), vs = [.ref st, .ref L.l, .ref A.b] ∧ InvS K H st L A B ∧ ∀ H2, StateAt H2 st → Ks st H H2 → Q (.bl true) H2
theorem ok_law_refused (T : Tx0 K mg) (TX : TXF P K) : FnOk P w K mg base CX0 7 (a_law_refused K) (fd_law_refused K) p_law_refused (spRf K) := by
  obtain ⟨fI, LE, cc, cda, t_BadGame⟩ := TX.bg.ex
  refine okN T.f_law_refused sc_law_refused (fun vs H Q E h => ?_) (fun cdv A outer s H vs Q E hr h => ?_)
  · obtain ⟨st, L, A, B, rfl, _⟩ := h
    rfl
  · obtain ⟨st, L, A, B, rfl, hi, k⟩ := h
    refine ⟨_, (pss_cons (ps_set (i := 3) sc_law_refused.nd rfl (by first | exact .inl rfl | exact .inr rfl) (pe_callB call_len (by rfl) T.n_len (by decide +kernel) (pa_cons (pe_dget (hu_of hr) (pv 2) pe_str (fun _ _ => rfl)) pa_nil)))
    (pss_cons (ps_set (i := 4) sc_law_refused.nd rfl (by first | exact .inl rfl | exact .inr rfl) (pe_ix ix_tup (pe_tup (pa_cons (pv 3) (pa_cons (pe_op op_add (pv 3) pe_int) (pa_cons (pe_un un_neg pe_int) (pa_cons pe_non (pa_cons pe_str (pa_cons pe_bl (pa_cons pe_bl pa_nil)))))))) (pe_call (ok_law_draw T) (hr.mono (by decide)) (by rfl) T.m_law_draw T.k_law_draw T.b_law_draw .nil pass0 (pa_cons (pv 0) (pa_cons pe_int pa_nil))) (fun _ _ => rfl)))
    (pss_cons (L2N.ps_try_as (i := 5) rfl rfl sc_law_refused.nd rfl rfl ⟨rfl, by decide, .inl T.g_BadGame⟩ L2N.takes0 (fun W pn xe tk _ => (pss_one (ps_if (pt_cmpR op_eq (pe_call (ok_law_draw T) (hr.mono (by decide)) (by rfl) T.m_law_draw T.k_law_draw T.b_law_draw .nil pass0 (pa_cons (pv 0) (pa_cons pe_int pa_nil))) pe_int (by rfl)) (pss_one (ps_expr (pe_methX (pv 1) T.cl T.m_Lenter (ok_Lenter T TX) (hr.mono (by decide)) T.b_Lenter (fun σ => L2N.passAt tk σ) (pa_cons (pv 4) (pa_cons pe_str pa_nil))))) (pss_one (ps_expr (pe_methX (pv 1) T.cl T.m_Lcall_off (ok_Lcall_off T TX) (hr.mono (by decide)) T.b_Lcall_off (fun σ => L2N.passAt tk σ) (pa_cons (pv 4) pa_nil))))))) (fun ax oe cls dx pn hz hf => (pss_one (ps_ret (pe_and (pe_callB (call_isF2 (D := He.ga K "BadGame") TX.bg.ea hz.zc hf) (by rfl) T.n_isinstance (by decide +kernel) (pa_cons (pv 5) (pa_cons (pe_glob (v := .ref (He.ga K "LeagueError")) (by rfl) T.g_LeagueError rfl) pa_nil))) (pe_and (pe_not (pe_callB (call_isF2 (D := He.ga K "BadGame") TX.bg.ea hz.zc hf) (by rfl) T.n_isinstance (by decide +kernel) (pa_cons (pv 5) (pa_cons (pe_glob (v := .ref (He.ga K "BadSide")) (by rfl) T.g_BadSide rfl) pa_nil)))) (pe_one (L2H.pe_callH (okH_law_same T) (roomS (hr.mono (by decide))) (hotS hz hf) (by rfl) T.m_law_same T.k_law_same T.b_law_same (E := fun _ => E0) (fun _ _ _ _ _ _ _ h => h.elim) (pa_cons (pe_xf TX.bg.xf t_BadGame.noN hz.zc hf (pv 5)) (pa_cons (pv 4) pa_nil))))))))))
    (pss_one (ps_ret pe_bl))))), ?_⟩
    have l2 := lenL (K := K) (sq_of hi.sy.bk.gm)
    rw [List.length_map, hi.sy.bk.ln] at l2
    refine q_asg (v := .int (B.games.length : Int)) (ev_lenV (eb_games (ev_var rfl) hi.sy.bk.ob) l2) fun H1 e1 => ?_
    have i1 := hi.mono e1
    refine q_ixTdraw (xs := [.int (B.games.length : Int), .int ((B.games.length : Int) + 5), .int (-1), .non, .str "0", .bl true, .bl false]) (eu_tup (ea_cons (ev_var rfl) (ea_cons (ev_op (ev_var rfl) ev_c rv_add) (ea_cons (ev_un ev_c ru_neg) (ea_cons ev_c (ea_cons ev_c (ea_cons ev_c (ea_cons ev_c ea_nil))))))) (show 7 ≤ 100000 by decide)) (ea_cons (ev_var rfl) (ea_cons ev_c ea_nil)) i1.sa (by decide) (by decide) rfl fun v H2 hv s2 k2 => ?_
    have hv2 : FlatV v ∧ inR v 0 ((B.games.length : Int) - 1) = false := by
      simp only [List.mem_cons, List.not_mem_nil, or_false] at hv
      rcases hv with rfl | rfl | rfl | rfl | rfl | rfl | rfl
      · exact ⟨trivial, by simp [inR]; omega⟩
      · exact ⟨trivial, by simp [inR]; omega⟩
      · exact ⟨trivial, by simp [inR]⟩
      · exact ⟨trivial, rfl⟩
      · exact ⟨trivial, rfl⟩
      · exact ⟨trivial, rfl⟩
      · exact ⟨trivial, rfl⟩
    have i2 := i1.kst k2 s2
    have kS : Ks st H H2 := (Ks.of e1).trans k2
    have fl : ∀ {H3 : Hp} {W : WX} {σ3 : L2.St}, StateAt H3 st → Ks st H H3 → (∀ d H4, Ex H3 H4 → H4 d = none → W (.ref (He.ga K "BadGame")) (some d) σ3 (upd H4 d (.xd [("number", v)]))) → Flies K "BadGame" "number" v H3 (WE W σ3) := fun {H3 W σ3} _ _ h d H4 e4 hd => h d H4 e4 hd
    show tIfS (tTest (tOp rEq (tCall spDr [] E0 (tCons (tVar 0) (tCons (tC (.int 2)) tNil))) (tC (.int 0)))) (tDrop _) (tDrop _) _ [some (.ref st), some (.ref L.l), some (.ref A.b), some (.int (B.games.length : Int)), some v, none] H2
    refine t_draw (g := fun r => decide (r = 0)) (fun r H => rv_eqI) (ea_cons (ev_var rfl) (ea_cons ev_c ea_nil)) i2.sa (by decide) (by decide) fun r H3 _ _ s3 k3 => ?_
    have i3 := i2.kst k3 s3
    have kS3 := kS.trans k3
    have suite : ∀ d H4, Ex H3 H4 → H4 d = none → ∀ a, (upd H4 d (.xd [("number", v)])) a = none → ∀ {D : Ends}, D.rt = Q → ∀ E', tRet (tAndV (tCB (rIsF2 K (He.ga K "BadGame") a (.ref (He.ga K "BadGame")) (some d)) (tCons (tVar 5) (tCons (tC (.ref (He.ga K "LeagueError"))) tNil))) (tAndV (tNotV (tCB (rIsF2 K (He.ga K "BadGame") a (.ref (He.ga K "BadGame")) (some d)) (tCons (tVar 5) (tCons (tC (.ref (He.ga K "BadSide"))) tNil)))) (tCallS (spV r_same0) E' (tCons (tXf a (.ref (He.ga K "BadGame")) (some d) (He.ga K "BadGame") "number" (tVar 5)) (tCons (tVar 4) tNil))))) D [some (.ref st), some (.ref L.l), some (.ref A.b), some (.int (B.games.length : Int)), some v, some (.ref a)] (upd H4 d (.xd [("number", v)])) := fun d H4 e4 hd a _ D hD E' =>
      suite_ok rfl upd_same hv2.1 (ev_var rfl) TX.k1 TX.k2 fun H5 e5 => by
        rw [hD]
        have e45 := (e4.trans (Ex.new hd)).trans e5
        exact k H5 (s3.mono e45) (kS3.trans (.of e45))
    cases hg : decide (r = 0) with
    | true =>
      refine c_methX (a := L.l) (vs := [v, .str "home"]) (ev_var rfl) i3.sy.lg.ob (by rfl) (ea_cons (ev_var rfl) (ea_cons ev_c ea_nil)) fun H4 e4 => ⟨L, B, B.sides, v, "home", rfl, i3.sy.lg.mono e4, hv2.1, .inr ⟨hv2.2, fun d H5 e5 hd => ?_⟩⟩
      exact ⟨true, TX.bg.em, fun _ a ha => suite d H5 (e4.trans e5) hd a ha rfl _, fun z => nomatch z⟩
    | false =>
      refine c_methX (a := L.l) (vs := [v]) (ev_var rfl) i3.sy.lg.ob (by rfl) (ea_cons (ev_var rfl) ea_nil) fun H4 e4 => ⟨L, B, B.sides, v, rfl, i3.sy.lg.mono e4, hv2.1, .inr ⟨hv2.2, fun d H5 e5 hd => ?_⟩⟩
      exact ⟨true, TX.bg.em, fun _ a ha => suite d H5 (e4.trans e5) hd a ha rfl _, fun z => nomatch z⟩
variable (K) in
def tbValue (W : WX) : TS := tDrop (tMethX (LC K) "enter" (spEn K) (WE W) (tVar 0) (tCons (tOp (rIxL K) (tVar 2) (tC (.int 0))) (tCons (tVar 3) tNil)))
variable (K) in
def spVa : Sp := fun vs H Q _ => ∃ (st : Addr) (L : LgAd) (A : BkAd) (B : Bk), vs = [.ref L.l, .ref A.b] ∧ InvS K H st L A B ∧ ∀ H2, StateAt H2 st → Ks st H H2 → Q (.bl true) H2
theorem ok_law_value (T : Tx0 K mg) (TX : TXF P K) : FnOk P w K mg base CX0 7 (a_law_value K) (fd_law_value K) p_law_value (spVa K) := by
  obtain ⟨fI, LE, cc, cda, t_BadValue⟩ := TX.bv.ex
  refine okN T.f_law_value sc_law_value (fun vs H Q E h => ?_) (fun cdv A outer s H vs Q E hr h => ?_)
  · obtain ⟨st, L, A, B, rfl, _⟩ := h
    rfl
  · obtain ⟨st, L, A, B, rfl, hi, k⟩ := h
    refine ⟨_, (pss_cons (ps_setLc (i := 2) (own := [("_law_k", 5)]) (g := gName 5) (tt := (tB (tCall (spV r_law_is_free) [] E0 (tCons (tVar 1) (tCons (tVar 5) tNil))))) (te := (tVar 5)) rfl sc_law_value.nd rfl rfl (sw_true rfl rfl rfl rfl) (pi_range1 (by rfl) T.n_range (pa_cons (pe_callB call_len (by rfl) T.n_len (by decide +kernel) (pa_cons (pe_dget (hu_of hr) (pv 1) pe_str (fun _ _ => rfl)) pa_nil)) pa_nil)) (blkOk_by (N := n_law_value) (sc := defScope s_law_value) (by decide +kernel)) (fun _ _ _ _ _ => pg_name (i := 5) sc_law_value.nd rfl (by first | exact .inl rfl | exact .inr rfl)) (fun _ _ _ _ _ => (pts_one (pt_val (pe_call (ok_law_is_free T) (hr.mono (by decide)) (by rfl) T.m_law_is_free T.k_law_is_free T.b_law_is_free .nil pass0 (pa_cons (pv 1) (pa_cons (pv 5) pa_nil)))))) (fun _ _ _ _ _ => (pv 5)))
    (pss_cons (ps_if (pt_cmpR op_eq (pe_callB call_len (by rfl) T.n_len (by decide +kernel) (pa_cons (pv 2) pa_nil)) pe_int (by rfl)) (pss_one (ps_ret pe_bl)) pss_nil)
    (pss_cons (ps_set (i := 3) sc_law_value.nd rfl (by first | exact .inl rfl | exact .inr rfl) pe_str)
    (pss_cons (ps_if (pt_cmpR op_isN (pe_ix ix_tup (pe_dget (hu_of hr) (pv 1) pe_str (fun _ _ => rfl)) pe_int (fun _ _ => rfl)) pe_non (by rfl)) (pss_one (ps_set (i := 3) sc_law_value.nd rfl (by first | exact .inl rfl | exact .inr rfl) pe_str)) pss_nil)
    (pss_cons (L2N.ps_try_as (i := 4) (tb := @tbValue K) rfl rfl sc_law_value.nd rfl rfl ⟨rfl, by decide, .inl T.g_BadValue⟩ L2N.takes0 (fun W pn xe tk _ => (pss_one (ps_expr (pe_methX (pv 0) T.cl T.m_Lenter (ok_Lenter T TX) (hr.mono (by decide)) T.b_Lenter (fun σ => L2N.passAt tk σ) (pa_cons (pe_ix ix_list (pv 2) pe_int (fun _ _ => rfl)) (pa_cons (pv 3) pa_nil)))))) (fun ax oe cls dx pn hz hf => (pss_one (ps_ret (pe_and (pe_callB (call_isF2 (D := He.ga K "BadValue") TX.bv.ea hz.zc hf) (by rfl) T.n_isinstance (by decide +kernel) (pa_cons (pv 4) (pa_cons (pe_glob (v := .ref (He.ga K "LeagueError")) (by rfl) T.g_LeagueError rfl) pa_nil))) (pe_and (pe_not (pe_callB (call_isF2 (D := He.ga K "BadValue") TX.bv.ea hz.zc hf) (by rfl) T.n_isinstance (by decide +kernel) (pa_cons (pv 4) (pa_cons (pe_glob (v := .ref (He.ga K "BadGame")) (by rfl) T.g_BadGame rfl) pa_nil)))) (pe_one (L2H.pe_callH (okH_law_same T) (roomS (hr.mono (by decide))) (hotS hz hf) (by rfl) T.m_law_same T.k_law_same T.b_law_same (E := fun _ => E0) (fun _ _ _ _ _ _ _ h => h.elim) (pa_cons (pe_xf TX.bv.xf t_BadValue.noN hz.zc hf (pv 4)) (pa_cons pe_int pa_nil))))))))))
    (pss_one (ps_ret pe_bl))))))), ?_⟩
    have bk := hi.sy.bk
    have g80 := hi.sy.ok.many
    refine q_asgL (xs := (opens B).map fun i : Nat => V.int (i : Int)) (el_opens bk g80 rfl (fun _ => rfl) (fun _ => rfl) (fun _ => rfl)) fun op H1 hop e1 h1 => ?_
    have i1 := hi.mono e1
    have lo := lenL (K := K) (sq_of h1)
    rw [List.length_map] at lo
    refine q_when (b := decide ((opens B).length = 0)) (et_is (et_test (ev_op (ev_lenV (ev_var rfl) lo) ev_c rv_eqI)) (by simp only [decide_eq_decide]; omega)) (fun hb H2 e2 => s_ret ev_c fun H3 e3 => k H3 (i1.sa.mono (e2.trans e3)) (.of ((e1.trans e2).trans e3))) fun hb H2 e2 => ?_
    have hpos : ¬ (opens B).length = 0 := of_decide_eq_false hb
    refine q_asg (v := .str "left") ev_c fun H3 e3 => ?_
    have i3 := (i1.mono e2).mono e3
    refine q_ifAsg (b := decide (B.draw = none)) (v := .str (if B.draw = none then "draw" else "left")) (et_is (et_test (ev_op (ev_op (eb_scheme (ev_var rfl) i3.sy.bk.ob) ev_c (rv_atT (i := 1) (v := optV B.draw) (st_of i3.sy.bk.sc) rfl)) ev_c rv_isN)) optV_none) (fun hd => ?_) (fun hd => ?_) fun H4 e4 => ?_
    · rw [if_pos (of_decide_eq_true hd)]
      exact ev_c
    · rw [if_neg (of_decide_eq_false hd)]
      rfl
    have i4 := i3.mono e4
    have h4 := e4 _ _ (e3 _ _ (e2 _ _ h1))
    have e04 := ((e1.trans e2).trans e3).trans e4
    have h0 : (opens B)[0]? = some ((opens B)[0]'(by omega)) := List.getElem?_eq_getElem _
    generalize (opens B)[0]'(by omega) = i at h0
    obtain ⟨g, hf⟩ := opens_mem (List.mem_of_getElem? h0)
    have bad : endedS (if B.draw = none then ("draw" : Str) else "left") = false ∨ ((if B.draw = none then ("draw" : Str) else "left") = "draw" ∧ B.draw = none) := by
      by_cases hd : B.draw = none
      · exact .inr ⟨if_pos hd, hd⟩
      · rw [if_neg hd]
        exact .inl (by decide +kernel)
    show tDrop _ _ [some (.ref L.l), some (.ref A.b), some (.ref op), some (.str (if B.draw = none then "draw" else "left")), none, none] H4
    refine c_methX (a := L.l) (vs := [.int (i : Int), .str (if B.draw = none then "draw" else "left")]) (ev_var rfl) i4.sy.lg.ob (by rfl) (ea_cons (ev_op (ev_var rfl) ev_c (rv_atL (i := 0) (sq_of h4) (by rw [List.getElem?_map, h0]; rfl))) (ea_cons (ev_var rfl) ea_nil)) fun H5 e5 => ⟨L, B, B.sides, .int (i : Int), _, rfl, i4.sy.lg.mono e5, trivial, .inl ⟨i, g, rfl, hf, .inr ⟨bad, fun d H6 e6 hd => ?_⟩⟩⟩
    refine ⟨true, TX.bv.em, fun _ a ha => ?_, fun z => nomatch z⟩
    refine suite_ok (v := .int 1) rfl upd_same trivial ev_c TX.k3 TX.k4 fun H7 e7 => ?_
    have e57 := ((e5.trans e6).trans (Ex.new hd)).trans e7
    exact k H7 (i4.sa.mono e57) (.of (e04.trans e57))
end
end Lw

/-! X7 -/
/-! The law. -/
namespace Lw
open PySem PySem.Spec PyProof.Rows L2 Evl Mt
section
variable {K : PySem.W.Frag} {H H' : Hp} {st : Addr} {L1 L2 L' : LgAd} {A1 A2 A' : BkAd} {B1 B2 B' : Bk}
structure Two (K : PySem.W.Frag) (H : Hp) (st : Addr) (L1 : LgAd) (A1 : BkAd) (B1 : Bk) (L2 : LgAd) (A2 : BkAd) (B2 : Bk) : Prop where
  a : InvS K H st L1 A1 B1
  b : InvS K H st L2 A2 B2
  ab : ∀ x, Foot L1 A1 x → ¬ (Foot L2 A2 x ∨ x = A2.sds)
  ba : ∀ x, Foot L2 A2 x → ¬ (Foot L1 A1 x ∨ x = A1.sds)
theorem Two.swap (h : Two K H st L1 A1 B1 L2 A2 B2) : Two K H st L2 A2 B2 L1 A1 B1 := ⟨h.b, h.a, h.ba, h.ab⟩
theorem Two.kst (h : Two K H st L1 A1 B1 L2 A2 B2) (k : Ks st H H') (hs : StateAt H' st) : Two K H' st L1 A1 B1 L2 A2 B2 := ⟨h.a.kst k hs, h.b.kst k hs, h.ab, h.ba⟩
theorem Two.mono (h : Two K H st L1 A1 B1 L2 A2 B2) (e : Ex H H') : Two K H' st L1 A1 B1 L2 A2 B2 := ⟨h.a.mono e, h.b.mono e, h.ab, h.ba⟩
theorem Two.step (h : Two K H st L1 A1 B1 L2 A2 B2) (i : InvS K H' st L' A' B') (s : StepS st H H' L1 A1 L' A') : Two K H' st L' A' B' L2 A2 B2 := by
  have sy2 := h.a.sy.apart h.b.sy h.a.sa h.ab s.kc
  have known : ∀ x, (Foot L2 A2 x ∨ x = A2.sds) → H x ≠ none := fun x hx => by
    rcases hx with hx | rfl
    · obtain ⟨o, h1, _⟩ := h.b.sy.kinds x hx
      rw [h1]
      intro z
      cases z
    · rw [h.b.sy.bk.sd]
      intro z
      cases z
  refine ⟨i, ⟨i.sa, sy2, fun t ht hf => ?_⟩, fun x hx hy => ?_, fun x hx hy => ?_⟩
  · obtain ⟨t0, c0, q0, _⟩ := h.a.sa
    rw [s.kc.cl q0 ht] at hf
    exact h.b.cl t0 q0 hf
  · rcases s.ft x hx with hx | hx
    · exact h.ab x hx hy
    · exact known x hy hx
  · rcases hy with hy | hy
    · rcases s.ft x hy with hy | hy
      · exact h.ba x hx (.inl hy)
      · exact known x (.inl hx) hy
    · rw [s.sd] at hy
      exact h.ba x hx (.inr hy)
end
section
variable {K : PySem.W.Frag} {mg : Str → Option Value} {σ : L2.St} {H : Hp} {tb : TE} {A : BkAd} {B : Bk} {D : Ends} {tz : TS} {i : Nat}
/-- League(tuple(book['sides']), book['scheme'], book['rules']) -/
theorem q_league (bk : BookAt H A B) (ok : B.Ok) (g0 : B.games = []) (go : B.gone = []) (hb : Ev tb σ H (.ref A.b)) (k : ∀ L H2, H L.l = none → H L.lr = none → Ex H H2 → LgAt K H2 L B B.sides → tz D (σ.set i (some (.ref L.l))) H2) :
    tSeq (tAsg (tMake (LC K) (spInit K) [] E0 (tCons (tCB (fun xs H Q => ∃ p ys, xs = [.ref p] ∧ ((SqL K H p ys ∧ ∀ l, H l = none → Q (.ref l) (upd H l (.tup ys))) ∨ (SqT K H p ys ∧ Q (.ref p) H))) (tCons (tDGet tb (tC (.str "sides"))) tNil)) (tCons (tDGet tb (tC (.str "scheme"))) (tCons (tDGet tb (tC (.str "rules"))) tNil)))) (gName i)) tz D σ H := by
  show tCB (fun xs H Q => ∃ p ys, xs = [.ref p] ∧ ((SqL K H p ys ∧ ∀ l, H l = none → Q (.ref l) (upd H l (.tup ys))) ∨ (SqT K H p ys ∧ Q (.ref p) H))) (tCons (tDGet tb (tC (.str "sides"))) tNil) σ H fun y1 H1 => tDGet tb (tC (.str "scheme")) σ H1 fun y2 H2 => tDGet tb (tC (.str "rules")) σ H2 fun y3 H3 => ∀ x dx, H3 x = none → H3 dx = none → dx ≠ x → spInit K (.ref x :: ([y1, y2, y3] ++ [])) (upd (upd H3 dx (.own x)) x (.ins (LC K) dx [])) (fun v H4 => v = .non ∧ tz D (σ.set i (some (.ref x))) H4) E0
  refine eu_tupL' (eb_sides hb bk.ob) bk.sd H (Ex.refl _) _ fun p H1 hp e1 h1 => eb_scheme hb bk.ob H1 e1 _ fun H2 e2 => eb_rules hb bk.ob H2 (e1.trans e2) _ fun H3 e3 => fun x dx nx ndx ne => ?_
  have e13 := (e1.trans e2).trans e3
  have ex1 : Ex H3 (upd (upd H3 dx (.own x)) x (.ins (LC K) dx [])) := (Ex.new ndx).trans (Ex.new (by rw [upd_ne ne.symm]; exact nx))
  have eA := e13.trans ex1
  refine ⟨x, dx, p, A.scm, A.rls, B, B.sides, rfl, upd_same, .inr (ex1 _ _ (e3 _ _ (e2 _ _ h1))), eA _ _ bk.sc, .inr (eA _ _ bk.rl), List.Perm.refl _, ok.sides, ok.scheme, ok.rules, g0, go, fun L H4 hx hts hlr kp lg => ⟨rfl, ?_⟩⟩
  subst hx
  have xn : H L.l = none := fresh_back e13 nx
  exact k L H4 xn (fresh_back eA hlr) (fun b o hb => kp b o (fun z => by rw [z, xn] at hb; cases hb) (eA _ _ hb)) lg
theorem ev_min2 {ta tc : TE} {a b : Int} (h : Ev ta σ H (.int a)) (h2 : Ev tc σ H (.int b)) : Ev (tCB (fun xs H Q => ∃ i j, xs = [.int i, .int j] ∧ Q (.int (if j < i then j else i)) H) (tCons ta (tCons tc tNil))) σ H (.int (if b < a then b else a)) := fun H1 e Q q =>
  h H1 e _ fun H2 e2 => h2 H2 (e.trans e2) _ fun H3 e3 => ⟨a, b, rfl, q H3 (e2.trans e3)⟩
end
section
variable {P : Program} {w : World} {K : PySem.W.Frag} {mg : Str → Option Value} {base : Heap}
variable (K) in
def spLaw : Sp := fun vs H Q _ => ∃ (a : Addr) (ns : List Int), vs = [.ref a] ∧ SqL K H a (ns.map V.int) ∧ ns.length ≤ 1000 ∧ ∀ H2, Q (.bl true) H2
theorem ok_law (T : Tx0 K mg) (TX : TXF P K) : FnOk P w K mg base CX0 61 (a_law K) (fd_law K) p_law (spLaw K) := by
  refine okN T.f_law sc_law (fun vs H Q E h => ?_) (fun cdv A outer s H vs Q E hr h => ?_)
  · obtain ⟨a, ns, rfl, _⟩ := h
    rfl
  · obtain ⟨a, ns, rfl, hs, hl, k⟩ := h
    have okrt := ok_law_right (P := P) (w := w) (base := base) T TX
    have okro := ok_law_round (P := P) (w := w) (base := base) T TX
    have okfi := ok_law_fill (P := P) (w := w) (base := base) T TX
    have okch := ok_law_change (P := P) (w := w) (base := base) T TX
    have okrf := ok_law_refused (P := P) (w := w) (base := base) T TX
    have okva := ok_law_value (P := P) (w := w) (base := base) T TX
    refine ⟨_, (pss_cons (ps_set (i := 1) sc_law.nd rfl (by first | exact .inl rfl | exact .inr rfl) (pe_call (ok_law_start T) (hr.mono (by decide)) (by rfl) T.m_law_start T.k_law_start T.b_law_start .nil pass0 (pa_cons (pv 0) pa_nil)))
    (pss_cons (ps_set (i := 2) sc_law.nd rfl (by first | exact .inl rfl | exact .inr rfl) (pe_call (ok_law_book T) (hr.mono (by decide)) (by rfl) T.m_law_book T.k_law_book T.b_law_book .nil pass0 (pa_cons (pv 1) pa_nil)))
    (pss_cons (ps_set (i := 3) sc_law.nd rfl (by first | exact .inl rfl | exact .inr rfl) (pe_call (ok_law_book T) (hr.mono (by decide)) (by rfl) T.m_law_book T.k_law_book T.b_law_book .nil pass0 (pa_cons (pv 1) pa_nil)))
    (pss_cons (ps_set (i := 4) sc_law.nd rfl (by first | exact .inl rfl | exact .inr rfl) (pe_make T.mkL (ok_Linit T) (hr.mono (by decide)) (by rfl) T.g_League T.b_Linit .nil pass0 (pa_cons (pe_callTy call_tuple_of (by rfl) T.n_tuple (by decide +kernel) (pa_cons (pe_dget (hu_of hr) (pv 2) pe_str (fun _ _ => rfl)) pa_nil)) (pa_cons (pe_dget (hu_of hr) (pv 2) pe_str (fun _ _ => rfl)) (pa_cons (pe_dget (hu_of hr) (pv 2) pe_str (fun _ _ => rfl)) pa_nil)))))
    (pss_cons (ps_set (i := 5) sc_law.nd rfl (by first | exact .inl rfl | exact .inr rfl) (pe_make T.mkL (ok_Linit T) (hr.mono (by decide)) (by rfl) T.g_League T.b_Linit .nil pass0 (pa_cons (pe_callTy call_tuple_of (by rfl) T.n_tuple (by decide +kernel) (pa_cons (pe_dget (hu_of hr) (pv 3) pe_str (fun _ _ => rfl)) pa_nil)) (pa_cons (pe_dget (hu_of hr) (pv 3) pe_str (fun _ _ => rfl)) (pa_cons (pe_dget (hu_of hr) (pv 3) pe_str (fun _ _ => rfl)) pa_nil)))))
    (pss_cons (ps_if (PW.pt (pw_or (pt_not (pt_val (pe_call okrt (hr.mono (by decide)) (by rfl) T.m_law_right T.k_law_right T.b_law_right .nil pass0 (pa_cons (pv 1) (pa_cons (pv 4) (pa_cons (pv 2) pa_nil)))))) (pw_or1 (pt_not (pt_val (pe_call okro (hr.mono (by decide)) (by rfl) T.m_law_round T.k_law_round T.b_law_round .nil pass0 (pa_cons (pv 5) (pa_cons (pv 3) pa_nil)))))))) (pss_one (ps_ret pe_bl)) pss_nil)
    (pss_cons (ps_if (PW.pt (pw_or (pt_not (pt_val (pe_call okrt (hr.mono (by decide)) (by rfl) T.m_law_right T.k_law_right T.b_law_right .nil pass0 (pa_cons (pv 1) (pa_cons (pv 5) (pa_cons (pv 3) pa_nil)))))) (pw_or1 (pt_not (pt_val (pe_call okfi (hr.mono (by decide)) (by rfl) T.m_law_fill T.k_law_fill T.b_law_fill .nil pass0 (pa_cons (pv 1) (pa_cons (pv 4) (pa_cons (pv 2) pa_nil))))))))) (pss_one (ps_ret pe_bl)) pss_nil)
    (pss_cons (ps_set (i := 6) sc_law.nd rfl (by first | exact .inl rfl | exact .inr rfl) (pe_call (ok_law_draw T) (hr.mono (by decide)) (by rfl) T.m_law_draw T.k_law_draw T.b_law_draw .nil pass0 (pa_cons (pv 1) (pa_cons pe_int pa_nil))))
    (pss_cons (ps_if (pt_cmpR op_gt (pe_callB call_len (by rfl) T.n_len (by decide +kernel) (pa_cons (pe_dget (hu_of hr) (pv 2) pe_str (fun _ _ => rfl)) pa_nil)) pe_int (by rfl)) (pss_one (ps_set (i := 6) sc_law.nd rfl (by first | exact .inl rfl | exact .inr rfl) (pe_callB (call_min2 rfl) (by rfl) T.n_min (by decide +kernel) (pa_cons (pv 6) (pa_cons pe_int pa_nil))))) pss_nil)
    (pss_cons (ps_for PassesOwn.never rfl (pi_range1 (by rfl) T.n_range (pa_cons (pv 6) pa_nil)) (pg_name (i := 7) sc_law.nd rfl (by first | exact .inl rfl | exact .inr rfl)) (pss_cons (ps_if (PW.pt (pw_or (pt_not (pt_val (pe_call okrt (hr.mono (by decide)) (by rfl) T.m_law_right T.k_law_right T.b_law_right .nil pass0 (pa_cons (pv 1) (pa_cons (pv 4) (pa_cons (pv 2) pa_nil)))))) (pw_or1 (pt_not (pt_val (pe_call okch (hr.mono (by decide)) (by rfl) T.m_law_change T.k_law_change T.b_law_change .nil pass0 (pa_cons (pv 1) (pa_cons (pv 4) (pa_cons (pv 2) pa_nil))))))))) (pss_one (ps_ret pe_bl)) pss_nil)
    (pss_cut (ps_if (PW.pt (pw_and (pt_cmpR op_eq (pe_call (ok_law_draw T) (hr.mono (by decide)) (by rfl) T.m_law_draw T.k_law_draw T.b_law_draw .nil pass0 (pa_cons (pv 1) (pa_cons pe_int pa_nil))) pe_int (by rfl)) (pw_and1 (pt_not (pt_val (pe_call okrf (hr.mono (by decide)) (by rfl) T.m_law_refused T.k_law_refused T.b_law_refused .nil pass0 (pa_cons (pv 1) (pa_cons (pv 4) (pa_cons (pv 2) pa_nil))))))))) (pss_one (ps_ret pe_bl)) pss_nil)
    (pss_cut (ps_if (PW.pt (pw_and (pt_cmpR op_eq (pe_call (ok_law_draw T) (hr.mono (by decide)) (by rfl) T.m_law_draw T.k_law_draw T.b_law_draw .nil pass0 (pa_cons (pv 1) (pa_cons pe_int pa_nil))) pe_int (by rfl)) (pw_and1 (pt_not (pt_val (pe_call okva (hr.mono (by decide)) (by rfl) T.m_law_value T.k_law_value T.b_law_value .nil pass0 (pa_cons (pv 4) (pa_cons (pv 2) pa_nil)))))))) (pss_one (ps_ret pe_bl)) pss_nil)
    (pss_cut (ps_if (PW.pt (pw_and (pt_cmpR op_eq (pe_call (ok_law_draw T) (hr.mono (by decide)) (by rfl) T.m_law_draw T.k_law_draw T.b_law_draw .nil pass0 (pa_cons (pv 1) (pa_cons pe_int pa_nil))) pe_int (by rfl)) (pw_and1 (pt_not (pt_val (pe_call (ok_law_add T) (hr.mono (by decide)) (by rfl) T.m_law_add T.k_law_add T.b_law_add .nil pass0 (pa_cons (pv 1) (pa_cons (pv 5) (pa_cons (pv 3) pa_nil))))))))) (pss_one (ps_ret pe_bl)) pss_nil)
    (pss_one (ps_if (pt_not (pt_val (pe_call okch (hr.mono (by decide)) (by rfl) T.m_law_change T.k_law_change T.b_law_change .nil pass0 (pa_cons (pv 1) (pa_cons (pv 5) (pa_cons (pv 3) pa_nil)))))) (pss_one (ps_ret pe_bl)) pss_nil)))))))
    (pss_one (ps_ret (pe_and (pe_call okrt (hr.mono (by decide)) (by rfl) T.m_law_right T.k_law_right T.b_law_right .nil pass0 (pa_cons (pv 1) (pa_cons (pv 4) (pa_cons (pv 2) pa_nil)))) (pe_one (pe_call okrt (hr.mono (by decide)) (by rfl) T.m_law_right T.k_law_right T.b_law_right .nil pass0 (pa_cons (pv 1) (pa_cons (pv 5) (pa_cons (pv 3) pa_nil)))))))))))))))))), ?_⟩
    refine q_asgC (ea_cons (ev_var rfl) ea_nil) fun H0 e0 => ⟨a, ns, rfl, ex_l e0 hs, hl, fun st H1 hst e1 s1 => ?_⟩
    refine q_asgC (ea_cons (ev_var rfl) ea_nil) fun H1a e1a => ⟨st, rfl, s1.mono e1a, fun A1 H2 B1 b1 sd1 gm1 gn1 gs1 s2 k2 bk1 ok1 ga1 go1 => ?_⟩
    refine q_asgC (ea_cons (ev_var rfl) ea_nil) fun H2a e2a => ⟨st, rfl, s2.mono e2a, fun A2 H3 B2 b2 sd2 gm2 gn2 gs2 s3 k3 bk2 ok2 ga2 go2 => ?_⟩
    have bk1' := (bk1.mono e2a).kst (s2.mono e2a) k3
    refine q_league bk1' ok1 ga1 go1 (ev_var rfl) fun L1 H4 n1l n1r e4 lg1 => ?_
    refine q_league (bk2.mono e4) ok2 ga2 go2 (ev_var rfl) fun L2 H5 n2l n2r e5 lg2 => ?_
    have e35 := e4.trans e5
    have s5 := s3.mono e35
    -- what is known, what is new
    have s2a := s2.mono e2a
    have kn : ∀ {x : Addr} {o : HO}, H2a x = some o → H3 x ≠ none := fun {x o} hx hz => by
      have := fresh_ks k3 s3 hz
      rw [hx] at this
      cases this
    have g1m := (bk1.mono e2a).gm
    have g1n := (bk1.mono e2a).gn
    have g1s := (bk1.mono e2a).sd
    have d12 : ∀ {x y : Addr} {o : HO}, H2a x = some o → H2a y = none → x ≠ y := fun hx hy e => by rw [e, hy] at hx; cases hx
    have d3 : ∀ {x y : Addr} {o : HO}, H3 x = some o → H3 y = none → x ≠ y := fun hx hy e => by rw [e, hy] at hx; cases hx
    have d4 : ∀ {x y : Addr} {o : HO}, H4 x = some o → H4 y = none → x ≠ y := fun hx hy e => by rw [e, hy] at hx; cases hx
    have b3 := bk1'
    have n2l3 := fresh_back e4 n2l
    have n2r3 := fresh_back e4 n2r
    obtain ⟨t3, c3, q31, q32, q33⟩ := s3
    have cl3 : ∀ {x : Addr}, H3 x = none → t3.cl ≠ x := fun {x} hx => d3 q32 hx
    have clm : ∀ {x : Addr}, H2a x = none → t3.cl ≠ x := fun {x} hx e => by
      obtain ⟨u, cu, v1, v2, v3⟩ := s2a
      have := k3.cl v1 q31
      rw [this] at e
      rw [e, hx] at v2
      cases v2
    have cl1m : ∀ {x : Addr}, H1a x = none → t3.cl ≠ x := fun {x} hx e => by
      obtain ⟨u, cu, v1, v2, v3⟩ := s1.mono e1a
      have kk : Ks st H1a H3 := (k2.trans (.of e2a)).trans k3
      have := kk.cl v1 q31
      rw [this] at e
      rw [e, hx] at v2
      cases v2
    have cl5 : ∀ s, H5 st = some (.dK (kvs7 s)) → s.cl = t3.cl := fun s hh => (Ks.of e35 : Ks st H3 H5).cl q31 hh
    have f1 : ∀ x, Foot L1 A1 x → x = L1.l ∨ x = L1.lr ∨ x = A1.gms ∨ x = A1.gne := fun x hx => by
      unfold Foot at hx
      rw [gs1] at hx
      simpa using hx
    have f2 : ∀ x, Foot L2 A2 x → x = L2.l ∨ x = L2.lr ∨ x = A2.gms ∨ x = A2.gne := fun x hx => by
      unfold Foot at hx
      rw [gs2] at hx
      simpa using hx
    have W0 : Two K H5 st L1 A1 B1 L2 A2 B2 := by
      have lg1' := lg1.mono e5
      refine ⟨⟨s5, ⟨lg1', bk1'.mono e35, ok1, ?_⟩, fun s hh hf => ?_⟩, ⟨s5, ⟨lg2, bk2.mono e35, ok2, ?_⟩, fun s hh hf => ?_⟩, fun x hx hy => ?_, fun x hx hy => ?_⟩
      · rw [gs1]
        simp only [List.mem_cons, List.not_mem_nil, or_false]
        rintro (h | h | h)
        · exact d3 b3.sd n1r h.symm
        · exact d3 b3.gm n1r h.symm
        · exact d3 b3.gn n1r h.symm
      · rw [cl5 s hh] at hf
        rcases f1 _ hf with h | h | h | h
        · exact cl3 n1l h
        · exact cl3 n1r h
        · exact cl1m gm1 h
        · exact cl1m gn1 h
      · rw [gs2]
        simp only [List.mem_cons, List.not_mem_nil, or_false]
        rintro (h | h | h)
        · exact d3 bk2.sd n2r3 h.symm
        · exact d3 bk2.gm n2r3 h.symm
        · exact d3 bk2.gn n2r3 h.symm
      · rw [cl5 s hh] at hf
        rcases f2 _ hf with h | h | h | h
        · exact cl3 n2l3 h
        · exact cl3 n2r3 h
        · exact clm gm2 h
        · exact clm gn2 h
      · have hy' : x = L2.l ∨ x = L2.lr ∨ x = A2.gms ∨ x = A2.gne ∨ x = A2.sds := by
          rcases hy with hy | hy
          · rcases f2 _ hy with h | h | h | h
            · exact .inl h
            · exact .inr (.inl h)
            · exact .inr (.inr (.inl h))
            · exact .inr (.inr (.inr (.inl h)))
          · exact .inr (.inr (.inr (.inr hy)))
        have h4 : ∃ o, H4 x = some o := by
          rcases f1 x hx with rfl | rfl | rfl | rfl
          · exact ⟨_, lg1.ob⟩
          · exact ⟨_, lg1.rw⟩
          · exact ⟨_, e4 _ _ b3.gm⟩
          · exact ⟨_, e4 _ _ b3.gn⟩
        obtain ⟨o4, h4⟩ := h4
        rcases hy' with h | h | h | h | h
        · exact d4 h4 n2l h
        · exact d4 h4 n2r h
        all_goals
          rcases f1 x hx with h' | h' | h' | h'
          · first
              | exact d3 bk2.gm n1l (h.symm.trans h')
              | exact d3 bk2.gn n1l (h.symm.trans h')
              | exact d3 bk2.sd n1l (h.symm.trans h')
          · first
              | exact d3 bk2.gm n1r (h.symm.trans h')
              | exact d3 bk2.gn n1r (h.symm.trans h')
              | exact d3 bk2.sd n1r (h.symm.trans h')
          · first
              | exact d12 g1m gm2 (h'.symm.trans h)
              | exact d12 g1m gn2 (h'.symm.trans h)
              | exact d12 g1m sd2 (h'.symm.trans h)
          · first
              | exact d12 g1n gm2 (h'.symm.trans h)
              | exact d12 g1n gn2 (h'.symm.trans h)
              | exact d12 g1n sd2 (h'.symm.trans h)
      · have h4 : x = L1.l ∨ x = L1.lr ∨ x = A1.gms ∨ x = A1.gne ∨ x = A1.sds := by
          rcases hy with hy | hy
          · rcases f1 _ hy with h | h | h | h
            · exact .inl h
            · exact .inr (.inl h)
            · exact .inr (.inr (.inl h))
            · exact .inr (.inr (.inr (.inl h)))
          · exact .inr (.inr (.inr (.inr hy)))
        have h5 : ∃ o, H4 x = some o := by
          rcases h4 with rfl | rfl | rfl | rfl | rfl
          · exact ⟨_, lg1.ob⟩
          · exact ⟨_, lg1.rw⟩
          · exact ⟨_, e4 _ _ b3.gm⟩
          · exact ⟨_, e4 _ _ b3.gn⟩
          · exact ⟨_, e4 _ _ b3.sd⟩
        obtain ⟨o4, h5⟩ := h5
        rcases f2 x hx with h | h | h | h
        · exact d4 h5 n2l h
        · exact d4 h5 n2r h
        all_goals
          rcases h4 with h' | h' | h' | h' | h'
          · first
              | exact d3 bk2.gm n1l (h.symm.trans h')
              | exact d3 bk2.gn n1l (h.symm.trans h')
          · first
              | exact d3 bk2.gm n1r (h.symm.trans h')
              | exact d3 bk2.gn n1r (h.symm.trans h')
          · first
              | exact d12 g1m gm2 (h'.symm.trans h)
              | exact d12 g1m gn2 (h'.symm.trans h)
          · first
              | exact d12 g1n gm2 (h'.symm.trans h)
              | exact d12 g1n gn2 (h'.symm.trans h)
          · first
              | exact d12 g1s gm2 (h'.symm.trans h)
              | exact d12 g1s gn2 (h'.symm.trans h)
    clear lg1 lg2 b3 bk1' bk2 bk1 q31 q32 q33 cl3 clm cl1m cl5 f1 f2 kn g1m g1n g1s d12 d3 d4
    let σ0 : Option V → Option V → List (Option V) := fun v6 v7 => [some (.ref a), some (.ref st), some (.ref A1.b), some (.ref A2.b), some (.ref L1.l), some (.ref L2.l), v6, v7]
    let M : Hp → Prop := fun H' => ∃ L1' A1' B1' L2' A2' B2', Two K H' st L1' A1' B1' L2' A2' B2' ∧ L1'.l = L1.l ∧ A1'.b = A1.b ∧ L2'.l = L2.l ∧ A2'.b = A2.b
    have Mks : ∀ {H' H'' : Hp}, M H' → Ks st H' H'' → StateAt H'' st → M H'' := fun {H' H''} ⟨L1', A1', B1', L2', A2', B2', W, x1, x2, x3, x4⟩ kk ss => ⟨L1', A1', B1', L2', A2', B2', W.kst kk ss, x1, x2, x3, x4⟩
    have Mex : ∀ {H' H'' : Hp}, M H' → Ex H' H'' → M H'' := fun {H' H''} ⟨L1', A1', B1', L2', A2', B2', W, x1, x2, x3, x4⟩ e => ⟨L1', A1', B1', L2', A2', B2', W.mono e, x1, x2, x3, x4⟩
    have Msa : ∀ {H' : Hp}, M H' → StateAt H' st := fun {H'} ⟨_, _, _, _, _, _, W, _⟩ => W.a.sa
    -- what each deed asks and leaves
    have right1 : ∀ {H' : Hp} {Q' : VK}, M H' → (∀ H'', M H'' → Q' (.bl true) H'') → spRt K [.ref st, .ref L1.l, .ref A1.b] H' Q' E0 := fun {H' Q'} hM hq => by
      obtain ⟨L1', A1', B1', L2', A2', B2', W, x1, x2, x3, x4⟩ := id hM
      exact ⟨st, L1', A1', B1', by rw [x1, x2], W.a.sa, W.a.sy.lg, W.a.sy.bk, W.a.sy.ok, fun H'' ss kk => hq _ (Mks hM kk ss)⟩
    have right2 : ∀ {H' : Hp} {Q' : VK}, M H' → (∀ H'', M H'' → Q' (.bl true) H'') → spRt K [.ref st, .ref L2.l, .ref A2.b] H' Q' E0 := fun {H' Q'} hM hq => by
      obtain ⟨L1', A1', B1', L2', A2', B2', W, x1, x2, x3, x4⟩ := id hM
      exact ⟨st, L2', A2', B2', by rw [x3, x4], W.b.sa, W.b.sy.lg, W.b.sy.bk, W.b.sy.ok, fun H'' ss kk => hq _ (Mks hM kk ss)⟩
    have done1 : ∀ {H' : Hp} {L1' A1' B1' L2' A2' B2'} {Q' : VK}, Two K H' st L1' A1' B1' L2' A2' B2' → L1'.l = L1.l → A1'.b = A1.b → L2'.l = L2.l → A2'.b = A2.b → (∀ H'', M H'' → Q' (.bl true) H'') → ∀ g, Done K H' st L1' A1' g Q' := fun {H' L1' A1' B1' L2' A2' B2' Q'} W x1 x2 x3 x4 hq g L' A' B' H2 ii ss _ =>
      hq _ ⟨L', A', B', L2', A2', B2', W.step ii ss, ss.l.trans x1, ss.b.trans x2, x3, x4⟩
    have done2 : ∀ {H' : Hp} {L1' A1' B1' L2' A2' B2'} {Q' : VK}, Two K H' st L1' A1' B1' L2' A2' B2' → L1'.l = L1.l → A1'.b = A1.b → L2'.l = L2.l → A2'.b = A2.b → (∀ H'', M H'' → Q' (.bl true) H'') → ∀ g, Done K H' st L2' A2' g Q' := fun {H' L1' A1' B1' L2' A2' B2' Q'} W x1 x2 x3 x4 hq g L' A' B' H2 ii ss _ =>
      hq _ ⟨L1', A1', B1', L', A', B', (W.swap.step ii ss).swap, x1, x2, ss.l.trans x3, ss.b.trans x4⟩
    have change1 : ∀ {H' : Hp} {Q' : VK}, M H' → (∀ H'', M H'' → Q' (.bl true) H'') → spCh K [.ref st, .ref L1.l, .ref A1.b] H' Q' E0 := fun {H' Q'} hM hq => by
      obtain ⟨L1', A1', B1', L2', A2', B2', W, x1, x2, x3, x4⟩ := id hM
      exact ⟨st, L1', A1', B1', by rw [x1, x2], W.a, done1 W x1 x2 x3 x4 hq _⟩
    have change2 : ∀ {H' : Hp} {Q' : VK}, M H' → (∀ H'', M H'' → Q' (.bl true) H'') → spCh K [.ref st, .ref L2.l, .ref A2.b] H' Q' E0 := fun {H' Q'} hM hq => by
      obtain ⟨L1', A1', B1', L2', A2', B2', W, x1, x2, x3, x4⟩ := id hM
      exact ⟨st, L2', A2', B2', by rw [x3, x4], W.b, done2 W x1 x2 x3 x4 hq _⟩
    have add2 : ∀ {H' : Hp} {Q' : VK}, M H' → (∀ H'', M H'' → Q' (.bl true) H'') → spAd K [.ref st, .ref L2.l, .ref A2.b] H' Q' E0 := fun {H' Q'} hM hq => by
      obtain ⟨L1', A1', B1', L2', A2', B2', W, x1, x2, x3, x4⟩ := id hM
      exact ⟨st, L2', A2', B2', by rw [x3, x4], W.b, done2 W x1 x2 x3 x4 hq _⟩
    have round2 : ∀ {H' : Hp} {Q' : VK}, M H' → (∀ H'', M H'' → Q' (.bl true) H'') → spRo K [.ref L2.l, .ref A2.b] H' Q' E0 := fun {H' Q'} hM hq => by
      obtain ⟨L1', A1', B1', L2', A2', B2', W, x1, x2, x3, x4⟩ := id hM
      exact ⟨st, L2', A2', B2', by rw [x3, x4], W.b, done2 W x1 x2 x3 x4 hq _⟩
    have refused1 : ∀ {H' : Hp} {Q' : VK}, M H' → (∀ H'', M H'' → Q' (.bl true) H'') → spRf K [.ref st, .ref L1.l, .ref A1.b] H' Q' E0 := fun {H' Q'} hM hq => by
      obtain ⟨L1', A1', B1', L2', A2', B2', W, x1, x2, x3, x4⟩ := id hM
      exact ⟨st, L1', A1', B1', by rw [x1, x2], W.a, fun H'' ss kk => hq _ (Mks hM kk ss)⟩
    have value1 : ∀ {H' : Hp} {Q' : VK}, M H' → (∀ H'', M H'' → Q' (.bl true) H'') → spVa K [.ref L1.l, .ref A1.b] H' Q' E0 := fun {H' Q'} hM hq => by
      obtain ⟨L1', A1', B1', L2', A2', B2', W, x1, x2, x3, x4⟩ := id hM
      exact ⟨st, L1', A1', B1', by rw [x1, x2], W.a, fun H'' ss kk => hq _ (Mks hM kk ss)⟩
    -- right of the first, a round of the second
    refine c_call (ea_cons (ev_var (σ := σ0 none none) (H := H5) rfl) (ea_cons (ev_var rfl) (ea_cons (ev_var rfl) ea_nil))) fun H6 e6 => ?_
    have W6 := W0.mono e6
    refine ⟨st, L1, A1, B1, rfl, W6.a.sa, W6.a.sy.lg, W6.a.sy.bk, W6.a.sy.ok, fun H7 s7 k7 => nb ?_⟩
    have W7 := W6.kst k7 s7
    refine c_call (ea_cons (ev_var (σ := σ0 none none) (H := H7) rfl) (ea_cons (ev_var rfl) ea_nil)) fun H8 e8 => ?_
    have W8 := W7.mono e8
    refine ⟨st, L2, A2, B2, rfl, W8.b, fun L2' A2' B2' H9 i9 st9 _ => nb ?_⟩
    have W9 := (W8.swap.step i9 st9).swap
    -- right of the second, the first filled
    refine c_call (ea_cons (ev_var (σ := σ0 none none) (H := H9) rfl) (ea_cons (ev_var rfl) (ea_cons (ev_var rfl) ea_nil))) fun H10 e10 => ?_
    have W10 := W9.mono e10
    refine ⟨st, L2', A2', B2', by rw [st9.l, st9.b]; rfl, W10.b.sa, W10.b.sy.lg, W10.b.sy.bk, W10.b.sy.ok, fun H11 s11 k11 => nb ?_⟩
    have W11 := W10.kst k11 s11
    refine c_call (ea_cons (ev_var (σ := σ0 none none) (H := H11) rfl) (ea_cons (ev_var rfl) (ea_cons (ev_var rfl) ea_nil))) fun H12 e12 => ?_
    have W12 := W11.mono e12
    refine ⟨st, L1, A1, B1, rfl, W12.a, go1, fun L1' A1' B1' H13 i13 st13 _ => nb ?_⟩
    have W13 := W12.step i13 st13
    have M13 : M H13 := ⟨L1', A1', B1', L2', A2', B2', W13, st13.l, st13.b, st9.l, st9.b⟩
    -- the turns
    refine q_draw (ea_cons (ev_var (σ := σ0 none none) (H := H13) rfl) (ea_cons ev_c ea_nil)) (Msa M13) (by decide) (by decide) fun r H14 r0 r9 s14 k14 => ?_
    have M14 := Mks M13 k14 s14
    have W14 := W13.kst k14 s14
    have lg := lenL (K := K) (sq_of W14.a.sy.bk.gm)
    rw [List.length_map, W14.a.sy.bk.ln] at lg
    obtain ⟨rn, hrn⟩ := Int.eq_ofNat_of_zero_le r0
    refine q_ifAsg (σ := σ0 (some (.int r)) none) (b := decide (20 < (B1'.games.length : Int))) (v := .int (if 20 < (B1'.games.length : Int) then (if 2 < r then 2 else r) else r)) (et_test (ev_op (ev_lenV (eb_games (by rw [st13.b]; exact ev_var rfl) W14.a.sy.bk.ob) lg) ev_c rv_gt)) (fun hb => ?_) (fun hb => ?_) fun H15 e15 => ?_
    · rw [if_pos (of_decide_eq_true hb)]
      exact ev_min2 (ev_var rfl) ev_c
    · rw [if_neg (of_decide_eq_false hb)]
      rfl
    have tb : 0 ≤ (if 20 < (B1'.games.length : Int) then (if 2 < r then 2 else r) else r) ∧ (if 20 < (B1'.games.length : Int) then (if 2 < r then 2 else r) else r) ≤ 9 := by
      split
      · split <;> omega
      · omega
    generalize (if 20 < (B1'.games.length : Int) then (if 2 < r then 2 else r) else r) = tn at tb
    have M15 := Mex M14 e15
    show tSeq _ _ _ (σ0 (some (.int tn)) none) H15
    refine q_forR1 (n := tn) (ea_cons (ev_var rfl) ea_nil) (by omega) (fun i σ' H' => ∃ v7, σ' = σ0 (some (.int tn)) v7 ∧ M H') (fun H16 e16 => ⟨none, rfl, Mex M15 e16⟩) (fun i σ' H' hi q => ?_) fun σ' H' q => ?_
    · obtain ⟨v7, rfl, hM⟩ := q
      refine c_call (ea_cons (ev_var (σ := σ0 (some (.int tn)) (some (.int (i : Int)))) (H := H') rfl) (ea_cons (ev_var rfl) (ea_cons (ev_var rfl) ea_nil))) fun H16 e16 => right1 (Mex hM e16) fun H17 M17 => nb ?_
      refine c_call (ea_cons (ev_var (σ := σ0 (some (.int tn)) (some (.int (i : Int)))) (H := H17) rfl) (ea_cons (ev_var rfl) (ea_cons (ev_var rfl) ea_nil))) fun H18 e18 => change1 (Mex M17 e18) fun H19 M19 => nb ?_
      refine q_cut (M := fun σ' H' => σ' = σ0 (some (.int tn)) (some (.int (i : Int))) ∧ M H') ?_ ?_
      · refine t_draw (σ := σ0 (some (.int tn)) (some (.int (i : Int)))) (g := fun r => decide (r = 0)) (fun r H => rv_eqI) (ea_cons (ev_var rfl) (ea_cons ev_c ea_nil)) (Msa M19) (by decide) (by decide) fun r1 H20 _ _ s20 k20 => ?_
        have M20 := Mks M19 k20 s20
        cases hg : decide (r1 = 0) with
        | true =>
          refine c_call (ea_cons (ev_var (σ := σ0 (some (.int tn)) (some (.int (i : Int)))) (H := H20) rfl) (ea_cons (ev_var rfl) (ea_cons (ev_var rfl) ea_nil))) fun H21 e21 => refused1 (Mex M20 e21) fun H22 M22 => nb ⟨rfl, M22⟩
        | false => exact ⟨rfl, M20⟩
      · rintro σ' H20 ⟨rfl, M20⟩
        refine q_cut (M := fun σ' H' => σ' = σ0 (some (.int tn)) (some (.int (i : Int))) ∧ M H') ?_ ?_
        · refine t_draw (σ := σ0 (some (.int tn)) (some (.int (i : Int)))) (g := fun r => decide (r = 0)) (fun r H => rv_eqI) (ea_cons (ev_var rfl) (ea_cons ev_c ea_nil)) (Msa M20) (by decide) (by decide) fun r1 H21 _ _ s21 k21 => ?_
          have M21 := Mks M20 k21 s21
          cases hg : decide (r1 = 0) with
          | true =>
            refine c_call (ea_cons (ev_var (σ := σ0 (some (.int tn)) (some (.int (i : Int)))) (H := H21) rfl) (ea_cons (ev_var rfl) ea_nil)) fun H22 e22 => value1 (Mex M21 e22) fun H23 M23 => nb ⟨rfl, M23⟩
          | false => exact ⟨rfl, M21⟩
        · rintro σ' H21 ⟨rfl, M21⟩
          refine q_cut (M := fun σ' H' => σ' = σ0 (some (.int tn)) (some (.int (i : Int))) ∧ M H') ?_ ?_
          · refine t_draw (σ := σ0 (some (.int tn)) (some (.int (i : Int)))) (g := fun r => decide (r = 0)) (fun r H => rv_eqI) (ea_cons (ev_var rfl) (ea_cons ev_c ea_nil)) (Msa M21) (by decide) (by decide) fun r1 H22 _ _ s22 k22 => ?_
            have M22 := Mks M21 k22 s22
            cases hg : decide (r1 = 0) with
            | true =>
              refine c_call (ea_cons (ev_var (σ := σ0 (some (.int tn)) (some (.int (i : Int)))) (H := H22) rfl) (ea_cons (ev_var rfl) (ea_cons (ev_var rfl) ea_nil))) fun H23 e23 => add2 (Mex M22 e23) fun H24 M24 => nb ⟨rfl, M24⟩
            | false => exact ⟨rfl, M22⟩
          · rintro σ' H22 ⟨rfl, M22⟩
            refine c_call (ea_cons (ev_var (σ := σ0 (some (.int tn)) (some (.int (i : Int)))) (H := H22) rfl) (ea_cons (ev_var rfl) (ea_cons (ev_var rfl) ea_nil))) fun H23 e23 => change2 (Mex M22 e23) fun H24 M24 => nb ⟨_, rfl, M24⟩
    · obtain ⟨v7, rfl, hM⟩ := q
      refine c_call (ea_cons (ev_var (σ := σ0 (some (.int tn)) v7) (H := H') rfl) (ea_cons (ev_var rfl) (ea_cons (ev_var rfl) ea_nil))) fun H16 e16 => right1 (Mex hM e16) fun H17 M17 => ⟨true, rfl, ?_⟩
      show tCall (spRt K) [] E0 (tCons (tVar 1) (tCons (tVar 5) (tCons (tVar 3) tNil))) (σ0 (some (.int tn)) v7) H17 Q
      exact c_call (ea_cons (ev_var rfl) (ea_cons (ev_var rfl) (ea_cons (ev_var rfl) ea_nil))) fun H18 e18 => right2 (Mex M17 e18) fun H19 M19 => k H19
end
end Lw

/-! Z1 -/
/-! What the head must tell, read by a Hook of one's own: the library's facts and defs, and the two errors'. -/
namespace Lw
open PySem PySem.Spec PyProof.Rows L2
theorem bv_ok : S_bv.Ok where
  l1 := by kernel_rfl
  l2 := by kernel_rfl
  l3 := by kernel_rfl
  d := by decide +kernel
  s1 := by decide +kernel
  s2 := by decide +kernel
  bind := fun _ _ _ _ _ _ _ _ _ _ => rfl
  ev := fun env => ⟨_, rfl⟩
  sw1 := fun env => rfl
  sw2 := fun env => rfl
theorem bg_ok : S_bg.Ok where
  l1 := by kernel_rfl
  l2 := by kernel_rfl
  l3 := by kernel_rfl
  d := by decide +kernel
  s1 := by decide +kernel
  s2 := by decide +kernel
  bind := fun _ _ _ _ _ _ _ _ _ _ => rfl
  ev := fun env => ⟨_, rfl⟩
  sw1 := fun env => rfl
  sw2 := fun env => rfl
/-! ### an error's class, its making def -/
abbrev FnY : Type := Option (Str × Arguments × FuncBody × Scope × Addr × Addr × Value)
def fnY (K : PySem.W.Frag) (f : Addr) : FnY := match K.lookup f with
  | some ⟨_, _, .func fd, _⟩ => some (fd.name, fd.params, fd.body, fd.scope, fd.globals, fd.builtins, fd.defaults)
  | _ => none
def valY (S : SupX.Src) : FnY := some ("__init__", S.A, .stmts S.B, S.S, mainGlobals, builtinsNs, .none)
def clsB (K : PySem.W.Frag) (C LE : Addr) : Bool := match K.lookup C with
  | some ⟨.type "type", _, .cls cd, sl⟩ => (match cd.mro, sl.toList with
    | .ref C' :: bm, [_, _, _, _, some (.builtin n), _] => C' == C && n == "Exception.__new__" && !cd.hasDel && cd.hasDict && bm == .ref LE :: ESX.exTail
    | _, _ => false)
  | _ => false
theorem clsB_ok {K : PySem.W.Frag} {C LE : Addr} (q : clsB K C LE = true) : ∃ nm q N bs sn sub ab col dd k0 k1 k2 k3 k5, K.lookup C = some (excClassObj nm q C N bs (.ref LE :: ESX.exTail) true sn sub ab col dd k0 k1 k2 k3 k5 "Exception.__new__") := by
  unfold clsB at q
  split at q
  · rename_i dd cd sl ho
    split at q
    · rename_i C' bm k0 k1 k2 k3 n k5 hm hs
      simp only [Bool.and_eq_true, beq_iff_eq, Bool.not_eq_true'] at q
      obtain ⟨⟨⟨⟨rfl, rfl⟩, hdel⟩, hdi⟩, hbm⟩ := q
      obtain ⟨nm, bs, mro, ns, qn, hd, sn, sub, ab, col, del⟩ := cd
      dsimp only at hm hdel hdi
      subst hm hdel hdi hbm
      have hsl : sl = #[k0, k1, k2, k3, some (.builtin "Exception.__new__"), k5] := by
        obtain ⟨l⟩ := sl
        simp only at hs
        rw [hs]
      subst hsl
      exact ⟨nm, qn, ns, bs, sn, sub, ab, col, dd, k0, k1, k2, k3, k5, ho⟩
    · cases q
  · cases q
def fnB (P : Program) (K : PySem.W.Frag) (C f : Addr) : Bool := match K.lookup f with
  | some ⟨_, _, .func fd, _⟩ => (match fd.closure, fd.code with
    | [(y, cc)], .ref cda => decide (y = "__class__") && (PySem.W.codeIn K (.ref cda) fd.qualname && ((match K.lookup cda with
        | some ⟨_, _, .fields vs, _⟩ => (match (vs[2]? : Option Value) with
          | some (Value.str file _) => ((P.main.file : Str) == file)
          | _ => false)
        | _ => false) && (match K.lookup cc with
        | some ⟨_, _, .cell (some (.ref C')), _⟩ => decide (C' = C)
        | _ => false)))
    | _, _ => false)
  | _ => false
theorem fnB_ok {P : Program} {K : PySem.W.Frag} {C f : Addr} {S : SupX.Src} (e : fnY K f = valY S) (q : fnB P K C f = true) :
    ∃ cc cda, (∃ (qual : Str) (oc : Value) (od : Option Addr) (kV doc pm : Value) (an : Option Addr) (ct : Value) (osl : Array (Option Value)), K.lookup f = some ⟨oc, od, .func (S.fd qual cc kV doc pm an cda ct), osl⟩ ∧ PySem.W.codeIn K (.ref cda) qual = true) ∧
      (∃ (ccl : Value) (cdd : Option Addr) (vs : Array Value) (ccs : Array (Option Value)) (file : Str) (tf : Tok), K.lookup cda = some ⟨ccl, cdd, .fields vs, ccs⟩ ∧ vs[2]? = some (.str file tf) ∧ ((P.main.file : Str) == file) = true) ∧
      ∃ (cl : Value) (cld : Option Addr) (csl : Array (Option Value)), K.lookup cc = some ⟨cl, cld, .cell (some (.ref C)), csl⟩ := by
  unfold fnB at q
  unfold fnY valY at e
  cases hk : K.lookup f with
  | none =>
    rw [hk] at q
    cases q
  | some o =>
    obtain ⟨oc, od, dt, osl⟩ := o
    rw [hk] at q e
    cases dt with
    | func fd =>
      obtain ⟨n1, n2, n3, n4, n5, n6, n7, n8, n9, n10, n11, n12, n13, n14, n15⟩ := fd
      have e2 : (some (n1, n3, n4, n5, n6, n15, n8) : FnY) = some (("__init__" : Str), S.A, FuncBody.stmts S.B, S.S, mainGlobals, builtinsNs, Value.none) := e
      simp only [Option.some.injEq, Prod.mk.injEq] at e2
      obtain ⟨h1, h2, h3, h4, h5, h6, h7⟩ := e2
      subst h1 h2 h3 h4 h5 h6 h7
      dsimp only at q
      split at q
      · rename_i y cc cda
        obtain ⟨q1, q⟩ := He.ba q
        obtain ⟨q2, q⟩ := He.ba q
        obtain ⟨q3, q4⟩ := He.ba q
        have hy := of_decide_eq_true q1
        subst hy
        refine ⟨cc, cda, ⟨n2, oc, od, n9, n10, n11, n12, n14, osl, rfl, q2⟩, ?_, ?_⟩
        · split at q3
          · rename_i ccl cdd vs ccs hcd
            split at q3
            · rename_i file tf hv
              exact ⟨ccl, cdd, vs, ccs, file, tf, hcd, hv, q3⟩
            · cases q3
          · cases q3
        · split at q4
          · rename_i cl cld C' csl hcc
            have := of_decide_eq_true q4
            subst this
            exact ⟨cl, cld, csl, hcc⟩
          · cases q4
      · cases q
    | _ => cases q
/-- all that is asked of the error x whose field is f -/
def errB (P : Program) (K : PySem.W.Frag) (x f : Str) : Bool :=
  clsB K (He.ga K x) (He.ga K "LeagueError") && (fnB P K (He.ga K x) (He.ma K (He.ga K x) "__init__") && (
  decide (PySem.W.findIn K (.ref (He.ga K x)) "__setattr__" = some (some (.builtin "object.__setattr__"))) && (decide (PySem.W.findIn K (.ref (He.ga K x)) f = some none) && (
  decide (PySem.W.findIn K (.ref (He.ga K x)) "__init__" = some (some (.ref (He.ma K (He.ga K x) "__init__")))) && (decide (PySem.W.typeIn K (.ref (He.ma K (He.ga K x) "__init__")) = some (.type "function")) && (
  PySem.W.keepIn K (.ref (He.ga K x)) && (decide (PySem.W.subIn K (.ref (He.ga K x)) (.type "BaseException") = some true) && (decide (PySem.W.subIn K (.ref (He.ga K x)) (.type "Exception") = some true) && (
  decide (PySem.W.typeIn K (.ref (He.ga K x)) = some (.type "type")) && (decide (PySem.W.mroIn K (He.ga K x) (.ref (He.ga K x)) = some true) && (
  decide (PySem.W.nsIn K mainGlobals "super" = some none) && (decide (PySem.W.nsIn K cStatics "thirdparty.any" = some none) && (
  decide (PySem.W.alongIn K "__init__" (.ref (He.ga K "LeagueError") :: ESX.exTail) = some (some (.builtin "Exception.__init__"))) && (
  xfB K (He.ga K x) && (
  (PySem.W.clsIn K (He.ga K x)).isSome && (decide (PySem.W.findIn K (.ref (He.ga K x)) "__class__" = some (some (.builtin "object.__class__"))) && (
  decide (PySem.W.specialIn K (.builtin "object.__class__") "__get__" = some (some (.builtin "getset_descriptor.__get__"))) && (decide (PySem.W.takesIn K (.builtin "object.__class__") = some true) && (
  decide (PySem.W.mroIn K (He.ga K x) (.type "object") = some true) && decide (PySem.W.exmOne K (.ref (He.ga K x)) (.ref (He.ga K x)) = some true))))))))))))))))))))
theorem errB_ok {P : Program} {K : PySem.W.Frag} {x : Str} {S : SupX.Src} (ok : S.Ok) (top : (P.main.scope.names.lookup ("super" : Str)).isSome = false) (e : fnY K (He.ma K (He.ga K x) "__init__") = valY S) (q : errB P K x S.x = true) : ErrF P K x S := by
  unfold errB at q
  simp only [Bool.and_eq_true, decide_eq_true_eq] at q
  obtain ⟨c1, c2, c3, c4, c5, c6, c7, c8, c9, c10, c11, c12, c13, c14, c15, c16, c17, c18, c19, c20, c21⟩ := q
  obtain ⟨cc, cda, f1, f2, f3⟩ := fnB_ok e c2
  have xf := xfB_ok c15
  exact ⟨⟨_, _, cc, cda, clsB_ok c1, c3, c4, c5, c6, c7, c8, c9, c10, c11, c12, c13, c14, f1, f2, f3, top⟩, ok, xf, ⟨c16, xf.ga, xf.gg, c8, c17, c18, c19, c20⟩, c21⟩
/-- what else is asked -/
def moreB (P : Program) (K : PySem.W.Frag) : Bool :=
  errB P K "BadValue" "at" && (errB P K "BadGame" "number" && (
  decide (PySem.W.kitOne K (.ref (He.ga K "BadGame")) (.ref (He.ga K "LeagueError")) = some true) && (decide (PySem.W.kitOne K (.ref (He.ga K "BadGame")) (.ref (He.ga K "BadSide")) = some false) && (
  decide (PySem.W.kitOne K (.ref (He.ga K "BadValue")) (.ref (He.ga K "LeagueError")) = some true) && (decide (PySem.W.kitOne K (.ref (He.ga K "BadValue")) (.ref (He.ga K "BadGame")) = some false) && (
  He.tupB K "RULES" [.str "points", .str "wins", .str "away", .str "among"] && He.tupB K "OUTCOMES" [.str "home", .str "draw", .str "away"]))))))
/-! ### the Hook -/
def facts : List He.Fa := glos.map .glo ++ (frees.map .free ++ ([.cls "League", .mkr "League"] ++ (flds.map (.noat "League") ++ (meths.map (.meth "League") ++ (intsC.map (fun q => .int q.1 q.2) ++ strsC.map fun q => .str q.1 q.2)))))
abbrev AlL : Type := He.AlD × (Bool × List FnY)
def kOf (g : Addr → Option Obj) : PySem.W.Frag := He.frG g (cStatics :: He.asD g 5)
def obsL (P : Program) (K : PySem.W.Frag) : AlL := (He.obsD facts fn K, (moreB P K, [fnY K (He.ma K (He.ga K "BadValue") "__init__"), fnY K (He.ma K (He.ga K "BadGame") "__init__")]))
def valL : AlL := (He.valD fn, (true, [valY S_bv, valY S_bg]))
def hookL (P : Program) : PySem.W.Hook where
  α := AlL
  obs := fun s => obsL P (kOf s.heap.get?)
  val := fun _ => valL
  says := fun _ h => ∃ K : PySem.W.Frag, K.In h ∧ obsL P K = valL
  of := fun _ _ e => ⟨_, He.frG_in, e⟩
  keeps := fun _ _ _ ⟨K, hK, c⟩ k => ⟨K, PySem.W.Frag.In.keeps hK k, c⟩
theorem obsL_eq {P : Program} {g : Addr → Option Obj} {s : Shared} (h : ∀ a, g a = s.heap.get? a) : obsL P (kOf g) = (hookL P).obs s := by
  have e : g = s.heap.get? := funext h
  rw [e] <;> rfl
theorem txf_of {P : Program} {K : PySem.W.Frag} (top : (P.main.scope.names.lookup ("super" : Str)).isSome = false) (c : obsL P K = valL) : TXF P K := by
  have q : moreB P K = true := congrArg (fun z : AlL => z.2.1) c
  have e : [fnY K (He.ma K (He.ga K "BadValue") "__init__"), fnY K (He.ma K (He.ga K "BadGame") "__init__")] = [valY S_bv, valY S_bg] := congrArg (fun z : AlL => z.2.2) c
  have e1 : fnY K (He.ma K (He.ga K "BadValue") "__init__") = valY S_bv := (List.cons.inj e).1
  have e2 : fnY K (He.ma K (He.ga K "BadGame") "__init__") = valY S_bg := (List.cons.inj (List.cons.inj e).2).1
  unfold moreB at q
  simp only [Bool.and_eq_true, decide_eq_true_eq] at q
  obtain ⟨c1, c2, c3, c4, c5, c6, _, _⟩ := q
  exact ⟨errB_ok bg_ok top e2 c2, errB_ok bv_ok top e1 c1, c3, c4, c5, c6⟩
theorem tx0_of {P : Program} {K : PySem.W.Frag} {h : Heap} {mg : Str → Option Value} (X : K.In h) (G : h.Ns mainGlobals mg) (c : obsL P K = valL) : Tx0 K mg := by
  have cd : He.SaysD facts fn K := congrArg (fun z : AlL => z.1) c
  have q : moreB P K = true := congrArg (fun z : AlL => z.2.1) c
  unfold moreB at q
  simp only [Bool.and_eq_true, decide_eq_true_eq] at q
  obtain ⟨_, _, _, _, _, _, c7, c8⟩ := q
  have fc : ∀ {f : He.Fa}, f ∈ facts → f.ok K = true := fun {f} hf => by
    obtain ⟨i, hi⟩ := List.mem_iff_getElem?.mp hf
    exact cd.fact i hi
  have mem : ∀ {f : He.Fa}, (f ∈ glos.map He.Fa.glo ∨ f ∈ frees.map He.Fa.free ∨ f ∈ ([.cls "League", .mkr "League"] : List He.Fa) ∨ f ∈ flds.map (He.Fa.noat "League") ∨ f ∈ meths.map (He.Fa.meth "League") ∨ f ∈ intsC.map (fun q => He.Fa.int q.1 q.2) ∨ f ∈ strsC.map (fun q => He.Fa.str q.1 q.2)) → f.ok K = true := fun {f} hf => fc (by
    unfold facts
    simp only [List.mem_append]
    exact hf)
  refine ⟨fun i d hd => ?_, fun i x hx => ?_, fun i x hx => ?_, fun i x hx => ?_, ?_, ?_, fun i x hx => ?_, fun i x hx => ?_, fun i x hx => ?_, fun H => He.tupB_ok c7 H, fun H => He.tupB_ok c8 H⟩
  · obtain ⟨fd, F⟩ := cd.def_ i hd
    have hdv : d.dfl = [] ∧ d.kwd = [] := by
      have : ∀ d ∈ fn, d.dfl.isEmpty = true ∧ d.kwd.isEmpty = true := by
        have h2 : (fn.all fun d => d.dfl.isEmpty && d.kwd.isEmpty) = true := by rfl
        intro d hd
        have := List.all_eq_true.mp h2 d hd
        exact Bool.and_eq_true_iff.mp this
      obtain ⟨p1, p2⟩ := this d (List.mem_of_getElem? hd)
      exact ⟨List.isEmpty_iff.mp p1, List.isEmpty_iff.mp p2⟩
    have h1 : d.dvs K = [] := by unfold He.DefD.dvs; rw [hdv.1]; rfl
    have h2 : d.kws K = [] := by unfold He.DefD.kws; rw [hdv.2]; rfl
    rw [h1, h2] at F
    exact ⟨fd, F⟩
  · exact He.glo_ok X G (mem (.inl (List.mem_map.mpr ⟨x, List.mem_of_getElem? hx, rfl⟩)))
  · exact He.free_ok X G (mem (.inr (.inl (List.mem_map.mpr ⟨x, List.mem_of_getElem? hx, rfl⟩))))
  · exact He.meth_ok (mem (.inr (.inr (.inr (.inr (.inl (List.mem_map.mpr ⟨x, List.mem_of_getElem? hx, rfl⟩)))))))
  · exact He.cls_ok (mem (.inr (.inr (.inl (by simp)))))
  · exact He.mkr_ok (mem (.inr (.inr (.inl (by simp)))))
  · exact He.noat_ok (mem (.inr (.inr (.inr (.inl (List.mem_map.mpr ⟨x, List.mem_of_getElem? hx, rfl⟩))))))
  · exact He.int_ok X G (mem (.inr (.inr (.inr (.inr (.inr (.inl (List.mem_map.mpr ⟨x, List.mem_of_getElem? hx, rfl⟩))))))))
  · exact He.str_ok X G (mem (.inr (.inr (.inr (.inr (.inr (.inr (List.mem_map.mpr ⟨x, List.mem_of_getElem? hx, rfl⟩))))))))
end Lw

/-! Z2 -/
/-! The head's run, the end. -/
namespace Lw
open PySem PySem.Spec PyProof.Rows L2
abbrev RowR : PySem.W.OpenRow := PySem.W.OpenLaw.row PySem.Challenge.rw_stillmay_k09_whole_order
abbrev LP : Program := (PySem.Challenge.rw_stillmay_k09_whole_order).prog
abbrev hkL : PySem.W.Hook := hookL LP
def obR (s : PySem.W.SharedT) : AlL := obsL LP (kOf (HandSHeadRun.getT s))
theorem obR_eq (s : PySem.W.SharedT) : obR s = hkL.obs s.abs := obsL_eq (HandSHeadRun.getT_eq s)
def loose1 : List Str := ["LeagueError", "BadValue", "BadGame", "BadSide", "TooMany", "LETTERS", "MOST_LETTERS", "LEAST_SIDES", "MOST_SIDES", "MOST_GAMES", "MOST_POINTS", "RULES", "OUTCOMES", "LEFT", "OFF", "is_integer", "is_from_to", "is_sequence", "is_name", "are_unlike", "are_sides", "is_scheme", "are_rules", "League"]
def loose2 : List Str := ["outcome_for", "points_in", "wins_in", "away_wins_in", "number_by", "parted", "lots_of", "order", "_law_start", "_law_draw", "_law_same", "_law_sides", "_law_scheme", "_law_rules", "_law_book", "_law_outcomes", "_law_add", "_law_change", "_law_is_free", "_law_fill", "_law_results", "_law_points", "_law_number", "_law_parted", "_law_flat", "_law_twin", "_law_right", "_law_refused", "_law_value", "_law_round"]
def looseL : List Str := loose1 ++ loose2
theorem runL (w : World) : HandSHeadRun.RunEq RowR (PySem.W.view RowR.prog [58]) hkL obR 20000 looseL w := by
  intro os
  kernel_rfl
theorem top_super : (LP.main.scope.names.lookup ("super" : Str)).isSome = false := by kernel_rfl
end Lw

/-! Z3 -/
/-! The statement. -/
open PySem PySem.W PySem.Calls PyProof.Rows
theorem PySem.Challenge.cw_stillmay_k09_whole_order_holds : PySem.Challenge.rw_stillmay_k09_whole_order.Holds := by
  w_on; o_law
  refine HandSHeadRun.head_any (r := OpenLaw.row PySem.Challenge.rw_stillmay_k09_whole_order) (q := view (OpenLaw.row PySem.Challenge.rw_stillmay_k09_whole_order).prog [58]) (H := Lw.hkL) (ob := Lw.obR) (M := 20000) (loose := Lw.looseL) (d := HandSHeadRun.topDef (OpenLaw.row PySem.Challenge.rw_stillmay_k09_whole_order).prog 58) (kwd := []) Lw.obR_eq
    (by kernel_rfl) (fun s => by kernel_rfl) Lw.runL (by kernel_rfl) (by kernel_rfl) (by kernel_rfl) (by rfl) (by first | assumption | decide +kernel) (by decide +kernel) ⟨rfl, rfl, rfl, rfl, rfl, by decide +kernel⟩ ?hw ?hc
  case hw => w_witness2
  case hc =>
    refine L2.walk_ofE (l := PySem.Challenge.rw_stillmay_k09_whole_order) (n := 63) (k := 61) (x := "_law_script") (CX := L2.CX0) rfl (by decide) (by kernel_rfl) ⟨rfl, by decide, by decide⟩ ?F (fun _ _ _ _ z => z)
    intro w mg fa h Y G hmg0
    obtain ⟨K, KX, c⟩ := Y
    have hmg : mg ("law" : PySem.Str) = some (.ref fa) := by
      have e : (HandSHeadRun.topDef (OpenLaw.row PySem.Challenge.rw_stillmay_k09_whole_order).prog 58).name = ("law" : PySem.Str) := by kernel_rfl
      rw [← e]
      exact hmg0
    have T := Lw.tx0_of KX G c
    have TX : Lw.TXF Lw.LP K := Lw.txf_of Lw.top_super c
    have e := hmg.symm.trans T.m_law
    cases e
    have b := L2.FunD.bindsA (ps := ["_law_script"]) T.f_law fun _ _ _ _ _ _ us hl => match us, hl with | [_], _ => rfl
    exact ⟨K, Lw.fd_law K, Lw.spLaw K, KX, fun s v => b s [v] rfl, fun H a ns hl _ hS => ⟨a, ns, rfl, hS, by omega, fun _ => rfl⟩, fun base _ _ => Lw.ok_law T TX⟩
