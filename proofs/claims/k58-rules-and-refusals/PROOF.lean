import PyProof.Rows.All
import Wide.All
import OpenK.AllK
import Wide.FinOn
import KE.KExcSuper
import HandS.ForMost
import HandS.ForExc
import HandS.ExcInit
import HandS.ExcIs
import HandS.IsInst
import HandS.ExcSuper
import HandS.Wide
import HandS.ExcValue
import HandS.Head0
import HandS.Head1
import HandS.Head2
import HandS.HeadEnd
import HandS.HeadHook1
import HandS.HeadHook2
import HandS.EndTab
import HandS.HeadWalk
import HandS.HeadHook4
import HandS.Defaults
import HandS.MakeKw
import HandS.MakeKwOnly
import HandS.Style
import HandS.Lambda
import HandS.TryMany
import HandS.OwnEq
import HandS.TupAny
import HandS.TupMul
import HandS.TupLe
import HandS.SlotsOwn
import HandS.Spec
import HandS.ExcField
import HandS.ExcOwn
import KE.DatumIndex
import PyProof.Rows.SetFrom
import PyProof.CollectStr
import HandS.Set
import HandS.SetKeys
import HandS.SetBool
import HandS.Strs
import HandS.SortInts
import PyProof.Rows.SortShellAny
import KE.KDictList
import KE.KRevSl
import HandS.Text
import HandS.RaiseMore
import HandS.ListItems
import HandS.DictComp
import HandS.Codes
import HandS.Dict
import HandS.DeepEq
import PySem.Challenge.RW_growwebs_k58_rules_and_refusals
set_option Elab.async false
set_option linter.all false
set_option maxRecDepth 100000
set_option maxHeartbeats 2000000
/-! Errors of one's own over WebError: made by position and by name, held, read, raised. -/
namespace PySem
namespace GW
open PySem.W PySem.Calls PyProof.Rows PySem.HandSPX
section
variable {M : Model} {A : Around} {E : Value → Shared → Prop} {h : Heap} {g : Array GenState} {d : Drawn} {t : Nat} {os : OsState}
variable {nm q : Str} {C N : Addr} {bs bm bmB : List Value} {hdct : Bool} {sn : List Str} {sub : List Value} {ab : Bool} {col : Option Bool} {dd : Option Addr} {k0 k1 k2 k3 k5 : Option Value} {B newId initId : String}
theorem chk_kw (Fb : ExcBaseFacts B newId initId bmB) (hT : ∀ X : String, bm.contains (.type X) = bmB.contains (.type X)) {ps : List Value} {kw : List (Str × Value)} {Q : Unit → Shared → Prop}
    (hC : h.get? C = some (excClassObj nm q C N bs bm hdct sn sub ab col dd k0 k1 k2 k3 k5 newId)) (hq : Q () ⟨h, g, d, t, os⟩) : wpAny M A (checkBuiltinCall newId ⟨.ref C :: ps, kw⟩) Q E ⟨h, g, d, t, os⟩ := by
  have hc1 : (Value.ref C :: bm).contains (.type B) = true := by rw [List.contains_cons, hT, Fb.hasB, Bool.or_true]
  have hs1 := Fb.noStar
  simp only [checkBuiltinCall, Fb.newKind, Fb.newSplit, Fb.newRow]
  repeat (first | refine wpAny_loadPart_at hC ?_ | (refine wpAny_isSubtype_exc hC ?_; rw [hc1]) | refine wpAny_staticBase_exc hC ?_ | refine wpAny_madeBy_exc hC ?_ | simp only [bne_self_eq_false, Bool.false_eq_true, if_false] | wp_step)
  exact hq
end
section
variable {prog : Program} {w : World} {A : Around} {E : Value → Shared → Prop} {R : Result → Shared → Prop} {h : Heap} {g : Array GenState} {d : Drawn} {t : Nat} {os : OsState}
variable {nm q : Str} {C N : Addr} {bs bm bmB : List Value} {hdct : Bool} {sn : List Str} {sub : List Value} {ab : Bool} {col : Option Bool} {dd : Option Addr} {k0 k1 k2 k3 k5 : Option Value} {B newId initId : String}
theorem new_kw (Fb : ExcBaseFacts B newId initId bmB) (hT : ∀ X : String, bm.contains (.type X) = bmB.contains (.type X)) {ps : List Value} {kw : List (Str × Value)}
    (hC : h.get? C = some (excClassObj nm q C N bs bm hdct sn sub ab col dd k0 k1 k2 k3 k5 newId))
    (hq : R (.ok (.ret (.ref (h.objs.size + 1)))) ⟨(h.push { cls := .type "tuple", data := .seq ps.toArray }).push
      { cls := .ref C, data := .fields #[.ref h.objs.size, .none, .none, .none, .bool false, .none] }, g, d, t, os⟩) (hz : ps.length ≤ sizeLine) :
    codeAny (model prog w) A (.builtin newId ⟨.ref C :: ps, kw⟩) R ⟨h, g, d, t, os⟩ := by
  have he1 := Fb.ends
  have hc1 : (Value.ref C :: bm).contains (.type B) = true := by rw [List.contains_cons, hT, Fb.hasB, Bool.or_true]
  have hc2 : (Value.ref C :: bm).contains (.type "AttributeError") = false := by rw [List.contains_cons, hT, Fb.noAttr]; rfl
  have hc3 : (Value.ref C :: bm).contains (.type "NameError") = false := by rw [List.contains_cons, hT, Fb.noName]; rfl
  refine codeAny_builtinAt Fb.entry ?_
  unfold Builtin.«BaseException.__new__»
  refine wpAt_bind ?_
  show wpAt _ _ _ (stack >>= _) _ _ _
  refine wpAt_bind (wpAt_stack fun p below => wpAt_of_wpAny ?_)
  wp_walk
  refine wpAt_of_wpAny ?_
  rw [Fb.owner]
  repeat (first | with_reducible refine wpAny_madeHere_exc Fb.canon hC ?_ | with_reducible refine wpAny_loadPart_at hC ?_ | (with_reducible refine wpAny_isSubtype_exc hC ?_; first | rw [hc1] | rw [hc2] | rw [hc3]) | wp_step)
  show R _ _
  rw [Heap.size_push]
  exact hq
theorem tcall_kw (Fb : ExcBaseFacts B newId initId bmB) (hT : ∀ X : String, bm.contains (.type X) = bmB.contains (.type X)) {ps : List Value} {kw : List (Str × Value)} {fI : Addr} {Q : Fin → Shared → Prop}
    (hC : h.get? C = some (excClassObj nm q C N bs bm hdct sn sub ab col dd k0 k1 k2 k3 k5 newId))
    (hi : W.Looks (model prog w) h (typeLookup (.ref C) "__init__") (some (.ref fI))) (hb : ∀ self, W.Looks (model prog w) h (bindSpecial (.ref fI) self) (.ref fI, [self])) (hz : ps.length ≤ sizeLine)
    (hq : codeAny (model prog w) A (.call (.ref fI) ⟨.ref (h.objs.size + 1) :: ps, kw⟩)
      (fun r s' => match r with | .ok (.ret v) => v = .none ∧ Q (.done (.ret (.ref (h.objs.size + 1)))) s' | .ok _ => False | .error e => E e s')
      ⟨(h.push (W.kdv_tup ps)).push (excO C h.objs.size), g, d, t, os⟩) :
    wpAny (model prog w) A (Builtin.«type.__call__» ⟨.ref C :: ps, kw⟩) Q E ⟨h, g, d, t, os⟩ := by
  repeat (first | with_reducible refine wpAny_loadPart_at hC ?_ | with_reducible refine wpAny_madeBy_exc hC ?_ | wp_step)
  refine codeAny_call_builtin_code (Code.quiet_builtin _ Fb.quiet) (chk_kw Fb hT hC ?_)
  refine new_kw Fb hT hC ?_ hz
  show wpAny _ _ _ _ _ _
  have kk : ∀ b o, h.get? b = some o → ((h.push (W.kdv_tup ps)).push (excO C h.objs.size)).get? b = some o := fun b o e => Heap.get?_push_of_some _ (Heap.get?_push_of_some _ e)
  have hC1 := kk _ _ hC
  have hg1 : ((h.push (W.kdv_tup ps)).push (excO C h.objs.size)).get? (h.objs.size + 1) = some (excO C h.objs.size) := by heap_get
  have hcC : (Value.ref C :: bm).contains (.ref C) = true := by simp
  have i1 := hi.keeps kk
  have b1 := (hb (.ref (h.objs.size + 1))).keeps kk
  unfold isInstance
  repeat (first | with_reducible refine wpAny_loadPart_at hg1 ?_ | (with_reducible refine wpAny_isSubtype_exc hC1 ?_; rw [hcC]) | wp_step)
  show wpAny _ _ (typeLookup (.ref C) _) _ _ _
  refine i1.at ?_
  refine wpAny_holding (wpAny_bind (b1.at ?_))
  refine wpAny_bind (wpAny_call (codeAny_mono hq fun r s' z => ?_))
  rcases r with e | (v | _ | _ | _) <;> first | exact z | exact z.elim | skip
  obtain ⟨rfl, z⟩ := z
  first
    | exact wpAny_pure (wpAny_pure z)
    | (wp_walk; exact z)
theorem call_kw (Fb : ExcBaseFacts B newId initId bmB) (hT : ∀ X : String, bm.contains (.type X) = bmB.contains (.type X)) {ps : List Value} {kw : List (Str × Value)} {fI : Addr}
    (hC : h.get? C = some (excClassObj nm q C N bs bm hdct sn sub ab col dd k0 k1 k2 k3 k5 newId))
    (hi : W.Looks (model prog w) h (typeLookup (.ref C) "__init__") (some (.ref fI))) (hb : ∀ self, W.Looks (model prog w) h (bindSpecial (.ref fI) self) (.ref fI, [self])) (hz : ps.length ≤ sizeLine)
    (hq : codeAny (model prog w) (A.under (.builtin "type.__call__" ⟨.ref C :: ps, kw⟩)) (.call (.ref fI) ⟨.ref (h.objs.size + 1) :: ps, kw⟩) (W.InitBack (h.objs.size + 1) R)
      ⟨(h.push (W.kdv_tup ps)).push (excO C h.objs.size), g, d, t, os⟩) :
    codeAny (model prog w) A (.call (.ref C) ⟨ps, kw⟩) R ⟨h, g, d, t, os⟩ := by
  have f1 := tc_lookup
  have f2 := tc_bind (.ref C)
  have hTy : (⟨h, g, d, t, os⟩ : Shared).TypeIs (.ref C) "type" := ⟨_, hC, rfl⟩
  refine codeAny_of_tree ?_
  show wpAny _ _ (callAny (.ref C) _) _ _ _
  repeat (any_goals (first | assumption | with_reducible refine wpAny_loadPart_at hC ?_ | wp_step))
  refine ⟨rfl, ?_⟩
  refine codeAny_call_builtin_at (Code.quiet_builtin _ (by decide +kernel)) entry_typeCall (wpAny_check_type_call_sub hC (tcall_kw Fb hT hC hi hb hz ?_))
  refine codeAny_mono hq fun r s' z => ?_
  rcases r with e | (v | _ | _ | _) <;> exact z
end
end GW
end PySem
set_option Elab.async false
set_option linter.all false
set_option maxRecDepth 100000
set_option maxHeartbeats 4000000
namespace PySem
namespace GW
open PySem.W PySem.Calls PyProof.Rows PySem.HandSPX
/-- a field of an error: its name and the places in the text -/
structure Fl where
  f : Str
  a : Pos
  q1 : Pos
  q2 : Pos
  q3 : Pos
  q4 : Pos
def eStores (l : List Fl) : List Stmt := l.map fun p => .Assign [.Attribute (.Name "self" p.q1) p.f p.q2] (.Name p.f p.q3) p.q4
def eNames (l : List Fl) : List Expr := l.map fun p => .Name p.f p.a
def eBody (r0 r1 r2 r3 r4 : Pos) (l : List Fl) : List Stmt := .Expr (.Call (.Attribute (.Call (.Name "super" r0) [] [] r1) "__init__" r2) (eNames l) [] r3) r4 :: eStores l
/-- the class of an error, as the top has made it -/
structure ErrC (K : Frag) (C : Addr) : Prop where
  cls : ∃ nm q N bs bm sn sub ab col dd k0 k1 k2 k3 k5, K.lookup C = some (excClassObj nm q C N bs bm true sn sub ab col dd k0 k1 k2 k3 k5 "ValueError.__new__") ∧ refsVE bm = true
  sa : findIn K (.ref C) "__setattr__" = some (some (.builtin "object.__setattr__"))
  sup : ks_superIn K C C "__init__" = some (some (.builtin "ValueError.__init__"))
  opq : nsIn K cStatics "thirdparty.any" = some none
  subB : subIn K (.ref C) (.type "ValueError") = some true
  subC : mroIn K C (.ref C) = some true
/-- its __init__ -/
structure ErrI (prog : Program) (K : Frag) (mg : Str → Option Value) (C fI : Addr) (params : Arguments) (scope : Scope) (l : List Fl) : Prop where
  ini : findIn K (.ref C) "__init__" = some (some (.ref fI))
  tI : typeIn K (.ref fI) = some (.type "function")
  no : ∀ p ∈ l, findIn K (.ref C) p.f = some none
  nd : (("self" : Str) :: l.map (·.f)).Nodup
  ne : l ≠ []
  few : l.length ≤ 10
  hd : ∃ p, params.posonlyargs ++ params.args = { arg := "self", annotation := none, pos := p } :: (params.posonlyargs ++ params.args).tail
  sk : scope.kind = .function
  sco : scope.isCoroutine = false
  sge : scope.isGenerator = false
  ss : scope.names.lookup ("super" : Str) = some .globalImplicit
  sc : scope.names.lookup ("__class__" : Str) = some .free
  sl : ∀ y ∈ (("self" : Str) :: l.map (·.f)), scope.names.lookup y = some .local
  scell : ∀ x ∈ scope.names, x.2 ≠ .cell
  nodeb : ∀ p ∈ l, (p.f == ("__debug__" : Str)) = false
  msup : mg "super" = none
  ptop : (prog.main.scope.names.lookup ("super" : Str)).isSome = false
  fn : ∃ (oc : Value) (od : Option Addr) (qual : Str) (r0 r1 r2 r3 r4 : Pos) (doc pm : Value) (an : Option Addr) (cda : Addr) (ct : Value) (cc : Addr) (osl : Array (Option Value)),
    K.lookup fI = some ⟨oc, od, .func (ksFn "__init__" qual params (eBody r0 r1 r2 r3 r4 l) scope .none .none doc pm an (.ref cda) ct cc), osl⟩ ∧ codeIn K (.ref cda) qual = true ∧ (r2.endLine == r3.line) = true ∧
    (∃ cl cld csl, K.lookup cc = some ⟨cl, cld, .cell (some (.ref C)), csl⟩) ∧
    ∃ ccl cdd vs ccs file tf, K.lookup cda = some ⟨ccl, cdd, .fields vs, ccs⟩ ∧ vs[2]? = some (.str file tf) ∧ ((prog.main.file : Str) == file) = true
theorem lookup_zip_rev : ∀ (xs : List Str) (vs : List Value), xs.Nodup → xs.length = vs.length → ∀ y, ((xs.zip vs).reverse).lookup y = (xs.zip vs).lookup y
  | [], _, _, _, _ => by simp
  | x :: xs, [], _, h, _ => by simp at h
  | x :: xs, v :: vs, nd, h, y => by
    have nd' := List.nodup_cons.mp nd
    have ih := lookup_zip_rev xs vs nd'.2 (by simpa using h) y
    rw [List.zip_cons_cons, List.reverse_cons, List.lookup_append, ih]
    by_cases e : y = x
    · subst e
      have q : (xs.zip vs).lookup y = none := by
        rw [List.lookup_eq_none_iff]
        intro p hp
        have := (List.of_mem_zip (a := p.1) (b := p.2) hp).1
        simp
        intro e
        exact nd'.1 (e ▸ this)
      rw [q]
      simp [List.lookup]
    · have e' : (y == x) = false := by simpa using e
      cases q : (xs.zip vs).lookup y <;> simp [List.lookup, e', q]
/-- a made error at x -/
structure Made (h h' : Heap) (x C : Addr) (m : Str → Option Value) : Prop where
  keep : ∀ b o, b ≠ x → h.get? b = some o → h'.get? b = some o
  obj : ∃ dx t1, h'.get? x = some { cls := .ref C, dict := some dx, data := .fields #[.ref t1, .none, .none, .none, .bool false, .none] } ∧ h.objs.size ≤ dx ∧ dx ≠ x ∧ h'.Ns1 dx m
section
variable {prog : Program} {w : World} {A : Around} {E : Value → Shared → Prop} {R : Result → Shared → Prop} {s : Shared} {K : Frag} {mg : Str → Option Value} {C fI : Addr}
theorem mw_call {hp : Heap} {g : Array GenState} {d : Drawn} {t : Nat} {os : OsState} {nm q : Str} {N : Addr} {bs bm : List Value} {hdct : Bool} {sn : List Str} {sub : List Value} {ab : Bool} {col : Option Bool} {dd : Option Addr} {k0 k1 k2 k3 k5 : Option Value}
    {u e t0 : Addr} {rest : List Value} {Q : Value → Shared → Prop}
    (hC : hp.get? C = some (excClassObj nm q C N bs bm hdct sn sub ab col dd k0 k1 k2 k3 k5 "ValueError.__new__")) (he : hp.get? e = some (excO C t0)) (hu : hp.get? u = some (kxs_mw "ValueError.__init__" e)) (hz : rest.length ≤ sizeLine)
    (hq : ∀ h' t1, (∀ b o, b ≠ e → hp.get? b = some o → h'.get? b = some o) → h'.get? e = some (excO C t1) → Q .none ⟨h', g, d, t, os⟩) :
    wpAny (model prog w) A (call (.ref u) rest) Q E ⟨hp, g, d, t, os⟩ := by
  refine wpAny_call (codeAny_of_tree ?_)
  show wpAny _ A.in1 (callAny (.ref u) ⟨rest, []⟩) _ _ _
  simp only [callAny]
  refine wpAny_bind (wpAny_load hu ?_)
  simp only [kxs_mw, show (Value.type "method-wrapper" == Value.type "method" || Value.type "method-wrapper" == Value.type "builtin_function_or_method" || Value.type "method-wrapper" == Value.type "method-wrapper") = true by decide, if_true]
  refine W.KFB.if_so (by decide) ?_
  refine wpAny_bind (ESX.check_bound F.excBase_ValueError hC he rfl ?_)
  refine wpAny_bind (wpAny_pure (wpAny_pure ?_))
  refine ⟨Code.quiet_builtin _ (by decide +kernel), codeAny_builtin F.excBase_ValueError.initEntry ?_⟩
  rw [Around.under_plainId F.excBase_ValueError.init.plain _]
  wp_walk
  refine hq _ hp.objs.size (fun b o hb ho => ?_) ?_
  · rw [Heap.get?_update_other _ _ (Ne.symm hb)]
    exact Heap.get?_push_of_some _ ho
  · rw [Heap.get?_update_self _ (Heap.get?_push_of_some _ he) rfl]
    rfl
/-- the names of the fields, evaluated in a row -/
theorem names_at {env : Env} {m : Str → Option Value} {pos : Pos} (hk : env.scope.kind = .function) : ∀ (l : List Fl) (vs : List Value) (s : Shared) (Q : List Value → Shared → Prop), s.heap.Ns env.locals m →
    (∀ p ∈ l, env.kindOf p.f = some .local) → (∀ p ∈ l, (p.f == ("__debug__" : Str)) = false) → l.map (fun p => m p.f) = vs.map some → Q vs s → wpAny (model prog w) A (spliced (backTo pos (starEach (eNames l) env))) Q E s
  | [], [], s, Q, _, _, _, _, h => PyProof.Rows.spliced_none h
  | [], _ :: _, s, Q, _, _, _, e, h => by simp at e
  | _ :: _, [], s, Q, _, _, _, e, h => by simp at e
  | p :: l, v :: vs, s, Q, hn, hl, hd, e, h => by
    simp only [List.map_cons, List.cons.injEq] at e
    show wpAny _ _ (spliced (backTo pos (starEach (Expr.Name p.f p.a :: eNames l) env))) _ _ _
    refine PyProof.Rows.spliced_more ?_
    refine wpAny_Name (wpAny_loadName_local hk (hl p List.mem_cons_self) hn e.1 ?_) (hd p List.mem_cons_self)
    exact names_at hk l vs s _ hn (fun q hq => hl q (List.mem_cons_of_mem _ hq)) (fun q hq => hd q (List.mem_cons_of_mem _ hq)) e.2 h
theorem names_plain {env : Env} {pos : Pos} : ∀ (l : List Fl), (backTo pos (starEach (eNames l) env)).any (·.1) = false
  | [] => rfl
  | p :: l => by
    have ih := names_plain (env := env) (pos := pos) l
    cases l with
    | nil => rfl
    | cons q l => exact ih
theorem names_form {env : Env} {pos : Pos} : ∀ (l : List Fl), (backTo pos (starEach (eNames l) env)).all (!·.1) = true
  | [] => rfl
  | p :: l => by
    have ih := names_form (env := env) (pos := pos) l
    cases l with
    | nil => rfl
    | cons q l => exact ih
theorem names_args {M : Model} {A : Around} {E : Value → Shared → Prop} {s : Shared} {env : Env} {pos : Pos} {f : Value} {Q : Args → Shared → Prop} : ∀ {l : List Fl}, l ≠ [] →
    wpAny M A (spliced (backTo pos (starEach (eNames l) env))) (fun vs s₁ => Q ⟨vs, []⟩ s₁) E s → wpAny M A (evalArgs f true (backTo pos (starEach (eNames l) env)) []) Q E s
  | [], ne, _ => absurd rfl ne
  | p :: l, _, h => by
    have he : starEach (eNames (p :: l)) env = (false, eval (.Name p.f p.a) env) :: starEach (eNames l) env := rfl
    rw [he] at h ⊢
    exact evalArgs_plain h
/-- super().__init__(f, ..) as the evaluator takes it -/
theorem super_eval {env : Env} {r0 r1 r2 r3 : Pos} {l : List Fl} (few : l.length ≤ 10) (ln : (r2.endLine == r3.line) = true) :
    eval (.Call (.Attribute (.Call (.Name "super" r0) [] [] r1) "__init__" r2) (eNames l) [] r3) env = (do
      let ov ← attributeBase (.Call (.Name "super" r0) [] [] r1) "__init__" env (eval (.Call (.Name "super" r0) [] [] r1) env)
      standAt r2.atName
      let (f, first) ← holding [ov] (getMethod ov "__init__" (do return (← importBound (.Call (.Name "super" r0) [] [] r1) env).getD true))
      callWith r3 f first (backTo r3 (starEach (eNames l) env)) []) := by
  have e1 : methodCallForm ((eNames l).length + 0) (backTo r3 (starEach (eNames l) env)) [] = true := by
    unfold methodCallForm
    rw [names_form]
    have : (eNames l).length = l.length := by unfold eNames; simp
    simp [this]
    omega
  rw [arm_eval_Call]
  congr 1
  funext ov
  congr 1
  funext _
  show methodCall _ _ _ _ _ _ ((eNames l).length + 0) _ [] = _
  unfold methodCall
  rw [e1]
  unfold calleeOf methodCallPos
  simp only [if_true, Bool.not_true, Bool.false_or, ln]
  rfl
end
end GW
end PySem
set_option Elab.async false
set_option linter.all false
set_option maxRecDepth 100000
set_option maxHeartbeats 4000000
namespace PySem
namespace GW
open PySem.W PySem.Calls PyProof.Rows PySem.HandSPX
theorem within_lookup (done : List (Str × Value)) : Within (fun y => done.lookup y) (done.map (·.1)) := fun y hy => by
  cases q : done.lookup y with
  | none => exact absurd q hy
  | some v =>
    obtain ⟨l1, l2, e, _⟩ := List.lookup_eq_some_iff.mp q
    rw [e]
    simp
theorem ns1_eq {h : Heap} {a : Addr} {m m' : Str → Option Value} (x : h.Ns1 a m) (e : ∀ y, m y = m' y) : h.Ns1 a m' := by
  have : m = m' := funext e
  rw [← this]
  exact x
theorem lookup_put (done : List (Str × Value)) (f : Str) (v : Value) (y : Str) : (if y = f then some v else done.lookup y) = ((f, v) :: done).lookup y := by
  by_cases e : y = f
  · subst e
    rw [if_pos rfl]
    simp [List.lookup]
  · have e' : (y == f) = false := by simpa using e
    rw [if_neg e]
    simp [List.lookup, e']
section
variable {prog : Program} {w : World} {A : Around} {E : Value → Shared → Prop} {R : Result → Shared → Prop} {s : Shared} {K : Frag} {mg : Str → Option Value} {C fI : Addr}
/-- self.f = f, for every further field: the error at x has its dict at dx -/
theorem stores_more {env : Env} {m : Str → Option Value} {x dx t1 : Addr} (T : ErrC K C) (hk : env.scope.kind = .function) (hx : K.lookup x = none) (hself : env.kindOf "self" = some .local) (ms : m "self" = some (.ref x)) :
    ∀ (l : List Fl) (vs : List Value) (done : List (Str × Value)) (s : Shared) (Q : Flow → Shared → Prop), K.In s.heap → K.lookup dx = none → dx ≠ env.locals → dx ≠ x → s.heap.Ns env.locals m →
    s.heap.get? x = some { cls := .ref C, dict := some dx, data := .fields #[.ref t1, .none, .none, .none, .bool false, .none] } → s.heap.Ns1 dx (fun y => done.lookup y) → done.length + l.length ≤ 100 →
    (∀ p ∈ l, env.kindOf p.f = some .local) → (∀ p ∈ l, (p.f == ("__debug__" : Str)) = false) → (∀ p ∈ l, findIn K (.ref C) p.f = some none) → l.map (fun p => m p.f) = vs.map some →
    (∀ h' tk, (∀ b o, b ≠ dx → s.heap.get? b = some o → h'.get? b = some o) → h'.Ns1 dx (fun y => (((l.map (·.f)).zip vs).reverse ++ done).lookup y) → Q .next { s with heap := h', toks := tk }) →
    wpAny (model prog w) A (execs (eStores l) env) Q E s
  | [], vs, done, s, Q, X, hdx, hL, hdne, hn, ho, hns, few, hl, hd, hno, e, h => by
    refine wpAny_execs_nil ?_
    exact h s.heap s.toks (fun _ _ _ q => q) (by simpa using hns)
  | p :: l, [], done, s, Q, X, hdx, hL, hdne, hn, ho, hns, few, hl, hd, hno, e, h => by simp at e
  | p :: l, v :: vs, done, s, Q, X, hdx, hL, hdne, hn, ho, hns, few, hl, hd, hno, e, h => by
    simp only [List.map_cons, List.cons.injEq] at e
    obtain ⟨nm, q, N, bs, bm, sn, sub, ab, col, dd, k0, k1, k2, k3, k5, hC, hbm⟩ := T.cls
    have hcl : clsIn K C = some { name := nm, bases := bs, mro := .ref C :: bm, ns := N, qualname := q, hasDict := true, slotNames := sn, subclasses := sub, abstract := ab, collection := col, hasDel := false } := by unfold clsIn; rw [hC] <;> rfl
    show wpAny _ _ (execs (Stmt.Assign [.Attribute (.Name "self" p.q1) p.f p.q2] (.Name p.f p.q3) p.q4 :: eStores l) env) _ _ _
    refine wpAny_execs_cons (plainObj_wpAny_Assign_Attribute ?_)
    refine wpAny_Name (wpAny_loadName_local hk (hl p List.mem_cons_self) hn e.1 ?_) (hd p List.mem_cons_self)
    refine wpAny_Name (wpAny_loadName_local hk hself hn ms ?_) (by decide)
    obtain ⟨oD, esD, epD, hoD, hdD, _⟩ := hns.count (within_lookup done)
    refine set_plain X (ox := { cls := .ref C, dict := some dx, data := .fields #[.ref t1, .none, .none, .none, .bool false, .none] }) (od := some oD) ⟨ho, rfl, rfl, hoD⟩ T.sa ?_
    obtain ⟨hp, g, d, t, os⟩ := s
    refine OEX.osa_old X ho hns (within_lookup done) (by rw [List.length_map]; simp at few; omega) hcl (show refsVE (.ref C :: bm) = true from hbm) rfl (hno p List.mem_cons_self) (fun h' tk k' ns' => ?_)
    show wpAny _ _ (execs _ _) _ _ _
    have X' : K.In h' := fun a o q => k' a o (fun z => by rw [z, hdx] at q; cases q) (X a o q)
    refine stores_more (x := x) (t1 := t1) T hk hx hself ms l vs ((p.f, v) :: done) ⟨h', g, d, tk, os⟩ Q X' hdx hL hdne (hn.at fun o q => k' _ o hL.symm q) (k' _ _ hdne.symm ho) (ns1_eq ns' fun y => lookup_put done p.f v y) (by simp at few ⊢; omega)
      (fun q hq => hl q (List.mem_cons_of_mem _ hq)) (fun q hq => hd q (List.mem_cons_of_mem _ hq)) (fun q hq => hno q (List.mem_cons_of_mem _ hq)) e.2 fun h2 tk2 k2 n2 => ?_
    refine h h2 tk2 (fun b o hb q => k2 b o hb (k' b o hb q)) (ns1_eq n2 fun y => ?_)
    simp
def mm (x : Addr) (l : List Fl) (vs : List Value) (y : Str) : Option Value := List.lookup y (((Str.ofString "self") :: l.map (fun p => p.f)).zip (Value.ref x :: vs))
theorem mm_self {x : Addr} {l : List Fl} {vs : List Value} : mm x l vs (Str.ofString "self") = some (Value.ref x) := by
  unfold mm
  simp [List.lookup]
theorem map_lookup : ∀ (xs : List Str) (ws : List Value), xs.Nodup → xs.length = ws.length → xs.map (fun y => (xs.zip ws).lookup y) = ws.map some
  | [], [], _, _ => rfl
  | [], _ :: _, _, e => by simp at e
  | _ :: _, [], _, e => by simp at e
  | y :: ys, v :: ws, nd, e => by
    have nd' := List.nodup_cons.mp nd
    have r := map_lookup ys ws nd'.2 (by simpa using e)
    simp only [List.map_cons, List.zip_cons_cons]
    congr 1
    · simp [List.lookup]
    · rw [← r]
      refine List.map_congr_left fun z hz => ?_
      have e' : (z == y) = false := by
        simp
        intro e
        exact nd'.1 (e ▸ hz)
      simp [List.lookup, e']
theorem mm_fields {x : Addr} {l : List Fl} {vs : List Value} (nd0 : ((Str.ofString "self") :: l.map (fun p => p.f)).Nodup) (hlen : l.length = vs.length) : l.map (fun p => mm x l vs p.f) = vs.map some := by
  have nd := List.nodup_cons.mp nd0
  have r := map_lookup (l.map (fun p => p.f)) vs nd.2 (by simpa using hlen)
  rw [List.map_map] at r
  rw [← r]
  refine List.map_congr_left fun p hp => ?_
  have e' : (p.f == (Str.ofString "self")) = false := by
    simp
    intro e
    exact nd.1 (e ▸ List.mem_map_of_mem hp)
  unfold mm
  simp [List.lookup, e']
theorem err_init {params : Arguments} {scope : Scope} {l : List Fl} (T : ErrC K C) (I : ErrI prog K mg C fI params scope l) {x t0 : Addr} {vs : List Value} {args : Args} (Md : L2.Mod K mg s.heap) (hx : s.heap.get? x = some (excO C t0)) (hnx : K.lookup x = none)
    (hroom : A.depth < recursionLimit) (hlen : l.length = vs.length)
    (hbind : ∀ (qual : Str) (body : List Stmt) (doc pm : Value) (an : Option Addr) (cda : Value) (ct : Value) (cc : Addr), BindsTo s (ksFn "__init__" qual params body scope .none .none doc pm an cda ct cc) args (((Str.ofString "self") :: l.map (fun p => p.f)).zip (Value.ref x :: vs)))
    (hq : ∀ h' tk, Made s.heap h' x C (fun y => List.lookup y ((l.map (fun p => p.f)).zip vs)) → R (.ok (.ret .none)) { s with heap := h', toks := tk }) :
    codeAny (model prog w) A (.call (.ref fI) args) R s := by
  obtain ⟨oc, od, qual, r0, r1, r2, r3, r4, doc, pm, an, cda, ct, cc, osl, ho, hcd, hln, ⟨cl, cld, csl, hcell⟩, ccl, cdd, fvs, ccs, file, tf, hcode, hvs, hfile⟩ := I.fn
  obtain ⟨nm, q, N, bs, bm, sn, sub, ab, col, dd, k0, k1, k2, k3, k5, hC, hbm⟩ := T.cls
  have hcl : clsIn K C = some { name := nm, bases := bs, mro := .ref C :: bm, ns := N, qualname := q, hasDict := true, slotNames := sn, subclasses := sub, abstract := ab, collection := col, hasDel := false } := by unfold clsIn; rw [hC] <;> rfl
  obtain ⟨mb, hmb, hbo⟩ := Md.blt
  have X := Md.kin
  have hlen' : ((Str.ofString "self") :: l.map (fun p => p.f)).length = (Value.ref x :: vs).length := by simp [hlen]
  refine ks_codeAny_call_defAt (fd := ksFn "__init__" qual params (eBody r0 r1 r2 r3 r4 l) scope .none .none doc pm an (.ref cda) ct cc) (body := eBody r0 r1 r2 r3 r4 l) (binds := ((Str.ofString "self") :: l.map (fun p => p.f)).zip (Value.ref x :: vs))
    hroom (X _ _ ho) rfl Md.nolimit (codeRec_of X hcd) rfl (hbind _ _ _ _ _ _ _ _) I.scell (fun y hy => I.sl _ (List.of_mem_zip (a := y.1) (b := y.2) hy).1) (fun h₁ hns kk => ?_) I.sco I.sge I.sk
  obtain ⟨hp, g, d, t, os⟩ := s
  have hxL : hp.objs.size ≠ x := Nat.ne_of_gt (Heap.lt_size hx)
  have X₁ : K.In h₁ := X.keeps kk
  have hx₁ := kk _ _ hx
  have env_eq : callEnv (ksFn "__init__" qual params (eBody r0 r1 r2 r3 r4 l) scope .none .none doc pm an (.ref cda) ct cc) hp.objs.size fI = ksEnv qual scope hp.objs.size fI (.ref cda) cc := rfl
  rw [env_eq]
  have hns' : h₁.Ns hp.objs.size (mm x l vs) := by
    have e : mm x l vs = fun y => List.lookup y (((Str.ofString "self") :: l.map (fun p => p.f)).zip (Value.ref x :: vs)).reverse := funext fun y => (lookup_zip_rev _ _ I.nd hlen' y).symm
    rw [e]
    exact hns
  have mf : l.map (fun p => mm x l vs p.f) = vs.map some := mm_fields I.nd hlen
  have kself : (ksEnv qual scope hp.objs.size fI (.ref cda) cc).kindOf "self" = some .local := I.sl _ List.mem_cons_self
  have kf : ∀ p ∈ l, (ksEnv qual scope hp.objs.size fI (.ref cda) cc).kindOf p.f = some .local := fun p hp => I.sl _ (List.mem_cons_of_mem _ (List.mem_map_of_mem hp))
  have hi : interactive (ksEnv qual scope hp.objs.size fI (.ref cda) cc) = false := by
    unfold interactive
    rw [show (ksEnv qual scope hp.objs.size fI (.ref cda) cc).scope.kind = .function from I.sk]
    rfl
  refine ks_wpAt_execs_cons (ks_wpAt_Expr_any (ks_wpAt_MethodCall ?_ (super_eval I.few hln)) hi (by cases l <;> rfl))
  obtain ⟨ap, hap⟩ := I.hd
  obtain ⟨oD, hD1, hD2⟩ : ∃ oD, h₁.get? C = some oD ∧ oD.data = .cls { name := nm, bases := bs, mro := .ref C :: bm, ns := N, qualname := q, hasDict := true, slotNames := sn, subclasses := sub, abstract := ab, collection := col, hasDel := false } := ⟨_, X₁ _ _ hC, rfl⟩
  refine ks_wpAt_super_base (env := ksEnv qual scope hp.objs.size fI (.ref cda) cc) (ar := { arg := "self", annotation := none, pos := ap }) I.ss I.sc (by decide) rfl (X₁ _ _ ho) rfl (by show (params.posonlyargs ++ params.args).head? = _; rw [hap]; rfl) rfl (X₁ _ _ hcode) rfl hvs hfile I.ptop ?_
  refine ks_loadName_global I.sk I.ss (loadGlobal_builtin (env := ksEnv qual scope hp.objs.size fI (.ref cda) cc) (Md.glob.keeps kk) I.msup (hmb.keeps kk) ((hbo _ (by decide +kernel)).trans (by decide +kernel)) ⟨rfl, ?_⟩)
  refine wpAny_loadName_free I.sk I.sc rfl ⟨_, X₁ _ _ hcell, rfl⟩ ?_
  refine wpAny_loadName_local I.sk kself hns' mm_self ?_
  refine ks_wpAny_isType_cls hD1 hD2 ⟨rfl, ?_⟩
  have IA : InstAt h₁ x (excO C t0) C none := ⟨hx₁, rfl, rfl, trivial⟩
  refine ks_wpAny_call_super hD1 hD2 hx₁ rfl (fun c e => by cases e) (looks_mroIn X₁ T.subC) (fun h₂ e₂ kk₂ => ?_)
  have X₂ : K.In h₂ := X₁.keeps kk₂
  have IA₂ : InstAt h₂ x (excO C t0) C none := ⟨kk₂ _ _ hx₁, rfl, rfl, trivial⟩
  have hm := T.sup
  unfold ks_superIn at hm
  rw [hcl] at hm
  refine kxs_getMethod kxs_ValueError e₂ (looks_opaque X₂ T.opq) (l₀ := .ref C :: bm) ?_ rfl X₂ hm (IA₂.type.andThen (looks_subIn X₂ T.subB)) (ks_ne X₂ IA₂ hcl) (by decide) ?_
  · exact fun A Q E s k q => wpAny_bind ((looks_clsIn X₂ hcl) A _ E s k (wpAny_pure q))
  have kk₃ : ∀ b o, h₂.get? b = some o → (h₂.push (kxs_mw "ValueError.__init__" x)).get? b = some o := fun b o e => Heap.get?_push_of_some _ e
  have k13 : ∀ b o, h₁.get? b = some o → (h₂.push (kxs_mw "ValueError.__init__" x)).get? b = some o := fun b o e => kk₃ b o (kk₂ b o e)
  refine kxs_callWith (i := "ValueError.__init__") (x := x) (names_plain l) ?_
  refine names_args I.ne ?_
  refine names_at I.sk l vs _ _ (hns'.keeps k13) kf I.nodeb mf ?_
  have hmw : (h₂.push (kxs_mw "ValueError.__init__" x)).get? h₂.objs.size = some (kxs_mw "ValueError.__init__" x) := Heap.get?_push_at rfl rfl
  refine ⟨hmw, ?_⟩
  have hvl : vs.length ≤ sizeLine := by
    have := I.few
    rw [sizeLine_eq]
    omega
  refine mw_call (rest := vs) (t0 := t0) (k13 _ _ (X₁ _ _ hC)) (k13 _ _ hx₁) hmw hvl (fun h₄ t1 kk₄ hx₄ => ?_)
  refine wpAt_of_wpAny ?_
  have nxC : ∀ a o, K.lookup a = some o → a ≠ x := fun a o e z => by rw [z, hnx] at e; cases e
  have X₄ : K.In h₄ := fun a o e => kk₄ a o (nxC a o e) (k13 _ _ (X₁ a o e))
  have hL₄ : h₄.Ns hp.objs.size (mm x l vs) := (hns'.keeps k13).at fun o e => kk₄ _ o hxL e
  have old₄ : ∀ b o, b ≠ x → hp.get? b = some o → h₄.get? b = some o := fun b o hb e => kk₄ b o hb (k13 b o (kk b o e))
  have hne := I.ne
  have hno := I.no
  have hdb := I.nodeb
  have hfew := I.few
  have hnd := (List.nodup_cons.mp I.nd).2
  cases l with
  | nil => exact absurd rfl hne
  | cons p l =>
    cases vs with
    | nil => simp at hlen
    | cons v vs =>
      simp only [List.map_cons, List.cons.injEq] at mf
      show wpAny _ _ (execs (Stmt.Assign [.Attribute (.Name "self" p.q1) p.f p.q2] (.Name p.f p.q3) p.q4 :: eStores l) _) _ _ _
      refine wpAny_execs_cons (plainObj_wpAny_Assign_Attribute ?_)
      refine wpAny_Name (wpAny_loadName_local I.sk (kf p List.mem_cons_self) hL₄ mf.1 ?_) (hdb p List.mem_cons_self)
      refine wpAny_Name (wpAny_loadName_local I.sk kself hL₄ mm_self ?_) (by decide)
      refine set_plain X₄ (ox := excO C t1) (od := none) ⟨hx₄, rfl, rfl, trivial⟩ T.sa ?_
      refine exc_osa X₄ hx₄ hcl (show refsVE (.ref C :: bm) = true from hbm) rfl (hno p List.mem_cons_self) (fun h₅ tk₅ dx k₅ dn dne hx₅ hn₅ => ?_)
      show wpAny _ _ (execs _ _) _ _ _
      have z4 : hp.objs.size < h₄.objs.size := hL₄.lt
      have nKd : K.lookup dx = none := by
        cases e : K.lookup dx with
        | none => rfl
        | some o => exact absurd (Heap.lt_size (X₄ _ _ e)) (Nat.not_lt.mpr dn)
      have X₅ : K.In h₅ := fun a o e => k₅ a o (nxC a o e) (X₄ a o e)
      have dL : dx ≠ hp.objs.size := Nat.ne_of_gt (Nat.lt_of_lt_of_le z4 dn)
      refine stores_more (x := x) (dx := dx) (t1 := t1) T I.sk hnx kself mm_self l vs [(p.f, v)] _ _ X₅ nKd dL dne (hL₄.at fun o e => k₅ _ o hxL e) hx₅ (ns1_eq hn₅ fun y => lookup_put [] p.f v y) (by simp at hfew ⊢; omega)
        (fun q hq => kf q (List.mem_cons_of_mem _ hq)) (fun q hq => hdb q (List.mem_cons_of_mem _ hq)) (fun q hq => hno q (List.mem_cons_of_mem _ hq)) mf.2 fun h₆ tk₆ k₆ n₆ => ?_
      refine hq h₆ tk₆ ⟨fun b o hb e => ?_, dx, t1, k₆ _ _ dne.symm hx₅, Nat.le_trans (Nat.le_of_lt z4) dn, dne, ns1_eq n₆ fun y => ?_⟩
      · refine k₆ b o ?_ (k₅ b o hb (old₄ b o hb e))
        exact Nat.ne_of_lt (Nat.lt_of_lt_of_le (Nat.lt_trans (Heap.lt_size e) z4) dn)
      · have e1 : (((l.map (fun p => p.f)).zip vs).reverse ++ [(p.f, v)]) = (((p :: l).map (fun p => p.f)).zip (v :: vs)).reverse := by simp
        rw [e1]
        exact lookup_zip_rev _ _ hnd (by simpa using hlen) y
end
end GW
end PySem
set_option Elab.async false
set_option linter.all false
set_option maxRecDepth 100000
set_option maxHeartbeats 4000000
namespace PySem
namespace GW
open PySem.W PySem.Calls PyProof.Rows PySem.HandSPX
/-- a new error at e, its own dict at d -/
structure NewErr (h h' : Heap) (e C d : Addr) (m : Str → Option Value) : Prop where
  keep : ∀ b o, h.get? b = some o → h'.get? b = some o
  new : h.objs.size ≤ e
  dnew : h.objs.size ≤ d
  dne : d ≠ e
  obj : ∃ t1, h'.get? e = some { cls := .ref C, dict := some d, data := .fields #[.ref t1, .none, .none, .none, .bool false, .none] }
  ns : h'.Ns1 d m
theorem mod_keeps {K : Frag} {mg : Str → Option Value} {h h' : Heap} (M : L2.Mod K mg h) (k : ∀ b o, h.get? b = some o → h'.get? b = some o) : L2.Mod K mg h' :=
  ⟨M.kin.keeps k, M.glob.keeps k, let ⟨mb, e, q⟩ := M.blt; ⟨mb, e.keeps k, q⟩, M.nolimit.keeps k⟩
section
variable {prog : Program} {w : World} {A : Around} {E : Value → Shared → Prop} {R : Result → Shared → Prop} {s : Shared} {K : Frag} {mg : Str → Option Value} {C fI : Addr}
theorem err_made {params : Arguments} {scope : Scope} {l : List Fl} (T : ErrC K C) (I : ErrI prog K mg C fI params scope l) {ps vs : List Value} {kw : List (Str × Value)} (Md : L2.Mod K mg s.heap)
    (hroom : A.depth + 1 < recursionLimit) (hlen : l.length = vs.length) (hz : ps.length ≤ sizeLine)
    (hbind : ∀ (s' : Shared) (e : Addr) (qual : Str) (body : List Stmt) (doc pm : Value) (an : Option Addr) (cda : Value) (ct : Value) (cc : Addr), BindsTo s' (ksFn "__init__" qual params body scope .none .none doc pm an cda ct cc) ⟨.ref e :: ps, kw⟩ (((Str.ofString "self") :: l.map (fun p => p.f)).zip (Value.ref e :: vs)))
    (hq : ∀ h' tk e d, NewErr s.heap h' e C d (fun y => List.lookup y ((l.map (fun p => p.f)).zip vs)) → R (.ok (.ret (.ref e))) { s with heap := h', toks := tk }) :
    codeAny (model prog w) A (.call (.ref C) ⟨ps, kw⟩) R s := by
  obtain ⟨nm, q, N, bs, bm, sn, sub, ab, col, dd, k0, k1, k2, k3, k5, hC, hbm⟩ := T.cls
  obtain ⟨hp, g, d, t, os⟩ := s
  have X := Md.kin
  have kk : ∀ b o, hp.get? b = some o → ((hp.push (kdv_tup ps)).push (excO C hp.objs.size)).get? b = some o := fun b o e => Heap.get?_push_of_some _ (Heap.get?_push_of_some _ e)
  have hget : ((hp.push (kdv_tup ps)).push (excO C hp.objs.size)).get? (hp.objs.size + 1) = some (excO C hp.objs.size) := by heap_get
  have hnx : K.lookup (hp.objs.size + 1) = none := by
    cases e : K.lookup (hp.objs.size + 1) with
    | none => rfl
    | some o =>
      have z : hp.get? (hp.objs.size + 1) = some o := X _ _ e
      exact absurd (Nat.lt_of_succ_lt (Heap.lt_size z)) (Nat.lt_irrefl _)
  refine call_kw F.excBase_ValueError (fun X => refsVE_contains X bm hbm) (X _ _ hC) (looks_findIn X I.ini) (fun self => bind_fn X self I.tI) hz ?_
  refine err_init (s := ⟨(hp.push (kdv_tup ps)).push (excO C hp.objs.size), g, d, t, os⟩) T I (mod_keeps Md kk) hget hnx ?_ hlen (fun qual body doc pm an cda ct cc => hbind _ _ _ _ _ _ _ _ _ _) fun h' tk' M => ?_
  · show A.depth + 1 < recursionLimit
    exact hroom
  · obtain ⟨dx, t1, hx, dn, dne, hns⟩ := M.obj
    have old : ∀ b o, hp.get? b = some o → h'.get? b = some o := fun b o e => M.keep b o (Nat.ne_of_lt (Nat.lt_succ_of_lt (Heap.lt_size e))) (kk b o e)
    have z : hp.objs.size ≤ dx := by
      have q : ((hp.push (kdv_tup ps)).push (excO C hp.objs.size)).objs.size ≤ dx := dn
      rw [Heap.size_push, Heap.size_push] at q
      omega
    exact ⟨rfl, hq h' tk' (hp.objs.size + 1) dx ⟨old, Nat.le_succ _, z, dne, ⟨t1, hx⟩, hns⟩⟩
end
end GW
end PySem
namespace L2
open PySem PySem.Spec PyProof.Rows PySem.GW
/-- the module's facts at the state at hand -/
theorem Inv.modNow {X : Cx} {pins : List (Addr × Obj)} {σ : St} {H : Hp} {s : Shared} (I : Inv X pins σ H s) : Mod X.K X.mg s.heap := mod_keeps I.ok.mod I.bk
/-- how the values and the keywords of a call come to the fields of an error -/
def EBind (params : Arguments) (scope : Scope) (l : List Fl) (n : Nat) (ks : List Str) : Prop :=
  ∀ (us ws : List Value), us.length = n → ws.length = ks.length → ∀ (s' : Shared) (e : Addr) (qual : Str) (body : List Stmt) (doc pm : Value) (an : Option Addr) (cda : Value) (ct : Value) (cc : Addr),
    BindsTo s' (PySem.W.ksFn "__init__" qual params body scope .none .none doc pm an cda ct cc) ⟨.ref e :: us, ks.zip ws⟩ (((Str.ofString "self") :: l.map (fun p => p.f)).zip (Value.ref e :: (us ++ ws)))
/-- e makes a new error of the class at C, whose fields fs hold the values that t tells -/
def PEr (X : Cx) (e : Expr) (C : Addr) (fs : List Str) (t : TA) : Prop :=
  ∀ (pins : List (Addr × Obj)) (s : Shared) (σ : St) (H : Hp) (Q : List V → Hp → Prop), Inv X pins σ H s → t σ H Q → wpAny (model X.prog X.w) X.A (eval e X.env)
    (fun u s' => ∃ (a d : Addr) (vs : List V) (us : List Value) (H' : Hp) (s1 : Shared) (h' : Heap) (tk : Nat), u = .ref a ∧ Inv X pins σ H' s1 ∧ s' = { s1 with heap := h', toks := tk } ∧ NewErr s1.heap h' a C d (fun y => List.lookup y (fs.zip us)) ∧ Vals vs us ∧ fs.length = us.length ∧ Q vs H') X.xe s
section
variable {X : Cx} {C fI : Addr} {x : Str} {p pos : Pos} {e : Expr} {es : List Expr} {kws : List Keyword} {t tk : TA} {params : Arguments} {scope : Scope} {l : List Fl} {n k : Nat} {ks : List Str}
def tApp (n m : Nat) (t tk : TA) : TA := fun σ H Q => t σ H fun vs H1 => tk σ H1 fun zs H2 => vs.length = n ∧ zs.length = m ∧ Q (vs ++ zs) H2
def tLen (n : Nat) (t : TA) : TA := fun σ H Q => t σ H fun vs H1 => vs.length = n ∧ Q vs H1
theorem err_run (T : ErrC X.K C) (I : ErrI X.prog X.K X.mg C fI params scope l) (hr : Room k X.A) (hb : EBind params scope l n ks) (hn : n + ks.length = l.length) {pins : List (Addr × Obj)} {σ : St} {H : Hp} {s : Shared} {Q : List V → Hp → Prop} {us ws : List Value} {vs zs : List V}
    (J : Inv X pins σ H s) (r : Vals vs us) (rz : Vals zs ws) (l1 : vs.length = n) (l2 : zs.length = ks.length) (h : Q (vs ++ zs) H) :
    wpAny (model X.prog X.w) X.A (call (.ref C) us (ks.zip ws)) (fun u s' => ∃ (a d : Addr) (vs : List V) (us : List Value) (H' : Hp) (s1 : Shared) (h' : Heap) (tk : Nat), u = .ref a ∧ Inv X pins σ H' s1 ∧ s' = { s1 with heap := h', toks := tk } ∧ NewErr s1.heap h' a C d (fun y => List.lookup y ((l.map (fun p => p.f)).zip us)) ∧ Vals vs us ∧ (l.map (fun p => p.f)).length = us.length ∧ Q vs H') X.xe s := by
  have e1 : us.length = n := r.length.symm.trans l1
  have e2 : ws.length = ks.length := rz.length.symm.trans l2
  have few := I.few
  have hl : l.length = (us ++ ws).length := by rw [List.length_append]; omega
  refine wpAny_call (err_made T I J.modNow (by have := hr.dp; omega) hl (by rw [sizeLine_eq]; omega) (hb us ws e1 e2) fun h' tk a d M => ?_)
  exact ⟨a, d, vs ++ zs, us ++ ws, H, s, h', tk, rfl, J, rfl, M, Vals.append r rz, by rw [List.length_map]; exact hl, h⟩
theorem per_pos (T : ErrC X.K C) (I : ErrI X.prog X.K X.mg C fI params scope l) (hr : Room k X.A) (hg : Gl X x) (gC : X.mg x = some (.ref C)) (kC : PySem.W.keepIn X.K (.ref C) = true) (hb : EBind params scope l l.length [])
    (ha : PA X (e :: es) t) (hdb : (x == ("__debug__" : Str)) = false := by decide) (he : starEach (e :: es) X.env = (false, eval e X.env) :: starEach es X.env := by rfl) (hpl : (backTo pos (starEach es X.env)).any (·.1) = false := by rfl) :
    PEr X (.Call (.Name x p) (e :: es) [] pos) C (l.map (fun p => p.f)) (tLen l.length t) := by
  intro pins s σ H Q J h
  refine wpAny_Call_Name_kw (ld_glob J hg gC ?_ hdb)
  refine PySem.W.callWith_K (h₀ := X.base) J.ok.mod.kin kC (thn (ha.run pos pins s σ H _ J h) fun us s1 hh => ?_) he hpl
  obtain ⟨vs, H1, J1, r, q1, q2⟩ := hh
  refine ⟨J1.kIn, ?_⟩
  have := err_run (zs := []) (ws := []) T I hr hb (by simp) J1 r .nil q1 rfl (Q := Q) (by simpa using q2)
  simpa using this
theorem per_mix (T : ErrC X.K C) (I : ErrI X.prog X.K X.mg C fI params scope l) (hr : Room k X.A) (hg : Gl X x) (gC : X.mg x = some (.ref C)) (kC : PySem.W.keepIn X.K (.ref C) = true) (hb : EBind params scope l n ks) (hn : n + ks.length = l.length)
    (ha : PA X (e :: es) t) (hkw : PK X kws tk) (hall : (backToKw pos (keywordEach kws X.env)).all (·.1.isSome) = true := by rfl) (hks : (backToKw pos (keywordEach kws X.env)).filterMap (·.1) = ks := by rfl)
    (hdb : (x == ("__debug__" : Str)) = false := by decide) (he : starEach (e :: es) X.env = (false, eval e X.env) :: starEach es X.env := by rfl)
    (hpl : ((backTo pos (starEach (e :: es) X.env)).any (·.1) || (backToKw pos (keywordEach kws X.env)).any (·.1.isNone)) = false := by rfl) :
    PEr X (.Call (.Name x p) (e :: es) kws pos) C (l.map (fun p => p.f)) (tApp n ks.length t tk) := by
  intro pins s σ H Q J h
  refine wpAny_Call_Name_kw (ld_glob J hg gC ?_ hdb)
  refine PySem.W.callWith_KW (h₀ := X.base) J.ok.mod.kin kC hall (thn (ha.run pos pins s σ H _ J h) fun us s1 ⟨vs, H1, J1, r, q⟩ => ?_) hpl he
  refine thn (hkw.run pos pins s1 σ H1 _ J1 q) fun ws s2 ⟨zs, H2, J2, rz, l1, l2, q2⟩ => ⟨J2.kIn, ?_⟩
  rw [hks]
  exact err_run T I hr hb hn J2 r rz l1 l2 q2
theorem per_kw (T : ErrC X.K C) (I : ErrI X.prog X.K X.mg C fI params scope l) (hr : Room k X.A) (hg : Gl X x) (gC : X.mg x = some (.ref C)) (kC : PySem.W.keepIn X.K (.ref C) = true) (hb : EBind params scope l 0 ks) (hn : ks.length = l.length)
    (hkw : PK X kws tk) (hall : (backToKw pos (keywordEach kws X.env)).all (·.1.isSome) = true := by rfl) (hks : (backToKw pos (keywordEach kws X.env)).filterMap (·.1) = ks := by rfl)
    (hdb : (x == ("__debug__" : Str)) = false := by decide)
    (hpl : ((backTo pos (starEach [] X.env)).any (·.1) || (backToKw pos (keywordEach kws X.env)).any (·.1.isNone)) = false := by rfl) :
    PEr X (.Call (.Name x p) [] kws pos) C (l.map (fun p => p.f)) (tLen ks.length tk) := by
  intro pins s σ H Q J h
  refine wpAny_Call_Name_kw (ld_glob J hg gC ?_ hdb)
  refine PySem.W.callWith_KW0 (h₀ := X.base) J.ok.mod.kin kC hall (thn (hkw.run pos pins s σ H _ J h) fun ws s2 ⟨zs, H2, J2, rz, l2, q2⟩ => ⟨J2.kIn, ?_⟩) hpl
  rw [hks]
  exact err_run (vs := []) T I hr hb (by omega) J2 .nil rz rfl l2 q2
end
end L2
set_option Elab.async false
set_option linter.all false
set_option maxRecDepth 100000
set_option maxHeartbeats 4000000
namespace PySem
namespace GW
open PySem PySem.W PySem.Spec PySem.Calls PyProof.Rows PySem.HandSPX
section
variable {prog : Program} {w : World} {A : Around} {E : Value → Shared → Prop} {s : Shared} {K : Frag} {x D : Addr} {ox : Obj} {od : Option Obj}
theorem findObj_any {C : Addr} {name : Str} {a g : Value} (hc : (clsIn K C).isSome = true) (ha : findIn K (.ref C) name = some (some a)) (hg : specialIn K a "__get__" = some (some g)) (ht : takesIn K a = some true) : findObj K C od name = some (.bind g a) := by
  obtain ⟨cd, hcd⟩ := Option.isSome_iff_exists.mp hc
  unfold findObj
  rw [hcd, Option.bind_some, ha, Option.bind_some]
  simp [hg, ht]
theorem class_of {Q : Option Value → Shared → Prop} (Z : L2.ExcC K D) (X : K.In s.heap) (I : InstAt s.heap x ox D od) (h : Q (some (.ref D)) { s with toks := s.toks + 1 }) : wpAny (model prog w) A (getAttr? (.ref x) "__class__") Q E s := by
  have hf : findObj K D od "__class__" = some (.bind (.builtin "getset_descriptor.__get__") (.builtin "object.__class__")) := findObj_any (by obtain ⟨cd, hc, _⟩ := any_some Z.hd; rw [hc]; rfl) Z.ha Z.hn Z.ht
  obtain ⟨hp, g, d, t, os⟩ := s
  have g0 := I.type (M := model prog w)
  have g1 := looks_findIn (M := model prog w) X Z.hg
  have g2 := looks_findIn (M := model prog w) X Z.hk
  have g3 := looks_find (M := model prog w) X I hf
  have su : Looks (model prog w) hp (isInstance (.ref x) (.type "BaseException")) true := g0.andThen (looks_subIn X Z.hs)
  have b0 : (false && onTheHeap (Value.builtin "BaseException.__getattribute__")) = false := rfl
  have b2 : (Value.builtin "BaseException.__getattribute__" == Value.builtin "object.__getattribute__") = false := by decide +kernel
  have b1 : (onTheHeap (Value.ref D) && Value.builtin "BaseException.__getattribute__" == Value.builtin "object.__getattribute__") = false := by rw [b2]; rfl
  unfold getAttr? getAttrBy? getAttrBy
  refine wpAny_bind (wpAny_mkText (wpAny_bind (wpAny_attempt (wpAny_holding (wpAny_bind (g0.at (wpAny_bind (g1.at ?_))))))))
  show wpAny _ _ (if (onTheHeap (Value.ref D) && Value.builtin "BaseException.__getattribute__" == Value.builtin "object.__getattribute__") = true then _ else _) _ _ _
  rw [b1, if_neg Bool.false_ne_true]
  unfold getAttrByItsOwn hookBefore
  refine wpAny_bind ?_
  rw [if_pos (show onTheHeap (Value.ref D) = true from rfl)]
  refine g2.at ?_
  refine wpAny_bind (wpAny_attempt (wpAny_holding ?_))
  unfold callGetattribute
  rw [b0, if_neg Bool.false_ne_true]
  unfold boundAndCalled
  rw [PySem.F.excAttr_ValueError.ga.bind (.ref x)]
  refine wpAny_bind (wpAny_pure ?_)
  show wpAny _ _ (call (.builtin "BaseException.__getattribute__") [.ref x, .str "__class__" t]) _ _ _
  refine wpAny_call (codeAny_call_builtin PySem.F.excAttr_ValueError.ga.plain PySem.F.entry_bexc_ga ?_)
  refine @check_slot (model prog w) _ _ ⟨hp, g, d, t + 1, os⟩ "BaseException.__getattribute__" "BaseException" "__getattribute__" (.ref x) [.str "__class__" t] [] _ (by decide +kernel) (by decide +kernel) su (PySem.F.args_bexc_ga (.ref x) (.str "__class__" t)) ?_
  unfold Builtin.«object.__getattribute__»
  refine wpAny_bind (wpAny_of_eq (a := ((Value.ref x : Value), [Value.str "__class__" t])) (by first | rfl | (simp only [slotArgs]; rfl)) ?_)
  refine wpAny_bind (wpAny_pure (wpAny_bind (g0.at (wpAny_bind (g3.at ?_)))))
  show wpAny _ _ (holding [Value.builtin "object.__class__"] (call (.builtin "getset_descriptor.__get__") [.builtin "object.__class__", .ref x, .ref D]) >>= ret) _ _ _
  refine wpAny_bind (wpAny_holding (wpAny_call (class_get (s := ⟨hp, g, d, t + 1, os⟩) (ox := ox) (od := od) X I Z.hm ?_)))
  refine wpAny_pure ?_
  show wpAny _ _ (handedOut (.ref D)) _ _ _
  rw [handedOut_of (v := .ref D) rfl]
  first
    | exact wpAny_pure (wpAny_pure h)
    | exact wpAny_pure h
    | exact wpAny_pure (wpAny_bind (wpAny_pure (wpAny_pure h)))
theorem kit_err (Z : L2.ExcC K D) : KitX K (.ref x) (.ref D) (fun h => ∃ ox od, InstAt h x ox D od) where
  ty := fun _ _ _ ⟨_, _, I⟩ => I.type
  it := fun _ _ X _ => by
    obtain ⟨cdD, hcD, _⟩ := any_some Z.hd
    unfold clsIn at hcD
    split at hcD
    · rename_i c' d' cd' sl' ho
      intro A' Q' E' s' k q
      unfold isType loadHead
      exact wpAny_bind (wpAny_loadPart (k _ _ (X _ _ ho)) (wpAny_pure q))
    · cases hcD
  ne := fun h tp dd its n sl X htp => by
    obtain ⟨cdD, hcD, _⟩ := any_some Z.hd
    refine Bool.eq_false_iff.mpr fun q => ?_
    have e : D = tp := Value.ref.inj (beq_iff_eq.mp q)
    subst e
    unfold clsIn at hcD
    split at hcD
    · rename_i c' d' cd' sl' ho
      have z := (X _ _ ho).symm.trans htp
      cases z
    · cases hcD
  ca := fun X ⟨_, _, I⟩ k => class_of Z X I k
end
end GW
end PySem
namespace L2
open PySem PySem.Spec PyProof.Rows PySem.GW
/-- an error of the class at C that is held: with its own dict, or without one -/
def errO (a C : Addr) (d : Option Addr) : HO := .ext fun h => ∃ (oe : Obj) (vs : Array Value), h.get? a = some oe ∧ oe.cls = .ref C ∧ oe.dict = d ∧ oe.data = .fields vs
theorem errO_ok {P : Program} {w : World} {H : Hp} {h : Heap} {a C : Addr} {d : Option Addr} {oe : Obj} {vs : Array Value} (e : h.get? a = some oe) (c : oe.cls = .ref C) (q : oe.dict = d) (dt : oe.data = .fields vs) : ObjOk P w H h a (errO a C d) :=
  ⟨⟨oe, vs, e, c, q, dt⟩, ⟨oe, e⟩, fun h1 h2 ⟨o1, v1, e1, c1, q1, d1⟩ k => ⟨o1, v1, k _ e1, c1, q1, d1⟩⟩
theorem errO_at {P : Program} {w : World} {H : Hp} {h : Heap} {a C : Addr} {d : Option Addr} (ok : HOk P w H h) (e : H a = some (errO a C d)) : ∃ (oe : Obj) (vs : Array Value), h.get? a = some oe ∧ oe.cls = .ref C ∧ oe.dict = d ∧ oe.data = .fields vs := (ok a _ e).1
theorem relO_zip : ∀ {fs : List Str} {vs : List V} {us : List Value}, Vals vs us → ∀ f : Str, RelO (List.lookup f (fs.zip vs)) (List.lookup f (fs.zip us))
  | [], _, _, _, f => by simp [List.lookup, RelO]
  | g :: fs, [], [], _, f => by simp [List.lookup, RelO]
  | g :: fs, v :: vs, u :: us, .cons r rs, f => by
    by_cases e : f = g
    · subst e
      simp [List.lookup, RelO]
      exact r
    · have e' : (f == g) = false := by simpa using e
      simp only [List.zip_cons_cons, List.lookup, e']
      exact relO_zip rs f
section
variable {X : Cx} {C : Addr} {fs : List Str} {e : Expr} {t : TA} {pos pos2 : Pos} {f : Str}
/-- the class as a reader of its fields -/
structure ErrG (K : PySem.W.Frag) (C : Addr) : Prop where
  ga : PySem.W.findIn K (.ref C) "__getattribute__" = some (some (.builtin "BaseException.__getattribute__"))
  gg : PySem.W.findIn K (.ref C) "__getattr__" = some none
  ex : PySem.W.subIn K (.ref C) (.type "BaseException") = some true
  hd : PySem.W.hasDictIn K C = true
/-- C(..).f -/
theorem pe_errF (G : ErrG X.K C) (no : PySem.W.findIn X.K (.ref C) f = some none) (hE : PEr X e C fs t) (hb : attributeBase e f X.env (eval e X.env) = eval e X.env := by rfl) :
    PE X (.Attribute e f pos) (fun σ H Q => t σ H fun vs H1 => ∃ v, List.lookup f (fs.zip vs) = some v ∧ Q v H1) := by
  refine ⟨fun pins s σ H Q I h => ?_⟩
  refine attr_of hb (thn (hE pins s σ H _ I h) fun u s1 hh => ?_)
  obtain ⟨a, d, vs, us, H', s0, h', tk, rfl, J, rfl, M, r, hl, v, hv, q⟩ := hh
  obtain ⟨t1, ho⟩ := M.obj
  obtain ⟨od, hod, hlk⟩ := lookIn_ns M.ns
  obtain ⟨u, hu, ru⟩ := RelO.some_of (v := v) (o := List.lookup f (fs.zip us)) (by rw [← hv]; exact relO_zip r f)
  have J2 : Inv X pins σ H' { s0 with heap := h', toks := tk } := J.kept M.keep
  have K2 : PySem.W.InstAt h' a { cls := .ref C, dict := some d, data := .fields #[.ref t1, .none, .none, .none, .bool false, .none] } C (some od) := ⟨ho, rfl, rfl, hod⟩
  exact HandSPX.exc_get J2.kIn K2 G.ga G.gg G.ex (PySem.W.findObj_own G.hd no rfl (by rw [hlk, hu])) (handed_of ru) ⟨v, H', J2.tok _, ru, q⟩
/-- C(..) as a value that is held -/
theorem pe_err (hE : PEr X e C fs t) : PE X e (fun σ H Q => t σ H fun vs H1 => ∀ a d, H1 a = none → H1 d = none → d ≠ a → Q (.ref a) (upd (upd H1 d (.xd (fs.zip vs))) a (errO a C (some d)))) := by
  refine ⟨fun pins s σ H Q I h => wpAny_mono (hE pins s σ H _ I h) (fun u s1 hh => ?_) fun _ _ z => z⟩
  obtain ⟨a, d, vs, us, H', s0, h', tk, rfl, J, rfl, M, r, hl, q⟩ := hh
  obtain ⟨t1, ho⟩ := M.obj
  obtain ⟨G', g1, g2⟩ := restrict h' fun b => decide (b ≠ a)
  have gk : ∀ b, b ≠ a → G'.get? b = h'.get? b := fun b hb => g1 b (decide_eq_true hb)
  have ge : G'.get? a = none := g2 a (by simp)
  have old : ∀ b o, s0.heap.get? b = some o → G'.get? b = some o := fun b o q => (gk b (Nat.ne_of_lt (Nat.lt_of_lt_of_le (Heap.lt_size q) M.new))).trans (M.keep b o q)
  have ob : ObjOk X.prog X.w (upd H' d (.xd (fs.zip vs))) G' d (.xd (fs.zip vs)) := ⟨_, M.ns.at (fun o q => (gk d M.dne).trans q), fun f => relO_zip r f⟩
  have J1 : Inv X pins σ (upd H' d (.xd (fs.zip vs))) { s0 with heap := G', toks := tk } := J.laid (t' := tk) old M.dnew ob
  have na : H' a = none := J.hok.fresh M.new
  have nd : H' d = none := J.hok.fresh M.dnew
  have up : ∀ b o, G'.get? b = some o → h'.get? b = some o := fun b o q => by
    by_cases hb : b = a
    · rw [hb, ge] at q; cases q
    · exact (gk b hb).symm.trans q
  have na2 : (upd H' d (.xd (fs.zip vs))) a = none := by rw [upd_ne M.dne.symm]; exact na
  have J2 := J1.laidN (t' := tk) (h' := h') (a := a) (o := errO a C (some d)) up ge na2 (errO_ok ho rfl rfl rfl)
  exact ⟨.ref a, _, J2, rfl, q a d na nd M.dne⟩
/-- raise C(..) -/
theorem pmk_err (R : Raises X (.ref C)) (hE : PEr X e C fs t) : PMk X e (fun σ H Q => t σ H fun vs H1 => ∀ d, H1 d = none → Q (.ref C) (some d) (upd H1 d (.xd (fs.zip vs)))) := by
  intro pins s σ H Q I h
  refine wpAny_mono (hE pins s σ H _ I h) (fun u s1 hh => ?_) fun _ _ z => z
  obtain ⟨a, d, vs, us, H', s0, h', tk, rfl, J, rfl, M, r, hl, q⟩ := hh
  obtain ⟨t1, ho⟩ := M.obj
  obtain ⟨G', g1, g2⟩ := restrict h' fun b => decide (b ≠ a)
  have gk : ∀ b, b ≠ a → G'.get? b = h'.get? b := fun b hb => g1 b (decide_eq_true hb)
  have ge : G'.get? a = none := g2 a (by simp)
  have old : ∀ b o, s0.heap.get? b = some o → G'.get? b = some o := fun b o q => (gk b (Nat.ne_of_lt (Nat.lt_of_lt_of_le (Heap.lt_size q) M.new))).trans (M.keep b o q)
  have ob : ObjOk X.prog X.w (upd H' d (.xd (fs.zip vs))) G' d (.xd (fs.zip vs)) := ⟨_, M.ns.at (fun o q => (gk d M.dne).trans q), fun f => relO_zip r f⟩
  have J1 : Inv X pins σ (upd H' d (.xd (fs.zip vs))) { s0 with heap := G', toks := tk } := J.laid (t' := tk) old M.dnew ob
  refine ⟨a, _, _, { s0 with heap := G', toks := tk }, _, .ref C, some d, rfl, J1, fun b o q => ?_, ge, ho, ⟨rfl, rfl⟩, rfl, rfl, ?_, rfl, J.bare, R, q d (J.hok.fresh M.dnew)⟩
  · by_cases hb : b = a
    · have q' : G'.get? b = some o := q
      rw [hb, ge] at q'; cases q'
    · exact (gk b hb).symm.trans q
  · rw [upd_ne (Ne.symm M.dne)]
    exact J.hok.fresh M.new
end
section
variable {X : Cx}
theorem err_inst {P : Program} {w : World} {H : Hp} {h : Heap} {a C : Addr} {d : Option Addr} (ok : HOk P w H h) (e : H a = some (errO a C d)) (hd : ∀ dd, d = some dd → ∃ fs, H dd = some (.xd fs)) : ∃ ox od, PySem.W.InstAt h a ox C od := by
  obtain ⟨oe, vs, h1, h2, h3, h4⟩ := errO_at ok e
  have nc : PySem.W.notCls oe = true := by unfold PySem.W.notCls; rw [h4]
  cases d with
  | none => exact ⟨oe, none, h1, h2, nc, by rw [h3]; trivial⟩
  | some dd =>
    obtain ⟨fs, hx⟩ := hd dd rfl
    obtain ⟨mA, hns, _⟩ := (show ObjOk P w H h dd (.xd fs) from ok dd _ hx)
    obtain ⟨od, ho, _⟩ := lookIn_ns hns
    exact ⟨oe, some od, h1, h2, nc, by rw [h3]; exact ho⟩
/-- isinstance(e, c), e an error that is held -/
def rIsErr (K : PySem.W.Frag) : List V → Hp → VK → Prop := fun xs H Q => ∃ (a C : Addr) (d : Option Addr) (c : V) (cv : Value) (b : Bool), xs = [.ref a, c] ∧ H a = some (errO a C d) ∧ (∀ dd, d = some dd → ∃ fs, H dd = some (.xd fs)) ∧ ExcC K C ∧ ClsV c cv ∧ PySem.W.kitOne K (.ref C) cv = some b ∧ Q (.bl b) H
theorem call_isErr : CallR X (.builtin "isinstance") (rIsErr X.K) := by
  intro pins s σ H xs us Q I r h
  obtain ⟨a, C, d, c, cv, b, rfl, ha, hd, Z, k, e, q⟩ := h
  obtain ⟨u1, u2, rfl, r1, r2⟩ := vals2 r
  have e2 := k.eq r2
  subst e2
  cases (show u1 = Value.ref a from r1)
  exact PySem.W.kia_one (kit_err Z) I.kIn (err_inst I.hok ha hd) e (fun z => nomatch z) fun tk => ⟨.bl b, H, I.tok tk, rfl, q⟩
def rIsErrT (K : PySem.W.Frag) : List V → Hp → VK → Prop := fun xs H Q => ∃ (a C : Addr) (d : Option Addr) (tp : Addr) (cs : List V) (us : List Value) (b : Bool), xs = [.ref a, .ref tp] ∧ H a = some (errO a C d) ∧ (∀ dd, d = some dd → ∃ fs, H dd = some (.xd fs)) ∧ ExcC K C ∧ H tp = some (.tup cs) ∧ Paired ClsV cs us ∧ PySem.W.kitAny K (.ref C) us = some b ∧ Q (.bl b) H
theorem call_isErrT : CallR X (.builtin "isinstance") (rIsErrT X.K) := by
  intro pins s σ H xs us Q I r h
  obtain ⟨a, C, d, tp, cs, ws, b, rfl, ha, hd, Z, hT, k, e, q⟩ := h
  obtain ⟨u1, u2, rfl, r1, r2⟩ := vals2 r
  cases (show u1 = Value.ref a from r1)
  cases (show u2 = Value.ref tp from r2)
  obtain ⟨_, its, rv, o, h1, h2, n, h3⟩ := (show ObjOk X.prog X.w H s.heap tp (.tup cs) from I.hok tp _ hT)
  have e3 := ClsV.all k rv
  subst e3
  obtain ⟨oc, od, dt, sl⟩ := o
  simp only at h2 h3
  subst h2 h3
  exact PySem.W.kia_tup (kit_err Z) I.kIn (err_inst I.hok ha hd) h1 e (fun z => nomatch z) fun tk => ⟨.bl b, H, I.tok tk, rfl, q⟩
/-- raise C(), C without an __init__ of its own -/
theorem pmk_err0 {C : Addr} {bmB : List Value} {B newId initId : String} {x : Str} {p pos : Pos} (F : ExcBaseFacts B newId initId bmB) (q : PySem.W.excIn X.K C bmB newId = true) (gC : X.mg x = some (.ref C)) (kC : PySem.W.keepIn X.K (.ref C) = true) (R : Raises X (.ref C)) (hg : Gl X x)
    (hdb : (x == ("__debug__" : Str)) = false := by decide) : PMk X (.Call (.Name x p) [] [] pos) (fun _ H Q => Q (.ref C) none H) := by
  intro pins s σ H Q I h
  refine wpAny_Call_Name_kw (ld_glob I hg gC ?_ hdb)
  refine PySem.W.callWith_K0 I.kIn kC ?_
  show wpAny _ _ (call (.ref C) []) _ _ _
  obtain ⟨bm, N, nm, qn, bs, hdct, sn, sub, ab, col, dd, k0, k1, k2, k3, k5, mN, hC, hN, hni, T⟩ := exc_obj I.kIn q
  refine wpAny_call_exc_subT F T hC hN hni (fun h' a hm => ?_) (by show 0 ≤ sizeLine; omega)
  have hn : H a = none := I.hok.gone hm.new
  obtain ⟨t, ht, _, _⟩ := hm.there
  exact ⟨a, _, _, s, H, .ref C, none, rfl, I, hm.keeps, hm.new, ht, ⟨rfl, rfl⟩, rfl, rfl, hn, rfl, I.bare, R, h⟩
/-- C(): an error without an __init__ of its own -/
theorem pe_err0 {C : Addr} {bmB : List Value} {B newId initId : String} {x : Str} {p pos : Pos} (F : ExcBaseFacts B newId initId bmB) (q : PySem.W.excIn X.K C bmB newId = true) (gC : X.mg x = some (.ref C)) (kC : PySem.W.keepIn X.K (.ref C) = true) (hg : Gl X x)
    (hdb : (x == ("__debug__" : Str)) = false := by decide) :
    PE X (.Call (.Name x p) [] [] pos) (fun _ H Q => ∀ a, H a = none → Q (.ref a) (upd H a (errO a C none))) := by
  refine ⟨fun pins s σ H Q I h => ?_⟩
  refine wpAny_Call_Name_kw (ld_glob I hg gC ?_ hdb)
  refine PySem.W.callWith_K0 I.kIn kC ?_
  show wpAny _ _ (call (.ref C) []) _ _ _
  obtain ⟨bm, N, nm, qn, bs, hdct, sn, sub, ab, col, dd, k0, k1, k2, k3, k5, mN, hC, hN, hni, T⟩ := exc_obj I.kIn q
  refine wpAny_call_exc_subT F T hC hN hni (fun h' a hm => ?_) (by show 0 ≤ sizeLine; omega)
  have hn : H a = none := I.hok.gone hm.new
  obtain ⟨t, ht, _, _⟩ := hm.there
  exact ⟨.ref a, upd H a (errO a C none), I.laidN hm.keeps hm.new hn (errO_ok ht rfl rfl rfl), rfl, h a hn⟩
end
end L2
set_option Elab.async false
set_option linter.all false
set_option maxRecDepth 100000
set_option maxHeartbeats 4000000
/-! what the head tells of the errors: one Bool an error, and the text of its __init__ -/
namespace PySem
namespace GW
open PySem PySem.W PySem.Spec PySem.Calls PyProof.Rows PySem.HandSPX L2 He
structure ErrX (P : Program) (K : PySem.W.Frag) (mg : Str → Option Value) (W : Addr) (x : Str) (C fI : Addr) (params : Arguments) (scope : Scope) (l : List Fl) : Prop where
  c : ErrC K C
  i : ErrI P K mg C fI params scope l
  g : mg x = some (.ref C)
  k : PySem.W.keepIn K (.ref C) = true
  r : ErrG K C
  z : ExcC K C
  t : PySem.W.typeIn K (.ref C) = some (.type "type")
  kw : PySem.W.kitOne K (.ref C) (.ref W) = some true
  kv : PySem.W.kitOne K (.ref C) (.type "ValueError") = some true
  xw : PySem.W.exmOne K (.ref C) (.ref W) = some true
structure ErrZ (K : PySem.W.Frag) (mg : Str → Option Value) (W : Addr) (x : Str) (C : Addr) : Prop where
  q : PySem.W.excIn K C [.type "ValueError", .type "Exception", .type "BaseException", .type "object"] "ValueError.__new__" = true
  g : mg x = some (.ref C)
  k : PySem.W.keepIn K (.ref C) = true
  z : ExcC K C
  t : PySem.W.typeIn K (.ref C) = some (.type "type")
  kw : PySem.W.kitOne K (.ref C) (.ref W) = some true
  kv : PySem.W.kitOne K (.ref C) (.type "ValueError") = some true
  xw : PySem.W.exmOne K (.ref C) (.ref W) = some true
def veB : List Value := [.type "ValueError", .type "Exception", .type "BaseException", .type "object"]
def eqB (a : Option Bool) (b : Bool) : Bool := decide (a = some b)
/-- of a class: what isinstance, except and a reader ask -/
def clsB (K : Frag) (C W : Addr) : Bool :=
  keepIn K (.ref C) && (decide (typeIn K (.ref C) = some (.type "type")) && (eqO (findIn K (.ref C) "__getattribute__") (some (some (.builtin "BaseException.__getattribute__"))) && (eqO (findIn K (.ref C) "__getattr__") (some none) &&
    (eqB (subIn K (.ref C) (.type "BaseException")) true && (hasDictIn K C && (eqO (findIn K (.ref C) "__class__") (some (some (.builtin "object.__class__"))) && (eqO (specialIn K (.builtin "object.__class__") "__get__") (some (some (.builtin "getset_descriptor.__get__"))) &&
      (eqB (takesIn K (.builtin "object.__class__")) true && (eqB (mroIn K C (.type "object")) true && (eqB (kitOne K (.ref C) (.ref W)) true && (eqB (kitOne K (.ref C) (.type "ValueError")) true && eqB (exmOne K (.ref C) (.ref W)) true)))))))))))
theorem clsB_ok {K : Frag} {C W : Addr} (h : clsB K C W = true) : keepIn K (.ref C) = true ∧ typeIn K (.ref C) = some (.type "type") ∧ ErrG K C ∧ ExcC K C ∧ kitOne K (.ref C) (.ref W) = some true ∧ kitOne K (.ref C) (.type "ValueError") = some true ∧ exmOne K (.ref C) (.ref W) = some true := by
  unfold clsB eqB at h
  simp only [Bool.and_eq_true, decide_eq_true_eq] at h
  obtain ⟨h1, h2, h3, h4, h5, h6, h7, h8, h9, h10, h11, h12, h13⟩ := h
  exact ⟨h1, h2, ⟨eqO_ok h3, eqO_ok h4, h5, h6⟩, ⟨eqO_ok h3, eqO_ok h4, h5, h6, eqO_ok h7, eqO_ok h8, h9, h10⟩, h11, h12, h13⟩
def zB (K : Frag) (x : Str) : Bool := eqO (nsIn K mainGlobals x) (some (some (.ref (ga K x)))) && (excIn K (ga K x) veB "ValueError.__new__" && clsB K (ga K x) (ga K "WebError"))
theorem zB_ok {K : Frag} {h : Heap} {mg : Str → Option Value} {x : Str} (X : K.In h) (G : h.Ns mainGlobals mg) (c : zB K x = true) : ErrZ K mg (ga K "WebError") x (ga K x) := by
  unfold zB at c
  simp only [Bool.and_eq_true] at c
  obtain ⟨c1, c2, c3⟩ := c
  obtain ⟨d1, d2, d3, d4, d5, d6, d7⟩ := clsB_ok c3
  exact ⟨c2, mg_of X G (eqO_ok c1), d1, d4, d2, d5, d6, d7⟩
def fileB (file : Str) (vs : Array Value) : Bool := match vs[2]? with
  | some (Value.str f _) => f == file
  | _ => false
theorem fileB_ok {file : Str} {vs : Array Value} (h : fileB file vs = true) : ∃ f tk, vs[2]? = some (Value.str f tk) ∧ (file == f) = true := by
  unfold fileB at h
  split at h
  · rename_i f tk e
    exact ⟨f, tk, e, by have q : f = file := beq_iff_eq.mp h; rw [q]; exact beq_self_eq_true _⟩
  · cases h
def cellB (file : Str) (K : Frag) (C fI : Addr) : Bool := match K.lookup fI with
  | some ⟨_, _, .func fd, _⟩ => (match fd.closure, fd.code with
    | [(_, cc)], .ref cda => (match K.lookup cc, K.lookup cda with
      | some ⟨_, _, .cell (some (.ref D)), _⟩, some ⟨_, _, .fields vs, _⟩ => decide (D = C) && (fileB file vs && codeIn K (.ref cda) fd.qualname)
      | _, _ => false)
    | _, _ => false)
  | _ => false
abbrev IniV : Type := Option (Str × Arguments × FuncBody × Scope × Addr × List Str × Value × Value × Addr)
def iniObs (K : Frag) (x : Str) : IniV := match K.lookup (ma K (ga K x) "__init__") with
  | some ⟨_, _, .func fd, _⟩ => some (fd.name, fd.params, fd.body, fd.scope, fd.globals, fd.closure.map (fun p => p.1), fd.defaults, fd.kwdefaults, fd.builtins)
  | _ => none
def iniVal (st : Stmt) : IniV := some ("__init__", defArgs st, .stmts (defBody st), defScope st, mainGlobals, ["__class__"], .none, .none, builtinsNs)
def xB (file : Str) (K : Frag) (x : Str) (fs : List Str) : Bool :=
  eqO (nsIn K mainGlobals x) (some (some (.ref (ga K x)))) && (excInitIn K (ga K x) veB "ValueError.__new__" && (clsB K (ga K x) (ga K "WebError") && (eqO (findIn K (.ref (ga K x)) "__setattr__") (some (some (.builtin "object.__setattr__"))) &&
    (decide (ks_superIn K (ga K x) (ga K x) "__init__" = some (some (.builtin "ValueError.__init__"))) && (eqB (subIn K (.ref (ga K x)) (.type "ValueError")) true && (eqB (mroIn K (ga K x) (.ref (ga K x))) true &&
      (eqO (findIn K (.ref (ga K x)) "__init__") (some (some (.ref (ma K (ga K x) "__init__")))) && (decide (typeIn K (.ref (ma K (ga K x) "__init__")) = some (.type "function")) && ((fs.all fun f => eqO (findIn K (.ref (ga K x)) f) (some none)) && cellB file K (ga K x) (ma K (ga K x) "__init__"))))))))))
theorem refsVE_of : ∀ l : List Value, excTail veB l = true → refsVE l = true := by
  intro l
  induction l with
  | nil => intro h; exact absurd h (by decide)
  | cons v r ih =>
    intro h
    rcases excTail_cases (v :: r) h with ⟨c, r', e, h'⟩ | e
    · obtain ⟨rfl, rfl⟩ := List.cons.inj e
      exact ih h'
    · rw [e]
      decide
theorem cls_of {K : Frag} {C : Addr} (q : excInitIn K C veB "ValueError.__new__" = true) (hd : hasDictIn K C = true) :
    ∃ nm q N bs bm sn sub ab col dd k0 k1 k2 k3 k5, K.lookup C = some (excClassObj nm q C N bs bm true sn sub ab col dd k0 k1 k2 k3 k5 "ValueError.__new__") ∧ refsVE bm = true := by
  unfold excInitIn at q
  split at q
  · rename_i dd cd sl ho
    split at q
    · rename_i C' bm k0 k1 k2 k3 n k5 hm hs
      simp only [Bool.and_eq_true, beq_iff_eq, Bool.not_eq_true'] at q
      obtain ⟨⟨⟨rfl, rfl⟩, hdel⟩, ht⟩ := q
      have hdc : cd.hasDict = true := by
        obtain ⟨cd', hc, hh⟩ := any_some hd
        unfold clsIn at hc
        rw [ho] at hc
        cases hc
        exact hh
      obtain ⟨nm, bs, mro, ns, qn, hdd, sn, sub, ab, col, del⟩ := cd
      dsimp only at hm hdel hdc
      subst hm hdel hdc
      have hsl : sl = #[k0, k1, k2, k3, some (.builtin "ValueError.__new__"), k5] := by
        obtain ⟨l⟩ := sl
        simp only at hs
        rw [hs]
      subst hsl
      exact ⟨nm, qn, ns, bs, bm, sn, sub, ab, col, dd, k0, k1, k2, k3, k5, ho, refsVE_of bm ht⟩
    · cases q
  · cases q
/-- the text of an __init__ that only keeps its values -/
structure IniOk (st : Stmt) (l : List Fl) : Prop where
  body : ∃ r0 r1 r2 r3 r4 : Pos, defBody st = eBody r0 r1 r2 r3 r4 l ∧ (r2.endLine == r3.line) = true
  nd : ((Str.ofString "self") :: l.map (fun p => p.f)).Nodup
  ne : l ≠ []
  few : l.length ≤ 10
  hd : ∃ p, (defArgs st).posonlyargs ++ (defArgs st).args = { arg := "self", annotation := none, pos := p } :: ((defArgs st).posonlyargs ++ (defArgs st).args).tail
  sk : (defScope st).kind = .function
  sco : (defScope st).isCoroutine = false
  sge : (defScope st).isGenerator = false
  ss : (defScope st).names.lookup (Str.ofString "super") = some .globalImplicit
  sc : (defScope st).names.lookup (Str.ofString "__class__") = some .free
  sl : ∀ y ∈ ((Str.ofString "self") :: l.map (fun p => p.f)), (defScope st).names.lookup y = some .local
  scell : ∀ x ∈ (defScope st).names, x.2 ≠ .cell
  nodeb : ∀ p ∈ l, (p.f == (Str.ofString "__debug__")) = false
theorem xB_ok {P : Program} {K : Frag} {h : Heap} {mg : Str → Option Value} {x : Str} {st : Stmt} {l : List Fl} (X : K.In h) (G : h.Ns mainGlobals mg) (c : xB P.main.file K x (l.map (fun p => p.f)) = true) (o : iniObs K x = iniVal st) (T : IniOk st l)
    (sup : mg "super" = none) (opq : nsIn K cStatics "thirdparty.any" = some none) (ptop : (P.main.scope.names.lookup (Str.ofString "super")).isSome = false) :
    ErrX P K mg (ga K "WebError") x (ga K x) (ma K (ga K x) "__init__") (defArgs st) (defScope st) l := by
  unfold xB eqB at c
  simp only [Bool.and_eq_true, decide_eq_true_eq] at c
  obtain ⟨c1, c2, c3, c4, c5, c6, c7, c8, c9, c10, c11⟩ := c
  obtain ⟨d1, d2, d3, d4, d5, d6, d7⟩ := clsB_ok c3
  refine ⟨⟨cls_of c2 d3.hd, eqO_ok c4, c5, opq, c6, c7⟩, ⟨eqO_ok c8, c9, fun p hp => ?_, T.nd, T.ne, T.few, T.hd, T.sk, T.sco, T.sge, T.ss, T.sc, T.sl, T.scell, T.nodeb, sup, ptop, ?_⟩, mg_of X G (eqO_ok c1), d1, d3, d4, d2, d5, d6, d7⟩
  · exact eqO_ok (List.all_eq_true.mp c10 _ (List.mem_map_of_mem hp))
  · obtain ⟨r0, r1, r2, r3, r4, hb, hln⟩ := T.body
    unfold iniObs at o
    unfold cellB at c11
    cases e : K.lookup (ma K (ga K x) "__init__") with
    | none => rw [e] at o; cases o
    | some ob =>
      rw [e] at o c11
      obtain ⟨oc, od, dt, sl⟩ := ob
      cases dt with
      | func fd =>
        obtain ⟨n1, n2, n3, n4, n5, n6, n7, n8, n9, n10, n11, n12, n13, n14, n15⟩ := fd
        unfold iniVal at o
        simp only [Option.some.injEq, Prod.mk.injEq] at o
        obtain ⟨rfl, rfl, rfl, rfl, rfl, o6, rfl, rfl, rfl⟩ := o
        dsimp only at c11
        split at c11
        · rename_i nm cc cda
          split at c11
          · rename_i _ _ D _ _ _ _ vs _ ecc ecd
            simp only [Bool.and_eq_true, decide_eq_true_eq] at c11
            obtain ⟨rfl, cf, cq⟩ := c11
            obtain ⟨f, tk, ef, eq⟩ := fileB_ok cf
            have o7 : nm = Str.ofString "__class__" := by simpa using o6
            subst o7
            refine ⟨oc, od, n2, r0, r1, r2, r3, r4, n10, n11, n12, cda, n14, cc, sl, ?_, cq, hln, ⟨_, _, _, ecc⟩, _, _, vs, _, f, tk, ecd, ef, eq⟩
            first
              | (rw [← hb]; done)
              | (rw [← hb]; exact e)
          · cases c11
        · cases c11
      | _ => cases o
/-! ### the part of the heap that is looked at, the Hook -/
def refs2 (o : Obj) : List Addr := He.refsD o ++ (match o.data with
  | .func fd => fd.closure.map (fun p => p.2)
  | _ => [])
def grow2 (g : Addr → Option Obj) (as : List Addr) : List Addr := (as ++ as.flatMap fun a => match g a with
  | some o => refs2 o
  | none => []).eraseDups
def as2 (g : Addr → Option Obj) : Nat → List Addr
  | 0 => [mainGlobals, cStatics]
  | n + 1 => grow2 g (as2 g n)
abbrev Al2 : Type := Bool × List He.FnV × List IniV
def obs2 (fb : Frag → Bool) (fn : List He.FnD) (xs : List Str) (K : Frag) : Al2 := (fb K && fn.all fun d => (He.Fa.code d.at_ d.qual).ok K, fn.map fun d => He.fnObs K d.at_, xs.map fun x => iniObs K x)
def val2 (fn : List He.FnD) (ys : List IniV) : Al2 := (true, fn.map He.FnD.val, ys)
def Says2 (fb : Frag → Bool) (fn : List He.FnD) (xs : List Str) (ys : List IniV) (K : Frag) : Prop := obs2 fb fn xs K = val2 fn ys
def obs2G (n : Nat) (fb : Frag → Bool) (fn : List He.FnD) (xs : List Str) (g : Addr → Option Obj) : Al2 := obs2 fb fn xs (He.frG g (as2 g n))
def hook2 (n : Nat) (fb : Frag → Bool) (fn : List He.FnD) (xs : List Str) (ys : List IniV) : PySem.W.Hook where
  α := Al2
  obs := fun s => obs2G n fb fn xs s.heap.get?
  val := fun _ => val2 fn ys
  says := fun _ h => ∃ K : PySem.W.Frag, K.In h ∧ Says2 fb fn xs ys K
  of := fun _ _ e => ⟨_, He.frG_in, e⟩
  keeps := fun _ _ _ ⟨K, hK, c⟩ k => ⟨K, PySem.W.Frag.In.keeps hK k, c⟩
theorem obs2G_eq {n : Nat} {fb : Frag → Bool} {fn : List He.FnD} {xs : List Str} {ys : List IniV} {g : Addr → Option Obj} {s : Shared} (h : ∀ a, g a = s.heap.get? a) : obs2G n fb fn xs g = (hook2 n fb fn xs ys).obs s := by
  have e : g = s.heap.get? := funext h
  show obs2G n fb fn xs g = obs2G n fb fn xs s.heap.get?
  rw [e]
theorem Says2.all {fb : Frag → Bool} {fn : List He.FnD} {xs : List Str} {ys : List IniV} {K : Frag} (c : Says2 fb fn xs ys K) : fb K = true := by
  have e := congrArg Prod.fst c
  exact (Bool.and_eq_true_iff.mp e).1
theorem map_at {α β : Type} {f : α → β} {xs : List α} {ys : List β} (e : xs.map f = ys) (i : Nat) {x : α} {y : β} (hx : xs[i]? = some x) (hy : ys[i]? = some y) : f x = y := by
  rw [← e, List.getElem?_map, hx] at hy
  exact Option.some.inj hy
theorem Says2.ini {fb : Frag → Bool} {fn : List He.FnD} {xs : List Str} {ys : List IniV} {K : Frag} (c : Says2 fb fn xs ys K) (i : Nat) {x : Str} {y : IniV} (hx : xs[i]? = some x) (hy : ys[i]? = some y) : iniObs K x = y :=
  map_at (f := fun x => iniObs K x) (congrArg (fun p => p.2.2) c) i hx hy
theorem Says2.def_ {fb : Frag → Bool} {fn : List He.FnD} {xs : List Str} {ys : List IniV} {K : Frag} (c : Says2 fb fn xs ys K) (i : Nat) {d : He.FnD} (h : fn[i]? = some d) :
    ∃ oc od osl kV doc pm an cdv ct, K.lookup (He.fAd K d.at_) = some ⟨oc, od, .func (PySem.W.fnOf d.name d.qual d.params d.body d.scope .none kV doc pm an cdv ct), osl⟩ ∧ PySem.W.codeIn K cdv d.qual = true := by
  have e1 := congrArg Prod.fst c
  have e2 := (Bool.and_eq_true_iff.mp e1).2
  refine He.fn_ok ?_ (List.all_eq_true.mp e2 d (List.mem_of_getElem? h))
  exact map_at (f := fun d => He.fnObs K d.at_) (congrArg (fun p => p.2.1) c) i h (y := d.val) (by show (fn.map He.FnD.val)[i]? = some d.val; rw [List.getElem?_map, h]; rfl)
end GW
end PySem
set_option Elab.async false
set_option linter.all false
set_option maxRecDepth 100000
set_option maxHeartbeats 4000000
/-! the Hook with defs that have defaults, and with the empty tables of defs that make lambdas -/
namespace PySem
namespace GW
open PySem PySem.W PySem.Spec PySem.Calls PyProof.Rows PySem.HandSPX L2 He
abbrev Al3 : Type := Bool × List He.FnV × List IniV × List He.FnW
def obs3 (fb : Frag → Bool) (fn : List He.FnD) (xs : List Str) (fw : List He.DefD) (K : Frag) : Al3 := ((fb K && fn.all fun d => (He.Fa.code d.at_ d.qual).ok K) && fw.all fun d => d.ok K, fn.map fun d => He.fnObs K d.at_, xs.map fun x => iniObs K x, fw.map fun d => He.fnW K d.at_)
def val3 (fn : List He.FnD) (ys : List IniV) (fw : List He.DefD) : Al3 := (true, fn.map He.FnD.val, ys, fw.map He.DefD.val)
structure Says3 (fb : Frag → Bool) (fn : List He.FnD) (xs : List Str) (ys : List IniV) (fw : List He.DefD) (tf : List He.Defn) (h : Heap) (K : Frag) : Prop where
  e : obs3 fb fn xs fw K = val3 fn ys fw
  hd : ∀ p ∈ tf, PySem.W.codeHdIn K (He.cT K p).1 (He.cT K p).2 = true
  out : ∀ p ∈ tf, K.lookup (He.cT K p).2 = none
  empty : ∀ p ∈ tf, h.get? (He.cT K p).2 = some { cls := .none, data := .fields #[] }
def obs3K (fb : Frag → Bool) (fn : List He.FnD) (xs : List Str) (fw : List He.DefD) (tf : List He.Defn) (g : Addr → Option Obj) (K : Frag) : Al3 × Bool := (obs3 fb fn xs fw K, He.tabsB g tf K)
def obs3G (n : Nat) (fb : Frag → Bool) (fn : List He.FnD) (xs : List Str) (fw : List He.DefD) (tf : List He.Defn) (g : Addr → Option Obj) : Al3 × Bool := obs3K fb fn xs fw tf g (He.frT g (as2 g n))
theorem says3_of {n : Nat} {fb : Frag → Bool} {fn : List He.FnD} {xs : List Str} {ys : List IniV} {fw : List He.DefD} {tf : List He.Defn} {h : Heap} (e : obs3G n fb fn xs fw tf h.get? = (val3 fn ys fw, true)) : Says3 fb fn xs ys fw tf h (He.frT h.get? (as2 h.get? n)) := by
  have e1 : obs3 fb fn xs fw (He.frT h.get? (as2 h.get? n)) = val3 fn ys fw := congrArg (fun z : Al3 × Bool => z.1) e
  have e2 : He.tabsB h.get? tf (He.frT h.get? (as2 h.get? n)) = true := congrArg (fun z : Al3 × Bool => z.2) e
  have key : ∀ p ∈ tf, PySem.W.codeHdIn (He.frT h.get? (as2 h.get? n)) (He.cT (He.frT h.get? (as2 h.get? n)) p).1 (He.cT (He.frT h.get? (as2 h.get? n)) p).2 = true ∧ ∃ o, h.get? (He.cT (He.frT h.get? (as2 h.get? n)) p).2 = some o ∧ He.emptyTab o = true := fun p hp => by
    obtain ⟨h3, h4⟩ := He.ba (List.all_eq_true.mp e2 p hp)
    refine ⟨h3, ?_⟩
    cases q : h.get? (He.cT (He.frT h.get? (as2 h.get? n)) p).2 with
    | none =>
      rw [q] at h4
      cases h4
    | some o =>
      rw [q] at h4
      exact ⟨o, rfl, h4⟩
  exact ⟨e1, fun p hp => (key p hp).1, fun p hp => by
    obtain ⟨_, o, q, z⟩ := key p hp
    exact He.frT_none q z, fun p hp => by
    obtain ⟨_, o, q, z⟩ := key p hp
    rw [q, He.emptyTab_eq z]⟩
def hook3 (n : Nat) (fb : Frag → Bool) (fn : List He.FnD) (xs : List Str) (ys : List IniV) (fw : List He.DefD) (tf : List He.Defn) : PySem.W.Hook where
  α := Al3 × Bool
  obs := fun s => obs3G n fb fn xs fw tf s.heap.get?
  val := fun _ => (val3 fn ys fw, true)
  says := fun _ h => ∃ K : PySem.W.Frag, K.In h ∧ Says3 fb fn xs ys fw tf h K
  of := fun _ _ e => ⟨_, He.frT_in, says3_of e⟩
  keeps := fun _ _ _ ⟨K, hK, c⟩ k => ⟨K, PySem.W.Frag.In.keeps hK k, ⟨c.e, c.hd, c.out, fun p hp => k _ _ (c.empty p hp)⟩⟩
theorem obs3G_eq {n : Nat} {fb : Frag → Bool} {fn : List He.FnD} {xs : List Str} {ys : List IniV} {fw : List He.DefD} {tf : List He.Defn} {g : Addr → Option Obj} {s : Shared} (h : ∀ a, g a = s.heap.get? a) : obs3G n fb fn xs fw tf g = (hook3 n fb fn xs ys fw tf).obs s := by
  have e : g = s.heap.get? := funext h
  show obs3G n fb fn xs fw tf g = obs3G n fb fn xs fw tf s.heap.get?
  rw [e]
section
variable {fb : Frag → Bool} {fn : List He.FnD} {xs : List Str} {ys : List IniV} {fw : List He.DefD} {tf : List He.Defn} {h : Heap} {K : Frag}
theorem Says3.all (c : Says3 fb fn xs ys fw tf h K) : fb K = true := by
  have e := congrArg Prod.fst c.e
  exact (Bool.and_eq_true_iff.mp (Bool.and_eq_true_iff.mp e).1).1
theorem Says3.ini (c : Says3 fb fn xs ys fw tf h K) (i : Nat) {x : Str} {y : IniV} (hx : xs[i]? = some x) (hy : ys[i]? = some y) : iniObs K x = y :=
  map_at (f := fun x => iniObs K x) (congrArg (fun p => p.2.2.1) c.e) i hx hy
theorem Says3.def_ (c : Says3 fb fn xs ys fw tf h K) (i : Nat) {d : He.FnD} (h : fn[i]? = some d) :
    ∃ oc od osl kV doc pm an cdv ct, K.lookup (He.fAd K d.at_) = some ⟨oc, od, .func (PySem.W.fnOf d.name d.qual d.params d.body d.scope .none kV doc pm an cdv ct), osl⟩ ∧ PySem.W.codeIn K cdv d.qual = true := by
  have e1 := congrArg Prod.fst c.e
  have e2 := (Bool.and_eq_true_iff.mp (Bool.and_eq_true_iff.mp e1).1).2
  refine He.fn_ok ?_ (List.all_eq_true.mp e2 d (List.mem_of_getElem? h))
  exact map_at (f := fun d => He.fnObs K d.at_) (congrArg (fun p => p.2.1) c.e) i h (y := d.val) (by show (fn.map He.FnD.val)[i]? = some d.val; rw [List.getElem?_map, h]; rfl)
theorem Says3.defD (c : Says3 fb fn xs ys fw tf h K) (i : Nat) {d : He.DefD} (h : fw[i]? = some d) : ∃ fd, FunD K d.name d.qual d.params d.body d.scope (d.dvs K) (d.kws K) (He.fAd K d.at_) fd := by
  have e1 := congrArg Prod.fst c.e
  have e2 := (Bool.and_eq_true_iff.mp e1).2
  refine He.DefD.funD ?_ (List.all_eq_true.mp e2 d (List.mem_of_getElem? h))
  exact map_at (f := fun d => He.fnW K d.at_) (congrArg (fun p => p.2.2.2) c.e) i h (y := d.val) (by show (fw.map He.DefD.val)[i]? = some d.val; rw [List.getElem?_map, h]; rfl)
end
/-- the function object that stands at f -/
def fdAt (K : PySem.W.Frag) (f : Addr) : FuncData := match K.lookup f with
  | some ⟨_, _, .func fd, _⟩ => fd
  | _ => PySem.W.fnOf "" "" ⟨[], [], none, [], [], none, []⟩ [] ⟨.function, [], false, false, []⟩ .none .none .none .none none .none .none
theorem all_at {α : Type} {p : α → Bool} {xs : List α} (h : xs.all p = true) (i : Nat) {x : α} (hx : xs[i]? = some x) : p x = true := List.all_eq_true.mp h x (List.mem_of_getElem? hx)
end GW
end PySem
set_option Elab.async false
set_option linter.all false
set_option maxRecDepth 100000
set_option maxHeartbeats 4000000
/-! general: operators of own classes, several except clauses, lambdas handed to a def -/
namespace L2
open PySem PySem.Spec PySem.GW
/-- x op y, both of the class at C whose def for op is at g -/
def rOwnI (C : Addr) (sp : Sp) : R2 := fun x y H Q => ∃ a dx fs b dy gs, x = .ref a ∧ y = .ref b ∧ H a = some (.ins C dx fs) ∧ H b = some (.ins C dy gs) ∧ sp [x, y] H Q E0
theorem op_ownI {X : Cx} {C g : Addr} {fd : FuncData} {ps : List Str} {n : Nat} {sp : Sp} {op : CmpOp} (hop : ∀ a b, compareOp op a b = richCompare op a b) (hs : PySem.W.findIn X.K (.ref C) (cmpInfo op).2.1 = some (some (.ref g))) (hf : PySem.W.isFn X.K (.ref g) = true)
    (F : FnOk X.prog X.w X.K X.mg X.base CX0 n g fd ps sp) (hb : Binds X.K fd ps []) (hr : Room n X.A) : OpR X (compareOp op) (rOwnI C sp) := by
  intro pins s σ H x y v u Q I rx ry h
  obtain ⟨a, dx, fs, b, dy, gs, rfl, rfl, ha, hb2, q⟩ := h
  cases (show v = Value.ref a from rx)
  cases (show u = Value.ref b from ry)
  obtain ⟨mA, O, _⟩ := ins_get I.hok ha
  obtain ⟨od, J, _⟩ := O.look
  obtain ⟨mA', O', _⟩ := ins_get I.hok hb2
  obtain ⟨od', J', _⟩ := O'.look
  obtain ⟨m, hF⟩ := I.fr
  rw [hop]
  refine PySem.W.cmp_K (op := op) (tb := .ref C) hr.units0 hF I.ok.mod.kin J J'.type (by simp [PySem.W.notFirst]) hs hf ?_
  refine wpAny_mono (run_fn (us := [.ref a, .ref b]) (vs := [.ref a, .ref b]) (dvs := []) (ds := []) F hr hb .nil pass0 I (.cons rfl (.cons rfl .nil)) q) (fun w s' z => ?_) fun _ _ x => x
  obtain ⟨z', H', I', rz, qz⟩ := z
  exact SlX.cmpback rz ⟨z', H', I', rz, qz⟩
/-- x + y, both of the class at C -/
theorem bop_ownI {X : Cx} {C g : Addr} {fd : FuncData} {ps : List Str} {n : Nat} {sp : Sp} {op : Operator} (hc : PySem.W.selfFirst X.K C = true) (hs : PySem.W.findIn X.K (.ref C) (PySem.dunder op.info.2) = some (some (.ref g))) (hf : PySem.W.isFn X.K (.ref g) = true)
    (F : FnOk X.prog X.w X.K X.mg X.base CX0 n g fd ps sp) (hb : Binds X.K fd ps []) (hr : Room n X.A) : OpR X (binaryOp op) (rOwnI C sp) := by
  intro pins s σ H x y v u Q I rx ry h
  obtain ⟨a, dx, fs, b, dy, gs, rfl, rfl, ha, hb2, q⟩ := h
  cases (show v = Value.ref a from rx)
  cases (show u = Value.ref b from ry)
  obtain ⟨mA, O, _⟩ := ins_get I.hok ha
  obtain ⟨od, J, _⟩ := O.look
  obtain ⟨mA', O', _⟩ := ins_get I.hok hb2
  obtain ⟨od', J', _⟩ := O'.look
  obtain ⟨m, hF⟩ := I.fr
  refine PySem.W.binop_K (op := op) hF I.ok.mod.kin J J'.type hc hs hf ?_
  refine wpAny_mono (run_fn (us := [.ref a, .ref b]) (vs := [.ref a, .ref b]) (dvs := []) (ds := []) F hr hb .nil pass0 I (.cons rfl (.cons rfl .nil)) q) (fun w s' z => ?_) fun _ _ x => x
  obtain ⟨z', H', I', rz, qz⟩ := z
  exact SlX.cmpback rz ⟨z', H', I', rz, qz⟩
end L2

namespace PySem.W
open PySem PyProof.Rows
theorem binop_KT {K : Frag} {h₀ : Heap} {L : Addr} {s : Shared} {m : Str → Option Value} {x C f : Addr} {ox : Obj} {od : Option Obj} {A : Around} {E : Value → Shared → Prop} {prog : Program} {w : World} {b : Value} {Q : Value → Shared → Prop} (F : Fr h₀ L s.heap m) (X₀ : K.In h₀) (I : InstAt s.heap x ox C od) (hb : Looks (model prog w) s.heap (typeOf b) (.type "tuple")) (hc : selfFirst K C = true)
    (hs : findIn K (.ref C) (PySem.dunder Operator.Add.info.2) = some (some (.ref f))) (hf : isFn K (.ref f) = true)
    (h : wpAny (model prog w) A (call (.ref f) [.ref x, b]) (CmpBack Q) E s) : wpAny (model prog w) A (binaryOp .Add (.ref x) b) Q E s := by
  have X := X₀.keeps F.keep
  obtain ⟨cd, hcd, hm⟩ := any_some hc
  obtain ⟨rest, hm⟩ : ∃ rest, cd.mro = .ref C :: rest := by
    cases q : cd.mro with
    | nil => rw [q] at hm; cases hm
    | cons a r => rw [q] at hm; exact ⟨r, by rw [List.head?_cons] at hm; cases (beq_iff_eq.mp hm); rfl⟩
  unfold binaryOp
  refine wpAny_holding (wpAny_bind ?_)
  unfold binaryOp1
  refine wpAny_bind (I.type.here (wpAny_bind (hb.here (wpAny_bind ((fills_K X hcd hm hs).here ?_)))))
  refine wpAny_bind (m := if (Value.ref C == Value.type "tuple") = true then pure false else fillsNumberSlot (.type "tuple") "add") ?_
  rw [if_neg (show ¬ ((Value.ref C == Value.type "tuple") = true) from fun e => by simp at e), noFill_tuple_add]
  refine wpAny_pure ?_
  simp only [Bool.and_false, Bool.false_eq_true, if_false, Bool.false_and]
  refine wpAny_bind (wpAny_pure ?_)
  simp only [Bool.false_eq_true, if_false]
  refine wpAny_bind (m := tryMethod (.ref x) _ b) ?_
  unfold tryMethod
  refine wpAny_bind (special_fn X I hs (beq_iff_eq.mp hf) (wpAny_mono h (fun v s' hv => ?_) fun _ _ e => e))
  cases v <;> first | exact hv.elim | exact wpAny_pure (wpAny_pure (wpAny_pure hv))
end PySem.W
namespace PySem.W
open PySem PyProof.Rows
theorem sl_ne : Slot "object" "__ne__" "object.__ne__" := PySem.F.cmp_object.ne
/-- x != y by the class's own __eq__ -/
theorem ne_K {K : Frag} {h₀ : Heap} {L : Addr} {s : Shared} {m : Str → Option Value} {x y C f : Addr} {ox : Obj} {od : Option Obj} {A : Around} {E : Value → Shared → Prop} {prog : Program} {w : World} {Q : Value → Shared → Prop} (hu : A.units + 1 < cLine) (F : Fr h₀ L s.heap m) (X₀ : K.In h₀) (I : InstAt s.heap x ox C od) (hb : Looks (model prog w) s.heap (typeOf (.ref y)) (.ref C))
    (hn : findIn K (.ref C) "__ne__" = some (some (.builtin "object.__ne__"))) (hs : findIn K (.ref C) "__eq__" = some (some (.ref f))) (hf : isFn K (.ref f) = true) (ho : subIn K (.ref C) (.type "object") = some true)
    (h : wpAny (model prog w) A.in1 (call (.ref f) [.ref x, .ref y]) (fun v s' => ∃ b, v = .bool b ∧ Q (.bool (!b)) s') E s) : wpAny (model prog w) A (compareOp .NotEq (.ref x) (.ref y)) Q E s := by
  have X := X₀.keeps F.keep
  have hi : Looks (model prog w) s.heap (isInstance (.ref x) (.type "object")) true := I.type.andThen (looks_subIn X ho)
  have one : wpAny (model prog w) A (tryCompare (.ref x) "__ne__" (.ref y)) (fun r s' => ∃ v, r = some v ∧ Q v s') E s := by
    unfold tryCompare
    simp only [callSpecialIfBound?, bindSpecialIfBound?]
    refine wpAny_bind (wpAny_holding (wpAny_bind (wpAny_bind (wpAny_bind (I.type.here ((looks_findIn X hn).here ?_))))))
    simp only [sl_ne.bind]
    refine wpAny_bind (wpAny_askSetting (wpAny_ite ?_))
    have go : wpAny (model prog w) A (call (.builtin "object.__ne__") ([.ref x] ++ [.ref y])) (fun v s' => ∃ b, v = .bool b ∧ Q v s') E s := by
      refine wpAny_call (codeAny_call_builtin sl_ne.plain PySem.F.cmpEntry_ne (check_slot PySem.F.cmpKind_ne PySem.F.cmpSplit_ne hi (PySem.F.cmpArgs_ne _ _) ?_))
      unfold Builtin.«object.__ne__»
      repeat (first
        | with_reducible refine wpAny_cRoomFor (A := A.in1) hu ?_
        | (refine wpAny_bind (m := callSpecialIfBound? (.ref x) (Str.ofString "__eq__") [.ref y])
            (ifBound_K X I hs hf (wpAny_mono h (fun r s' hr => by
              obtain ⟨b, rfl, hq⟩ := hr
              repeat (first | exact ⟨_, rfl, hq⟩ | exact wpAny_pure ⟨_, rfl, hq⟩ | exact wpAny_truthy_bool ⟨_, rfl, hq⟩ | (refine wpAny_bind (m := truthy (.bool _)) (wpAny_truthy_bool ?_)) | wp_step)) fun _ _ e => e)))
        | wp_step)
    have fin : wpAny (model prog w) A (call (.builtin "object.__ne__") ([.ref x] ++ [.ref y]) >>= fun v => pure (some v)) (fun r s' => ∃ b, r = some (.bool b) ∧ Q (.bool b) s') E s :=
      wpAny_bind (wpAny_mono go (fun v s' ⟨b, e, hq⟩ => wpAny_pure ⟨b, by rw [e], by rw [← e]; exact hq⟩) fun _ _ e => e)
    have fin2 : wpAny (model prog w) A (call (.builtin "object.__ne__") ([.ref x] ++ [.ref y]) >>= fun v => pure (some v)) (fun r s' => wpAny (model prog w) A (match r with | some .notImplemented | none => pure none | some v => pure (some v)) (fun r s' => ∃ v, r = some v ∧ Q v s') E s') E s :=
      wpAny_mono fin (fun r s' ⟨b, e, hq⟩ => by subst e; exact wpAny_pure ⟨_, rfl, hq⟩) fun _ _ e => e
    split
    · exact wpAny_bind (wpAny_pure (wpAny_pure (by exact fin2)))
    · exact wpAny_tryCatch (wpAny_bind (wpAny_pure (wpAny_pure (by exact fin2))))
  show wpAny (model prog w) A (richCompare .NotEq (.ref x) (.ref y)) Q E s
  unfold richCompare
  simp only [oneThing_ref]
  refine wpAny_holding (wpAny_bind (wpAny_cRoomFor (Nat.lt_of_succ_lt hu) ?_))
  rw [cmpInfo_NotEq]
  dsimp only
  refine wpAny_bind (I.type.here (wpAny_bind (hb.here ?_)))
  rw [show (Value.ref C != Value.ref C) = false from by simp]
  simp only [Bool.false_eq_true, if_false]
  refine wpAny_bind (wpAny_pure ?_)
  simp only [Bool.false_eq_true, if_false]
  refine wpAny_bind (wpAny_mono one (fun r s' z => ?_) fun _ _ e => e)
  obtain ⟨v, rfl, hq⟩ := z
  exact wpAny_pure hq
end PySem.W

namespace L2
open PySem PySem.Spec PySem.GW
def rNeI (C : Addr) (sp : Sp) : R2 := fun x y H Q => ∃ a dx fs b dy gs, x = .ref a ∧ y = .ref b ∧ H a = some (.ins C dx fs) ∧ H b = some (.ins C dy gs) ∧ sp [x, y] H (fun z H' => ∃ k, z = .bl k ∧ Q (.bl (!k)) H') E0
def rOwnT (K : PySem.W.Frag) (C : Addr) (sp : Sp) : R2 := fun x y H Q => ∃ a dx fs b ys, x = .ref a ∧ y = .ref b ∧ H a = some (.ins C dx fs) ∧ SqT K H b ys ∧ sp [x, y] H Q E0
/-- x != y, both of the class at C with its own __eq__ -/
theorem op_neI {X : Cx} {C g : Addr} {fd : FuncData} {ps : List Str} {n : Nat} {sp : Sp} (hn : PySem.W.findIn X.K (.ref C) "__ne__" = some (some (.builtin "object.__ne__"))) (hs : PySem.W.findIn X.K (.ref C) "__eq__" = some (some (.ref g))) (hf : PySem.W.isFn X.K (.ref g) = true) (ho : PySem.W.subIn X.K (.ref C) (.type "object") = some true)
    (F : FnOk X.prog X.w X.K X.mg X.base CX0 n g fd ps sp) (hb : Binds X.K fd ps []) (hr : Room (n + 1) X.A) : OpR X (compareOp .NotEq) (rNeI C sp) := by
  intro pins s σ H x y v u Q I rx ry h
  obtain ⟨a, dx, fs, b, dy, gs, rfl, rfl, ha, hb2, q⟩ := h
  cases (show v = Value.ref a from rx)
  cases (show u = Value.ref b from ry)
  obtain ⟨mA, O, _⟩ := ins_get I.hok ha
  obtain ⟨od, J, _⟩ := O.look
  obtain ⟨mA', O', _⟩ := ins_get I.hok hb2
  obtain ⟨od', J', _⟩ := O'.look
  obtain ⟨m, hF⟩ := I.fr
  refine PySem.W.ne_K (by have := hr.units; omega) hF I.ok.mod.kin J J'.type hn hs hf ho ?_
  have hl : ([Value.ref a, .ref b] ++ []).length = ps.length := F.len _ _ _ _ q
  refine wpAny_call (codeAny_mono (F.run X.A.in1 X.stack s H ⟨[.ref a, .ref b], []⟩ [.ref a, .ref b] [.ref a, .ref b] _ E0 hr.in1 I.env0.in1 (hb s [.ref a, .ref b] I.kIn hl) (.cons rfl (.cons rfl .nil)) q) fun r s' hq => ?_)
  cases r with
  | error e => exact (pass0 pins σ H s e s' I hq)
  | ok fl =>
    cases fl with
    | ret u =>
      obtain ⟨v, H', I2, rv, k, e, q⟩ := I.after hq
      subst e
      cases (show u = Value.bool k from rv)
      exact ⟨k, rfl, .bl (!k), H', I2, rfl, q⟩
    | next => exact False.elim hq
    | brk => exact False.elim hq
    | cont => exact False.elim hq
/-- x + t, x of the class at C, t a tuple -/
theorem bop_ownT {X : Cx} {C g : Addr} {fd : FuncData} {ps : List Str} {n : Nat} {sp : Sp} (hc : PySem.W.selfFirst X.K C = true) (hs : PySem.W.findIn X.K (.ref C) (PySem.dunder Operator.Add.info.2) = some (some (.ref g))) (hf : PySem.W.isFn X.K (.ref g) = true)
    (F : FnOk X.prog X.w X.K X.mg X.base CX0 n g fd ps sp) (hb : Binds X.K fd ps []) (hr : Room n X.A) : OpR X (binaryOp .Add) (rOwnT X.K C sp) := by
  intro pins s σ H x y v u Q I rx ry h
  obtain ⟨a, dx, fs, b, ys, rfl, rfl, ha, hb2, q⟩ := h
  cases (show v = Value.ref a from rx)
  cases (show u = Value.ref b from ry)
  obtain ⟨mA, O, _⟩ := ins_get I.hok ha
  obtain ⟨od, J, _⟩ := O.look
  obtain ⟨its, o, n', _, hg, hcl, _⟩ := L2.sqT_at I.hok I.kIn hb2
  have LT : PySem.W.Looks (model X.prog X.w) s.heap (typeOf (.ref b)) (.type "tuple") := by rw [← hcl]; exact (PySem.W.Looks.ld (part := none) hg).andThen .now
  obtain ⟨m, hF⟩ := I.fr
  refine PySem.W.binop_KT hF I.ok.mod.kin J LT hc hs hf ?_
  refine wpAny_mono (run_fn (us := [.ref a, .ref b]) (vs := [.ref a, .ref b]) (dvs := []) (ds := []) F hr hb .nil pass0 I (.cons rfl (.cons rfl .nil)) q) (fun w s' z => ?_) fun _ _ x => x
  obtain ⟨z', H', I', rz, qz⟩ := z
  exact SlX.cmpback rz ⟨z', H', I', rz, qz⟩
/-- o.m(k = v, ..), nothing by position -/
def tMethK (C : Addr) (m : Str) (n : Nat) (sp : Sp) (gV : List V → List V → List V) (E : XK) (ta : TE) (tk : TA) : TE := fun σ H Q => ta σ H fun x H1 => ∃ a dx fs, x = .ref a ∧ H1 a = some (.ins C dx fs) ∧ fs.lookup m = none ∧ tk σ H1 fun zs H2 => zs.length = n ∧ sp (gV [.ref a] zs) H2 Q E
theorem pe_methK0 {X : Cx} {C f : Addr} {fd : FuncData} {ps ks : List Str} {n : Nat} {sp : Sp} {m : Str} {o : Expr} {apos pos : Pos} {ta : TE} {tk : TA} {kws : List Keyword} {g : List Value → List Value → List Value} {gV : List V → List V → List V} {CX : CXT} {E : XK} {pl : Sem Bool} (he : PE X o ta) (c : Cls X.K C) (hm : Meth X.K C m f) (F : FnOk X.prog X.w X.K X.mg X.base CX n f fd ps sp) (hr : Room n X.A) (hb : KBn X.K fd ps 1 ks g gV) (hx : Passes CX X E) (hkw : PK X kws tk)
    (hall : (backToKw pos (keywordEach kws X.env)).all (·.1.isSome) = true := by rfl) (hks : (backToKw pos (keywordEach kws X.env)).filterMap (·.1) = ks := by rfl)
    (hpl : ((backTo pos (starEach [] X.env)).any (·.1) || (backToKw pos (keywordEach kws X.env)).any (·.1.isNone)) = false := by rfl)
    (ht : eval (.Call (.Attribute o m apos) [] kws pos) X.env = (do
      let ov ← eval o X.env
      standAt apos.atName
      let (f, first) ← holding [ov] (getMethod ov m pl)
      callWith pos f first (backTo pos (starEach [] X.env)) (backToKw pos (keywordEach kws X.env))) := by rfl) :
    PE X (.Call (.Attribute o m apos) [] kws pos) (tMethK C m ks.length sp gV E ta tk) := by
  refine ⟨fun pins s σ H Q I h => ?_⟩
  refine PySem.W.methodCall_KW (pl := pl) (thn (he.run pins s σ H _ I h) fun u s1 ⟨x, H1, I1, rx, a, dx, fs, ex, ea, l, q⟩ => ?_) ht
  subst ex
  obtain rfl : u = Value.ref a := rx
  refine getmeth_ok I1 ea c hm l ?_
  refine PySem.W.callWith_KW0 (first := [.ref a]) (h₀ := X.base) I1.ok.mod.kin hm.kp hall ?_ hpl
  refine thn (hkw.run pos pins s1 σ H1 _ I1 q) fun ws s2 ⟨zs, H2, I2, rz, l2, q2⟩ => ⟨I2.kIn, ?_⟩
  rw [hks]
  exact run_fnN (us := [.ref a]) (vs := [.ref a]) F hr hb hx I2 (.cons rfl .nil) rz rfl l2 q2
end L2

namespace L2
open PySem PySem.Spec PyProof.Rows
/-- behind the suite of a clause with the name in slot i -/
def endA (i : Nat) (D : Ends) : Ends := { nx := fun σ' H' => D.nx (σ'.set i none) H', rt := D.rt, bk := fun σ' H' => D.bk (σ'.set i none) H', ct := fun σ' H' => D.ct (σ'.set i none) H' }
/-- what the clauses wish of an exception of the body, one after the other; a clause with a name tells its slot -/
def wManyA (K : PySem.W.Frag) (Wout : WX) (D : Ends) : List (Value × Option Nat × (Addr → Value → Option Addr → TS)) → WX
  | [] => Wout
  | (c, none, ts) :: r => fun cls d σ H => ∃ b, PySem.W.exmOne K cls c = some b ∧ (b = true → ∀ a, H a = none → ts a cls d D σ H) ∧ (b = false → wManyA K Wout D r cls d σ H)
  | (c, some i, ts) :: r => fun cls d σ H => ∃ b, PySem.W.exmOne K cls c = some b ∧ (b = true → ∀ a, H a = none → ts a cls d (endA i D) (σ.set i (some (.ref a))) H) ∧ (b = false → wManyA K Wout D r cls d σ H)
inductive HdsA (X : Cx) : List ExceptHandler → List (Value × Option Nat × (Addr → Value → Option Addr → TS)) → Prop
  | nil : HdsA X [] []
  | cons {x : Str} {c : Value} {ts : Addr → Value → Option Addr → TS} {b₀ : Stmt} {suite : List Stmt} {np pos' : Pos} {hds : List ExceptHandler} {l : List (Value × Option Nat × (Addr → Value → Option Addr → TS))} (hc : Names X x c)
      (hsu : ∀ (a : Addr) (oe : Obj) (cls : Value) (d : Option Addr) (pn : List (Addr × Obj)), Zc cls d oe → (∃ vs, oe.data = .fields vs) → PSs (X.suite a ((a, oe) :: pn)) (b₀ :: suite) (ts a cls d)) (r : HdsA X hds l) :
      HdsA X (.ExceptHandler (some (.Name x np)) none (b₀ :: suite) pos' :: hds) ((c, none, ts) :: l)
  | consAs {x n : Str} {i : Nat} {c : Value} {ts : Addr → Value → Option Addr → TS} {b₀ : Stmt} {suite : List Stmt} {np pos' : Pos} {hds : List ExceptHandler} {l : List (Value × Option Nat × (Addr → Value → Option Addr → TS))} (hi : X.N[i]? = some n) (hln : X.env.kindOf n = some .local) (hc : Names X x c)
      (hsu : ∀ (a : Addr) (oe : Obj) (cls : Value) (d : Option Addr) (pn : List (Addr × Obj)), Zc cls d oe → (∃ vs, oe.data = .fields vs) → PSs (X.suite a ((a, oe) :: pn)) (b₀ :: suite) (ts a cls d)) (r : HdsA X hds l) :
      HdsA X (.ExceptHandler (some (.Name x np)) (some n) (b₀ :: suite) pos' :: hds) ((c, some i, ts) :: l)
section
variable {X : Cx} {body : List Stmt} {h₀ : ExceptHandler} {hds : List ExceptHandler} {l : List (Value × Option Nat × (Addr → Value → Option Addr → TS))} {pos : Pos} {tb : WX → TS} {Wout : WX}
theorem ps_try_manyA (hs : X.stack = X.env :: X.outer) (hf : X.env.frame = some X.env.locals) (hN : X.N.Nodup) (tk : Takes X Wout)
    (hb : ∀ (W : WX) (pn : List (Addr × Obj)) (xe : Value → Shared → Prop), Takes (X.tr pn xe) W → PassesOwn (model X.prog X.w) X.A X.env xe → PSs (X.tr pn xe) body (tb W))
    (hh : HdsA X (h₀ :: hds) l) : PS X (.Try body (h₀ :: hds) [] [] pos) (fun D σ H => tb (wManyA X.K Wout D l) D σ H) := by
  refine ⟨fun pins s σ H D I h => ?_⟩
  have ok := I.ok
  have hfr : X.A.frames = some (X.env :: X.outer) := by rw [ok.frames, hs]
  refine wpAny_Try_except ?_
  refine wpAny_mono ((hb (wManyA X.K Wout D l) (X.pn ++ pins) (fun e s₁ => wpAny (model X.prog X.w) X.A (noteFrame e X.env) (fun _ s₂ => wpAny (model X.prog X.w) X.A (setFlight e none) (fun _ s₃ =>
    wpAny (model X.prog X.w) X.A (handleBy e X.env (h₀ :: hds)) (SP X pins D) X.xe s₃) X.xe s₂) X.xe s₁) (fun u s' xx => ?_) PassesOwn.looking).run [] s σ H D (I.toTry _) h) (fun f s1 hsp => ?_) (fun e s1 he => he)
  · -- the catch
    obtain ⟨a, B, sI, pins', σ', H', cls, d, rfl, J', nb, up, sky, na, os, ag, w⟩ := xx
    have J : Inv X pins σ' H' sI := J'.ofTry ok
    have sky' : Sky B (X.env :: X.outer) a (Zc cls d) X.env.locals s'.heap := by rw [← hs]; exact sky
    show wpAny (model X.prog X.w) X.A (noteFrame (.ref a) X.env) _ _ _
    refine Sky.land Zc.steady hfr hf sky' fun h3 fl3 up3 => ?_
    have J3 : Inv X pins σ' H' { s' with heap := h3 } := J.landed nb fl3.1 (up.trans up3) os ag
    obtain ⟨oe3, vs3, he3, hz3, hd3⟩ := fl3.there
    have notFr : ∀ {h : Heap} {o : Obj} {vs : Array Value}, h.FunFrames B (X.env :: X.outer) → h.get? a = some o → o.data = .fields vs → a ∉ frs (X.env :: X.outer) := fun {h o vs} ff e dd hm => by
      obtain ⟨_, o', e', hnf⟩ := ff.mem hm
      rw [e] at e'; cases e'
      exact hnf _ dd
    have nfr := notFr fl3.2.2.1 he3 hd3
    have nL : a ≠ X.env.locals := fun z => nfr (List.mem_filterMap.mpr ⟨X.env, List.mem_cons_self, by rw [hf, z]⟩)
    have nF : a ∉ X.fs := fun hm => by
      obtain ⟨e, he, q⟩ := List.mem_filterMap.mp hm
      exact nfr (List.mem_filterMap.mpr ⟨e, List.mem_cons_of_mem _ he, q⟩)
    have S3 := J3.suite he3 hd3 na nL nF
    have LT : PySem.W.Looks (model X.prog X.w) h3 (typeOf (.ref a)) cls := fun A Q E s k q => wpAny_typeOf_ref (k _ _ he3) (by rw [hz3.1]; exact q)
    have test : ∀ {x : Str} {np : Pos} {c : Value}, Names X x c → ∀ {Q : Value → Shared → Prop} {E : Value → Shared → Prop}, Q c { s' with heap := h3 } → wpAny (model X.prog X.w) (X.A.mark (some (.ref a))) (eval (.Name x np) X.env) Q E { s' with heap := h3 } := fun {x np c} hc {Q E} q => by
      obtain ⟨hg, hdbg, hm | ⟨hm, hv, hnn⟩⟩ := hc
      · exact ld_glob (X := X.suite a ((a, oe3) :: (X.pn ++ pins))) S3 hg hm q hdbg
      · exact ld_blt (X := X.suite a ((a, oe3) :: (X.pn ++ pins))) S3 hg hm hv q hnn hdbg
    have go : ∀ {hds' : List ExceptHandler} {l' : List (Value × Option Nat × (Addr → Value → Option Addr → TS))}, HdsA X hds' l' → wManyA X.K Wout D l' cls d σ' H' →
        wpAny (model X.prog X.w) X.A (handleBy (.ref a) X.env hds') (SP X pins D) X.xe { s' with heap := h3 } := by
      intro hds' l' hk
      induction hk with
      | nil =>
        intro w
        refine wpAny_handleBy_nil ?_
        obtain ⟨k1, k2, k3, oe, vs, T, oT, ts', he, hz, hd, h1, hr⟩ := id fl3
        unfold PySem.passOn
        refine wpAny_bind (wpAny_field he hd h1 ?_)
        rw [if_neg (show ¬ ((Value.ref T == Value.none) = true) from by simp)]
        have fin : wpAny (model X.prog X.w) X.A (setFlight (.ref a) X.env.frame) (fun _ s4 => wpAny (model X.prog X.w) X.A (throw (.ref a) : Sem Flow) (SP X pins D) X.xe s4) X.xe { s' with heap := h3 } := by
          rw [hf]
          refine HandSPX.setFlight_upZ fl3 fun h4 hh4 up4 => wpAny_throw (tk _ _ ?_)
          exact ⟨a, B, sI, pins, σ', H', cls, d, rfl, J, nb, (up.trans up3).trans up4, .inr (.inr (by rw [hs]; exact hh4)), na, os, ag, w⟩
        first
          | exact wpAny_bind (wpAny_pure (wpAny_bind fin))
          | exact wpAny_bind fin
      | @cons x c ts b₀ suite np pos' hds2 l2 hc hsu r ih =>
        intro w
        obtain ⟨b, hb1, hyes, hno⟩ := w
        have LM := PySem.W.exm_one (M := model X.prog X.w) (J3.kIn) LT hb1
        refine wpAny_handleBy_cons (codeAny_handlers_test ?_) (by intro q; cases q)
        refine test hc (LM.here ?_)
        cases b with
        | true =>
          refine codeAny_handlers_suite ?_
          refine HandSPX.lands_againZ fl3 fun h4 fl4 up4 => ?_
          have J4 : Inv X pins σ' H' { s' with heap := h4 } := J.landed nb fl4.1 ((up.trans up3).trans up4) os ag
          obtain ⟨oe4, vs4, he4, hz4, hd4⟩ := fl4.there
          have S4 := J4.suite he4 hd4 na nL nF
          refine wpAny_mono ((hsu a oe4 cls d (X.pn ++ pins) hz4 ⟨_, hd4⟩).run [] _ _ H' _ S4 (hyes rfl a na)) (fun f s6 hsp => ?_) (fun _ _ z => False.elim z)
          cases f with
          | next =>
            obtain ⟨σ6, H6, S6, q6⟩ := hsp
            exact ⟨_, _, S6.unsuite ok, q6⟩
          | brk =>
            obtain ⟨σ6, H6, S6, q6⟩ := hsp
            exact ⟨_, _, S6.unsuite ok, q6⟩
          | cont =>
            obtain ⟨σ6, H6, S6, q6⟩ := hsp
            exact ⟨_, _, S6.unsuite ok, q6⟩
          | ret u =>
            obtain ⟨v6, σ6, H6, S6, r6, q6⟩ := hsp
            exact ⟨_, _, _, S6.unsuite ok, r6, q6⟩
        | false =>
          show wpAny _ X.A (handleBy (.ref a) X.env hds2) _ _ _
          exact ih (hno rfl)
      | @consAs x n i c ts b₀ suite np pos' hds2 l2 hi hln hc hsu r ih =>
        intro w
        obtain ⟨b, hb1, hyes, hno⟩ := w
        have LM := PySem.W.exm_one (M := model X.prog X.w) (J3.kIn) LT hb1
        refine wpAny_handleBy_cons (codeAny_handlers_test ?_) (by intro q; cases q)
        refine test hc (LM.here ?_)
        cases b with
        | true =>
          have hloc : Loc X.env.scope n := .inl hln
          refine codeAny_handlers_suite_as ?_
          refine HandSPX.lands_againZ fl3 fun h4 fl4 up4 => ?_
          have J4 : Inv X pins σ' H' { s' with heap := h4 } := J.landed nb fl4.1 ((up.trans up3).trans up4) os ag
          obtain ⟨oe4, vs4, he4, hz4, hd4⟩ := fl4.there
          have S4 := J4.suite he4 hd4 na nL nF
          refine store_ok (X := X.suite a ((a, oe4) :: (X.pn ++ pins))) (v := .ref a) S4 hN hi hloc rfl (fun s5 S5 => ?_) (.inr hln)
          refine wpAny_mono ((hsu a oe4 cls d (X.pn ++ pins) hz4 ⟨_, hd4⟩).run [] s5 _ H' _ S5 (hyes rfl a na)) (fun f s6 hsp => ?_) (fun _ _ z => False.elim z)
          have end_ : ∀ {σ6 : L2.St} {H6 : Hp} {Q : Shared → Prop}, Inv (X.suite a ((a, oe4) :: (X.pn ++ pins))) [] σ6 H6 s6 → (∀ s7, Inv X pins (σ6.set i none) H6 s7 → Q s7) →
              wpAny (model X.prog X.w) X.A (do bindName X.env n .none; unbindBehindTheSuite X.env n pos') (fun _ s7 => Q s7) X.xe s6 := fun {σ6 H6 Q} S6 hq => gone_ok (S6.unsuite ok) hN hi hln hq
          cases f with
          | next =>
            obtain ⟨σ6, H6, S6, q6⟩ := hsp
            exact end_ S6 fun s7 J7 => ⟨_, _, J7, q6⟩
          | brk =>
            obtain ⟨σ6, H6, S6, q6⟩ := hsp
            exact end_ S6 fun s7 J7 => ⟨_, _, J7, q6⟩
          | cont =>
            obtain ⟨σ6, H6, S6, q6⟩ := hsp
            exact end_ S6 fun s7 J7 => ⟨_, _, J7, q6⟩
          | ret u =>
            obtain ⟨v6, σ6, H6, S6, r6, q6⟩ := hsp
            exact end_ S6 fun s7 J7 => ⟨_, _, _, J7, r6, q6⟩
        | false =>
          show wpAny _ X.A (handleBy (.ref a) X.env hds2) _ _ _
          exact ih (hno rfl)
    exact go hh w
  · cases f with
    | next =>
      obtain ⟨σ', H', J', q⟩ := hsp
      exact wpAny_execs_nil ⟨σ', H', J'.ofTry ok, q⟩
    | brk =>
      obtain ⟨σ', H', J', q⟩ := hsp
      exact ⟨σ', H', J'.ofTry ok, q⟩
    | cont =>
      obtain ⟨σ', H', J', q⟩ := hsp
      exact ⟨σ', H', J'.ofTry ok, q⟩
    | ret u =>
      obtain ⟨v, σ', H', J', r, q⟩ := hsp
      exact ⟨v, σ', H', J'.ofTry ok, r, q⟩
end
end L2

/-! a lambda handed to a def that calls it; what it raises is wished for at that def's slots -/
namespace LamX
open PySem PySem.Spec PyProof.Rows L2
section
variable {X : Cx} {pins : List (Addr × Obj)} {σ : L2.St} {H HZ : Hp} {s s1 : Shared}
theorem act2 {CXg : CXT} {Eg : XK} {Ng : List Str} {qg : Str} {sg : Scope} {g f c' : Addr} {cdg pm ctv : Value} {params : Arguments} {body : Expr} {scope : Scope} {k i : Nat} {a : Str} {pn : List (Addr × Obj)} {xe : Value → Shared → Prop} {W : WX} {E : XK} {tb : TE} {p1 p2 : Pos} {σ0 : L2.St}
    (I : Inv X pins σ H s) (L : LamS X.env.scope scope) (hf : s.heap.get? f = some (PySem.W.kla_obj "<lambda>" (X.env.qual ++ "<lambda>") params body scope (cloFrom X.env.cells scope.names []) pm c' ctv)) (hfn : H f = none) (hfr : f ∉ frs X.stack)
    (hbind : bindArgs (PySem.W.kla_fn "<lambda>" (X.env.qual ++ "<lambda>") params body scope (cloFrom X.env.cells scope.names []) pm (.ref c') ctv) ⟨[], []⟩ = pure [])
    (tk : Takes ((cxOf CXg X.prog X.w X.K X.mg X.base Ng qg sg g cdg X.A X.stack s H Eg).tr pn xe) W) (hW : ∀ cls d H', E cls d H' → W cls d σ0 H') (hr : Room (k + 1) (X.A.deeper (envOfC qg sg s.heap.objs.size g cdg)))
    (hbody : ∀ (A : Around) (outer : List Env) (s : Shared) (H : Hp), Room k (A.deeper (lamEnv X scope s.heap.objs.size f c')) → PE (lamCx X A outer s H E scope f c') body tb)
    (hN : Ng[i]? = some a) (hv : Vis sg a) (hd : (a == ("__debug__" : Str)) = false := by decide) (hcd : (a == ("__classdict__" : Str)) = false := by decide) :
    PE ((cxOf CXg X.prog X.w X.K X.mg X.base Ng qg sg g cdg X.A X.stack s H Eg).tr pn xe) (.Call (.Name a p1) [] [] p2)
      (fun σZ HZ Q => σZ = σ0 ∧ σZ[i]? = some (some (.ref f)) ∧ HZ c' = some (CodeO c' (X.env.qual ++ "<lambda>")) ∧ tb σ HZ Q) := by
  refine ⟨fun pinsZ sZ σZ HZ Q IZ h => ?_⟩
  obtain ⟨e0, hs, hc, ht⟩ := h
  subst e0
  refine wpAny_Call_Name_kw (thn ((pe_var (pos := p1) (i := i) hN hv hd hcd).run pinsZ sZ σZ HZ (fun v H1 => v = .ref f ∧ H1 = HZ) IZ ⟨.ref f, hs, rfl, rfl⟩) fun u s1 ⟨v, H1, I1, r1, q1⟩ => ?_)
  obtain ⟨ev, eH⟩ := q1
  subst ev
  rw [eH] at I1
  obtain rfl : u = Value.ref f := r1
  have of1 : s1.heap.get? f = some (PySem.W.kla_obj "<lambda>" (X.env.qual ++ "<lambda>") params body scope (cloFrom X.env.cells scope.names []) pm c' ctv) := I1.base.keep f _ hf hfn hfr (fun z => nomatch (show f ∈ ([] : List Addr) from z))
  refine PySem.W.callWith_F0 ⟨_, _, _, _, of1⟩ ?_
  have un : Un (frs X.stack) [] H HZ s.heap s1.heap := I1.base
  obtain ⟨⟨oc, vs, t, hoc, hdc, hvc⟩, _, _⟩ := I1.hok c' _ hc
  have rc : codeAny (model X.prog X.w) (X.A.deeper (envOfC qg sg s.heap.objs.size g cdg)) (.call (.ref f) ⟨[], []⟩) (CR (L2.CX X.prog X.w) (envOfC qg sg s.heap.objs.size g cdg :: X.stack) X.prog X.w HZ s1 Q E) s1 := by
    refine PySem.W.kla_callFunE hr.depth of1 rfl L.co L.gen rfl ⟨c', oc, vs, t, rfl, hoc, hdc, hvc⟩ ?_
    rw [hbind]
    refine wpAny_pure (wpAny_newFunctionEnv (fun y hy => (L.own y hy).2) (fun y hy => absurd hy (by simp)) (fun h₁ hns hsb => ⟨I1.nolimit.fresh _ hsb, ?_⟩) L.kind)
    show codeAny _ _ (.expr body (lamEnv X scope s1.heap.objs.size f c')) _ _
    have kp : ∀ b o, s1.heap.get? b = some o → h₁.get? b = some o := fun b o e => hsb.extBut b o (Nat.ne_of_lt (Heap.lt_size e)) (Heap.get?_push_of_some _ e)
    have J : Inv (lamCx X (X.A.deeper (envOfC qg sg s.heap.objs.size g cdg)) (envOfC qg sg s.heap.objs.size g cdg :: X.stack) s1 HZ E scope f c') [] σ HZ { s1 with heap := h₁, toks := s1.toks + ([] : List (Str × Value)).length } :=
      lam_start2 I L I1.env0 hr.hd un hns kp
    refine PySem.W.kla_codeExpr (wpAny_mono ((hbody _ _ s1 HZ (hr.deeper _)).run [] _ _ HZ Q J ht) (fun v s' hq => ?_) fun e s' hq => hq)
    obtain ⟨w', H', J', rv, q⟩ := hq
    exact ⟨w', H', J'.os, J'.bare, J'.base, J'.hok, rv, q⟩
  refine wpAny_call (codeAny_mono rc fun r s' hq => ?_)
  cases r with
  | error e => exact tk e s' (XE.of_call I1 (fun cls d H' h => hW cls d H' h) hq)
  | ok fl =>
    cases fl with
    | ret u => exact I1.after hq
    | next => exact False.elim hq
    | brk => exact False.elim hq
    | cont => exact False.elim hq
end
/-- the def that calls what it got, a: TT tells what it makes of the lambda's reading -/
def Gives (X : Cx) (Ng : List Str) (x : Str) (sg : Scope) (g : Addr) (cdg : Value) (bg : List Stmt) (a : Str) (q : Str) (TT : (XK → Hp → VK → Prop) → Hp → VK → Prop) : Prop :=
  ∀ (f c' : Addr) (s : Shared) (H : Hp) (Q : VK) (tl : XK → Hp → VK → Prop),
    (∀ (W : WX) (pn : List (Addr × Obj)) (xe : Value → Shared → Prop) (E : XK) (p1 p2 : Pos) (σ0 : L2.St), Takes ((cxOf C8.CX0 X.prog X.w X.K X.mg X.base Ng x sg g cdg X.A X.stack s H C8.E0).tr pn xe) W → (∀ cls d H', E cls d H' → W cls d σ0 H') →
      PE ((cxOf C8.CX0 X.prog X.w X.K X.mg X.base Ng x sg g cdg X.A X.stack s H C8.E0).tr pn xe) (.Call (.Name a p1) [] [] p2) (fun σZ HZ Q => σZ = σ0 ∧ σZ[0]? = some (some (.ref f)) ∧ HZ c' = some (CodeO c' q) ∧ tl E HZ Q)) →
    H c' = some (CodeO c' q) → TT tl H Q →
    ∃ t, PSs (cxOf C8.CX0 X.prog X.w X.K X.mg X.base Ng x sg g cdg X.A X.stack s H C8.E0).nox bg t ∧ t { nx := fun _ H' => Q .non H', rt := Q } (L2.start Ng [.ref f]) H
section
variable {X : Cx}
/-- x(lambda: body) -/
theorem pe_lam {T : List (Addr × Str)} {TT : (XK → Hp → VK → Prop) → Hp → VK → Prop} {x a : Str} {g c P : Addr} {k : Nat} {pg : Arguments} {bg : List Stmt} {sg : Scope} {dV kV doc pm cdv ct oc : Value} {an od : Option Addr} {osl : Array (Option Value)} {Ng : List Str}
    {params : Arguments} {body : Expr} {scope : Scope} {t : XK → TE} {p lpos pos : Pos} (hg : Gl X x) (hm : X.mg x = some (.ref g)) (hk : PySem.W.keepIn X.K (.ref g) = true)
    (lk : X.K.lookup g = some ⟨oc, od, .func (PySem.W.fnOf x x pg bg sg dV kV doc pm an cdv ct), osl⟩) (hcg : PySem.W.codeIn X.K cdv x = true) (hb : L2.Binds X.K (PySem.W.fnOf x x pg bg sg dV kV doc pm an cdv ct) [a] []) (Sg : FnScope Ng [a] sg) (hNg : Ng[0]? = some a) (hva : Vis sg a)
    (hG : Gives X Ng x sg g cdv bg a (X.env.qual ++ "<lambda>") TT)
    (TB : TabB X.base X.mg c P) (hcode : X.env.code = .ref c) (hmT : (P, X.env.qual ++ "<lambda>") ∈ T) (hu : ∀ p ∈ T, p.1 = P → p.2 = X.env.qual ++ "<lambda>") (hr : Room (k + 2) X.A) (L : LamS X.env.scope scope) (hdef : defaultsOf params X.env = ([], []))
    (hbind : ∀ (q : Str) (cl : List (Str × Addr)) (pm cv ctv : Value), bindArgs (PySem.W.kla_fn "<lambda>" q params body scope cl pm cv ctv) ⟨[], []⟩ = pure [])
    (hbody : ∀ (A : Around) (outer : List Env) (s : Shared) (H : Hp) (E : XK) (f c' : Addr), Room k (A.deeper (lamEnv X scope s.heap.objs.size f c')) → PE (lamCx X A outer s H E scope f c') body (t E))
    (hdb : (x == ("__debug__" : Str)) = false := by decide) (hd : (a == ("__debug__" : Str)) = false := by decide) (hcd : (a == ("__classdict__" : Str)) = false := by decide) :
    PE X (.Call (.Name x p) [.Lambda params body scope lpos] [] pos) (tLam T TT t) := by
  refine ⟨fun pins s σ H Q I h => ?_⟩
  obtain ⟨hT, h⟩ := h
  refine wpAny_Call_Name_kw (ld_glob I hg hm ?_ hdb)
  refine PySem.W.callWith_K (h₀ := X.base) I.ok.mod.kin hk ?_ (by rfl) (by rfl)
  show wpAny _ _ (spliced ((false, eval (.Lambda params body scope lpos) X.env) :: backTo pos (starEach [] X.env))) _ _ s
  refine Calls.spliced_cons (lam_make2 I TB hcode hmT hu hT hdef (L.has I.ok) fun f c' pm' ctv H1 s' I1 eN T1 hf hfn hfr hco => ?_)
  refine Calls.spliced_nil ⟨I1.kIn, ?_⟩
  have rc : codeAny (model X.prog X.w) X.A (.call (.ref g) ⟨[.ref f], []⟩) (CR C8.CX0 X.stack X.prog X.w H1 s' Q C8.E0) s' := by
    refine run_ofS (N := Ng) (ps := [a]) (us := [.ref f]) (vs := [.ref f]) lk hcg Sg hr I1.env0 (hb s' [.ref f] I1.kIn rfl) (.cons rfl .nil) rfl fun hr' => ?_
    obtain ⟨t', ht', hq'⟩ := hG f c' s' H1 Q (fun E H' Q' => t E σ H' Q') (fun W pn xe E p1 p2 σ0 tk hW => act2 (i := 0) I1 L hf hfn hfr (hbind _ _ _ _ _) tk hW hr' (fun A outer s H hr2 => hbody A outer s H E f c' hr2) hNg hva hd hcd) hco (h H1 eN T1)
    exact ⟨t', ht'.nox, hq'⟩
  refine wpAny_call (codeAny_mono rc fun r s2 hq => ?_)
  cases r with
  | error e => exact (show False from hq).elim
  | ok fl =>
    cases fl with
    | ret u => exact I1.after hq
    | next => exact False.elim hq
    | brk => exact False.elim hq
    | cont => exact False.elim hq
end
end LamX

namespace L2
open PySem PySem.Spec PyProof.Rows
section
variable {P : Program} {w : World} {K : PySem.W.Frag} {mg : Str → Option Value} {base : Heap}
/-- the code object of the def at f; its table -/
def cdA (K : PySem.W.Frag) (f : Addr) : Addr := match K.lookup f with
  | some ⟨_, _, .func fd, _⟩ => (match fd.code with
    | .ref c => c
    | _ => 0)
  | _ => 0
def tbA (K : PySem.W.Frag) (f : Addr) : Addr := He.tabOf K (cdA K f)
/-- as Fun.ok, the code object told -/
theorem Fun.okC {x qual : Str} {st : Stmt} {f : Addr} {fd : FuncData} {N ps : List Str} {k : Nat} {sp : Sp} (F : Fun K x qual st f fd) (S : FnScope N ps (defScope st)) (len : ∀ vs H Q E, sp vs H Q E → vs.length = ps.length)
    (hbody : ∀ (A : Around) (outer : List Env) (s : Shared) (H : Hp) (vs : List V) (Q : VK) (E : XK), Room k (A.deeper (envOfC qual (defScope st) s.heap.objs.size f (.ref (cdA K f)))) → sp vs H Q E →
      ∃ t, PSs (cxOf CX0 P w K mg base N qual (defScope st) f (.ref (cdA K f)) A outer s H E).nox (defBody st) t ∧ t { nx := fun _ H' => Q .non H', rt := Q } (start N vs) H) : FnOk P w K mg base CX0 (k + 1) f fd ps sp := by
  obtain ⟨oc, od, kV, doc, pm, an, cdv, ct, osl, rfl, lk, hcd⟩ := F.ex
  obtain ⟨c, rfl⟩ := He.codeIn_ref hcd
  have e : cdA K f = c := by
    unfold cdA
    rw [lk]
  refine fn_of lk hcd S len fun A outer s H vs Q E hr hsp => ?_
  rw [e] at hbody
  obtain ⟨t, h, q⟩ := hbody A outer s H vs Q E hr hsp
  exact ⟨t, h.nox, q⟩
end
end L2
set_option Elab.async false
set_option linter.all false
set_option maxRecDepth 100000
set_option maxHeartbeats 4000000
/-! general: isinstance of a caught error, an own class beside other kinds, repr -/
namespace PySem.W
open PySem PyProof.Rows PySem.SeqAt
/-- t == x, t a tuple, x of an own class: x's own __eq__ is asked -/
theorem eqT_K {K : Frag} {h₀ : Heap} {L : Addr} {s : Shared} {m : Str → Option Value} {x t C f : Addr} {ox : Obj} {od : Option Obj} {A : Around} {E : Value → Shared → Prop} {prog : Program} {w : World} {Q : Value → Shared → Prop} (hu : A.units < cLine) (F : Fr h₀ L s.heap m) (X₀ : K.In h₀) (I : InstAt s.heap x ox C od) (ht : s.TypeIs (.ref t) "tuple")
    (hsub : subIn K (.ref C) (.type "tuple") = some false) (hs : findIn K (.ref C) (cmpInfo .Eq).2.2 = some (some (.ref f))) (hf : isFn K (.ref f) = true)
    (h : wpAny (model prog w) A (call (.ref f) [.ref x, .ref t]) (CmpBack Q) E s) : wpAny (model prog w) A (richCompare .Eq (.ref t) (.ref x)) Q E s := by
  have X := X₀.keeps F.keep
  have hi : Looks (model prog w) s.heap (isInstance (.ref x) (.type "tuple")) false := I.type.andThen (looks_subIn X hsub)
  have dec : ∀ Q' : Value → Shared → Prop, Q' .notImplemented s → wpAny (model prog w) A (call (.builtin "tuple.__eq__") [.ref t, .ref x]) Q' E s := fun Q' hq => by
    refine call_meetsIn (S := fun A R s' => Looks (model prog w) s'.heap (isInstance (.ref x) (.type "tuple")) false ∧ R (.ok (.ret .notImplemented)) s') PySem.F.slot_tuple_eq ht PySem.F.entry_tuple_eq (PySem.F.args_tuple_eq_2 _ _) (.of_wp fun A R s hh => ?_) ⟨hi, hq⟩
    obtain ⟨h1, h2⟩ := hh
    wp_walk using h1.here
    exact ⟨_, rfl, h2⟩
  unfold richCompare
  simp only [oneThing_ref]
  refine wpAny_holding (wpAny_bind (wpAny_cRoomFor hu ?_))
  rcases hi : cmpInfo CmpOp.Eq with ⟨sym, g, r⟩
  rw [hi] at hs
  have h1 : Slot "tuple" (cmpInfo .Eq).2.1 "tuple.__eq__" := PySem.F.slot_tuple_eq
  rw [hi] at h1
  dsimp only at hs h1 ⊢
  refine wpAny_bind (wpAny_typeOf ht (wpAny_bind (I.type.here ?_)))
  rw [show (Value.type "tuple" != Value.ref C) = true from by simp]
  simp only [if_true]
  refine wpAny_bind ((looks_subIn X hsub).here ?_)
  simp only [Bool.false_eq_true, if_false, Bool.not_false, if_true]
  refine wpAny_bind (m := tryCompare (.ref t) _ (.ref x)) (wpAny_tryCompare_declines ht h1 (dec _ ⟨rfl, ?_⟩))
  refine wpAny_bind (m := tryCompare (.ref x) _ (.ref t)) ?_
  unfold tryCompare
  refine wpAny_bind (ifBound_K X I hs hf (wpAny_mono h (fun v s' hv => ?_) fun _ _ e => e))
  cases v <;> first | exact hv.elim | exact wpAny_pure (wpAny_pure hv)
end PySem.W
set_option Elab.async false
set_option linter.all false
set_option maxRecDepth 100000
set_option maxHeartbeats 4000000
/-! general: repr of None, bools, ints, texts, lists -/
namespace PySem
open PySem PyProof.Rows PySem.SeqAt
section
variable {prog : Program} {w : World} {A : Around} {E : Value → Shared → Prop} {s : Shared}
theorem repr_of_list {a : Addr} {xs : List PyData} {as : List Addr} {Q : Value → Shared → Prop} (r : Reads s.heap (.ref a) (.list xs) as) (hne : xs ≠ []) (hs : PyData.showable (.list xs) = true) (hd : PyData.hasDict (.list xs) = false) (hz : (PyData.shown (.list xs)).length ≤ sizeLine) (hg : A.guards = some []) (hu : A.units + PyData.depth (.list xs) + 2 < cLine)
    (hQ : ∀ h' u tk, (∀ b o, s.heap.get? b = some o → h'.get? b = some o) → Q (.str (PyData.shown (.list xs)) u) { s with heap := h', toks := tk }) : wpAny (model prog w) A (call (.builtin "repr") [.ref a]) Q E s := by
  cases r with
  | @list _ o vs na _ as0 h1 h2 h3 h4 =>
    have hz' : (listText (PyData.shownAll xs)).length ≤ sizeLine := by simpa only [PyData.shown] using hz
    obtain ⟨bs, hb, hk⟩ := ReprAllK.of_readsAll (prog := prog) (w := w) h4 (by simpa [PyData.showable] using hs) (fun hx hm => by rw [show PyData.hasDict (.list xs) = PyData.hasDictAll xs from by simp [PyData.hasDict]] at hd; rw [hd] at hx; cases hx) (fun t ht => Nat.le_trans (listText_mem_le ht) hz')
    have r : Reads s.heap (.ref a) (.list xs) _ := .list h1 h2 h3 h4
    have hna : a ∉ bs := not_mem_of_deeper r (by simp only [PyData.depth]; omega) hb
    simp only [PyData.depth] at hu
    simp only [PyData.shown] at hQ
    obtain ⟨l⟩ := vs
    cases l with
    | nil =>
      have h4' : ReadsAll s.heap [] xs _ := h4
      cases h4'
      exact absurd rfl hne
    | cons x l =>
      have hTy : s.TypeIs (.ref a) "list" := ⟨_, h1, h2⟩
      refine Calls.call_function_entry F.kind_repr F.plain_repr F.entry_repr (F.args_repr1 _) ?_
      unfold Builtin.«repr»
      refine wpAny_bind (m := oneArg "repr" _) (wpAny_pure ?_)
      refine wpAny_bind (wpAny_cRoomFor (by show A.units + 1 < cLine; omega) ?_)
      refine wpAny_bind (wpAny_specialOf (name := Str.ofString "__repr__") hTy F.slot_list_repr.lookup ?_)
      refine wpAny_bind (m := callSpecialIfBound? (.ref a) (Str.ofString "__repr__")) (wpAny_callSpecialIfBound?_slot (name := Str.ofString "__repr__") hTy F.slot_list_repr
        (call_list_reprK h1 h2 h3 hna (by simpa using hk.length_eq) (fun i y e => hk.item i y (by simpa using e)) (A := A.in1) (g := []) hg (fun b _ => Clear.nil b) (by show A.units + 1 + (_ + 1) < cLine; omega) (fun _ _ e => e) (fun h' u tk hk' => ?_) hz'))
      refine wpAny_bind (wpAny_isInstance (T := "str") (b := true) rfl isSubtype_str_str ?_)
      exact wpAny_pure ⟨_, rfl, hQ h' u tk hk'⟩
end
end PySem
namespace L2
open PySem PySem.Spec PyProof.Rows PySem.GW
section
variable {X : Cx}
/-- repr(x) of data: not a tuple, not an empty list -/
def rRepr (K : PySem.W.Frag) : List V → Hp → VK → Prop := fun xs H Q => ∃ x d, xs = [x] ∧ Dp K H x d ∧ PyData.showable d = true ∧ PyData.hasDict d = false ∧ d ≠ .list [] ∧ (∀ ds, d ≠ .tuple ds) ∧ PyData.depth d ≤ 60 ∧ (PyData.shown d).length ≤ sizeLine ∧ Q (.str (PyData.shown d)) H
theorem call_repr (hg : X.A.guards = some []) (hu : X.A.units + 70 < cLine) : CallR X (.builtin "repr") (rRepr X.K) := by
  intro pins s σ H xs us Q I r h
  obtain ⟨x, d, rfl, hd, hs, hD, hn, ht, hp, hz, q⟩ := h
  obtain ⟨u, rfl, ru⟩ := vals1 r
  cases hd with
  | non =>
    cases (show u = Value.none from ru)
    exact PySem.P.repr_of_none ⟨.str _, H, I.tok _, ⟨_, rfl⟩, by simpa only [PyData.shown] using q⟩
  | bl b =>
    cases (show u = Value.bool b from ru)
    exact PySem.P.repr_of_bool ⟨.str _, H, I.tok _, ⟨_, rfl⟩, by simpa only [PyData.shown] using q⟩
  | int i =>
    obtain ⟨t, rfl⟩ := (show ∃ t, u = Value.int i t from ru)
    exact PySem.P.repr_of_int (by simpa [PyData.showable] using hs) ⟨.str _, H, I.tok _, ⟨_, rfl⟩, by simpa only [PyData.shown] using q⟩
  | str y =>
    obtain ⟨t, rfl⟩ := (show ∃ t, u = Value.str y t from ru)
    exact PySem.P.repr_of_str ⟨.str _, H, I.tok _, ⟨_, rfl⟩, by simpa only [PyData.shown] using q⟩ (by simpa only [PyData.shown] using hz)
  | @lst a xs ds h1 h2 =>
    cases (show u = Value.ref a from ru)
    obtain ⟨as, rd⟩ := Dp.reads I (.list ds) (.ref a) (.ref a) (.lst h1 h2) rfl
    exact repr_of_list rd (fun e => hn (by rw [e])) hs hD hz hg (by omega) fun h' u tk hk => ⟨.str _, H, I.kept hk, ⟨_, rfl⟩, q⟩
  | @tup a xs ds h1 h2 => exact absurd rfl (ht ds)
end
end L2
set_option Elab.async false
set_option linter.all false
set_option maxRecDepth 100000
set_option maxHeartbeats 4000000
/-! general: an own class beside other kinds, isinstance of a caught error, defs called where no repr is under way -/
namespace PySem.W
open PySem PyProof.Rows
/-- x + b, x of an own class, b of a built-in class T that fills no number slot for it -/
theorem binop_KX {K : Frag} {h₀ : Heap} {L : Addr} {s : Shared} {m : Str → Option Value} {x C f : Addr} {ox : Obj} {od : Option Obj} {A : Around} {E : Value → Shared → Prop} {prog : Program} {w : World} {b : Value} {T : String} {Q : Value → Shared → Prop} (F : Fr h₀ L s.heap m) (X₀ : K.In h₀) (I : InstAt s.heap x ox C od) (hb : Looks (model prog w) s.heap (typeOf b) (.type T)) (hT : fillsNumberSlot (.type T) "add" = pure false) (hc : selfFirst K C = true)
    (hs : findIn K (.ref C) (PySem.dunder Operator.Add.info.2) = some (some (.ref f))) (hf : isFn K (.ref f) = true)
    (h : wpAny (model prog w) A (call (.ref f) [.ref x, b]) (CmpBack Q) E s) : wpAny (model prog w) A (binaryOp .Add (.ref x) b) Q E s := by
  have X := X₀.keeps F.keep
  obtain ⟨cd, hcd, hm⟩ := any_some hc
  obtain ⟨rest, hm⟩ : ∃ rest, cd.mro = .ref C :: rest := by
    cases q : cd.mro with
    | nil => rw [q] at hm; cases hm
    | cons a r => rw [q] at hm; exact ⟨r, by rw [List.head?_cons] at hm; cases (beq_iff_eq.mp hm); rfl⟩
  unfold binaryOp
  refine wpAny_holding (wpAny_bind ?_)
  unfold binaryOp1
  refine wpAny_bind (I.type.here (wpAny_bind (hb.here (wpAny_bind ((fills_K X hcd hm hs).here ?_)))))
  refine wpAny_bind (m := if (Value.ref C == Value.type T) = true then pure false else fillsNumberSlot (.type T) "add") ?_
  rw [if_neg (show ¬ ((Value.ref C == Value.type T) = true) from fun e => by simp at e), hT]
  refine wpAny_pure ?_
  simp only [Bool.and_false, Bool.false_eq_true, if_false, Bool.false_and]
  refine wpAny_bind (wpAny_pure ?_)
  simp only [Bool.false_eq_true, if_false]
  refine wpAny_bind (m := tryMethod (.ref x) _ b) ?_
  unfold tryMethod
  refine wpAny_bind (special_fn X I hs (beq_iff_eq.mp hf) (wpAny_mono h (fun v s' hv => ?_) fun _ _ e => e))
  cases v <;> first | exact hv.elim | exact wpAny_pure (wpAny_pure (wpAny_pure hv))
end PySem.W
namespace L2
open PySem PySem.Spec PyProof.Rows PySem.GW
section
variable {X : Cx}
/-- x op y, x of the own class at C, y of a built-in class T -/
def rOwnB (K : PySem.W.Frag) (C : Addr) (T : String) (sp : Sp) : R2 := fun x y H Q => ∃ a dx fs, x = .ref a ∧ H a = some (.ins C dx fs) ∧ TyX K H y (.type T) ∧ sp [x, y] H Q E0
theorem bop_ownB {C g : Addr} {fd : FuncData} {ps : List Str} {n : Nat} {sp : Sp} {T : String} (hT : fillsNumberSlot (.type T) "add" = pure false) (hc : PySem.W.selfFirst X.K C = true) (hs : PySem.W.findIn X.K (.ref C) (PySem.dunder Operator.Add.info.2) = some (some (.ref g))) (hf : PySem.W.isFn X.K (.ref g) = true)
    (F : FnOk X.prog X.w X.K X.mg X.base CX0 n g fd ps sp) (hb : Binds X.K fd ps []) (hr : Room n X.A) : OpR X (binaryOp .Add) (rOwnB X.K C T sp) := by
  intro pins s σ H x y v u Q I rx ry h
  obtain ⟨a, dx, fs, rfl, ha, ty, q⟩ := h
  cases (show v = Value.ref a from rx)
  obtain ⟨mA, O, _⟩ := ins_get I.hok ha
  obtain ⟨od, J, _⟩ := O.look
  obtain ⟨P, Z, p, _⟩ := kit_of I ry ty
  obtain ⟨m, hF⟩ := I.fr
  refine PySem.W.binop_KX hF I.ok.mod.kin J (Z.ty _ _ I.kIn p) hT hc hs hf ?_
  refine wpAny_mono (run_fn (us := [.ref a, u]) (vs := [.ref a, y]) (dvs := []) (ds := []) F hr hb .nil pass0 I (.cons rfl (.cons ry .nil)) q) (fun w s' z => ?_) fun _ _ x => x
  obtain ⟨z', H', I', rz, qz⟩ := z
  exact SlX.cmpback rz ⟨z', H', I', rz, qz⟩
theorem op_ownB {C g : Addr} {fd : FuncData} {ps : List Str} {n : Nat} {sp : Sp} {T : String} {op : CmpOp} (hop : ∀ a b, compareOp op a b = richCompare op a b) (hn : PySem.W.subIn X.K (.type T) (.ref C) = some false) (hs : PySem.W.findIn X.K (.ref C) (cmpInfo op).2.1 = some (some (.ref g))) (hf : PySem.W.isFn X.K (.ref g) = true)
    (F : FnOk X.prog X.w X.K X.mg X.base CX0 n g fd ps sp) (hb : Binds X.K fd ps []) (hr : Room n X.A) : OpR X (compareOp op) (rOwnB X.K C T sp) := by
  intro pins s σ H x y v u Q I rx ry h
  obtain ⟨a, dx, fs, rfl, ha, ty, q⟩ := h
  cases (show v = Value.ref a from rx)
  obtain ⟨mA, O, _⟩ := ins_get I.hok ha
  obtain ⟨od, J, _⟩ := O.look
  obtain ⟨P, Z, p, _⟩ := kit_of I ry ty
  obtain ⟨m, hF⟩ := I.fr
  rw [hop]
  refine PySem.W.cmp_K (op := op) (tb := .type T) hr.units0 hF I.ok.mod.kin J (Z.ty _ _ I.kIn p) (by unfold PySem.W.notFirst; rw [hn]; simp) hs hf ?_
  refine wpAny_mono (run_fn (us := [.ref a, u]) (vs := [.ref a, y]) (dvs := []) (ds := []) F hr hb .nil pass0 I (.cons rfl (.cons ry .nil)) q) (fun w s' z => ?_) fun _ _ x => x
  obtain ⟨z', H', I', rz, qz⟩ := z
  exact SlX.cmpback rz ⟨z', H', I', rz, qz⟩
/-- t == x, t a tuple, x of the own class at C -/
def rTupOwn (K : PySem.W.Frag) (C : Addr) (sp : Sp) : R2 := fun x y H Q => ∃ t ys a dx fs, x = .ref t ∧ y = .ref a ∧ SqT K H t ys ∧ H a = some (.ins C dx fs) ∧ sp [y, x] H Q E0
theorem op_tupOwn {C g : Addr} {fd : FuncData} {ps : List Str} {n : Nat} {sp : Sp} (hsub : PySem.W.subIn X.K (.ref C) (.type "tuple") = some false) (hs : PySem.W.findIn X.K (.ref C) (cmpInfo .Eq).2.2 = some (some (.ref g))) (hf : PySem.W.isFn X.K (.ref g) = true)
    (F : FnOk X.prog X.w X.K X.mg X.base CX0 n g fd ps sp) (hb : Binds X.K fd ps []) (hr : Room n X.A) : OpR X (compareOp .Eq) (rTupOwn X.K C sp) := by
  intro pins s σ H x y v u Q I rx ry h
  obtain ⟨t, ys, a, dx, fs, rfl, rfl, ht, ha, q⟩ := h
  cases (show v = Value.ref t from rx)
  cases (show u = Value.ref a from ry)
  obtain ⟨mA, O, _⟩ := ins_get I.hok ha
  obtain ⟨od, J, _⟩ := O.look
  obtain ⟨its, o, n', _, hg, hcl, _⟩ := L2.sqT_at I.hok I.kIn ht
  obtain ⟨m, hF⟩ := I.fr
  show wpAny (model X.prog X.w) X.A (richCompare .Eq (.ref t) (.ref a)) _ _ s
  refine PySem.W.eqT_K hr.units0 hF I.ok.mod.kin J ⟨o, hg, hcl⟩ hsub hs hf ?_
  refine wpAny_mono (run_fn (us := [.ref a, .ref t]) (vs := [.ref a, .ref t]) (dvs := []) (ds := []) F hr hb .nil pass0 I (.cons rfl (.cons rfl .nil)) q) (fun w s' z => ?_) fun _ _ x => x
  obtain ⟨z', H', I', rz, qz⟩ := z
  exact SlX.cmpback rz ⟨z', H', I', rz, qz⟩
/-- isinstance(e, c) in the suite of a caught error of the own class at C -/
def rIsS (K : PySem.W.Frag) (a C : Addr) (cls : Value) (d : Option Addr) : List V → Hp → VK → Prop := fun xs H Q => cls = .ref C ∧ (∀ dd, d = some dd → ∃ fs, H dd = some (.xd fs)) ∧ ∃ (c : V) (cv : Value) (b : Bool), xs = [.ref a, c] ∧ ClsV c cv ∧ PySem.W.kitOne K (.ref C) cv = some b ∧ Q (.bl b) H
theorem call_isS {a C : Addr} {oe : Obj} {cls : Value} {d : Option Addr} {pn : List (Addr × Obj)} (Z : ExcC X.K C) (hz : Zc cls d oe) (hf : ∃ vs, oe.data = .fields vs) : CallR (X.suite a ((a, oe) :: pn)) (.builtin "isinstance") (rIsS X.K a C cls d) := by
  intro pins s σ H xs us Q I r h
  obtain ⟨rfl, hd, c, cv, b, rfl, k, e, q⟩ := h
  obtain ⟨u1, u2, rfl, r1, r2⟩ := vals2 r
  have e2 := k.eq r2
  subst e2
  cases (show u1 = Value.ref a from r1)
  obtain ⟨hget, _⟩ := I.pin (a, oe) (List.mem_append.mpr (.inl List.mem_cons_self))
  obtain ⟨vs, hv⟩ := hf
  have nc : PySem.W.notCls oe = true := by unfold PySem.W.notCls; rw [hv]
  have J : ∃ ox od, PySem.W.InstAt s.heap a ox C od := by
    cases d with
    | none => exact ⟨oe, none, hget, hz.1, nc, by rw [hz.2]; trivial⟩
    | some dd =>
      obtain ⟨fs, hx⟩ := hd dd rfl
      obtain ⟨mA, hns, _⟩ := (show ObjOk X.prog X.w H s.heap dd (.xd fs) from I.hok dd _ hx)
      obtain ⟨od, ho, _⟩ := lookIn_ns hns
      exact ⟨oe, some od, hget, hz.1, nc, by rw [hz.2]; exact ho⟩
  exact PySem.W.kia_one (kit_err Z) I.kIn J e (fun z => nomatch z) fun tk => ⟨.bl b, H, I.tok tk, rfl, q⟩
end
/-! ### defs called where no repr is under way -/
/-- as FnOk, called only where no repr is under way -/
structure FnOkG (P : Program) (w : World) (K : PySem.W.Frag) (mg : Str → Option Value) (base : Heap) (CX : CXT) (k : Nat) (f : Addr) (fd : FuncData) (ps : List Str) (sp : Sp) : Prop where
  len : ∀ vs H Q E, sp vs H Q E → vs.length = ps.length
  run : ∀ (A : Around) (outer : List Env) (s : Shared) (H : Hp) (args : Args) (us : List Value) (vs : List V) (Q : VK) (E : XK), A.guards = some [] → Room k A → Env0 P w K mg base A outer s H → BindsTo s fd args (ps.zip us) → Vals vs us → sp vs H Q E →
    codeAny (model P w) A (.call (.ref f) args) (CR CX outer P w H s Q E) s
section
variable {P : Program} {w : World} {K : PySem.W.Frag} {mg : Str → Option Value} {base : Heap}
theorem Fun.okG {x qual : Str} {st : Stmt} {f : Addr} {fd : FuncData} {N ps : List Str} {k : Nat} {sp : Sp} (F : Fun K x qual st f fd) (S : FnScope N ps (defScope st)) (len : ∀ vs H Q E, sp vs H Q E → vs.length = ps.length)
    (hbody : ∀ (A : Around) (outer : List Env) (s : Shared) (H : Hp) (vs : List V) (Q : VK) (E : XK), A.guards = some [] → Room k (A.deeper (envOfC qual (defScope st) s.heap.objs.size f (.ref (cdA K f)))) → sp vs H Q E →
      ∃ t, PSs (cxOf CX0 P w K mg base N qual (defScope st) f (.ref (cdA K f)) A outer s H E).nox (defBody st) t ∧ t { nx := fun _ H' => Q .non H', rt := Q } (start N vs) H) : FnOkG P w K mg base CX0 (k + 1) f fd ps sp := by
  obtain ⟨oc, od, kV, doc, pm, an, cdv, ct, osl, rfl, lk, hcd⟩ := F.ex
  obtain ⟨c, rfl⟩ := He.codeIn_ref hcd
  have e : cdA K f = c := by
    unfold cdA
    rw [lk]
  rw [e] at hbody
  refine ⟨len, fun A outer s H args us vs Q E hg hr e0 hb r hsp => ?_⟩
  refine LamX.run_ofS lk hcd S hr e0 hb r (len _ _ _ _ hsp) fun hr' => ?_
  obtain ⟨t, h, q⟩ := hbody A outer s H vs Q E hg hr' hsp
  exact ⟨t, h.nox, q⟩
end
section
variable {X : Cx} {CX : CXT} {k : Nat} {f : Addr} {fd : FuncData} {ps : List Str} {sp : Sp} {dvs : List V} {ds : List Value} {E : XK} {x : Str} {p pos : Pos} {e : Expr} {es : List Expr} {t : TA}
theorem pe_callG (hgd : X.A.guards = some []) (F : FnOkG X.prog X.w X.K X.mg X.base CX k f fd ps sp) (hr : Room k X.A) (hg : Gl X x) (hm : X.mg x = some (.ref f)) (hk : PySem.W.keepIn X.K (.ref f) = true) (hb : Binds X.K fd ps ds) (hd : Vals dvs ds) (hx : Passes CX X E)
    (ha : PA X (e :: es) t) (hdb : (x == ("__debug__" : Str)) = false := by decide) (he : starEach (e :: es) X.env = (false, eval e X.env) :: starEach es X.env := by rfl) (hpl : (backTo pos (starEach es X.env)).any (·.1) = false := by rfl) :
    PE X (.Call (.Name x p) (e :: es) [] pos) (tCall sp dvs E t) := by
  refine ⟨fun pins s σ H Q I h => ?_⟩
  refine wpAny_Call_Name_kw (ld_glob I hg hm ?_ hdb)
  refine PySem.W.callWith_K (h₀ := X.base) I.ok.mod.kin hk (thn (ha.run pos pins s σ H _ I h) fun us s1 ⟨vs, H1, I1, r, q⟩ => ⟨I1.kIn, ?_⟩) he hpl
  have r2 : Vals (vs ++ dvs) (us ++ ds) := r.append hd
  have hl : (us ++ ds).length = ps.length := by rw [← r2.length]; exact F.len _ _ _ _ q
  refine wpAny_call (codeAny_mono (F.run X.A X.stack s1 H1 ⟨us, []⟩ (us ++ ds) (vs ++ dvs) Q E hgd hr I1.env0 (hb s1 us I1.kIn hl) r2 q) fun r s' hq => ?_)
  cases r with
  | error e => exact hx pins σ H1 s1 e s' I1 hq
  | ok fl =>
    cases fl with
    | ret u => exact I1.after hq
    | next => exact False.elim hq
    | brk => exact False.elim hq
    | cont => exact False.elim hq
end
end L2
set_option Elab.async false
set_option linter.all false
set_option maxRecDepth 100000
set_option maxHeartbeats 4000000
/-! general: t[::k] of a tuple -/
namespace HT
open PySem PySem.Spec PyProof.Rows L2
/-- how many places xs[::k] has -/
def stepN (n k : Nat) : Nat := if 0 < n then (n - 1) / k + 1 else 0
def stepL {α : Type} (xs : List α) (k : Nat) : List α := (List.range (stepN xs.length k)).filterMap fun m => xs[m * k]?
theorem stepL_le {α : Type} (xs : List α) (k : Nat) : (stepL xs k).length ≤ xs.length := by
  have e1 : (stepL xs k).length ≤ stepN xs.length k := by
    unfold stepL
    refine Nat.le_trans (List.length_filterMap_le _ _) ?_
    rw [List.length_range]
    exact Nat.le_refl _
  have e2 : stepN xs.length k ≤ xs.length := by
    unfold stepN
    split
    · have := Nat.div_le_self (xs.length - 1) k
      omega
    · omega
  omega
section
variable {prog : Program} {w : World} {A : Around} {E : Value → Shared → Prop} {s : Shared}
theorem adjust_step (k n : Nat) : Builtin.Slice.sliceAdjust none none (k : Int) (n : Int) = (0, (n : Int)) := by
  have h1 : ¬ ((k : Int) < 0) := by omega
  unfold Builtin.Slice.sliceAdjust
  simp only [h1, if_false]
theorem places_step (k n : Nat) (hk : 1 ≤ k) : Builtin.Slice.slicePlaces 0 (n : Int) (k : Int) = stepN n k := by
  unfold Builtin.Slice.slicePlaces stepN
  have h1 : (k : Int) > 0 := by omega
  rw [if_pos h1]
  by_cases c : 0 < n
  · rw [if_pos (by omega), if_pos c]
    have e : ((n : Int) - 0 - 1) = ((n - 1 : Nat) : Int) := by omega
    rw [e]
    show (((n - 1 : Nat) : Int) / (k : Int) + 1).toNat = _
    rw [show (((n - 1 : Nat) : Int) / (k : Int) + 1) = (((n - 1) / k + 1 : Nat) : Int) by push_cast; rfl]
    exact Int.toNat_natCast _
  · rw [if_neg (by omega), if_neg c]
    rfl
theorem sliceApplied_step {sl : Addr} {vs : Value} {k n : Nat} {Q : Int × Int × Nat → Shared → Prop} (hs : s.heap.IsSliceOf sl .none .none vs) (ps : IsPart vs (some (k : Int))) (hk : 1 ≤ k)
    (h : Q (0, (k : Int), stepN n k) s) : wpAny (model prog w) A (Builtin.Slice.sliceApplied (.ref sl) (pure (n : Int))) Q E s := by
  obtain ⟨os, hos, hcs, hds⟩ := id hs
  unfold Builtin.Slice.sliceApplied Builtin.Slice.sliceFields
  refine wpAny_bind (wpAny_bind (wpAny_field hos hds (x := .none) rfl (wpAny_bind (wpAny_field hos hds (x := .none) rfl (wpAny_bind (wpAny_field hos hds (x := vs) rfl (wpAny_pure ?_)))))))
  refine wpAny_bind (slicePart_ ps ?_)
  show wpAny _ _ (if ((k : Int) == 0) = true then _ else _) _ _ s
  rw [if_neg (by simp; omega)]
  refine wpAny_bind (slicePart_none (wpAny_bind (slicePart_none (wpAny_bind (wpAny_pure ?_)))))
  show wpAny _ _ (match Builtin.Slice.sliceAdjust none none (k : Int) (n : Int) with | (lo, hi) => pure (lo, (k : Int), Builtin.Slice.slicePlaces lo hi (k : Int))) _ _ s
  rw [adjust_step]
  show wpAny _ _ (pure ((0 : Int), (k : Int), Builtin.Slice.slicePlaces 0 (n : Int) (k : Int))) _ _ s
  rw [places_step k n hk]
  exact wpAny_pure h
theorem pick_step (xs : Array Value) (k c : Nat) : ((List.range c).filterMap fun (m : Nat) => xs[((0 : Int) + (m : Int) * (k : Int)).toNat]?).toArray = ((List.range c).filterMap fun m => xs.toList[m * k]?).toArray := by
  have e : (fun (m : Nat) => xs[((0 : Int) + (m : Int) * (k : Int)).toNat]?) = fun m => xs.toList[m * k]? := by
    funext m
    have : ((0 : Int) + (m : Int) * (k : Int)).toNat = m * k := by
      rw [show ((0 : Int) + (m : Int) * (k : Int)) = ((m * k : Nat) : Int) by push_cast; omega]
      exact Int.toNat_natCast _
    rw [this]
    simp
  rw [e]
theorem getItem_tuple_step {t sl : Addr} {items : Array Value} {vs : Value} {k : Nat} {Q : Value → Shared → Prop} (ht : IsTup s.heap t items) (hs : s.heap.IsSliceOf sl .none .none vs) (ps : IsPart vs (some (k : Int))) (hk : 1 ≤ k)
    (h1 : k = 1 → Q (.ref t) s) (h2 : k ≠ 1 → Q (.ref s.heap.objs.size) { s with heap := s.heap.push { cls := .type "tuple", data := .seq (stepL items.toList k).toArray } })
    (hsz : items.size ≤ sizeLine) : wpAny (model prog w) A (getItem (.ref t) (.ref sl)) Q E s := by
  have hlen : (stepL items.toList k).length ≤ sizeLine := by
    have e1 : (stepL items.toList k).length ≤ stepN items.size k := by
      unfold stepL
      refine Nat.le_trans (List.length_filterMap_le _ _) ?_
      rw [List.length_range, Array.length_toList]
      exact Nat.le_refl _
    have e2 : stepN items.size k ≤ items.size := by
      unfold stepN
      split
      · have := Nat.div_le_self (items.size - 1) k
        omega
      · omega
    omega
  have htake : sizeOk (.seq (stepL items.toList k).toArray) := by
    show (stepL items.toList k).toArray.size ≤ sizeLine
    rw [List.size_toArray]
    exact hlen
  obtain ⟨os, hos, hcs, hds⟩ := id hs
  have hTs : s.TypeIs (.ref sl) "slice" := ⟨os, hos, hcs⟩
  unfold getItem
  try with_reducible refine wpAny_holding ?_
  first | refine wpAny_bind (wpAny_pure ?_) | skip
  refine wpAny_bind (wpAny_sequenceKey ht.typeIs (by decide) ?_)
  refine wpAny_bind (wpAny_callSpecial?_slot (name := Str.ofString "__getitem__") ht.typeIs PyProof.Rows.slot_tuple_getitem
    (wpAny_call_entry PyProof.Rows.slot_tuple_getitem ht.typeIs entry_tuple_getitem ?_ (args_tuple_getitem _ _)))
  show wpAny _ _ (Builtin.Tuple.tupleItemsOf (.ref t) >>= _) _ _ s
  refine wpAny_bind (tupleItemsOf_ ht ?_)
  refine wpAny_bind (wpAny_typeOf hTs ?_)
  rw [if_pos (by decide)]
  refine wpAny_bind (sliceApplied_step hs ps hk ?_)
  show wpAny _ _ (if ((0 : Int) == 0 && (k : Int) == 1 && stepN items.size k == items.size) = true then _ else _) _ _ s
  by_cases c : k = 1
  · subst c
    have hyes : ((0 : Int) == 0 && (((1 : Nat) : Int)) == 1 && stepN items.size 1 == items.size) = true := by
      have e : stepN items.size 1 = items.size := by
        unfold stepN
        split
        · rw [Nat.div_one]; omega
        · omega
      rw [e]
      simp
    rw [if_pos hyes]
    refine wpAny_bind ?_
    show wpAny _ _ (typeOf (.ref t) >>= fun T => pure (T == .type "tuple")) _ _ s
    refine wpAny_bind (wpAny_typeOf ht.typeIs (wpAny_pure ?_))
    first
      | rw [if_pos (by decide)]
      | simp only [beq_self_eq_true, if_true]
    first
      | exact wpAny_bind (wpAny_rule (wpAny_pure ⟨_, rfl, wpAny_pure (h1 rfl)⟩))
      | exact wpAny_bind (wpAny_rule (wpAny_bind (wpAny_pure (wpAny_pure ⟨_, rfl, wpAny_pure (h1 rfl)⟩))))
  · have hno : ¬ (((0 : Int) == 0 && (k : Int) == 1 && stepN items.size k == items.size) = true) := by
      intro q
      rw [Bool.and_eq_true, Bool.and_eq_true] at q
      have q1 : (k : Int) = 1 := eq_of_beq q.1.2
      omega
    rw [if_neg hno, pick_step]
    have h := h2 c
    unfold stepL at h htake
    rw [Array.length_toList] at h htake
    first
      | exact wpAny_bind (m := Builtin.Tuple.tupleExact _) (wpAny_newObj_type (wpAny_pure ⟨_, rfl, wpAny_pure h⟩) htake)
      | exact wpAny_bind (m := Builtin.Tuple.tupleExact _) (wpAny_newObj_type (wpAny_bind (wpAny_pure (wpAny_pure ⟨_, rfl, wpAny_pure h⟩))) htake)
      | exact wpAny_bind (wpAny_bind (m := Builtin.Tuple.tupleExact _) (wpAny_newObj_type (wpAny_pure (wpAny_pure ⟨_, rfl, wpAny_pure h⟩)) htake))
      | exact wpAny_bind (wpAny_bind (m := Builtin.Tuple.tupleExact _) (wpAny_newObj_type (wpAny_pure ⟨_, rfl, wpAny_pure h⟩) htake))
end
end HT
namespace L2
open PySem PySem.Spec PyProof.Rows PySem.GW
theorem Vals.step {vs : List V} {us : List Value} (r : Vals vs us) (k : Nat) : Vals (HT.stepL vs k) (HT.stepL us k) := by
  have hl := r.length
  unfold HT.stepL
  rw [hl]
  have key : ∀ l : List Nat, Vals (l.filterMap fun m => vs[m * k]?) (l.filterMap fun m => us[m * k]?) := by
    intro l
    induction l with
    | nil => exact .nil
    | cons m l ih =>
      cases e : vs[m * k]? with
      | none =>
        have e2 : us[m * k]? = none := by
          rw [List.getElem?_eq_none_iff] at e ⊢
          omega
        rw [List.filterMap_cons_none (f := fun m => vs[m * k]?) e, List.filterMap_cons_none (f := fun m => us[m * k]?) e2]
        exact ih
      | some v =>
        obtain ⟨u, hu, ru⟩ := r.get e
        rw [List.filterMap_cons_some (f := fun m => vs[m * k]?) e, List.filterMap_cons_some (f := fun m => us[m * k]?) hu]
        exact .cons ru ih
  exact key _
section
variable {X : Cx}
/-- t[::k] -/
def tStepT (K : PySem.W.Frag) (te tk : TE) : TE := fun σ H Q => te σ H fun x H1 => tPart tk σ H1 fun o H2 => ∃ a xs k, x = .ref a ∧ o = some ((k : Nat) : Int) ∧ 1 ≤ k ∧ SqT K H2 a xs ∧ (k = 1 → Q (.ref a) H2) ∧ (k ≠ 1 → ∀ p, H2 p = none → Q (.ref p) (upd H2 p (.tup (HT.stepL xs k))))
theorem pe_stepT {e ek : Expr} {te tk : TE} {p3 pos : Pos} (he : PE X e te) (hk : PE X ek tk) : PE X (.Subscript e (.Slice none none (some ek) p3) pos) (tStepT X.K te tk) := by
  refine ⟨fun pins s σ H Q I h => ?_⟩
  refine Subscript_ (thn (he.run pins s σ H _ I h) fun v s1 ⟨x, H1, I1, r1, q1⟩ => ?_)
  refine wpAny_Slice (thn (po_none.run pins s1 σ H1 (fun o H2 => o = none ∧ H2 = H1) I1 ⟨rfl, rfl⟩) fun vl s2 ⟨l, H2, I2, pl, el, e2⟩ => ?_)
  subst el e2
  refine thn (po_none.run pins s2 σ H2 (fun o H3 => o = none ∧ H3 = H2) I2 ⟨rfl, rfl⟩) fun vu s3 ⟨u, H3, I3, pu, eu, e3⟩ => ?_
  subst eu e3
  refine thn ((po_some hk).run pins s3 σ H3 _ I3 q1) fun vs s4 ⟨o, H4, I4, ps, q⟩ => ?_
  obtain ⟨a, xs, k, rfl, rfl, hk1, hx, c1, c2⟩ := q
  cases r1
  cases pl
  cases pu
  have I5 : Inv X pins σ H4 { s4 with heap := s4.heap.push { cls := .type "slice", data := .fields #[.none, .none, vs] } } := I4.kept (t' := s4.toks) fun b ob q => Heap.get?_push_of_some _ q
  obtain ⟨its, r, ht, hz⟩ := I5.tuple hx
  have hlen := r.length
  show wpAny (model X.prog X.w) X.A (subscriptTail e (.Slice none none (some ek) p3) (.ref a) (.ref s4.heap.objs.size)) (EP X pins σ Q) X.xe { s4 with heap := s4.heap.push { cls := .type "slice", data := .fields #[.none, .none, vs] } }
  refine tail_any (ops := [.ref a, .ref s4.heap.objs.size]) ht.typeIs (PyProof.Rows.slot_tuple_getitem.lookup) ?_ (by with_unfolding_all rfl)
  refine HT.getItem_tuple_step ht (Heap.IsSliceOf.new _ .none .none vs) ps hk1 (fun e => ⟨.ref a, H4, I5, rfl, c1 e⟩) (fun e => ?_) (by rw [List.size_toArray]; omega)
  refine ⟨.ref _, _, I5.laid (t' := s4.toks) (o := .tup (HT.stepL xs k)) (fun b ob q => Heap.get?_push_of_some _ q) (Nat.le_refl _) ?_, rfl, c2 e _ (I5.hok.fresh (Nat.le_refl _))⟩
  have rs := r.step k
  exact ⟨Nat.le_trans (HT.stepL_le xs k) hz, _, rs, ⟨_, Heap.get?_push_size _ rfl, rfl, 0, rfl⟩⟩
end
end L2
set_option Elab.async false
set_option linter.all false
set_option maxRecDepth 100000
set_option maxHeartbeats 4000000
/-! general: for i, x in enumerate(a tuple) -/
namespace PySem
open PySem PyProof.Rows PySem.SeqAt
section
variable {prog : Program} {w : World} {A : Around} {E : Value → Shared → Prop} {s : Shared}
theorem nextOf_tup_item {it t : Addr} {i : Nat} {items : Array Value} {x : Value} {Q : Value → Shared → Prop} (hit : s.heap.IsTupleIter it t i) (ht : s.heap.IsTuple t items) (hx : items[i]? = some x)
    (hQ : ∀ h', h'.IsTupleIter it t (i + 1) → Heap.SameBut it s.heap h' → Q x { s with heap := h' }) : wpAny (model prog w) A (Builtin.SmallTypes.nextOf (.ref it)) Q E s := by
  obtain ⟨o, ho, hc, hd⟩ := id hit
  obtain ⟨ol, hol, _, nl, hdl⟩ := ht
  unfold Builtin.SmallTypes.nextOf
  refine wpAny_bind (wpAny_callSpecial?_slot (name := Str.ofString "__next__") hit.typeIs F.slot_tuple_iterator_next
    (wpAny_call_entry F.slot_tuple_iterator_next hit.typeIs F.entry_tuple_iterator_next ?_ (F.args_tuple_iterator_next_1 _)))
  show wpAny _ _ (field (.ref it) 0 >>= _) _ _ s
  refine wpAny_bind (wpAny_field ho hd (x := .ref t) rfl ?_)
  show wpAny _ _ (if (Value.ref t == Value.none) = true then _ else _) _ _ s
  rw [if_neg (show ¬ ((Value.ref t == Value.none) = true) from Bool.false_ne_true)]
  show wpAny _ _ (field (.ref it) 1 >>= _) _ _ s
  refine wpAny_bind (wpAny_field ho hd (x := .int i 0) rfl ?_)
  show wpAny _ _ (seqItems? (.ref t) >>= _) _ _ s
  refine wpAny_bind (wpAny_seqItems hol hdl ?_)
  simp only [Int.toNat_natCast, hx]
  refine wpAny_bind (wpAny_setField ho hd (by simp) (wpAny_pure ⟨x, rfl, wpAny_pure (hQ _ ?_ (Heap.SameBut.update ..))⟩))
  exact ⟨_, Heap.get?_update_self _ ho (Obj.isFreed_of_fields (Obj.data_mapFields hd _)), (Obj.cls_mapFields ..).trans hc, by rw [Obj.data_mapFields hd]; simp [rawInt]⟩
theorem nextOf_tup_end {it t : Addr} {i : Nat} {items : Array Value} {Q : Value → Shared → Prop} (hh : A.handled = none) (hit : s.heap.IsTupleIter it t i) (ht : s.heap.IsTuple t items) (hx : items[i]? = none)
    (hE : ∀ h' e, Heap.ExtBut it s.heap h' → (∃ o, h'.get? e = some o ∧ o.cls = .type "StopIteration") → E (.ref e) { s with heap := h' }) : wpAny (model prog w) A (Builtin.SmallTypes.nextOf (.ref it)) Q E s := by
  obtain ⟨o, ho, hc, hd⟩ := id hit
  obtain ⟨ol, hol, _, nl, hdl⟩ := ht
  unfold Builtin.SmallTypes.nextOf
  refine wpAny_bind (wpAny_callSpecial?_slot (name := Str.ofString "__next__") hit.typeIs F.slot_tuple_iterator_next
    (wpAny_call_entry F.slot_tuple_iterator_next hit.typeIs F.entry_tuple_iterator_next ?_ (F.args_tuple_iterator_next_1 _)))
  show wpAny _ _ (field (.ref it) 0 >>= _) _ _ s
  refine wpAny_bind (wpAny_field ho hd (x := .ref t) rfl ?_)
  show wpAny _ _ (if (Value.ref t == Value.none) = true then _ else _) _ _ s
  rw [if_neg (show ¬ ((Value.ref t == Value.none) = true) from Bool.false_ne_true)]
  show wpAny _ _ (field (.ref it) 1 >>= _) _ _ s
  refine wpAny_bind (wpAny_field ho hd (x := .int i 0) rfl ?_)
  show wpAny _ _ (seqItems? (.ref t) >>= _) _ _ s
  refine wpAny_bind (wpAny_seqItems hol hdl ?_)
  simp only [Int.toNat_natCast, hx]
  refine wpAny_bind (wpAny_rule (wpAny_bind (wpAny_setField ho hd (by simp) ?_)))
  show wpAny _ _ (newExc (.type "StopIteration") [] >>= _) _ _ _
  refine wpAny_bind ?_
  simp only [newExc, newTuple]
  refine wpAny_bind (wpAny_newObj_type ?_ (by size_fits))
  refine wpAny_bind (m := firstArgMember _ _) (wpAny_of_eq (a := Value.none) (by first | rfl | (simp only [firstArgMember]; rfl)) ?_)
  refine wpAny_newObj_type ?_ (by size_fits)
  simp only [raiseNew]
  refine wpAny_bind (wpAny_handled ?_)
  first | rw [show A.in1.handled = none from hh] | rw [hh]
  refine wpAny_bind (wpAny_pure (wpAny_throw ?_))
  exact hE _ _ (((Heap.SameBut.update ..).extBut.push _).push _) ⟨_, Heap.get?_push_size _ rfl, rfl⟩
end
theorem Draws.tup {prog : Program} {w : World} {A : Around} (hh : A.handled = none) (it l : Addr) (hne : l ≠ it) (items : Array Value) :
    Draws prog w A it [it, l] items.size (fun i v => items[i]? = some v) (fun i h => h.IsTupleIter it l i ∧ h.IsTuple l items) where
  live := fun _ _ st => let ⟨o, ho, _⟩ := st.1; ⟨o, ho⟩
  frame := fun _ _ _ st hk => ⟨st.1.at fun o e => hk it (by simp) o e, let ⟨o, ho, r⟩ := st.2; ⟨o, hk l (by simp) o ho, r⟩⟩
  item := fun i s Q E hi st hQ => by
    refine nextOf_tup_item st.1 st.2 (x := items[i]) (by simp [hi]) fun h' hit' hs' => ?_
    exact hQ _ h' s.toks (by simp [hi]) ⟨hit', st.2.extBut hs'.extBut hne⟩ hs'
  done := fun s Q E st hE => nextOf_tup_end hh st.1 st.2 (by simp) hE
theorem pyNext_enumT_end {prog : Program} {w : World} {A : Around} {E : Value → Shared → Prop} {s : Shared} {e it t : Addr} {i : Nat} {items : Array Value} {old : Value} {Q : Option Value → Shared → Prop} (hh : A.handled = none) (he : IsEnum s.heap e it i old) (hit : s.heap.IsTupleIter it t i) (ht : s.heap.IsTuple t items) (hx : items[i]? = none)
    (hQ : ∀ h', Heap.ExtBut it s.heap h' → Q none { s with heap := h' }) : wpAny (model prog w) A (pyNext (.ref e)) Q E s := by
  have hT : s.TypeIs (.ref e) "enumerate" := ⟨_, he, rfl⟩
  unfold pyNext
  refine wpAny_bind (wpAny_attempt (wpAny_callSpecial?_slot (name := Str.ofString "__next__") hT F.slot_enumerate_next
    (wpAny_call_entry F.slot_enumerate_next hT F.entry_enumerate_next ?_ (F.args_enumerate_next_1 _))))
  show wpAny _ _ (field (.ref e) 2 >>= _) _ _ _
  refine wpAny_bind (wpAny_field he rfl (x := .ref it) rfl ?_)
  refine wpAny_bind (nextOf_tup_end hh hit ht hx fun h' x he' hx' => ?_)
  obtain ⟨o, ho, hc⟩ := hx'
  refine wpAny_bind (wpAny_isInstance (T := "StopIteration") (b := true) ⟨o, ho, hc⟩ isSubtype_stop ?_)
  exact wpAny_pure (hQ _ he')
theorem meets_enum_newT (l : Addr) (items : Array Value) (n : Nat) (dct : Option Addr) (sl : Array (Option Value)) :
    Meets (Builtin.«enumerate.__new__» ⟨[.type "enumerate", .ref l], []⟩) (fun _ R s => s.heap.get? l = some { cls := .type "tuple", dict := dct, data := .seq items n, slots := sl } ∧
      R (.ok (.ret (.ref (s.heap.push { cls := .type "tuple_iterator", data := .fields #[.ref l, .int 0 0] }).objs.size)))
        { s with heap := (s.heap.push { cls := .type "tuple_iterator", data := .fields #[.ref l, .int 0 0] }).push { cls := .type "enumerate", data := .fields #[.none, .bool false, .ref s.heap.objs.size, rawInt 0, .none, .none] } }) :=
  .of_wp fun prog w A R s h => by
    obtain ⟨hp, g, d, tk, os⟩ := s; obtain ⟨hl, h⟩ := h
    have hsub := sub_enumerate
    have hL : Heap.IsTuple (Shared.heap ⟨hp, g, d, tk, os⟩) l items := ⟨_, hl, rfl, n, rfl⟩
    wp_walk using PySem.AutoSeq1.wpAny_loadPart' hl
    refine wpAny_stack_any fun st => wpAny_pure ?_
    split
    · rename_i c _ _ _ _ _
      cases (c == Value.type "enumerate")
      · wp_walk using PySem.AutoSeq1.wpAny_loadPart' hl, wpAny_pyIter_tuple hL
        exact ⟨_, rfl, h⟩
      · wp_walk using PySem.AutoSeq1.wpAny_loadPart' hl, wpAny_pyIter_tuple hL
        exact ⟨_, rfl, h⟩
    · wp_walk using PySem.AutoSeq1.wpAny_loadPart' hl, wpAny_pyIter_tuple hL
      exact ⟨_, rfl, h⟩
section
variable {prog : Program} {w : World} {A : Around} {E : Value → Shared → Prop} {s : Shared}
theorem call_enumerate_tup {l : Addr} {items : Array Value} {Q : Value → Shared → Prop} (hL : s.heap.IsTuple l items)
    (h : ∀ h', IsEnum h' (s.heap.objs.size + 1) s.heap.objs.size 0 .none → h'.IsTupleIter s.heap.objs.size l 0 → h'.objs.size = s.heap.objs.size + 2 →
      (∀ b o, s.heap.get? b = some o → h'.get? b = some o) → Q (.ref (s.heap.objs.size + 1)) { s with heap := h' }) :
    wpAny (model prog w) A (call (.type "enumerate") [.ref l]) Q E s := by
  obtain ⟨⟨c, dct, dt, sl⟩, hl, hc, n, hd⟩ := hL
  replace hc : c = .type "tuple" := hc
  replace hd : dt = .seq items n := hd
  subst hc hd
  refine callType_new F.called_enumerate (by decide) (F.typeCall_enumerate_1 _) (F.newCall_enumerate_1 _) (fun obj => F.args_object_init_2 obj _) F.entry_enumerate_new
    (meets_enum_newT l items n dct sl) ⟨hl, ?_⟩
  have hz : (s.heap.push { cls := .type "tuple_iterator", data := .fields #[.ref l, .int 0 0] }).objs.size = s.heap.objs.size + 1 := Heap.size_push ..
  show _ ∧ _
  rw [hz]
  have he : IsEnum ((s.heap.push { cls := .type "tuple_iterator", data := .fields #[.ref l, .int 0 0] }).push
      { cls := .type "enumerate", data := .fields #[.none, .bool false, .ref s.heap.objs.size, rawInt 0, .none, .none] }) (s.heap.objs.size + 1) s.heap.objs.size 0 .none := by
    have := Heap.get?_push_size (s.heap.push { cls := .type "tuple_iterator", data := .fields #[.ref l, .int 0 0] })
      (o := { cls := .type "enumerate", data := .fields #[.none, .bool false, .ref s.heap.objs.size, rawInt 0, .none, .none] }) rfl
    rw [hz] at this; exact this
  exact ⟨⟨_, he, rfl⟩, h _ he ⟨_, Heap.get?_push_of_some _ (Heap.get?_push_size _ rfl), rfl, rfl⟩ (by rw [Heap.size_push, hz]) fun b o x => Heap.get?_push_of_some _ (Heap.get?_push_of_some _ x)⟩
end
end PySem
namespace L2
open PySem PySem.Spec PyProof.Rows PySem.GW
/-- the tuple at a, each item in a new pair -/
def IteT (K : PySem.W.Frag) (a : Addr) : It :=
  ⟨fun i H => ∃ (xs : List V) (x : V), SqT K H a xs ∧ xs[i]? = some x, fun i H v H' => ∃ T x, v = .ref T ∧ H T = none ∧ H' = upd H T (.tup [.int (i : Nat), x]) ∧ ∀ xs, SqT K H a xs → xs[i]? = some x, fun i H => ∃ xs : List V, SqT K H a xs ∧ xs.length ≤ i⟩
theorem turn_enumT {P : Program} {w : World} {K : PySem.W.Frag} {elts : List Expr} {kk : Nat} {tpos : Pos} (a e it : Addr) (hai : a ≠ it) (hae : e ≠ a) :
    Turn P w K (.Tuple elts kk tpos) (IteT K a) [e, it] e (fun i h => (∃ old, IsEnum h e it ((i : Nat) : Int) old) ∧ h.IsTupleIter it a i ∧ e ≠ it) where
  mem := by simp
  obj := fun i h st b hb => by
    obtain ⟨⟨old, he⟩, ⟨o, ho, hc, hd⟩, _⟩ := st
    have e' : b = e ∨ b = it := by simpa using hb
    rcases e' with z | z
    · rw [z]; exact ⟨_, he, fun v q => nomatch q⟩
    · rw [z]; exact ⟨o, ho, fun v q => by rw [hd] at q; cases q⟩
  keep := fun i h h' st k => let ⟨⟨old, he⟩, hi, hne⟩ := st; ⟨⟨old, k e (by simp) _ he⟩, hi.at fun o q => k it (by simp) o q, hne⟩
  item := by
    intro X hP hw hK hc i pins s σ H E I hf st hg
    subst hP hw hK
    obtain ⟨⟨old, he⟩, hit, hne⟩ := st
    obtain ⟨xs, x, hq, hx⟩ := hg
    obtain ⟨its, rv, p, hz⟩ := I.tuple hq
    obtain ⟨u, hu, ru⟩ := rv.get hx
    have hel : e < s.heap.objs.size := Heap.lt_size he
    have hil : it < s.heap.objs.size := by obtain ⟨_, q, _⟩ := hit; exact Heap.lt_size q
    have hlt : i < its.toArray.size := by
      rw [List.size_toArray]
      exact (List.getElem?_eq_some_iff.mp hu).1
    refine wpAny_pyNext_enum_itemD (Draws.tup (A := X.A.in1) (I.ok.hd hc) it a hai its.toArray) he ⟨hit, p⟩ hlt hne (by simp [hne, hae]) fun x' h' tk hP ho hst hT hsz hk => ?_
    have e1 : x' = u := by
      have : its.toArray[i]? = some x' := hP
      rw [List.getElem?_toArray, hu] at this
      exact (Option.some.inj this).symm
    subst e1
    refine ⟨_, rfl, wpAny_letOwnedTupleGo_enum (s := { s with heap := h', toks := tk + 1 }) ho fun h'' he' sb => ?_⟩
    have hT2 : h''.get? s.heap.objs.size = some { cls := .type "tuple", data := .seq #[.int i tk, x'] } := (sb.2 _ (Nat.ne_of_gt hel)).trans hT
    have new : ObjOk X.prog X.w (upd H s.heap.objs.size (.tup [.int (i : Nat), x])) h'' s.heap.objs.size (.tup [.int (i : Nat), x]) :=
      ⟨by show 2 ≤ sizeLine; decide, [.int i tk, x'], .cons ⟨_, rfl⟩ (.cons ru .nil), ⟨_, hT2, rfl, _, rfl⟩⟩
    have I1 : Inv X pins σ (upd H s.heap.objs.size (.tup [.int (i : Nat), x])) { s with heap := h'', toks := tk + 1 } :=
      I.turnedNew (ch := [e, it]) (fun b ob hb q => (sb.2 b (fun z => hb (by simp [z]))).trans (hk b ob (fun z => hb (by simp [z])) (fun z => hb (by simp [z])) q)) hf (Nat.le_refl _) new
    refine ⟨.ref s.heap.objs.size, _, I1, rfl, ⟨_, x, rfl, I.hok.fresh (Nat.le_refl _), rfl, fun ys hy => ?_⟩, ⟨⟨x', ?_⟩, hst.1.at fun o q => (sb.2 it (Ne.symm hne)).trans q, hne⟩, fun b hb => ?_⟩
    · rw [I.tuple_inj hy hq]; exact hx
    · have e1 : ((i + 1 : Nat) : Int) = (i : Int) + 1 := by omega
      rw [e1]; exact he'
    · have hb' : b < s.heap.objs.size := by
        have e' : b = e ∨ b = it := by simpa using hb
        rcases e' with z | z
        · rw [z]; exact hel
        · rw [z]; exact hil
      rw [upd_ne (Nat.ne_of_lt hb')]
      exact (hf b hb).1
  done := by
    intro X hP hw hK hc i pins s σ H E I hf st hg
    subst hP hw hK
    obtain ⟨⟨old, he⟩, hit, hne⟩ := st
    obtain ⟨xs, hq, hx⟩ := hg
    obtain ⟨its, rv, p, hz⟩ := I.tuple hq
    obtain ⟨f0, f1, f2, f3, f4, f5⟩ := hf it (by simp)
    have hl := rv.length
    exact pyNext_enumT_end (I.ok.hd hc) he hit p (by simp; omega) fun h' eb => ⟨rfl, I.turned (t' := s.toks) (fun b o hb q => eb b o hb q) f0 f1 f3 f4 f5⟩
  self := fun A i s Q E st h => let ⟨⟨_, he⟩, _⟩ := st; wpAny_pyIter_enum he h
def iEnumT (K : PySem.W.Frag) (ta : TA) : TI := fun σ H R => ta σ H fun vs H1 => ∃ a xs, vs = [.ref a] ∧ SqT K H1 a xs ∧ R (IteT K a) H1
theorem pi_enumT {X : Cx} {e : Expr} {ta : TA} {p pos tpos : Pos} {elts : List Expr} {kk : Nat} (hg : Gl X "enumerate") (hm : X.mg "enumerate" = none) (ha : PA X [e] ta) (hs : starEach [e] X.env = [(false, eval e X.env)] := by rfl) :
    PI X (.Tuple elts kk tpos) (.Call (.Name "enumerate" p) [e] [] pos) (iEnumT X.K ta) := by
  refine ⟨fun pins s σ H R I h => ?_⟩
  refine Call_ (ld_blt I hg hm boot_enumerate (PyProof.Rows.callWith_type1 (thn (ha.run pos pins s σ H _ I h) fun us s1 ⟨vs, H1, I1, r1, q1⟩ => ?_) hs rfl))
  obtain ⟨a, xs, ex, hq, q⟩ := q1
  subst ex
  cases r1 with
  | cons r rr =>
    cases rr
    cases r
    obtain ⟨its, rv, p', hz⟩ := I1.tuple hq
    have hal : a < s1.heap.objs.size := by obtain ⟨_, q, _⟩ := p'; exact Heap.lt_size q
    refine call_enumerate_tup p' fun h' he hit hsz hk => wpAny_pyIter_enum he ?_
    have I2 : Inv X pins σ H1 { s1 with heap := h' } := I1.kept (t' := s1.toks) hk
    refine ⟨s1.heap.objs.size + 1, [s1.heap.objs.size + 1, s1.heap.objs.size], _, _, H1, rfl, I2, turn_enumT a (s1.heap.objs.size + 1) s1.heap.objs.size (Nat.ne_of_lt hal) (Nat.ne_of_gt (Nat.lt_succ_of_lt hal)), ⟨⟨.none, he⟩, hit, Nat.succ_ne_self _⟩, fun b hb => ?_, q⟩
    have e' : b = s1.heap.objs.size + 1 ∨ b = s1.heap.objs.size := by simpa using hb
    have hle : s1.heap.objs.size ≤ b := by
      rcases e' with z | z
      · rw [z]; exact Nat.le_add_right _ _
      · rw [z]; exact Nat.le_refl _
    exact I1.fpOk hle (I1.hok.fresh hle)
theorem for_enumT {K : PySem.W.Frag} {a : Addr} {xs : List V} {g : TG} {tb : TS} {D : Ends} {σ : St} {H : Hp} (Pv : Nat → St → Hp → Prop) (h0 : Pv 0 σ H) (hl : ∀ i σ H, i ≤ xs.length → Pv i σ H → SqT K H a xs)
    (hs : ∀ i x T σ H, xs[i]? = some x → Pv i σ H → H T = none → g (.ref T) σ (upd H T (.tup [.int (i : Nat), x])) fun σ2 H2 => tb { D with nx := Pv (i + 1), ct := Pv (i + 1), bk := D.nx } σ2 H2) (hd : ∀ σ H, Pv xs.length σ H → D.nx σ H) :
    ∃ W : Nat → Nat → St → Hp → Prop, (∃ m, W 0 m σ H) ∧ ∀ i m σ H, W i m σ H →
      ((IteT K a).stop i H ∧ D.nx σ H) ∨ ((IteT K a).go i H ∧ ∃ N : St → Hp → Prop, (∀ σ' H', N σ' H' → ∃ m', m' < m ∧ W (i + 1) m' σ' H') ∧ ∀ x H', (IteT K a).yld i H x H' → g x σ H' fun σ2 H2 => tb { D with nx := N, ct := N, bk := D.nx } σ2 H2) := by
  refine ⟨fun i m σ H => m = xs.length - i ∧ i ≤ xs.length ∧ Pv i σ H, ⟨xs.length, rfl, Nat.zero_le _, h0⟩, ?_⟩
  rintro i m σ H ⟨rfl, hi, pv⟩
  have hq := hl i σ H hi pv
  by_cases hlt : i < xs.length
  · refine .inr ⟨⟨xs, xs[i], hq, by simp [hlt]⟩, Pv (i + 1), fun σ' H' p' => ⟨xs.length - (i + 1), by omega, rfl, hlt, p'⟩, fun x H' y => ?_⟩
    obtain ⟨T, z, rfl, hT, rfl, hz⟩ := y
    exact hs i z T σ H (hz xs hq) pv hT
  · refine .inl ⟨⟨xs, hq, by omega⟩, hd σ H ?_⟩
    have e : i = xs.length := by omega
    rw [← e]
    exact pv
end L2
set_option Elab.async false
set_option linter.all false
set_option maxRecDepth 100000
set_option maxHeartbeats 4000000
namespace R4
open PySem L2 PySem.GW LamX
section
variable {w : World} {K : PySem.W.Frag} {mg : Str → Option Value} {base : Heap}
theorem pi_or {X : Cx} {tg it : Expr} {w1 w2 : TI} (h1 : PI X tg it w1) (h2 : PI X tg it w2) : PI X tg it (fun σ H R => w1 σ H R ∨ w2 σ H R) :=
  ⟨fun pins s σ H R I h => h.elim (h1.run pins s σ H R I) (h2.run pins s σ H R I)⟩
theorem Same.seqT {K : PySem.W.Frag} {H H' : Hp} {a : Addr} {xs : List V} (e : Same H H') (h : SqT K H a xs) : SqT K H' a xs := by
  rcases h with (h | ⟨o, h⟩) | h
  · exact .inl (.inl (e _ _ h))
  · exact .inl (.inr ⟨o, e _ _ h⟩)
  · exact .inr h
theorem same_upd {H : Hp} {p : Addr} {o : HO} (h : H p = none) : Same H (upd H p o) := fun b u e => by rw [upd_ne (ne_of_none e h)]; exact e
theorem ty_tup {K : PySem.W.Frag} {H : Hp} {a : Addr} {xs : List V} (h : SqT K H a xs) : TyX K H (.ref a) (.type "tuple") := by
  rcases h with (h | ⟨o, h⟩) | ⟨o, its, n, h1, h2, h3, h4, h5⟩
  · exact .base (.tup h)
  · exact .fTuple h
  · exact .kTuple h1 h2
theorem ty_lst {K : PySem.W.Frag} {H : Hp} {a : Addr} {xs : List V} (h : SqL K H a xs) : TyX K H (.ref a) (.type "list") := by
  rcases h with (h | ⟨o, h⟩) | ⟨o, its, n, h1, h2, h3, h4, h5⟩
  · exact .base (.lst h)
  · exact .base (.frz h)
  · exact .kList h1 h2
theorem TyX.same {K : PySem.W.Frag} {H H' : Hp} {v : V} {t : Value} (e : Same H H') (h : TyX K H v t) : TyX K H' v t := by
  cases h with
  | base b =>
    cases b with
    | non => exact .base .non
    | bl x => exact .base (.bl x)
    | int i => exact .base (.int i)
    | str x => exact .base (.str x)
    | flt x => exact .base (.flt x)
    | lst q => exact .base (.lst (e _ _ q))
    | frz q => exact .base (.frz (e _ _ q))
    | tup q => exact .base (.tup (e _ _ q))
    | dK q => exact .base (.dK (e _ _ q))
    | dT q => exact .base (.dT (e _ _ q))
    | ins q cl ha hn htk hm => exact .base (.ins (e _ _ q) cl ha hn htk hm)
  | byt b => exact .byt b
  | set q => exact .set (e _ _ q)
  | kList q c => exact .kList q c
  | kTuple q c => exact .kTuple q c
  | kDict q c => exact .kDict q c
  | fTuple q => exact .fTuple (e _ _ q)
  | fDict q => exact .fDict (e _ _ q)
/-- a list or a tuple of xs -/
def Sq (K : PySem.W.Frag) (H : Hp) (a : Addr) (xs : List V) : Prop := SqL K H a xs ∨ SqT K H a xs
theorem Same.sq {K : PySem.W.Frag} {H H' : Hp} {a : Addr} {xs : List V} (e : Same H H') (h : Sq K H a xs) : Sq K H' a xs := h.elim (fun h => .inl (e.seq h)) fun h => .inr (Same.seqT e h)
theorem Sq.ty {K : PySem.W.Frag} {H : Hp} {a : Addr} {xs : List V} (h : Sq K H a xs) : ∃ n, TyX K H (.ref a) (.type n) ∧ PySem.W.kitAny K (.type n) [.type "list", .type "tuple"] = some true := by
  rcases h with h | h
  · exact ⟨_, ty_lst h, kitAny_cons (b := true) (kit_ty (by decide +kernel)) (fun e => nomatch e) fun _ => rfl⟩
  · exact ⟨_, ty_tup h, kitAny_cons (b := false) (kit_ty (by decide +kernel)) (fun _ => kitAny_cons (b := true) (kit_ty (by decide +kernel)) (fun e => nomatch e) fun _ => rfl) fun e => nomatch e⟩
theorem ifT {c : Bool} {A B : Prop} (hc : c = true) (h : A) : if c = true then A else B := by rw [if_pos hc]; exact h
theorem ifF {c : Bool} {A B : Prop} (hc : c = false) (h : B) : if c = true then A else B := by rw [hc]; exact iteF h
theorem nd {p : Prop} [Decidable p] (h : p) : (!decide p) = false := by rw [decide_eq_true h]; rfl
theorem nn {p : Prop} [Decidable p] (h : ¬ p) : (!decide p) = true := by rw [decide_eq_false h]; rfl
theorem all_rep (n : Nat) : (List.replicate n true).all id = true := by
  induction n with
  | zero => rfl
  | succ n ih => rw [List.replicate_succ, List.all_cons, ih]; rfl
theorem map_at {ns : List Int} {i : Nat} {x : V} (h : (ns.map V.int)[i]? = some x) : ∃ z, ns[i]? = some z ∧ x = .int z := by
  rw [List.getElem?_map] at h
  obtain ⟨z, hz, e⟩ := Option.map_eq_some_iff.mp h
  exact ⟨z, hz, e.symm⟩
theorem paired_at {α β : Type} {R : α → β → Prop} : ∀ {xs : List α} {ys : List β} {i : Nat} {x : α}, Paired R xs ys → xs[i]? = some x → ∃ y, ys[i]? = some y ∧ R x y
  | _, _, _, _, .nil, e => by simp at e
  | _, _, 0, _, .cons r _, e => by simp at e; subst e; exact ⟨_, rfl, r⟩
  | _, _, i + 1, x, .cons _ t, e => by
    obtain ⟨u, h1, h2⟩ := paired_at (i := i) (x := x) t (by simpa using e)
    exact ⟨u, by simpa using h1, h2⟩
theorem for_enum {K : PySem.W.Frag} {a : Addr} {xs : List V} {g : TG} {tb : TS} {D : Ends} {σ : St} {H : Hp} (Pv : Nat → St → Hp → Prop) (h0 : Pv 0 σ H) (hl : ∀ i σ H, i ≤ xs.length → Pv i σ H → SqL K H a xs)
    (hs : ∀ i x T σ H, xs[i]? = some x → Pv i σ H → H T = none → g (.ref T) σ (upd H T (.tup [.int (i : Nat), x])) fun σ2 H2 => tb { D with nx := Pv (i + 1), ct := Pv (i + 1), bk := D.nx } σ2 H2) (hd : ∀ σ H, Pv xs.length σ H → D.nx σ H) :
    ∃ W : Nat → Nat → St → Hp → Prop, (∃ m, W 0 m σ H) ∧ ∀ i m σ H, W i m σ H →
      ((Ite K a).stop i H ∧ D.nx σ H) ∨ ((Ite K a).go i H ∧ ∃ N : St → Hp → Prop, (∀ σ' H', N σ' H' → ∃ m', m' < m ∧ W (i + 1) m' σ' H') ∧ ∀ x H', (Ite K a).yld i H x H' → g x σ H' fun σ2 H2 => tb { D with nx := N, ct := N, bk := D.nx } σ2 H2) := by
  refine ⟨fun i m σ H => m = xs.length - i ∧ i ≤ xs.length ∧ Pv i σ H, ⟨xs.length, rfl, Nat.zero_le _, h0⟩, ?_⟩
  rintro i m σ H ⟨rfl, hi, pv⟩
  have hq := hl i σ H hi pv
  by_cases hlt : i < xs.length
  · refine .inr ⟨⟨xs, xs[i], hq, by simp [hlt]⟩, Pv (i + 1), fun σ' H' p' => ⟨xs.length - (i + 1), by omega, rfl, hlt, p'⟩, fun x H' y => ?_⟩
    obtain ⟨T, z, rfl, hT, rfl, hz⟩ := y
    exact hs i z T σ H (hz xs hq) pv hT
  · refine .inl ⟨⟨xs, hq, by omega⟩, hd σ H ?_⟩
    have e : i = xs.length := by omega
    rw [← e]
    exact pv
/-! ### values of any kind -/
def tyD : PyData → String
  | .none => "NoneType"
  | .bool _ => "bool"
  | .int _ => "int"
  | .str _ => "str"
  | .list _ => "list"
  | .tuple _ => "tuple"
  | .dict _ => "dict"
def seqD : PyData → Option (List PyData)
  | .list ds => some ds
  | .tuple ds => some ds
  | _ => none
theorem dp_ty {H : Hp} {v : V} {d : PyData} (h : Dp K H v d) : TyX K H v (.type (tyD d)) := by
  cases h with
  | non => exact .base .non
  | bl b => exact .base (.bl b)
  | int i => exact .base (.int i)
  | str x => exact .base (.str x)
  | lst h _ => exact ty_lst h
  | tup h _ => exact ty_tup h
mutual
theorem Dp.same {H H' : Hp} (e : Same H H') : ∀ {d : PyData} {v : V}, Dp K H v d → Dp K H' v d
  | _, _, .non => .non
  | _, _, .bl b => .bl b
  | _, _, .int i => .int i
  | _, _, .str x => .str x
  | _, _, .lst h hs => .lst (e.seq h) (DpAll.same e hs)
  | _, _, .tup h hs => .tup (Same.seqT e h) (DpAll.same e hs)
theorem DpAll.same {H H' : Hp} (e : Same H H') : ∀ {ds : List PyData} {vs : List V}, DpAll K H vs ds → DpAll K H' vs ds
  | _, _, .nil => .nil
  | _, _, .cons h hs => .cons (Dp.same e h) (DpAll.same e hs)
end
theorem DpAll.length {H : Hp} : ∀ {ds : List PyData} {vs : List V}, DpAll K H vs ds → vs.length = ds.length
  | _, _, .nil => rfl
  | _, _, .cons _ hs => by rw [List.length_cons, List.length_cons, DpAll.length hs]
theorem DpAll.at {H : Hp} : ∀ {ds : List PyData} {vs : List V} {i : Nat} {v : V}, DpAll K H vs ds → vs[i]? = some v → ∃ d, ds[i]? = some d ∧ Dp K H v d
  | _, _, _, _, .nil, h => by simp at h
  | _, _, 0, _, .cons h _, e => by
    simp at e
    subst e
    exact ⟨_, rfl, h⟩
  | _, _, i + 1, _, .cons _ hs, e => DpAll.at (i := i) hs e
theorem dpInts {H : Hp} : ∀ ns : List Int, DpAll K H (ns.map V.int) (ns.map PyData.int)
  | [] => .nil
  | n :: ns => .cons (.int n) (dpInts ns)
theorem dpStrs {H : Hp} : ∀ ns : List Str, DpAll K H (ns.map V.str) (ns.map PyData.str)
  | [] => .nil
  | n :: ns => .cons (.str n) (dpStrs ns)
theorem take_at {α : Type} {xs : List α} {i : Nat} {x : α} (h : xs[i]? = some x) : xs.take (i + 1) = xs.take i ++ [x] := by rw [List.take_add_one, h]; rfl
theorem drop_at {α : Type} {xs : List α} {i : Nat} {x : α} (h : xs[i]? = some x) : xs.drop i = x :: xs.drop (i + 1) := by
  obtain ⟨hl, rfl⟩ := List.getElem?_eq_some_iff.mp h
  exact List.drop_eq_getElem_cons hl
theorem Paired.append {α β : Type} {R : α → β → Prop} : ∀ {xs : List α} {ys : List β} {x : α} {y : β}, Paired R xs ys → R x y → Paired R (xs ++ [x]) (ys ++ [y])
  | _, _, _, _, .nil, h => .cons h .nil
  | _, _, _, _, .cons r t, h => .cons r (Paired.append t h)
theorem sqT_upd {K : PySem.W.Frag} {H : Hp} {a D : Addr} {xs us : List V} {o : HO} (hD : H D = some (.lst us)) (h : SqT K H a xs) : SqT K (upd H D o) a xs := by
  rcases h with (h | ⟨o2, h⟩) | h
  · exact .inl (.inl (by rw [upd_ne (by rintro rfl; rw [hD] at h; cases h)]; exact h))
  · exact .inl (.inr ⟨o2, by rw [upd_ne (by rintro rfl; rw [hD] at h; cases h)]; exact h⟩)
  · exact .inr h
theorem same_at {H H2 : Hp} {D : Addr} {o : HO} (hD : H D = none) (s : Same H H2) : Same H (upd H2 D o) := fun b u e => by rw [upd_ne (ne_of_none e hD)]; exact s b u e
theorem slA_drop {K : PySem.W.Frag} {H : Hp} {a : Addr} {xs : List V} {k : Nat} {Q : VK} (h : SqT K H a xs) (q : ∀ p H', Same H H' → SqT K H' p (xs.drop k) → Q (.ref p) H') : rSlA K (.ref a) (some (k : Int)) none H Q := by
  refine ⟨a, xs, rfl, h, fun hw => q a H (Same.refl _) ?_, fun _ p hp => q p _ (same_upd hp) (SqT.of ?_)⟩
  · have h1 := hw.1
    rw [HT.sIx_nat] at h1
    have e : xs.drop k = xs := by
      rcases Nat.min_eq_zero_iff.mp h1 with e | e
      · rw [e]; rfl
      · rw [List.eq_nil_of_length_eq_zero e]; simp
    rw [e]; exact h
  · rw [upd_same]
    unfold cutV
    rw [HT.sIx_nat, HT.sIx_none]
    congr 2
    by_cases hk : k ≤ xs.length
    · rw [Nat.min_eq_left hk, List.take_of_length_le (by rw [List.length_drop]; exact Nat.le_refl _)]
    · rw [Nat.min_eq_right (by omega), List.drop_length, List.drop_eq_nil_of_le (by omega)]; simp
theorem slA_take {K : PySem.W.Frag} {H : Hp} {a : Addr} {xs : List V} {k : Nat} {Q : VK} (h : SqT K H a xs) (q : ∀ p H', Same H H' → SqT K H' p (xs.take k) → Q (.ref p) H') : rSlA K (.ref a) none (some (k : Int)) H Q := by
  refine ⟨a, xs, rfl, h, fun hw => q a H (Same.refl _) ?_, fun _ p hp => q p _ (same_upd hp) (SqT.of ?_)⟩
  · have h1 := hw.2
    rw [HT.sIx_nat] at h1
    rw [List.take_of_length_le (by omega)]; exact h
  · rw [upd_same]
    unfold cutV
    rw [HT.sIx_nat, HT.sIx_none, List.drop_zero, Nat.sub_zero]
    congr 2
    by_cases hk : k ≤ xs.length
    · rw [Nat.min_eq_left hk]
    · rw [Nat.min_eq_right (by omega), List.take_length, List.take_of_length_le (by omega)]
theorem catA {K : PySem.W.Frag} {H : Hp} {a b : Addr} {xs ys : List V} {Q : VK} (h1 : SqT K H a xs) (h2 : SqT K H b ys) (hl : xs.length + ys.length ≤ sizeLine) (q : ∀ p H', Same H H' → SqT K H' p (xs ++ ys) → Q (.ref p) H') : rCatA K (.ref a) (.ref b) H Q := by
  refine ⟨a, b, xs, ys, rfl, rfl, h1, h2, hl, fun e => q b H (Same.refl _) (by rw [e]; exact h2), fun _ e => q a H (Same.refl _) (by rw [e, List.append_nil]; exact h1), fun _ _ p hp => q p _ (same_upd hp) (SqT.of upd_same)⟩
theorem min_cast (a b : Nat) : (if (b : Int) < (a : Int) then (b : Int) else (a : Int)) = ((min a b : Nat) : Int) := by
  by_cases h : b < a
  · rw [if_pos (by omega), Nat.min_eq_right (by omega)]
  · rw [if_neg (by omega), Nat.min_eq_left (by omega)]
theorem tcI {v : V} {σ : St} {H : Hp} {Q : VK} (h : Q v H) : tC v σ H Q := h
theorem noPart {σ : St} {H : Hp} {Q : Option Int → Hp → Prop} (h : Q none H) : tNoPart σ H Q := h
theorem i0 {f : Int → Int → V} {i j : Int} {v : V} {H : Hp} {Q : VK} (e : f i j = v) (q : Q v H) : rI0 f (.int i) (.int j) H Q := ⟨i, j, rfl, rfl, by rw [e]; exact q⟩
theorem iC {c : Int → Int → Prop} {f : Int → Int → V} {i j : Int} {v : V} {H : Hp} {Q : VK} (h : c i j) (e : f i j = v) (q : Q v H) : rI c f (.int i) (.int j) H Q := ⟨i, j, rfl, rfl, h, by rw [e]; exact q⟩
theorem mod_nat (a b : Nat) : ((a : Int) % (b : Int)) = ((a % b : Nat) : Int) := by push_cast; rfl

theorem joinT {b : Bool} {t : TS} {D : Ends} {σ : St} {H : Hp} (P : Hp → Prop) (h1 : b = true → ∀ nx : St → Hp → Prop, (∀ H1, P H1 → nx σ H1) → t { D with nx := nx } σ H) (h2 : b = false → P H) (k : ∀ H1, P H1 → D.nx σ H1) : if b = true then t D σ H else tNext D σ H := by
  cases b with
  | true => exact h1 rfl D.nx k
  | false => exact k H (h2 rfl)
theorem sqT_updI {K : PySem.W.Frag} {H : Hp} {a D C dx : Addr} {fs : List (Str × V)} {xs : List V} {o : HO} (hD : H D = some (.ins C dx fs)) (h : SqT K H a xs) : SqT K (upd H D o) a xs := by
  rcases h with (h | ⟨o2, h⟩) | h
  · exact .inl (.inl (by rw [upd_ne (by rintro rfl; rw [hD] at h; cases h)]; exact h))
  · exact .inl (.inr ⟨o2, by rw [upd_ne (by rintro rfl; rw [hD] at h; cases h)]; exact h⟩)
  · exact .inr h
/-- all but x stays -/
def SameBut (x : Addr) (H H' : Hp) : Prop := ∀ b o, b ≠ x → H b = some o → H' b = some o
theorem div_nat (a b : Nat) : ((a : Int) / (b : Int)) = ((a / b : Nat) : Int) := by push_cast; rfl
theorem joinU {b : Bool} {t : TS} {D : Ends} {σ : St} {H : Hp} (P : St → Hp → Prop) (h1 : b = true → ∀ nx : St → Hp → Prop, (∀ σ H1, P σ H1 → nx σ H1) → t { D with nx := nx } σ H) (h2 : b = false → P σ H) (k : ∀ σ H1, P σ H1 → D.nx σ H1) : if b = true then t D σ H else tNext D σ H := by
  cases b with
  | true => exact h1 rfl D.nx k
  | false => exact k σ H (h2 rfl)

theorem sqT_at {w : List Int} {i : Nat} (h : i < w.length) : (w.map V.int)[i]? = some (.int (w.getD i 0)) := by
  rw [List.getElem?_map, List.getElem?_eq_getElem h, List.getD_eq_getElem?_getD, List.getElem?_eq_getElem h]; rfl
theorem fresh_back {H H' : Hp} {p : Addr} (e : Same H H') (h : H' p = none) : H p = none := by
  cases hh : H p with
  | none => rfl
  | some o => rw [e _ _ hh] at h; cases h

theorem paired_cons {α β : Type} {R : α → β → Prop} {xs : List α} {ys : List β} (h : Paired R xs ys) (hx : xs ≠ []) : ∃ x xs' y ys', xs = x :: xs' ∧ ys = y :: ys' ∧ R x y ∧ Paired R xs' ys' := by
  cases h with
  | nil => exact absurd rfl hx
  | cons r t => exact ⟨_, _, _, _, rfl, rfl, r, t⟩
/-- a method asked of a Row: the parts of the rule -/
theorem nilI {σ : St} {H : Hp} {Q : List V → Hp → Prop} (h : Q [] H) : tNil σ H Q := h
theorem Paired.app {α β : Type} {R : α → β → Prop} : ∀ {xs : List α} {ys : List β} {xs' : List α} {ys' : List β}, Paired R xs ys → Paired R xs' ys' → Paired R (xs ++ xs') (ys ++ ys')
  | _, _, _, _, .nil, h => h
  | _, _, _, _, .cons r t, h => .cons r (Paired.app t h)
theorem _root_.L2.FunD.okN {P : Program} {x qual : Str} {params : Arguments} {body : List Stmt} {scope : Scope} {dvs : List V} {kws : List (Str × V)} {f : Addr} {fd : FuncData} {N ps : List Str} {k : Nat} {sp : Sp} (F : FunD K x qual params body scope dvs kws f fd) (S : FnScope N ps scope) (len : ∀ vs H Q E, sp vs H Q E → vs.length = ps.length)
    (hbody : ∀ (cdv : Value) (A : Around) (outer : List Env) (s : Shared) (H : Hp) (vs : List V) (Q : VK) (E : XK), Room k (A.deeper (PyProof.Rows.envOfC qual scope s.heap.objs.size f cdv)) → sp vs H Q E →
      ∃ t, PSs (cxOf CX0 P w K mg base N qual scope f cdv A outer s H E).nox body t ∧ t { nx := fun _ H' => Q .non H', rt := Q } (start N vs) H) : FnOk P w K mg base CX0 (k + 1) f fd ps sp :=
  F.ok S len fun cdv A outer s H vs Q E hr hsp => by
    obtain ⟨t, h, q⟩ := hbody cdv A outer s H vs Q E hr hsp
    exact ⟨t, h.nox, q⟩
theorem set_dict {X : Cx} (hu : X.A.units + 1 < cLine) : PSet X (fun o i v H Q => ∃ a H', o = .ref a ∧ DPut H a i v H' ∧ Q H') := by
  intro pins s σ H o i v ov iv u Q I ro ri rv h
  obtain ⟨a, H', rfl, g, q⟩ := h
  obtain rfl : ov = Value.ref a := ro
  exact d_setItem hu I g ri rv fun s' I' => ⟨H', I', q⟩
theorem cut63 (ns : List Int) (h : ns.length ≤ 63) : cutV (ns.map V.int) none (some 63) = ns.map V.int := by
  unfold cutV
  rw [List.length_map, HT.sIx_none, show (some (63 : Int)) = some ((63 : Nat) : Int) from rfl, HT.sIx_nat, List.drop_zero, List.take_of_length_le (by rw [List.length_map]; omega)]
def Lim (m : Int) : Prop := 0 < m ∧ m.natAbs < 2 ^ 8000
theorem Lim.div {i m : Int} (h : Lim m) : CDivW i m := ⟨h.1, by
  have h1 : m.natAbs ≠ 0 := by have := h.1; omega
  have h2 := (Nat.log2_lt h1).mpr h.2
  omega⟩
theorem foldl_size (a : Array Nat) : ∀ (m : Nat) (acc : Array Nat), ((List.replicate m a).foldl (· ++ ·) acc).size = acc.size + m * a.size
  | 0, acc => by simp
  | m + 1, acc => by
    rw [List.replicate_succ, List.foldl_cons, foldl_size a m, Array.size_append, Nat.succ_mul]
    omega
/-- a text written n times -/
def strRep (x : Str) (n : Int) : Str := if n < 1 then Str.empty else if (n == 1 || x.length == 0) = true then x else ⟨(List.replicate n.toNat x.cps).foldl (· ++ ·) #[]⟩
theorem op_mul_str {X : Cx} : OpR X (binaryOp .Mult) (fun x y H Q => ∃ a n, x = .str a ∧ y = .int n ∧ 0 ≤ n ∧ n ≤ 1000 ∧ a.length ≤ 1000 ∧ Q (.str (strRep a n)) H) := by
  intro pins s σ H x y v u Q I rx ry h
  obtain ⟨a, n, rfl, rfl, h0, h1, hz, q⟩ := h
  obtain ⟨t, rfl⟩ := rx
  obtain ⟨t', rfl⟩ := ry
  have hsz : a.length * n.toNat ≤ 1000000 := Nat.mul_le_mul hz (show n.toNat ≤ 1000 by omega)
  refine PySem.P.mul_str (by rw [decide_eq_false (by omega), decide_eq_false (by omega)]; rfl) (fun h2 h3 => ?_) (fun h2 h3 => ?_) ?_
  · have h4 : (1001 : Int) ≤ (2 ^ 63 - 1) / n := by
      rw [Int.le_ediv_iff_mul_le (by omega)]
      omega
    omega
  · unfold Builtin.Str.tooLong
    rw [decide_eq_false]
    rw [sizeLine_eq]
    omega
  · unfold strRep at q
    by_cases c1 : n < 1
    · rw [if_pos c1] at q ⊢
      exact ⟨by decide, .str Str.empty, H, I.tok _, ⟨_, rfl⟩, q⟩
    · rw [if_neg c1] at q ⊢
      by_cases c2 : (n == 1 || a.length == 0) = true
      · rw [if_pos c2] at q ⊢
        exact ⟨.str a, H, I, ⟨_, rfl⟩, q⟩
      · rw [if_neg c2] at q ⊢
        refine ⟨?_, .str _, H, I.tok _, ⟨_, rfl⟩, q⟩
        show ((List.replicate n.toNat a.cps).foldl (· ++ ·) #[]).size ≤ sizeLine
        rw [foldl_size, sizeLine_eq]
        have e : n.toNat * a.cps.size ≤ 1000000 := by rw [Nat.mul_comm]; exact hsz
        simp only [Array.size_empty]
        omega
theorem lim_top : Lim (10 ^ 310) := ⟨by decide +kernel, by decide +kernel⟩
theorem lim_le {m k : Int} (h : Lim k) (h0 : 0 < m) (h1 : m ≤ k) : Lim m := ⟨h0, Nat.lt_of_le_of_lt (show m.natAbs ≤ k.natAbs by omega) h.2⟩
theorem lim_small {m : Int} (h0 : 0 < m) (h1 : m ≤ 1000000) : Lim m := lim_le lim_top h0 (Int.le_trans h1 (by decide +kernel))
theorem SameBut.sqL {H H' : Hp} {p l : Addr} {xs : List V} {k : List (Key × V)} (s : SameBut p H H') (hp : H p = some (.dK k)) (h : SqL K H l xs) : SqL K H' l xs := by
  rcases h with (h | ⟨o, h⟩) | h
  · exact .inl (.inl (s _ _ (by rintro rfl; rw [hp] at h; cases h) h))
  · exact .inl (.inr ⟨o, s _ _ (by rintro rfl; rw [hp] at h; cases h) h⟩)
  · exact .inr h
theorem SameBut.sqT {H H' : Hp} {p l : Addr} {xs : List V} {k : List (Key × V)} (s : SameBut p H H') (hp : H p = some (.dK k)) (h : SqT K H l xs) : SqT K H' l xs := by
  rcases h with (h | ⟨o, h⟩) | h
  · exact .inl (.inl (s _ _ (by rintro rfl; rw [hp] at h; cases h) h))
  · exact .inl (.inr ⟨o, s _ _ (by rintro rfl; rw [hp] at h; cases h) h⟩)
  · exact .inr h
theorem SameBut.trans {H1 H2 H3 : Hp} {p : Addr} (a : SameBut p H1 H2) (b : SameBut p H2 H3) : SameBut p H1 H3 := fun q o h e => b q o h (a q o h e)
theorem Same.but {H H' : Hp} (p : Addr) (s : Same H H') : SameBut p H H' := fun b o _ e => s b o e
theorem but_fresh {H H' : Hp} {p D : Addr} {k : List (Key × V)} (s : SameBut p H H') (hp : H' p = some (.dK k)) (h : H' D = none) : H D = none := by
  cases hh : H D with
  | none => rfl
  | some o =>
    by_cases e : D = p
    · rw [e, hp] at h; cases h
    · rw [s _ _ e hh] at h; cases h
theorem but_at {H H2 : Hp} {p D : Addr} {o : HO} (hD : H D = none) (s : SameBut p H H2) : SameBut p H (upd H2 D o) := fun b u n e => by rw [upd_ne (ne_of_none e hD)]; exact s b u n e
/-- all but the tables and what stands at p stay -/
def ExtB (p : Addr) (H H' : Hp) : Prop := ∀ b o, b ≠ p → H b = some o → (∀ ps, o ≠ .tbl ps) → H' b = some o
theorem ExtB.trans {H H1 H2 : Hp} {p : Addr} (a : ExtB p H H1) (b : ExtB p H1 H2) : ExtB p H H2 := fun c o n h t => b c o n (a c o n h t) t
theorem ExtB.but {H H1 : Hp} {p : Addr} (a : SameBut p H H1) : ExtB p H H1 := fun c o n h _ => a c o n h
theorem ExtB.same {H H1 : Hp} (p : Addr) (a : Same H H1) : ExtB p H H1 := fun c o _ h _ => a c o h
theorem ExtB.ext {H H1 : Hp} (p : Addr) (a : ExtN H H1) : ExtB p H H1 := fun c o _ h t => a c o h t
section
variable {H H' : Hp} {p : Addr}
theorem ExtB.sqL {l : Addr} {xs : List V} {k : List (Key × V)} (s : ExtB p H H') (hp : H p = some (.dK k)) (h : SqL K H l xs) : SqL K H' l xs := by
  rcases h with (h | ⟨o, h⟩) | h
  · exact .inl (.inl (s _ _ (fun e => by rw [e, hp] at h; cases h) h (fun ps z => by cases z)))
  · exact .inl (.inr ⟨o, s _ _ (fun e => by rw [e, hp] at h; cases h) h (fun ps z => by cases z)⟩)
  · exact .inr h
end
section
variable {H H' : Hp} {p : Addr}
theorem ExtB.sqT {l : Addr} {xs : List V} {k : List (Key × V)} (s : ExtB p H H') (hp : H p = some (.dK k)) (h : SqT K H l xs) : SqT K H' l xs := by
  rcases h with (h | ⟨o, h⟩) | h
  · exact .inl (.inl (s _ _ (fun e => by rw [e, hp] at h; cases h) h (fun ps z => by cases z)))
  · exact .inl (.inr ⟨o, s _ _ (fun e => by rw [e, hp] at h; cases h) h (fun ps z => by cases z)⟩)
  · exact .inr h
end
section
variable {H H' : Hp} {p : Addr}
theorem Tabs.but {T : List (Addr × Str)} {k : List (Key × V)} (t : Tabs T H) (s : SameBut p H H') (hp : H p = some (.dK k)) : Tabs T H' := fun q hq => by
  obtain ⟨ps, h1, h2, h3⟩ := t q hq
  refine ⟨ps, s _ _ (fun e => by rw [e, hp] at h1; cases h1) h1, h2, fun pos cv hc => ?_⟩
  obtain ⟨c, e1, e2⟩ := h3 pos cv hc
  exact ⟨c, e1, s _ _ (fun e => by rw [e, hp] at e2; unfold CodeO at e2; cases e2) e2⟩
end
theorem noAt {P : Program} {K : PySem.W.Frag} {mg : Str → Option Value} {C fI : Addr} {params : Arguments} {scope : Scope} {l : List Fl} (I : ErrI P K mg C fI params scope l) (k : Nat) {f : Str} (h : (l.map (fun p => p.f))[k]? = some f) : PySem.W.findIn K (.ref C) f = some none := by
  rw [List.getElem?_map] at h
  cases e : l[k]? with
  | none => rw [e] at h; cases h
  | some p =>
    rw [e] at h
    cases h
    exact I.no p (List.mem_of_getElem? e)
theorem ErrG.xf {K : PySem.W.Frag} {C : Addr} (h : ErrG K C) : XfC K C := by
  obtain ⟨h1, h2, h3, h4⟩ := h
  exact ⟨h1, h2, h3, h4⟩

theorem canInts : ∀ ns : List Int, PyData.canLayAll0 (ns.map PyData.int) = true
  | [] => rfl
  | n :: ns => by
    show (PyData.canLay0 (.int n) && PyData.canLayAll0 (ns.map PyData.int)) = true
    rw [canInts ns]
    rfl

theorem depInts : ∀ ns : List Int, PyData.depthAll (ns.map PyData.int) = 0
  | [] => rfl
  | n :: ns => by
    show max (PyData.depth (.int n)) (PyData.depthAll (ns.map PyData.int)) = 0
    rw [depInts ns]
    rfl

theorem shTup (ns : List Int) : SeqAt.shaped (.tuple (ns.map PyData.int)) = true := by
  have e1 : PyData.canLay0 (.tuple (ns.map PyData.int)) = true := canInts ns
  have e2 : PyData.depth (.tuple (ns.map PyData.int)) = 1 := by
    show PyData.depthAll (ns.map PyData.int) + 1 = 1
    rw [depInts ns]
  unfold SeqAt.shaped
  rw [e1, e2]
  rfl

theorem shLst (ns : List Int) : SeqAt.shaped (.list (ns.map PyData.int)) = true := by
  have e1 : PyData.canLay0 (.list (ns.map PyData.int)) = true := canInts ns
  have e2 : PyData.depth (.list (ns.map PyData.int)) = 1 := by
    show PyData.depthAll (ns.map PyData.int) + 1 = 1
    rw [depInts ns]
  unfold SeqAt.shaped
  rw [e1, e2]
  rfl

theorem ne_same {H : Hp} {x y : V} {d : PyData} {Q : VK} (h1 : Dp K H x d) (h2 : Dp K H y d) (sh : SeqAt.shaped d = true) (q : Q (.bl false) H) : rNeD K x y H Q := by
  refine ⟨d, d, h1, h2, sh, sh, ?_⟩
  rw [SeqAt.eqv_refl d (SeqAt.canLay_of_shaped sh)]
  exact q

theorem eq_same {H : Hp} {x y : V} {d : PyData} {Q : VK} (h1 : Dp K H x d) (h2 : Dp K H y d) (sh : SeqAt.shaped d = true) (q : Q (.bl true) H) : rEqD K x y H Q := by
  refine ⟨d, d, h1, h2, sh, sh, ?_⟩
  rw [SeqAt.eqv_refl d (SeqAt.canLay_of_shaped sh)]
  exact q
theorem if_no {c : L2.TT} {t : L2.TS} {D : Ends} {σ : St} {H : Hp} (P : Hp → Prop) (h : ∀ Q : Bool → Hp → Prop, (∀ H1, P H1 → Q false H1) → c σ H Q) (k : ∀ H1, P H1 → D.nx σ H1) : tIfS c t tNext D σ H := h _ fun H1 p => iteF (k H1 p)

theorem if_noS {c : L2.TT} {t u : L2.TS} {D : Ends} {σ : St} {H : Hp} (P : Hp → Prop) (h : ∀ Q : Bool → Hp → Prop, (∀ H1, P H1 → Q false H1) → c σ H Q) (k : ∀ H1, P H1 → u D σ H1) : tSeq (tIfS c t tNext) u D σ H := h _ fun H1 p => iteF (k H1 p)

theorem eqvInts : ∀ a b : List Int, PyData.eqvAll (a.map PyData.int) (b.map PyData.int) = decide (a = b)
  | [], [] => rfl
  | [], _ :: _ => by simp [PyData.eqvAll]
  | _ :: _, [] => by simp [PyData.eqvAll]
  | x :: a, y :: b => by
    show (PyData.eqv (.int x) (.int y) && PyData.eqvAll (a.map PyData.int) (b.map PyData.int)) = _
    rw [eqvInts a b]
    show ((x == y) && decide (a = b)) = _
    by_cases h1 : x = y <;> by_cases h2 : a = b <;> simp [h1, h2]
theorem eqT {H : Hp} {p q : Addr} {a b : List Int} {Q : VK} (h1 : SqT K H p (a.map V.int)) (h2 : SqT K H q (b.map V.int)) (k : Q (.bl (decide (a = b))) H) : rEqD K (.ref p) (.ref q) H Q := by
  refine ⟨_, _, .tup h1 (dpInts a), .tup h2 (dpInts b), shTup a, shTup b, ?_⟩
  show Q (.bl (PyData.eqvAll (a.map PyData.int) (b.map PyData.int))) H
  rw [eqvInts]
  exact k
theorem neT {H : Hp} {p q : Addr} {a b : List Int} {Q : VK} (h1 : SqT K H p (a.map V.int)) (h2 : SqT K H q (b.map V.int)) (k : Q (.bl (!decide (a = b))) H) : rNeD K (.ref p) (.ref q) H Q := by
  refine ⟨_, _, .tup h1 (dpInts a), .tup h2 (dpInts b), shTup a, shTup b, ?_⟩
  show Q (.bl (!PyData.eqvAll (a.map PyData.int) (b.map PyData.int))) H
  rw [eqvInts]
  exact k
theorem slA_mid {H : Hp} {a : Addr} {xs : List V} {lo hi : Nat} {Q : VK} (h : SqT K H a xs) (q : ∀ p H', Same H H' → SqT K H' p ((xs.drop lo).take (hi - lo)) → Q (.ref p) H') : rSlA K (.ref a) (some (lo : Int)) (some (hi : Int)) H Q := by
  refine ⟨a, xs, rfl, h, fun hw => q a H (Same.refl _) ?_, fun _ p hp => q p _ (same_upd hp) (SqT.of ?_)⟩
  · have h1 := hw.1
    have h2 := hw.2
    rw [HT.sIx_nat] at h1 h2
    by_cases e : xs.length = 0
    · have e2 := List.eq_nil_of_length_eq_zero e
      subst e2
      simpa using h
    · have e0 : lo = 0 := by omega
      subst e0
      rw [List.drop_zero, Nat.sub_zero, List.take_of_length_le (by omega)]
      exact h
  · rw [upd_same]
    unfold cutV
    rw [HT.sIx_nat, HT.sIx_nat]
    congr 2
    by_cases h1 : lo ≤ xs.length
    · rw [Nat.min_eq_left h1]
      by_cases h2 : hi ≤ xs.length
      · rw [Nat.min_eq_left h2]
      · rw [Nat.min_eq_right (by omega), List.take_of_length_le (by rw [List.length_drop]; omega), List.take_of_length_le (by rw [List.length_drop]; omega)]
    · rw [show min lo xs.length = xs.length by omega, List.drop_of_length_le (Nat.le_refl _), List.drop_of_length_le (by omega), List.take_nil, List.take_nil]
/-- one of two readings of an operator -/
def rOr (r1 r2 : R2) : R2 := fun x y H Q => r1 x y H Q ∨ r2 x y H Q
theorem op_or {X : Cx} {f : Value → Value → Sem Value} {r1 r2 : R2} (h1 : OpR X f r1) (h2 : OpR X f r2) : OpR X f (rOr r1 r2) := by
  intro pins s σ H x y v u Q I rx ry h
  rcases h with h | h
  · exact h1 pins s σ H x y v u Q I rx ry h
  · exact h2 pins s σ H x y v u Q I rx ry h
theorem joinE {b : Bool} {t1 t2 : TE} {σ : St} {H : Hp} {Q : VK} (P : V → Hp → Prop) (h1 : b = true → ∀ Q' : VK, (∀ v H1, P v H1 → Q' v H1) → t1 σ H Q') (h2 : b = false → ∀ Q' : VK, (∀ v H1, P v H1 → Q' v H1) → t2 σ H Q') (k : ∀ v H1, P v H1 → Q v H1) : if b = true then t1 σ H Q else t2 σ H Q := by
  cases b with
  | true => exact iteT (h1 rfl Q k)
  | false => exact iteF (h2 rfl Q k)
theorem andW {c : Bool} {u : L2.TT} {σ : St} {H : Hp} {A B : Hp → Prop} {P R : Hp → Prop} (h0 : c = false → P H) (h1 : c = true → ∀ Q : Bool → Hp → Prop, (∀ H1, P H1 → Q false H1) → (∀ H1, R H1 → Q true H1) → u σ H Q) (kF : ∀ H1, P H1 → B H1) (kT : ∀ H1, R H1 → A H1) :
    if c = true then u σ H (fun b H1 => if b = true then A H1 else B H1) else (if false = true then A H else B H) := by
  cases c with
  | true => exact iteT (h1 rfl _ (fun H1 p => iteF (kF H1 p)) fun H1 r => iteT (kT H1 r))
  | false => exact iteF (iteF (kF H (h0 rfl)))
theorem Room.u70 {k : Nat} {A : Around} (r : Room k A) : A.units + 70 < cLine := by have := r.un; omega
theorem tru {a : Bool} {Q : VK} {H : Hp} (q : Q (.bl true) H) : Q (.bl (decide (a = a))) H := by rw [decide_eq_true rfl]; exact q

theorem passE0 {X : Cx} : Passes (L2.CX X.prog X.w) X E0 := fun _ _ _ _ _ _ _ h => by
  obtain ⟨_, _, _, _, _, _, _, _, _, _, _, _, e⟩ := h
  exact e.elim
/-- an expression that makes data, and changes nothing -/
def GD (K : PySem.W.Frag) (te : TE) (d : PyData) : Prop := ∀ (σ : St) (H : Hp) (Q : VK), (∀ v H', Same H H' → Dp K H' v d → Q v H') → te σ H Q
def GDs (K : PySem.W.Frag) (ta : TA) (ds : List PyData) : Prop := ∀ (σ : St) (H : Hp) (Q : List V → Hp → Prop), (∀ vs H', Same H H' → DpAll K H' vs ds → Q vs H') → ta σ H Q
theorem gd_int {i : Int} : GD K (tC (.int i)) (.int i) := fun _ H _ q => q _ H (Same.refl _) (.int i)
theorem gd_bl {b : Bool} : GD K (tC (.bl b)) (.bool b) := fun _ H _ q => q _ H (Same.refl _) (.bl b)
theorem gd_non : GD K (tC .non) .none := fun _ H _ q => q _ H (Same.refl _) .non
theorem gd_str {x : Str} : GD K (tC (.str x)) (.str x) := fun _ H _ q => q _ H (Same.refl _) (.str x)
theorem gds_nil : GDs K tNil [] := fun _ H _ q => q _ H (Same.refl _) .nil
theorem gds_cons {te : TE} {ta : TA} {d : PyData} {ds : List PyData} (h1 : GD K te d) (h2 : GDs K ta ds) : GDs K (tCons te ta) (d :: ds) := fun σ H Q q =>
  h1 σ H _ fun v H1 s1 hd => h2 σ H1 _ fun vs H2 s2 hs => q _ _ (s1.trans s2) (.cons (Dp.same s2 hd) hs)
theorem gd_tup {ta : TA} {ds : List PyData} (h : GDs K ta ds) (hl : ds.length ≤ 1000 := by decide) : GD K (tTup ta) (.tuple ds) := fun σ H Q q =>
  h σ H _ fun vs H1 s1 hs => ⟨by rw [DpAll.length hs, sizeLine_eq]; omega, fun p hp => q _ _ (s1.trans (same_upd hp)) (.tup (SqT.of upd_same) (DpAll.same (same_upd hp) hs))⟩
theorem gd_lst {ta : TA} {ds : List PyData} (h : GDs K ta ds) (hl : ds.length ≤ 1000 := by decide) : GD K (tLst ta) (.list ds) := fun σ H Q q =>
  h σ H _ fun vs H1 s1 hs => ⟨by rw [DpAll.length hs, sizeLine_eq]; omega, fun p hp => q _ _ (s1.trans (same_upd hp)) (.lst (SqL.of upd_same) (DpAll.same (same_upd hp) hs))⟩
theorem gd_neg {i : Int} : GD K (tUn (rU fun i => .int (-i)) (tC (.int i))) (.int (-i)) := fun _ H _ q => ⟨i, rfl, q _ H (Same.refl _) (.int (-i))⟩
theorem dp1L {H : Hp} {vl : List V} {ds : List PyData} (h : DpAll K H vl [.list ds]) : ∃ La lx, vl = [.ref La] ∧ SqL K H La lx ∧ DpAll K H lx ds := by
  cases h with
  | cons h t =>
    cases t
    cases h with
    | lst g1 g2 => exact ⟨_, _, rfl, g1, g2⟩
theorem DpAll.app {H : Hp} : ∀ {ds es : List PyData} {xs ys : List V}, DpAll K H xs ds → DpAll K H ys es → DpAll K H (xs ++ ys) (ds ++ es)
  | _, _, _, _, .nil, h => h
  | _, _, _, _, .cons h t, g => .cons h (DpAll.app t g)
theorem DpAll.take {H : Hp} : ∀ {ds : List PyData} {xs : List V} (n : Nat), DpAll K H xs ds → DpAll K H (xs.take n) (ds.take n)
  | _, _, 0, _ => by rw [List.take_zero, List.take_zero]; exact .nil
  | _, _, n + 1, .nil => .nil
  | _, _, n + 1, .cons h t => .cons h (DpAll.take n t)
theorem DpAll.drop {H : Hp} : ∀ {ds : List PyData} {xs : List V} (n : Nat), DpAll K H xs ds → DpAll K H (xs.drop n) (ds.drop n)
  | _, _, 0, h => h
  | _, _, n + 1, .nil => .nil
  | _, _, n + 1, .cons h t => DpAll.drop n t
theorem cutT (xs : List V) (n : Nat) : cutV xs none (some (n : Int)) = xs.take n := by
  unfold cutV
  rw [HT.sIx_none, HT.sIx_nat, List.drop_zero, Nat.sub_zero]
  by_cases h : n ≤ xs.length
  · rw [Nat.min_eq_left h]
  · rw [Nat.min_eq_right (by omega), List.take_length, List.take_of_length_le (by omega)]
theorem cutD (xs : List V) (n : Nat) (h : n ≤ xs.length) : cutV xs (some (n : Int)) none = xs.drop n := by
  unfold cutV
  rw [HT.sIx_none, HT.sIx_nat, Nat.min_eq_left h, List.take_of_length_le (by rw [List.length_drop]; omega)]
theorem repAll {H : Hp} {v : V} {d : PyData} (h : Dp K H v d) : ∀ n : Nat, DpAll K H (List.replicate n [v]).flatten (List.replicate n d)
  | 0 => .nil
  | n + 1 => by
    rw [List.replicate_succ, List.replicate_succ, List.flatten_cons]
    exact .cons h (repAll h n)
theorem shaped_of {d : PyData} (h1 : PyData.canLay0 d = true) (h2 : PyData.depth d ≤ 11) : SeqAt.shaped d = true := by
  unfold SeqAt.shaped
  rw [h1]
  simp only [Bool.true_and]
  exact decide_eq_true (by omega)
section
variable {H H' : Hp} {p : Addr}
theorem tabs_upd {T : List (Addr × Str)} {D : Addr} {ys : List V} {o : HO} (t : Tabs T H) (hD : H D = some (.lst ys)) : Tabs T (upd H D o) := fun q hq => by
  obtain ⟨ps, h1, h2, h3⟩ := t q hq
  refine ⟨ps, by rw [upd_ne (fun e => by rw [e, hD] at h1; cases h1)]; exact h1, h2, fun pos cv hc => ?_⟩
  obtain ⟨c, e1, e2⟩ := h3 pos cv hc
  exact ⟨c, e1, by rw [upd_ne (fun e => by rw [e, hD] at e2; unfold CodeO at e2; cases e2)]; exact e2⟩
end
end
end R4
set_option Elab.async false
set_option linter.all false
set_option maxRecDepth 100000
set_option maxHeartbeats 4000000
/-! general: tuple * 0, tuple * 1 -/
namespace L2
open PySem PySem.Spec PyProof.Rows
theorem tuple_mul0 (l : Addr) (items : Array Value) (n : Nat) (dd : Option Addr) (sl : Array (Option Value)) (u : Tok) (c1 : items.isEmpty = false) :
    Meets (Builtin.«tuple.__mul__» ⟨[.ref l, .int 0 u], []⟩) (fun _ R s => s.heap.get? l = some { cls := .type "tuple", dict := dd, data := .seq items n, slots := sl } ∧
      R (.ok (.ret (Value.ref s.heap.objs.size))) { s with heap := s.heap.push { cls := Value.type "tuple", data := Data.seq #[] }, toks := s.toks }) :=
  .of_wp fun prog w A R s h => by
    obtain ⟨hp, g, d, tk, os⟩ := s
    obtain ⟨hl, h⟩ := h
    have f1 := AutoSeq1.idx_int
    have c2 : (items.isEmpty || (0 : Int) == 1) = false := by rw [c1]; rfl
    have c3 : (decide ((0 : Int) ≤ 0) || items.isEmpty) = true := by rfl
    wp_walk using wpAny_loadPart' hl
    repeat (first
      | (refine wpAny_ite_false (decide_eq_false (by rw [c2]; exact Bool.false_ne_true)) ?_; wp_walk using wpAny_loadPart' hl)
      | (refine wpAny_ite_true (decide_eq_true c3) ?_; wp_walk using wpAny_loadPart' hl)
      | (refine wpAny_ite_false (decide_eq_false (Nat.not_lt.mpr (Nat.zero_le _))) ?_; wp_walk using wpAny_loadPart' hl))
    exact ⟨_, rfl, h⟩
theorem tuple_mul1 (l : Addr) (items : Array Value) (n : Nat) (dd : Option Addr) (sl : Array (Option Value)) (u : Tok) :
    Meets (Builtin.«tuple.__mul__» ⟨[.ref l, .int 1 u], []⟩) (fun _ R s => s.heap.get? l = some { cls := .type "tuple", dict := dd, data := .seq items n, slots := sl } ∧
      R (.ok (.ret (Value.ref l))) s) :=
  .of_wp fun prog w A R s h => by
    obtain ⟨hp, g, d, tk, os⟩ := s
    obtain ⟨hl, h⟩ := h
    have f1 := AutoSeq1.idx_int
    have c2 : (items.isEmpty || (1 : Int) == 1) = true := by rw [Bool.or_eq_true]; exact .inr rfl
    wp_walk using wpAny_loadPart' hl
    repeat (first
      | (refine wpAny_ite_true (decide_eq_true c2) ?_; wp_walk using wpAny_loadPart' hl))
    exact ⟨_, rfl, h⟩
theorem sameU {H : Hp} {p : Addr} {o : HO} (h : H p = none) : Same H (upd H p o) := fun b ob e => by
  rw [upd_ne (fun z => by rw [z, h] at e; cases e)]
  exact e
/-- t * k, t not empty, any k from 0 -/
def rRepA (K : PySem.W.Frag) : R2 := fun x y H Q => ∃ l k xs, x = .ref l ∧ y = .int k ∧ SqT K H l xs ∧ xs ≠ [] ∧ 0 ≤ k ∧ (2 ≤ k → k ≤ 1000 ∧ xs.length ≤ 1000) ∧ ∀ p H', Same H H' → SqT K H' p (List.replicate k.toNat xs).flatten → Q (.ref p) H'
section
variable {X : Cx}
theorem op_repA : OpR X (binaryOp .Mult) (rRepA X.K) := by
  intro pins s σ H x y v u Q I rx ry h
  obtain ⟨l, k, xs, rfl, rfl, hT, hne, h1, h2, q⟩ := h
  by_cases c2 : 2 ≤ k
  · exact op_repT pins s σ H _ _ v u Q I rx ry ⟨l, k, xs, rfl, rfl, hT, hne, c2, (h2 c2).1, (h2 c2).2, fun p hp => q p _ (sameU hp) (SqT.of upd_same)⟩
  cases rx
  obtain ⟨t, rfl⟩ := ry
  obtain ⟨its, r, ⟨⟨cls, dd, data, sl⟩, ho, hc, n, hd⟩, hs⟩ := I.tuple hT
  simp only at hc hd
  subst hc hd
  have hle : its.length = xs.length := r.length.symm
  have hi : its.toArray.isEmpty = false := by
    cases its with
    | nil => exact absurd (List.eq_nil_of_length_eq_zero hle.symm) hne
    | cons a b => rfl
  by_cases c0 : k = 0
  · subst c0
    refine wpAny_binaryOp_repeat_ref (T := "tuple") (U := "int") (by decide) ⟨_, ho, rfl⟩ (fun s' => typeIs_int s' 0 t) noFill_tuple_mul F.fills_int_mul F.slot_int_rmul repeat_tuple F.slot_int_index.lookup
      (call_meets F.slot_int_rmul (typeIs_int s 0 t) F.entry_int_rmul (F.args_int_rmul_2 _ _) (int_rmul_tuple 0 t l its.toArray n dd sl)
        ⟨ho, rfl, ⟨_, ho, rfl⟩, call_meets F.slot_tuple_mul ⟨_, ho, rfl⟩ F.entry_tuple_mul (F.args_tuple_mul_2 _ _) (tuple_mul0 l its.toArray n dd sl t hi) ⟨ho, ?_⟩⟩)
    refine ⟨.ref s.heap.objs.size, _, I.laid (t' := s.toks) (o := .tup []) (fun b ob q => Heap.get?_push_of_some _ q) (Nat.le_refl _) ?_, rfl, q _ _ (sameU (I.hok.fresh (Nat.le_refl _))) (SqT.of upd_same)⟩
    exact ⟨Nat.zero_le _, [], .nil, IsTup.new _ _⟩
  · have c1 : k = 1 := by omega
    subst c1
    refine wpAny_binaryOp_repeat_ref (T := "tuple") (U := "int") (by decide) ⟨_, ho, rfl⟩ (fun s' => typeIs_int s' 1 t) noFill_tuple_mul F.fills_int_mul F.slot_int_rmul repeat_tuple F.slot_int_index.lookup
      (call_meets F.slot_int_rmul (typeIs_int s 1 t) F.entry_int_rmul (F.args_int_rmul_2 _ _) (int_rmul_tuple 1 t l its.toArray n dd sl)
        ⟨ho, rfl, ⟨_, ho, rfl⟩, call_meets F.slot_tuple_mul ⟨_, ho, rfl⟩ F.entry_tuple_mul (F.args_tuple_mul_2 _ _) (tuple_mul1 l its.toArray n dd sl t) ⟨ho, ?_⟩⟩)
    refine ⟨.ref l, H, I, rfl, q _ _ (fun _ _ e => e) ?_⟩
    rw [show (List.replicate (1 : Int).toNat xs).flatten = xs by simp]
    exact hT
end
end L2
set_option Elab.async false
set_option linter.all false
set_option maxRecDepth 100000
set_option maxHeartbeats 4000000
/-! general: comprehensions over range(a, b, c); t[::k] of mapped lists -/
namespace L2
open PySem PySem.Spec PyProof.Rows
theorem lc_rangeC {lo c : Int} {n : Nat} {g : TG} {tt : TT} {te : TE} {vs : List Nat} {σ : St} {H1 : Hp} {D : Addr} {Qd : Hp → Prop} (Pv : Nat → Hp → Prop) (h0 : Pv 0 (upd H1 D (.lst [])))
    (hs : ∀ i H, i < n → Pv i H → g (.int (lo + (i : Nat) * c)) (wipe σ vs) H fun σ2 H2 => wipe σ2 vs = wipe σ vs ∧ tt σ2 H2 fun b H3 =>
      if b = true then te σ2 H3 fun y H4 => ∃ acc, H4 D = some (.lst acc) ∧ acc.length < sizeLine ∧ Pv (i + 1) (upd H4 D (.lst (acc ++ [y]))) else Pv (i + 1) H3) (hd : ∀ H, Pv n H → Qd H) :
    ∃ W : Nat → Nat → Hp → Prop, (∃ m, W 0 m (upd H1 D (.lst []))) ∧ ∀ i m H, W i m H →
      ((Itc lo c n).stop i H ∧ Qd H) ∨ ((Itc lo c n).go i H ∧ ∃ Nx : Hp → Prop, (∀ H', Nx H' → ∃ m', m' < m ∧ W (i + 1) m' H') ∧ ∀ x H', (Itc lo c n).yld i H x H' → g x (wipe σ vs) H' fun σ2 H2 => wipe σ2 vs = wipe σ vs ∧ tt σ2 H2 fun b H3 =>
        if b = true then te σ2 H3 fun y H4 => ∃ acc, H4 D = some (.lst acc) ∧ acc.length < sizeLine ∧ Nx (upd H4 D (.lst (acc ++ [y]))) else Nx H3) := by
  refine ⟨fun i m H => m = n - i ∧ i ≤ n ∧ Pv i H, ⟨n, by simp, Nat.zero_le _, h0⟩, ?_⟩
  rintro i m H ⟨rfl, hi, p⟩
  by_cases hlt : i < n
  · refine .inr ⟨hlt, Pv (i + 1), fun H' p' => ⟨n - (i + 1), by omega, rfl, hlt, p'⟩, fun x H' y => ?_⟩
    obtain ⟨e, y⟩ := y
    subst e y
    exact hs i _ hlt p
  · have e : i = n := by omega
    subst e
    exact .inl ⟨Nat.le_refl _, hd H p⟩
theorem call_reprN {Y : Cx} (hg : Y.A.guards = some []) (hu : Y.A.units + 70 < cLine) : CallR Y.nox (.builtin "repr") (rRepr Y.K) := call_repr (X := Y.nox) hg hu
end L2
namespace HT
theorem stepN_lt {n k m : Nat} (hk : 1 ≤ k) (h : m < stepN n k) : m * k < n := by
  unfold stepN at h
  split at h
  · have h1 : m ≤ (n - 1) / k := by omega
    have h2 : m * k ≤ n - 1 := (Nat.le_div_iff_mul_le (by omega)).mp h1
    omega
  · omega
theorem stepL_map {α β : Type} (f : α → β) (xs : List α) (k : Nat) : stepL (xs.map f) k = (stepL xs k).map f := by
  unfold stepL
  rw [List.length_map, List.map_filterMap]
  congr 1
  funext m
  rw [List.getElem?_map]
theorem stepL_get (xs : List Int) (k : Nat) (hk : 1 ≤ k) : stepL xs k = (List.range (stepN xs.length k)).map fun m => xs.getD (m * k) 0 := by
  unfold stepL
  have key : ∀ l : List Nat, (∀ m ∈ l, m * k < xs.length) → (l.filterMap fun m => xs[m * k]?) = l.map fun m => xs.getD (m * k) 0 := by
    intro l
    induction l with
    | nil => intro _; rfl
    | cons m l ih =>
      intro h
      have e : xs[m * k]? = some (xs.getD (m * k) 0) := by
        rw [List.getD_eq_getElem?_getD, List.getElem?_eq_getElem (h m List.mem_cons_self)]
        rfl
      rw [List.filterMap_cons_some (f := fun m => xs[m * k]?) e, List.map_cons, ih fun z hz => h z (List.mem_cons_of_mem _ hz)]
  exact key _ fun m hm => stepN_lt hk (List.mem_range.mp hm)
end HT
namespace L2
open PySem
theorem rgc75 : ∀ n, n < 76 → RgC 0 ((n : Nat) : Int) ((1 + n / 12 : Nat) : Int) (HT.stepN n (1 + n / 12)) := by
  unfold RgC
  decide +kernel
end L2
set_option Elab.async false
set_option linter.all false
set_option maxRecDepth 100000
set_option maxHeartbeats 4000000
/-! general: the end of a law row, the law called where no repr is under way -/
namespace LamX
open PySem PySem.Spec PyProof.Rows L2
theorem law_callTsG {P : Program} {w : World} {K : PySem.W.Frag} {mg mb : Str → Option Value} {CX : CXT} {k : Nat} {fa a : Addr} {cs : List (Addr × Addr)} {fd : FuncData} {x : Str} {sp : Sp} {s₁ : Shared} {vs : List Value} {ns : List Int}
    (KX : K.In s₁.heap) (hns : s₁.heap.Ns mainGlobals mg) (hb : s₁.heap.Ns builtinsNs mb) (hbb : ∀ x : Str, x ≠ "__name__" → mb x = bootBuiltins x) (hlim : s₁.heap.NoLimit) (hg : s₁.gens = #[])
    (hT : ∀ p ∈ cs, s₁.heap.get? p.2 = some { cls := .none, data := .fields #[] }) (nT : ∀ p ∈ cs, K.lookup p.2 = none) (C : ∀ p ∈ cs, PySem.W.CodeHd s₁.heap p.1 p.2)
    (hbm : ∃ (bm : Addr) (ob : Obj), mg "__builtins__" = some (.ref bm) ∧ bm ≠ builtinsNs ∧ s₁.heap.get? bm = some ob ∧ ob.cls = .type "module" ∧ ob.dict = some builtinsNs ∧ ob.data = .plain)
    (ha : s₁.heap.get? a = some { cls := .type "list", data := .seq vs.toArray }) (hi : IntsAre vs ns) (hl : ns.length ≤ sizeLine) (hr : Room k callerA)
    (F : ∀ base : Heap, K.In base → base.Ns mainGlobals mg → (∀ p ∈ cs, TabB base mg p.1 p.2) → FnOkG P w K mg base CX k fa fd [x] sp) (hbind : ∀ (s : Shared) (u : Value), BindsTo s fd ⟨[u], []⟩ [(x, u)])
    (hsp : ∀ H : Hp, (∀ p ∈ cs, H p.2 = some (.tbl #[])) → SqL K H a (ns.map V.int) → sp [.ref a] H (fun v _ => v = .bl true) fun _ _ _ => False)
    (hCX : ∀ H e s', CX [] H s₁ (fun _ _ _ => False) e s' → False) :
    codeAny (model P w) callerA (.call (.ref fa) ⟨[.ref a], []⟩) (fun r s' => r = .ok (.ret (.bool true)) ∧ OldK s₁.heap s'.heap ∧ s'.os = s₁.os ∧ AllBare s'.gens) s₁ := by
  have rv := vals_ints hi
  have lenV := hi.length
  have isT : ∀ b : Addr, b ∈ cs.map (·.2) → s₁.heap.get? b = some { cls := .none, data := .fields #[] } := fun b hb => by
    obtain ⟨p, hp, e⟩ := List.mem_map.mp hb
    rw [← e]
    exact hT p hp
  have aT : a ∉ cs.map (·.2) := fun z => by
    have q := isT a z
    rw [ha] at q
    have z' : Data.seq vs.toArray _ = Data.fields #[] := congrArg Obj.data (Option.some.inj q)
    cases z'
  have memT : ∀ p ∈ cs, p.2 ∈ cs.map (·.2) := fun p hp => List.mem_map.mpr ⟨p, hp, rfl⟩
  -- from an abstract heap in which nothing but the script and the tables may be tracked
  have core : ∀ H : Hp, (∀ p ∈ cs, H p.2 = some (.tbl #[])) → (∀ b, H b = none ∨ b ∈ cs.map (·.2) ∨ ∃ o xs, H b = some (.frz o (.lst xs))) → SqL K H a (ns.map V.int) → HOk P w H s₁.heap → (∀ b, H b ≠ none → b = a ∨ b ∈ cs.map (·.2)) → (H a ≠ none → K.lookup a = none) →
      codeAny (model P w) callerA (.call (.ref fa) ⟨[.ref a], []⟩) (fun r s' => r = .ok (.ret (.bool true)) ∧ OldK s₁.heap s'.heap ∧ s'.os = s₁.os ∧ AllBare s'.gens) s₁ := by
    intro H hH hO hS hok hA hK
    have base_of : ∀ {b : Addr} {o : Obj}, s₁.heap.get? b = some o → H b = none → (hidT s₁.heap H).get? b = some o := fun e n => hidT_get e n
    have noD : ∀ {b : Addr} {o : Obj}, s₁.heap.get? b = some o → (∀ vs n, o.data ≠ .seq vs n) → o.data ≠ .fields #[] → H b = none := fun {b o} e h1 h2 => by
      cases q : H b with
      | none => rfl
      | some u =>
        rcases hA b (by rw [q]; simp) with e' | e'
        · rw [e', ha] at e
          cases e
          exact (h1 _ _ rfl).elim
        · rw [isT b e'] at e
          cases e
          exact (h2 rfl).elim
    have noA : ∀ {b : Addr} {o : Obj} {es : Array DictEntry} {ep : Nat}, s₁.heap.get? b = some o → o.data = .dict es ep → H b = none := fun {b o es ep} e d => by
      refine noD e (fun vs n z => ?_) fun z => ?_
      · rw [d] at z
        cases z
      · rw [d] at z
        cases z
    have nsK : ∀ {b : Addr} {m : Str → Option Value}, s₁.heap.Ns b m → (hidT s₁.heap H).Ns b m := fun {b m} ⟨o, es, ep, e, d, r⟩ => ⟨o, es, ep, base_of e (noA e d), d, r⟩
    have hKb : K.In (hidT s₁.heap H) := fun b o e => base_of (KX b o e) (by
      cases q : H b with
      | none => rfl
      | some u =>
        rcases hA b (by rw [q]; simp) with e' | e'
        · rw [e'] at e q
          rw [hK (by rw [q]; simp)] at e
          cases e
        · obtain ⟨p, hp, ep⟩ := List.mem_map.mp e'
          rw [← ep, nT p hp] at e
          cases e)
    have hM : L2.Mod K mg (hidT s₁.heap H) := ⟨hKb, nsK hns, ⟨mb, nsK hb, hbb⟩, let ⟨mc, h1, h2⟩ := hlim; ⟨mc, nsK h1, h2⟩⟩
    have TB : ∀ p ∈ cs, TabB (hidT s₁.heap H) mg p.1 p.2 := fun p hp => by
      have hTp := hT p hp
      refine ⟨?_, ?_, fun z => ?_⟩
      · obtain ⟨o, us, file, tf, flags, tg, inF, text, tt, e1, r1, r2, r3, r4, r5, r6, r7, r8, hne⟩ := C p hp
        refine ⟨o, us, file, tf, flags, tg, inF, text, tt, base_of e1 (noD e1 (fun vs n z => ?_) fun z => ?_), r1, r2, r3, r4, r5, r6, r7, r8, hne⟩
        · rw [r2] at z
          cases z
        · rw [r2] at z
          cases z
          simp at r3
      · obtain ⟨bm, ob, b1, b2, b3, b4, b5, b6⟩ := hbm
        have nG : bm ≠ mainGlobals := fun q => by
          obtain ⟨o, es, ep, e, hd, _⟩ := hns
          rw [q, e] at b3
          cases b3
          rw [hd] at b6
          cases b6
        have nP : bm ≠ p.2 := fun q => by
          rw [q, hTp] at b3
          cases b3
          cases b6
        refine ⟨bm, ob, b1, b2, nG, nP, base_of b3 (noD b3 (fun vs n z => ?_) fun z => ?_), b4, b5, b6⟩
        · rw [b6] at z
          cases z
        · rw [b6] at z
          cases z
      · obtain ⟨o, es, ep, e, hd, _⟩ := hns
        rw [z, hTp] at e
        cases e
        cases hd
    have e0 : Env0 P w K mg (hidT s₁.heap H) callerA [] s₁ H := ⟨rfl, hM, fun b o e => of_hidT e, Nat.le_of_eq (hidT_size _ _), trivial, fun b hb => absurd (show b ∈ ([] : List Addr) from hb) (by simp), hok, .of_eq hg⟩
    refine codeAny_mono ((F _ hKb (nsK hns) TB).run callerA [] s₁ H ⟨[.ref a], []⟩ [.ref a] [.ref a] _ _ rfl hr e0 (hbind s₁ (.ref a)) (.cons rfl .nil) (hsp H hH hS)) fun r s' h => ?_
    cases r with
    | error e => exact (hCX H e s' h).elim
    | ok fl =>
      cases fl with
      | next => exact False.elim h
      | brk => exact False.elim h
      | cont => exact False.elim h
      | ret u =>
        obtain ⟨v, H', os, bare, un, hok', r', q⟩ := h
        have q' : v = .bl true := q
        subst q'
        obtain rfl : u = Value.bool true := r'
        have key : ∀ b o, b ∉ cs.map (·.2) → s₁.heap.get? b = some o → s'.heap.get? b = some o := fun b o nb e => by
          cases q : H b with
          | none => exact un.keep b o e q (by intro z; exact absurd (show b ∈ ([] : List Addr) from z) (by simp)) (by simp)
          | some u =>
            rcases hO b with z | z | ⟨ob, xs, z⟩
            · rw [q] at z; cases z
            · exact absurd z nb
            · have z2 := un.frzs b ob _ z
              obtain ⟨e1, _⟩ := hok b _ z
              obtain ⟨e2, _⟩ := hok' b _ z2
              rw [e] at e1; cases e1
              exact e2
        have grown : ∀ p ∈ cs, ∃ more : Array Value, s'.heap.get? p.2 = some { cls := .none, data := .fields more } := fun p hp => by
          obtain ⟨more, z⟩ := un.tbls p.2 #[] (hH p hp)
          exact ⟨_, hok' p.2 _ z⟩
        refine ⟨rfl, ⟨fun b o e => ?_, fun b o e => ?_⟩, os, bare⟩
        · by_cases hb : b ∈ cs.map (·.2)
          · obtain ⟨p, hp, ep⟩ := List.mem_map.mp hb
            obtain ⟨more, hm⟩ := grown p hp
            rw [← ep] at e ⊢
            rw [hT p hp] at e
            cases e
            exact .inr (.inl ⟨((C p hp).tab (hT p hp)).isCodeTable, rfl, #[], more, rfl, by rw [Array.empty_append]; exact hm⟩)
          · exact .inl (key b o hb e)
        · by_cases hb : b ∈ cs.map (·.2)
          · obtain ⟨p, hp, ep⟩ := List.mem_map.mp hb
            obtain ⟨more, hm⟩ := grown p hp
            rw [← ep]
            exact ⟨_, hm⟩
          · exact ⟨o, key b o hb e⟩
  cases hk : K.lookup a with
  | some o =>
    have e := KX a o hk
    rw [ha] at e
    cases e
    refine core (fun b => if b ∈ cs.map (·.2) then some (.tbl #[]) else none) (fun p hp => if_pos (memT p hp)) (fun b => ?_) (.inr ⟨_, vs.toArray, _, hk, rfl, rfl, rfl, by rw [List.size_toArray, lenV]; exact hl, by simpa using rv⟩) (fun b u z => ?_) (fun b z => ?_) fun z => absurd (show (if a ∈ cs.map (·.2) then some (HO.tbl #[]) else none) = none from if_neg aT) z
    · by_cases hb : b ∈ cs.map (·.2)
      · exact .inr (.inl hb)
      · exact .inl (if_neg hb)
    · by_cases hb : b ∈ cs.map (·.2)
      · have z' := (if_pos hb).symm.trans z
        cases z'
        exact isT b hb
      · have z' := (if_neg hb).symm.trans z
        cases z'
    · by_cases hb : b ∈ cs.map (·.2)
      · exact .inr hb
      · exact absurd (if_neg hb) z
  | none =>
    refine core (fun b => if b = a then some (.frz { cls := .type "list", data := .seq vs.toArray } (.lst (ns.map V.int))) else if b ∈ cs.map (·.2) then some (.tbl #[]) else none) (fun p hp => (if_neg (show ¬ p.2 = a from fun z => aT (by rw [← z]; exact memT p hp))).trans (if_pos (memT p hp))) (fun b => ?_)
      (.inl (.inr ⟨{ cls := .type "list", data := .seq vs.toArray }, if_pos rfl⟩)) (fun b u z => ?_) (fun b z => ?_) fun _ => hk
    · by_cases hb : b = a
      · exact .inr (.inr ⟨_, _, if_pos hb⟩)
      · by_cases hb2 : b ∈ cs.map (·.2)
        · exact .inr (.inl hb2)
        · exact .inl ((if_neg hb).trans (if_neg hb2))
    · by_cases hb : b = a
      · have z' := (if_pos hb).symm.trans z
        cases z'
        rw [hb]
        exact ⟨ha, by rw [List.length_map]; exact hl, vs, _, rv, ha⟩
      · have z1 := (if_neg hb).symm.trans z
        by_cases hb2 : b ∈ cs.map (·.2)
        · have z' := (if_pos hb2).symm.trans z1
          cases z'
          exact isT b hb2
        · have z' := (if_neg hb2).symm.trans z1
          cases z'
    · by_cases hb : b = a
      · exact .inl hb
      · by_cases hb2 : b ∈ cs.map (·.2)
        · exact .inr hb2
        · exact absurd ((if_neg hb).trans (if_neg hb2)) z

def LawAtG (l : PySem.W.OpenLaw) (w : World) (K : PySem.W.Frag) (CX : CXT) (k n : Nat) (x : Str) (mg : Str → Option Value) (fa : Addr) (h : Heap) : Prop :=
  ∃ (fd : FuncData) (cs : List (Addr × Addr)) (sp : Sp), (∀ p ∈ cs, h.get? p.2 = some { cls := .none, data := .fields #[] }) ∧ (∀ p ∈ cs, K.lookup p.2 = none) ∧ (∀ p ∈ cs, PySem.W.CodeHd h p.1 p.2) ∧ (∀ (s : Shared) (u : Value), BindsTo s fd ⟨[u], []⟩ [(x, u)]) ∧
    (∀ (H : Hp) (a : Addr) (ns : List Int), ns.length ≤ n → (∀ p ∈ cs, H p.2 = some (.tbl #[])) → SqL K H a (ns.map V.int) → sp [.ref a] H (fun v _ => v = .bl true) fun _ _ _ => False) ∧
    ∀ base : Heap, K.In base → base.Ns mainGlobals mg → (∀ p ∈ cs, TabB base mg p.1 p.2) → FnOkG l.prog w K mg base CX k fa fd [x] sp
theorem walk_ofTsG {l : PySem.W.OpenLaw} {n k : Nat} {q : Program} {loose : List Str} {XP : (Str → Option Value) → Heap → Prop} {YP : World → Heap → Prop} {d : DefRec} {CX : World → CXT} {x : Str}
    (hn : l.most = some n) (hn2 : n ≤ sizeLine) (hdf : d.params.defaults = []) (hr : Room k callerA)
    (F : ∀ (w : World) (mg : Str → Option Value) (fa : Addr) (h : Heap), YP w h → h.Ns mainGlobals mg → mg d.name = some (.ref fa) → ∃ K : PySem.W.Frag, K.In h ∧ LawAtG l w K (CX w) k n x mg fa h)
    (hCX : ∀ (w : World) (H : Hp) (s : Shared) (e : Value) (s' : Shared), CX w [] H s (fun _ _ _ => False) e s' → False) :
    PySem.W.WalkO q loose XP YP l.row.toRowW d [] (fun f vs => PySem.call f vs) := by
  refine Att.attach_callB hn hdf fun w s₀ s₁ mg mb fa o pm cd doc a vs ns G Y ho hd hcd hmg hobj hints hlen hbits hg => ?_
  obtain ⟨K, KX, fd, cs, sp, hT, nT, C, hb, hsp, hF⟩ := F w mg fa _ Y G.T.g hmg
  exact law_callTsG KX G.T.g G.T.b G.T.builtins G.T.nolimit hg hT nT C G.T.bmain hobj hints (Nat.le_trans hlen hn2) hr hF hb (fun H hH hS => hsp H a ns hlen hH hS) fun H e s' => hCX w H s₁ e s'
end LamX
set_option Elab.async false
set_option linter.all false
set_option maxRecDepth 100000
set_option maxHeartbeats 4000000
/-! general: sets of ints and texts that can be walked: made of a text or a list, added to, counted, sorted; set comprehensions -/
namespace SM
open PySem PySem.Spec PyProof.Rows L2
def keyE (e : Int × Value) : Key := match e.2 with
  | .int k _ => .inl k
  | .str x _ => .inr x
  | _ => .inl 0
def GoodK (w : World) (e : Int × Value) : Prop := ∃ k, keyIs k e.2 = true ∧ e.1 = keyH w k
theorem keyE_of {k : Key} {h : Int} {u : Value} (r : keyIs k u = true) : keyE (h, u) = k := by
  rcases keyIs_shape r with ⟨i, t, rfl, rfl⟩ | ⟨x, t, rfl, rfl⟩ <;> rfl
theorem scan_of {k : Key} {u : Value} (r : keyIs k u = true) : u.scannable = true := by
  rcases keyIs_shape r with ⟨i, t, rfl, rfl⟩ | ⟨x, t, rfl, rfl⟩ <;> rfl
theorem GoodK.is {w : World} {e : Int × Value} (g : GoodK w e) : keyIs (keyE e) e.2 = true := by
  obtain ⟨k, h1, _⟩ := g
  have q : keyE e = k := keyE_of (h := e.1) (u := e.2) h1
  rw [q]
  exact h1
/-- whether a key is among some -/
def memK (ks : List Key) (k : Key) : Bool := ks.any fun x => decide (x = k)
theorem memK_iff {ks : List Key} {k : Key} : memK ks k = true ↔ k ∈ ks := by
  unfold memK
  rw [List.any_eq_true]
  constructor
  · rintro ⟨x, hx, e⟩
    rw [← of_decide_eq_true e]
    exact hx
  · intro h
    exact ⟨k, h, decide_eq_true rfl⟩
/-- the set at a has the members ks, each once; its table can be walked -/
def SetM (w : World) (h : Heap) (a : Addr) (ks : List Key) : Prop :=
  ∃ o es ep t, h.get? a = some o ∧ o.ExactSet ∧ o.data = .set es ep t ∧ (∀ e ∈ es.toList, GoodK w e) ∧ (es.toList.map keyE).Perm ks ∧ ks.Nodup ∧
    es.size < scanBound ∧ t.fits es.size = true ∧ Ris t.place.toList ∧ (w.params.followText "set-order" = true ∨ t.led = true)
section
variable {P : Program} {w : World} {h h' : Heap} {a : Addr} {ks : List Key}
theorem SetM.at (R : SetM w h a ks) (k : ∀ o, h.get? a = some o → h'.get? a = some o) : SetM w h' a ks := by
  obtain ⟨o, es, ep, t, ho, r⟩ := R
  exact ⟨o, es, ep, t, k o ho, r⟩
theorem SetM.nodup (R : SetM w h a ks) : ks.Nodup := by
  obtain ⟨o, es, ep, t, ho, _, _, _, _, nd, _⟩ := R
  exact nd
theorem SetM.typeIs {s : Shared} (R : SetM w s.heap a ks) : s.TypeIs (.ref a) "set" := by
  obtain ⟨o, es, ep, t, ho, hx, _⟩ := R
  exact ⟨o, ho, hx.1⟩
theorem elems_ok {l : List (Int × Value)} (g : ∀ e ∈ l, GoodK w e) : ElemsOf (mixKind P w) l := fun e he => by
  obtain ⟨k, h1, h2⟩ := g e he
  exact ⟨⟨k, h1, h2⟩, scan_of h1⟩
theorem is_iff {e : Int × Value} (g : GoodK w e) (k : Key) : (mixKind P w).is k e.2 = true ↔ keyE e = k := by
  constructor
  · intro q
    exact keyE_of (h := e.1) (u := e.2) q
  · intro q
    rw [← q]
    exact g.is
theorem mem_iff {l : List (Int × Value)} (g : ∀ e ∈ l, GoodK w e) (k : Key) : k ∈ l.map keyE ↔ ∃ e ∈ l, (mixKind P w).is k e.2 = true := by
  rw [List.mem_map]
  constructor
  · rintro ⟨e, he, q⟩
    exact ⟨e, he, (is_iff (g e he) k).2 q⟩
  · rintro ⟨e, he, q⟩
    exact ⟨e, he, (is_iff (g e he) k).1 q⟩
theorem SetM.setOf (R : SetM w h a ks) : h.SetOf (mixKind P w) a (fun k => memK ks k) ks.length := by
  obtain ⟨o, es, ep, t, ho, hx, hd, g, pm, nd, hb, hf, _⟩ := R
  refine ⟨o, es, ep, t, ho, hx, hd, elems_ok g, fun k => ?_, hb, hf, ?_⟩
  · show memK ks k = true ↔ _
    rw [memK_iff, ← pm.mem_iff]
    exact mem_iff g k
  · rw [← pm.length_eq, List.length_map, Array.length_toList]
theorem SetM.perm {ks' : List Key} (R : SetM w h a ks) (p : ks.Perm ks') : SetM w h a ks' := by
  obtain ⟨o, es, ep, t, ho, hx, hd, g, pm, nd, r⟩ := R
  exact ⟨o, es, ep, t, ho, hx, hd, g, pm.trans p, p.nodup_iff.mp nd, r⟩
end
/-- one more member -/
def insK (ks : List Key) (k : Key) : List Key := if memK ks k = true then ks else ks ++ [k]
theorem insK_in {ks : List Key} {k : Key} (h : k ∈ ks) : insK ks k = ks := by unfold insK; rw [if_pos (memK_iff.mpr h)]
theorem insK_out {ks : List Key} {k : Key} (h : k ∉ ks) : insK ks k = ks ++ [k] := by unfold insK; rw [if_neg fun q => h (memK_iff.mp q)]
theorem insK_len (ks : List Key) (k : Key) : (insK ks k).length ≤ ks.length + 1 := by
  unfold insK
  split
  · omega
  · rw [List.length_append]; exact Nat.le_refl _
theorem mem_insK {ks : List Key} {k x : Key} : x ∈ insK ks k ↔ x ∈ ks ∨ x = k := by
  unfold insK
  split
  · rename_i h
    exact ⟨.inl, fun q => q.elim id fun e => e ▸ memK_iff.mp h⟩
  · rw [List.mem_append, List.mem_singleton]
/-- the members of a list, each once -/
def dedK (xs : List Key) : List Key := xs.foldl insK []
theorem mem_fold (xs : List Key) : ∀ (acc : List Key) (x : Key), x ∈ xs.foldl insK acc ↔ x ∈ acc ∨ x ∈ xs := by
  induction xs with
  | nil => intro acc x; simp
  | cons y xs ih =>
    intro acc x
    rw [List.foldl_cons, ih, mem_insK, List.mem_cons, or_assoc]
theorem mem_dedK {xs : List Key} {x : Key} : x ∈ dedK xs ↔ x ∈ xs := by
  unfold dedK
  rw [mem_fold]
  simp
theorem fold_len (xs : List Key) : ∀ acc : List Key, (xs.foldl insK acc).length ≤ acc.length + xs.length := by
  induction xs with
  | nil => intro acc; exact Nat.le_refl _
  | cons y xs ih =>
    intro acc
    rw [List.foldl_cons, List.length_cons]
    have := ih (insK acc y)
    have := insK_len acc y
    omega
theorem dedK_len (xs : List Key) : (dedK xs).length ≤ xs.length := by
  have := fold_len xs []
  unfold dedK
  simpa using this
theorem insK_nodup {ks : List Key} {k : Key} (h : ks.Nodup) : (insK ks k).Nodup := by
  unfold insK
  split
  · exact h
  · rename_i q
    exact List.nodup_append.mpr ⟨h, List.nodup_cons.mpr ⟨List.not_mem_nil, List.nodup_nil⟩, fun a ha b hb e => q (memK_iff.mpr (by rw [← List.mem_singleton.mp hb, ← e]; exact ha))⟩
theorem fold_nodup (xs : List Key) : ∀ acc : List Key, acc.Nodup → (xs.foldl insK acc).Nodup := by
  induction xs with
  | nil => intro acc h; exact h
  | cons y xs ih => intro acc h; exact ih _ (insK_nodup h)
theorem dedK_nodup (xs : List Key) : (dedK xs).Nodup := fold_nodup xs [] List.nodup_nil
theorem dedK_of_nodup {xs : List Key} (h : xs.Nodup) : dedK xs = xs := by
  have key : ∀ (xs acc : List Key), (acc ++ xs).Nodup → xs.foldl insK acc = acc ++ xs := by
    intro xs
    induction xs with
    | nil => intro acc _; simp
    | cons y xs ih =>
      intro acc hn
      have hy : y ∉ acc := fun q => (List.nodup_append.mp hn).2.2 y q y List.mem_cons_self rfl
      rw [List.foldl_cons]
      have e : insK acc y = acc ++ [y] := insK_out hy
      rw [e, ih (acc ++ [y]) (by rw [List.append_assoc]; exact hn), List.append_assoc]
      rfl
  exact key xs [] (by simpa using h)
theorem take_ded {xs : List Key} {i : Nat} {x : Key} (h : xs[i]? = some x) : dedK (xs.take (i + 1)) = insK (dedK (xs.take i)) x := by
  unfold dedK
  rw [List.take_add_one, h]
  show (xs.take i ++ [x]).foldl insK [] = _
  rw [List.foldl_append]
  rfl
section
variable {P : Program} {w : World} {A : Around} {E : Value → Shared → Prop} {s : Shared} {a : Addr} {ks : List Key}
theorem add_tail {g : Bool → Sem Unit} (hg : ∀ (b : Bool) (s₁ : Shared) (Q' : Unit → Shared → Prop), Q' () s₁ → wpAny (model P w) A (g b) Q' E s₁)
    {o : Obj} {es : Array (Int × Value)} {ep : Nat} {t : SetTable} (ho : s.heap.get? a = some o) (hex : o.ExactSet) (hd : o.data = .set es ep t)
    {es1 : Array (Int × Value)} {t2 : SetTable} {ks' : List Key} (g1 : ∀ e ∈ es1.toList, GoodK w e) (p1 : (es1.toList.map keyE).Perm ks') (nd1 : ks'.Nodup)
    (hb1 : es1.size < scanBound) (hf2 : t2.fits es1.size = true) (hr : Ris t2.place.toList) (hl : w.params.followText "set-order" = true ∨ t2.led = true) {wasDummy : Bool} {R : Option Bool → Shared → Prop}
    (hR : ∀ h', Heap.SameBut a s.heap h' → SetM w h' a ks' → R (some true) { s with heap := h' }) :
    wpAny (model P w) A (do
        storeSet a es1 t2
        if (!wasDummy && t2.tooFull) = true then do
            g (relayAll t2 es1 (SetTable.grown es1.size)).2.2
            storeSet a (relayAll t2 es1 (SetTable.grown es1.size)).1 (relayAll t2 es1 (SetTable.grown es1.size)).2.1
            pure (some true)
          else pure (some true)) R E s := by
  refine wpAny_bind (wpAny_storeSet_of ho hd ?_ (fits_of_scanBound hb1))
  have ho1 := store_at (es' := es1) (t' := t2) ho hd
  have sb1 := Heap.SameBut.update s.heap a (Obj.putSet es1 t2)
  split
  · have pm := relayAll_perm t2 es1 (SetTable.grown es1.size)
    have hf3 := relayAll_fits t2 es1 (SetTable.grown es1.size)
    have hr3 := relayAll_ris t2 es1 (SetTable.grown es1.size)
    have hl3 := relayAll_led t2 es1 (SetTable.grown es1.size)
    generalize relayAll t2 es1 (SetTable.grown es1.size) = Z at pm hf3 hr3 hl3 ⊢
    obtain ⟨es2, t3, gave⟩ := Z
    dsimp only at pm hf3 hr3 hl3 ⊢
    have hsz : es2.size = es1.size := by rw [← Array.length_toList, pm.length_eq, Array.length_toList]
    have hb2 : es2.size < scanBound := by rw [hsz]; exact hb1
    refine wpAny_bind (hg _ _ _ ?_)
    refine wpAny_bind (wpAny_storeSet_of ho1 rfl ?_ (fits_of_scanBound hb2))
    have ho2 := store_at (es' := es2) (t' := t3) ho1 rfl
    refine wpAny_pure (hR _ (sb1.trans (Heap.SameBut.update _ a _)) ?_)
    exact ⟨_, es2, _, t3, ho2, hex, rfl, fun e he => g1 e (pm.mem_iff.mp he), (pm.map keyE).trans p1, nd1, hb2, hf3, hr3, hl.imp id fun z => by rw [hl3]; exact z⟩
  · exact wpAny_pure (hR _ sb1 ⟨_, es1, _, t2, ho1, hex, rfl, g1, p1, nd1, hb1, hf2, hr, hl⟩)
theorem add_hashed {k : Key} {u : Value} {Q : Bool → Shared → Prop} (hkey : keyIs k u = true) (R : SetM w s.heap a ks) (room : ks.length + 1 < scanBound)
    (hQ : ∀ h' b, Heap.SameBut a s.heap h' → SetM w h' a (insK ks k) → Q b { s with heap := h' }) :
    wpAny (model P w) A (setAddHashed a u ((mixKind P w).hash k)) Q E s := by
  obtain ⟨o, es, ep, t, ho, hex, hd, g, pk0, nd, hb, hf, hr, hl⟩ := R
  have hkey' : (mixKind P w).is k u = true := hkey
  have hsc : u.scannable = true := scan_of hkey
  have hel : ElemsOf (mixKind P w) es.toList := elems_ok g
  unfold setAddHashed setAddHashedIn
  refine wpAny_holding (wpAny_bind (wpAny_setState_of ho hd hf ?_))
  dsimp only
  rw [byScan_of hsc hb hel]
  simp only [↓reduceIte]
  unfold setAddByScan
  refine wpAny_bind ?_
  refine wpAny_bind (wpAny_rule ?_)
  refine wpAny_bind (wpAny_setScan_of hkey' ho hd hf hel ?_)
  cases hfi : List.findIdx? (fun e => (mixKind P w).is k e.2) es.toList with
  | some j =>
    dsimp only
    obtain ⟨hj, pj, _⟩ := List.findIdx?_eq_some_iff_getElem.mp hfi
    have hSk : k ∈ ks := pk0.mem_iff.mp ((mem_iff (P := P) (w := w) g k).2 ⟨es.toList[j], List.getElem_mem hj, pj⟩)
    refine wpAny_pure (wpAny_pure ?_)
    refine hQ s.heap _ (Heap.SameBut.refl a s.heap) ?_
    rw [insK_in hSk]
    exact ⟨o, es, ep, t, ho, hex, hd, g, pk0, nd, hb, hf, hr, hl⟩
  | none =>
    dsimp only
    have hnk : k ∉ ks := fun z => by
      obtain ⟨e, he, q⟩ := (mem_iff (P := P) (w := w) g k).1 (pk0.mem_iff.mpr z)
      have c := List.findIdx?_eq_none_iff.mp hfi e he
      rw [q] at c
      cases c
    have hgw : ∀ (b : Bool) {s₁ : Shared} {Q' : Unit → Shared → Prop}, Q' () s₁ → wpAny (model P w) A (match b with | true => rule "set.scan.the-table-gave-way" | false => pure ()) Q' E s₁ :=
      fun b s₁ Q' q => by cases b <;> first | exact wpAny_pure q | exact wpAny_rule q
    have pm := layNew_perm t es ((mixKind P w).hash k) u
    have hf1 := layNew_fits t es ((mixKind P w).hash k) u
    have hr1 := layNew_ris t es ((mixKind P w).hash k) u hr
    have hl1 := layNew_led t es ((mixKind P w).hash k) u
    generalize layNew t es ((mixKind P w).hash k) u = Z at pm hf1 hr1 hl1 ⊢
    obtain ⟨es1, t1, wasDummy, gave⟩ := Z
    dsimp only at pm hf1 hr1 hl1 ⊢
    rw [Array.toList_push] at pm
    have pc : es1.toList.Perm (((mixKind P w).hash k, u) :: es.toList) := pm.trans (List.perm_append_singleton _ _)
    have pk : (es1.toList.map keyE).Perm (insK ks k) := by
      have q := pc.map keyE
      rw [List.map_cons, keyE_of hkey] at q
      rw [insK_out hnk]
      exact q.trans ((pk0.cons k).trans (List.perm_append_singleton k ks).symm)
    have g1 : ∀ e ∈ es1.toList, GoodK w e := fun e he => by
      rcases List.mem_cons.mp (pc.mem_iff.mp he) with z | z
      · rw [z]; exact ⟨k, hkey, rfl⟩
      · exact g e z
    have nd1 : (insK ks k).Nodup := insK_nodup nd
    have hsz0 : es.size = ks.length := by rw [← pk0.length_eq, List.length_map, Array.length_toList]
    have hsz : es1.size = ks.length + 1 := by rw [← Array.length_toList, pc.length_eq, List.length_cons, Array.length_toList, hsz0]
    have hb1 : es1.size < scanBound := by rw [hsz]; exact room
    have hled : w.params.followText "set-order" = true ∨ t1.led = true := hl.imp id fun z => by rw [hl1]; exact z
    refine wpAny_bind (hgw _ ?_)
    split
    · refine wpAny_bind ?_
      rw [hashByValue_scannable 8 hsc]
      refine wpAny_pure ?_
      refine add_tail ?_ ho hex hd g1 pk nd1 hb1 ?_ ?_ ?_ ?_
      · intro b s₁ Q' q; cases b <;> first | exact wpAny_pure q | exact wpAny_rule q
      · first | (split <;> first | exact hf1 | exact SetTable.fits_plain_off hf1) | exact hf1
      · first | (split <;> exact hr1) | exact hr1
      · first | (split <;> exact hled) | exact hled
      · intro h' sb r; dsimp only; exact wpAny_pure (hQ h' _ sb r)
    · refine wpAny_bind (wpAny_pure ?_)
      simp only [↓reduceIte]
      refine add_tail ?_ ho hex hd g1 pk nd1 hb1 hf1 hr1 hled ?_
      · intro b s₁ Q' q; cases b <;> first | exact wpAny_pure q | exact wpAny_rule q
      · intro h' sb r; dsimp only; exact wpAny_pure (hQ h' _ sb r)
/-- set.add -/
theorem call_add {k : Key} {u : Value} {Q : Value → Shared → Prop} (hkey : keyIs k u = true) (R : SetM w s.heap a ks) (room : ks.length + 1 < scanBound)
    (hQ : ∀ h', Heap.SameBut a s.heap h' → SetM w h' a (insK ks k) → Q .none { s with heap := h', toks := s.toks + 1 }) :
    wpAny (model P w) A (call (.builtin "set.add") [.ref a, u]) Q E s := by
  have hT := R.typeIs
  refine wpAny_call_entry F.slot_set_add hT F.entry_set_add ?_ (F.args_set_add_2 _ _)
  unfold Builtin.«set.add» Builtin.Frozenset.oneOther
  simp only [List.isEmpty_nil, bind_assoc]
  unfold Builtin.Frozenset.addrOf setAdd
  refine wpAny_bind (wpAny_pure ?_)
  try dsimp only
  refine wpAny_bind (wpAny_pure ?_)
  try dsimp only
  refine wpAny_bind ?_
  refine wpAny_holding ?_
  refine wpAny_bind ((mixKind P w).pyHash (k := k) hkey ?_)
  refine add_hashed (s := { s with toks := s.toks + 1 }) hkey R room fun h' b sb r => ?_
  show wpAny _ _ (ret Value.none) _ _ _
  exact wpAny_pure ⟨_, rfl, hQ h' sb r⟩
theorem fresh_ok {h : Heap} {c : Bool} (w : World) (hc : w.params.followText "set-order" = true ∨ c = true) : SetM w (h.push { cls := .type "set", dict := none, data := .set #[] 0 (.fresh 0 0 c) }) h.objs.size [] :=
  ⟨_, #[], 0, _, Heap.get?_push_size _ rfl, ⟨rfl, rfl, rfl⟩, rfl, (fun e he => by simp at he), (by simp), List.nodup_nil, (by decide), (by rfl), List.Pairwise.nil, hc⟩
theorem led_ok (w : World) : w.params.followText "set-order" = true ∨ (!w.params.followText "set-order") = true := by
  cases w.params.followText "set-order"
  · exact .inr rfl
  · exact .inl rfl
end
end SM
set_option Elab.async false
set_option linter.all false
set_option maxRecDepth 100000
set_option maxHeartbeats 4000000
/-! general: set(text), set(list), sorted(set), sorted(text) at the model's level -/
namespace SM
open PySem PySem.Spec PyProof.Rows L2
section
variable {prog : Program} {w : World} {A : Around} {R : Result → Shared → Prop} {I : Addr} {fp wr : List Addr} {G : Array GenState → Array GenState → Prop} {n : Nat} {P : Nat → Value → Prop} {St : Nat → Shared → Prop}
/-- set.update's loop: the keys xs one by one -/
theorem update_loop (W : WalksS prog w A.in1 I fp wr G n P St) (S : Addr) (hSf : S ∉ fp)
    (xs : List Key) (hn : xs.length = n) (hval : ∀ i v, P i v → ∃ k, xs[i]? = some k ∧ keyIs k v = true) (hb : n + 1 < scanBound) :
    ∀ (k i : Nat) (s : Shared), n - i = k → i ≤ n → St i s → SetM w s.heap S (dedK (xs.take i)) →
      (∀ s', Moved (S :: wr) G s s' → SetM w s'.heap S (dedK xs) → R (.ok (.ret .none)) s') →
      codeAny (model prog w) A (.builtin "set.update.loop" ⟨[.ref S, .ref I], []⟩) R s := by
  have hSw : S ∉ wr := fun h => hSf (W.sub _ h)
  have hsub : ∀ b ∈ wr, b ∈ S :: wr := fun b hb => List.mem_cons_of_mem _ hb
  intro k
  induction k with
  | zero =>
    intro i s hk hi hst hS hR
    have hin : i = n := by omega
    subst hin
    refine codeAny_builtin F.entry_set_update_loop ?_
    rw [Around.under_plainId F.plain_set_update_loop _]
    show wpAny _ A.in1 (pyNext (.ref I) >>= _) _ _ s
    refine wpAny_bind (W.done s _ _ hst fun s' hm => ?_)
    show wpAny _ A.in1 (ret Value.none) _ _ s'
    rw [← hn, List.take_length] at hS
    exact wpAny_pure (hR s' (hm.mono hsub) (hS.at fun o ho => hm.heap S _ hSw ho))
  | succ k ih =>
    intro i s hk hi hst hS hR
    have hlt : i < n := by omega
    refine codeAny_builtin F.entry_set_update_loop ?_
    rw [Around.under_plainId F.plain_set_update_loop _]
    show wpAny _ A.in1 (pyNext (.ref I) >>= _) _ _ s
    refine wpAny_bind (W.item i s _ _ hlt hst fun v s' hP hst' hm => ?_)
    obtain ⟨key, hki, hkv⟩ := hval i v hP
    have hS' := hS.at fun o ho => hm.heap S _ hSw ho
    show wpAny _ A.in1 (holding [v] (setAdd S v) >>= _) _ _ s'
    refine wpAny_bind (wpAny_holding ?_)
    unfold setAdd
    refine wpAny_holding ?_
    refine wpAny_bind ((mixKind prog w).pyHash (k := key) hkv ?_)
    have hroom : (dedK (xs.take i)).length + 1 < scanBound := by
      have := dedK_len (xs.take i)
      rw [List.length_take] at this
      omega
    refine add_hashed (s := { s' with toks := s'.toks + 1 }) hkv hS' hroom fun h' b hsb hS2 => ?_
    rw [← take_ded hki] at hS2
    refine wpAny_pure ⟨plainId_quiet F.plain_set_update_loop _, ih (i + 1) _ (by omega) hlt (W.frame _ s' _ _ hst' (Nat.le_succ _) fun b hb o e => ?_) hS2 fun s'' hm'' hS'' => ?_⟩
    · rw [hsb.2 b (fun h : b = S => hSf (by rw [← h]; exact hb))]; exact e
    · refine hR s'' (Moved.trans W.gtrans ((hm.mono hsub).then_heap (Nat.le_succ _) fun b o hb e => ?_) hm'') hS''
      rw [hsb.2 b (fun h : b = S => hb (by rw [h]; exact List.mem_cons_self))]; exact e
end
section
variable {prog : Program} {w : World} {A : Around} {E : Value → Shared → Prop} {s : Shared}
abbrev newSetO (w : World) : Obj := { cls := .type "set", dict := none, data := .set #[] 0 (.fresh 0 0 (!w.params.followText "set-order")) }
theorem code_new1 (a : Value) {Q₁ : Value → Shared → Prop} (h : Q₁ (.ref s.heap.objs.size) { s with heap := s.heap.push (newSetO w) }) :
    codeAny (model prog w) A (.call (.builtin "set.__new__") ⟨[.type "set", a], []⟩) (wants Q₁ E) s := by
  refine codeAny_of_tree ?_
  show wpAny _ A.in1 (do checkBuiltinCall "set.__new__" ⟨[.type "set", a], []⟩; again (.builtin "set.__new__" ⟨[.type "set", a], []⟩)) _ _ s
  refine wpAny_bind (wpAny_of_eq (F.newCall_set_1 a) (wpAny_pure ⟨plainId_quiet F.plain_set_new _, codeAny_builtin F.entry_set_new ?_⟩))
  rw [Around.under_plainId F.plain_set_new _]
  unfold Builtin.«set.__new__» Builtin.Frozenset.newClass
  have hsub := sub_set_self
  obtain ⟨hp, g, d, tk, os⟩ := s
  dsimp only
  wp_walk
  refine wpAny_askSetting (wpAny_pure ?_)
  dsimp only
  simp only [newObj]
  refine wpAny_bind (wpAny_alloc (wpAny_pure ?_))
  exact wpAny_pure h
/-- what set(x) must be told of x: its iterator gives the keys xs -/
def Feeds (prog : Program) (w : World) (s : Shared) (v : Value) (xs : List Key) : Prop := ∀ (A' : Around) (E' : Value → Shared → Prop) (Q : Value → Shared → Prop), A'.handled = none →
  (∀ (I : Addr) (o : Obj) (fp : List Addr) (P : Nat → Value → Prop) (St : Nat → Heap → Prop), I = s.heap.objs.size + 1 → (∀ b ∈ fp, b ≠ s.heap.objs.size) → (∀ A'' : Around, A''.handled = none → Walks prog w A'' I fp [I] xs.length P St) → (∀ i v, P i v → ∃ k, xs[i]? = some k ∧ keyIs k v = true) → St 0 ((s.heap.push (newSetO w)).push o) →
    Q (.ref I) { s with heap := (s.heap.push (newSetO w)).push o }) → wpAny (model prog w) A' (pyIter v) Q E' { s with heap := s.heap.push (newSetO w) }
theorem sub_str_set : isSubtype (.type "str") (.type "set") = pure false := by rw [isSubtype_type]; kernel_rfl
theorem sub_str_frozenset : isSubtype (.type "str") (.type "frozenset") = pure false := by rw [isSubtype_type]; kernel_rfl
set_option maxHeartbeats 16000000 in
/-- set(text) -/
theorem call_set_str {z : Str} {tk : Tok} {Q : Value → Shared → Prop} (hh : A.handled = none) (hb : z.cps.size + 1 < scanBound)
    (h : ∀ (h' : Heap) (tk' : Nat), SetM w h' s.heap.objs.size (dedK (z.cps.toList.map fun c => .inr ⟨#[c]⟩)) →
      (∀ b o, b < s.heap.objs.size → s.heap.get? b = some o → h'.get? b = some o) → Q (.ref s.heap.objs.size) { s with heap := h', toks := tk' }) :
    wpAny (model prog w) A (call (.type "set") [.str z tk]) Q E s := by
  obtain ⟨c, tl, hmro⟩ := F.called_set.mro
  have hmade := F.called_set.made
  have hsub := F.called_set.sub
  refine wpAny_call (codeAny_of_tree ?_)
  show wpAny _ _ (callAny (.type "set") _) _ _ _
  refine wpAny_pure ⟨Code.quiet_builtin _ (by decide +kernel), codeAny_builtin F.entry_type_call ?_⟩
  rw [Around.under_plain (weight_type_call_type "set" [.str z tk] []) rfl]
  have h1 := F.called_set.notType
  have h2 := F.called_set.canCreate
  have hct := F.typeCall_set_1 (.str z tk)
  repeat (any_goals (first | assumption | wp_step))
  refine codeAny_mono (code_new1 (.str z tk) (E := E) (Q₁ := fun obj s₁ => obj = .ref s.heap.objs.size ∧ s₁ = { s with heap := s.heap.push (newSetO w) }) ⟨rfl, rfl⟩) fun r s₁ hr => ?_
  cases r with
  | error e => exact hr
  | ok fl =>
    cases fl with
    | ret obj =>
      obtain ⟨rfl, rfl⟩ := hr
      have hS : (s.heap.push (newSetO w)).get? s.heap.objs.size = some (newSetO w) := Heap.get?_push_size _ rfl
      have hT : Shared.TypeIs { s with heap := s.heap.push (newSetO w) } (.ref s.heap.objs.size) "set" := ⟨_, hS, rfl⟩
      have hli := F.called_set.init.lookup
      have hbi := F.called_set.init.bind (.ref s.heap.objs.size)
      repeat (any_goals (first | assumption | wp_step))
      refine codeAny_mono (codeAny_call_builtin (R := wants (fun r s₂ => r = .none ∧ ∃ h' tk', s₂ = { s with heap := h', toks := tk' } ∧ SetM w h' s.heap.objs.size (dedK (z.cps.toList.map fun c => .inr ⟨#[c]⟩)) ∧
          (∀ b o, b < s.heap.objs.size → s.heap.get? b = some o → h'.get? b = some o)) E) F.called_set.init.plain F.entry_set_init (check_set_init_1 hT ?_)) fun r₂ s₂ hr₂ => ?_
      · have hsls := sub_str_set
        have hslf := sub_str_frozenset
        have hne : (Value.type "str" == Value.type "dict") = false := by decide
        unfold Builtin.«set.__init__» noKeywords Builtin.Frozenset.updateFrom
        generalize hPI : pyIter = PI
        wp_walk
        subst hPI
        refine wpAny_pyIter_str fun o St W hst => ?_
        refine wpAny_bind (wpAny_runValue ?_)
        have hh3 : A.in1.in1.in1.handled = none := by simp [hh]
        have hSf : s.heap.objs.size ∉ [(s.heap.push (newSetO w)).objs.size] := by
          rw [Heap.size_push]
          simp only [List.mem_cons, List.mem_singleton, List.not_mem_nil, or_false]
          exact Nat.ne_of_lt (Nat.lt_succ_self _)
        have hval : ∀ (i : Nat) (v : Value), SignAt z i v → ∃ k, (z.cps.toList.map fun c => (.inr ⟨#[c]⟩ : Key))[i]? = some k ∧ keyIs k v = true := fun i v ⟨c, u, hc, e⟩ =>
          ⟨.inr ⟨#[c]⟩, by rw [List.getElem?_map, Array.getElem?_toList, hc]; rfl, by rw [e]; exact keyIs_str _ _⟩
        refine update_loop ((W A.in1.in1.in1 hh3).toS) s.heap.objs.size hSf (z.cps.toList.map fun c => .inr ⟨#[c]⟩) (by rw [List.length_map, Array.length_toList]) hval hb (z.cps.size - 0) 0 _ (by omega) (Nat.zero_le _) hst ?hS0 ?hR
        case hS0 => exact (fresh_ok w (led_ok w)).at fun o ho => Heap.get?_push_of_some _ ho
        case hR =>
          intro s' hm hS'
          obtain ⟨h', g', d', tk', os'⟩ := s'
          have eg : g' = s.gens := hm.gens
          have ed : d' = s.drawn := hm.drawn
          have eo : os' = s.os := hm.os
          subst eg; subst ed; subst eo
          show wpAny _ _ _ _ _ _
          refine wpAny_pure ?_
          show wpAny _ _ (ret Value.none) _ _ _
          refine wpAny_pure ⟨rfl, h', tk', rfl, hS', fun b o hb e => ?_⟩
          have hb1 : b ≠ s.heap.objs.size := Nat.ne_of_lt hb
          have hb2 : b ≠ (s.heap.push (newSetO w)).objs.size := by rw [Heap.size_push]; exact Nat.ne_of_lt (Nat.lt_succ_of_lt hb)
          exact hm.heap b o (by simp only [List.mem_cons, List.mem_singleton, List.not_mem_nil, or_false, not_or]; exact ⟨hb1, hb2⟩) (Heap.get?_push_of_some _ (Heap.get?_push_of_some _ e))
      · cases r₂ with
        | error e => exact hr₂
        | ok fl₂ =>
          cases fl₂ with
          | ret r =>
            obtain ⟨rfl, h', tk', rfl, hS', hk'⟩ := hr₂
            repeat (any_goals (first | assumption | wp_step))
            exact h _ _ hS' hk'
          | _ => exact hr₂.elim
    | _ => exact hr.elim
/-- texts of keys -/
def strsOf (ks : List Key) (xs : List Str) : Prop := ks = xs.map Sum.inr
theorem strs_of {ks : List Key} {xs : List Str} (h : ks = xs.map Sum.inr) : ∀ (l : List Value), (∀ v ∈ l, keyIs (keyE (0, v)) v = true) → (l.map fun v => keyE (0, v)).Perm ks → ∃ ys : List Str, ys.Perm xs ∧ StrsAre l ys := by
  intro l hk pm
  have key : ∀ l : List Value, (∀ v ∈ l, keyIs (keyE (0, v)) v = true) → (∀ v ∈ l, ∃ x, keyE (0, v) = .inr x) → ∃ ys : List Str, l.map (fun v => keyE (0, v)) = ys.map Sum.inr ∧ StrsAre l ys := by
    intro l
    induction l with
    | nil => intro _ _; exact ⟨[], rfl, .nil⟩
    | cons v l ih =>
      intro h1 h2
      obtain ⟨ys, e, hy⟩ := ih (fun u hu => h1 u (List.mem_cons_of_mem _ hu)) (fun u hu => h2 u (List.mem_cons_of_mem _ hu))
      obtain ⟨x, hx⟩ := h2 v List.mem_cons_self
      have hv := h1 v List.mem_cons_self
      rw [hx] at hv
      rcases keyIs_shape hv with ⟨i, t, q, _⟩ | ⟨x', t, q, rfl⟩
      · cases q
      · cases q
        exact ⟨x :: ys, by rw [List.map_cons, List.map_cons, hx, e], .cons x t hy⟩
  obtain ⟨ys, e, hy⟩ := key l hk fun v hv => by
    have q : keyE (0, v) ∈ ks := pm.mem_iff.mp (List.mem_map_of_mem hv)
    rw [h] at q
    obtain ⟨x, _, hx⟩ := List.mem_map.mp q
    exact ⟨x, hx.symm⟩
  refine ⟨ys, ?_, hy⟩
  rw [e, h] at pm
  have q := pm.filterMap (fun k : Key => match k with | .inr x => some x | _ => none)
  rw [List.filterMap_map, List.filterMap_map] at q
  have ev : ∀ zs : List Str, List.filterMap ((fun k : Key => match k with | .inr x => some x | _ => none) ∘ Sum.inr) zs = zs := fun zs => by
    induction zs with
    | nil => rfl
    | cons z zs ih => rw [List.filterMap_cons]; simp only [Function.comp]; rw [ih]
  rw [ev, ev] at q
  exact q
end
end SM
set_option Elab.async false
set_option linter.all false
set_option maxRecDepth 100000
set_option maxHeartbeats 4000000
/-! general: rules for sets of ints and texts, sorted of a text and of a set, set comprehensions -/
namespace SM
open PySem PySem.Spec PyProof.Rows L2
section
variable {P : Program} {w : World} {A : Around} {E : Value → Shared → Prop} {s : Shared} {a : Addr} {ks : List Key}
/-- sorted(v) of texts, v gathered by hcol -/
theorem sorted_coll {v : Value} {Pss : List Str → Prop} {Q : Value → Shared → Prop}
    (hcol : ∀ (E' : Value → Shared → Prop) (Q' : List Value → Shared → Prop), (∀ s1 vs ss, (∀ b o, s.heap.get? b = some o → s1.heap.get? b = some o) → s.heap.objs.size ≤ s1.heap.objs.size → s1.gens = s.gens → s1.os = s.os → StrsAre vs ss → ss.length ≤ sizeLine → Pss ss → Q' vs s1) → wpAny (model P w) A.in1 (collect v) Q' E' s)
    (hQ : ∀ s' p (out : Array Value) (c : Nat) (ss' ss : List Str), (∀ b o, s.heap.get? b = some o → s'.heap.get? b = some o) → s'.gens = s.gens → s'.os = s.os → s.heap.objs.size ≤ p →
      s'.heap.get? p = some (seqObj "list" out c) → StrsAre out.toList ss' → Pss ss → ss'.Perm ss → sortedS ss' = true → ss'.length ≤ sizeLine → Q (.ref p) s') :
    wpAny (model P w) A (call (.builtin "sorted") [v]) Q E s := by
  refine Calls.call_function_entry kind_sorted plain_sorted entry_sorted (args_sorted1 _) ?_
  unfold Builtin.«sorted»
  refine wpAny_bind (m := checkCount "sorted" 1 1 _) (wpAny_pure ?_)
  refine wpAny_bind (hcol _ _ fun s1 vs ss k1 hz g1 o1 hS hl hP => ?_)
  have hvl : vs.length ≤ sizeLine := by rw [StrsAre.length hS]; exact hl
  refine wpAny_bind (wpAny_newList ?_ hvl)
  have hoL : (s1.heap.push (seqObj "list" vs.toArray 0)).get? s1.heap.objs.size = some (seqObj "list" vs.toArray 0) := Heap.get?_push_size _ rfl
  refine wpAny_bind (wpAny_holding (wpAny_call_entry slot_list_sort ⟨_, hoL, rfl⟩ entry_list_sort (list_sort_treeKAny strKind_oneLt hoL hS.keysOf (fun v₁ v₂ rest e => keyKind_strs (by rw [← e]; exact hS)) hvl fun st' hp hs => ⟨_, rfl, ?_⟩) (args_list_sort _)))
  obtain ⟨ss', h1, h2, h3⟩ := sorted_out_str hS hp hs
  obtain ⟨c, hc⟩ := sortedHeap_at (vs := vs) (out := (arrOf st').map (·.2)) hoL
  refine wpAny_pure ⟨_, rfl, hQ _ s1.heap.objs.size _ c ss' ss (fun b u e => ?_) g1 o1 hz hc h1 hP h2 h3 (by rw [h2.length_eq]; exact hl)⟩
  have q := k1 b u e
  have hlt := Heap.lt_size q
  show (sortedHeap (s1.heap.push (seqObj "list" vs.toArray 0)) s1.heap.objs.size vs _).get? b = some u
  rw [sortedHeap_old (Nat.ne_of_lt hlt) (by rw [size_push']; exact Nat.lt_succ_of_lt hlt)]
  exact Heap.get?_push_of_some _ q
theorem sorted_setS {xs : List Str} {Q : Value → Shared → Prop} (R : SetM w s.heap a (xs.map Sum.inr)) (hh : A.handled = none)
    (hQ : ∀ s' p (out : Array Value) (c : Nat) (ss : List Str), (∀ b o, s.heap.get? b = some o → s'.heap.get? b = some o) → s'.gens = s.gens → s'.os = s.os → s.heap.objs.size ≤ p →
      s'.heap.get? p = some (seqObj "list" out c) → StrsAre out.toList ss → ss.Perm xs → sortedS ss = true → ss.length ≤ sizeLine → Q (.ref p) s') :
    wpAny (model P w) A (call (.builtin "sorted") [.ref a]) Q E s := by
  obtain ⟨o, es, ep, t, ho, hex, hd, g, pm, nd, hb, hf, hr, hl⟩ := R
  refine sorted_coll (Pss := fun ss => ss.Perm xs) (fun E' Q' h' => ?_) fun s' p out c ss' ss k g1 o1 hp hg h1 hP h2 h3 h4 => hQ s' p out c ss' k g1 o1 hp hg h1 (h2.trans hP) h3 h4
  refine collect_set (A := A.in1) hh ⟨o, ho, hex.1, hd⟩ hf hb hr hl fun s1 vs k1 hz g1 o1 pv => ?_
  have ev : ∀ v ∈ vs, keyIs (keyE (0, v)) v = true := fun v hv => by
    obtain ⟨e, he, q⟩ := List.mem_map.mp (pv.mem_iff.mp hv)
    have z := (g e he).is
    rw [← q]
    exact z
  have pk : (vs.map fun v => keyE (0, v)).Perm (xs.map Sum.inr) := by
    have q := pv.map fun v => keyE (0, v)
    rw [List.map_map] at q
    exact q.trans pm
  obtain ⟨ys, py, hy⟩ := strs_of rfl vs ev pk
  have hyl : ys.length ≤ sizeLine := by
    rw [py.length_eq, show xs.length = es.size by rw [← List.length_map (f := (Sum.inr : Str → Key)), ← pm.length_eq, List.length_map, Array.length_toList]]
    exact fits_of_scanBound hb
  exact h' s1 vs ys k1 hz g1 o1 hy hyl py
theorem signs_are : ∀ (l : List Value) (cs : List Nat), l.length = cs.length → (∀ (i : Nat) (v : Value), l[i]? = some v → ∃ c u, cs[i]? = some c ∧ v = .str ⟨#[c]⟩ u) → StrsAre l (cs.map fun c => (⟨#[c]⟩ : Str))
  | [], [], _, _ => .nil
  | [], _ :: _, h, _ => by simp at h
  | _ :: _, [], h, _ => by simp at h
  | v :: l, c :: cs, h, q => by
    obtain ⟨c', u, e1, e2⟩ := q 0 v rfl
    have e3 : c = c' := by simpa using e1
    subst e3
    rw [e2]
    exact .cons _ u (signs_are l cs (by simpa using h) fun i v hv => by
      obtain ⟨c2, u2, a1, a2⟩ := q (i + 1) v (by simpa using hv)
      exact ⟨c2, u2, by simpa using a1, a2⟩)
theorem collect_text {Q : List Value → Shared → Prop} (hh : A.handled = none) (x : Str) (t : Tok) (hn : x.cps.size ≤ sizeLine)
    (hQ : ∀ s' acc, (∀ b o, s.heap.get? b = some o → s'.heap.get? b = some o) → s.heap.objs.size ≤ s'.heap.objs.size → s'.gens = s.gens → s'.os = s.os → ItemsOf (SignAt x) acc x.cps.size → Q acc.toList s') :
    wpAny (model P w) A (collect (.str x t)) Q E s := by
  unfold collect
  refine wpAny_bind (wpAny_runValue (codeAny_builtin F.entry_proto_collect ?_))
  rw [Around.under_plainId F.plain_proto_collect _]
  show wpAny _ A.in1 (newList [] >>= fun l => again (.builtin "list.__iadd__" ⟨[l, .str x t], []⟩)) _ _ s
  refine wpAny_bind (wpAny_newObj_type ?_)
  refine wpAny_pure ⟨plainId_quiet F.plain_list_iadd _, codeAny_builtin F.entry_list_iadd ?_⟩
  rw [Around.under_plainId F.plain_list_iadd _]
  show wpAny _ A.in1 (Builtin.List.listExtendWith (.ref s.heap.objs.size) (.str x t) (.ref s.heap.objs.size)) _ _ _
  unfold Builtin.List.listExtendWith
  refine wpAny_bind (wpAny_typeOf (T := "str") (v := .str x t) rfl ?_)
  have h1 : Builtin.List.listSameRef (.ref s.heap.objs.size) (.str x t) = false := rfl
  have h2 : (Value.type "str" == Value.type "list") = false := by decide
  have h3 : (Value.type "str" == Value.type "tuple") = false := by decide
  simp only [h1, h2, h3, Bool.or_false, Bool.false_eq_true, if_false]
  refine wpAny_bind (wpAny_pyIter_str fun o St W hst => ?_)
  refine wpAny_bind (wpAny_holding ?_)
  unfold Builtin.List.listLengthHint
  refine wpAny_bind (wpAny_specialOf (T := "str") (v := .str x t) rfl F.str_len ?_)
  wp_delta
  refine wpAny_bind (wpAny_isInstance (T := "str") (v := .str x t) (b := true) rfl (by rw [isSubtype_type]; kernel_rfl) ?_)
  show wpAny _ A.in1 (typeOf (Value.str x t) >>= _) _ _ _
  refine wpAny_bind (wpAny_typeOf (T := "str") (v := .str x t) rfl ?_)
  refine wpAny_pure ?_
  rw [if_neg (by decide)]
  generalize hH : s.heap.push { cls := .type "list", data := .seq ([] : List Value).toArray } = H at W hst ⊢
  have hHs : H.objs.size = s.heap.objs.size + 1 := by rw [← hH, Heap.size_push]
  have hSf : s.heap.objs.size ∉ [H.objs.size] := fun hm => by rw [List.mem_singleton.mp hm] at hHs; exact absurd hHs (Nat.ne_of_lt (Nat.lt_succ_self _))
  have hS : (H.push o).get? s.heap.objs.size = some { cls := .type "list", data := .seq ([] : List Value).toArray } := Heap.get?_push_of_some _ (hH ▸ Heap.get?_push_size _ rfl)
  refine wpAny_pure ⟨plainId_quiet F.plain_extend_loop _, codeAny_extend_loopS (W A.in1 hh).toS hn _ hSf _ x.cps.size 0 _ _ _ rfl (Nat.zero_le _) hst hS (ItemsOf.nil _) fun s' acc' c' hm hS' hacc => ?_⟩
  show wpAny _ A (load s.heap.objs.size >>= _) _ _ s'
  refine wpAny_bind (wpAny_load hS' ?_)
  refine wpAny_pure (hQ s' acc' (fun b ob e => hm.heap b ob (fun hb => ?_) (Heap.get?_push_of_some _ (hH ▸ Heap.get?_push_of_some _ e))) (Nat.le_of_lt (Heap.lt_size hS')) hm.gens hm.os hacc)
  have hlt := Heap.lt_size e
  rcases List.mem_cons.mp hb with h | h
  · exact absurd hlt (h ▸ Nat.lt_irrefl _)
  · rw [List.mem_singleton.mp h, hHs] at hlt; exact absurd hlt (Nat.not_lt.mpr (Nat.le_succ _))
theorem sorted_text {z : Str} {tk : Tok} {Q : Value → Shared → Prop} (hh : A.handled = none) (hz : z.length ≤ sizeLine)
    (hQ : ∀ s' p (out : Array Value) (c : Nat) (ss : List Str), (∀ b o, s.heap.get? b = some o → s'.heap.get? b = some o) → s'.gens = s.gens → s'.os = s.os → s.heap.objs.size ≤ p →
      s'.heap.get? p = some (seqObj "list" out c) → StrsAre out.toList ss → ss.Perm (z.cps.toList.map fun c => ⟨#[c]⟩) → sortedS ss = true → ss.length ≤ sizeLine → Q (.ref p) s') :
    wpAny (model P w) A (call (.builtin "sorted") [.str z tk]) Q E s := by
  refine sorted_coll (Pss := fun ss => ss = z.cps.toList.map fun c => ⟨#[c]⟩) (fun E' Q' h' => ?_) fun s' p out c ss' ss k g1 o1 hp hg h1 hP h2 h3 h4 => hQ s' p out c ss' k g1 o1 hp hg h1 (hP ▸ h2) h3 h4
  refine collect_text (P := P) (w := w) (A := A.in1) hh z tk hz fun s1 acc k1 hz1 g1 o1 hi => ?_
  refine h' s1 _ _ k1 hz1 g1 o1 (signs_are acc.toList z.cps.toList (by rw [Array.length_toList, Array.length_toList]; exact hi.1) fun i v hv => ?_) (by rw [List.length_map, Array.length_toList]; exact hz) rfl
  rw [Array.getElem?_toList] at hv
  obtain ⟨c, u, e1, e2⟩ := hi.2 i v hv
  exact ⟨c, u, by rw [Array.getElem?_toList]; exact e1, e2⟩
end
/-! ### rules -/
/-- the set at a -/
def SetL (w : World) (a : Addr) (ks : List Key) : HO := .ext fun h => SetM w h a ks
section
variable {X : Cx}
theorem setL_new {w : World} {P : Program} {H : Hp} {h : Heap} {a : Addr} {ks : List Key} (R : SetM w h a ks) : ObjOk P w H h a (SetL w a ks) := by
  have ⟨o, _, _, _, ho, _⟩ := R
  exact ⟨R, ⟨o, ho⟩, fun h1 h2 p k => SetM.at p k⟩
theorem setL_get {pins : List (Addr × Obj)} {σ : L2.St} {H : Hp} {s : Shared} {a : Addr} {ks : List Key} (I : Inv X pins σ H s) (ha : H a = some (SetL X.w a ks)) : SetM X.w s.heap a ks := (I.hok a _ ha).1
/-- the signs of a text -/
def signs (z : Str) : List Str := z.cps.toList.map fun c => ⟨#[c]⟩
theorem signs_len (z : Str) : (signs z).length = z.length := by
  unfold signs
  rw [List.length_map, Array.length_toList]
  rfl
theorem signs_map (z : Str) : (signs z).map (Sum.inr : Str → Key) = z.cps.toList.map fun c => .inr ⟨#[c]⟩ := by
  unfold signs
  rw [List.map_map]
  rfl
/-- set(text) -/
def rSetStr (w : World) : List V → Hp → VK → Prop := fun vs H Q => ∃ z : Str, vs = [.str z] ∧ z.length + 1 < scanBound ∧ ∀ p, H p = none → Q (.ref p) (upd H p (SetL w p (dedK ((signs z).map Sum.inr))))
theorem cr_setStr (hc : X.calm = true) : CallR X (.type "set") (rSetStr X.w) := by
  intro pins s σ H vs us Q I r h
  obtain ⟨z, rfl, hl, q⟩ := h
  cases r with
  | cons r t =>
    cases t
    obtain ⟨tk, rfl⟩ := r
    refine call_set_str (I.ok.hd hc) hl fun h' tk' hS hk => ?_
    have e : s = { s with heap := s.heap, gens := s.gens, drawn := s.drawn, toks := s.toks } := rfl
    have hn : H s.heap.objs.size = none := I.hok.fresh (Nat.le_refl _)
    have k : ∀ b o, s.heap.get? b = some o → h'.get? b = some o := fun b o e => hk b o (Heap.lt_size e) e
    rw [← signs_map] at hS
    have J : Inv X pins σ (upd H s.heap.objs.size (SetL X.w s.heap.objs.size (dedK ((signs z).map Sum.inr)))) { s with heap := h', gens := s.gens, drawn := s.drawn, toks := tk' } :=
      I.call (ch := []) (Un.laid k (Nat.le_refl _) hn) (I.hok.laid k (Nat.le_refl _) (setL_new hS)) I.bare (fun _ z => nomatch z)
    exact ⟨.ref _, _, J, rfl, q _ hn⟩
/-- len(set) -/
def rLenSet (w : World) : List V → Hp → VK → Prop := fun vs H Q => ∃ (a : Addr) (ks : List Key), vs = [.ref a] ∧ H a = some (SetL w a ks) ∧ Q (.int (ks.length : Int)) H
theorem cr_lenSet : CallR X (.builtin "len") (rLenSet X.w) := by
  intro pins s σ H vs us Q I r h
  obtain ⟨a, ks, rfl, ha, q⟩ := h
  rw [Vals.ref1 r]
  obtain ⟨o, es, ep, t, ho, hex, hd, g, pm, nd, hb, hf, _⟩ := setL_get I ha
  have hn : es.size = ks.length := by rw [← pm.length_eq, List.length_map, Array.length_toList]
  have hb2 : es.size < 4096 := hb
  exact call_len_set ho hex hd hf (by omega) ⟨.int ks.length, H, I.tok _, ⟨_, by rw [hn]⟩, q⟩
theorem sorted_in {pins : List (Addr × Obj)} {σ : L2.St} {H : Hp} {s s' : Shared} {p : Addr} {out : Array Value} {c : Nat} {ss : List Str} (I : Inv X pins σ H s) (k : ∀ b o, s.heap.get? b = some o → s'.heap.get? b = some o) (g : s'.gens = s.gens) (o : s'.os = s.os) (hp : s.heap.objs.size ≤ p)
    (hg : s'.heap.get? p = some (seqObj "list" out c)) (hi : StrsAre out.toList ss) (hl : ss.length ≤ sizeLine) : Inv X pins σ (upd H p (.lst (ss.map V.str))) s' ∧ H p = none := by
  have hlen : (ss.map V.str).length ≤ sizeLine := by rw [List.length_map]; exact hl
  have hn : H p = none := I.hok.fresh hp
  have J : Inv X pins σ (upd H p (.lst (ss.map V.str))) { s with heap := s'.heap, gens := s'.gens, drawn := s'.drawn, toks := s'.toks } :=
    I.call (ch := []) (Un.laid k hp hn) (I.hok.laid k hp ⟨hlen, out.toList, c, vals_of_strs hi, hg⟩) (by rw [g]; exact I.bare) (fun _ z => nomatch z)
  have e : s' = { s with heap := s'.heap, gens := s'.gens, drawn := s'.drawn, toks := s'.toks } := by
    cases s'
    cases s
    cases o
    rfl
  rw [e]
  exact ⟨J, hn⟩
/-- sorted(set of texts) -/
def rSortSet (w : World) : List V → Hp → VK → Prop := fun vs H Q => ∃ (a : Addr) (xs : List Str), vs = [.ref a] ∧ H a = some (SetL w a (xs.map Sum.inr)) ∧ ∀ (ys : List Str) (p : Addr), ys.Perm xs → sortedS ys = true → H p = none → Q (.ref p) (upd H p (.lst (ys.map V.str)))
theorem cr_sortSet (hc : X.calm = true) : CallR X (.builtin "sorted") (rSortSet X.w) := by
  intro pins s σ H vs us Q I r h
  obtain ⟨a, xs, rfl, ha, q⟩ := h
  rw [Vals.ref1 r]
  refine sorted_setS (setL_get I ha) (I.ok.hd hc) fun s' p out c ss k g o hp hg hi pm hs hl => ?_
  obtain ⟨J, hn⟩ := sorted_in I k g o hp hg hi hl
  exact ⟨.ref p, _, J, rfl, q ss p pm hs hn⟩
/-- sorted(text) -/
def rSortStr : List V → Hp → VK → Prop := fun vs H Q => ∃ z : Str, vs = [.str z] ∧ z.length ≤ sizeLine ∧ ∀ (ys : List Str) (p : Addr), ys.Perm (signs z) → sortedS ys = true → H p = none → Q (.ref p) (upd H p (.lst (ys.map V.str)))
theorem cr_sortStr (hc : X.calm = true) : CallR X (.builtin "sorted") rSortStr := by
  intro pins s σ H vs us Q I r h
  obtain ⟨z, rfl, hz, q⟩ := h
  cases r with
  | cons r t =>
    cases t
    obtain ⟨tk, rfl⟩ := r
    refine sorted_text (I.ok.hd hc) hz fun s' p out c ss k g o hp hg hi pm hs hl => ?_
    obtain ⟨J, hn⟩ := sorted_in I k g o hp hg hi hl
    exact ⟨.ref p, _, J, rfl, q ss p pm hs hn⟩
end
end SM
set_option Elab.async false
set_option linter.all false
set_option maxRecDepth 100000
set_option maxHeartbeats 4000000
/-! general: set comprehensions of ints and texts -/
namespace SM
open PySem PySem.Spec PyProof.Rows L2
section
variable {X : Cx}
theorem addK_ok {pins : List (Addr × Obj)} {σ : L2.St} {H : Hp} {s : Shared} {E : Value → Shared → Prop} {D : Addr} {ks : List Key} {k : Key} {u : Value} {Q : Value → Shared → Prop} (I : Inv X pins σ H s) (hD : H D = some (SetL X.w D ks)) (hk : keyIs k u = true) (room : ks.length + 1 < scanBound)
    (h : ∀ s', Inv X pins σ (upd H D (SetL X.w D (insK ks k))) s' → Q .none s') : wpAny (model X.prog X.w) X.A (call (.builtin "set.add") [.ref D, u]) Q E s := by
  have R := setL_get I hD
  refine call_add hk R room fun h' sb new => ?_
  have he : ∃ u, h'.get? D = some u := by
    have ⟨o, _, _, _, ho, _⟩ := new
    exact ⟨o, ho⟩
  exact h _ (I.write (e := D) (t' := s.toks + 1) (by rw [hD]; trivial) (.inl rfl) (fun b u hb hu => (sb.2 b hb).trans hu) he (setL_new new))
/-- {elt for target in iter if ..}, elt an int or a text: D the new set -/
def tScK (w : World) (wi : TI) (g : TG) (tt : TT) (te : TE) (vs : List Nat) : TE := fun σ H Q => wi σ H fun J H1 => ∀ D, H1 D = none → ∃ W : Nat → Nat → Hp → Prop, (∃ m, W 0 m (upd H1 D (SetL w D []))) ∧ ∀ i m H, W i m H →
  (J.stop i H ∧ Q (.ref D) H) ∨ (J.go i H ∧ ∃ Nx : Hp → Prop, (∀ H', Nx H' → ∃ m', m' < m ∧ W (i + 1) m' H') ∧ ∀ x H', J.yld i H x H' → g x (wipe σ vs) H' fun σ2 H2 => wipe σ2 vs = wipe σ vs ∧ tt σ2 H2 fun b H3 =>
    if b = true then te σ2 H3 fun y H4 => ∃ (k : Key) (ks : List Key), y = kV k ∧ H4 D = some (SetL w D ks) ∧ ks.length + 1 < scanBound ∧ Nx (upd H4 D (SetL w D (insK ks k))) else Nx H3)
theorem scK_core {pins : List (Addr × Obj)} {s : Shared} {σ : L2.St} {H : Hp} {Q : VK} {elt tg iter : Expr} {ifs : List Expr} {scope : Scope} {own : List (PySem.Str × Nat)} {pos pos' : Pos} {wi : TI} {g : TG} {tt : TT} {te : TE} {use : Option (Value → Sem Unit)} {Qf : Value → Shared → Prop}
    (hc : X.calm = true) (hN : X.N.Nodup) (I : Inv X pins σ H s) (hi : PI X tg iter wi) (ok : BlkOk X.N X.env.scope scope own)
    (hg : ∀ (s : Shared) (H : Hp) (C : Addr) (cl : List (PySem.Str × Addr)) (fp : List Addr), PG (X.blk s H scope (compEnvC scope cl C X.env) fp) tg g) (ht : ∀ (s : Shared) (H : Hp) (C : Addr) (cl : List (PySem.Str × Addr)) (fp : List Addr), PTs (X.blk s H scope (compEnvC scope cl C X.env) fp) ifs tt)
    (he : ∀ (s : Shared) (H : Hp) (C : Addr) (cl : List (PySem.Str × Addr)) (fp : List Addr), PE (X.blk s H scope (compEnvC scope cl C X.env) fp) elt te) (hs : ∀ x, foldedSetIterable iter X.env x = pure x)
    (h : tScK X.w wi g tt te (own.map (·.2)) σ H Q)
    (hRR : ∀ D C s' m H', Inv X pins σ H' s' → Q (.ref D) H' → s'.heap.Ns C m → FpOk X pins H' C → compPost (model X.prog X.w) X.A X.xe use Qf (.ref D) C (.ok .next) s') :
    wpAny (model X.prog X.w) X.A (comprehension (.SetComp elt [⟨tg, iter, ifs, 0⟩] scope pos) scope X.env pos' (newSet (.type "set")) false (eval iter X.env) use) Qf X.xe s := by
  have hfree : ∀ y ∈ scope.names, y.2 = .free → ∃ c, X.env.cells.lookup y.1 = some c := fun y hy e => by
    rcases ok.free y hy e with k | k
    · exact I.ok.has _ (.inl k)
    · exact I.ok.has _ (.inr k)
  refine wpAny_comprehension_free (use := use) rfl hs (closure_ok hfree) ok.kind (fun y hy e => by rw [ok.uniq y hy, e])
    (thn (hi.run pins s σ H _ I h) fun xv s1 hx => thn hx fun itv s2 h2 => ?_)
  obtain ⟨it, fp, tn, J, H2, e, I2, T, st2, f2, q⟩ := h2
  subst e
  refine PpSet.newSet_ok (newEnv_comp ?_)
  generalize hD : s2.heap.objs.size = D
  have hDn : H2 D = none := I2.hok.fresh (Nat.le_of_eq hD)
  obtain ⟨W, ⟨m0, w0⟩, turn⟩ := q D hDn
  generalize hs3 : ({ s2 with heap := s2.heap.push (newSetO X.w) } : Shared) = s3
  have I3 : Inv X pins σ (upd H2 D (SetL X.w D [])) s3 := by
    rw [← hs3]
    refine I2.laid (t' := s2.toks) (fun b o e => Heap.get?_push_of_some _ e) (Nat.le_of_eq hD) ?_
    rw [← hD]
    exact setL_new (fresh_ok X.w (led_ok X.w))
  have h3 : s3.heap = s2.heap.push (newSetO X.w) := by rw [← hs3]
  have sz : ∀ b ∈ fp, b < s2.heap.objs.size := fun b hb => by
    obtain ⟨o, e, _⟩ := T.obj _ _ st2 b hb
    exact Heap.lt_size e
  have f3 : ∀ b ∈ fp, FpOk X pins (upd H2 D (SetL X.w D [])) b ∧ b < s3.heap.objs.size := fun b hb => by
    have hlt := sz b hb
    refine ⟨⟨?_, (f2 b hb).2⟩, by rw [h3, Heap.size_push]; exact Nat.lt_succ_of_lt hlt⟩
    rw [upd_ne (by rw [← hD]; exact Nat.ne_of_lt hlt)]
    exact (f2 b hb).1
  have st3 : tn 0 s3.heap := T.keep _ _ _ st2 fun b _ o e => by rw [h3]; exact Heap.get?_push_of_some _ e
  have I4 := block_start I3 ok hN f3
  have pg := hg s3 (upd H2 D (SetL X.w D [])) s3.heap.objs.size (cellsFrom (s3.heap.objs.size + 1) scope.names (cloFrom X.env.cells scope.names [])) fp
  have pt := ht s3 (upd H2 D (SetL X.w D [])) s3.heap.objs.size (cellsFrom (s3.heap.objs.size + 1) scope.names (cloFrom X.env.cells scope.names [])) fp
  have pe := he s3 (upd H2 D (SetL X.w D [])) s3.heap.objs.size (cellsFrom (s3.heap.objs.size + 1) scope.names (cloFrom X.env.cells scope.names [])) fp
  show codeAny _ _ (.compStart (.SetComp elt [⟨tg, iter, ifs, 0⟩] scope pos) 0 (.ref it) (.ref D) (compEnvC scope (cellsFrom (s3.heap.objs.size + 1) scope.names (cloFrom X.env.cells scope.names [])) s3.heap.objs.size X.env)) (compPost (model X.prog X.w) X.A X.xe use Qf (.ref D) s3.heap.objs.size) { s3 with heap := pushCells (s3.heap.push { cls := .type "dict", data := .dict #[] }) scope.names }
  have nfp : ∀ b ∈ fp, (upd H2 D (SetL X.w D [])) b = none := fun b hb => (f3 b hb).1.1
  generalize hce : compEnvC scope (cellsFrom (s3.heap.objs.size + 1) scope.names (cloFrom X.env.cells scope.names [])) s3.heap.objs.size X.env = ce at I4 pg pt pe ⊢
  have cL : ce.locals = s3.heap.objs.size := by subst hce; rfl
  generalize hH3 : upd H2 D (SetL X.w D []) = H3 at I3 I4 pg pt pe w0 nfp f3
  generalize hs4 : ({ s3 with heap := pushCells (s3.heap.push { cls := .type "dict", data := .dict #[] }) scope.names } : Shared) = s4 at I4 ⊢
  have st4 : tn 0 s4.heap := T.keep _ _ _ st3 fun b _ o e => by rw [← hs4]; exact pushCells_keeps _ _ _ _ (Heap.get?_push_of_some _ e)
  have stat : ∀ {σ' : L2.St} {H' : Hp} {s' : Shared}, Inv (X.blk s3 H3 scope ce fp) [] σ' H' s' → (∀ b ∈ fp, H' b = none) → ∀ b ∈ fp, FpOk (X.blk s3 H3 scope ce fp) [] H' b := fun {σ' H' s'} I' hn b hb =>
    ⟨hn b hb, (I'.ok.exf b hb).1, I'.ok.exfs b hb, .inl hb, fun x c e => (I'.ok.exf b hb).2 x c e, fun p hp => absurd (show p ∈ ([] : List (Addr × Obj)) ++ [] from hp) (by simp)⟩
  have loop : codeAny (model X.prog X.w) X.A (.compLoop (.SetComp elt [⟨tg, iter, ifs, 0⟩] scope pos) 0 (.ref it) (.ref D) ce) (compPost (model X.prog X.w) X.A X.xe use Qf (.ref D) s3.heap.objs.size) s4 := by
    refine PpSet.compLoopS_any (fun n s' => ∃ i H', Inv (X.blk s3 H3 scope ce fp) [] (wipe σ (own.map (·.2))) H' s' ∧ tn i s'.heap ∧ (∀ b ∈ fp, H' b = none) ∧ W i n H') ?_ m0 ⟨0, H3, I4, st4, nfp, w0⟩
    rintro n s5 ⟨i, H5, I5, st5, n5, w5⟩
    rcases turn i n H5 w5 with ⟨stop, qq⟩ | ⟨go, Nx, hNx, step⟩
    · have td := T.done (X.blk s3 H3 scope ce fp) rfl rfl rfl hc i [] s5 _ H5 (fun _ _ => False) I5 (stat I5 n5) st5 stop
      refine thnF td fun r s6 ⟨hr, I6⟩ => ?_
      subst hr
      have I7 : Inv X pins σ H5 s6 := I3.call' (ch := fp) I6.os I6.base I6.hok I6.bare fun b hb => ⟨(f3 b hb).1.2.2.2.1, (f3 b hb).1.2.1, (f3 b hb).1.2.2.2.2.1, (f3 b hb).1.2.2.2.2.2⟩
      have nC : H5 s3.heap.objs.size = none := by
        have z : H5 ce.locals = none := I6.free
        rw [cL] at z
        exact z
      obtain ⟨m, hn, _⟩ := I6.loc
      have hn : s6.heap.Ns ce.locals m := hn
      rw [cL] at hn
      exact hRR D s3.heap.objs.size s6 m H5 I7 qq hn (I3.fpOk (Nat.le_refl _) nC)
    · have ti := T.item (X.blk s3 H3 scope ce fp) rfl rfl rfl hc i [] s5 _ H5 (fun _ _ => False) I5 (stat I5 n5) st5 go
      refine thnF ti fun r s6 ⟨u, hr, h6⟩ => ?_
      subst hr
      refine thnF h6 fun _ s7 ⟨x, H7, I7, r7, y7, st7, n7⟩ => ?_
      have I7' := I7.pinned (stat I7 n7) (T.obj _ _ st7)
      refine thnF (pg.run _ s7 _ H7 x u _ I7' r7 (step x H7 y7)) fun _ s8 ⟨σ8, H8, I8, hw8, q8⟩ => ?_
      refine thnF (pt.run _ s8 σ8 H8 _ I8 q8) fun b s9 ⟨H9, I9, q9⟩ => ?_
      have fin : ∀ {s' : Shared} {H' : Hp}, Inv (X.blk s3 H3 scope ce fp) ([] ++ pinsAt fp s7.heap) σ8 H' s' → Nx H' → ∃ m, m < n ∧ ∃ i H', Inv (X.blk s3 H3 scope ce fp) [] (wipe σ (own.map (·.2))) H' s' ∧ tn i s'.heap ∧ (∀ b ∈ fp, H' b = none) ∧ W i m H' := fun {s' H'} I' nx => by
        obtain ⟨m', hm, w'⟩ := hNx H' nx
        have pin' : ∀ b ∈ fp, ∀ o, s7.heap.get? b = some o → s'.heap.get? b = some o ∧ H' b = none := fun b hb o e =>
          let z := I'.pin (b, o) (List.mem_append_right _ (List.mem_append_right _ (mem_pinsAt hb e)))
          ⟨z.1, z.2.1⟩
        have hl : (wipe σ (own.map (·.2))).length = σ8.length := by rw [← hw8, wipe_length]
        refine ⟨m', hm, i + 1, H', (I'.unpinned (pins := [])).weak hl (fun j v e => ?_), T.keep _ _ _ st7 fun b hb o e => (pin' b hb o e).1, fun b hb => ?_, w'⟩
        · rw [← hw8] at e
          exact (wipe_some e).1
        · obtain ⟨o, e, _⟩ := T.obj _ _ st7 b hb
          exact (pin' b hb o e).2
      cases b with
      | false =>
        simp only [Bool.false_eq_true, if_false] at q9 ⊢
        exact fin I9 q9
      | true =>
        simp only [if_true] at q9 ⊢
        refine thnF (pe.run _ s9 σ8 H9 _ I9 q9) fun z s10 ⟨yv, H10, I10, r10, k0, ks0, ey, hD10, hz10, nx⟩ => ?_
        subst ey
        exact addK_ok (X := X.blk s3 H3 scope ce fp) I10 hD10 (kV_is (P := X.prog) (w := X.w) r10) hz10 fun s11 I11 => fin I11 nx
  exact PpSet.codeAny_compStart_set loop (T.self X.A 0 _ _ _ st4 loop)
/-- as a value -/
theorem pe_scK {elt tg iter : Expr} {ifs : List Expr} {scope : Scope} {own : List (PySem.Str × Nat)} {pos : Pos} {wi : TI} {g : TG} {tt : TT} {te : TE} (hc : X.calm = true) (hN : X.N.Nodup) (hi : PI X tg iter wi) (ok : BlkOk X.N X.env.scope scope own)
    (hg : ∀ (s : Shared) (H : Hp) (C : Addr) (cl : List (PySem.Str × Addr)) (fp : List Addr), PG (X.blk s H scope (compEnvC scope cl C X.env) fp) tg g) (ht : ∀ (s : Shared) (H : Hp) (C : Addr) (cl : List (PySem.Str × Addr)) (fp : List Addr), PTs (X.blk s H scope (compEnvC scope cl C X.env) fp) ifs tt)
    (he : ∀ (s : Shared) (H : Hp) (C : Addr) (cl : List (PySem.Str × Addr)) (fp : List Addr), PE (X.blk s H scope (compEnvC scope cl C X.env) fp) elt te) (hs : ∀ x, foldedSetIterable iter X.env x = pure x := by intro _; rfl) :
    PE X (.SetComp elt [⟨tg, iter, ifs, 0⟩] scope pos) (tScK X.w wi g tt te (own.map (·.2))) := by
  refine ⟨fun pins s σ H Q I h => ?_⟩
  rw [PpSet.eval_SetComp]
  refine scK_core hc hN I hi ok hg ht he hs h fun D C s' m H' I' q hn f => ⟨m, hn, fun h'' sb => ?_⟩
  obtain ⟨f0, f1, f2, f3, f4, f5⟩ := f
  exact ⟨.ref D, H', I'.turned (t' := s'.toks) (fun b o hb e => (sb.2 b hb).trans e) f0 f1 f3 f4 f5, rfl, q⟩
end
/-- over a list or tuple that the block leaves as it is -/
theorem sc_at {J : It} {w : World} {xs : List V} {g : TG} {tt : TT} {te : TE} {vs : List Nat} {σ : L2.St} {H1 : Hp} {D : Addr} {Qd : Hp → Prop} (Pv : Nat → Hp → Prop) (h0 : Pv 0 (upd H1 D (SetL w D [])))
    (hj : ∀ i H, i ≤ xs.length → Pv i H → (i < xs.length → J.go i H ∧ ∀ x H', J.yld i H x H' → H' = H ∧ xs[i]? = some x) ∧ (i = xs.length → J.stop i H))
    (hs : ∀ i x H, xs[i]? = some x → Pv i H → g x (wipe σ vs) H fun σ2 H2 => wipe σ2 vs = wipe σ vs ∧ tt σ2 H2 fun b H3 =>
      if b = true then te σ2 H3 fun y H4 => ∃ (k : Key) (ks : List Key), y = kV k ∧ H4 D = some (SetL w D ks) ∧ ks.length + 1 < scanBound ∧ Pv (i + 1) (upd H4 D (SetL w D (insK ks k))) else Pv (i + 1) H3) (hd : ∀ H, Pv xs.length H → Qd H) :
    ∃ W : Nat → Nat → Hp → Prop, (∃ m, W 0 m (upd H1 D (SetL w D []))) ∧ ∀ i m H, W i m H →
      (J.stop i H ∧ Qd H) ∨ (J.go i H ∧ ∃ Nx : Hp → Prop, (∀ H', Nx H' → ∃ m', m' < m ∧ W (i + 1) m' H') ∧ ∀ x H', J.yld i H x H' → g x (wipe σ vs) H' fun σ2 H2 => wipe σ2 vs = wipe σ vs ∧ tt σ2 H2 fun b H3 =>
        if b = true then te σ2 H3 fun y H4 => ∃ (k : Key) (ks : List Key), y = kV k ∧ H4 D = some (SetL w D ks) ∧ ks.length + 1 < scanBound ∧ Nx (upd H4 D (SetL w D (insK ks k))) else Nx H3) := by
  refine ⟨fun i m H => m = xs.length - i ∧ i ≤ xs.length ∧ Pv i H, ⟨xs.length, by simp, Nat.zero_le _, h0⟩, ?_⟩
  rintro i m H ⟨rfl, hi, p⟩
  obtain ⟨q1, q2⟩ := hj i H hi p
  by_cases hlt : i < xs.length
  · obtain ⟨q3, q4⟩ := q1 hlt
    refine .inr ⟨q3, Pv (i + 1), fun H' p' => ⟨xs.length - (i + 1), by omega, rfl, hlt, p'⟩, fun x H' y => ?_⟩
    obtain ⟨e, hx⟩ := q4 x H' y
    subst e
    exact hs i x _ hx p
  · have e : i = xs.length := by omega
    subst e
    exact .inl ⟨q2 rfl, hd H p⟩
theorem sc_tupK {K : PySem.W.Frag} {a : Addr} {w : World} {xs : List V} {g : TG} {tt : TT} {te : TE} {vs : List Nat} {σ : L2.St} {H1 : Hp} {D : Addr} {Qd : Hp → Prop} (Pv : Nat → Hp → Prop) (h0 : Pv 0 (upd H1 D (SetL w D [])))
    (hl : ∀ i H, i ≤ xs.length → Pv i H → SqT K H a xs)
    (hs : ∀ i x H, xs[i]? = some x → Pv i H → g x (wipe σ vs) H fun σ2 H2 => wipe σ2 vs = wipe σ vs ∧ tt σ2 H2 fun b H3 =>
      if b = true then te σ2 H3 fun y H4 => ∃ (k : Key) (ks : List Key), y = kV k ∧ H4 D = some (SetL w D ks) ∧ ks.length + 1 < scanBound ∧ Pv (i + 1) (upd H4 D (SetL w D (insK ks k))) else Pv (i + 1) H3) (hd : ∀ H, Pv xs.length H → Qd H) :
    ∃ W : Nat → Nat → Hp → Prop, (∃ m, W 0 m (upd H1 D (SetL w D []))) ∧ ∀ i m H, W i m H →
      ((Itt K a).stop i H ∧ Qd H) ∨ ((Itt K a).go i H ∧ ∃ Nx : Hp → Prop, (∀ H', Nx H' → ∃ m', m' < m ∧ W (i + 1) m' H') ∧ ∀ x H', (Itt K a).yld i H x H' → g x (wipe σ vs) H' fun σ2 H2 => wipe σ2 vs = wipe σ vs ∧ tt σ2 H2 fun b H3 =>
        if b = true then te σ2 H3 fun y H4 => ∃ (k : Key) (ks : List Key), y = kV k ∧ H4 D = some (SetL w D ks) ∧ ks.length + 1 < scanBound ∧ Nx (upd H4 D (SetL w D (insK ks k))) else Nx H3) :=
  sc_at Pv h0 (fun i H hi p => ⟨fun hlt => ⟨⟨xs, xs[i], hl i H hi p, by simp [hlt]⟩, fun x H' y => ⟨y.1, y.2 xs (hl i H hi p)⟩⟩, fun e => ⟨xs, hl i H hi p, Nat.le_of_eq e.symm⟩⟩) hs hd
theorem sc_listK {K : PySem.W.Frag} {a : Addr} {w : World} {xs : List V} {g : TG} {tt : TT} {te : TE} {vs : List Nat} {σ : L2.St} {H1 : Hp} {D : Addr} {Qd : Hp → Prop} (Pv : Nat → Hp → Prop) (h0 : Pv 0 (upd H1 D (SetL w D [])))
    (hl : ∀ i H, i ≤ xs.length → Pv i H → SqL K H a xs)
    (hs : ∀ i x H, xs[i]? = some x → Pv i H → g x (wipe σ vs) H fun σ2 H2 => wipe σ2 vs = wipe σ vs ∧ tt σ2 H2 fun b H3 =>
      if b = true then te σ2 H3 fun y H4 => ∃ (k : Key) (ks : List Key), y = kV k ∧ H4 D = some (SetL w D ks) ∧ ks.length + 1 < scanBound ∧ Pv (i + 1) (upd H4 D (SetL w D (insK ks k))) else Pv (i + 1) H3) (hd : ∀ H, Pv xs.length H → Qd H) :
    ∃ W : Nat → Nat → Hp → Prop, (∃ m, W 0 m (upd H1 D (SetL w D []))) ∧ ∀ i m H, W i m H →
      ((Itl K a).stop i H ∧ Qd H) ∨ ((Itl K a).go i H ∧ ∃ Nx : Hp → Prop, (∀ H', Nx H' → ∃ m', m' < m ∧ W (i + 1) m' H') ∧ ∀ x H', (Itl K a).yld i H x H' → g x (wipe σ vs) H' fun σ2 H2 => wipe σ2 vs = wipe σ vs ∧ tt σ2 H2 fun b H3 =>
        if b = true then te σ2 H3 fun y H4 => ∃ (k : Key) (ks : List Key), y = kV k ∧ H4 D = some (SetL w D ks) ∧ ks.length + 1 < scanBound ∧ Nx (upd H4 D (SetL w D (insK ks k))) else Nx H3) :=
  sc_at Pv h0 (fun i H hi p => ⟨fun hlt => ⟨⟨xs, xs[i], hl i H hi p, by simp [hlt]⟩, fun x H' y => ⟨y.1, y.2 xs (hl i H hi p)⟩⟩, fun e => ⟨xs, hl i H hi p, Nat.le_of_eq e.symm⟩⟩) hs hd
end SM
set_option Elab.async false
set_option linter.all false
set_option maxRecDepth 100000
set_option maxHeartbeats 4000000
/-! general: list(text), text[::-1] -/
namespace SM
open PySem PySem.Spec PyProof.Rows L2
section
variable {P : Program} {w : World} {A : Around} {E : Value → Shared → Prop} {s : Shared}
theorem extend_text {R : Result → Shared → Prop} {x : Str} {t : Tok} (hh : A.handled = none) (S : Addr) (c₀ : Nat) (hS : s.heap.get? S = some { cls := .type "list", data := .seq #[] c₀ }) (hn : x.cps.size ≤ sizeLine)
    (hR : ∀ h' tk acc' c', (∀ b o, b ≠ S → s.heap.get? b = some o → h'.get? b = some o) → h'.get? S = some { cls := .type "list", dict := none, data := .seq acc' c', slots := #[] } → ItemsOf (SignAt x) acc' x.cps.size → R (.ok (.ret .none)) { s with heap := h', toks := tk }) :
    wpAny (model P w) A.in1 (Builtin.List.listExtendWith (.ref S) (.str x t) .none)
      (fun fin s' => match fin with | .done f => R (.ok f) s' | .again c' => c'.quiet = true ∧ codeAny (model P w) A c' R s') (fun e s' => R (.error e) s') s := by
  unfold Builtin.List.listExtendWith
  refine wpAny_bind (wpAny_typeOf (T := "str") (v := .str x t) rfl ?_)
  have h1 : Builtin.List.listSameRef (.ref S) (.str x t) = false := rfl
  have h2 : (Value.type "str" == Value.type "list") = false := by decide
  have h3 : (Value.type "str" == Value.type "tuple") = false := by decide
  simp only [h1, h2, h3, Bool.or_false, Bool.false_eq_true, if_false]
  refine wpAny_bind (wpAny_pyIter_str fun o St W hst => ?_)
  refine wpAny_bind (wpAny_holding ?_)
  unfold Builtin.List.listLengthHint
  refine wpAny_bind (wpAny_specialOf (T := "str") (v := .str x t) rfl F.str_len ?_)
  wp_delta
  refine wpAny_bind (wpAny_isInstance (T := "str") (v := .str x t) (b := true) rfl (by rw [isSubtype_type]; kernel_rfl) ?_)
  show wpAny _ A.in1 (typeOf (Value.str x t) >>= _) _ _ _
  refine wpAny_bind (wpAny_typeOf (T := "str") (v := .str x t) rfl ?_)
  refine wpAny_pure ?_
  have hSI : S ≠ s.heap.objs.size := Nat.ne_of_lt (Heap.lt_size hS)
  have hSf : S ∉ [s.heap.objs.size] := by simp only [List.mem_cons, List.not_mem_nil, or_false]; exact hSI
  have key : ∀ (h : Heap) (c₁ tk : Nat), St 0 h → (∀ b o, b ≠ S → s.heap.get? b = some o → h.get? b = some o) →
      h.get? S = some { cls := .type "list", data := .seq #[] c₁ } → codeAny (model P w) A (.builtin "list.extend.loop" ⟨[.ref S, .ref s.heap.objs.size, .none], []⟩) R { s with heap := h, toks := tk } := by
    intro h c₁ tk hst hk hS₁
    refine codeAny_extend_loopS (W A.in1 hh).toS hn S hSf .none x.cps.size 0 _ #[] c₁ rfl (Nat.zero_le _) hst hS₁ (ItemsOf.nil _) fun s' acc' c' hm hS' hacc => ?_
    rw [Moved.eq_with hm]
    refine hR s'.heap s'.toks acc' c' (fun b o hb e => hm.heap b o (fun hmem => ?_) (hk b o hb e)) hS' hacc
    rcases List.mem_cons.mp hmem with e' | hmem
    · exact hb e'
    · exact absurd (Heap.lt_size e) (by rw [List.mem_singleton.mp hmem]; exact Nat.lt_irrefl _)
  have hS₁ := Heap.get?_push_of_some o hS
  refine wpAny_ite_split (fun _ => ?_) (fun _ => wpAny_pure ⟨plainId_quiet PySem.F.plain_extend_loop _, key _ c₀ _ hst (fun b o _ e => Heap.get?_push_of_some _ e) hS₁⟩)
  refine wpAny_bind (wpAny_rule ?_)
  refine wpAny_bind ?_
  show wpAny _ _ (updateSeq S (·.push .none) >>= fun _ => updateSeq S (·.pop)) _ _ _
  refine wpAny_bind (wpAny_updateSeq hS₁ rfl ?_)
  have hS₂ := Heap.get?_update_self (Obj.mapSeq (·.push Value.none)) hS₁ rfl
  refine wpAny_updateSeq (hz := by seq_fits) hS₂ rfl ?_
  have hS₃ := Heap.get?_update_self (Obj.mapSeq (·.pop)) hS₂ rfl
  refine wpAny_pure ⟨plainId_quiet PySem.F.plain_extend_loop _, key _ _ _ ?_ (fun b o hb e => ?_) hS₃⟩
  · refine (W A.in1 hh).frame 0 _ _ hst fun b hb o e => ?_
    have hbS : b ≠ S := fun h => hSf (h ▸ hb)
    exact (Heap.get?_update_other _ _ (Ne.symm hbS)).trans ((Heap.get?_update_other _ _ (Ne.symm hbS)).trans e)
  · exact (Heap.get?_update_other _ _ (Ne.symm hb)).trans ((Heap.get?_update_other _ _ (Ne.symm hb)).trans (Heap.get?_push_of_some _ e))
theorem call_list_text {Q : Value → Shared → Prop} {x : Str} {t : Tok} (hh : A.handled = none) (hn : x.cps.size ≤ sizeLine)
    (hQ : ∀ h' tk acc' c', (∀ b o, s.heap.get? b = some o → h'.get? b = some o) → h'.get? s.heap.objs.size = some { cls := .type "list", dict := none, data := .seq acc' c', slots := #[] } → ItemsOf (SignAt x) acc' x.cps.size → Q (.ref s.heap.objs.size) { s with heap := h', toks := tk }) :
    wpAny (model P w) A (call (.type "list") [.str x t]) Q E s := by
  refine callType_codes (Q₁ := fun obj s₁ => obj = .ref s.heap.objs.size ∧ s₁ = { s with heap := s.heap.push { cls := .type "list", data := .seq #[] } }) PySem.F.called_list (PySem.F.typeCall_list_1 _) PySem.F.entry_list_init
    (code_list_new _ ⟨rfl, rfl⟩) fun obj s₁ h₁ => ?_
  obtain ⟨rfl, rfl⟩ := h₁
  have hS : (s.heap.push { cls := .type "list", data := .seq #[] }).get? s.heap.objs.size = some { cls := .type "list", data := .seq #[] } := Heap.get?_push_size _ rfl
  refine ⟨⟨_, hS, rfl⟩, PySem.F.args_list_init_2 _ _, ?_⟩
  show wpAny _ _ (do let old ← Builtin.List.listItems (.ref s.heap.objs.size); Builtin.List.listUpdate (.ref s.heap.objs.size) (fun _ => #[]); letGo old.toList.reverse; Builtin.List.listExtendWith (.ref s.heap.objs.size) (.str x t) .none) _ _ _
  refine wpAny_bind ?_
  unfold Builtin.List.listItems
  refine wpAny_bind (wpAny_seqItems hS rfl (wpAny_pure ?_))
  show wpAny _ _ (updateSeq s.heap.objs.size (fun _ => #[]) >>= fun _ => letGo (#[] : Array Value).toList.reverse >>= fun _ => Builtin.List.listExtendWith (.ref s.heap.objs.size) (.str x t) .none) _ _ _
  refine wpAny_bind (wpAny_updateSeq hS rfl ?_)
  have hS₂ := Heap.get?_update_self (Obj.mapSeq (fun _ => (#[] : Array Value))) hS rfl
  refine wpAny_bind (wpAny_letGo ?_)
  refine extend_text (A := A.in1) hh s.heap.objs.size _ hS₂ hn fun h' tk acc' c' hk hS' hacc => ⟨rfl, hQ h' tk acc' c' (fun b o e => ?_) hS' hacc⟩
  have hb : b ≠ s.heap.objs.size := Nat.ne_of_lt (Heap.lt_size e)
  exact hk b o hb ((Heap.get?_update_other _ _ (Ne.symm hb)).trans (Heap.get?_push_of_some _ e))
end
section
variable {X : Cx}
/-- list(text) -/
def rListStr : List V → Hp → VK → Prop := fun vs H Q => ∃ z : Str, vs = [.str z] ∧ z.length ≤ sizeLine ∧ ∀ p, H p = none → Q (.ref p) (upd H p (.lst ((signs z).map V.str)))
theorem cr_listStr (hc : X.calm = true) : CallR X (.type "list") rListStr := by
  intro pins s σ H vs us Q I r h
  obtain ⟨z, rfl, hz, q⟩ := h
  cases r with
  | cons r t =>
    cases t
    obtain ⟨tk, rfl⟩ := r
    refine call_list_text (I.ok.hd hc) hz fun h' tk' acc c' hk hD hacc => ?_
    have hs : StrsAre acc.toList (signs z) := signs_are acc.toList z.cps.toList (by rw [Array.length_toList, Array.length_toList]; exact hacc.1) fun i v hv => by
      rw [Array.getElem?_toList] at hv
      obtain ⟨c, u, e1, e2⟩ := hacc.2 i v hv
      exact ⟨c, u, by rw [Array.getElem?_toList]; exact e1, e2⟩
    exact ⟨.ref s.heap.objs.size, upd H s.heap.objs.size (.lst ((signs z).map V.str)), I.laid (t' := tk') hk (Nat.le_refl _)
      (show ObjOk X.prog X.w _ _ _ (.lst ((signs z).map V.str)) from ⟨by rw [List.length_map, signs_len]; exact hz, acc.toList, c', vals_of_strs hs, by rw [Array.toArray_toList]; exact hD⟩), rfl, q _ (I.hok.fresh (Nat.le_refl _))⟩
/-- text[::-1] -/
def tRevS (te : TE) : TE := fun σ H Q => te σ H fun x H1 => ∃ z : Str, x = .str z ∧ z.length ≤ 1000 ∧ Q (.str ⟨z.cps.reverse⟩) H1
theorem pe_revS {e : Expr} {te : TE} {k : Nat} {p1 p2 p3 pos : Pos} (he : PE X e te) : PE X (.Subscript e (.Slice none none (some (.UnaryOp .USub (.Constant (.int 1) k p1) p2)) p3) pos) (tRevS te) := by
  refine ⟨fun pins s σ H Q I h => ?_⟩
  refine Subscript_ (thn (he.run pins s σ H _ I h) fun v s1 ⟨x, H1, I1, r1, q1⟩ => ?_)
  obtain ⟨z, ex, hz, q⟩ := q1
  subst ex
  obtain ⟨tk, rfl⟩ := r1
  have hst : PO X (some (.UnaryOp .USub (.Constant (.int 1) k p1) p2)) (tPart (tUn (rU fun i => .int (-i)) (tC (.int 1)))) := po_some (pe_un un_neg pe_int)
  refine wpAny_Slice (thn (po_none.run pins s1 σ H1 (fun o H2 => o = none ∧ H2 = H1) I1 ⟨rfl, rfl⟩) fun vl s2 ⟨l, H2, I2, pl, el, e2⟩ => ?_)
  subst el e2
  refine thn (po_none.run pins s2 σ H2 (fun o H3 => o = none ∧ H3 = H2) I2 ⟨rfl, rfl⟩) fun vu s3 ⟨u, H3, I3, pu, eu, e3⟩ => ?_
  subst eu e3
  refine thn (hst.run pins s3 σ H3 (fun o H4 => o = some (-1) ∧ H4 = H3) I3 ⟨1, rfl, -1, rfl, rfl, rfl⟩) fun vs s4 ⟨o, H4, I4, ps, eo, e4⟩ => ?_
  subst eo e4
  have I5 : Inv X pins σ H4 { s4 with heap := s4.heap.push { cls := .type "slice", data := .fields #[vl, vu, vs] } } := I4.kept (t' := s4.toks) fun b ob q => Heap.get?_push_of_some _ q
  obtain ⟨l1, rfl, hl1⟩ := IsPart.raw pl
  obtain ⟨u1, rfl, hu1⟩ := IsPart.raw pu
  obtain ⟨t1, rfl, ht1⟩ := IsPart.raw ps
  show wpAny (model X.prog X.w) X.A (subscriptTail e (.Slice none none (some (.UnaryOp .USub (.Constant (.int 1) k p1) p2)) p3) (.str z tk) (.ref s4.heap.objs.size)) (EP X pins σ Q) X.xe { s4 with heap := s4.heap.push { cls := .type "slice", data := .fields #[partValue l1, partValue u1, partValue t1] } }
  refine tail_any (ops := [.str z tk, .ref s4.heap.objs.size]) (typeIs_str _ z tk) (PySem.F.slot_str_getitem.lookup) ?_ (by with_unfolding_all rfl)
  refine wpAny_getItem_str_slice (l := l1) (u := u1) (st := t1) ⟨_, Heap.get?_push_size _ rfl, rfl, rfl⟩ (by rw [ht1]; rfl) ?_
  unfold sliceMade slicePicked
  rw [hl1, hu1, ht1]
  have e1 : Builtin.Str.strSliceIndices none none ((some (-1 : Int)).getD 1) z.length = (List.range z.length).reverse := by
    rw [← PySem.W.krv_range, ← PySem.W.krv_sliceRange]
    rfl
  rw [e1]
  have e2 : ((some (-1 : Int)).getD 1 == 1 && (List.range z.length).reverse.length == z.length) = false := by
    have : ((some (-1 : Int)).getD 1 == 1) = false := by decide
    rw [this, Bool.false_and]
  rw [e2]
  have e3 : ((List.range z.length).reverse.filterMap (z.cps[·]?)) = z.cps.toList.reverse := by
    rw [List.filterMap_reverse]
    exact congrArg List.reverse (PySem.W.krv_all z.cps)
  show Made.post (.str ⟨((List.range z.length).reverse.filterMap (z.cps[·]?)).toArray⟩) _ _
  rw [e3]
  have e4 : z.cps.toList.reverse.toArray = z.cps.reverse := by rw [← Array.toList_reverse, Array.toArray_toList]
  rw [e4]
  have hl : (⟨z.cps.reverse⟩ : Str).length ≤ sizeLine := by
    show z.cps.reverse.size ≤ sizeLine
    rw [Array.size_reverse, sizeLine_eq]
    have : z.cps.size ≤ 1000 := hz
    omega
  exact ⟨hl, .str _, H4, I5.tok _, ⟨_, rfl⟩, q⟩
end
end SM
set_option Elab.async false
set_option linter.all false
set_option maxRecDepth 100000
set_option maxHeartbeats 4000000
/-! general: comprehensions that make a value of each item, over anything that is walked in its order -/
namespace R4
open PySem L2 PySem.GW LamX SM
/-- J gives the items xs while what stands in H1 stands -/
def Gvs (J : It) (xs : List V) (H1 : Hp) : Prop := ∀ i H, i ≤ xs.length → Same H1 H → (i < xs.length → J.go i H ∧ ∀ x H', J.yld i H x H' → H' = H ∧ xs[i]? = some x) ∧ (i = xs.length → J.stop i H)
theorem gvs_str {z : Str} {H1 : Hp} : Gvs (Its z) ((SM.signs z).map V.str) H1 := fun i H hi _ => by
  have hl : ((SM.signs z).map V.str).length = z.cps.size := by rw [List.length_map]; exact signs_len z
  refine ⟨fun h => ⟨by rw [hl] at h; exact h, fun x H' y => ?_⟩, fun e => by rw [hl] at e; exact Nat.le_of_eq e.symm⟩
  obtain ⟨e, c, hc, rfl⟩ := y
  refine ⟨e, ?_⟩
  unfold SM.signs
  rw [List.map_map, List.getElem?_map, Array.getElem?_toList, hc]
  rfl
theorem gvs_list {K : PySem.W.Frag} {a : Addr} {xs : List V} {H1 : Hp} (h : SqL K H1 a xs) : Gvs (Itl K a) xs H1 := fun i H hi s => by
  have q := s.seq h
  exact ⟨fun hlt => ⟨⟨xs, xs[i], q, by simp [hlt]⟩, fun x H' y => ⟨y.1, y.2 xs q⟩⟩, fun e => ⟨xs, q, Nat.le_of_eq e.symm⟩⟩
theorem gvs_tup {K : PySem.W.Frag} {a : Addr} {xs : List V} {H1 : Hp} (h : SqT K H1 a xs) : Gvs (Itt K a) xs H1 := fun i H hi s => by
  have q := Same.seqT s h
  exact ⟨fun hlt => ⟨⟨xs, xs[i], q, by simp [hlt]⟩, fun x H' y => ⟨y.1, y.2 xs q⟩⟩, fun e => ⟨xs, q, Nat.le_of_eq e.symm⟩⟩
/-- [f(x) for x in ..] -/
theorem lc_map {J : It} {xs : List V} {j : Nat} {te : TE} {vs : List Nat} {σ : L2.St} {H1 : Hp} {D : Addr} {Qd : Hp → Prop} (f : V → V) (hD : H1 D = none) (hl : xs.length ≤ 100000) (hj : Gvs J xs H1)
    (hw : ∀ v : V, wipe ((wipe σ vs).set j (some v)) vs = wipe σ vs)
    (hs : ∀ (i : Nat) (x : V) (H : Hp) (R : V → Hp → Prop), xs[i]? = some x → Same H1 H → (∀ H', Same H H' → R (f x) H') → te ((wipe σ vs).set j (some x)) H R)
    (hd : ∀ H, Same H1 H → H D = some (.lst (xs.map f)) → Qd H) :
    ∃ W : Nat → Nat → Hp → Prop, (∃ m, W 0 m (upd H1 D (.lst []))) ∧ ∀ i m H, W i m H →
      (J.stop i H ∧ Qd H) ∨ (J.go i H ∧ ∃ Nx : Hp → Prop, (∀ H', Nx H' → ∃ m', m' < m ∧ W (i + 1) m' H') ∧ ∀ x H', J.yld i H x H' → gName j x (wipe σ vs) H' fun σ2 H2 => wipe σ2 vs = wipe σ vs ∧ tYes σ2 H2 fun b H3 =>
        if b = true then te σ2 H3 fun y H4 => ∃ acc, H4 D = some (.lst acc) ∧ acc.length < sizeLine ∧ Nx (upd H4 D (.lst (acc ++ [y]))) else Nx H3) := by
  refine ⟨fun i m H => m = xs.length - i ∧ i ≤ xs.length ∧ Same H1 H ∧ H D = some (.lst ((xs.take i).map f)), ⟨xs.length, by simp, Nat.zero_le _, same_upd hD, upd_same⟩, ?_⟩
  rintro i m H ⟨rfl, hi, sm, hDi⟩
  obtain ⟨q1, q2⟩ := hj i H hi sm
  by_cases hlt : i < xs.length
  · obtain ⟨q3, q4⟩ := q1 hlt
    refine .inr ⟨q3, fun H' => i + 1 ≤ xs.length ∧ Same H1 H' ∧ H' D = some (.lst ((xs.take (i + 1)).map f)), fun H' p' => ⟨xs.length - (i + 1), by omega, rfl, p'⟩, fun x H' y => ?_⟩
    obtain ⟨e, hx⟩ := q4 x H' y
    subst e
    refine ⟨hw x, ?_⟩
    refine (hs i x H' _ hx sm fun H4 s4 => ⟨_, s4 _ _ hDi, ?_, hlt, same_at hD (sm.trans s4), ?_⟩)
    · rw [List.length_map, List.length_take, sizeLine_eq]; omega
    · rw [upd_same, take_at hx, List.map_append]; rfl
  · have e : i = xs.length := by omega
    subst e
    rw [List.take_length] at hDi
    exact .inl ⟨q2 rfl, hd H sm hDi⟩
/-- {f(x) for x in ..} -/
theorem sc_map {w : World} {J : It} {xs : List V} {j : Nat} {te : TE} {vs : List Nat} {σ : L2.St} {H1 : Hp} {D : Addr} {Qd : Hp → Prop} (f : V → Key) (hD : H1 D = none) (hl : xs.length ≤ 4000) (hj : Gvs J xs H1)
    (hw : ∀ v : V, wipe ((wipe σ vs).set j (some v)) vs = wipe σ vs)
    (hs : ∀ (i : Nat) (x : V) (H : Hp) (R : V → Hp → Prop), xs[i]? = some x → Same H1 H → (∀ H', Same H H' → R (kV (f x)) H') → te ((wipe σ vs).set j (some x)) H R)
    (hd : ∀ H, Same H1 H → H D = some (SetL w D (dedK (xs.map f))) → Qd H) :
    ∃ W : Nat → Nat → Hp → Prop, (∃ m, W 0 m (upd H1 D (SetL w D []))) ∧ ∀ i m H, W i m H →
      (J.stop i H ∧ Qd H) ∨ (J.go i H ∧ ∃ Nx : Hp → Prop, (∀ H', Nx H' → ∃ m', m' < m ∧ W (i + 1) m' H') ∧ ∀ x H', J.yld i H x H' → gName j x (wipe σ vs) H' fun σ2 H2 => wipe σ2 vs = wipe σ vs ∧ tYes σ2 H2 fun b H3 =>
        if b = true then te σ2 H3 fun y H4 => ∃ (k : Key) (ks : List Key), y = kV k ∧ H4 D = some (SetL w D ks) ∧ ks.length + 1 < scanBound ∧ Nx (upd H4 D (SetL w D (insK ks k))) else Nx H3) := by
  refine ⟨fun i m H => m = xs.length - i ∧ i ≤ xs.length ∧ Same H1 H ∧ H D = some (SetL w D (dedK ((xs.map f).take i))), ⟨xs.length, by simp, Nat.zero_le _, same_upd hD, upd_same⟩, ?_⟩
  rintro i m H ⟨rfl, hi, sm, hDi⟩
  obtain ⟨q1, q2⟩ := hj i H hi sm
  by_cases hlt : i < xs.length
  · obtain ⟨q3, q4⟩ := q1 hlt
    refine .inr ⟨q3, fun H' => i + 1 ≤ xs.length ∧ Same H1 H' ∧ H' D = some (SetL w D (dedK ((xs.map f).take (i + 1)))), fun H' p' => ⟨xs.length - (i + 1), by omega, rfl, p'⟩, fun x H' y => ?_⟩
    obtain ⟨e, hx⟩ := q4 x H' y
    subst e
    refine ⟨hw x, ?_⟩
    refine (hs i x H' _ hx sm fun H4 s4 => ⟨_, _, rfl, s4 _ _ hDi, ?_, hlt, same_at hD (sm.trans s4), ?_⟩)
    · have h1 := dedK_len ((xs.map f).take i)
      rw [List.length_take, List.length_map] at h1
      show _ < 4096
      omega
    · rw [upd_same, take_ded (by rw [List.getElem?_map, hx]; rfl)]
  · have e : i = xs.length := by omega
    subst e
    rw [show (xs.map f).take xs.length = xs.map f by rw [← List.length_map (f := f), List.take_length]] at hDi
    exact .inl ⟨q2 rfl, hd H sm hDi⟩
/-- {k(x): v(x) for x in ..} -/
theorem dc_map {J : It} {xs : List V} {j : Nat} {tk tv : TE} {vs : List Nat} {σ : L2.St} {H1 : Hp} {D : Addr} {Qd : Hp → Prop} (f : V → Key × V) (hD : H1 D = none) (hl : xs.length ≤ 100000) (hj : Gvs J xs H1)
    (hw : ∀ v : V, wipe ((wipe σ vs).set j (some v)) vs = wipe σ vs)
    (hs : ∀ (i : Nat) (x : V) (H : Hp) (R : V → V → Hp → Prop), xs[i]? = some x → Same H1 H → (∀ H', Same H H' → R (kV (f x).1) (f x).2 H') → tk ((wipe σ vs).set j (some x)) H fun y H4 => tv ((wipe σ vs).set j (some x)) H4 fun z H5 => R y z H5)
    (hd : ∀ H, Same H1 H → H D = some (.dK (mergeK [] (xs.map f))) → Qd H) :
    ∃ W : Nat → Nat → Hp → Prop, (∃ m, W 0 m (upd H1 D (.dK []))) ∧ ∀ i m H, W i m H →
      (J.stop i H ∧ Qd H) ∨ (J.go i H ∧ ∃ Nx : Hp → Prop, (∀ H', Nx H' → ∃ m', m' < m ∧ W (i + 1) m' H') ∧ ∀ x H', J.yld i H x H' → gName j x (wipe σ vs) H' fun σ2 H2 => wipe σ2 vs = wipe σ vs ∧ tYes σ2 H2 fun b H3 =>
        if b = true then tk σ2 H3 fun y H4 => tv σ2 H4 fun z H5 => ∃ kvs k, y = kV k ∧ H5 D = some (.dK kvs) ∧ kvs.length < sizeLine ∧ Nx (upd H5 D (.dK (putK kvs k z))) else Nx H3) := by
  have mlen : ∀ (l acc : List (Key × V)), (mergeK acc l).length ≤ acc.length + l.length := by
    intro l
    induction l with
    | nil => intro acc; exact Nat.le_refl _
    | cons p l ih =>
      intro acc
      have h1 := ih (putK acc p.1 p.2)
      have h2 := length_putK acc p.1 p.2
      show (mergeK (putK acc p.1 p.2) l).length ≤ _
      rw [List.length_cons]
      omega
  have mapp : ∀ (l acc : List (Key × V)) (p : Key × V), mergeK acc (l ++ [p]) = putK (mergeK acc l) p.1 p.2 := by
    intro l
    induction l with
    | nil => intro acc p; rfl
    | cons q l ih => intro acc p; exact ih (putK acc q.1 q.2) p
  refine ⟨fun i m H => m = xs.length - i ∧ i ≤ xs.length ∧ Same H1 H ∧ H D = some (.dK (mergeK [] ((xs.take i).map f))), ⟨xs.length, by simp, Nat.zero_le _, same_upd hD, upd_same⟩, ?_⟩
  rintro i m H ⟨rfl, hi, sm, hDi⟩
  obtain ⟨q1, q2⟩ := hj i H hi sm
  by_cases hlt : i < xs.length
  · obtain ⟨q3, q4⟩ := q1 hlt
    refine .inr ⟨q3, fun H' => i + 1 ≤ xs.length ∧ Same H1 H' ∧ H' D = some (.dK (mergeK [] ((xs.take (i + 1)).map f))), fun H' p' => ⟨xs.length - (i + 1), by omega, rfl, p'⟩, fun x H' y => ?_⟩
    obtain ⟨e, hx⟩ := q4 x H' y
    subst e
    refine ⟨hw x, ?_⟩
    refine (hs i x H' (fun y z H5 => ∃ kvs k, y = kV k ∧ H5 D = some (.dK kvs) ∧ kvs.length < sizeLine ∧ (i + 1 ≤ xs.length ∧ Same H1 (upd H5 D (.dK (putK kvs k z))) ∧ (upd H5 D (.dK (putK kvs k z))) D = some (.dK (mergeK [] ((xs.take (i + 1)).map f))))) hx sm fun H4 s4 => ⟨_, _, rfl, s4 _ _ hDi, ?_, hlt, same_at hD (sm.trans s4), ?_⟩)
    · have := mlen ((xs.take i).map f) []
      rw [List.length_map, List.length_take] at this
      rw [sizeLine_eq]
      have h0 : ([] : List (Key × V)).length = 0 := rfl
      omega
    · rw [upd_same, take_at hx, List.map_append]
      show _ = some (HO.dK (mergeK [] (_ ++ [f x])))
      rw [mapp]
  · have e : i = xs.length := by omega
    subst e
    rw [List.take_length] at hDi
    exact .inl ⟨q2 rfl, hd H sm hDi⟩
theorem gvs_keys {d : Addr} {o : Obj} {kvs : List (Key × V)} {H1 : Hp} (h : H1 d = some (.frz o (.dK kvs))) : Gvs (Itk d o kvs) (kvs.map fun p => kV p.1) H1 := fun i H hi s => by
  have q := s _ _ h
  have hl : (kvs.map fun p => kV p.1).length = kvs.length := List.length_map _
  refine ⟨fun hlt => ⟨⟨q, by rw [hl] at hlt; exact hlt⟩, fun x H' y => ?_⟩, fun e => ⟨q, by rw [hl] at e; exact Nat.le_of_eq e.symm⟩⟩
  obtain ⟨e, k, v, hk, rfl⟩ := y
  exact ⟨e, by rw [List.getElem?_map, hk]; rfl⟩
theorem unlock_same {H H' : Hp} {d : Addr} {u f : HO} (h : H d = some u) (s : Same (upd H d f) H') : Same H (upd H' d u) := fun b o e => by
  by_cases c : b = d
  · rw [c, upd_same, ← h, ← c, e]
  · rw [upd_ne c]
    exact s b o (by rw [upd_ne c]; exact e)
/-- [f(k, v) for k, v in d.items()] -/
theorem lc_items {K : PySem.W.Frag} {d : Addr} {o : Obj} {kvs : List (Key × V)} {a b : Nat} {te : TE} {vs : List Nat} {σ : L2.St} {H1 : Hp} {D : Addr} {Qd : Hp → Prop} (f : Key × V → V) (hD : H1 D = none) (hd : H1 d = some (.frz o (.dK kvs))) (hl : kvs.length ≤ 100000)
    (hw : ∀ v u : V, wipe (((wipe σ vs).set a (some v)).set b (some u)) vs = wipe σ vs)
    (hs : ∀ (i : Nat) (k : Key) (v : V) (H : Hp) (R : V → Hp → Prop), kvs[i]? = some (k, v) → Same H1 H → (∀ H', Same H H' → R (f (k, v)) H') → te (((wipe σ vs).set a (some (kV k))).set b (some v)) H R)
    (hq : ∀ H, Same H1 H → H D = some (.lst (kvs.map f)) → Qd H) :
    ∃ W : Nat → Nat → Hp → Prop, (∃ m, W 0 m (upd H1 D (.lst []))) ∧ ∀ i m H, W i m H →
      ((Iti d o kvs).stop i H ∧ Qd H) ∨ ((Iti d o kvs).go i H ∧ ∃ Nx : Hp → Prop, (∀ H', Nx H' → ∃ m', m' < m ∧ W (i + 1) m' H') ∧ ∀ x H', (Iti d o kvs).yld i H x H' → gTup K 2 (gCons (gName a) (gCons (gName b) gNil)) x (wipe σ vs) H' fun σ2 H2 => wipe σ2 vs = wipe σ vs ∧ tYes σ2 H2 fun b H3 =>
        if b = true then te σ2 H3 fun y H4 => ∃ acc, H4 D = some (.lst acc) ∧ acc.length < sizeLine ∧ Nx (upd H4 D (.lst (acc ++ [y]))) else Nx H3) := by
  refine ⟨fun i m H => m = kvs.length - i ∧ i ≤ kvs.length ∧ Same H1 H ∧ H D = some (.lst ((kvs.take i).map f)), ⟨kvs.length, by simp, Nat.zero_le _, same_upd hD, upd_same⟩, ?_⟩
  rintro i m H ⟨rfl, hi, sm, hDi⟩
  have hdi := sm _ _ hd
  by_cases hlt : i < kvs.length
  · refine .inr ⟨⟨hdi, hlt⟩, fun H' => i + 1 ≤ kvs.length ∧ Same H1 H' ∧ H' D = some (.lst ((kvs.take (i + 1)).map f)), fun H' p' => ⟨kvs.length - (i + 1), by omega, rfl, p'⟩, fun x H' y => ?_⟩
    obtain ⟨T, k, v, hkv, rfl, hT, rfl⟩ := y
    have sT := same_upd (o := .tup [kV k, v]) hT
    refine ⟨T, _, rfl, SqT.of upd_same, rfl, _, _, rfl, _, _, rfl, rfl, hw _ _, ?_⟩
    refine (hs i k v (upd H T (.tup [kV k, v])) _ hkv (sm.trans sT) fun H4 s4 => ⟨_, s4 _ _ (sT _ _ hDi), ?_, hlt, same_at hD (sm.trans (sT.trans s4)), ?_⟩)
    · rw [List.length_map, List.length_take, sizeLine_eq]; omega
    · rw [upd_same, take_at hkv, List.map_append]; rfl
  · have e : i = kvs.length := by omega
    subst e
    rw [List.take_length] at hDi
    exact .inl ⟨⟨hdi, Nat.le_refl _⟩, hq H sm hDi⟩
end R4
set_option Elab.async false
set_option linter.all false
set_option maxRecDepth 100000
set_option maxHeartbeats 4000000
/-! texts in order: plain mathematics -/
namespace UM
open PySem PySem.Spec PyProof.Rows SM
theorem lt_irr : ∀ a : List Nat, ltCps a a = false
  | [] => rfl
  | x :: a => by simp [ltCps, lt_irr a]
theorem le_trans : ∀ {a b c : List Nat}, ltCps b a = false → ltCps c b = false → ltCps c a = false
  | [], _, [], _, _ => rfl
  | [], [], _ :: _, _, h => rfl
  | [], _ :: _, _ :: _, _, _ => rfl
  | _ :: _, [], _, h, _ => by simp [ltCps] at h
  | _ :: _, _ :: _, [], _, h => by simp [ltCps] at h
  | x :: a, y :: b, z :: c, h1, h2 => by
    simp only [ltCps, Bool.or_eq_false_iff, decide_eq_false_iff_not, Bool.and_eq_false_iff, beq_eq_false_iff_ne] at h1 h2 ⊢
    obtain ⟨p1, p2⟩ := h1
    obtain ⟨q1, q2⟩ := h2
    refine ⟨by omega, ?_⟩
    by_cases e : z = x
    · have e1 : y = x := by omega
      have e2 : z = y := by omega
      exact .inr (le_trans (p2.resolve_left fun n => n e1) (q2.resolve_left fun n => n e2))
    · exact .inl e
theorem le_anti : ∀ {a b : List Nat}, ltCps b a = false → ltCps a b = false → a = b
  | [], [], _, _ => rfl
  | [], _ :: _, _, h => by simp [ltCps] at h
  | _ :: _, [], h, _ => by simp [ltCps] at h
  | x :: a, y :: b, h1, h2 => by
    simp only [ltCps, Bool.or_eq_false_iff, decide_eq_false_iff_not, Bool.and_eq_false_iff, beq_eq_false_iff_ne] at h1 h2
    obtain ⟨p1, p2⟩ := h1
    obtain ⟨q1, q2⟩ := h2
    have e : x = y := by omega
    rw [e, le_anti (p2.resolve_left fun n => n e.symm) (q2.resolve_left fun n => n e)]
def leS (a b : Str) : Prop := ltCps b.cps.toList a.cps.toList = false
theorem rising_pw : ∀ (xs : List Str) (p : Str), risingS p xs = true → (∀ x ∈ xs, leS p x) ∧ xs.Pairwise leS
  | [], _, _ => ⟨(fun _ h => nomatch h), List.Pairwise.nil⟩
  | x :: xs, p, h => by
    unfold risingS at h
    simp only [Bool.and_eq_true, Bool.not_eq_true'] at h
    obtain ⟨h1, h2⟩ := h
    obtain ⟨q1, q2⟩ := rising_pw xs x h2
    refine ⟨fun y hy => ?_, List.pairwise_cons.mpr ⟨q1, q2⟩⟩
    rcases List.mem_cons.mp hy with e | e
    · rw [e]; exact h1
    · exact le_trans h1 (q1 y e)
theorem sorted_pw {xs : List Str} (h : sortedS xs = true) : xs.Pairwise leS := by
  cases xs with
  | nil => exact List.Pairwise.nil
  | cons x xs =>
    obtain ⟨h1, h2⟩ := rising_pw xs x h
    exact List.pairwise_cons.mpr ⟨h1, h2⟩
theorem str_ext {a b : Str} (h : a.cps.toList = b.cps.toList) : a = b := by
  obtain ⟨a⟩ := a
  obtain ⟨b⟩ := b
  exact congrArg Str.mk (Array.toList_inj.mp h)
/-- a list of texts has one order -/
theorem sorted_one {xs ys : List Str} (h1 : sortedS xs = true) (h2 : sortedS ys = true) (p : xs.Perm ys) : xs = ys :=
  List.Perm.eq_of_pairwise (le := leS) (fun a b _ _ u v => str_ext (le_anti u v)) (sorted_pw h1) (sorted_pw h2) p
theorem sorted_set {xs ys : List Str} (h1 : sortedS xs = true) (h2 : sortedS ys = true) (n1 : xs.Nodup) (n2 : ys.Nodup) (m : ∀ x, x ∈ xs ↔ x ∈ ys) : xs = ys :=
  sorted_one h1 h2 ((List.perm_ext_iff_of_nodup n1 n2).mpr m)
def sing (c : Nat) : Str := ⟨#[c]⟩
def unsing (s : Str) : Nat := s.cps.toList.headD 0
theorem unsing_sing (c : Nat) : unsing (sing c) = c := rfl
theorem signs_eq (z : Str) : SM.signs z = z.cps.toList.map sing := rfl
/-- the SM.signs of a text in order -/
def sortN (cs : List Nat) : List Nat := cs.mergeSort (fun a b => decide (a ≤ b))
def sortS (z : Str) : Str := ⟨(sortN z.cps.toList).toArray⟩
theorem sortN_perm (cs : List Nat) : (sortN cs).Perm cs := List.mergeSort_perm _ _
theorem sortN_pw (cs : List Nat) : (sortN cs).Pairwise (· ≤ ·) := by
  have h := List.pairwise_mergeSort (le := fun a b : Nat => decide (a ≤ b)) (fun a b c h1 h2 => decide_eq_true (Nat.le_trans (of_decide_eq_true h1) (of_decide_eq_true h2))) (fun a b => by
    by_cases h : a ≤ b
    · simp [h]
    · have : b ≤ a := by omega
      simp [this]) cs
  exact h.imp fun h => of_decide_eq_true h
theorem sortN_one {l cs : List Nat} (p : l.Perm cs) (h : l.Pairwise (· ≤ ·)) : l = sortN cs :=
  List.Perm.eq_of_pairwise (le := (· ≤ ·)) (fun a b _ _ u v => Nat.le_antisymm u v) h (sortN_pw cs) (p.trans (sortN_perm cs).symm)
theorem sortN_congr {l cs : List Nat} (p : l.Perm cs) : sortN l = sortN cs := sortN_one ((sortN_perm l).trans p) (sortN_pw l)
theorem joinL_one (cs : List Nat) : TL.joinL [] (cs.map fun c => [c]) = cs := by
  induction cs with
  | nil => rfl
  | cons c cs ih =>
    cases cs with
    | nil => rfl
    | cons d cs =>
      show [c] ++ ([] ++ TL.joinL [] ((d :: cs).map fun c => [c])) = _
      rw [ih]
      rfl
theorem join_sing (cs : List Nat) : Txt.join "" (cs.map sing) = ⟨cs.toArray⟩ := by
  have h := SX.join_S [] (cs.map fun c => [c])
  rw [List.map_map, joinL_one] at h
  exact h
theorem perm_sing {ys : List Str} {cs : List Nat} (p : ys.Perm (cs.map sing)) : ∃ l : List Nat, ys = l.map sing ∧ l.Perm cs := by
  refine ⟨ys.map unsing, ?_, ?_⟩
  · rw [List.map_map]
    have : ∀ y ∈ ys, (sing ∘ unsing) y = y := fun y hy => by
      obtain ⟨c, _, e⟩ := List.mem_map.mp (p.mem_iff.mp hy)
      rw [← e]
      rfl
    exact ((List.map_congr_left this).trans (List.map_id' ys)).symm
  · have q := p.map unsing
    rw [List.map_map] at q
    have e : unsing ∘ sing = id := rfl
    rw [e, List.map_id] at q
    exact q
theorem pw_sing {l : List Nat} (h : (l.map sing).Pairwise leS) : l.Pairwise (· ≤ ·) := by
  rw [List.pairwise_map] at h
  refine h.imp fun {a b} h => ?_
  have q : ltCps [b] [a] = false := h
  simp only [ltCps, Bool.and_false, Bool.or_false, decide_eq_false_iff_not] at q
  omega
theorem join_sorted {ys : List Str} {z : Str} (p : ys.Perm (SM.signs z)) (h : sortedS ys = true) : Txt.join "" ys = sortS z := by
  obtain ⟨l, rfl, hl⟩ := perm_sing (cs := z.cps.toList) p
  rw [join_sing, sortN_one hl (pw_sing (sorted_pw h))]
  rfl
/-- each number once -/
def nub : List Nat → List Nat
  | [] => []
  | c :: cs => if c ∈ nub cs then nub cs else c :: nub cs
theorem mem_nub {x : Nat} : ∀ {cs : List Nat}, x ∈ nub cs ↔ x ∈ cs
  | [] => Iff.rfl
  | c :: cs => by
    unfold nub
    split
    · rename_i h
      rw [mem_nub, List.mem_cons]
      exact ⟨.inr, fun q => q.elim (fun e => e ▸ mem_nub.mp h) id⟩
    · rw [List.mem_cons, List.mem_cons, mem_nub]
theorem nub_nodup : ∀ cs : List Nat, (nub cs).Nodup
  | [] => List.nodup_nil
  | c :: cs => by
    unfold nub
    split
    · exact nub_nodup cs
    · rename_i h
      exact List.nodup_cons.mpr ⟨h, nub_nodup cs⟩
/-- the different SM.signs of a text in order -/
def dsort (z : Str) : Str := ⟨(sortN (nub z.cps.toList)).toArray⟩
theorem sing_inj {a b : Nat} (h : sing a = sing b) : a = b := by
  have := congrArg unsing h
  exact this
theorem map_nodup {l : List Nat} (h : l.Nodup) : (l.map sing).Nodup := List.Pairwise.map sing (fun a b h e => h (sing_inj e)) h
theorem join_dsort {ys xs : List Str} {z : Str} (p : ys.Perm xs) (n : xs.Nodup) (m : ∀ x, x ∈ xs ↔ x ∈ SM.signs z) (h : sortedS ys = true) : Txt.join "" ys = dsort z := by
  have p2 : xs.Perm ((nub z.cps.toList).map sing) := (List.perm_ext_iff_of_nodup n (map_nodup (nub_nodup _))).mpr fun x => by
    rw [m x, signs_eq, List.mem_map, List.mem_map]
    exact ⟨fun ⟨c, h1, h2⟩ => ⟨c, mem_nub.mpr h1, h2⟩, fun ⟨c, h1, h2⟩ => ⟨c, mem_nub.mp h1, h2⟩⟩
  obtain ⟨l, rfl, hl⟩ := perm_sing (p.trans p2)
  rw [join_sing, sortN_one hl (pw_sing (sorted_pw h))]
  rfl
theorem sortS_congr {z y : Str} (p : z.cps.toList.Perm y.cps.toList) : sortS z = sortS y := by
  unfold sortS
  rw [sortN_congr p]
theorem sortS_rev (z : Str) : sortS ⟨z.cps.reverse⟩ = sortS z := sortS_congr (by
  show z.cps.reverse.toList.Perm _
  rw [Array.toList_reverse]
  exact List.reverse_perm _)
theorem sortS_len (z : Str) : (sortS z).length = z.length := by
  show (sortN z.cps.toList).toArray.size = z.cps.size
  rw [List.size_toArray, (sortN_perm _).length_eq, Array.length_toList]
theorem nub_len : ∀ cs : List Nat, (nub cs).length ≤ cs.length
  | [] => Nat.le_refl _
  | c :: cs => by
    unfold nub
    have := nub_len cs
    split
    · rw [List.length_cons]; omega
    · rw [List.length_cons, List.length_cons]; omega
theorem dsort_len (z : Str) : (dsort z).length ≤ z.length := by
  show (sortN (nub z.cps.toList)).toArray.size ≤ z.cps.size
  rw [List.size_toArray, (sortN_perm _).length_eq]
  have := nub_len z.cps.toList
  rw [Array.length_toList] at this
  exact this
theorem nub_of : ∀ {cs : List Nat}, cs.Nodup → nub cs = cs
  | [], _ => rfl
  | c :: cs, h => by
    obtain ⟨h1, h2⟩ := List.nodup_cons.mp h
    unfold nub
    rw [nub_of h2, if_neg h1]
end UM
set_option Elab.async false
set_option linter.all false
set_option maxRecDepth 100000
set_option maxHeartbeats 4000000
namespace R4
open PySem L2 PySem.GW
abbrev PW : Program := PySem.Challenge.pw_growwebs_k58_rules_and_refusals
def top (i : Nat) : Stmt := PW.main.body.getD i (.Pass ⟨0, 0, 0, 0⟩)
/-- the function object that stands at f -/
def fdOf (K : PySem.W.Frag) (f : Addr) : FuncData := match K.lookup f with
  | some ⟨_, _, .func fd, _⟩ => fd
  | _ => PySem.W.fnOf "" "" ⟨[], [], none, [], [], none, []⟩ [] ⟨.function, [], false, false, []⟩ .none .none .none .none none .none .none
abbrev fa (K : PySem.W.Frag) (x : Str) : Addr := He.ga K x
abbrev CL_Rule (K : PySem.W.Frag) : Addr := He.ga K "Rule"
abbrev ME_Rule (K : PySem.W.Frag) (m : Str) : Addr := He.ma K (CL_Rule K) m
abbrev s_is_list : Stmt := top 6
abbrev s_are_colours : Stmt := top 9
abbrev s_has_colours : Stmt := top 10
abbrev s_is_sign : Stmt := top 11
abbrev s_need_beside : Stmt := top 12
abbrev s_need_letters : Stmt := top 13
abbrev s__law_begin : Stmt := top 16
abbrev s__law_draw : Stmt := top 17
abbrev s__law_pick : Stmt := top 18
abbrev s__law_shuffled : Stmt := top 19
abbrev s__law_refused : Stmt := top 20
abbrev s__law_is_rule : Stmt := top 21
abbrev s__law_strange : Stmt := top 22
abbrev s__law_pairs_of : Stmt := top 23
abbrev s__law_letters_of : Stmt := top 24
abbrev s__law_refusals_right : Stmt := top 25
abbrev s_law : Stmt := top 26
abbrev s_Rule___init__ : Stmt := inClass (top 14) 0
abbrev s_Rule___eq__ : Stmt := inClass (top 14) 1
theorem sc_is_list : FnScope ["value"] ["value"] (defScope s_is_list) := ⟨rfl, rfl, rfl, by decide +kernel, rfl, by decide +kernel, by decide +kernel⟩
theorem sc_are_colours : FnScope ["value", "colour"] ["value"] (defScope s_are_colours) := ⟨rfl, rfl, rfl, by decide +kernel, rfl, by decide +kernel, by decide +kernel⟩
theorem sc_has_colours : FnScope ["value", "colours", "colour"] ["value", "colours"] (defScope s_has_colours) := ⟨rfl, rfl, rfl, by decide +kernel, rfl, by decide +kernel, by decide +kernel⟩
theorem sc_is_sign : FnScope ["value"] ["value"] (defScope s_is_sign) := ⟨rfl, rfl, rfl, by decide +kernel, rfl, by decide +kernel, by decide +kernel⟩
theorem sc_need_beside : FnScope ["beside", "colours", "pair"] ["beside", "colours"] (defScope s_need_beside) := ⟨rfl, rfl, rfl, by decide +kernel, rfl, by decide +kernel, by decide +kernel⟩
theorem sc_need_letters : FnScope ["letters", "colours", "sign", "some"] ["letters", "colours"] (defScope s_need_letters) := ⟨rfl, rfl, rfl, by decide +kernel, rfl, by decide +kernel, by decide +kernel⟩
theorem sc__law_begin : FnScope ["_law_script"] ["_law_script"] (defScope s__law_begin) := ⟨rfl, rfl, rfl, by decide +kernel, rfl, by decide +kernel, by decide +kernel⟩
theorem sc__law_draw : FnScope ["_law_pen", "_law_span", "_law_digit", "_law_at", "_law_cell", "_law_n"] ["_law_pen", "_law_span"] (defScope s__law_draw) := ⟨rfl, rfl, rfl, by decide +kernel, rfl, by decide +kernel, by decide +kernel⟩
theorem sc__law_pick : FnScope ["_law_pen", "_law_some"] ["_law_pen", "_law_some"] (defScope s__law_pick) := ⟨rfl, rfl, rfl, by decide +kernel, rfl, by decide +kernel, by decide +kernel⟩
theorem sc__law_shuffled : FnScope ["_law_pen", "_law_some", "_law_left", "_law_found"] ["_law_pen", "_law_some"] (defScope s__law_shuffled) := ⟨rfl, rfl, rfl, by decide +kernel, rfl, by decide +kernel, by decide +kernel⟩
theorem sc__law_refused : FnScope ["_law_call", "e"] ["_law_call"] (defScope s__law_refused) := ⟨rfl, rfl, rfl, by decide +kernel, rfl, by decide +kernel, by decide +kernel⟩
theorem sc__law_is_rule : FnScope ["_law_made", "_law_hues", "_law_pairs", "_law_signs", "_law_due", "_law_told", "_law_pair", "_law_sign", "_law_one"] ["_law_made", "_law_hues", "_law_pairs", "_law_signs"] (defScope s__law_is_rule) := ⟨rfl, rfl, rfl, by decide +kernel, rfl, by decide +kernel, by decide +kernel⟩
theorem sc__law_strange : FnScope ["_law_pen"] ["_law_pen"] (defScope s__law_strange) := ⟨rfl, rfl, rfl, by decide +kernel, rfl, by decide +kernel, by decide +kernel⟩
theorem sc__law_pairs_of : FnScope ["_law_pen", "_law_hues", "_law_found", "_law_one", "_law_other", "_law_pair"] ["_law_pen", "_law_hues"] (defScope s__law_pairs_of) := ⟨rfl, rfl, rfl, by decide +kernel, rfl, by decide +kernel, by decide +kernel⟩
theorem sc__law_letters_of : FnScope ["_law_pen", "_law_hues", "_law_found", "_law_sign", "_law_one"] ["_law_pen", "_law_hues"] (defScope s__law_letters_of) := ⟨rfl, rfl, rfl, by decide +kernel, rfl, by decide +kernel, by decide +kernel⟩
theorem sc__law_refusals_right : FnScope ["_law_pen", "_law_hues", "_law_pairs", "_law_signs", "_law_odd", "_law_lone", "_law_bad", "_law_at", "_law_wrong"] ["_law_pen", "_law_hues", "_law_pairs", "_law_signs"] (defScope s__law_refusals_right) := ⟨rfl, rfl, rfl, by decide +kernel, rfl, by decide +kernel, by decide +kernel⟩
theorem sc_law : FnScope ["_law_script", "_law_pen", "_law_turn", "_law_hues", "_law_pairs", "_law_signs", "_law_handed", "_law_told", "_law_made", "_law_twin", "_law_other", "_law_pair", "_law_value"] ["_law_script"] (defScope s_law) := ⟨rfl, rfl, rfl, by decide +kernel, rfl, by decide +kernel, by decide +kernel⟩
theorem sc_Rule___init__ : FnScope ["self", "colours", "beside", "letters", "told", "pair", "sign"] ["self", "colours", "beside", "letters"] (defScope s_Rule___init__) := ⟨rfl, rfl, rfl, by decide +kernel, rfl, by decide +kernel, by decide +kernel⟩
theorem sc_Rule___eq__ : FnScope ["self", "other"] ["self", "other"] (defScope s_Rule___eq__) := ⟨rfl, rfl, rfl, by decide +kernel, rfl, by decide +kernel, by decide +kernel⟩
def fl_BadRule : List Fl := [⟨"value", ⟨10, 25, 10, 30⟩, ⟨11, 8, 11, 12⟩, ⟨11, 8, 11, 18⟩, ⟨11, 21, 11, 26⟩, ⟨11, 8, 11, 26⟩⟩]
theorem ini_BadRule : IniOk (inClass (top 3) 0) fl_BadRule := ⟨⟨⟨10, 8, 10, 13⟩, ⟨10, 8, 10, 15⟩, ⟨10, 8, 10, 24⟩, ⟨10, 8, 10, 31⟩, ⟨10, 8, 10, 31⟩, rfl, rfl⟩, by decide +kernel, by decide +kernel, by decide +kernel, ⟨_, rfl⟩, rfl, rfl, rfl, by decide +kernel, by decide +kernel, by decide +kernel, by decide +kernel, by decide +kernel⟩
theorem eb_BadRule_1 : EBind (defArgs (inClass (top 3) 0)) (defScope (inClass (top 3) 0)) fl_BadRule fl_BadRule.length [] := by
  intro us ws h1 h2 s e qual body doc pm an cda ct cc
  match us, ws, h1, h2 with
  | [_], [], _, _ => exact .of_eq rfl
/-- what the top has made -/
structure Top (K : PySem.W.Frag) (mg : Str → Option Value) : Prop where
  z_isinstance : mg "isinstance" = none
  z_int : mg "int" = none
  z_bool : mg "bool" = none
  z_list : mg "list" = none
  z_tuple : mg "tuple" = none
  z_len : mg "len" = none
  z_min : mg "min" = none
  z_abs : mg "abs" = none
  z_sum : mg "sum" = none
  z_all : mg "all" = none
  z_range : mg "range" = none
  z_super : mg "super" = none
  z_str : mg "str" = none
  z_dict : mg "dict" = none
  z_set : mg "set" = none
  z_sorted : mg "sorted" = none
  z_ValueError : mg "ValueError" = none
  c_MOST_COLOURS : ∃ t, mg "MOST_COLOURS" = some (.int (4) t)
  c_LETTERS : ∃ t, mg "LETTERS" = some (.str "abcdefghijklmnopqrstuvwxyz" t)
  F_is_list : Fun K "is_list" "is_list" s_is_list (fa K "is_list") (fdOf K (fa K "is_list"))
  b_is_list : Binds K (fdOf K (fa K "is_list")) ["value"] []
  g_is_list : mg "is_list" = some (.ref (fa K "is_list"))
  F_are_colours : Fun K "are_colours" "are_colours" s_are_colours (fa K "are_colours") (fdOf K (fa K "are_colours"))
  b_are_colours : Binds K (fdOf K (fa K "are_colours")) ["value"] []
  g_are_colours : mg "are_colours" = some (.ref (fa K "are_colours"))
  F_has_colours : Fun K "has_colours" "has_colours" s_has_colours (fa K "has_colours") (fdOf K (fa K "has_colours"))
  b_has_colours : Binds K (fdOf K (fa K "has_colours")) ["value", "colours"] []
  g_has_colours : mg "has_colours" = some (.ref (fa K "has_colours"))
  F_is_sign : Fun K "is_sign" "is_sign" s_is_sign (fa K "is_sign") (fdOf K (fa K "is_sign"))
  b_is_sign : Binds K (fdOf K (fa K "is_sign")) ["value"] []
  g_is_sign : mg "is_sign" = some (.ref (fa K "is_sign"))
  F_need_beside : Fun K "need_beside" "need_beside" s_need_beside (fa K "need_beside") (fdOf K (fa K "need_beside"))
  b_need_beside : Binds K (fdOf K (fa K "need_beside")) ["beside", "colours"] []
  g_need_beside : mg "need_beside" = some (.ref (fa K "need_beside"))
  F_need_letters : Fun K "need_letters" "need_letters" s_need_letters (fa K "need_letters") (fdOf K (fa K "need_letters"))
  b_need_letters : Binds K (fdOf K (fa K "need_letters")) ["letters", "colours"] []
  g_need_letters : mg "need_letters" = some (.ref (fa K "need_letters"))
  F__law_begin : Fun K "_law_begin" "_law_begin" s__law_begin (fa K "_law_begin") (fdOf K (fa K "_law_begin"))
  b__law_begin : Binds K (fdOf K (fa K "_law_begin")) ["_law_script"] []
  g__law_begin : mg "_law_begin" = some (.ref (fa K "_law_begin"))
  F__law_draw : Fun K "_law_draw" "_law_draw" s__law_draw (fa K "_law_draw") (fdOf K (fa K "_law_draw"))
  b__law_draw : Binds K (fdOf K (fa K "_law_draw")) ["_law_pen", "_law_span"] []
  g__law_draw : mg "_law_draw" = some (.ref (fa K "_law_draw"))
  F__law_pick : Fun K "_law_pick" "_law_pick" s__law_pick (fa K "_law_pick") (fdOf K (fa K "_law_pick"))
  b__law_pick : Binds K (fdOf K (fa K "_law_pick")) ["_law_pen", "_law_some"] []
  g__law_pick : mg "_law_pick" = some (.ref (fa K "_law_pick"))
  F__law_shuffled : Fun K "_law_shuffled" "_law_shuffled" s__law_shuffled (fa K "_law_shuffled") (fdOf K (fa K "_law_shuffled"))
  b__law_shuffled : Binds K (fdOf K (fa K "_law_shuffled")) ["_law_pen", "_law_some"] []
  g__law_shuffled : mg "_law_shuffled" = some (.ref (fa K "_law_shuffled"))
  F__law_refused : Fun K "_law_refused" "_law_refused" s__law_refused (fa K "_law_refused") (fdOf K (fa K "_law_refused"))
  b__law_refused : Binds K (fdOf K (fa K "_law_refused")) ["_law_call"] []
  g__law_refused : mg "_law_refused" = some (.ref (fa K "_law_refused"))
  F__law_is_rule : Fun K "_law_is_rule" "_law_is_rule" s__law_is_rule (fa K "_law_is_rule") (fdOf K (fa K "_law_is_rule"))
  b__law_is_rule : Binds K (fdOf K (fa K "_law_is_rule")) ["_law_made", "_law_hues", "_law_pairs", "_law_signs"] []
  g__law_is_rule : mg "_law_is_rule" = some (.ref (fa K "_law_is_rule"))
  F__law_strange : Fun K "_law_strange" "_law_strange" s__law_strange (fa K "_law_strange") (fdOf K (fa K "_law_strange"))
  b__law_strange : Binds K (fdOf K (fa K "_law_strange")) ["_law_pen"] []
  g__law_strange : mg "_law_strange" = some (.ref (fa K "_law_strange"))
  F__law_pairs_of : Fun K "_law_pairs_of" "_law_pairs_of" s__law_pairs_of (fa K "_law_pairs_of") (fdOf K (fa K "_law_pairs_of"))
  b__law_pairs_of : Binds K (fdOf K (fa K "_law_pairs_of")) ["_law_pen", "_law_hues"] []
  g__law_pairs_of : mg "_law_pairs_of" = some (.ref (fa K "_law_pairs_of"))
  F__law_letters_of : Fun K "_law_letters_of" "_law_letters_of" s__law_letters_of (fa K "_law_letters_of") (fdOf K (fa K "_law_letters_of"))
  b__law_letters_of : Binds K (fdOf K (fa K "_law_letters_of")) ["_law_pen", "_law_hues"] []
  g__law_letters_of : mg "_law_letters_of" = some (.ref (fa K "_law_letters_of"))
  F__law_refusals_right : Fun K "_law_refusals_right" "_law_refusals_right" s__law_refusals_right (fa K "_law_refusals_right") (fdOf K (fa K "_law_refusals_right"))
  b__law_refusals_right : Binds K (fdOf K (fa K "_law_refusals_right")) ["_law_pen", "_law_hues", "_law_pairs", "_law_signs"] []
  g__law_refusals_right : mg "_law_refusals_right" = some (.ref (fa K "_law_refusals_right"))
  F_law : Fun K "law" "law" s_law (fa K "law") (fdOf K (fa K "law"))
  b_law : Binds K (fdOf K (fa K "law")) ["_law_script"] []
  g_law : mg "law" = some (.ref (fa K "law"))
  g_Rule : mg "Rule" = some (.ref (CL_Rule K))
  cl_Rule : Cls K (CL_Rule K)
  n_Rule_colours : NoAttr K (CL_Rule K) "colours"
  n_Rule_beside : NoAttr K (CL_Rule K) "beside"
  n_Rule_letters : NoAttr K (CL_Rule K) "letters"
  mk_Rule : Mk K (CL_Rule K) (ME_Rule K "__init__")
  D_Rule___init__ : FunD K "__init__" "Rule.__init__" (defArgs s_Rule___init__) (defBody s_Rule___init__) (defScope s_Rule___init__) [.non] [] (ME_Rule K "__init__") (fdOf K (ME_Rule K "__init__"))
  m_Rule___init__ : Meth K (CL_Rule K) "__init__" (ME_Rule K "__init__")
  F_Rule___eq__ : Fun K "__eq__" "Rule.__eq__" s_Rule___eq__ (ME_Rule K "__eq__") (fdOf K (ME_Rule K "__eq__"))
  b_Rule___eq__ : Binds K (fdOf K (ME_Rule K "__eq__")) ["self", "other"] []
  m_Rule___eq__ : Meth K (CL_Rule K) "__eq__" (ME_Rule K "__eq__")
  ic_Rule : PySem.W.findIn K (.ref (CL_Rule K)) "__class__" = some (some (.builtin "object.__class__"))
  ig_Rule : PySem.W.specialIn K (.builtin "object.__class__") "__get__" = some (some (.builtin "getset_descriptor.__get__"))
  it_Rule : PySem.W.takesIn K (.builtin "object.__class__") = some true
  im_Rule : PySem.W.mroIn K (CL_Rule K) (.type "object") = some true
  kk_Rule : PySem.W.kitOne K (.ref (CL_Rule K)) (.ref (CL_Rule K)) = some true
  k_Rule_tuple : PySem.W.kitOne K (.type "tuple") (.ref (CL_Rule K)) = some false
  k_Rule_list : PySem.W.kitOne K (.type "list") (.ref (CL_Rule K)) = some false
  k_Rule_int : PySem.W.kitOne K (.type "int") (.ref (CL_Rule K)) = some false
  k_Rule_str : PySem.W.kitOne K (.type "str") (.ref (CL_Rule K)) = some false
  k_Rule_bool : PySem.W.kitOne K (.type "bool") (.ref (CL_Rule K)) = some false
  k_Rule_NoneType : PySem.W.kitOne K (.type "NoneType") (.ref (CL_Rule K)) = some false
  k_Rule_float : PySem.W.kitOne K (.type "float") (.ref (CL_Rule K)) = some false
  k_Rule_dict : PySem.W.kitOne K (.type "dict") (.ref (CL_Rule K)) = some false
  sf_Rule : PySem.W.selfFirst K (CL_Rule K) = true
  ne_Rule : PySem.W.findIn K (.ref (CL_Rule K)) "__ne__" = some (some (.builtin "object.__ne__"))
  os_Rule : PySem.W.subIn K (.ref (CL_Rule K)) (.type "object") = some true
  t1_Rule_tuple : PySem.W.subIn K (.type "tuple") (.ref (CL_Rule K)) = some false
  t2_Rule_tuple : PySem.W.subIn K (.ref (CL_Rule K)) (.type "tuple") = some false
  t1_Rule_list : PySem.W.subIn K (.type "list") (.ref (CL_Rule K)) = some false
  t2_Rule_list : PySem.W.subIn K (.ref (CL_Rule K)) (.type "list") = some false
  t1_Rule_str : PySem.W.subIn K (.type "str") (.ref (CL_Rule K)) = some false
  t2_Rule_str : PySem.W.subIn K (.ref (CL_Rule K)) (.type "str") = some false
  t1_Rule_dict : PySem.W.subIn K (.type "dict") (.ref (CL_Rule K)) = some false
  t2_Rule_dict : PySem.W.subIn K (.ref (CL_Rule K)) (.type "dict") = some false
  t1_Rule_NoneType : PySem.W.subIn K (.type "NoneType") (.ref (CL_Rule K)) = some false
  t2_Rule_NoneType : PySem.W.subIn K (.ref (CL_Rule K)) (.type "NoneType") = some false
  x_BadRule_BadRule : PySem.W.exmOne K (.ref (He.ga K "BadRule")) (.ref (He.ga K "BadRule")) = some true
  q_BadRule_ValueError : PySem.W.kitOne K (.ref (He.ga K "BadRule")) (.type "ValueError") = some true
  g_WebError : mg "WebError" = some (.ref (He.ga K "WebError"))
  e_BadRule : ErrX PW K mg (He.ga K "WebError") "BadRule" (He.ga K "BadRule") (He.ma K (He.ga K "BadRule") "__init__") (defArgs (inClass (top 3) 0)) (defScope (inClass (top 3) 0)) fl_BadRule
end R4
set_option Elab.async false
set_option linter.all false
set_option maxRecDepth 100000
set_option maxHeartbeats 4000000
set_option pp.maxSteps 700
namespace R4
open PySem L2 PySem.GW LamX SM
section
variable {w : World} {K : PySem.W.Frag} {mg : Str → Option Value} {base : Heap}
def lets : List Nat := ("abcdefghijklmnopqrstuvwxyz" : Str).cps.toList
def colB (z : Str) : Bool := decide (1 ≤ z.length) && (decide (z.length ≤ 4) && (z.cps.toList.all (fun c => decide (c ∈ lets)) && decide ((dedK ((SM.signs z).map Sum.inr)).length = z.length)))
def hasB (z c : Str) : Bool := z.cps.toList.all fun x => decide (x ∈ c.cps.toList)
def signB (z : Str) : Bool := decide (z.length = 1) && (z.cps.toList.all (fun c => decide (c ∈ lets)) || decide (z = "."))
/-- the values that are no texts -/
def NoStr (K : PySem.W.Frag) (H : Hp) (v : V) : Prop := ∃ n, TyX K H v (.type n) ∧ kitB n "str" = some false
def NoSeq (K : PySem.W.Frag) (H : Hp) (v : V) : Prop := ∃ n, TyX K H v (.type n) ∧ PySem.W.kitAny K (.type n) [.type "list", .type "tuple"] = some false
def NoDict (K : PySem.W.Frag) (H : Hp) (v : V) : Prop := ∃ n, TyX K H v (.type n) ∧ kitB n "dict" = some false
theorem NoStr.same {H H' : Hp} {v : V} (e : Same H H') (h : NoStr K H v) : NoStr K H' v := by
  obtain ⟨n, h1, h2⟩ := h
  exact ⟨n, TyX.same e h1, h2⟩
theorem NoSeq.same {H H' : Hp} {v : V} (e : Same H H') (h : NoSeq K H v) : NoSeq K H' v := by
  obtain ⟨n, h1, h2⟩ := h
  exact ⟨n, TyX.same e h1, h2⟩
theorem NoDict.same {H H' : Hp} {v : V} (e : Same H H') (h : NoDict K H v) : NoDict K H' v := by
  obtain ⟨n, h1, h2⟩ := h
  exact ⟨n, TyX.same e h1, h2⟩
/-- BadRule with the value v -/
def Rz (K : PySem.W.Frag) (H : Hp) (E : XK) (v : V) : Prop := ∀ d H', Same H H' → H' d = some (.xd [("value", v)]) → E (.ref (He.ga K "BadRule")) (some d) H'
theorem Rz.same {H H' : Hp} {E : XK} {v : V} (e : Same H H') (h : Rz K H E v) : Rz K H' E v := fun d H2 s hd => h d H2 (e.trans s) hd
def PairOk (c : Str) (v : V) : Prop := ∃ z : Str, v = .str z ∧ z.length = 2 ∧ hasB z c = true
def PairBad (K : PySem.W.Frag) (H : Hp) (c : Str) (v : V) : Prop := NoStr K H v ∨ ∃ z : Str, v = .str z ∧ z.length ≤ 1000 ∧ (hasB z c = false ∨ z.length ≠ 2)
def spIsList (K : PySem.W.Frag) : Sp := fun vs H Q _ => ∃ (v : V) (n : String) (b : Bool), vs = [v] ∧ TyX K H v (.type n) ∧ PySem.W.kitAny K (.type n) [.type "list", .type "tuple"] = some b ∧ ∀ H', Same H H' → Q (.bl b) H'
def spAre (K : PySem.W.Frag) : Sp := fun vs H Q _ => ∃ v, vs = [v] ∧ ((NoStr K H v ∧ Q (.bl false) H) ∨ (∃ z : Str, v = .str z ∧ z.length ≤ 1000 ∧ ∀ H', Same H H' → Q (.bl (colB z)) H'))
def spHas (K : PySem.W.Frag) : Sp := fun vs H Q _ => ∃ v c, vs = [v, .str c] ∧ ((NoStr K H v ∧ Q (.bl false) H) ∨ (∃ z : Str, v = .str z ∧ z.length ≤ 1000 ∧ ∀ H', Same H H' → Q (.bl (hasB z c)) H'))
def spSign (K : PySem.W.Frag) : Sp := fun vs H Q _ => ∃ v, vs = [v] ∧ ((NoStr K H v ∧ Q (.bl false) H) ∨ (∃ z : Str, v = .str z ∧ z.length ≤ 1000 ∧ Q (.bl (signB z)) H))
def spNeedB (K : PySem.W.Frag) : Sp := fun vs H Q E => ∃ v c, vs = [v, .str c] ∧ ((NoSeq K H v ∧ Rz K H E v) ∨ (∃ a xs, v = .ref a ∧ Sq K H a xs ∧ xs.length ≤ 1000 ∧
  ((∃ (j : Nat) (x : V), xs[j]? = some x ∧ PairBad K H c x ∧ (∀ (i : Nat) (y : V), i < j → xs[i]? = some y → PairOk c y) ∧ Rz K H E x) ∨ ((∀ y ∈ xs, PairOk c y) ∧ ∀ H', Same H H' → Q .non H'))))
/-- what is asked of an entry of letters -/
def entB (c : Str) (p : Key × V) : Bool := match p with
  | (.inr s, .str z) => signB s && hasB z c
  | _ => false
def EntV (p : Key × V) : Prop := (∀ s, p.1 = .inr s → s.length ≤ 1000) ∧ (p.2 = .non ∨ ∃ z : Str, p.2 = .str z ∧ z.length ≤ 1000)
def spNeedL (K : PySem.W.Frag) : Sp := fun vs H Q E => ∃ v c, vs = [v, .str c] ∧ ((NoDict K H v ∧ Rz K H E v) ∨ (∃ d kvs, v = .ref d ∧ H d = some (.dK kvs) ∧ kvs.length ≤ 1000 ∧ (∀ p ∈ kvs, EntV p) ∧
  ((kvs.all (entB c) = false ∧ Rz K H E v) ∨ (kvs.all (entB c) = true ∧ ∀ H', Same H H' → Q .non H'))))
theorem szS {z : Str} (h : z.length ≤ 1000) : z.length ≤ sizeLine := by rw [sizeLine_eq]; omega
theorem map_signs {f : Nat → V} {g : V → V} (z : Str) (h : ∀ c, g (.str ⟨#[c]⟩) = f c) : ((SM.signs z).map V.str).map g = z.cps.toList.map f := by
  unfold SM.signs
  rw [List.map_map, List.map_map]
  exact List.map_congr_left fun c _ => h c
def sgn : V → Nat
  | .str z => UM.unsing z
  | _ => 0
theorem signs_at {z : Str} {i : Nat} {x : V} (h : ((SM.signs z).map V.str)[i]? = some x) : ∃ c, z.cps[i]? = some c ∧ x = .str ⟨#[c]⟩ := by
  unfold SM.signs at h
  rw [List.map_map, List.getElem?_map, Array.getElem?_toList] at h
  obtain ⟨c, hc, e⟩ := Option.map_eq_some_iff.mp h
  exact ⟨c, hc, e.symm⟩
theorem signs_le {z : Str} (h : z.length ≤ 1000) : ((SM.signs z).map V.str).length ≤ 100000 := by rw [List.length_map, signs_len]; omega
theorem all_bl {α : Type} (l : List α) (p : α → Bool) : l.map (fun c => V.bl (p c)) = (l.map p).map V.bl := by rw [List.map_map]; rfl
theorem all_id {α : Type} (l : List α) (p : α → Bool) : (l.map p).all id = l.all p := by rw [List.all_map]; rfl
theorem dec_int (a b : Nat) : decide (V.int (a : Int) = V.int (b : Int)) = decide (a = b) := by
  by_cases h : a = b
  · rw [decide_eq_true h, decide_eq_true (by rw [h])]
  · rw [decide_eq_false h, decide_eq_false]
    intro e
    have := V.int.inj e
    exact h (by omega)
theorem dec_str (a b : Str) : decide (V.str a = V.str b) = decide (a = b) := by
  by_cases h : a = b
  · rw [decide_eq_true h, decide_eq_true (by rw [h])]
  · rw [decide_eq_false h, decide_eq_false]
    intro e
    exact h (V.str.inj e)
theorem one_sign {z : Str} (h : z.length = 1) : ∃ c, z = ⟨#[c]⟩ := by
  obtain ⟨a⟩ := z
  have h2 : a.size = 1 := h
  obtain ⟨c, rfl⟩ := Array.size_eq_one_iff.mp h2
  exact ⟨c, rfl⟩
theorem ok_is_list (T : Top K mg) : FnOk PW w K mg base CX0 1 (fa K "is_list") (fdOf K (fa K "is_list")) ["value"] (spIsList K) := by
  refine T.F_is_list.ok sc_is_list (fun vs H Q E h => ?_) (fun cdv A outer s H vs Q E hr h => ?_)
  · obtain ⟨v, n, b, rfl, _ty, _h1, _k⟩ := h
    rfl
  · obtain ⟨v, n, b, rfl, ty, h1, k⟩ := h
    have hu := hu_of hr
    refine ⟨_, (pss_one (ps_ret (pe_callB call_isiT (by rfl) T.z_isinstance (by decide +kernel) (pa_cons (pv 0) (pa_cons (pe_tup (pa_cons (pe_bltn (v := .ty "list") (by rfl) T.z_list (by decide +kernel) rfl) (pa_cons (pe_bltn (v := .ty "tuple") (by rfl) T.z_tuple (by decide +kernel) rfl) pa_nil))) pa_nil))))), ?_⟩
    refine ⟨_, rfl, (by show 2 ≤ sizeLine; decide), fun tp htp => ?_⟩
    have ty' := TyX.same (same_upd (o := .tup [.ty "list", .ty "tuple"]) htp) ty
    exact ⟨v, tp, _, _, _, b, rfl, upd_same, .cons (.ty _) (.cons (.ty _) .nil), ty', h1, k _ (same_upd htp)⟩
theorem ok_are_colours (T : Top K mg) : FnOk PW w K mg base CX0 2 (fa K "are_colours") (fdOf K (fa K "are_colours")) ["value"] (spAre K) := by
  refine T.F_are_colours.ok sc_are_colours (fun vs H Q E h => ?_) (fun cdv A outer s H vs Q E hr h => ?_)
  · obtain ⟨v, rfl, _h⟩ := h
    rfl
  · obtain ⟨v, rfl, h⟩ := h
    have hu := hu_of hr
    obtain ⟨t_LETTERS, c_LETTERS⟩ := T.c_LETTERS
    obtain ⟨t_MOST_COLOURS, c_MOST_COLOURS⟩ := T.c_MOST_COLOURS
    refine ⟨_, (pss_cons (ps_if (PW.pt (pw_or (pt_not (pt_val (pe_callB call_isi (by rfl) T.z_isinstance (by decide +kernel) (pa_cons (pv 0) (pa_cons (pe_bltn (v := .ty "str") (by rfl) T.z_str (by decide +kernel) rfl) pa_nil))))) (pw_or1 (pt_not (pt_chain op_le op_le pe_int (pe_callB call_len_str (by rfl) T.z_len (by decide +kernel) (pa_cons (pv 0) pa_nil)) (pe_glob (v := .int 4) rfl c_MOST_COLOURS ⟨_, rfl⟩)))))) (pss_one (ps_ret pe_bl)) pss_nil)
      (pss_one (ps_ret (pe_and (pe_callB (cr_all rfl) (by rfl) T.z_all (by decide +kernel) (pa_cons (pe_lc (own := [("colour", 1)]) (g := gName 1) (by rfl) sc_are_colours.nd (pi_str (pv 0)) (blkOk_by (own := [("colour", 1)]) (N := ["value", "colour"]) (sc := (defScope s_are_colours)) (by decide +kernel)) (fun _ _ _ _ _ => (pg_name (i := 1) sc_are_colours.nd rfl (Or.inl rfl))) (fun _ _ _ _ _ => pts_nil) (fun _ _ _ _ _ => (pe_cmpR op_in_sign (pv 1) (pe_glob (v := .str "abcdefghijklmnopqrstuvwxyz") rfl c_LETTERS ⟨_, rfl⟩) rfl))) pa_nil)) (pe_one (pe_cmpR op_eq (pe_callB cr_lenSet (by rfl) T.z_len (by decide +kernel) (pa_cons (pe_callTy (cr_setStr rfl) (by rfl) T.z_set (by decide +kernel) (pa_cons (pv 0) pa_nil)) pa_nil)) (pe_callB call_len_str (by rfl) T.z_len (by decide +kernel) (pa_cons (pv 0) pa_nil)) (nomark _))))))), ?_⟩
    rcases h with ⟨⟨n, ty, h1⟩, k⟩ | ⟨z, rfl, hz, k⟩
    · exact ⟨_, rfl, _, _, _, _, false, rfl, .ty _, ty, kit_ty h1, _, rfl, ifT rfl (ifT rfl (tcI k))⟩
    · refine ⟨_, rfl, _, _, _, _, true, rfl, .ty _, .base (.str z), kit_ty (by decide +kernel), _, rfl, ifF rfl ?_⟩
      refine ⟨_, rfl, z, rfl, szS hz, _, _, rfl, rfl, _, rfl, ?_⟩
      unfold colB at k
      by_cases c1 : 1 ≤ z.length
      · refine ifT (decide_eq_true (by omega)) (tcI ⟨_, _, rfl, rfl, _, rfl, ?_⟩)
        by_cases c2 : z.length ≤ 4
        · rw [decide_eq_true c1, decide_eq_true c2, Bool.true_and, Bool.true_and] at k
          refine ifF (nd (show (z.length : Int) ≤ 4 by omega)) ?_
          refine ⟨_, rfl, z, rfl, fun D hD => ?_⟩
          refine lc_map (fun v => .bl (decide (sgn v ∈ lets))) hD (signs_le hz) gvs_str (fun v => rfl) (fun i x H2 R hx s2 r => ?_) fun H2 s2 hD2 => ?_
          · obtain ⟨c0, hc0, rfl⟩ := signs_at hx
            exact ⟨_, rfl, tcI ⟨c0, _, rfl, rfl, r H2 (Same.refl _)⟩⟩
          · rw [map_signs (f := fun c => .bl (decide (c ∈ lets))) z (fun c => rfl), all_bl] at hD2
            refine ⟨D, _, rfl, SqL.of hD2, _, rfl, ?_⟩
            rw [all_id]
            cases ca : z.cps.toList.all fun c => decide (c ∈ lets) with
            | false =>
              rw [ca, Bool.false_and] at k
              exact iteF (k _ s2)
            | true =>
              rw [ca, Bool.true_and] at k
              refine iteT ⟨_, rfl, z, rfl, (by show _ < 4096; omega), fun p hp => ⟨p, _, rfl, upd_same, _, rfl, z, rfl, szS hz, rfl, ?_⟩⟩
              rw [dec_int]
              exact k _ (s2.trans (same_upd hp))
        · rw [decide_eq_false c2, Bool.false_and, Bool.and_false] at k
          exact ifT (nn (show ¬ (z.length : Int) ≤ 4 by omega)) (tcI (k H (Same.refl _)))
      · rw [decide_eq_false c1, Bool.false_and] at k
        exact ifF (decide_eq_false (by omega)) ⟨false, rfl, ifT rfl (tcI (k H (Same.refl _)))⟩
theorem ok_has_colours (T : Top K mg) : FnOk PW w K mg base CX0 1 (fa K "has_colours") (fdOf K (fa K "has_colours")) ["value", "colours"] (spHas K) := by
  refine T.F_has_colours.ok sc_has_colours (fun vs H Q E h => ?_) (fun cdv A outer s H vs Q E hr h => ?_)
  · obtain ⟨v, c, rfl, _h⟩ := h
    rfl
  · obtain ⟨v, c, rfl, h⟩ := h
    have hu := hu_of hr
    refine ⟨_, (pss_one (ps_ret (pe_and (pe_callB call_isi (by rfl) T.z_isinstance (by decide +kernel) (pa_cons (pv 0) (pa_cons (pe_bltn (v := .ty "str") (by rfl) T.z_str (by decide +kernel) rfl) pa_nil))) (pe_one (pe_callB (cr_all rfl) (by rfl) T.z_all (by decide +kernel) (pa_cons (pe_lc (own := [("colour", 2)]) (g := gName 2) (by rfl) sc_has_colours.nd (pi_str (pv 0)) (blkOk_by (own := [("colour", 2)]) (N := ["value", "colours", "colour"]) (sc := (defScope s_has_colours)) (by decide +kernel)) (fun _ _ _ _ _ => (pg_name (i := 2) sc_has_colours.nd rfl (Or.inl rfl))) (fun _ _ _ _ _ => pts_nil) (fun _ _ _ _ _ => (pe_cmpR op_in_sign (pv 2) (pv 1) rfl))) pa_nil)))))), ?_⟩
    rcases h with ⟨⟨n, ty, h1⟩, k⟩ | ⟨z, rfl, hz, k⟩
    · exact ⟨_, rfl, _, _, _, _, false, rfl, .ty _, ty, kit_ty h1, _, rfl, iteF k⟩
    · refine ⟨_, rfl, _, _, _, _, true, rfl, .ty _, .base (.str z), kit_ty (by decide +kernel), _, rfl, iteT ?_⟩
      refine ⟨_, rfl, z, rfl, fun D hD => ?_⟩
      refine lc_map (fun v => .bl (decide (sgn v ∈ c.cps.toList))) hD (signs_le hz) gvs_str (fun v => rfl) (fun i x H2 R hx s2 r => ?_) fun H2 s2 hD2 => ?_
      · obtain ⟨c0, hc0, rfl⟩ := signs_at hx
        exact ⟨_, rfl, _, rfl, c0, _, rfl, rfl, r H2 (Same.refl _)⟩
      · rw [map_signs (f := fun x => .bl (decide (x ∈ c.cps.toList))) z (fun c => rfl), all_bl] at hD2
        refine ⟨D, _, rfl, SqL.of hD2, ?_⟩
        rw [all_id]
        exact k _ s2
theorem ok_is_sign (T : Top K mg) : FnOk PW w K mg base CX0 1 (fa K "is_sign") (fdOf K (fa K "is_sign")) ["value"] (spSign K) := by
  refine T.F_is_sign.ok sc_is_sign (fun vs H Q E h => ?_) (fun cdv A outer s H vs Q E hr h => ?_)
  · obtain ⟨v, rfl, _h⟩ := h
    rfl
  · obtain ⟨v, rfl, h⟩ := h
    have hu := hu_of hr
    obtain ⟨t_LETTERS, c_LETTERS⟩ := T.c_LETTERS
    refine ⟨_, (pss_one (ps_ret (pe_and (pe_callB call_isi (by rfl) T.z_isinstance (by decide +kernel) (pa_cons (pv 0) (pa_cons (pe_bltn (v := .ty "str") (by rfl) T.z_str (by decide +kernel) rfl) pa_nil))) (pe_and (pe_cmpR op_eq (pe_callB call_len_str (by rfl) T.z_len (by decide +kernel) (pa_cons (pv 0) pa_nil)) pe_int (nomark _)) (pe_one (pe_or (pe_cmpR op_in_sign (pv 0) (pe_glob (v := .str "abcdefghijklmnopqrstuvwxyz") rfl c_LETTERS ⟨_, rfl⟩) rfl) (pe_one (pe_cmpR op_eq (pv 0) pe_str (nomark _))))))))), ?_⟩
    rcases h with ⟨⟨n, ty, h1⟩, k⟩ | ⟨z, rfl, hz, k⟩
    · exact ⟨_, rfl, _, _, _, _, false, rfl, .ty _, ty, kit_ty h1, _, rfl, iteF k⟩
    · refine ⟨_, rfl, _, _, _, _, true, rfl, .ty _, .base (.str z), kit_ty (by decide +kernel), _, rfl, iteT ?_⟩
      refine ⟨_, rfl, z, rfl, szS hz, tcI ⟨rfl, ?_⟩⟩
      have e1 : decide (V.int (z.length : Int) = V.int 1) = decide (z.length = 1) := dec_int z.length 1
      rw [e1]
      unfold signB at k
      by_cases c1 : z.length = 1
      · rw [decide_eq_true c1, Bool.true_and] at k
        rw [decide_eq_true c1]
        obtain ⟨c0, rfl⟩ := one_sign c1
        refine ⟨_, rfl, iteT ⟨_, rfl, tcI ⟨c0, _, rfl, rfl, _, rfl, ?_⟩⟩⟩
        have e2 : ((⟨#[c0]⟩ : Str).cps.toList.all fun c => decide (c ∈ lets)) = decide (c0 ∈ lets) := by simp
        rw [e2] at k
        by_cases c2 : c0 ∈ lets
        · rw [decide_eq_true c2, Bool.true_or] at k
          exact ifT (decide_eq_true c2) k
        · rw [decide_eq_false c2, Bool.false_or] at k
          refine ifF (decide_eq_false c2) ⟨_, rfl, tcI ⟨rfl, ?_⟩⟩
          rw [dec_str]
          exact k
      · rw [decide_eq_false c1, Bool.false_and] at k
        rw [decide_eq_false c1]
        exact ⟨_, rfl, iteF k⟩
end
end R4
set_option Elab.async false
set_option linter.all false
set_option maxRecDepth 100000
set_option maxHeartbeats 4000000
set_option pp.maxSteps 700
namespace R4
open PySem L2 PySem.GW LamX SM
section
variable {w : World} {K : PySem.W.Frag} {mg : Str → Option Value} {base : Heap}
theorem ok_need_beside (T : Top K mg) : FnOk PW w K mg base (L2.CX PW w) 4 (fa K "need_beside") (fdOf K (fa K "need_beside")) ["beside", "colours"] (spNeedB K) := by
  refine T.F_need_beside.okX sc_need_beside (fun vs H Q E h => ?_) (fun cdv A outer s H vs Q E hr h => ?_)
  · obtain ⟨v, c, rfl, _h⟩ := h
    rfl
  · obtain ⟨v, c, rfl, h⟩ := h
    have hu := hu_of hr
    have hrE : Room 3 _ := hr.mono (by decide)
    refine ⟨_, (pss_cons (ps_if (pt_not (pt_val (pe_call (ok_is_list T) (hr.mono (by decide)) rfl T.g_is_list T.F_is_list.kp T.b_is_list .nil pass0 (pa_cons (pv 0) pa_nil)))) (pss_one (ps_raise rfl (takes_of rfl rfl rfl rfl) (pmk_err (raises_own T.e_BadRule.z.hs T.e_BadRule.t) (per_pos T.e_BadRule.c T.e_BadRule.i hrE (by rfl) T.e_BadRule.g T.e_BadRule.k (eb_BadRule_1) (pa_cons (pv 0) pa_nil))))) pss_nil)
      (pss_one (ps_for (passes_of rfl) rfl (pi_or (pi_list (pv 0)) (pi_tup (pv 0))) (pg_name (i := 2) sc_need_beside.nd rfl (Or.inl rfl)) (pss_one (ps_if (PW.pt (pw_or (pt_not (pt_val (pe_call (ok_has_colours T) (hr.mono (by decide)) rfl T.g_has_colours T.F_has_colours.kp T.b_has_colours .nil pass0 (pa_cons (pv 2) (pa_cons (pv 1) pa_nil))))) (pw_or1 (pt_cmpR op_ne (pe_callB call_len_str (by rfl) T.z_len (by decide +kernel) (pa_cons (pv 2) pa_nil)) pe_int (nomark _))))) (pss_one (ps_raise rfl (takes_of rfl rfl rfl rfl) (pmk_err (raises_own T.e_BadRule.z.hs T.e_BadRule.t) (per_pos T.e_BadRule.c T.e_BadRule.i hrE (by rfl) T.e_BadRule.g T.e_BadRule.k (eb_BadRule_1) (pa_cons (pv 2) pa_nil))))) pss_nil))))), ?_⟩
    rcases h with ⟨⟨n, ty, h1⟩, k⟩ | ⟨a, xs, rfl, hS, hl, h⟩
    · exact ⟨_, rfl, v, n, false, rfl, ty, h1, fun H1 s1 => ⟨_, rfl, ifT rfl ⟨_, rfl, rfl, fun dd hdd => k dd _ (s1.trans (same_upd hdd)) upd_same⟩⟩⟩
    · obtain ⟨n, ty, hn⟩ := hS.ty
      refine ⟨_, rfl, _, n, true, rfl, ty, hn, fun H1 s1 => ⟨_, rfl, ifF rfl ?_⟩⟩
      rcases h with ⟨j, x, hx, bad, pre, k⟩ | ⟨all, k⟩
      · skip
        rcases hS with hS | hS
        · refine .inl ⟨_, rfl, a, rfl, ⟨_, s1.seq hS⟩, for_list (K := K) (a := a) (xs := xs) (fun i σ H3 => Same H H3 ∧ i ≤ j ∧ ∃ o2, σ = [some (.ref a), some (.str c), o2]) ⟨s1, Nat.zero_le _, _, rfl⟩ (fun i σ H3 _ ⟨s2, _⟩ => s2.seq hS) ?_ ?_⟩
          · rintro i y σ H3 hi ⟨s3, hij, o2, rfl⟩
            by_cases e : i = j
            · subst e
              rw [hx] at hi
              cases hi
              rcases bad with hn | ⟨z, rfl, hz, hb⟩
              · exact ⟨_, rfl, _, rfl, _, c, rfl, .inl ⟨hn.same s3, _, rfl, ifT rfl (ifT rfl ⟨_, rfl, rfl, fun dd hdd => k dd _ (s3.trans (same_upd hdd)) upd_same⟩)⟩⟩
              · refine ⟨_, rfl, _, rfl, _, c, rfl, .inr ⟨z, rfl, hz, fun H4 s4 => ⟨_, rfl, ?_⟩⟩⟩
                have rz : ∀ {H5 : Hp}, Same H3 H5 → E (.ref (He.ga K "BadRule")) (some 0) H5 → True := fun _ _ => trivial
                cases hc : hasB z c with
                | false => exact ifT rfl (ifT rfl ⟨_, rfl, rfl, fun dd hdd => k dd _ (s3.trans (s4.trans (same_upd hdd))) upd_same⟩)
                | true =>
                  have hl : z.length ≠ 2 := hb.resolve_left (by rw [hc]; exact fun z => nomatch z)
                  refine ifF rfl ⟨_, rfl, z, rfl, szS hz, tcI ⟨rfl, _, rfl, ?_⟩⟩
                  refine ifT ?_ ⟨_, rfl, rfl, fun dd hdd => k dd _ (s3.trans (s4.trans (same_upd hdd))) upd_same⟩
                  have e2 : decide (V.int (z.length : Int) = V.int 2) = decide (z.length = 2) := dec_int z.length 2
                  rw [e2, decide_eq_false hl]
                  rfl
            · obtain ⟨z, rfl, hl, hb⟩ := pre i y (by omega) hi
              refine ⟨_, rfl, _, rfl, _, c, rfl, .inr ⟨z, rfl, by omega, fun H4 s4 => ⟨_, rfl, ?_⟩⟩⟩
              rw [hb]
              refine ifF rfl ⟨_, rfl, z, rfl, szS (by omega), tcI ⟨rfl, _, rfl, ?_⟩⟩
              have e2 : decide (V.int (z.length : Int) = V.int 2) = decide (z.length = 2) := dec_int z.length 2
              rw [e2, decide_eq_true hl]
              exact ifF rfl ⟨s3.trans s4, by omega, _, rfl⟩
          · rintro σ H3 ⟨s3, hij, o2, rfl⟩
            exact absurd (List.getElem?_eq_some_iff.mp hx).1 (by omega)
        · refine .inr ⟨_, rfl, a, rfl, ⟨_, Same.seqT s1 hS⟩, for_tup (K := K) (a := a) (xs := xs) (fun i σ H3 => Same H H3 ∧ i ≤ j ∧ ∃ o2, σ = [some (.ref a), some (.str c), o2]) ⟨s1, Nat.zero_le _, _, rfl⟩ (fun i σ H3 _ ⟨s2, _⟩ => Same.seqT s2 hS) ?_ ?_⟩
          · rintro i y σ H3 hi ⟨s3, hij, o2, rfl⟩
            by_cases e : i = j
            · subst e
              rw [hx] at hi
              cases hi
              rcases bad with hn | ⟨z, rfl, hz, hb⟩
              · exact ⟨_, rfl, _, rfl, _, c, rfl, .inl ⟨hn.same s3, _, rfl, ifT rfl (ifT rfl ⟨_, rfl, rfl, fun dd hdd => k dd _ (s3.trans (same_upd hdd)) upd_same⟩)⟩⟩
              · refine ⟨_, rfl, _, rfl, _, c, rfl, .inr ⟨z, rfl, hz, fun H4 s4 => ⟨_, rfl, ?_⟩⟩⟩
                have rz : ∀ {H5 : Hp}, Same H3 H5 → E (.ref (He.ga K "BadRule")) (some 0) H5 → True := fun _ _ => trivial
                cases hc : hasB z c with
                | false => exact ifT rfl (ifT rfl ⟨_, rfl, rfl, fun dd hdd => k dd _ (s3.trans (s4.trans (same_upd hdd))) upd_same⟩)
                | true =>
                  have hl : z.length ≠ 2 := hb.resolve_left (by rw [hc]; exact fun z => nomatch z)
                  refine ifF rfl ⟨_, rfl, z, rfl, szS hz, tcI ⟨rfl, _, rfl, ?_⟩⟩
                  refine ifT ?_ ⟨_, rfl, rfl, fun dd hdd => k dd _ (s3.trans (s4.trans (same_upd hdd))) upd_same⟩
                  have e2 : decide (V.int (z.length : Int) = V.int 2) = decide (z.length = 2) := dec_int z.length 2
                  rw [e2, decide_eq_false hl]
                  rfl
            · obtain ⟨z, rfl, hl, hb⟩ := pre i y (by omega) hi
              refine ⟨_, rfl, _, rfl, _, c, rfl, .inr ⟨z, rfl, by omega, fun H4 s4 => ⟨_, rfl, ?_⟩⟩⟩
              rw [hb]
              refine ifF rfl ⟨_, rfl, z, rfl, szS (by omega), tcI ⟨rfl, _, rfl, ?_⟩⟩
              have e2 : decide (V.int (z.length : Int) = V.int 2) = decide (z.length = 2) := dec_int z.length 2
              rw [e2, decide_eq_true hl]
              exact ifF rfl ⟨s3.trans s4, by omega, _, rfl⟩
          · rintro σ H3 ⟨s3, hij, o2, rfl⟩
            exact absurd (List.getElem?_eq_some_iff.mp hx).1 (by omega)
      · skip
        rcases hS with hS | hS
        · refine .inl ⟨_, rfl, a, rfl, ⟨_, s1.seq hS⟩, for_list (K := K) (a := a) (xs := xs) (fun i σ H3 => Same H H3 ∧ ∃ o2, σ = [some (.ref a), some (.str c), o2]) ⟨s1, _, rfl⟩ (fun i σ H3 _ ⟨s2, _⟩ => s2.seq hS) ?_ ?_⟩
          · rintro i y σ H3 hi ⟨s3, o2, rfl⟩
            obtain ⟨z, rfl, hl, hb⟩ := all y (List.mem_of_getElem? hi)
            refine ⟨_, rfl, _, rfl, _, c, rfl, .inr ⟨z, rfl, by omega, fun H4 s4 => ⟨_, rfl, ?_⟩⟩⟩
            rw [hb]
            refine ifF rfl ⟨_, rfl, z, rfl, szS (by omega), tcI ⟨rfl, _, rfl, ?_⟩⟩
            have e2 : decide (V.int (z.length : Int) = V.int 2) = decide (z.length = 2) := dec_int z.length 2
            rw [e2, decide_eq_true hl]
            exact ifF rfl ⟨s3.trans s4, _, rfl⟩
          · rintro σ H3 ⟨s3, o2, rfl⟩
            exact k _ s3
        · refine .inr ⟨_, rfl, a, rfl, ⟨_, Same.seqT s1 hS⟩, for_tup (K := K) (a := a) (xs := xs) (fun i σ H3 => Same H H3 ∧ ∃ o2, σ = [some (.ref a), some (.str c), o2]) ⟨s1, _, rfl⟩ (fun i σ H3 _ ⟨s2, _⟩ => Same.seqT s2 hS) ?_ ?_⟩
          · rintro i y σ H3 hi ⟨s3, o2, rfl⟩
            obtain ⟨z, rfl, hl, hb⟩ := all y (List.mem_of_getElem? hi)
            refine ⟨_, rfl, _, rfl, _, c, rfl, .inr ⟨z, rfl, by omega, fun H4 s4 => ⟨_, rfl, ?_⟩⟩⟩
            rw [hb]
            refine ifF rfl ⟨_, rfl, z, rfl, szS (by omega), tcI ⟨rfl, _, rfl, ?_⟩⟩
            have e2 : decide (V.int (z.length : Int) = V.int 2) = decide (z.length = 2) := dec_int z.length 2
            rw [e2, decide_eq_true hl]
            exact ifF rfl ⟨s3.trans s4, _, rfl⟩
          · rintro σ H3 ⟨s3, o2, rfl⟩
            exact k _ s3
theorem ok_need_letters (T : Top K mg) : FnOk PW w K mg base (L2.CX PW w) 4 (fa K "need_letters") (fdOf K (fa K "need_letters")) ["letters", "colours"] (spNeedL K) := by
  refine T.F_need_letters.okX sc_need_letters (fun vs H Q E h => ?_) (fun cdv A outer s H vs Q E hr h => ?_)
  · obtain ⟨v, c, rfl, _h⟩ := h
    rfl
  · obtain ⟨v, c, rfl, h⟩ := h
    have hu := hu_of hr
    have hrE : Room 3 _ := hr.mono (by decide)
    refine ⟨_, (pss_cons (ps_if (pt_not (pt_val (pe_callB call_isi (by rfl) T.z_isinstance (by decide +kernel) (pa_cons (pv 0) (pa_cons (pe_bltn (v := .ty "dict") (by rfl) T.z_dict (by decide +kernel) rfl) pa_nil))))) (pss_one (ps_raise rfl (takes_of rfl rfl rfl rfl) (pmk_err (raises_own T.e_BadRule.z.hs T.e_BadRule.t) (per_pos T.e_BadRule.c T.e_BadRule.i hrE (by rfl) T.e_BadRule.g T.e_BadRule.k (eb_BadRule_1) (pa_cons (pv 0) pa_nil))))) pss_nil)
      (pss_one (ps_if (pt_not (pt_val (pe_callB (cr_all rfl) (by rfl) T.z_all (by decide +kernel) (pa_cons (pe_lock (pe_lc (own := [("sign", 2), ("some", 3)]) (g := gTup K 2 (gCons (gName 2) (gCons (gName 3) gNil))) (by rfl) sc_need_letters.nd (pi_items (pv 0)) (blkOk_by (own := [("sign", 2), ("some", 3)]) (N := ["letters", "colours", "sign", "some"]) (sc := (defScope s_need_letters)) (by decide +kernel)) (fun _ _ _ _ _ => (pg_tup (by rfl) (pgs_cons (pg_name (i := 2) sc_need_letters.nd rfl (Or.inl rfl)) (pgs_cons (pg_name (i := 3) sc_need_letters.nd rfl (Or.inl rfl)) pgs_nil)))) (fun _ _ _ _ _ => pts_nil) (fun _ _ _ _ _ => (pe_and (pe_call (ok_is_sign T) (hr.mono (by decide)) rfl T.g_is_sign T.F_is_sign.kp T.b_is_sign .nil pass0 (pa_cons (pv 2) pa_nil)) (pe_one (pe_call (ok_has_colours T) (hr.mono (by decide)) rfl T.g_has_colours T.F_has_colours.kp T.b_has_colours .nil pass0 (pa_cons (pv 3) (pa_cons (pv 1) pa_nil)))))))) pa_nil)))) (pss_one (ps_raise rfl (takes_of rfl rfl rfl rfl) (pmk_err (raises_own T.e_BadRule.z.hs T.e_BadRule.t) (per_pos T.e_BadRule.c T.e_BadRule.i hrE (by rfl) T.e_BadRule.g T.e_BadRule.k (eb_BadRule_1) (pa_cons (pv 0) pa_nil))))) pss_nil))), ?_⟩
    rcases h with ⟨⟨n, ty, h1⟩, k⟩ | ⟨d, kvs, rfl, hd, hl, hv, h⟩
    · exact ⟨_, rfl, _, _, _, _, false, rfl, .ty _, ty, kit_ty h1, _, rfl, ifT rfl ⟨_, rfl, rfl, fun dd hdd => k dd _ (same_upd hdd) upd_same⟩⟩
    · refine ⟨_, rfl, _, _, _, _, true, rfl, .ty _, .base (.dK hd), kit_ty (by decide +kernel), _, rfl, ifF rfl ?_⟩
      refine ⟨d, _, hd, trivial, fun od => ?_⟩
      refine ⟨_, rfl, d, od, kvs, rfl, upd_same, fun D hD => ?_⟩
      have nDd : D ≠ d := fun e => by rw [e, upd_same] at hD; cases hD
      refine lc_items (fun p => .bl (entB c p)) hD upd_same (by omega) (fun v u => rfl) (fun i k v H2 R hkv s2 r => ?_) fun H2 s2 hD2 => ?_
      · obtain ⟨e1, e2⟩ := hv (k, v) (List.mem_of_getElem? hkv)
        cases k with
        | inl i0 => exact ⟨_, rfl, _, rfl, .inl ⟨⟨"int", .base (.int _), by decide +kernel⟩, _, rfl, iteF (r _ (Same.refl _))⟩⟩
        | inr s0 =>
          refine ⟨_, rfl, _, rfl, .inr ⟨s0, rfl, e1 s0 rfl, _, rfl, ?_⟩⟩
          rcases e2 with rfl | ⟨z, rfl, hz⟩
          · cases hs : signB s0 with
            | false => exact iteF (r _ (Same.refl _))
            | true => exact iteT ⟨_, rfl, _, rfl, _, c, rfl, .inl ⟨⟨"NoneType", .base .non, by decide +kernel⟩, r _ (Same.refl _)⟩⟩
          · have eb : entB c (.inr s0, .str z) = (signB s0 && hasB z c) := rfl
            rw [eb] at r
            cases hs : signB s0 with
            | false =>
              rw [hs, Bool.false_and] at r
              exact iteF (r _ (Same.refl _))
            | true =>
              rw [hs, Bool.true_and] at r
              exact iteT ⟨_, rfl, _, rfl, _, c, rfl, .inr ⟨z, rfl, hz, fun H3 s3 => r _ s3⟩⟩
      · have s3 := unlock_same hd s2
        rw [all_bl] at hD2
        refine ⟨s2 _ _ upd_same, D, _, rfl, SqL.of (by rw [upd_ne nDd]; exact hD2), _, rfl, ?_⟩
        rw [all_id]
        rcases h with ⟨h1, k⟩ | ⟨h1, k⟩
        · rw [h1]
          exact ifT rfl ⟨_, rfl, rfl, fun dd hdd => k dd _ (s3.trans (same_upd hdd)) upd_same⟩
        · rw [h1]
          exact ifF rfl (k _ s3)
end
end R4
set_option Elab.async false
set_option linter.all false
set_option maxRecDepth 100000
set_option maxHeartbeats 4000000
/-! dicts: plain mathematics of their pairs -/
namespace UM
open PySem PySem.Spec PyProof.Rows SM L2
theorem any_key {kvs : List (Key × V)} {k : Key} : (kvs.any fun kv => decide (kv.1 = k)) = memK (kvs.map (·.1)) k := by
  unfold memK
  rw [List.any_map]
  rfl
theorem putK_keys (kvs : List (Key × V)) (k : Key) (v : V) : (putK kvs k v).map (·.1) = insK (kvs.map (·.1)) k := by
  unfold putK insK
  rw [any_key]
  split
  · rw [List.map_map]
    refine List.map_congr_left fun p _ => ?_
    show (if p.1 = k then (p.1, v) else p).1 = p.1
    split <;> rfl
  · rw [List.map_append]
    rfl
theorem mergeK_keys : ∀ (l acc : List (Key × V)), (mergeK acc l).map (·.1) = (l.map (·.1)).foldl insK (acc.map (·.1))
  | [], acc => rfl
  | p :: l, acc => by
    show (mergeK (putK acc p.1 p.2) l).map (·.1) = _
    rw [mergeK_keys l, putK_keys]
    rfl
theorem merge_keys (l : List (Key × V)) : (mergeK [] l).map (·.1) = dedK (l.map (·.1)) := mergeK_keys l []
theorem mergeK_app : ∀ (l acc : List (Key × V)) (p : Key × V), mergeK acc (l ++ [p]) = putK (mergeK acc l) p.1 p.2
  | [], acc, p => rfl
  | q :: l, acc, p => mergeK_app l (putK acc q.1 q.2) p
theorem putK_new {kvs : List (Key × V)} {k : Key} {v : V} (h : k ∉ kvs.map (·.1)) : putK kvs k v = kvs ++ [(k, v)] := by
  unfold putK
  rw [any_key, if_neg fun q => h (memK_iff.mp q)]
theorem mergeK_nd : ∀ (l acc : List (Key × V)), ((acc ++ l).map (·.1)).Nodup → mergeK acc l = acc ++ l
  | [], acc, _ => by rw [List.append_nil]; rfl
  | p :: l, acc, h => by
    have hp : p.1 ∉ acc.map (·.1) := fun q => by
      rw [List.map_append] at h
      exact (List.nodup_append.mp h).2.2 p.1 q p.1 List.mem_cons_self rfl
    show mergeK (putK acc p.1 p.2) l = _
    rw [putK_new hp, mergeK_nd l _ (by rw [List.append_assoc]; exact h), List.append_assoc]
    rfl
/-- keys that differ: the pairs as they stand -/
theorem merge_nd {l : List (Key × V)} (h : (l.map (·.1)).Nodup) : mergeK [] l = l := mergeK_nd l [] h
theorem valV_mem : ∀ {kvs : List (Key × V)} {p : Key × V}, (kvs.map (·.1)).Nodup → p ∈ kvs → valV kvs p.1 = some p.2
  | q :: kvs, p, h, hp => by
    obtain ⟨h1, h2⟩ := List.nodup_cons.mp h
    rcases List.mem_cons.mp hp with e | e
    · rw [← e]
      exact valV_pos rfl
    · have hn : ¬ q.1 = p.1 := fun e2 => h1 (by show q.1 ∈ _; rw [e2]; exact List.mem_map_of_mem (f := fun x : Key × V => x.1) e)
      rw [valV_neg hn]
      exact valV_mem h2 e
/-- a list of texts each once, by keys -/
theorem ded_strs (l : List Str) : ∃ xs : List Str, dedK (l.map Sum.inr) = xs.map Sum.inr ∧ xs.Nodup ∧ (∀ x, x ∈ xs ↔ x ∈ l) ∧ xs.length ≤ l.length := by
  have hall : ∀ k ∈ dedK (l.map (Sum.inr : Str → Key)), ∃ x, k = Sum.inr x := fun k hk => by
    obtain ⟨x, _, e⟩ := List.mem_map.mp (mem_dedK.mp hk)
    exact ⟨x, e.symm⟩
  have key : ∀ ks : List Key, (∀ k ∈ ks, ∃ x : Str, k = Sum.inr x) → ∃ xs : List Str, ks = xs.map Sum.inr := by
    intro ks
    induction ks with
    | nil => intro _; exact ⟨[], rfl⟩
    | cons k ks ih =>
      intro h
      obtain ⟨x, e⟩ := h k List.mem_cons_self
      obtain ⟨xs, e2⟩ := ih fun k hk => h k (List.mem_cons_of_mem _ hk)
      exact ⟨x :: xs, by rw [e, e2]; rfl⟩
  obtain ⟨xs, e⟩ := key _ hall
  have nd := dedK_nodup (l.map (Sum.inr : Str → Key))
  rw [e] at nd
  refine ⟨xs, e, List.Pairwise.of_map Sum.inr (fun a b h e => h (congrArg Sum.inr e)) nd, fun x => ?_, ?_⟩
  · have h1 : (Sum.inr x : Key) ∈ dedK (l.map Sum.inr) ↔ (Sum.inr x : Key) ∈ l.map Sum.inr := mem_dedK
    rw [e] at h1
    constructor
    · intro hx
      obtain ⟨y, hy, e2⟩ := List.mem_map.mp (h1.mp (List.mem_map_of_mem hx))
      rw [← Sum.inr.inj e2]
      exact hy
    · intro hx
      obtain ⟨y, hy, e2⟩ := List.mem_map.mp (h1.mpr (List.mem_map_of_mem hx))
      rw [← Sum.inr.inj e2]
      exact hy
  · have := dedK_len (l.map (Sum.inr : Str → Key))
    rw [e, List.length_map, List.length_map] at this
    exact this
/-- an entry of two texts -/
def entK (p : Str × Str) : Key × V := (Sum.inr p.1, V.str p.2)
theorem entK_keys (ls : List (Str × Str)) : (ls.map entK).map (·.1) = (ls.map (·.1)).map Sum.inr := by
  rw [List.map_map, List.map_map]
  rfl
theorem inr_nodup {l : List Str} (h : l.Nodup) : (l.map (Sum.inr : Str → Key)).Nodup := List.Pairwise.map Sum.inr (fun a b h e => h (Sum.inr.inj e)) h
theorem ent_nodup {ls : List (Str × Str)} (h : (ls.map (·.1)).Nodup) : ((ls.map entK).map (·.1)).Nodup := by
  rw [entK_keys]
  exact inr_nodup h
theorem join_len (ys : List Str) (z : Str) (p : ys.Perm (SM.signs z)) (hz : z.length ≤ 1000) : (ys.map (·.length)).sum + ys.length * ("" : Str).length ≤ 16777216 := by
  have h1 : (ys.map (·.length)).sum = ((SM.signs z).map (·.length)).sum := (p.map _).sum_nat
  have h2 : ((SM.signs z).map (·.length)).sum = z.length := by
    rw [signs_eq, List.map_map]
    have : ∀ l : List Nat, (l.map ((fun x : Str => x.length) ∘ sing)).sum = l.length := by
      intro l
      induction l with
      | nil => rfl
      | cons c l ih =>
        rw [List.map_cons, List.sum_cons, ih, List.length_cons]
        show 1 + _ = _
        omega
    rw [this, Array.length_toList]
    rfl
  have h3 : ("" : Str).length = 0 := rfl
  rw [h1, h2, h3]
  omega
end UM
set_option Elab.async false
set_option linter.all false
set_option maxRecDepth 100000
set_option maxHeartbeats 4000000
set_option pp.maxSteps 700
namespace R4
open PySem L2 PySem.GW LamX SM
section
variable {w : World} {K : PySem.W.Frag} {mg : Str → Option Value} {base : Heap}
open UM
open PyProof.Rows (sortedS)
abbrev rJoin (K : PySem.W.Frag) : V → List V → Hp → VK → Prop := fun x xs H Q => ∃ a p, ∃ ys : List Str, x = .str a ∧ xs = [.ref p] ∧ (SqL K H p (ys.map V.str) ∨ SqT K H p (ys.map V.str)) ∧ (ys.map (·.length)).sum + ys.length * a.length ≤ 16777216 ∧ Q (.str (Txt.join a ys)) H
/-- the rule of c, ps, ls stands at p; its own dict is new since H0 -/
def RuleAt (K : PySem.W.Frag) (H0 H : Hp) (p : Addr) (c : Str) (ps : List Str) (ls : List (Str × Str)) : Prop := ∃ (dx tb d : Addr) (bs : List Str) (ks : List (Str × Str)), H p = some (.ins (CL_Rule K) dx [("colours", .str (sortS c)), ("beside", .ref tb), ("letters", .ref d)]) ∧
  SqT K H tb (bs.map V.str) ∧ sortedS bs = true ∧ bs.Nodup ∧ (∀ y, y ∈ bs ↔ y ∈ ps.map sortS) ∧ H0 d = none ∧ H d = some (.dK (ks.map entK)) ∧ ks.Perm (ls.map fun q => (q.1, dsort q.2))
def LetOk (H : Hp) (c : Str) (v : V) (ls : List (Str × Str)) : Prop := ((v = .non ∧ ls = []) ∨ ∃ d, v = .ref d ∧ H d = some (.dK (ls.map entK))) ∧ ls.length < 64 ∧ (ls.map (·.1)).Nodup ∧ ∀ q ∈ ls, signB q.1 = true ∧ hasB q.2 c = true ∧ q.1.length ≤ 1000 ∧ q.2.length ≤ 1000
def LetBad (K : PySem.W.Frag) (H : Hp) (c : Str) (v : V) : Prop := v ≠ .non ∧ (NoDict K H v ∨ ∃ d kvs, v = .ref d ∧ H d = some (.dK kvs) ∧ kvs.length ≤ 1000 ∧ (∀ p ∈ kvs, EntV p) ∧ kvs.all (entB c) = false)
def ColBad (K : PySem.W.Frag) (H : Hp) (v : V) : Prop := NoStr K H v ∨ ∃ z : Str, v = .str z ∧ z.length ≤ 1000 ∧ colB z = false
def spInit (K : PySem.W.Frag) : Sp := fun vs H Q E => ∃ (x dx : Addr) (vc vb vl : V), vs = [.ref x, vc, vb, vl] ∧ H x = some (.ins (CL_Rule K) dx []) ∧
  ((ColBad K H vc ∧ Rz K H E vc) ∨ ∃ c : Str, vc = .str c ∧ c.length ≤ 1000 ∧ colB c = true ∧
    ((NoSeq K H vb ∧ Rz K H E vb) ∨ ∃ a xs, vb = .ref a ∧ Sq K H a xs ∧ xs.length ≤ 1000 ∧
      ((∃ (j : Nat) (y : V), xs[j]? = some y ∧ PairBad K H c y ∧ (∀ (i : Nat) (y : V), i < j → xs[i]? = some y → PairOk c y) ∧ Rz K H E y) ∨
        ∃ ps : List Str, xs = ps.map V.str ∧ (∀ p ∈ ps, p.length = 2 ∧ hasB p c = true) ∧
          ((LetBad K H c vl ∧ Rz K H E vl) ∨ ∃ ls, LetOk H c vl ls ∧ ∀ H', SameBut x H H' → RuleAt K H H' x c ps ls → Q .non H'))))
theorem PairOk.of {c : Str} {ps : List Str} (h : ∀ p ∈ ps, p.length = 2 ∧ hasB p c = true) : ∀ y ∈ ps.map V.str, PairOk c y := fun y hy => by
  obtain ⟨p, hp, rfl⟩ := List.mem_map.mp hy
  exact ⟨p, rfl, h p hp⟩
theorem ent_all {c : Str} {ls : List (Str × Str)} (h : ∀ q ∈ ls, signB q.1 = true ∧ hasB q.2 c = true ∧ q.1.length ≤ 1000 ∧ q.2.length ≤ 1000) : (ls.map entK).all (entB c) = true ∧ ∀ p ∈ ls.map entK, EntV p := by
  constructor
  · rw [List.all_eq_true]
    intro p hp
    obtain ⟨q, hq, rfl⟩ := List.mem_map.mp hp
    obtain ⟨h1, h2, _⟩ := h q hq
    show (signB q.1 && hasB q.2 c) = true
    rw [h1, h2]
    rfl
  · intro p hp
    obtain ⟨q, hq, rfl⟩ := List.mem_map.mp hp
    obtain ⟨_, _, h3, h4⟩ := h q hq
    exact ⟨fun s e => by cases (show (Sum.inr q.1 : Key) = Sum.inr s from e); exact h3, .inr ⟨q.2, rfl, h4⟩⟩
theorem but_sqL {H H' : Hp} {x a C dx : Addr} {fs : List (Str × V)} {xs : List V} (s : SameBut x H H') (hx : H x = some (.ins C dx fs)) (h : SqL K H a xs) : SqL K H' a xs := by
  rcases h with (h | ⟨o, h⟩) | h
  · exact .inl (.inl (s _ _ (fun e => by rw [e, hx] at h; cases h) h))
  · exact .inl (.inr ⟨o, s _ _ (fun e => by rw [e, hx] at h; cases h) h⟩)
  · exact .inr h
theorem but_sqT {H H' : Hp} {x a C dx : Addr} {fs : List (Str × V)} {xs : List V} (s : SameBut x H H') (hx : H x = some (.ins C dx fs)) (h : SqT K H a xs) : SqT K H' a xs := by
  rcases h with (h | ⟨o, h⟩) | h
  · exact .inl (.inl (s _ _ (fun e => by rw [e, hx] at h; cases h) h))
  · exact .inl (.inr ⟨o, s _ _ (fun e => by rw [e, hx] at h; cases h) h⟩)
  · exact .inr h
/-- what a letter may have -/
def valS (ls : List (Str × Str)) (s : Str) : Str := ((ls.find? fun p => decide (p.1 = s)).map (·.2)).getD ""
theorem valS_mem : ∀ {ls : List (Str × Str)} {p : Str × Str}, (ls.map (·.1)).Nodup → p ∈ ls → valS ls p.1 = p.2
  | q :: ls, p, h, hp => by
    obtain ⟨h1, h2⟩ := List.nodup_cons.mp h
    rcases List.mem_cons.mp hp with e | e
    · rw [← e]
      unfold valS
      rw [List.find?_cons, decide_eq_true rfl]
      rfl
    · have hn : ¬ q.1 = p.1 := fun e2 => h1 (by show q.1 ∈ _; rw [e2]; exact List.mem_map_of_mem (f := fun x : Str × Str => x.1) e)
      have := valS_mem h2 e
      unfold valS at this ⊢
      rw [List.find?_cons, decide_eq_false hn]
      exact this
theorem valS_get {ls : List (Str × Str)} {s : Str} (h : (ls.map (·.1)).Nodup) (hs : s ∈ ls.map (·.1)) : valV (ls.map entK) (Sum.inr s) = some (.str (valS ls s)) ∧ ∃ p ∈ ls, p.1 = s ∧ p.2 = valS ls s := by
  obtain ⟨p, hp, rfl⟩ := List.mem_map.mp hs
  refine ⟨?_, p, hp, rfl, (valS_mem h hp).symm⟩
  have := valV_mem (ent_nodup h) (List.mem_map_of_mem (f := entK) hp)
  rw [valS_mem h hp]
  exact this
theorem strs_at {ps : List Str} {i : Nat} {y : V} (h : (ps.map V.str)[i]? = some y) : ∃ p, ps[i]? = some p ∧ y = .str p := by
  rw [List.getElem?_map] at h
  obtain ⟨p, hp, e⟩ := Option.map_eq_some_iff.mp h
  exact ⟨p, hp, e.symm⟩
theorem join_lenD {ys xs : List Str} {z : Str} (p : ys.Perm xs) (nd : xs.Nodup) (m : ∀ x, x ∈ xs ↔ x ∈ SM.signs z) (hz : z.length ≤ 1000) : (ys.map (·.length)).sum + ys.length * ("" : Str).length ≤ 16777216 := by
  have h1 : xs.length ≤ z.length := by
    have := List.Nodup.length_le_of_subset nd (fun x hx => (m x).mp hx)
    rw [signs_len] at this
    exact this
  have h2 : ∀ l : List Str, (∀ x ∈ l, x ∈ SM.signs z) → (l.map (·.length)).sum = l.length := by
    intro l
    induction l with
    | nil => intro _; rfl
    | cons x l ih =>
      intro h
      rw [List.map_cons, List.sum_cons, ih fun y hy => h y (List.mem_cons_of_mem _ hy), List.length_cons]
      obtain ⟨c, _, e⟩ := List.mem_map.mp (h x List.mem_cons_self)
      rw [← e]
      show 1 + _ = _
      omega
  have h3 : ("" : Str).length = 0 := rfl
  rw [h2 ys fun x hx => (m x).mp (p.mem_iff.mp hx), p.length_eq, h3]
  omega
def strOf : V → Str
  | .str z => z
  | _ => ""
theorem ok_Rule___init__ (T : Top K mg) : FnOk PW w K mg base (L2.CX PW w) 5 (ME_Rule K "__init__") (fdOf K (ME_Rule K "__init__")) ["self", "colours", "beside", "letters"] (spInit K) := by
  refine T.D_Rule___init__.ok sc_Rule___init__ (fun vs H Q E h => ?_) (fun cdv A outer s H vs Q E hr h => ?_)
  · obtain ⟨x, dx, vc, vb, vl, rfl, _hx, _h⟩ := h
    rfl
  · obtain ⟨x, dx, vc, vb, vl, rfl, hx, h⟩ := h
    have hu := hu_of hr
    have hrE : Room 3 _ := hr.mono (by decide)
    refine ⟨_, (pss_cons (ps_if (pt_not (pt_val (pe_call (ok_are_colours T) (hr.mono (by decide)) rfl T.g_are_colours T.F_are_colours.kp T.b_are_colours .nil pass0 (pa_cons (pv 1) pa_nil)))) (pss_one (ps_raise rfl (takes_of rfl rfl rfl rfl) (pmk_err (raises_own T.e_BadRule.z.hs T.e_BadRule.t) (per_pos T.e_BadRule.c T.e_BadRule.i hrE (by rfl) T.e_BadRule.g T.e_BadRule.k (eb_BadRule_1) (pa_cons (pv 1) pa_nil))))) pss_nil)
      (pss_cons (ps_expr (pe_call (ok_need_beside T) (hr.mono (by decide)) rfl T.g_need_beside T.F_need_beside.kp T.b_need_beside .nil (passes_call (takes_of rfl rfl rfl rfl) (fun _ _ _ _ h => h)) (pa_cons (pv 2) (pa_cons (pv 1) pa_nil))))
      (pss_cons (ps_set (i := 4) sc_Rule___init__.nd rfl (Or.inr rfl) (pe_ifExp (pt_cmpR op_isN (pv 3) pe_non (nomark _)) pe_dnewK (pv 3)))
      (pss_cons (ps_expr (pe_call (ok_need_letters T) (hr.mono (by decide)) rfl T.g_need_letters T.F_need_letters.kp T.b_need_letters .nil (passes_call (takes_of rfl rfl rfl rfl) (fun _ _ _ _ h => h)) (pa_cons (pv 4) (pa_cons (pv 1) pa_nil))))
      (pss_cons (ps_fld (pv 0) (pe_join pe_str (pe_callB (cr_sortStr rfl) (by rfl) T.z_sorted (by decide +kernel) (pa_cons (pv 1) pa_nil))) rfl)
      (pss_cons (ps_fld (pv 0) (pe_callTy call_tuple_of (by rfl) T.z_tuple (by decide +kernel) (pa_cons (pe_callB (cr_sortSet rfl) (by rfl) T.z_sorted (by decide +kernel) (pa_cons (pe_scK (own := [("pair", 5)]) (te := tM1 (rJoin K) (tC (.str "")) (tCB rSortStr (tCons (tVar 5) tNil))) (g := gName 5) (by rfl) sc_Rule___init__.nd (pi_or (pi_list (pv 2)) (pi_tup (pv 2))) (blkOk_by (own := [("pair", 5)]) (N := ["self", "colours", "beside", "letters", "told", "pair", "sign"]) (sc := (defScope s_Rule___init__)) (by decide +kernel)) (fun _ _ _ _ _ => (pg_name (i := 5) sc_Rule___init__.nd rfl (Or.inl rfl))) (fun _ _ _ _ _ => pts_nil) (fun _ _ _ _ _ => (pe_join pe_str (pe_callB (cr_sortStr rfl) (by rfl) T.z_sorted (by decide +kernel) (pa_cons (pv 5) pa_nil))))) pa_nil)) pa_nil)) rfl)
      (pss_one (ps_fld (pv 0) (pe_dc (own := [("sign", 6)]) (tk := tVar 6) (tv := tM1 (rJoin K) (tC (.str "")) (tCB (rSortSet w) (tCons (tCB (rSetStr w) (tCons (tDGet (tVar 4) (tVar 6)) tNil)) tNil))) (g := gName 6) (by rfl) sc_Rule___init__.nd (pi_list (pe_callB (call_sortedD rfl) (by rfl) T.z_sorted (by decide +kernel) (pa_cons (pv 4) pa_nil))) (blkOk_by (own := [("sign", 6)]) (N := ["self", "colours", "beside", "letters", "told", "pair", "sign"]) (sc := (defScope s_Rule___init__)) (by decide +kernel)) (fun _ _ _ _ _ => (pg_name (i := 6) sc_Rule___init__.nd rfl (Or.inl rfl))) (fun _ _ _ _ _ => pts_nil) (fun _ _ _ _ _ => (pv 6)) (fun _ _ _ _ _ => (pe_join pe_str (pe_callB (cr_sortSet rfl) (by rfl) T.z_sorted (by decide +kernel) (pa_cons (pe_callTy (cr_setStr rfl) (by rfl) T.z_set (by decide +kernel) (pa_cons (pe_dget hu (pv 4) (pv 6) (fun _ _ => rfl)) pa_nil)) pa_nil))))) rfl)))))))), ?_⟩
    rcases h with ⟨hb, k⟩ | ⟨c, rfl, hcl, hcb, h⟩
    · rcases hb with hn | ⟨z, rfl, hz, hzb⟩
      · exact ⟨_, rfl, _, rfl, .inl ⟨hn, _, rfl, ifT rfl ⟨_, rfl, rfl, fun dd hdd => k dd _ (same_upd hdd) upd_same⟩⟩⟩
      · refine ⟨_, rfl, _, rfl, .inr ⟨z, rfl, hz, fun H1 s1 => ⟨_, rfl, ?_⟩⟩⟩
        rw [hzb]
        exact ifT rfl ⟨_, rfl, rfl, fun dd hdd => k dd _ (s1.trans (same_upd hdd)) upd_same⟩
    · refine ⟨_, rfl, _, rfl, .inr ⟨c, rfl, hcl, fun H1 s1 => ⟨_, rfl, ?_⟩⟩⟩
      rw [hcb]
      refine ifF rfl ?_
      rcases h with ⟨hn, k⟩ | ⟨a, xs, rfl, hS, hxl, h⟩
      · exact ⟨_, rfl, _, rfl, _, c, rfl, .inl ⟨hn.same s1, fun d H2 s2 hd => k d H2 (s1.trans s2) hd⟩⟩
      · rcases h with ⟨j, y, hy, bad, pre, k⟩ | ⟨ps, rfl, hps, h⟩
        · refine ⟨_, rfl, _, rfl, _, c, rfl, .inr ⟨a, xs, rfl, Same.sq s1 hS, hxl, .inl ⟨j, y, hy, ?_, pre, fun d H2 s2 hd => k d H2 (s1.trans s2) hd⟩⟩⟩
          rcases bad with b | b
          · exact .inl (b.same s1)
          · exact .inr b
        · refine ⟨_, rfl, _, rfl, _, c, rfl, .inr ⟨a, _, rfl, Same.sq s1 hS, hxl, .inr ⟨PairOk.of hps, fun H2 s2 => ?_⟩⟩⟩
          have s12 := s1.trans s2
          rcases h with ⟨⟨hne, bad⟩, k⟩ | ⟨ls, ⟨hv, hl64, hnd, hls⟩, k⟩
          · refine ⟨_, rfl, tcI ⟨rfl, _, rfl, ifF (decide_eq_false hne) ⟨_, rfl, _, rfl, _, rfl, _, c, rfl, ?_⟩⟩⟩
            rcases bad with hn | ⟨d, kvs, rfl, hd, hkl, hev, hal⟩
            · exact .inl ⟨hn.same s12, k.same s12⟩
            · exact .inr ⟨d, kvs, rfl, s12 _ _ hd, hkl, hev, .inl ⟨hal, k.same s12⟩⟩
          · refine ⟨_, rfl, tcI ⟨rfl, _, rfl, joinE (fun v H3 => ∃ d, v = .ref d ∧ Same H H3 ∧ H3 d = some (.dK (ls.map entK))) ?_ ?_ ?_⟩⟩
            · intro hb Q' hQ'
              have e := of_decide_eq_true hb
              subst e
              rcases hv with ⟨_, rfl⟩ | ⟨d, e, _⟩
              · intro p hp
                exact hQ' _ _ ⟨p, rfl, s12.trans (same_upd hp), upd_same⟩
              · cases e
            · intro hb Q' hQ'
              have e := of_decide_eq_false hb
              rcases hv with ⟨e2, _⟩ | ⟨d, rfl, hd⟩
              · exact absurd e2 e
              · exact ⟨_, rfl, hQ' _ _ ⟨d, rfl, s12, s12 _ _ hd⟩⟩
            · rintro v H3 ⟨d, rfl, s3, hd3⟩
              obtain ⟨ha1, ha2⟩ := ent_all hls
              refine ⟨_, rfl, _, rfl, _, c, rfl, .inr ⟨d, _, rfl, hd3, (by rw [List.length_map]; omega), ha2, .inr ⟨ha1, fun H4 s4 => ?_⟩⟩⟩
              have s5 := s3.trans s4
              refine ⟨⟨_, rfl⟩, _, rfl, c, rfl, szS hcl, fun ys p hperm hsrt hpn => ⟨_, p, ys, rfl, rfl, .inl (SqL.of upd_same), join_len ys c hperm hcl, ?_⟩⟩
              rw [join_sorted hperm hsrt]
              refine ⟨_, rfl, x, _, dx, _, rfl, (s5.trans (same_upd hpn)) _ _ hx, T.cl_Rule, T.n_Rule_colours, (by decide), ?_⟩
              have u1 := same_upd (o := .lst (ys.map V.str)) hpn
              have sb6 : SameBut x H (upd (upd H4 p (.lst (ys.map V.str))) x (.ins (CL_Rule K) dx (putF "colours" (.str (sortS c)) []))) := fun b o n e => by rw [upd_ne n]; exact (s5.trans u1) _ _ e
              have hd6 : (upd (upd H4 p (.lst (ys.map V.str))) x (.ins (CL_Rule K) dx (putF "colours" (.str (sortS c)) []))) d = some (.dK (ls.map entK)) := by
                rw [upd_ne (fun e => by rw [e] at hd3; rw [s3 _ _ hx] at hd3; cases hd3)]
                exact u1 _ _ (s4 _ _ hd3)
              have hx6 : (upd (upd H4 p (.lst (ys.map V.str))) x (.ins (CL_Rule K) dx (putF "colours" (.str (sortS c)) []))) x = some (.ins (CL_Rule K) dx [("colours", .str (sortS c))]) := upd_same
              generalize (upd (upd H4 p (.lst (ys.map V.str))) x (.ins (CL_Rule K) dx (putF "colours" (.str (sortS c)) []))) = H6 at sb6 hd6 hx6 ⊢
              rcases hS with hS | hS
              · refine .inl ⟨_, rfl, a, rfl, ⟨_, but_sqL sb6 hx hS⟩, fun D hD => ?_⟩
                refine sc_map (fun v => .inr (sortS (strOf v))) hD (by omega) (gvs_list (but_sqL sb6 hx hS)) (fun v => rfl) (fun i y H7 R hy s7 r => ?_) fun H7 s7 hD7 => ?_
                · obtain ⟨pr, hpr, rfl⟩ := strs_at hy
                  have h2 := (hps pr (List.mem_of_getElem? hpr)).1
                  refine ⟨⟨_, rfl⟩, _, rfl, pr, rfl, szS (by omega), fun ys2 q hpm hst hqn => ⟨_, q, ys2, rfl, rfl, .inl (SqL.of upd_same), join_len ys2 pr hpm (by omega), ?_⟩⟩
                  rw [join_sorted hpm hst]
                  exact r _ (same_upd hqn)
                · have e7 : (ps.map V.str).map (fun v => (Sum.inr (sortS (strOf v)) : Key)) = (ps.map sortS).map Sum.inr := by rw [List.map_map, List.map_map]; rfl
                  obtain ⟨bs0, e0, nd0, mem0, len0⟩ := ded_strs (ps.map sortS)
                  rw [e7, e0] at hD7
                  refine ⟨D, bs0, rfl, hD7, fun bs q hpm hst hqn => ⟨q, _, rfl, .inl ⟨SqL.of upd_same, fun tb htb => ?_⟩⟩⟩
                  have u8 := (same_upd (o := .lst (bs.map V.str)) hqn).trans (same_upd (o := .tup (bs.map V.str)) htb)
                  have hx8 := u8 _ _ (s7 _ _ hx6)
                  refine ⟨_, rfl, x, _, dx, _, rfl, hx8, T.cl_Rule, T.n_Rule_beside, (by show 1 < 1000; decide), ?_⟩
                  have sb9 : SameBut x H (upd (upd (upd H7 q (.lst (bs.map V.str))) tb (.tup (bs.map V.str))) x (.ins (CL_Rule K) dx (putF "beside" (.ref tb) [("colours", .str (sortS c))]))) := fun b o n e => by rw [upd_ne n]; exact u8 _ _ (s7 _ _ (sb6 _ _ n e))
                  have hd9 : (upd (upd (upd H7 q (.lst (bs.map V.str))) tb (.tup (bs.map V.str))) x (.ins (CL_Rule K) dx (putF "beside" (.ref tb) [("colours", .str (sortS c))]))) d = some (.dK (ls.map entK)) := by
                    rw [upd_ne (fun e => by rw [e, hx6] at hd6; cases hd6)]
                    exact u8 _ _ (s7 _ _ hd6)
                  have hx9 : (upd (upd (upd H7 q (.lst (bs.map V.str))) tb (.tup (bs.map V.str))) x (.ins (CL_Rule K) dx (putF "beside" (.ref tb) [("colours", .str (sortS c))]))) x = some (.ins (CL_Rule K) dx [("colours", .str (sortS c)), ("beside", .ref tb)]) := upd_same
                  have ht9 : (upd (upd (upd H7 q (.lst (bs.map V.str))) tb (.tup (bs.map V.str))) x (.ins (CL_Rule K) dx (putF "beside" (.ref tb) [("colours", .str (sortS c))]))) tb = some (.tup (bs.map V.str)) := by
                    rw [upd_ne (fun e => by rw [e, (same_upd (o := .lst (bs.map V.str)) hqn) _ _ (s7 _ _ hx6)] at htb; cases htb), upd_same]
                  generalize upd (upd (upd H7 q (.lst (bs.map V.str))) tb (.tup (bs.map V.str))) x (.ins (CL_Rule K) dx (putF "beside" (.ref tb) [("colours", .str (sortS c))])) = H9 at sb9 hd9 hx9 ht9 ⊢
                  refine ⟨_, rfl, d, _, ls.map (·.1), rfl, .inl hd9, entK_keys ls, (by rw [List.length_map]; omega), fun zs q2 hpz hsz hq2 => ⟨q2, rfl, ⟨_, SqL.of upd_same⟩, fun D2 hD2 => ?_⟩⟩
                  have u10 := same_upd (o := .lst (zs.map V.str)) hq2
                  refine dc_map (fun v => entK (strOf v, dsort (valS ls (strOf v)))) hD2 (by rw [List.length_map, hpz.length_eq, List.length_map]; omega) (gvs_list (SqL.of upd_same)) (fun v => rfl) (fun i y H10 R hy s10 r => ?_) fun H10 s10 hD10 => ?_
                  · obtain ⟨sg, hsg, rfl⟩ := strs_at hy
                    obtain ⟨g1, g2⟩ := valS_get hnd (hpz.mem_iff.mp (List.mem_of_getElem? hsg))
                    obtain ⟨pq, hpq, e1, e2⟩ := g2
                    have hvl : (valS ls sg).length ≤ 1000 := by rw [← e2]; exact (hls pq hpq).2.2.2
                    have hd10 := s10 _ _ (u10 _ _ hd9)
                    refine ⟨_, rfl, ⟨_, rfl⟩, _, rfl, _, rfl, d, _, rfl, (by have := DGet.k (k := Sum.inr sg) hd10; rw [g1] at this; exact this), _, rfl, (by show _ < 4096; omega), fun p3 hp3 => ?_⟩
                    obtain ⟨xs3, e3, nd3, mem3, len3⟩ := ded_strs (SM.signs (valS ls sg))
                    rw [e3]
                    refine ⟨p3, xs3, rfl, upd_same, fun ys3 q3 hpm3 hst3 hq3 => ⟨_, q3, ys3, rfl, rfl, .inl (SqL.of upd_same), ?_, ?_⟩⟩
                    · exact join_lenD hpm3 nd3 mem3 hvl
                    · rw [join_dsort hpm3 nd3 mem3 hst3]
                      exact r _ ((same_upd hp3).trans (same_upd hq3))
                  · have hnz : zs.Nodup := hpz.nodup_iff.mpr hnd
                    have e10 : (zs.map V.str).map (fun v => entK (strOf v, dsort (valS ls (strOf v)))) = (zs.map fun sg => (sg, dsort (valS ls sg))).map entK := by rw [List.map_map, List.map_map]; rfl
                    have nd10 : (((zs.map fun sg => (sg, dsort (valS ls sg))).map entK).map (·.1)).Nodup := ent_nodup (by rw [List.map_map]; show (zs.map fun sg => sg).Nodup; rw [List.map_id']; exact hnz)
                    rw [e10, merge_nd nd10] at hD10
                    have hx10 := s10 _ _ (u10 _ _ hx9)
                    refine ⟨_, rfl, x, _, dx, _, rfl, hx10, T.cl_Rule, T.n_Rule_letters, (by show 2 < 1000; decide), ?_⟩
                    have hH0 : H D2 = none := by
                      cases hh : H D2 with
                      | none => rfl
                      | some o =>
                        by_cases e : D2 = x
                        · rw [e, u10 _ _ hx9] at hD2; cases hD2
                        · rw [u10 _ _ (sb9 _ _ e hh)] at hD2; cases hD2
                    have nDx : D2 ≠ x := fun e => by rw [e, u10 _ _ hx9] at hD2; cases hD2
                    refine k _ (fun b o n e => ?_) ⟨dx, tb, D2, bs, zs.map fun sg => (sg, dsort (valS ls sg)), upd_same, ?_, hst, hpm.nodup_iff.mpr nd0, fun y => (hpm.mem_iff).trans (mem0 y), hH0, ?_, ?_⟩
                    · rw [upd_ne n]; exact s10 _ _ (u10 _ _ (sb9 _ _ n e))
                    · refine SqT.of ?_
                      rw [upd_ne (fun e => by rw [e, hx9] at ht9; cases ht9)]
                      exact s10 _ _ (u10 _ _ ht9)
                    · rw [upd_ne nDx]; exact hD10
                    · have p1 := hpz.map fun sg => (sg, dsort (valS ls sg))
                      rw [List.map_map] at p1
                      have e11 : ls.map ((fun sg => (sg, dsort (valS ls sg))) ∘ fun x => x.1) = ls.map fun q => (q.1, dsort q.2) := List.map_congr_left fun q hq => by
                        show (q.1, dsort (valS ls q.1)) = _
                        rw [valS_mem hnd hq]
                      rw [e11] at p1
                      exact p1
              · refine .inr ⟨_, rfl, a, rfl, ⟨_, but_sqT sb6 hx hS⟩, fun D hD => ?_⟩
                refine sc_map (fun v => .inr (sortS (strOf v))) hD (by omega) (gvs_tup (but_sqT sb6 hx hS)) (fun v => rfl) (fun i y H7 R hy s7 r => ?_) fun H7 s7 hD7 => ?_
                · obtain ⟨pr, hpr, rfl⟩ := strs_at hy
                  have h2 := (hps pr (List.mem_of_getElem? hpr)).1
                  refine ⟨⟨_, rfl⟩, _, rfl, pr, rfl, szS (by omega), fun ys2 q hpm hst hqn => ⟨_, q, ys2, rfl, rfl, .inl (SqL.of upd_same), join_len ys2 pr hpm (by omega), ?_⟩⟩
                  rw [join_sorted hpm hst]
                  exact r _ (same_upd hqn)
                · have e7 : (ps.map V.str).map (fun v => (Sum.inr (sortS (strOf v)) : Key)) = (ps.map sortS).map Sum.inr := by rw [List.map_map, List.map_map]; rfl
                  obtain ⟨bs0, e0, nd0, mem0, len0⟩ := ded_strs (ps.map sortS)
                  rw [e7, e0] at hD7
                  refine ⟨D, bs0, rfl, hD7, fun bs q hpm hst hqn => ⟨q, _, rfl, .inl ⟨SqL.of upd_same, fun tb htb => ?_⟩⟩⟩
                  have u8 := (same_upd (o := .lst (bs.map V.str)) hqn).trans (same_upd (o := .tup (bs.map V.str)) htb)
                  have hx8 := u8 _ _ (s7 _ _ hx6)
                  refine ⟨_, rfl, x, _, dx, _, rfl, hx8, T.cl_Rule, T.n_Rule_beside, (by show 1 < 1000; decide), ?_⟩
                  have sb9 : SameBut x H (upd (upd (upd H7 q (.lst (bs.map V.str))) tb (.tup (bs.map V.str))) x (.ins (CL_Rule K) dx (putF "beside" (.ref tb) [("colours", .str (sortS c))]))) := fun b o n e => by rw [upd_ne n]; exact u8 _ _ (s7 _ _ (sb6 _ _ n e))
                  have hd9 : (upd (upd (upd H7 q (.lst (bs.map V.str))) tb (.tup (bs.map V.str))) x (.ins (CL_Rule K) dx (putF "beside" (.ref tb) [("colours", .str (sortS c))]))) d = some (.dK (ls.map entK)) := by
                    rw [upd_ne (fun e => by rw [e, hx6] at hd6; cases hd6)]
                    exact u8 _ _ (s7 _ _ hd6)
                  have hx9 : (upd (upd (upd H7 q (.lst (bs.map V.str))) tb (.tup (bs.map V.str))) x (.ins (CL_Rule K) dx (putF "beside" (.ref tb) [("colours", .str (sortS c))]))) x = some (.ins (CL_Rule K) dx [("colours", .str (sortS c)), ("beside", .ref tb)]) := upd_same
                  have ht9 : (upd (upd (upd H7 q (.lst (bs.map V.str))) tb (.tup (bs.map V.str))) x (.ins (CL_Rule K) dx (putF "beside" (.ref tb) [("colours", .str (sortS c))]))) tb = some (.tup (bs.map V.str)) := by
                    rw [upd_ne (fun e => by rw [e, (same_upd (o := .lst (bs.map V.str)) hqn) _ _ (s7 _ _ hx6)] at htb; cases htb), upd_same]
                  generalize upd (upd (upd H7 q (.lst (bs.map V.str))) tb (.tup (bs.map V.str))) x (.ins (CL_Rule K) dx (putF "beside" (.ref tb) [("colours", .str (sortS c))])) = H9 at sb9 hd9 hx9 ht9 ⊢
                  refine ⟨_, rfl, d, _, ls.map (·.1), rfl, .inl hd9, entK_keys ls, (by rw [List.length_map]; omega), fun zs q2 hpz hsz hq2 => ⟨q2, rfl, ⟨_, SqL.of upd_same⟩, fun D2 hD2 => ?_⟩⟩
                  have u10 := same_upd (o := .lst (zs.map V.str)) hq2
                  refine dc_map (fun v => entK (strOf v, dsort (valS ls (strOf v)))) hD2 (by rw [List.length_map, hpz.length_eq, List.length_map]; omega) (gvs_list (SqL.of upd_same)) (fun v => rfl) (fun i y H10 R hy s10 r => ?_) fun H10 s10 hD10 => ?_
                  · obtain ⟨sg, hsg, rfl⟩ := strs_at hy
                    obtain ⟨g1, g2⟩ := valS_get hnd (hpz.mem_iff.mp (List.mem_of_getElem? hsg))
                    obtain ⟨pq, hpq, e1, e2⟩ := g2
                    have hvl : (valS ls sg).length ≤ 1000 := by rw [← e2]; exact (hls pq hpq).2.2.2
                    have hd10 := s10 _ _ (u10 _ _ hd9)
                    refine ⟨_, rfl, ⟨_, rfl⟩, _, rfl, _, rfl, d, _, rfl, (by have := DGet.k (k := Sum.inr sg) hd10; rw [g1] at this; exact this), _, rfl, (by show _ < 4096; omega), fun p3 hp3 => ?_⟩
                    obtain ⟨xs3, e3, nd3, mem3, len3⟩ := ded_strs (SM.signs (valS ls sg))
                    rw [e3]
                    refine ⟨p3, xs3, rfl, upd_same, fun ys3 q3 hpm3 hst3 hq3 => ⟨_, q3, ys3, rfl, rfl, .inl (SqL.of upd_same), ?_, ?_⟩⟩
                    · exact join_lenD hpm3 nd3 mem3 hvl
                    · rw [join_dsort hpm3 nd3 mem3 hst3]
                      exact r _ ((same_upd hp3).trans (same_upd hq3))
                  · have hnz : zs.Nodup := hpz.nodup_iff.mpr hnd
                    have e10 : (zs.map V.str).map (fun v => entK (strOf v, dsort (valS ls (strOf v)))) = (zs.map fun sg => (sg, dsort (valS ls sg))).map entK := by rw [List.map_map, List.map_map]; rfl
                    have nd10 : (((zs.map fun sg => (sg, dsort (valS ls sg))).map entK).map (·.1)).Nodup := ent_nodup (by rw [List.map_map]; show (zs.map fun sg => sg).Nodup; rw [List.map_id']; exact hnz)
                    rw [e10, merge_nd nd10] at hD10
                    have hx10 := s10 _ _ (u10 _ _ hx9)
                    refine ⟨_, rfl, x, _, dx, _, rfl, hx10, T.cl_Rule, T.n_Rule_letters, (by show 2 < 1000; decide), ?_⟩
                    have hH0 : H D2 = none := by
                      cases hh : H D2 with
                      | none => rfl
                      | some o =>
                        by_cases e : D2 = x
                        · rw [e, u10 _ _ hx9] at hD2; cases hD2
                        · rw [u10 _ _ (sb9 _ _ e hh)] at hD2; cases hD2
                    have nDx : D2 ≠ x := fun e => by rw [e, u10 _ _ hx9] at hD2; cases hD2
                    refine k _ (fun b o n e => ?_) ⟨dx, tb, D2, bs, zs.map fun sg => (sg, dsort (valS ls sg)), upd_same, ?_, hst, hpm.nodup_iff.mpr nd0, fun y => (hpm.mem_iff).trans (mem0 y), hH0, ?_, ?_⟩
                    · rw [upd_ne n]; exact s10 _ _ (u10 _ _ (sb9 _ _ n e))
                    · refine SqT.of ?_
                      rw [upd_ne (fun e => by rw [e, hx9] at ht9; cases ht9)]
                      exact s10 _ _ (u10 _ _ ht9)
                    · rw [upd_ne nDx]; exact hD10
                    · have p1 := hpz.map fun sg => (sg, dsort (valS ls sg))
                      rw [List.map_map] at p1
                      have e11 : ls.map ((fun sg => (sg, dsort (valS ls sg))) ∘ fun x => x.1) = ls.map fun q => (q.1, dsort q.2) := List.map_congr_left fun q hq => by
                        show (q.1, dsort (valS ls q.1)) = _
                        rw [valS_mem hnd hq]
                      rw [e11] at p1
                      exact p1
end
end R4
set_option Elab.async false
set_option linter.all false
set_option maxRecDepth 100000
set_option maxHeartbeats 4000000
/-! general: an own class's == and != beside any value; lists compared by their very items, and with []; dicts of unlike lengths -/
namespace PySem.W
open PySem PyProof.Rows
/-- x != y by the class's own __eq__ -/
theorem ne_KB {K : Frag} {h₀ : Heap} {L : Addr} {s : Shared} {m : Str → Option Value} {x C f : Addr} {b tb : Value} {ox : Obj} {od : Option Obj} {A : Around} {E : Value → Shared → Prop} {prog : Program} {w : World} {Q : Value → Shared → Prop} (hu : A.units + 1 < cLine) (F : Fr h₀ L s.heap m) (X₀ : K.In h₀) (I : InstAt s.heap x ox C od) (hb : Looks (model prog w) s.heap (typeOf b) tb) (hnf : notFirst K C tb = true)
    (hn : findIn K (.ref C) "__ne__" = some (some (.builtin "object.__ne__"))) (hs : findIn K (.ref C) "__eq__" = some (some (.ref f))) (hf : isFn K (.ref f) = true) (ho : subIn K (.ref C) (.type "object") = some true)
    (h : wpAny (model prog w) A.in1 (call (.ref f) [.ref x, b]) (fun v s' => ∃ k, v = .bool k ∧ Q (.bool (!k)) s') E s) : wpAny (model prog w) A (compareOp .NotEq (.ref x) b) Q E s := by
  have X := X₀.keeps F.keep
  have hi : Looks (model prog w) s.heap (isInstance (.ref x) (.type "object")) true := I.type.andThen (looks_subIn X ho)
  have one : wpAny (model prog w) A (tryCompare (.ref x) "__ne__" b) (fun r s' => ∃ v, r = some v ∧ Q v s') E s := by
    unfold tryCompare
    simp only [callSpecialIfBound?, bindSpecialIfBound?]
    refine wpAny_bind (wpAny_holding (wpAny_bind (wpAny_bind (wpAny_bind (I.type.here ((looks_findIn X hn).here ?_))))))
    simp only [sl_ne.bind]
    refine wpAny_bind (wpAny_askSetting (wpAny_ite ?_))
    have go : wpAny (model prog w) A (call (.builtin "object.__ne__") ([.ref x] ++ [b])) (fun v s' => ∃ k, v = .bool k ∧ Q v s') E s := by
      refine wpAny_call (codeAny_call_builtin sl_ne.plain PySem.F.cmpEntry_ne (check_slot PySem.F.cmpKind_ne PySem.F.cmpSplit_ne hi (PySem.F.cmpArgs_ne _ _) ?_))
      unfold Builtin.«object.__ne__»
      repeat (first
        | with_reducible refine wpAny_cRoomFor (A := A.in1) hu ?_
        | (refine wpAny_bind (m := callSpecialIfBound? (.ref x) (Str.ofString "__eq__") [b])
            (ifBound_K X I hs hf (wpAny_mono h (fun r s' hr => by
              obtain ⟨k, rfl, hq⟩ := hr
              repeat (first | exact ⟨_, rfl, hq⟩ | exact wpAny_pure ⟨_, rfl, hq⟩ | exact wpAny_truthy_bool ⟨_, rfl, hq⟩ | (refine wpAny_bind (m := truthy (.bool _)) (wpAny_truthy_bool ?_)) | wp_step)) fun _ _ e => e)))
        | wp_step)
    have fin : wpAny (model prog w) A (call (.builtin "object.__ne__") ([.ref x] ++ [b]) >>= fun v => pure (some v)) (fun r s' => ∃ k, r = some (.bool k) ∧ Q (.bool k) s') E s :=
      wpAny_bind (wpAny_mono go (fun v s' ⟨k, e, hq⟩ => wpAny_pure ⟨k, by rw [e], by rw [← e]; exact hq⟩) fun _ _ e => e)
    have fin2 : wpAny (model prog w) A (call (.builtin "object.__ne__") ([.ref x] ++ [b]) >>= fun v => pure (some v)) (fun r s' => wpAny (model prog w) A (match r with | some .notImplemented | none => pure none | some v => pure (some v)) (fun r s' => ∃ v, r = some v ∧ Q v s') E s') E s :=
      wpAny_mono fin (fun r s' ⟨k, e, hq⟩ => by subst e; exact wpAny_pure ⟨_, rfl, hq⟩) fun _ _ e => e
    split
    · exact wpAny_bind (wpAny_pure (wpAny_pure (by exact fin2)))
    · exact wpAny_tryCatch (wpAny_bind (wpAny_pure (wpAny_pure (by exact fin2))))
  show wpAny (model prog w) A (richCompare .NotEq (.ref x) b) Q E s
  unfold richCompare
  simp only [oneThing_ref]
  refine wpAny_holding (wpAny_bind (wpAny_cRoomFor (Nat.lt_of_succ_lt hu) ?_))
  rw [cmpInfo_NotEq]
  dsimp only
  refine wpAny_bind (I.type.here (wpAny_bind (hb.here ?_)))
  split
  · rename_i q
    have e : subIn K tb (.ref C) = some false := by
      rcases Bool.or_eq_true_iff.mp hnf with e | e
      · rw [beq_iff_eq.mp e] at q; simp at q
      · exact beq_iff_eq.mp e
    refine wpAny_bind ((looks_subIn X e).here ?_)
    simp only [Bool.false_eq_true, if_false]
    refine wpAny_bind (wpAny_mono one (fun r s' z => ?_) fun _ _ e => e)
    obtain ⟨v, rfl, hq⟩ := z
    exact wpAny_pure hq
  · refine wpAny_bind (wpAny_pure ?_)
    simp only [Bool.false_eq_true, if_false]
    refine wpAny_bind (wpAny_mono one (fun r s' z => ?_) fun _ _ e => e)
    obtain ⟨v, rfl, hq⟩ := z
    exact wpAny_pure hq
end PySem.W
namespace L2
open PySem PySem.Spec PyProof.Rows PySem.GW
section
variable {X : Cx}
/-- x op y, x of the own class at C, y any value whose class does not stand below C -/
def rOwnV (K : PySem.W.Frag) (C : Addr) (sp : Sp) : R2 := fun x y H Q => ∃ a dx fs tb, x = .ref a ∧ H a = some (.ins C dx fs) ∧ TyX K H y tb ∧ PySem.W.notFirst K C tb = true ∧ sp [x, y] H Q E0
def rNeV (K : PySem.W.Frag) (C : Addr) (sp : Sp) : R2 := fun x y H Q => ∃ a dx fs tb, x = .ref a ∧ H a = some (.ins C dx fs) ∧ TyX K H y tb ∧ PySem.W.notFirst K C tb = true ∧ sp [x, y] H (fun z H' => ∃ k, z = .bl k ∧ Q (.bl (!k)) H') E0
theorem op_ownV {C g : Addr} {fd : FuncData} {ps : List Str} {n : Nat} {sp : Sp} {op : CmpOp} (hop : ∀ a b, compareOp op a b = richCompare op a b) (hs : PySem.W.findIn X.K (.ref C) (cmpInfo op).2.1 = some (some (.ref g))) (hf : PySem.W.isFn X.K (.ref g) = true)
    (F : FnOk X.prog X.w X.K X.mg X.base CX0 n g fd ps sp) (hb : Binds X.K fd ps []) (hr : Room n X.A) : OpR X (compareOp op) (rOwnV X.K C sp) := by
  intro pins s σ H x y v u Q I rx ry h
  obtain ⟨a, dx, fs, tb, rfl, ha, ty, hn, q⟩ := h
  cases (show v = Value.ref a from rx)
  obtain ⟨mA, O, _⟩ := ins_get I.hok ha
  obtain ⟨od, J, _⟩ := O.look
  obtain ⟨P, Z, p, _⟩ := kit_of I ry ty
  obtain ⟨m, hF⟩ := I.fr
  rw [hop]
  refine PySem.W.cmp_K (op := op) (tb := tb) hr.units0 hF I.ok.mod.kin J (Z.ty _ _ I.kIn p) hn hs hf ?_
  refine wpAny_mono (run_fn (us := [.ref a, u]) (vs := [.ref a, y]) (dvs := []) (ds := []) F hr hb .nil pass0 I (.cons rfl (.cons ry .nil)) q) (fun w s' z => ?_) fun _ _ x => x
  obtain ⟨z', H', I', rz, qz⟩ := z
  exact SlX.cmpback rz ⟨z', H', I', rz, qz⟩
theorem op_neV {C g : Addr} {fd : FuncData} {ps : List Str} {n : Nat} {sp : Sp} (hn : PySem.W.findIn X.K (.ref C) "__ne__" = some (some (.builtin "object.__ne__"))) (hs : PySem.W.findIn X.K (.ref C) "__eq__" = some (some (.ref g))) (hf : PySem.W.isFn X.K (.ref g) = true) (ho : PySem.W.subIn X.K (.ref C) (.type "object") = some true)
    (F : FnOk X.prog X.w X.K X.mg X.base CX0 n g fd ps sp) (hb : Binds X.K fd ps []) (hr : Room (n + 1) X.A) : OpR X (compareOp .NotEq) (rNeV X.K C sp) := by
  intro pins s σ H x y v u Q I rx ry h
  obtain ⟨a, dx, fs, tb, rfl, ha, ty, hnf, q⟩ := h
  cases (show v = Value.ref a from rx)
  obtain ⟨mA, O, _⟩ := ins_get I.hok ha
  obtain ⟨od, J, _⟩ := O.look
  obtain ⟨P, Z, p, _⟩ := kit_of I ry ty
  obtain ⟨m, hF⟩ := I.fr
  refine PySem.W.ne_KB (by have := hr.units; omega) hF I.ok.mod.kin J (Z.ty _ _ I.kIn p) hnf hn hs hf ho ?_
  have hl : ([V.ref a, y] ++ []).length = ps.length := F.len _ _ _ _ q
  refine wpAny_call (codeAny_mono (F.run X.A.in1 X.stack s H ⟨[.ref a, u], []⟩ [.ref a, u] [.ref a, y] _ E0 hr.in1 I.env0.in1 (hb s [.ref a, u] I.kIn hl) (.cons rfl (.cons ry .nil)) q) fun r s' hq => ?_)
  cases r with
  | error e => exact (pass0 pins σ H s e s' I hq)
  | ok fl =>
    cases fl with
    | ret u =>
      obtain ⟨v, H', I2, rv, k, e, q⟩ := I.after hq
      subst e
      cases (show u = Value.bool k from rv)
      exact ⟨k, rfl, .bl (!k), H', I2, rfl, q⟩
    | next => exact False.elim hq
    | brk => exact False.elim hq
    | cont => exact False.elim hq
/-- dicts of unlike lengths -/
def rEqDL : R2 := fun x y H Q => ∃ a b ks ls, x = .ref a ∧ y = .ref b ∧ H a = some (.dK ks) ∧ H b = some (.dK ls) ∧ ks.length ≠ ls.length ∧ Q (.bl false) H
theorem op_eq_dictL (hu : X.A.units < cLine) : OpR X (compareOp .Eq) rEqDL := by
  intro pins s σ H x y v u Q I rx ry h
  obtain ⟨a, b, ks, ls, rfl, rfl, ea, eb, hlen, q⟩ := h
  obtain rfl : v = Value.ref a := rx
  obtain rfl : u = Value.ref b := ry
  obtain ⟨_, ya, va, ra, da⟩ := (show ObjOk X.prog X.w H s.heap a (.dK ks) from I.hok a _ ea)
  obtain ⟨_, yb, vb, rb, db⟩ := (show ObjOk X.prog X.w H s.heap b (.dK ls) from I.hok b _ eb)
  have hl : ¬ va.length = vb.length := by rw [← ra.length, ← rb.length]; exact hlen
  exact PySem.W.keq_eq (knd := mixKind X.prog X.w) (r := true) ya yb da db hu (fun e => absurd e hl) (fin_bl I q (by simp [hl]))
/-- lists of the very same items are not unlike -/
def rNeSame (K : PySem.W.Frag) : R2 := fun x y H Q => ∃ a b xs, x = .ref a ∧ y = .ref b ∧ SqL K H a xs ∧ SqL K H b xs ∧ (∀ v ∈ xs, flatB v = true ∨ ∃ r, v = .ref r) ∧ Q (.bl false) H
theorem same_items {A : Around} {s : Shared} : ∀ {xs : List V} {us ws : List Value}, Vals xs us → Vals xs ws → (∀ v ∈ xs, flatB v = true ∨ ∃ r, v = .ref r) → ∀ j (h1 : j < us.length) (h2 : j < ws.length), SeqAt.EqAt A s us[j] ws[j] true
  | _, _, _, .nil, _, _, j, h1, _ => absurd h1 (Nat.not_lt_zero j)
  | _, _, _, .cons a1 b1, .cons a2 b2, h, 0, _, _ => by
    rcases h _ List.mem_cons_self with f | ⟨r, rfl⟩
    · exact eqAt_same a1 a2 f
    · cases a1
      cases a2
      exact SeqAt.EqAt.same _
  | _, _, _, .cons a1 b1, .cons a2 b2, h, j + 1, h1, h2 => same_items b1 b2 (fun v hv => h v (List.mem_cons_of_mem _ hv)) j (Nat.lt_of_succ_lt_succ h1) (Nat.lt_of_succ_lt_succ h2)
theorem op_neSame (hu : X.A.units < cLine) : OpR X (compareOp .NotEq) (rNeSame X.K) := by
  intro pins s σ H x y v u Q I rx ry h
  obtain ⟨a, b, xs, rfl, rfl, ha, hb, hx, q⟩ := h
  obtain rfl : v = Value.ref a := rx
  obtain rfl : u = Value.ref b := ry
  obtain ⟨us, r1, p1, _⟩ := I.list ha
  obtain ⟨ws, r2, p2, _⟩ := I.list hb
  have hsz : us.toArray.size = ws.toArray.size := by rw [List.size_toArray, List.size_toArray, ← r1.length, ← r2.length]
  refine SeqAt.RcNeAt.lists (e := fun _ => true) p1.isList p2.isList hsz hu (fun j h1 h2 => ?_) X.prog X.w _ _ ?_
  · have k := same_items (A := X.A.in1) (s := s) r1 r2 hx j (by simpa using h1) (by simpa using h2)
    simpa using k
  · rw [show ((List.range us.toArray.size).all fun _ => true) = true from List.all_eq_true.mpr fun _ _ => rfl]
    exact ⟨.bl false, H, I, rfl, q⟩
/-- xs != [] -/
def rNeNil (K : PySem.W.Frag) : R2 := fun x y H Q => ∃ a b xs, x = .ref a ∧ y = .ref b ∧ SqL K H a xs ∧ SqL K H b [] ∧ Q (.bl (!xs.isEmpty)) H
theorem op_neNil (hu : X.A.units < cLine) : OpR X (compareOp .NotEq) (rNeNil X.K) := by
  intro pins s σ H x y v u Q I rx ry h
  obtain ⟨a, b, xs, rfl, rfl, ha, hb, q⟩ := h
  obtain rfl : v = Value.ref a := rx
  obtain rfl : u = Value.ref b := ry
  obtain ⟨us, r1, p1, _⟩ := I.list ha
  obtain ⟨ws, r2, p2, _⟩ := I.list hb
  cases r2
  cases xs with
  | nil =>
    cases r1
    refine SeqAt.RcNeAt.lists (e := fun _ => true) p1.isList p2.isList rfl hu (fun j h1 h2 => absurd h1 (Nat.not_lt_zero j)) X.prog X.w _ _ ?_
    exact ⟨.bl false, H, I, rfl, q⟩
  | cons x xs =>
    cases r1 with
    | cons r1 t1 =>
      refine SeqAt.RcNeAt.lists_lengths p1.isList p2.isList (by simp) hu X.prog X.w _ _ ?_
      exact ⟨.bl true, H, I, rfl, q⟩
end
end L2
set_option Elab.async false
set_option linter.all false
set_option maxRecDepth 100000
set_option maxHeartbeats 4000000
set_option pp.maxSteps 700
namespace R4
open PySem L2 PySem.GW LamX SM
section
variable {w : World} {K : PySem.W.Frag} {mg : Str → Option Value} {base : Heap}
open UM
open PyProof.Rows (sortedS)
theorem RuleAt.same {H0 H H' : Hp} {p : Addr} {c : Str} {ps : List Str} {ls : List (Str × Str)} (e : Same H H') (h : RuleAt K H0 H p c ps ls) : RuleAt K H0 H' p c ps ls := by
  obtain ⟨dx, tb, d, bs, ks, h1, h2, h3, h4, h5, h6, h7, h8⟩ := h
  exact ⟨dx, tb, d, bs, ks, e _ _ h1, Same.seqT e h2, h3, h4, h5, h6, e _ _ h7, h8⟩
theorem RuleAt.ty (T : Top K mg) {H0 H : Hp} {p : Addr} {c : Str} {ps : List Str} {ls : List (Str × Str)} (h : RuleAt K H0 H p c ps ls) : TyX K H (.ref p) (.ref (CL_Rule K)) := by
  obtain ⟨dx, tb, d, bs, ks, h1, _⟩ := h
  exact .base (.ins h1 T.cl_Rule T.ic_Rule T.ig_Rule T.it_Rule T.im_Rule)
/-- what two rules are compared by -/
def sigL (ls : List (Str × Str)) : List (Str × Str) := ls.map fun q => (q.1, dsort q.2)
def spEq (K : PySem.W.Frag) : Sp := fun vs H Q _ => ∃ (p : Addr) (v : V), vs = [.ref p, v] ∧
  ((∃ t, TyX K H v t ∧ PySem.W.kitOne K t (.ref (CL_Rule K)) = some false ∧ Q (.bl false) H) ∨
   (∃ (q : Addr) (H0 H1 : Hp) (c c' : Str) (ps ps' : List Str) (ls ls' : List (Str × Str)), v = .ref q ∧ RuleAt K H0 H p c ps ls ∧ RuleAt K H1 H q c' ps' ls' ∧ sortS c = sortS c' ∧ (∀ y, y ∈ ps.map sortS ↔ y ∈ ps'.map sortS) ∧ ps.length ≤ 1000 ∧ (ls.map (·.1)).Nodup ∧ (ls'.map (·.1)).Nodup ∧ (∀ x ∈ ps.map sortS, PyData.canLay0 (.str x) = true) ∧
     (((sigL ls).Perm (sigL ls') ∧ Q (.bl true) H) ∨ (ls.length ≠ ls'.length ∧ Q (.bl false) H))))
theorem canStrs : ∀ ns : List Str, (∀ x ∈ ns, PyData.canLay0 (.str x) = true) → PyData.canLayAll0 (ns.map PyData.str) = true ∧ PyData.depthAll (ns.map PyData.str) = 0
  | [], _ => ⟨rfl, rfl⟩
  | n :: ns, h => by
    obtain ⟨h1, h2⟩ := canStrs ns fun x hx => h x (List.mem_cons_of_mem _ hx)
    constructor
    · show (PyData.canLay0 (.str n) && PyData.canLayAll0 (ns.map PyData.str)) = true
      rw [h n List.mem_cons_self, h1]
      rfl
    · show max (PyData.depth (.str n)) (PyData.depthAll (ns.map PyData.str)) = 0
      rw [h2]
      rfl
theorem ok_Rule___eq__ (T : Top K mg) : FnOk PW w K mg base CX0 1 (ME_Rule K "__eq__") (fdOf K (ME_Rule K "__eq__")) ["self", "other"] (spEq K) := by
  refine T.F_Rule___eq__.ok sc_Rule___eq__ (fun vs H Q E h => ?_) (fun cdv A outer s H vs Q E hr h => ?_)
  · obtain ⟨p, v, rfl, _h⟩ := h
    rfl
  · obtain ⟨p, v, rfl, h⟩ := h
    have hu := hu_of hr
    refine ⟨_, (pss_cons (ps_if (PW.pt (pw_or (pt_not (pt_val (pe_callB call_isi (by rfl) T.z_isinstance (by decide +kernel) (pa_cons (pv 1) (pa_cons (pe_glob (v := .ref (CL_Rule K)) rfl T.g_Rule rfl) pa_nil))))) (pw_or (pt_cmpR op_ne (pe_fld (pv 0) rfl) (pe_fld (pv 1) rfl) (nomark _)) (pw_or1 (pt_cmpR (op_neD hr.units) (pe_fld (pv 0) rfl) (pe_fld (pv 1) rfl) (nomark _)))))) (pss_one (ps_ret pe_bl)) pss_nil)
      (pss_one (ps_ret (pe_cmpR (op_or (op_eq_dictA hr.units0) (op_eq_dictL hr.units0)) (pe_fld (pv 0) rfl) (pe_fld (pv 1) rfl) (nomark _))))), ?_⟩
    rcases h with ⟨t, ty, h1, k⟩ | ⟨q, H0, H1, c, c', ps, ps', ls, ls', rfl, hR, hR', hc, hp, hpl, hnd, hnd', hcan, h⟩
    · exact ⟨_, rfl, _, _, _, _, false, rfl, .own _, ty, h1, _, rfl, ifT rfl (ifT rfl (tcI k))⟩
    · have ty' := hR'.ty T
      obtain ⟨dx, tb, d, bs, ks, g1, g2, g3, g4, g5, g6, g7, g8⟩ := hR
      obtain ⟨dx', tb', d', bs', ks', g1', g2', g3', g4', g5', g6', g7', g8'⟩ := hR'
      refine ⟨_, rfl, _, _, _, _, true, rfl, .own _, ty', T.kk_Rule, _, rfl, ifF rfl ?_⟩
      refine ⟨_, rfl, p, _, dx, _, _, rfl, g1, T.cl_Rule, T.n_Rule_colours, rfl, _, rfl, q, _, dx', _, _, rfl, g1', T.cl_Rule, T.n_Rule_colours, rfl, rfl, _, rfl, ?_⟩
      rw [hc]
      refine ifF (by rw [decide_eq_true rfl]; rfl) ?_
      have e : bs' = bs := sorted_set g3' g3 g4' g4 fun x => (g5' x).trans ((hp x).symm.trans (g5 x).symm)
      rw [e] at g2'
      refine ⟨_, rfl, p, _, dx, _, _, rfl, g1, T.cl_Rule, T.n_Rule_beside, rfl, _, rfl, q, _, dx', _, _, rfl, g1', T.cl_Rule, T.n_Rule_beside, rfl, ?_⟩
      have hsh : SeqAt.shaped (.tuple (bs.map PyData.str)) = true := by
        obtain ⟨c1, c2⟩ := canStrs bs fun x hx => hcan x ((g5 x).mp hx)
        refine shaped_of c1 ?_
        show PyData.depthAll (bs.map PyData.str) + 1 ≤ 11
        rw [c2]
        decide
      refine ne_same (.tup g2 (dpStrs bs)) (.tup g2' (dpStrs bs)) hsh ⟨_, rfl, ifF rfl ?_⟩
      have keysP : ∀ {ls : List (Str × Str)}, (sigL ls).map (·.1) = ls.map (·.1) := fun {ls} => by unfold sigL; rw [List.map_map]; rfl
      have kn' : ((ks'.map entK).map (·.1)).Nodup := ent_nodup ((g8'.map (·.1)).nodup_iff.mpr (by rw [show (ls'.map fun q => (q.1, dsort q.2)) = sigL ls' from rfl, keysP]; exact hnd'))
      refine ⟨_, rfl, p, _, dx, _, _, rfl, g1, T.cl_Rule, T.n_Rule_letters, rfl, _, rfl, q, _, dx', _, _, rfl, g1', T.cl_Rule, T.n_Rule_letters, rfl, ?_⟩
      have l1 : (ks.map entK).length = ls.length := by rw [List.length_map, g8.length_eq, List.length_map]
      have l2 : (ks'.map entK).length = ls'.length := by rw [List.length_map, g8'.length_eq, List.length_map]
      rcases h with ⟨hpm, k⟩ | ⟨hne, k⟩
      · have hll : ls.length = ls'.length := by
          have := hpm.length_eq
          unfold sigL at this
          rw [List.length_map, List.length_map] at this
          exact this
        refine .inl ⟨d, d', _, _, rfl, rfl, g7, g7', by rw [l1, l2, hll], fun e he => ?_, k⟩
        obtain ⟨e0, he0, rfl⟩ := List.mem_map.mp he
        have hm : e0 ∈ ks' := g8'.mem_iff.mpr (hpm.mem_iff.mp (g8.mem_iff.mp he0))
        exact ⟨valV_mem kn' (List.mem_map_of_mem (f := entK) hm), rfl⟩
      · exact .inr ⟨d, d', _, _, rfl, rfl, g7, g7', by rw [l1, l2]; exact hne, k⟩
end
end R4
set_option Elab.async false
set_option linter.all false
set_option maxRecDepth 100000
set_option maxHeartbeats 4000000
set_option pp.maxSteps 700
namespace R4
open PySem L2 PySem.GW LamX SM
section
variable {w : World} {K : PySem.W.Frag} {mg : Str → Option Value} {base : Heap}
/-! ### where the draws come from -/
def penD (c : Addr) (z r : Int) : List (Key × V) := [(Sum.inr "cells", .ref c), (Sum.inr "begun", .int z), (Sum.inr "left", .int r)]
/-- the pen, at most b cells begun -/
def PenOk (H : Hp) (p c : Addr) (b : Nat) : Prop := ∃ (ns : List Int) (z r : Int), H p = some (.dK (penD c z r)) ∧ H c = some (.lst (ns.map V.int)) ∧ ns.length ≤ 63 ∧ 0 ≤ z ∧ z ≤ b ∧ 0 ≤ r
theorem PenOk.mono {H : Hp} {p c : Addr} {b b' : Nat} (h : PenOk H p c b) (e : b ≤ b') : PenOk H p c b' := by
  obtain ⟨ns, z, r, h1, h2, h3, h4, h5, h6⟩ := h
  exact ⟨ns, z, r, h1, h2, h3, h4, by omega, h6⟩
theorem PenOk.same {H H' : Hp} {p c : Addr} {b : Nat} (e : Same H H') (h : PenOk H p c b) : PenOk H' p c b := by
  obtain ⟨ns, z, r, h1, h2, h3⟩ := h
  exact ⟨ns, z, r, e _ _ h1, e _ _ h2, h3⟩
theorem PenOk.updL {H : Hp} {p c D : Addr} {b : Nat} {o : HO} (h : PenOk H p c b) (hp : D ≠ p) (hc : D ≠ c) : PenOk (upd H D o) p c b := by
  obtain ⟨ns, z, r, h1, h2, h3⟩ := h
  exact ⟨ns, z, r, by rw [upd_ne hp.symm]; exact h1, by rw [upd_ne hc.symm]; exact h2, h3⟩
theorem PenOk.ne {H : Hp} {p c D : Addr} {b : Nat} (h : PenOk H p c b) (hD : H D = none) : D ≠ p ∧ D ≠ c := by
  obtain ⟨ns, z, r, h1, h2, h3⟩ := h
  exact ⟨fun e => (by rw [e, h1] at hD; cases hD), fun e => (by rw [e, h2] at hD; cases hD)⟩
theorem PenOk.dict {H : Hp} {p c : Addr} {b : Nat} (h : PenOk H p c b) : ∃ k, H p = some (.dK k) := by
  obtain ⟨ns, z, r, h1, _⟩ := h
  exact ⟨_, h1⟩
theorem pen_putA (c : Addr) (z r x : Int) : putK (penD c z r) (Sum.inr "begun") (.int x) = penD c x r := by rfl
theorem pen_putR (c : Addr) (z r x : Int) : putK (penD c z r) (Sum.inr "left") (.int x) = penD c z x := by rfl
def spBegin (K : PySem.W.Frag) : Sp := fun vs H Q _ => ∃ (a : Addr) (ns : List Int), vs = [.ref a] ∧ SqL K H a (ns.map V.int) ∧ ns.length ≤ 63 ∧ ∀ p c H', Same H H' → H p = none → PenOk H' p c 0 → Q (.ref p) H'
def spDraw : Sp := fun vs H Q _ => ∃ (p c : Addr) (b : Nat) (m : Nat), vs = [.ref p, .int (m : Int)] ∧ PenOk H p c b ∧ b ≤ 1000000000 ∧ 1 ≤ m ∧ m ≤ 1000000 ∧ ∀ (x : Nat) H', x < m → SameBut p H H' → PenOk H' p c (b + 1) → Q (.int (x : Int)) H'
def spPick (K : PySem.W.Frag) : Sp := fun vs H Q _ => ∃ (p c l : Addr) (b : Nat) (xs : List V), vs = [.ref p, .ref l] ∧ PenOk H p c b ∧ b ≤ 1000000000 ∧ SqL K H l xs ∧ 1 ≤ xs.length ∧ xs.length ≤ 1000 ∧ ∀ (i : Nat) (x : V) (H' : Hp), xs[i]? = some x → SameBut p H H' → PenOk H' p c (b + 1) → Q x H'
theorem modN {i : Int} {m : Nat} (h : 1 ≤ m) : ∃ x : Nat, i % (m : Int) = (x : Int) ∧ x < m := by
  have h0 := Int.emod_nonneg i (show (m : Int) ≠ 0 by omega)
  have h1 := Int.emod_lt_of_pos i (show (0 : Int) < (m : Int) by omega)
  obtain ⟨x, hx⟩ := Int.eq_ofNat_of_zero_le h0
  exact ⟨x, hx, by omega⟩
theorem ok__law_begin (T : Top K mg) : FnOk PW w K mg base CX0 1 (fa K "_law_begin") (fdOf K (fa K "_law_begin")) ["_law_script"] (spBegin K) := by
  refine T.F__law_begin.ok sc__law_begin (fun vs H Q E h => ?_) (fun cdv A outer s H vs Q E hr h => ?_)
  · obtain ⟨a, ns, rfl, _hS, _hlen, _k⟩ := h
    rfl
  · obtain ⟨a, ns, rfl, hS, hlen, k⟩ := h
    have hu := hu_of hr
    refine ⟨_, (pss_one (ps_ret (pe_disp (pps_cons pe_str (pe_callTy call_list_of (by rfl) T.z_list (by decide +kernel) (pa_cons (pe_slice sl_list (pv 0) po_none (po_some pe_int)) pa_nil)) (pps_cons pe_str pe_int (pps_cons pe_str pe_int pps_nil))) (by rfl) (by rfl) (fun z => by cases z) (by decide)))), ?_⟩
    intro p hp
    have s1 := same_upd (o := .dK []) hp
    refine ⟨_, rfl, _, rfl, a, _, rfl, s1.seq hS, fun l hl => ?_⟩
    have s2 := same_upd (o := .lst (cutV (ns.map V.int) none (some 63))) hl
    refine ⟨l, _, rfl, .inl (SqL.of upd_same), fun c hc => ?_⟩
    have s3 := s1.trans (s2.trans (same_upd (o := .lst (cutV (ns.map V.int) none (some 63))) hc))
    have hp3 := (s2.trans (same_upd (o := .lst (cutV (ns.map V.int) none (some 63))) hc)) p _ upd_same
    have hpc : c ≠ p := fun e => by rw [e, s2 p _ upd_same] at hc; cases hc
    refine ⟨hp3, penD c 0 0, rfl, (by show 3 ≤ 15; decide), ?_⟩
    refine k p c _ (same_at hp s3) hp ⟨ns, 0, 0, (by rw [upd_same]; rfl), (by rw [upd_ne hpc, upd_same, cut63 ns hlen]), hlen, by omega, by omega, by omega⟩
theorem ok__law_draw (T : Top K mg) : FnOk PW w K mg base CX0 1 (fa K "_law_draw") (fdOf K (fa K "_law_draw")) ["_law_pen", "_law_span"] spDraw := by
  refine T.F__law_draw.ok sc__law_draw (fun vs H Q E h => ?_) (fun cdv A outer s H vs Q E hr h => ?_)
  · obtain ⟨p, c, b, m, rfl, _hT, _hb, _hm1, _hm2, _k⟩ := h
    rfl
  · obtain ⟨p, c, b, m, rfl, hT, hb, hm1, hm2, k⟩ := h
    have hu := hu_of hr
    refine ⟨_, (pss_cons (ps_if (pt_cmpR op_gt (pe_dget hu (pv 0) pe_str (fun _ _ => rfl)) pe_int (nomark _)) (pss_cons (ps_set (i := 2) sc__law_draw.nd rfl (Or.inl rfl) (pe_op op_mod (pe_callTy call_int1 (by rfl) T.z_int (by decide +kernel) (pa_cons (pe_dget hu (pv 0) pe_str (fun _ _ => rfl)) pa_nil)) (pv 1)))
      (pss_cons (ps_dput hu (pv 0) pe_str (pe_op op_fdiv (pe_dget hu (pv 0) pe_str (fun _ _ => rfl)) (pv 1)) rfl)
      (pss_one (ps_ret (pv 2))))) pss_nil)
      (pss_cons (ps_set (i := 3) sc__law_draw.nd rfl (Or.inl rfl) (pe_dget hu (pv 0) pe_str (fun _ _ => rfl)))
      (pss_cons (ps_dput hu (pv 0) pe_str (pe_op op_add (pv 3) pe_int) rfl)
      (pss_cons (ps_set (i := 4) sc__law_draw.nd rfl (Or.inl rfl) (pe_op op_add (pe_op op_mul pe_int (pv 3)) pe_int))
      (pss_cons (ps_if (pt_cmpR (op_neNil hr.units0) (pe_dget hu (pv 0) pe_str (fun _ _ => rfl)) (pe_lst pa_nil) (nomark _)) (pss_one (ps_set (i := 4) sc__law_draw.nd rfl (Or.inl rfl) (pe_ix ix_list (pe_dget hu (pv 0) pe_str (fun _ _ => rfl)) (pe_op op_mod (pe_callTy call_int1 (by rfl) T.z_int (by decide +kernel) (pa_cons (pv 3) pa_nil)) (pe_callB call_len_seq (by rfl) T.z_len (by decide +kernel) (pa_cons (pe_dget hu (pv 0) pe_str (fun _ _ => rfl)) pa_nil))) (fun _ _ => rfl)))) pss_nil)
      (pss_cons (ps_if (PW.pt (pw_and (pt_cmpR op_lt (pv 3) (pe_callB call_len_seq (by rfl) T.z_len (by decide +kernel) (pa_cons (pe_dget hu (pv 0) pe_str (fun _ _ => rfl)) pa_nil)) (nomark _)) (pw_and1 (pt_cmpR op_ge (pe_callB call_abs (by rfl) T.z_abs (by decide +kernel) (pa_cons (pv 4) pa_nil)) (pe_op op_pow pe_int pe_int) (nomark _))))) (pss_cons (ps_dput hu (pv 0) pe_str (pe_op op_fdiv (pe_op op_sub (pe_callB call_abs (by rfl) T.z_abs (by decide +kernel) (pa_cons (pv 4) pa_nil)) (pe_op op_pow pe_int pe_int)) (pv 1)) rfl)
      (pss_one (ps_ret (pe_op op_mod (pe_callTy call_int1 (by rfl) T.z_int (by decide +kernel) (pa_cons (pe_op op_sub (pe_callB call_abs (by rfl) T.z_abs (by decide +kernel) (pa_cons (pv 4) pa_nil)) (pe_op op_pow pe_int pe_int)) pa_nil)) (pv 1))))) pss_nil)
      (pss_cons (ps_set (i := 5) sc__law_draw.nd rfl (Or.inl rfl) (pe_op op_add (pe_op op_mul (pe_op op_mod (pe_callTy call_int1 (by rfl) T.z_int (by decide +kernel) (pa_cons (pv 4) pa_nil)) pe_int) pe_int) (pe_op op_mul (pe_op op_mul pe_int (pv 3)) (pv 3))))
      (pss_cons (ps_set (i := 5) sc__law_draw.nd rfl (Or.inl rfl) (pe_op op_mod (pe_callTy call_int1 (by rfl) T.z_int (by decide +kernel) (pa_cons (pe_op op_add (pe_op op_add (pv 5) (pe_op op_mul pe_int (pv 3))) pe_int) pa_nil)) pe_int))
      (pss_cons (ps_set (i := 5) sc__law_draw.nd rfl (Or.inl rfl) (pe_op op_mod (pe_callTy call_int1 (by rfl) T.z_int (by decide +kernel) (pa_cons (pe_op op_add (pe_op op_add (pe_op op_add (pe_op op_mul (pv 5) (pv 5)) (pe_op op_mul pe_int (pv 5))) (pe_op op_mul pe_int (pv 3))) pe_int) pa_nil)) pe_int))
      (pss_cons (ps_set (i := 5) sc__law_draw.nd rfl (Or.inl rfl) (pe_op op_mod (pe_callTy call_int1 (by rfl) T.z_int (by decide +kernel) (pa_cons (pe_op op_add (pe_op op_add (pe_op op_mul (pv 5) (pv 5)) (pe_op op_mul pe_int (pv 5))) (pv 3)) pa_nil)) pe_int))
      (pss_one (ps_ret (pe_op op_mod (pe_callTy call_int1 (by rfl) T.z_int (by decide +kernel) (pa_cons (pe_op op_fdiv (pe_op op_mod (pe_callTy call_int1 (by rfl) T.z_int (by decide +kernel) (pa_cons (pe_op op_mul (pv 5) (pe_op op_add (pv 5) pe_int)) pa_nil)) pe_int) pe_int) pa_nil)) (pv 1)))))))))))))), ?_⟩
    obtain ⟨ns, z, r, h1, h2, h4, h5, h6, h7⟩ := hT
    obtain ⟨zn, rfl⟩ := Int.eq_ofNat_of_zero_le h5
    have gR : ∀ {H1 : Hp} {z1 r1 : Int}, H1 p = some (.dK (penD c z1 r1)) → DGet H1 p (.str "left") (some (.int r1)) := fun e => DGet.k (k := Sum.inr "left") e
    have gA : ∀ {H1 : Hp} {z1 r1 : Int}, H1 p = some (.dK (penD c z1 r1)) → DGet H1 p (.str "begun") (some (.int z1)) := fun e => DGet.k (k := Sum.inr "begun") e
    have gC : ∀ {H1 : Hp} {z1 r1 : Int}, H1 p = some (.dK (penD c z1 r1)) → DGet H1 p (.str "cells") (some (.ref c)) := fun e => DGet.k (k := Sum.inr "cells") e
    have npc : c ≠ p := by rintro rfl; rw [h1] at h2; cases h2
    refine ⟨_, rfl, p, _, rfl, gR h1, _, _, rfl, rfl, _, rfl, ?_⟩
    by_cases c0 : 0 < r
    · refine ifT (decide_eq_true c0) ?_
      obtain ⟨x, hx, hxm⟩ := modN (i := r) hm1
      refine ⟨_, rfl, p, _, rfl, gR h1, .inl ⟨_, rfl, _, rfl, iC (by show (0 : Int) < _; omega) (v := .int (x : Int)) (congrArg V.int hx) ?_⟩⟩
      refine ⟨_, rfl, p, _, rfl, gR h1, _, rfl, _, _, rfl, rfl, ⟨by omega, by omega⟩, _, rfl, p, _, rfl, DPut.k (k := Sum.inr "left") h1 (small1000 (by show 3 ≤ 1000; decide)), ?_⟩
      rw [pen_putR]
      refine ⟨_, rfl, k x _ hxm (fun b2 o hne e => by rw [upd_ne hne]; exact e) ⟨ns, _, _, upd_same, (by rw [upd_ne npc]; exact h2), h4, h5, by omega, Int.ediv_nonneg h7 (by omega)⟩⟩
    · refine ifF (decide_eq_false c0) ?_
      refine ⟨_, rfl, p, _, rfl, gA h1, ?_⟩
      refine ⟨_, rfl, tcI (i0 (v := .int ((zn + 1 : Nat) : Int)) (congrArg V.int (by omega)) ⟨_, rfl, p, _, rfl, DPut.k (k := Sum.inr "begun") h1 (small1000 (by show 3 ≤ 1000; decide)), ?_⟩)⟩
      rw [pen_putA]
      have e1 : (upd H p (.dK (penD c ((zn + 1 : Nat) : Int) r))) p = some (.dK (penD c ((zn + 1 : Nat) : Int) r)) := upd_same
      have e2 : (upd H p (.dK (penD c ((zn + 1 : Nat) : Int) r))) c = some (.lst (ns.map V.int)) := by rw [upd_ne npc]; exact h2
      have sb1 : SameBut p H (upd H p (.dK (penD c ((zn + 1 : Nat) : Int) r))) := fun b2 o hne e => by rw [upd_ne hne]; exact e
      generalize upd H p (.dK (penD c ((zn + 1 : Nat) : Int) r)) = H1 at e1 e2 sb1 ⊢
      refine ⟨_, rfl, _, _, rfl, rfl, .inl ⟨by decide, by decide⟩, _, _, rfl, rfl, ?_⟩
      refine ⟨_, rfl, p, _, rfl, gC e1, Nat.le_of_ble_eq_true rfl, fun q hq => ⟨c, q, _, rfl, rfl, SqL.of ((same_upd hq) _ _ e2), SqL.of upd_same, _, rfl, ?_⟩⟩
      have s2 := same_upd (o := .lst []) hq
      have e3 := s2 _ _ e1
      have e4 := s2 _ _ e2
      have sb2 : SameBut p H (upd H1 q (.lst [])) := fun b2 o hne e => s2 _ _ (sb1 _ _ hne e)
      generalize upd H1 q (.lst []) = H2 at e3 e4 sb2 ⊢
      refine joinU (fun σ H3 => H3 = H2 ∧ ∃ cell : Int, σ = [some (.ref p), some (.int (m : Int)), none, some (.int (zn : Int)), some (.int cell), none]) ?_ ?_ ?_
      · intro hb1 nx hnx
        have hne : 1 ≤ ns.length := by
          cases ns with
          | nil => cases hb1
          | cons y ns => simp
        have hlt : zn % ns.length < ns.length := Nat.mod_lt _ (by omega)
        refine ⟨_, rfl, p, _, rfl, gC e3, _, rfl, .inl ⟨_, rfl, _, rfl, p, _, rfl, gC e3, c, _, rfl, .inl (SqL.of e4), iC (by show (0 : Int) < _; rw [List.length_map]; omega) (v := .int ((zn % ns.length : Nat) : Int)) (by rw [List.length_map]; exact congrArg V.int (mod_nat _ _)) ⟨c, _, _, _, rfl, rfl, SqL.of e4, atI_nat (sqT_at hlt), ?_⟩⟩⟩
        exact hnx _ _ ⟨rfl, _, rfl⟩
      · intro _
        exact ⟨rfl, _, rfl⟩
      · rintro σ H3 ⟨rfl, cell, rfl⟩
        have fin : ∀ (x : Nat) (r1 : Int) (H5 : Hp), x < m → 0 ≤ r1 → H5 p = some (.dK (penD c ((zn + 1 : Nat) : Int) r1)) → H5 c = some (.lst (ns.map V.int)) → SameBut p H H5 → Q (.int (x : Int)) H5 := fun x r1 H5 hx hr1 g1 g2 g3 => k x H5 hx g3 ⟨ns, _, r1, g1, g2, h4, by omega, by omega, hr1⟩
        have last : ∀ nn : Int, 0 ≤ nn → ∃ x : Nat, nn % (m : Int) = (x : Int) ∧ x < m := fun nn _ => modN hm1
        have big : ∀ {D : Prop}, D → D := fun h => h
        refine ⟨_, rfl, _, rfl, p, _, rfl, gC e3, c, _, rfl, .inl (SqL.of e4), _, _, rfl, rfl, _, rfl, ?_⟩
        refine andW (P := fun H4 => H4 = H3) (R := fun H4 => H4 = H3 ∧ (10 : Int) ^ Int.toNat 18 ≤ (if cell < 0 then -cell else cell)) (fun _ => rfl) ?_ ?_ ?_
        · intro _ Q5 q5 q6
          refine ⟨_, rfl, _, rfl, _, _, rfl, rfl, ⟨by decide, by decide, by decide⟩, _, _, rfl, rfl, _, rfl, ?_⟩
          by_cases c6 : (10 : Int) ^ Int.toNat 18 ≤ (if cell < 0 then -cell else cell)
          · rw [decide_eq_true c6]
            exact q6 _ ⟨rfl, c6⟩
          · rw [decide_eq_false c6]
            exact q5 _ rfl
        · rintro H4 rfl
          have md : ∀ (i : Int) (M : Int), 0 < M → ∃ n : Int, i % M = n ∧ 0 ≤ n ∧ n < M := fun i M h => ⟨_, rfl, Int.emod_nonneg i (by omega), Int.emod_lt_of_pos i h⟩
          obtain ⟨n1, hn1⟩ : ∃ n1 : Int, cell % 4294966769 * 41897 + 30011 * (zn : Int) * (zn : Int) = n1 := ⟨_, rfl⟩
          obtain ⟨n2, hn2, lo2, hi2⟩ := md (n1 + 587 * (zn : Int) + 17) 4294966703 (by decide)
          obtain ⟨n3, hn3, lo3, hi3⟩ := md (n2 * n2 + 47711 * n2 + 61 * (zn : Int) + 5) 4294966661 (by decide)
          obtain ⟨n4, hn4, lo4, hi4⟩ := md (n3 * n3 + 29101 * n3 + (zn : Int)) 4294966639 (by decide)
          obtain ⟨x, hx, hxm⟩ := modN (i := n4 * (n4 + 50261) % 4294966589 / 64) hm1
          refine ⟨_, rfl, .inl ⟨_, rfl, _, _, rfl, rfl, (show (0 : Int) < 4294966769 by decide), _, _, rfl, rfl, .inr ⟨by decide, by decide⟩, ?_⟩⟩
          refine ⟨_, rfl, _, _, rfl, rfl, .inl ⟨by decide, by decide⟩, _, rfl, _, _, rfl, rfl, .inr ⟨by omega, by omega⟩, i0 (v := .int n1) (congrArg V.int hn1) ?_⟩
          refine ⟨_, rfl, _, rfl, _, _, rfl, rfl, .inl ⟨by decide, by decide⟩, _, _, rfl, rfl, tcI (i0 rfl (.inl ⟨_, rfl, tcI (iC (by show (0 : Int) < _; decide) (v := .int n2) (congrArg V.int hn2) ?_)⟩))⟩
          refine ⟨_, rfl, _, rfl, _, _, rfl, rfl, .inl ⟨by omega, by omega⟩, _, rfl, _, _, rfl, rfl, .inl ⟨by decide, by decide⟩, _, _, rfl, rfl, _, rfl, _, _, rfl, rfl, .inl ⟨by decide, by decide⟩, _, _, rfl, rfl, tcI (i0 rfl (.inl ⟨_, rfl, tcI (iC (by show (0 : Int) < _; decide) (v := .int n3) (congrArg V.int hn3) ?_)⟩))⟩
          refine ⟨_, rfl, _, rfl, _, _, rfl, rfl, .inl ⟨by omega, by omega⟩, _, rfl, _, _, rfl, rfl, .inl ⟨by decide, by decide⟩, _, _, rfl, rfl, _, rfl, _, _, rfl, rfl, .inl ⟨_, rfl, tcI (iC (by show (0 : Int) < _; decide) (v := .int n4) (congrArg V.int hn4) ?_)⟩⟩
          refine ⟨_, rfl, _, rfl, tcI (i0 rfl (iC (.inl ⟨by omega, by omega⟩) rfl (.inl ⟨_, rfl, tcI (iC (by show (0 : Int) < _; decide) rfl (tcI (iC ⟨by decide, by decide⟩ rfl (.inl ⟨_, rfl, _, rfl, iC (by show (0 : Int) < _; omega) (v := .int (x : Int)) (congrArg V.int hx) ?_⟩))))⟩)))⟩
          exact fin x r _ hxm h7 e3 e4 sb2
        · rintro H4 ⟨rfl, c6⟩
          obtain ⟨g, hg⟩ : ∃ g : Int, (if cell < 0 then -cell else cell) - (10 : Int) ^ Int.toNat 18 = g := ⟨_, rfl⟩
          have hg0 : 0 ≤ g := by omega
          obtain ⟨x, hx, hxm⟩ := modN (i := g) hm1
          refine ⟨_, rfl, _, rfl, _, _, rfl, rfl, ⟨by decide, by decide, by decide⟩, i0 (v := .int g) (congrArg V.int hg) ⟨_, rfl, _, _, rfl, rfl, ⟨by omega, by omega⟩, _, rfl, p, _, rfl, DPut.k (k := Sum.inr "left") e3 (small1000 (by show 3 ≤ 1000; decide)), ?_⟩⟩
          rw [pen_putR]
          refine ⟨_, rfl, _, rfl, _, _, rfl, rfl, ⟨by decide, by decide, by decide⟩, i0 (v := .int g) (congrArg V.int hg) (.inl ⟨_, rfl, _, rfl, iC (by show (0 : Int) < _; omega) (v := .int (x : Int)) (congrArg V.int hx) ?_⟩)⟩
          exact fin x _ _ hxm (Int.ediv_nonneg hg0 (by omega)) upd_same (by rw [upd_ne npc]; exact e4) (fun b2 o hne e => by rw [upd_ne hne]; exact sb2 _ _ hne e)
end
end R4
set_option Elab.async false
set_option linter.all false
set_option maxRecDepth 100000
set_option maxHeartbeats 4000000
set_option pp.maxSteps 700
namespace R4
open PySem L2 PySem.GW LamX SM
section
variable {w : World} {K : PySem.W.Frag} {mg : Str → Option Value} {base : Heap}
theorem cr_or {X : Cx} {f : Value} {r1 r2 : List V → Hp → VK → Prop} (h1 : CallR X f r1) (h2 : CallR X f r2) : CallR X f (fun vs H Q => r1 vs H Q ∨ r2 vs H Q) := by
  intro pins s σ H vs us Q I r h
  rcases h with h | h
  · exact h1 pins s σ H vs us Q I r h
  · exact h2 pins s σ H vs us Q I r h
/-- texts in a list, or the signs of a text -/
def TxtsIn (K : PySem.W.Frag) (H : Hp) (v : V) (xs : List Str) : Prop := (∃ z : Str, v = .str z ∧ xs = SM.signs z) ∨ ∃ a, v = .ref a ∧ SqL K H a (xs.map V.str)
def spShuf (K : PySem.W.Frag) : Sp := fun vs H Q _ => ∃ (p c : Addr) (b : Nat) (v : V) (xs : List Str), vs = [.ref p, v] ∧ PenOk H p c b ∧ b ≤ 100000000 ∧ TxtsIn K H v xs ∧ xs.length ≤ 1000 ∧
  ∀ (a : Addr) (ys : List Str) (H' : Hp), ys.Perm xs → SameBut p H H' → PenOk H' p c (b + xs.length) → H a = none → H' a = some (.lst (ys.map V.str)) → Q (.ref a) H'
theorem seqIx {i n : Nat} (h : i < n) : seqIndex? (i : Int) n = some i := by
  unfold seqIndex?
  have h1 : ¬ ((i : Int) < 0) := by omega
  simp [h1, h]
theorem erase_map : ∀ (ls : List Str) (i : Nat), (ls.map V.str).eraseIdx i = (ls.eraseIdx i).map V.str
  | [], _ => rfl
  | x :: ls, 0 => rfl
  | x :: ls, i + 1 => by
    rw [List.map_cons, List.eraseIdx_cons_succ, List.eraseIdx_cons_succ, List.map_cons, erase_map ls i]
theorem erase_perm {ls : List Str} {i : Nat} {y : Str} (h : ls[i]? = some y) : (y :: ls.eraseIdx i).Perm ls := by
  induction ls generalizing i with
  | nil => simp at h
  | cons x ls ih =>
    cases i with
    | zero =>
      simp at h
      rw [h]
      exact List.Perm.refl _
    | succ i =>
      have := ih (i := i) (by simpa using h)
      rw [List.eraseIdx_cons_succ]
      exact (List.Perm.swap x y _).trans (this.cons x)
theorem ok__law_pick (T : Top K mg) : FnOk PW w K mg base CX0 2 (fa K "_law_pick") (fdOf K (fa K "_law_pick")) ["_law_pen", "_law_some"] (spPick K) := by
  refine T.F__law_pick.ok sc__law_pick (fun vs H Q E h => ?_) (fun cdv A outer s H vs Q E hr h => ?_)
  · obtain ⟨p, c, l, b, xs, rfl, _hT, _hb, _hS, _h1, _h2, _k⟩ := h
    rfl
  · obtain ⟨p, c, l, b, xs, rfl, hT, hb, hS, h1, h2, k⟩ := h
    have hu := hu_of hr
    refine ⟨_, (pss_one (ps_ret (pe_ix ix_list (pv 1) (pe_call (ok__law_draw T) (hr.mono (by decide)) rfl T.g__law_draw T.F__law_draw.kp T.b__law_draw .nil pass0 (pa_cons (pv 0) (pa_cons (pe_callB call_len_seq (by rfl) T.z_len (by decide +kernel) (pa_cons (pv 1) pa_nil)) pa_nil))) (fun _ _ => rfl)))), ?_⟩
    obtain ⟨kd, hd⟩ := hT.dict
    refine ⟨_, rfl, _, rfl, _, rfl, l, _, rfl, .inl hS, p, c, b, _, rfl, hT, hb, h1, by omega, fun x H1 hx s1 t1 => ?_⟩
    have e1 : xs[x]? = some (xs[x]'hx) := List.getElem?_eq_getElem hx
    exact ⟨l, _, _, _, rfl, rfl, s1.sqL hd hS, atI_nat e1, k _ _ _ e1 s1 t1⟩
theorem ok__law_shuffled (T : Top K mg) : FnOk PW w K mg base CX0 2 (fa K "_law_shuffled") (fdOf K (fa K "_law_shuffled")) ["_law_pen", "_law_some"] (spShuf K) := by
  refine T.F__law_shuffled.ok sc__law_shuffled (fun vs H Q E h => ?_) (fun cdv A outer s H vs Q E hr h => ?_)
  · obtain ⟨p, c, b, v, xs, rfl, _hT, _hb, _hv, _hl, _k⟩ := h
    rfl
  · obtain ⟨p, c, b, v, xs, rfl, hT, hb, hv, hl, k⟩ := h
    have hu := hu_of hr
    refine ⟨_, (pss_cons (ps_par (i := 2) (j := 3) (by rfl) sc__law_shuffled.nd rfl rfl (by decide) rfl rfl (pa_cons (pe_callTy (cr_or (cr_listStr rfl) call_list_of) (by rfl) T.z_list (by decide +kernel) (pa_cons (pv 1) pa_nil)) (pa_cons (pe_lst pa_nil) pa_nil)) (by rfl))
      (pss_cons (ps_while PassesOwn.never (pt_cmpR (op_neNil hr.units0) (pv 2) (pe_lst pa_nil) (nomark _)) (pss_one (ps_expr (pe_bm PySem.F.plainAttrs_list PySem.F.slot_list_append PySem.F.type_list_append mt_append (pv 3) (pa_cons (pe_bm PySem.F.plainAttrs_list PySem.F.slot_list_pop PySem.F.type_list_pop mt_popAt (pv 2) (pa_cons (pe_call (ok__law_draw T) (hr.mono (by decide)) rfl T.g__law_draw T.F__law_draw.kp T.b__law_draw .nil pass0 (pa_cons (pv 0) (pa_cons (pe_callB call_len_seq (by rfl) T.z_len (by decide +kernel) (pa_cons (pv 2) pa_nil)) pa_nil))) pa_nil)) pa_nil)))))
      (pss_one (ps_ret (pv 3))))), ?_⟩
    have start : ∀ R : V → Hp → Prop, (∀ l, H l = none → R (.ref l) (upd H l (.lst (xs.map V.str)))) → (fun vs H Q => rListStr vs H Q ∨ ∃ p ys, vs = [V.ref p] ∧ (SqL K H p ys ∨ SqT K H p ys) ∧ ∀ l, H l = none → Q (.ref l) (upd H l (.lst ys))) [v] H R := by
      intro R r
      rcases hv with ⟨z, rfl, rfl⟩ | ⟨a, rfl, hS⟩
      · exact .inl ⟨z, rfl, szS (by rw [signs_len] at hl; exact hl), r⟩
      · exact .inr ⟨a, _, rfl, .inl hS, r⟩
    refine ⟨_, rfl, start _ fun l hlf => ⟨Nat.zero_le _, fun f hff => ⟨_, _, rfl, ?_⟩⟩⟩
    have u1 := same_upd (o := .lst (xs.map V.str)) hlf
    have u2 := same_upd (o := .lst []) hff
    have hlH : (upd (upd H l (.lst (xs.map V.str))) f (.lst [])) l = some (.lst (xs.map V.str)) := u2 _ _ upd_same
    have hfH : (upd (upd H l (.lst (xs.map V.str))) f (.lst [])) f = some (.lst ([].map V.str)) := upd_same
    have s0 := u1.trans u2
    have hf0 : H f = none := fresh_back u1 hff
    have nlf : l ≠ f := fun e => by rw [← e, upd_same] at hff; cases hff
    obtain ⟨nlp, nlc⟩ := hT.ne hlf
    obtain ⟨nfp, nfc⟩ := hT.ne hf0
    have t0 := hT.same s0
    generalize upd (upd H l (.lst (xs.map V.str))) f (.lst []) = H0 at hlH hfH s0 t0 ⊢
    refine ⟨fun m σ H1 => ∃ (ls fs : List Str), σ = [some (.ref p), some v, some (.ref l), some (.ref f)] ∧ m = ls.length ∧ (ls ++ fs).Perm xs ∧ H1 l = some (.lst (ls.map V.str)) ∧ H1 f = some (.lst (fs.map V.str)) ∧ SameBut p H H1 ∧ PenOk H1 p c (b + fs.length), ⟨xs.length, xs, [], rfl, rfl, (by rw [List.append_nil]), hlH, hfH, Same.but p s0, t0⟩, ?_⟩
    rintro m σ H1 ⟨ls, fs, rfl, rfl, hpm, hl1, hf1, sb1, t1⟩
    have hlen : ls.length + fs.length = xs.length := by rw [← List.length_append]; exact hpm.length_eq
    refine ⟨_, rfl, Nat.zero_le _, fun q hq => ⟨l, q, _, rfl, rfl, SqL.of ((same_upd hq) _ _ hl1), SqL.of upd_same, _, rfl, ?_⟩⟩
    have u3 := same_upd (o := .lst []) hq
    have hl2 := u3 _ _ hl1
    have hf2 := u3 _ _ hf1
    have t2 := t1.same u3
    have sb2 : SameBut p H (upd H1 q (.lst [])) := fun b2 o hne e => u3 _ _ (sb1 _ _ hne e)
    generalize upd H1 q (.lst []) = H2 at hl2 hf2 t2 sb2 ⊢
    cases ls with
    | nil =>
      refine iteF ⟨_, rfl, ?_⟩
      exact k f fs H2 (by simpa using hpm) sb2 (t2.mono (by simp at hlen; omega)) hf0 hf2
    | cons y0 ls0 =>
      refine iteT ⟨fun σ' H' => ∃ m', m' < (y0 :: ls0).length ∧ ∃ (ls fs : List Str), σ' = [some (.ref p), some v, some (.ref l), some (.ref f)] ∧ m' = ls.length ∧ (ls ++ fs).Perm xs ∧ H' l = some (.lst (ls.map V.str)) ∧ H' f = some (.lst (fs.map V.str)) ∧ SameBut p H H' ∧ PenOk H' p c (b + fs.length), fun _ _ h => h, ?_⟩
      generalize hL : y0 :: ls0 = ls at hpm hl2 hlen ⊢
      have hl1' : 1 ≤ ls.length := by rw [← hL]; simp
      refine ⟨_, rfl, .inl ⟨rfl, _, SqL.of hf2⟩, _, rfl, .inl ⟨rfl, _, SqL.of hl2⟩, _, rfl, _, rfl, l, _, rfl, .inl (SqL.of hl2), p, c, b + fs.length, _, rfl, t2, by omega, (by rw [List.length_map]; exact hl1'), (by rw [List.length_map]; omega), fun x H3 hx s3 t3 => ?_⟩
      rw [List.length_map] at hx
      have hl3 := s3 _ _ nlp hl2
      have hf3 := s3 _ _ nfp hf2
      have ex : ls[x]? = some (ls[x]'hx) := List.getElem?_eq_getElem hx
      generalize ls[x]'hx = y at ex
      refine ⟨l, _, _, x, .str y, rfl, rfl, hl3, (by omega), (by omega), (by rw [List.length_map]; exact seqIx hx), (by rw [List.getElem?_map, ex]; rfl), ?_⟩
      have hf4 : (upd H3 l (.lst ((ls.map V.str).eraseIdx x))) f = some (.lst (fs.map V.str)) := by rw [upd_ne nlf.symm]; exact hf3
      refine ⟨f, _, _, rfl, rfl, hf4, (by rw [List.length_map, sizeLine_eq]; omega), ?_⟩
      have pe := erase_perm ex
      have hle : (ls.eraseIdx x).length + 1 = ls.length := by have := pe.length_eq; simpa using this
      refine ⟨(ls.eraseIdx x).length, by omega, ls.eraseIdx x, fs ++ [y], rfl, rfl, ?_, ?_, ?_, ?_, ?_⟩
      · have p1 : (ls.eraseIdx x ++ (fs ++ [y])).Perm ((y :: ls.eraseIdx x) ++ fs) := by
          rw [← List.append_assoc]
          exact (List.perm_append_singleton y _)
        exact p1.trans ((pe.append_right fs).trans hpm)
      · rw [upd_ne nlf, upd_same, erase_map]
      · rw [upd_same, List.map_append]; rfl
      · exact but_at hf0 (but_at hlf (sb2.trans s3))
      · have := (t3.updL (o := .lst ((ls.map V.str).eraseIdx x)) nlp nlc).updL (o := .lst (fs.map V.str ++ [V.str y])) nfp nfc
        rw [List.length_append]
        exact this
end
end R4
set_option Elab.async false
set_option linter.all false
set_option maxRecDepth 100000
set_option maxHeartbeats 4000000
/-! general: displays of odd values: what an expression makes, by a property that new objects do not touch -/
namespace R4
open PySem L2 PySem.GW LamX SM
abbrev Pr : Type := Hp → V → Prop
def Stab (P : Pr) : Prop := ∀ H H' v, Same H H' → P H v → P H' v
/-- an expression that makes a value with P and changes nothing that stands in H0 -/
def GV (H0 : Hp) (σ : L2.St) (te : TE) (P : Pr) : Prop := ∀ (H : Hp) (Q : VK), Same H0 H → (∀ v H', Same H H' → P H' v → Q v H') → te σ H Q
def Each (Ps : List Pr) (H : Hp) (vs : List V) : Prop := Paired (fun (P : Pr) v => P H v) Ps vs
structure GVs (H0 : Hp) (σ : L2.St) (ta : TA) (Ps : List Pr) : Prop where
  st : ∀ P ∈ Ps, Stab P
  run : ∀ (H : Hp) (Q : List V → Hp → Prop), Same H0 H → (∀ vs H', Same H H' → Each Ps H' vs → Q vs H') → ta σ H Q
def Is (x : V) : Pr := fun _ v => v = x
theorem stab_is {x : V} : Stab (Is x) := fun _ _ _ _ h => h
section
variable {H0 : Hp} {σ : L2.St}
theorem Each.same {Ps : List Pr} {H H' : Hp} {vs : List V} (st : ∀ P ∈ Ps, Stab P) (s : Same H H') (h : Each Ps H vs) : Each Ps H' vs := by
  unfold Each at h ⊢
  induction h with
  | nil => exact .nil
  | cons h _ ih => exact .cons (st _ List.mem_cons_self _ _ _ s h) (ih fun P hP => st P (List.mem_cons_of_mem _ hP))
theorem gvs_nil : GVs H0 σ tNil [] := ⟨(fun P h => nomatch h), fun H Q _ q => q [] H (Same.refl _) .nil⟩
theorem gvs_cons {te : TE} {ta : TA} {P : Pr} {Ps : List Pr} (h1 : GV H0 σ te P) (st : Stab P) (h2 : GVs H0 σ ta Ps) : GVs H0 σ (tCons te ta) (P :: Ps) :=
  ⟨fun P' h => (List.mem_cons.mp h).elim (fun e => e ▸ st) (h2.st P'), fun H Q s q => h1 H _ s fun v H1 s1 p1 => h2.run H1 _ (s.trans s1) fun vs H2 s2 p2 => q (v :: vs) H2 (s1.trans s2) (.cons (st _ _ _ s2 p1) p2)⟩
theorem gv_c {v : V} : GV H0 σ (tC v) (Is v) := fun H _ _ q => q v H (Same.refl _) rfl
theorem gv_var {v : V} {i : Nat} (h : σ[i]? = some (some v)) : GV H0 σ (tVar i) (Is v) := fun H _ _ q => ⟨v, h, q v H (Same.refl _) rfl⟩
theorem GV.imp {te : TE} {P P' : Pr} (h : GV H0 σ te P) (i : ∀ H v, P H v → P' H v) : GV H0 σ te P' := fun H Q s q => h H Q s fun v H' s' p => q v H' s' (i H' v p)
theorem gv_op {ta tb : TE} {r : R2} {x y v : V} (h1 : GV H0 σ ta (Is x)) (h2 : GV H0 σ tb (Is y)) (hr : ∀ (H : Hp) (Q : VK), Q v H → r x y H Q) : GV H0 σ (tOp r ta tb) (Is v) := fun H Q s q =>
  h1 H _ s fun u H1 s1 e1 => h2 H1 _ (s.trans s1) fun u' H2 s2 e2 => by
    cases e1
    cases e2
    exact hr H2 Q (q v H2 (s1.trans s2) rfl)
/-- a new tuple, list, dict -/
def NewT (H0 : Hp) (Ps : List Pr) : Pr := fun H v => ∃ p xs, v = .ref p ∧ H p = some (.tup xs) ∧ H0 p = none ∧ Each Ps H xs
def NewL (H0 : Hp) (Ps : List Pr) : Pr := fun H v => ∃ p xs, v = .ref p ∧ H p = some (.lst xs) ∧ H0 p = none ∧ Each Ps H xs
def NewD (H0 : Hp) (kvs : List (Key × V)) : Pr := fun H v => ∃ p, v = .ref p ∧ H p = some (.dK kvs) ∧ H0 p = none
theorem stab_T {Ps : List Pr} (st : ∀ P ∈ Ps, Stab P) : Stab (NewT H0 Ps) := fun H H' v s ⟨p, xs, e, h1, h2, h3⟩ => ⟨p, xs, e, s _ _ h1, h2, h3.same st s⟩
theorem stab_L {Ps : List Pr} (st : ∀ P ∈ Ps, Stab P) : Stab (NewL H0 Ps) := fun H H' v s ⟨p, xs, e, h1, h2, h3⟩ => ⟨p, xs, e, s _ _ h1, h2, h3.same st s⟩
theorem stab_D {kvs : List (Key × V)} : Stab (NewD H0 kvs) := fun H H' v s ⟨p, e, h1, h2⟩ => ⟨p, e, s _ _ h1, h2⟩
theorem Each.length {Ps : List Pr} {H : Hp} {vs : List V} (h : Each Ps H vs) : vs.length = Ps.length := (Paired.length h).symm
theorem gv_tup {ta : TA} {Ps : List Pr} (h : GVs H0 σ ta Ps) (hl : Ps.length ≤ 1000 := by first | decide | simp) : GV H0 σ (tTup ta) (NewT H0 Ps) := fun H Q s q =>
  h.run H _ s fun vs H1 s1 he => ⟨by rw [he.length, sizeLine_eq]; omega, fun p hp => q _ _ (s1.trans (same_upd hp)) ⟨p, vs, rfl, upd_same, fresh_back (s.trans s1) hp, he.same h.st (same_upd hp)⟩⟩
theorem gv_lst {ta : TA} {Ps : List Pr} (h : GVs H0 σ ta Ps) (hl : Ps.length ≤ 1000 := by first | decide | simp) : GV H0 σ (tLst ta) (NewL H0 Ps) := fun H Q s q =>
  h.run H _ s fun vs H1 s1 he => ⟨by rw [he.length, sizeLine_eq]; omega, fun p hp => q _ _ (s1.trans (same_upd hp)) ⟨p, vs, rfl, upd_same, fresh_back (s.trans s1) hp, he.same h.st (same_upd hp)⟩⟩
theorem gv_d0 : GV H0 σ tDNewK (NewD H0 []) := fun H Q s q p hp => q _ _ (same_upd hp) ⟨p, rfl, upd_same, fresh_back s hp⟩
theorem gv_d1 {tk tv : TE} {k : Key} {v : V} (h1 : GV H0 σ tk (Is (kV k))) (h2 : GV H0 σ tv (Is v)) : GV H0 σ (tDisp [(tk, tv)]) (NewD H0 [(k, v)]) := fun H Q s q p hp => by
  have s0 := same_upd (o := .dK []) hp
  refine h1 _ _ (s.trans s0) fun u H1 s1 e1 => h2 _ _ ((s.trans s0).trans s1) fun u' H2 s2 e2 => ?_
  cases e1
  cases e2
  refine ⟨s2 _ _ (s1 _ _ upd_same), [(k, v)], rfl, (by show 1 ≤ 15; decide), ?_⟩
  exact q _ _ (same_at hp (s0.trans (s1.trans s2))) ⟨p, rfl, upd_same, fresh_back s hp⟩
theorem gv_d2 {tk tv tk2 tv2 : TE} {k k2 : Key} {v v2 : V} (hne : k ≠ k2) (h1 : GV H0 σ tk (Is (kV k))) (h2 : GV H0 σ tv (Is v)) (h3 : GV H0 σ tk2 (Is (kV k2))) (h4 : GV H0 σ tv2 (Is v2)) : GV H0 σ (tDisp [(tk, tv), (tk2, tv2)]) (NewD H0 [(k, v), (k2, v2)]) := fun H Q s q p hp => by
  have s0 := same_upd (o := .dK []) hp
  refine h1 _ _ (s.trans s0) fun u H1 s1 e1 => h2 _ _ ((s.trans s0).trans s1) fun u' H2 s2 e2 => h3 _ _ (((s.trans s0).trans s1).trans s2) fun u3 H3 s3 e3 => h4 _ _ ((((s.trans s0).trans s1).trans s2).trans s3) fun u4 H4 s4 e4 => ?_
  cases e1
  cases e2
  cases e3
  cases e4
  refine ⟨s4 _ _ (s3 _ _ (s2 _ _ (s1 _ _ upd_same))), [(k, v), (k2, v2)], rfl, (by show 2 ≤ 15; decide), ?_⟩
  have e : mergeK [] [(k, v), (k2, v2)] = [(k, v), (k2, v2)] := by
    show putK (putK [] k v) k2 v2 = _
    have e1 : putK ([] : List (Key × V)) k v = [(k, v)] := rfl
    rw [e1]
    unfold putK
    rw [if_neg (by simp [hne])]
    rfl
  rw [e]
  exact q _ _ (same_at hp (s0.trans (s1.trans (s2.trans (s3.trans s4))))) ⟨p, rfl, upd_same, fresh_back s hp⟩
end
/-- the item of a display at i has the property that stands there -/
theorem Each.at {Ps : List Pr} {H : Hp} {vs : List V} {i : Nat} {v : V} (h : Each Ps H vs) (hv : vs[i]? = some v) : ∃ P, Ps[i]? = some P ∧ P H v := by
  unfold Each at h
  induction h generalizing i with
  | nil => simp at hv
  | cons h _ ih =>
    cases i with
    | zero =>
      simp at hv
      subst hv
      exact ⟨_, rfl, h⟩
    | succ i => exact ih (by simpa using hv)
theorem Each.all {P : Pr} : ∀ {n : Nat} {H : Hp} {vs : List V}, Each (List.replicate n P) H vs → ∀ v ∈ vs, P H v := fun {n H vs} h v hv => by
  obtain ⟨i, hi⟩ := List.getElem?_of_mem hv
  obtain ⟨P', h1, h2⟩ := h.at hi
  rw [List.getElem?_replicate] at h1
  split at h1
  · cases h1; exact h2
  · cases h1
theorem TyX.but {K : PySem.W.Frag} {H H' : Hp} {p : Addr} {v : V} {t : Value} (e : SameBut p H H') (hv : ∀ r, v = .ref r → r ≠ p) (h : TyX K H v t) : TyX K H' v t := by
  have g : ∀ {r : Addr} {o : HO}, v = .ref r → H r = some o → H' r = some o := fun e1 h1 => e _ _ (hv _ e1) h1
  cases h with
  | base b =>
    cases b with
    | non => exact .base .non
    | bl x => exact .base (.bl x)
    | int i => exact .base (.int i)
    | str x => exact .base (.str x)
    | flt x => exact .base (.flt x)
    | lst q => exact .base (.lst (g rfl q))
    | frz q => exact .base (.frz (g rfl q))
    | tup q => exact .base (.tup (g rfl q))
    | dK q => exact .base (.dK (g rfl q))
    | dT q => exact .base (.dT (g rfl q))
    | ins q cl ha hn htk hm => exact .base (.ins (g rfl q) cl ha hn htk hm)
  | byt b => exact .byt b
  | set q => exact .set (g rfl q)
  | kList q c => exact .kList q c
  | kTuple q c => exact .kTuple q c
  | kDict q c => exact .kDict q c
  | fTuple q => exact .fTuple (g rfl q)
  | fDict q => exact .fDict (g rfl q)
end R4
set_option Elab.async false
set_option linter.all false
set_option maxRecDepth 100000
set_option maxHeartbeats 4000000
set_option pp.maxSteps 700
namespace R4
open PySem L2 PySem.GW LamX SM
section
variable {w : World} {K : PySem.W.Frag} {mg : Str → Option Value} {base : Heap}
open UM
open PyProof.Rows (sortedS)
/-- what can be told as itself -/
def Tell (v : V) : Prop := flatB v = true ∨ ∃ r, v = .ref r
/-- odd values for a place with the property P, new since H0 -/
def Odd (H0 : Hp) (P : Pr) : Pr := fun H v => P H v ∧ Tell v ∧ ∀ r, v = .ref r → H0 r = none
theorem ColBad.same {H H' : Hp} {v : V} (e : Same H H') (h : ColBad K H v) : ColBad K H' v := h.imp (fun h => h.same e) id
theorem ColBad.but {H H' : Hp} {p : Addr} {v : V} (e : SameBut p H H') (hv : ∀ r, v = .ref r → r ≠ p) (h : ColBad K H v) : ColBad K H' v := h.imp (fun ⟨n, h1, h2⟩ => ⟨n, TyX.but e hv h1, h2⟩) id
theorem stab_col {H0 : Hp} : Stab (Odd H0 (ColBad K)) := fun H H' v s ⟨h1, h2⟩ => ⟨h1.same s, h2⟩
theorem odd_c {H0 : Hp} {P : Pr} {x : V} (h : ∀ H, P H x) (f : flatB x = true) : ∀ H v, Is x H v → Odd H0 P H v := fun H v e => by
  cases e
  exact ⟨h H, .inl f, fun r e => by rw [e] at f; cases f⟩
theorem odd_T {H0 : Hp} {P : Pr} {Ps : List Pr} (h : ∀ H p xs, H p = some (.tup xs) → P H (.ref p)) : ∀ H v, NewT H0 Ps H v → Odd H0 P H v := fun H v ⟨p, xs, e, h1, h2, h3⟩ => by
  cases e
  exact ⟨h H p xs h1, .inr ⟨p, rfl⟩, fun r e => by cases e; exact h2⟩
theorem odd_L {H0 : Hp} {P : Pr} {Ps : List Pr} (h : ∀ H p xs, H p = some (.lst xs) → P H (.ref p)) : ∀ H v, NewL H0 Ps H v → Odd H0 P H v := fun H v ⟨p, xs, e, h1, h2, h3⟩ => by
  cases e
  exact ⟨h H p xs h1, .inr ⟨p, rfl⟩, fun r e => by cases e; exact h2⟩
theorem odd_D {H0 : Hp} {P : Pr} {kvs : List (Key × V)} (h : ∀ H p, H p = some (.dK kvs) → P H (.ref p)) : ∀ H v, NewD H0 kvs H v → Odd H0 P H v := fun H v ⟨p, e, h1, h2⟩ => by
  cases e
  exact ⟨h H p h1, .inr ⟨p, rfl⟩, fun r e => by cases e; exact h2⟩
theorem each1 {P : Pr} {H : Hp} {vs : List V} (h : Each [P] H vs) : ∃ v, vs = [v] ∧ P H v := by
  unfold Each at h
  cases h with
  | cons h t =>
    cases t
    exact ⟨_, rfl, h⟩
def spStrange (K : PySem.W.Frag) : Sp := fun vs H Q _ => ∃ (p c : Addr) (b : Nat), vs = [.ref p] ∧ PenOk H p c b ∧ b ≤ 100000000 ∧ ∀ x H', SameBut p H H' → PenOk H' p c (b + 1) → Odd H (ColBad K) H' x → Q x H'
theorem cb_ty {H : Hp} {v : V} (n : String) (h : TyX K H v (.type n)) (h2 : kitB n "str" = some false := by decide +kernel) : ColBad K H v := .inl ⟨n, h, h2⟩
theorem cb_str {H : Hp} {z : Str} (h : (decide (z.length ≤ 1000) && !colB z) = true) : ColBad K H (.str z) := by
  simp only [Bool.and_eq_true, Bool.not_eq_true'] at h
  exact .inr ⟨z, rfl, of_decide_eq_true h.1, h.2⟩
theorem ok__law_strange (T : Top K mg) : FnOk PW w K mg base CX0 3 (fa K "_law_strange") (fdOf K (fa K "_law_strange")) ["_law_pen"] (spStrange K) := by
  refine T.F__law_strange.ok sc__law_strange (fun vs H Q E h => ?_) (fun cdv A outer s H vs Q E hr h => ?_)
  · obtain ⟨p, c, b, rfl, _hT, _hb, _k⟩ := h
    rfl
  · obtain ⟨p, c, b, rfl, hT, hb, k⟩ := h
    have hu := hu_of hr
    refine ⟨_, (pss_one (ps_ret (pe_call (ok__law_pick T) (hr.mono (by decide)) rfl T.g__law_pick T.F__law_pick.kp T.b__law_pick .nil pass0 (pa_cons (pv 0) (pa_cons (pe_lst (pa_cons pe_non (pa_cons pe_int (pa_cons pe_bl (pa_cons (pe_tup pa_nil) (pa_cons pe_dnewK (pa_cons (pe_lst pa_nil) (pa_cons pe_str (pa_cons pe_str (pa_cons pe_str (pa_cons pe_str (pa_cons pe_str (pa_cons pe_str (pa_cons (pe_tup (pa_cons pe_str pa_nil)) (pa_cons (pe_lst (pa_cons pe_str (pa_cons pe_non pa_nil))) (pa_cons (pe_disp (pps_cons pe_str pe_int pps_nil) (by rfl) (by rfl) (fun z => by cases z) (by decide)) pa_nil)))))))))))))))) pa_nil))))), ?_⟩
    refine ⟨_, rfl, ?_⟩
    refine (gvs_cons (gv_lst (H0 := H) (Ps := List.replicate 15 (Odd H (ColBad K))) (gvs_cons (gv_c.imp (odd_c (P := ColBad K) (fun H => cb_ty "NoneType" (.base .non)) rfl)) stab_col (gvs_cons (gv_c.imp (odd_c (P := ColBad K) (fun H => cb_ty "int" (.base (.int 0))) rfl)) stab_col (gvs_cons (gv_c.imp (odd_c (P := ColBad K) (fun H => cb_ty "bool" (.base (.bl true))) rfl)) stab_col (gvs_cons ((gv_tup gvs_nil).imp (odd_T (P := ColBad K) fun H p xs h => cb_ty "tuple" (.base (.tup h)))) stab_col (gvs_cons (gv_d0.imp (odd_D (P := ColBad K) fun H p h => cb_ty "dict" (.base (.dK h)))) stab_col (gvs_cons ((gv_lst gvs_nil).imp (odd_L (P := ColBad K) fun H p xs h => cb_ty "list" (.base (.lst h)))) stab_col (gvs_cons (gv_c.imp (odd_c (P := ColBad K) (fun H => cb_str (by decide +kernel)) rfl)) stab_col (gvs_cons (gv_c.imp (odd_c (P := ColBad K) (fun H => cb_str (by decide +kernel)) rfl)) stab_col (gvs_cons (gv_c.imp (odd_c (P := ColBad K) (fun H => cb_str (by decide +kernel)) rfl)) stab_col (gvs_cons (gv_c.imp (odd_c (P := ColBad K) (fun H => cb_str (by decide +kernel)) rfl)) stab_col (gvs_cons (gv_c.imp (odd_c (P := ColBad K) (fun H => cb_str (by decide +kernel)) rfl)) stab_col (gvs_cons (gv_c.imp (odd_c (P := ColBad K) (fun H => cb_str (by decide +kernel)) rfl)) stab_col (gvs_cons ((gv_tup (gvs_cons gv_c stab_is gvs_nil)).imp (odd_T (P := ColBad K) fun H p xs h => cb_ty "tuple" (.base (.tup h)))) stab_col (gvs_cons ((gv_lst (gvs_cons gv_c stab_is (gvs_cons gv_c stab_is gvs_nil))).imp (odd_L (P := ColBad K) fun H p xs h => cb_ty "list" (.base (.lst h)))) stab_col (gvs_cons ((gv_d1 (k := .inr "a") gv_c gv_c).imp (odd_D (P := ColBad K) fun H p h => cb_ty "dict" (.base (.dK h)))) stab_col gvs_nil)))))))))))))))) (stab_L (fun P hP => by rw [List.eq_of_mem_replicate hP]; exact stab_col)) gvs_nil).run H _ (Same.refl _) fun vs H1 s1 he => ?_
    obtain ⟨v, rfl, l, xs, rfl, hl, hl0, hx⟩ := each1 he
    have t1 := hT.same s1
    refine ⟨p, c, l, b, xs, rfl, t1, by omega, SqL.of hl, (by rw [hx.length, List.length_replicate]; decide), (by rw [hx.length, List.length_replicate]; decide), fun i x H2 hxi s2 t2 => ?_⟩
    obtain ⟨h1, h2, h3⟩ := hx.all x (List.mem_of_getElem? hxi)
    have sb : SameBut p H H2 := fun b o n e => s2 b o n (s1 b o e)
    refine k x H2 sb t2 ⟨h1.but s2 (fun r e => ?_), h2, h3⟩
    obtain ⟨kd, hd⟩ := hT.dict
    intro e2
    have := h3 r e
    rw [e2, hd] at this
    cases this
end
end R4
set_option Elab.async false
set_option linter.all false
set_option maxRecDepth 100000
set_option maxHeartbeats 4000000
/-! general: loops and comprehensions over anything that is walked in its order, by an invariant -/
namespace R4
open PySem L2 PySem.GW LamX SM
/-- J gives xs[i] at H -/
def Gat (J : It) (xs : List V) (i : Nat) (H : Hp) : Prop := (i < xs.length → J.go i H ∧ ∀ x H', J.yld i H x H' → H' = H ∧ xs[i]? = some x) ∧ (i = xs.length → J.stop i H)
theorem gat_str {z : Str} {i : Nat} {H : Hp} (hi : i ≤ ((SM.signs z).map V.str).length) : Gat (Its z) ((SM.signs z).map V.str) i H := gvs_str (H1 := H) i H hi (Same.refl _)
theorem gat_list {K : PySem.W.Frag} {a : Addr} {xs : List V} {i : Nat} {H : Hp} (hi : i ≤ xs.length) (h : SqL K H a xs) : Gat (Itl K a) xs i H := gvs_list h i H hi (Same.refl _)
theorem gat_tup {K : PySem.W.Frag} {a : Addr} {xs : List V} {i : Nat} {H : Hp} (hi : i ≤ xs.length) (h : SqT K H a xs) : Gat (Itt K a) xs i H := gvs_tup h i H hi (Same.refl _)
theorem gat_keys {d : Addr} {o : Obj} {kvs : List (Key × V)} {i : Nat} {H : Hp} (hi : i ≤ (kvs.map fun p => kV p.1).length) (h : H d = some (.frz o (.dK kvs))) : Gat (Itk d o kvs) (kvs.map fun p => kV p.1) i H := gvs_keys h i H hi (Same.refl _)
theorem lc_any {J : It} {xs : List V} {g : TG} {tt : TT} {te : TE} {vs : List Nat} {σ : L2.St} {H1 : Hp} {D : Addr} {Qd : Hp → Prop} (Pv : Nat → Hp → Prop) (h0 : Pv 0 (upd H1 D (.lst []))) (hj : ∀ i H, i ≤ xs.length → Pv i H → Gat J xs i H)
    (hs : ∀ i x H, xs[i]? = some x → Pv i H → g x (wipe σ vs) H fun σ2 H2 => wipe σ2 vs = wipe σ vs ∧ tt σ2 H2 fun b H3 =>
      if b = true then te σ2 H3 fun y H4 => ∃ acc, H4 D = some (.lst acc) ∧ acc.length < sizeLine ∧ Pv (i + 1) (upd H4 D (.lst (acc ++ [y]))) else Pv (i + 1) H3) (hd : ∀ H, Pv xs.length H → Qd H) :
    ∃ W : Nat → Nat → Hp → Prop, (∃ m, W 0 m (upd H1 D (.lst []))) ∧ ∀ i m H, W i m H →
      (J.stop i H ∧ Qd H) ∨ (J.go i H ∧ ∃ Nx : Hp → Prop, (∀ H', Nx H' → ∃ m', m' < m ∧ W (i + 1) m' H') ∧ ∀ x H', J.yld i H x H' → g x (wipe σ vs) H' fun σ2 H2 => wipe σ2 vs = wipe σ vs ∧ tt σ2 H2 fun b H3 =>
        if b = true then te σ2 H3 fun y H4 => ∃ acc, H4 D = some (.lst acc) ∧ acc.length < sizeLine ∧ Nx (upd H4 D (.lst (acc ++ [y]))) else Nx H3) := by
  refine ⟨fun i m H => m = xs.length - i ∧ i ≤ xs.length ∧ Pv i H, ⟨xs.length, by simp, Nat.zero_le _, h0⟩, ?_⟩
  rintro i m H ⟨rfl, hi, p⟩
  obtain ⟨q1, q2⟩ := hj i H hi p
  by_cases hlt : i < xs.length
  · obtain ⟨q3, q4⟩ := q1 hlt
    refine .inr ⟨q3, Pv (i + 1), fun H' p' => ⟨xs.length - (i + 1), by omega, rfl, hlt, p'⟩, fun x H' y => ?_⟩
    obtain ⟨e, hx⟩ := q4 x H' y
    subst e
    exact hs i x _ hx p
  · have e : i = xs.length := by omega
    subst e
    exact .inl ⟨q2 rfl, hd H p⟩
theorem for_any {J : It} {xs : List V} {g : TG} {tb : TS} {D : Ends} {σ : L2.St} {H : Hp} (Pv : Nat → L2.St → Hp → Prop) (h0 : Pv 0 σ H) (hj : ∀ i σ H, i ≤ xs.length → Pv i σ H → Gat J xs i H)
    (hs : ∀ i x σ H, xs[i]? = some x → Pv i σ H → g x σ H fun σ2 H2 => tb { D with nx := Pv (i + 1), ct := Pv (i + 1), bk := D.nx } σ2 H2) (hd : ∀ σ H, Pv xs.length σ H → D.nx σ H) :
    ∃ W : Nat → Nat → L2.St → Hp → Prop, (∃ m, W 0 m σ H) ∧ ∀ i m σ H, W i m σ H →
      (J.stop i H ∧ D.nx σ H) ∨ (J.go i H ∧ ∃ N : L2.St → Hp → Prop, (∀ σ' H', N σ' H' → ∃ m', m' < m ∧ W (i + 1) m' σ' H') ∧ ∀ x H', J.yld i H x H' → g x σ H' fun σ2 H2 => tb { D with nx := N, ct := N, bk := D.nx } σ2 H2) := by
  refine ⟨fun i m σ H => m = xs.length - i ∧ i ≤ xs.length ∧ Pv i σ H, ⟨xs.length, by simp, Nat.zero_le _, h0⟩, ?_⟩
  rintro i m σ H ⟨rfl, hi, p⟩
  obtain ⟨q1, q2⟩ := hj i σ H hi p
  by_cases hlt : i < xs.length
  · obtain ⟨q3, q4⟩ := q1 hlt
    refine .inr ⟨q3, Pv (i + 1), fun σ' H' p' => ⟨xs.length - (i + 1), by omega, rfl, hlt, p'⟩, fun x H' y => ?_⟩
    obtain ⟨e, hx⟩ := q4 x H' y
    subst e
    exact hs i x σ _ hx p
  · have e : i = xs.length := by omega
    subst e
    exact .inl ⟨q2 rfl, hd σ H p⟩
end R4
set_option Elab.async false
set_option linter.all false
set_option maxRecDepth 100000
set_option maxHeartbeats 4000000
set_option pp.maxSteps 700
namespace R4
open PySem L2 PySem.GW LamX SM
section
variable {w : World} {K : PySem.W.Frag} {mg : Str → Option Value} {base : Heap}
open UM
open PyProof.Rows (sortedS)
theorem PenOk.fresh {H H' : Hp} {p c D : Addr} {b : Nat} (h : PenOk H' p c b) (s : SameBut p H H') (hD : H' D = none) : H D = none := by
  obtain ⟨k, hk⟩ := h.dict
  exact but_fresh s hk hD
def PairC (c q : Str) : Prop := q.length = 2 ∧ hasB q c = true
theorem pairC_mk {c : Str} {i j x y : Nat} (hx : c.cps[i]? = some x) (hy : c.cps[j]? = some y) : PairC c ((⟨#[x]⟩ : Str) ++ ⟨#[y]⟩) := by
  refine ⟨rfl, ?_⟩
  have h1 : x ∈ c.cps.toList := List.mem_of_getElem? (i := i) (by rw [Array.getElem?_toList]; exact hx)
  have h2 : y ∈ c.cps.toList := List.mem_of_getElem? (i := j) (by rw [Array.getElem?_toList]; exact hy)
  show ([x, y].all fun x => decide (x ∈ c.cps.toList)) = true
  rw [List.all_cons, List.all_cons, decide_eq_true h1, decide_eq_true h2]
  rfl
theorem pairC_rev {c q : Str} (h : PairC c q) : PairC c ⟨q.cps.reverse⟩ := by
  obtain ⟨h1, h2⟩ := h
  refine ⟨?_, ?_⟩
  · show q.cps.reverse.size = 2
    rw [Array.size_reverse]
    exact h1
  · unfold hasB at h2 ⊢
    show (q.cps.reverse.toList.all fun x => decide (x ∈ c.cps.toList)) = true
    rw [Array.toList_reverse, List.all_reverse]
    exact h2
def spPairsOf (K : PySem.W.Frag) : Sp := fun vs H Q _ => ∃ (p c0 : Addr) (b : Nat) (c : Str), vs = [.ref p, .str c] ∧ PenOk H p c0 b ∧ b ≤ 10000000 ∧ c.length ≤ 4 ∧
  ∀ (a : Addr) (ps : List Str) (H' : Hp), (∀ q ∈ ps, PairC c q) → ps.length ≤ 32 → SameBut p H H' → PenOk H' p c0 (b + 100) → H a = none → H' a = some (.lst (ps.map V.str)) → Q (.ref a) H'
def spLetsOf (K : PySem.W.Frag) : Sp := fun vs H Q _ => ∃ (p c0 : Addr) (b : Nat) (c : Str), vs = [.ref p, .str c] ∧ PenOk H p c0 b ∧ b ≤ 10000000 ∧ c.length ≤ 4 ∧
  ∀ (a : Addr) (ls : List (Str × Str)) (H' : Hp), (ls.map (·.1)).Nodup → (∀ q ∈ ls, q.1 ∈ SM.signs "az.k" ∧ hasB q.2 c = true ∧ q.2.length ≤ 8) → ls.length ≤ 3 → SameBut p H H' → PenOk H' p c0 (b + 100) → H a = none → H' a = some (.dK (ls.map entK)) → Q (.ref a) H'
theorem decV (x k : Nat) : decide (V.int (x : Int) = V.int (k : Int)) = decide (x = k) := dec_int x k
theorem ok__law_pairs_of (T : Top K mg) : FnOk PW w K mg base CX0 3 (fa K "_law_pairs_of") (fdOf K (fa K "_law_pairs_of")) ["_law_pen", "_law_hues"] (spPairsOf K) := by
  refine T.F__law_pairs_of.ok sc__law_pairs_of (fun vs H Q E h => ?_) (fun cdv A outer s H vs Q E hr h => ?_)
  · obtain ⟨p, c0, b, c, rfl, _hT, _hb, _hcl, _k⟩ := h
    rfl
  · obtain ⟨p, c0, b, c, rfl, hT, hb, hcl, k⟩ := h
    have hu := hu_of hr
    refine ⟨_, (pss_cons (ps_set (i := 2) sc__law_pairs_of.nd rfl (Or.inl rfl) (pe_lst pa_nil))
      (pss_cons (ps_for PassesOwn.never rfl (pi_str (pv 1)) (pg_name (i := 3) sc__law_pairs_of.nd rfl (Or.inr rfl)) (pss_one (ps_set (i := 2) sc__law_pairs_of.nd rfl (Or.inl rfl) (pe_op op_cat (pv 2) (pe_lc (own := [("_law_other", 4)]) (g := gName 4) (by rfl) sc__law_pairs_of.nd (pi_str (pv 1)) (blkOk_by (own := [("_law_other", 4)]) (N := ["_law_pen", "_law_hues", "_law_found", "_law_one", "_law_other", "_law_pair"]) (sc := (defScope s__law_pairs_of)) (by decide +kernel)) (fun _ _ _ _ _ => (pg_name (i := 4) sc__law_pairs_of.nd rfl (Or.inl rfl))) (fun _ _ _ _ _ => (pts_one (pt_cmpR op_eq (pe_call (ok__law_draw T) (hr.mono (by decide)) rfl T.g__law_draw T.F__law_draw.kp T.b__law_draw .nil pass0 (pa_cons (pv 0) (pa_cons pe_int pa_nil))) pe_int (nomark _)))) (fun _ _ _ _ _ => (pe_op op_add_str (pv 3) (pv 4))))))))
      (pss_one (ps_ret (pe_call (ok__law_shuffled T) (hr.mono (by decide)) rfl T.g__law_shuffled T.F__law_shuffled.kp T.b__law_shuffled .nil pass0 (pa_cons (pv 0) (pa_cons (pe_op op_cat (pv 2) (pe_lc (own := [("_law_pair", 5)]) (g := gName 5) (by rfl) sc__law_pairs_of.nd (pi_list (pv 2)) (blkOk_by (own := [("_law_pair", 5)]) (N := ["_law_pen", "_law_hues", "_law_found", "_law_one", "_law_other", "_law_pair"]) (sc := (defScope s__law_pairs_of)) (by decide +kernel)) (fun _ _ _ _ _ => (pg_name (i := 5) sc__law_pairs_of.nd rfl (Or.inl rfl))) (fun _ _ _ _ _ => (pts_one (pt_cmpR op_eq (pe_call (ok__law_draw T) (hr.mono (by decide)) rfl T.g__law_draw T.F__law_draw.kp T.b__law_draw .nil pass0 (pa_cons (pv 0) (pa_cons pe_int pa_nil))) pe_int (nomark _)))) (fun _ _ _ _ _ => (pe_revS (pv 5))))) pa_nil))))))), ?_⟩
    have hsl : ((SM.signs c).map V.str).length = c.length := by rw [List.length_map, signs_len]
    refine ⟨Nat.zero_le _, fun f0 hf0 => ?_⟩
    have u0 := same_upd (o := .lst []) hf0
    refine ⟨_, rfl, c, rfl, for_any (xs := (SM.signs c).map V.str) (fun i σ H1 => SameBut p H H1 ∧ PenOk H1 p c0 (b + i * 4) ∧ ∃ (f : Addr) (fs : List Str) (o3 : Option V), σ = [some (.ref p), some (.str c), some (.ref f), o3, none, none] ∧ H1 f = some (.lst (fs.map V.str)) ∧ H f = none ∧ (∀ q ∈ fs, PairC c q) ∧ fs.length ≤ 4 * i)
      ⟨Same.but p u0, (hT.same u0).mono (by omega), f0, [], _, rfl, upd_same, hf0, (fun q hq => nomatch hq), Nat.zero_le _⟩ (fun i σ H1 hi _ => gat_str hi) ?_ ?_⟩
    · rintro i x σ H1 hx ⟨sb1, t1, f, fs, o3, rfl, hf1, hff, hfs, hfl⟩
      obtain ⟨ch, hch, rfl⟩ := signs_at hx
      have hi : i < c.length := by rw [← hsl]; exact (List.getElem?_eq_some_iff.mp hx).1
      obtain ⟨kd1, hd1⟩ := t1.dict
      obtain ⟨nfp, nfc⟩ := hT.ne hff
      refine ⟨_, rfl, _, rfl, c, rfl, fun D hD => ?_⟩
      obtain ⟨nDp, nDc⟩ := t1.ne hD
      have uD := same_upd (o := .lst []) hD
      refine lc_any (xs := (SM.signs c).map V.str) (fun j H2 => SameBut p H1 H2 ∧ PenOk H2 p c0 (b + i * 4 + j) ∧ ∃ gs : List Str, H2 D = some (.lst (gs.map V.str)) ∧ (∀ q ∈ gs, PairC c q) ∧ gs.length ≤ j) ⟨Same.but p uD, t1.same uD, [], upd_same, (fun q hq => nomatch hq), Nat.zero_le _⟩ (fun j H2 hj _ => gat_str hj) ?_ ?_
      · rintro j y H2 hy ⟨sb2, t2, gs, hg2, hgs, hgl⟩
        obtain ⟨dh, hdh, rfl⟩ := signs_at hy
        have hj : j < c.length := by rw [← hsl]; exact (List.getElem?_eq_some_iff.mp hy).1
        refine ⟨rfl, ?_⟩
        refine ⟨_, rfl, p, c0, b + i * 4 + j, 2, rfl, t2, by omega, by decide, by decide, fun x H3 hx3 s3 t3 => tcI ⟨rfl, _, rfl, ?_⟩⟩
        have hg3 := s3 _ _ nDp hg2
        by_cases cx : decide (V.int (x : Int) = V.int 0) = true
        · refine ifT cx ⟨_, rfl, _, rfl, _, _, rfl, rfl, (by rw [sizeLine_eq]; show 2 ≤ _; decide), ?_⟩
          refine ⟨_, hg3, (by rw [List.length_map, sizeLine_eq]; omega), but_at hD (sb2.trans s3), (t3.updL nDp nDc).mono (by omega), gs ++ [(⟨#[ch]⟩ : Str) ++ ⟨#[dh]⟩], (by rw [upd_same, List.map_append]; rfl), fun q hq => ?_, (by rw [List.length_append]; show gs.length + 1 ≤ _; omega)⟩
          rcases List.mem_append.mp hq with h | h
          · exact hgs q h
          · rw [List.mem_singleton.mp h]
            exact pairC_mk hch hdh
        · rw [Bool.eq_false_iff.mpr cx]
          exact iteF ⟨sb2.trans s3, t3.mono (by omega), gs, hg3, hgs, by omega⟩
      · rintro H2 ⟨sb2, t2, gs, hg2, hgs, hgl⟩
        rw [hsl] at t2 hgl
        have hf2 := sb2 _ _ nfp hf1
        refine ⟨f, D, _, _, rfl, rfl, hf2, hg2, (by rw [List.length_map, List.length_map, sizeLine_eq]; omega), fun g hg => ?_⟩
        have hgH : H g = none := t2.fresh (sb1.trans sb2) hg
        refine ⟨but_at hgH (sb1.trans sb2), ((t2.same (same_upd hg))).mono (by omega), g, fs ++ gs, _, rfl, (by rw [upd_same, List.map_append]), hgH, fun q hq => ?_, (by rw [List.length_append]; omega)⟩
        rcases List.mem_append.mp hq with h | h
        · exact hfs q h
        · exact hgs q h
    · rintro σ H1 ⟨sb1, t1, f, fs, o3, rfl, hf1, hff, hfs, hfl⟩
      rw [hsl] at t1 hfl
      obtain ⟨nfp, nfc⟩ := hT.ne hff
      refine ⟨_, rfl, _, rfl, _, rfl, f, rfl, ⟨_, SqL.of hf1⟩, fun D hD => ?_⟩
      obtain ⟨nDp, nDc⟩ := t1.ne hD
      have uD := same_upd (o := .lst []) hD
      refine lc_any (xs := fs.map V.str) (fun j H2 => SameBut p H1 H2 ∧ PenOk H2 p c0 (b + c.length * 4 + j) ∧ ∃ gs : List Str, H2 D = some (.lst (gs.map V.str)) ∧ (∀ q ∈ gs, PairC c q) ∧ gs.length ≤ j) ⟨Same.but p uD, t1.same uD, [], upd_same, (fun q hq => nomatch hq), Nat.zero_le _⟩ (fun j H2 hj ⟨sb2, _⟩ => gat_list hj (SqL.of (sb2 _ _ nfp hf1))) ?_ ?_
      · rintro j y H2 hy ⟨sb2, t2, gs, hg2, hgs, hgl⟩
        obtain ⟨pr, hpr, rfl⟩ := strs_at hy
        have hj : j < fs.length := (List.getElem?_eq_some_iff.mp hpr).1
        have hpc := hfs pr (List.mem_of_getElem? hpr)
        refine ⟨rfl, ?_⟩
        refine ⟨_, rfl, p, c0, _, 3, rfl, t2, by omega, by decide, by decide, fun x H3 hx3 s3 t3 => tcI ⟨rfl, _, rfl, ?_⟩⟩
        have hg3 := s3 _ _ nDp hg2
        by_cases cx : decide (V.int (x : Int) = V.int 0) = true
        · refine ifT cx ⟨_, rfl, pr, rfl, (by have := hpc.1; omega), ?_⟩
          refine ⟨_, hg3, (by rw [List.length_map, sizeLine_eq]; omega), but_at hD (sb2.trans s3), (t3.updL nDp nDc).mono (by omega), gs ++ [⟨pr.cps.reverse⟩], (by rw [upd_same, List.map_append]; rfl), fun q hq => ?_, (by rw [List.length_append]; show gs.length + 1 ≤ _; omega)⟩
          rcases List.mem_append.mp hq with h | h
          · exact hgs q h
          · rw [List.mem_singleton.mp h]
            exact pairC_rev hpc
        · rw [Bool.eq_false_iff.mpr cx]
          exact iteF ⟨sb2.trans s3, t3.mono (by omega), gs, hg3, hgs, by omega⟩
      · rintro H2 ⟨sb2, t2, gs, hg2, hgs, hgl⟩
        rw [List.length_map] at t2 hgl
        have hf2 := sb2 _ _ nfp hf1
        refine ⟨f, D, _, _, rfl, rfl, hf2, hg2, (by rw [List.length_map, List.length_map, sizeLine_eq]; omega), fun g hg => ?_⟩
        have ug := same_upd (o := .lst (fs.map V.str ++ gs.map V.str)) hg
        refine ⟨p, c0, _, _, fs ++ gs, rfl, t2.same ug, by omega, .inr ⟨g, rfl, SqL.of (by rw [upd_same, List.map_append])⟩, (by rw [List.length_append]; omega), fun a ys H3 hpm s3 t3 ha ha3 => ?_⟩
        have sb3 : SameBut p H H3 := sb1.trans (sb2.trans ((Same.but p ug).trans s3))
        refine k a ys H3 (fun q hq => ?_) (by rw [hpm.length_eq, List.length_append]; omega) sb3 (t3.mono (by rw [List.length_append]; omega)) ?_ ha3
        · rcases List.mem_append.mp (hpm.mem_iff.mp hq) with h | h
          · exact hfs q h
          · exact hgs q h
        · exact t2.fresh (sb1.trans sb2) (fresh_back ug ha)
theorem ok__law_letters_of (T : Top K mg) : FnOk PW w K mg base CX0 3 (fa K "_law_letters_of") (fdOf K (fa K "_law_letters_of")) ["_law_pen", "_law_hues"] (spLetsOf K) := by
  refine T.F__law_letters_of.ok sc__law_letters_of (fun vs H Q E h => ?_) (fun cdv A outer s H vs Q E hr h => ?_)
  · obtain ⟨p, c0, b, c, rfl, _hT, _hb, _hcl, _k⟩ := h
    rfl
  · obtain ⟨p, c0, b, c, rfl, hT, hb, hcl, k⟩ := h
    have hu := hu_of hr
    refine ⟨_, (pss_cons (ps_set (i := 2) sc__law_letters_of.nd rfl (Or.inl rfl) pe_dnewK)
      (pss_cons (ps_for PassesOwn.never rfl (pi_list (pe_slice sl_list (pe_call (ok__law_shuffled T) (hr.mono (by decide)) rfl T.g__law_shuffled T.F__law_shuffled.kp T.b__law_shuffled .nil pass0 (pa_cons (pv 0) (pa_cons pe_str pa_nil))) po_none (po_some (pe_call (ok__law_draw T) (hr.mono (by decide)) rfl T.g__law_draw T.F__law_draw.kp T.b__law_draw .nil pass0 (pa_cons (pv 0) (pa_cons pe_int pa_nil)))))) (pg_name (i := 3) sc__law_letters_of.nd rfl (Or.inl rfl)) (pss_one (ps_dput hu (pv 2) (pv 3) (pe_join pe_str (pe_lc (own := [("_law_one", 4)]) (g := gName 4) (by rfl) sc__law_letters_of.nd (pi_str (pe_op op_add_str (pv 1) (pe_revS (pv 1)))) (blkOk_by (own := [("_law_one", 4)]) (N := ["_law_pen", "_law_hues", "_law_found", "_law_sign", "_law_one"]) (sc := (defScope s__law_letters_of)) (by decide +kernel)) (fun _ _ _ _ _ => (pg_name (i := 4) sc__law_letters_of.nd rfl (Or.inl rfl))) (fun _ _ _ _ _ => (pts_one (pt_cmpR op_eq (pe_call (ok__law_draw T) (hr.mono (by decide)) rfl T.g__law_draw T.F__law_draw.kp T.b__law_draw .nil pass0 (pa_cons (pv 0) (pa_cons pe_int pa_nil))) pe_int (nomark _)))) (fun _ _ _ _ _ => (pv 4)))) rfl)))
      (pss_one (ps_ret (pv 2))))), ?_⟩
    intro d hd
    have ud := same_upd (o := .dK []) hd
    obtain ⟨ndp, ndc⟩ := hT.ne hd
    have hT1 := hT.same ud
    have hd1 : (upd H d (.dK [])) d = some (.dK (([] : List (Str × Str)).map entK)) := upd_same
    generalize upd H d (.dK []) = H1 at ud hT1 hd1 ⊢
    refine ⟨_, rfl, p, c0, b, _, SM.signs "az.k", rfl, hT1, by omega, .inl ⟨_, rfl, rfl⟩, (by decide +kernel), fun a ys H2 hpm s2 t2 ha ha2 => ?_⟩
    have hsn : (SM.signs "az.k").Nodup := by decide +kernel
    have hyn : ys.Nodup := hpm.nodup_iff.mpr hsn
    have hyl : ys.length = 4 := by rw [hpm.length_eq]; decide +kernel
    obtain ⟨nap, nac⟩ := hT1.ne ha
    refine noPart ⟨_, rfl, p, c0, _, 4, rfl, t2, (by show _ ≤ 1000000000; have e : (SM.signs "az.k").length = 4 := (by decide +kernel); omega), by decide, by decide, fun x H3 hx3 s3 t3 => ?_⟩
    refine ⟨_, rfl, a, _, rfl, SqL.of (s3 _ _ nap ha2), fun l hl => ⟨l, rfl, ?_⟩⟩
    rw [cutT]
    have ul := same_upd (o := .lst ((ys.map V.str).take x)) hl
    have hzl : (upd H3 l (.lst ((ys.map V.str).take x))) l = some (.lst ((ys.take x).map V.str)) := by rw [upd_same, List.map_take]
    have hd4 : (upd H3 l (.lst ((ys.map V.str).take x))) d = some (.dK (([] : List (Str × Str)).map entK)) := ul _ _ (s3 _ _ ndp (s2 _ _ ndp hd1))
    have t4 := (t3.same ul).mono (show _ ≤ b + 5 by have e : (SM.signs "az.k").length = 4 := (by decide +kernel); omega)
    have sb4 : SameBut p H (upd H3 l (.lst ((ys.map V.str).take x))) := (Same.but p ud).trans (s2.trans (s3.trans (Same.but p ul)))
    have nlp := (t3.ne hl).1
    have nlc := (t3.ne hl).2
    have nld : l ≠ d := fun e => by rw [e] at hl; rw [s3 _ _ ndp (s2 _ _ ndp hd1)] at hl; cases hl
    generalize upd H3 l (.lst ((ys.map V.str).take x)) = H4 at hzl hd4 t4 sb4 ⊢
    have hzn : (ys.take x).Nodup := List.Nodup.sublist (List.take_sublist _ _) hyn
    have hzm : ∀ z ∈ ys.take x, z ∈ SM.signs "az.k" := fun z hz => hpm.mem_iff.mp (List.mem_of_mem_take hz)
    have hzl3 : (ys.take x).length ≤ 3 := by rw [List.length_take]; omega
    generalize ys.take x = zs at hzl hzn hzm hzl3 ⊢
    refine ⟨⟨_, SqL.of hzl⟩, for_any (xs := zs.map V.str) (fun i σ H5 => SameBut p H H5 ∧ PenOk H5 p c0 (b + 5 + i * 10) ∧ H5 l = some (.lst (zs.map V.str)) ∧ ∃ (ls : List (Str × Str)) (o3 : Option V), σ = [some (.ref p), some (.str c), some (.ref d), o3, none] ∧ H5 d = some (.dK (ls.map entK)) ∧ ls.map (·.1) = zs.take i ∧ ∀ q ∈ ls, hasB q.2 c = true ∧ q.2.length ≤ 8)
      ⟨sb4, t4, hzl, [], _, rfl, hd4, by rw [List.take_zero]; rfl, fun q hq => nomatch hq⟩ (fun i σ H5 hi ⟨_, _, h, _⟩ => gat_list hi (SqL.of h)) ?_ ?_⟩
    · rintro i y σ H5 hy ⟨sb5, t5, hl5, ls, o3, rfl, hd5, hkeys, hls⟩
      obtain ⟨sg, hsg, rfl⟩ := strs_at hy
      have hi : i < zs.length := (List.getElem?_eq_some_iff.mp hsg).1
      refine ⟨⟨_, rfl⟩, _, rfl, _, rfl, c, rfl, (by omega), _, _, rfl, rfl, (by rw [sizeLine_eq]; show c.length + c.cps.reverse.size ≤ _; rw [Array.size_reverse]; have : c.cps.size = c.length := rfl; omega), _, rfl, fun D hD => ?_⟩
      obtain ⟨nDp, nDc⟩ := t5.ne hD
      have uD := same_upd (o := .lst []) hD
      have hcc : (c ++ ⟨c.cps.reverse⟩ : Str).cps.toList = c.cps.toList ++ c.cps.toList.reverse := by
        show (c.cps ++ c.cps.reverse).toList = _
        rw [Array.toList_append, Array.toList_reverse]
      have hcl2 : ((SM.signs (c ++ ⟨c.cps.reverse⟩ : Str)).map V.str).length ≤ 8 := by
        rw [List.length_map, signs_len]
        show (c.cps ++ c.cps.reverse).size ≤ 8
        rw [Array.size_append, Array.size_reverse]
        have : c.cps.size = c.length := rfl
        omega
      refine lc_any (xs := (SM.signs (c ++ ⟨c.cps.reverse⟩ : Str)).map V.str) (fun j H6 => SameBut p H5 H6 ∧ PenOk H6 p c0 (b + 5 + i * 10 + j) ∧ ∃ cs : List Nat, H6 D = some (.lst ((cs.map UM.sing).map V.str)) ∧ (∀ q ∈ cs, q ∈ c.cps.toList) ∧ cs.length ≤ j) ⟨Same.but p uD, t5.same uD, [], upd_same, (fun q hq => nomatch hq), Nat.zero_le _⟩ (fun j H6 hj _ => gat_str hj) ?_ ?_
      · rintro j y H6 hy6 ⟨sb6, t6, cs, hg6, hcs, hgl⟩
        have hj : j < 8 := Nat.lt_of_lt_of_le (List.getElem?_eq_some_iff.mp hy6).1 hcl2
        obtain ⟨dh, hdh, rfl⟩ := signs_at hy6
        have hdc : dh ∈ c.cps.toList := by
          have : dh ∈ (c ++ ⟨c.cps.reverse⟩ : Str).cps.toList := List.mem_of_getElem? (i := j) (by rw [Array.getElem?_toList]; exact hdh)
          rw [hcc] at this
          rcases List.mem_append.mp this with h | h
          · exact h
          · exact List.mem_reverse.mp h
        refine ⟨rfl, ?_⟩
        refine ⟨_, rfl, p, c0, _, 2, rfl, t6, by omega, by decide, by decide, fun x H7 hx7 s7 t7 => tcI ⟨rfl, _, rfl, ?_⟩⟩
        have hg7 := s7 _ _ nDp hg6
        by_cases cx : decide (V.int (x : Int) = V.int 0) = true
        · refine ifT cx ⟨_, rfl, ?_⟩
          refine ⟨_, hg7, (by rw [List.length_map, List.length_map, sizeLine_eq]; omega), but_at hD (sb6.trans s7), (t7.updL nDp nDc).mono (by omega), cs ++ [dh], (by rw [upd_same, List.map_append, List.map_append]; rfl), fun q hq => ?_, (by rw [List.length_append]; show cs.length + 1 ≤ _; omega)⟩
          rcases List.mem_append.mp hq with h | h
          · exact hcs q h
          · rw [List.mem_singleton.mp h]
            exact hdc
        · rw [Bool.eq_false_iff.mpr cx]
          exact iteF ⟨sb6.trans s7, t7.mono (by omega), cs, hg7, hcs, by omega⟩
      · rintro H6 ⟨sb6, t6, cs, hg6, hcs, hgl⟩
        have hcs8 : cs.length ≤ 8 := Nat.le_trans hgl hcl2
        refine ⟨_, D, cs.map UM.sing, rfl, rfl, .inl (SqL.of hg6), ?_, ?_⟩
        · have e1 : ∀ l : List Nat, ((l.map UM.sing).map (·.length)).sum = l.length := by
            intro l
            induction l with
            | nil => rfl
            | cons x l ih =>
              rw [List.map_cons, List.map_cons, List.sum_cons, ih, List.length_cons]
              show 1 + _ = _
              omega
          have e2 : ("" : Str).length = 0 := rfl
          rw [e1, e2]
          omega
        · rw [join_sing]
          have hd6 := sb6 _ _ ndp hd5
          refine ⟨_, rfl, _, rfl, d, _, rfl, DPut.k (k := Sum.inr sg) hd6 (small1000 (by rw [List.length_map]; have := congrArg List.length hkeys; rw [List.length_map, List.length_take] at this; omega)), ?_⟩
          have hnew : (Sum.inr sg : Key) ∉ (ls.map entK).map (·.1) := by
            rw [entK_keys, hkeys]
            intro h
            obtain ⟨s0, hs0, e⟩ := List.mem_map.mp h
            cases e
            have h1 := List.nodup_iff_pairwise_ne.mp hzn
            obtain ⟨i0, hi0, e0⟩ := List.mem_iff_getElem.mp hs0
            rw [List.getElem_take] at e0
            have hi00 : i0 < i := by rw [List.length_take] at hi0; omega
            have := (List.pairwise_iff_getElem.mp h1) i0 i (by omega) hi hi00
            obtain ⟨_, e1⟩ := List.getElem?_eq_some_iff.mp hsg
            exact this (e0.trans e1.symm)
          rw [putK_new hnew]
          have e9 : ls.map entK ++ [(Sum.inr sg, V.str ⟨cs.toArray⟩)] = (ls ++ [(sg, (⟨cs.toArray⟩ : Str))]).map entK := by rw [List.map_append]; rfl
          rw [e9]
          refine ⟨fun b2 o n2 e2 => ?_, ((t6.updL ndp ndc)).mono (by omega), ?_, ls ++ [(sg, ⟨cs.toArray⟩)], _, rfl, upd_same, ?_, fun q hq => ?_⟩
          · rw [upd_ne (fun e => by rw [e, hd] at e2; cases e2)]
            exact sb6 _ _ n2 (sb5 _ _ n2 e2)
          · rw [upd_ne nld]
            exact sb6 _ _ nlp hl5
          · rw [List.map_append, hkeys, take_at hsg]
            rfl
          · rcases List.mem_append.mp hq with h | h
            · exact hls q h
            · rw [List.mem_singleton.mp h]
              refine ⟨?_, ?_⟩
              · unfold hasB
                rw [List.all_eq_true]
                intro x hx
                have hx2 : x ∈ cs := by simpa using hx
                exact decide_eq_true (hcs x hx2)
              · show cs.toArray.size ≤ 8
                rw [List.size_toArray]
                exact hcs8
    · rintro σ H5 ⟨sb5, t5, hl5, ls, o3, rfl, hd5, hkeys, hls⟩
      rw [List.length_map, List.take_length] at hkeys
      have hll : ls.length ≤ 3 := by have := congrArg List.length hkeys; rw [List.length_map] at this; omega
      refine ⟨_, rfl, k d ls H5 (by rw [hkeys]; exact hzn) (fun q hq => ⟨hzm _ (by rw [← hkeys]; exact List.mem_map_of_mem (f := fun x : Str × Str => x.1) hq), hls q hq⟩) hll sb5 (t5.mono (by rw [List.length_map]; omega)) hd hd5⟩
end
end R4
set_option Elab.async false
set_option linter.all false
set_option maxRecDepth 100000
set_option maxHeartbeats 4000000
/-! general: a new dict walked (it stays locked), comprehensions of pairs -/
namespace L2
open PySem PySem.Spec PyProof.Rows
/-- for k in d, d a dict that nothing writes any more -/
def iKeysN (td : TE) : TI := fun σ H R => td σ H fun x H1 => ∃ d kvs, x = .ref d ∧ H1 d = some (.dK kvs) ∧ ∀ o, R (Itk d o kvs) (upd H1 d (.frz o (.dK kvs)))
theorem pi_keysN {X : Cx} {tg e : Expr} {td : TE} (he : PE X e td) : PI X tg e (iKeysN td) := by
  refine ⟨fun pins s σ H R I h => ?_⟩
  refine thn (he.run pins s σ H _ I h) fun u s1 ⟨x, H1, I1, rx, d, kvs, ex, hd0, q⟩ => ?_
  subst ex
  obtain rfl : u = Value.ref d := rx
  obtain ⟨o, I2⟩ := I1.lock hd0 True.intro
  obtain ⟨hs, hgd, hx, es, ep, vs, hdt, hsz, kv, hm⟩ := I2.frzK upd_same
  refine iter_keys hs hgd hx hdt (pi_one (tk := s1.toks) I2 _ (turn_keys _ hdt) ⟨_, Heap.get?_push_size _ rfl, rfl, ?_⟩ (q o))
  rw [hsz] <;> rfl
end L2
namespace R4
open PySem L2 PySem.GW LamX SM
/-- tuples of a key and a value -/
abbrev PairAts (K : PySem.W.Frag) (H : Hp) : List Addr → List (Key × V) → Prop := Paired fun T kv => SqT K H T [kV kv.1, kv.2]
theorem PairAts.same {K : PySem.W.Frag} {H H' : Hp} {ts : List Addr} {kvs : List (Key × V)} (e : Same H H') (h : PairAts K H ts kvs) : PairAts K H' ts kvs := Paired.mapP h fun _ _ h => Same.seqT e h
/-- [(k(x), v(x)) for x in ..] -/
theorem lc_pairs {K : PySem.W.Frag} {J : It} {xs : List V} {j : Nat} {te : TE} {vs : List Nat} {σ : L2.St} {H1 : Hp} {D : Addr} {Qd : Hp → Prop} (f : V → Key × V) (hD : H1 D = none) (hl : xs.length ≤ 100000) (hj : Gvs J xs H1)
    (hw : ∀ v : V, wipe ((wipe σ vs).set j (some v)) vs = wipe σ vs)
    (hs : ∀ (i : Nat) (x : V) (H : Hp) (R : V → Hp → Prop), xs[i]? = some x → Same H1 H → (∀ T H', Same H H' → H' T = some (.tup [kV (f x).1, (f x).2]) → R (.ref T) H') → te ((wipe σ vs).set j (some x)) H R)
    (hd : ∀ H ts, Same H1 H → H D = some (.lst (ts.map V.ref)) → PairAts K H ts (xs.map f) → Qd H) :
    ∃ W : Nat → Nat → Hp → Prop, (∃ m, W 0 m (upd H1 D (.lst []))) ∧ ∀ i m H, W i m H →
      (J.stop i H ∧ Qd H) ∨ (J.go i H ∧ ∃ Nx : Hp → Prop, (∀ H', Nx H' → ∃ m', m' < m ∧ W (i + 1) m' H') ∧ ∀ x H', J.yld i H x H' → gName j x (wipe σ vs) H' fun σ2 H2 => wipe σ2 vs = wipe σ vs ∧ tYes σ2 H2 fun b H3 =>
        if b = true then te σ2 H3 fun y H4 => ∃ acc, H4 D = some (.lst acc) ∧ acc.length < sizeLine ∧ Nx (upd H4 D (.lst (acc ++ [y]))) else Nx H3) := by
  refine ⟨fun i m H => m = xs.length - i ∧ i ≤ xs.length ∧ Same H1 H ∧ ∃ ts : List Addr, H D = some (.lst (ts.map V.ref)) ∧ PairAts K H ts ((xs.take i).map f), ⟨xs.length, by simp, Nat.zero_le _, same_upd hD, [], upd_same, .nil⟩, ?_⟩
  rintro i m H ⟨rfl, hi, sm, ts, hDi, hts⟩
  obtain ⟨q1, q2⟩ := hj i H hi sm
  by_cases hlt : i < xs.length
  · obtain ⟨q3, q4⟩ := q1 hlt
    refine .inr ⟨q3, fun H' => i + 1 ≤ xs.length ∧ Same H1 H' ∧ ∃ ts : List Addr, H' D = some (.lst (ts.map V.ref)) ∧ PairAts K H' ts ((xs.take (i + 1)).map f), fun H' p' => ⟨xs.length - (i + 1), by omega, rfl, p'⟩, fun x H' y => ?_⟩
    obtain ⟨e, hx⟩ := q4 x H' y
    subst e
    have htl : ts.length = i := by
      have := Paired.length hts
      rw [List.length_map, List.length_take] at this
      omega
    refine ⟨hw x, ?_⟩
    refine (hs i x H' _ hx sm fun T H4 s4 hT => ⟨_, s4 _ _ hDi, ?_, hlt, same_at hD (sm.trans s4), ts ++ [T], ?_, ?_⟩)
    · rw [List.length_map, sizeLine_eq]; omega
    · rw [upd_same, List.map_append]; rfl
    · rw [take_at hx, List.map_append]
      exact Paired.append (Paired.mapP hts fun _ _ h => sqT_upd (s4 _ _ hDi) (Same.seqT s4 h)) (sqT_upd (s4 _ _ hDi) (SqT.of hT))
  · have e : i = xs.length := by omega
    subst e
    rw [List.take_length] at hts
    exact .inl ⟨q2 rfl, hd H ts sm hDi hts⟩
end R4
set_option Elab.async false
set_option linter.all false
set_option maxRecDepth 100000
set_option maxHeartbeats 4000000
set_option pp.maxSteps 700
namespace R4
open PySem L2 PySem.GW LamX SM
section
variable {w : World} {K : PySem.W.Frag} {mg : Str → Option Value} {base : Heap}
open UM
open PyProof.Rows (sortedS)
abbrev rSortD : List V → Hp → VK → Prop := fun xs H Q => ∃ (a : Addr) (kvs : List (Key × V)) (ks : List Str), xs = [.ref a] ∧ Rd H a (.dK kvs) ∧ kvs.map (·.1) = ks.map Sum.inr ∧ ks.length < 64 ∧ ∀ ys p, ys.Perm ks → sortedS ys = true → H p = none → Q (.ref p) (upd H p (.lst (ys.map V.str)))
abbrev rDictP (K : PySem.W.Frag) : List V → Hp → VK → Prop := fun xs H Q => ∃ (a : Addr) (ps : List Addr) (kvs : List (Key × V)), xs = [.ref a] ∧ SqL K H a (ps.map V.ref) ∧ Paired (fun p kv => SqT K H p [kV kv.1, kv.2]) ps kvs ∧ ∀ p, H p = none → Q (.ref p) (upd H p (.dK (mergeK [] kvs)))
def spIsRule (K : PySem.W.Frag) : Sp := fun vs H Q _ => ∃ (m pa sa : Addr) (H0 : Hp) (c : Str) (ps : List Str) (ls : List (Str × Str)), vs = [.ref m, .str c, .ref pa, .ref sa] ∧ RuleAt K H0 H m c ps ls ∧ c.length ≤ 4 ∧ H pa = some (.lst (ps.map V.str)) ∧ (∀ q ∈ ps, PairC c q) ∧ ps.length ≤ 32 ∧ (∀ x ∈ ps.map sortS, PyData.canLay0 (.str x) = true) ∧
  H sa = some (.dK (ls.map entK)) ∧ (ls.map (·.1)).Nodup ∧ ls.length ≤ 3 ∧ (∀ q ∈ ls, q.2.length ≤ 8) ∧ ∀ H', Same H H' → Q (.bl true) H'
theorem ok__law_is_rule (T : Top K mg) : FnOk PW w K mg base CX0 1 (fa K "_law_is_rule") (fdOf K (fa K "_law_is_rule")) ["_law_made", "_law_hues", "_law_pairs", "_law_signs"] (spIsRule K) := by
  refine T.F__law_is_rule.ok sc__law_is_rule (fun vs H Q E h => ?_) (fun cdv A outer s H vs Q E hr h => ?_)
  · obtain ⟨m, pa, sa, H0, c, ps, ls, rfl, _hR, _hcl, _hpa, _hps, _hpl, _hcan, _hsa, _hnd, _hll, _hl8, _k⟩ := h
    rfl
  · obtain ⟨m, pa, sa, H0, c, ps, ls, rfl, hR, hcl, hpa, hps, hpl, hcan, hsa, hnd, hll, hl8, k⟩ := h
    have hu := hu_of hr
    refine ⟨_, (pss_cons (ps_set (i := 4) sc__law_is_rule.nd rfl (Or.inl rfl) (pe_callB cr_sortedS (by rfl) T.z_sorted (by decide +kernel) (pa_cons (pe_lc (own := [("_law_pair", 6)]) (g := gName 6) (by rfl) sc__law_is_rule.nd (pi_keysN (pe_callTy (call_dictP rfl) (by rfl) T.z_dict (by decide +kernel) (pa_cons (pe_lc (own := [("_law_pair", 6)]) (te := tTup (tCons (tM1 (rJoin K) (tC (.str "")) (tCB rSortStr (tCons (tVar 6) tNil))) (tCons (tC (.bl true)) tNil))) (g := gName 6) (by rfl) sc__law_is_rule.nd (pi_list (pv 2)) (blkOk_by (own := [("_law_pair", 6)]) (N := ["_law_made", "_law_hues", "_law_pairs", "_law_signs", "_law_due", "_law_told", "_law_pair", "_law_sign", "_law_one"]) (sc := (defScope s__law_is_rule)) (by decide +kernel)) (fun _ _ _ _ _ => (pg_name (i := 6) sc__law_is_rule.nd rfl (Or.inl rfl))) (fun _ _ _ _ _ => pts_nil) (fun _ _ _ _ _ => (pe_tup (pa_cons (pe_join pe_str (pe_callB (cr_sortStr rfl) (by rfl) T.z_sorted (by decide +kernel) (pa_cons (pv 6) pa_nil))) (pa_cons pe_bl pa_nil))))) pa_nil))) (blkOk_by (own := [("_law_pair", 6)]) (N := ["_law_made", "_law_hues", "_law_pairs", "_law_signs", "_law_due", "_law_told", "_law_pair", "_law_sign", "_law_one"]) (sc := (defScope s__law_is_rule)) (by decide +kernel)) (fun _ _ _ _ _ => (pg_name (i := 6) sc__law_is_rule.nd rfl (Or.inl rfl))) (fun _ _ _ _ _ => pts_nil) (fun _ _ _ _ _ => (pe_callTy SkE.call_str_str (by rfl) T.z_str (by decide +kernel) (pa_cons (pv 6) pa_nil)))) pa_nil)))
      (pss_cons (ps_set (i := 5) sc__law_is_rule.nd rfl (Or.inl rfl) (pe_callTy (call_dictP rfl) (by rfl) T.z_dict (by decide +kernel) (pa_cons (pe_lock (pe_lc (own := [("_law_sign", 7)]) (te := tTup (tCons (tVar 7) (tCons (tM1 (rJoin K) (tC (.str "")) (tCB rSortD (tCons (tCB (rDictP K) (tCons (tLc (iStr (tDGet (tVar 3) (tVar 7))) (gName 8) tYes (tTup (tCons (tVar 8) (tCons (tC (.bl true)) tNil))) [8]) tNil)) tNil))) tNil))) (g := gName 7) (by rfl) sc__law_is_rule.nd (pi_keys (pv 3)) (blkOk_by (own := [("_law_sign", 7)]) (N := ["_law_made", "_law_hues", "_law_pairs", "_law_signs", "_law_due", "_law_told", "_law_pair", "_law_sign", "_law_one"]) (sc := (defScope s__law_is_rule)) (by decide +kernel)) (fun _ _ _ _ _ => (pg_name (i := 7) sc__law_is_rule.nd rfl (Or.inl rfl))) (fun _ _ _ _ _ => pts_nil) (fun _ _ _ _ _ => (pe_tup (pa_cons (pv 7) (pa_cons (pe_join pe_str (pe_callB (call_sortedD rfl) (by rfl) T.z_sorted (by decide +kernel) (pa_cons (pe_callTy (call_dictP rfl) (by rfl) T.z_dict (by decide +kernel) (pa_cons (pe_lc (own := [("_law_one", 8)]) (te := tTup (tCons (tVar 8) (tCons (tC (.bl true)) tNil))) (g := gName 8) (by rfl) sc__law_is_rule.nd (pi_str (pe_dget hu (pv 3) (pv 7) (fun _ _ => rfl))) (blkOk_by (own := [("_law_one", 8)]) (by rfl)) (fun _ _ _ _ _ => (pg_name (i := 8) sc__law_is_rule.nd rfl (Or.inl rfl))) (fun _ _ _ _ _ => pts_nil) (fun _ _ _ _ _ => (pe_tup (pa_cons (pv 8) (pa_cons pe_bl pa_nil))))) pa_nil)) pa_nil))) pa_nil)))))) pa_nil)))
      (pss_one (ps_ret (pe_and (pe_cmpR op_eq (pe_fld (pv 0) rfl) (pe_join pe_str (pe_callB (cr_sortStr rfl) (by rfl) T.z_sorted (by decide +kernel) (pa_cons (pv 1) pa_nil))) (nomark _)) (pe_and (pe_cmpR (op_eqD hr.units) (pe_fld (pv 0) rfl) (pe_callTy call_tuple_of (by rfl) T.z_tuple (by decide +kernel) (pa_cons (pv 4) pa_nil)) (nomark _)) (pe_one (pe_cmpR (op_eq_dictA hr.units0) (pe_fld (pv 0) rfl) (pv 5) (nomark _))))))))), ?_⟩
    refine ⟨_, rfl, pa, rfl, ⟨_, SqL.of hpa⟩, fun D hD => ?_⟩
    refine lc_pairs (K := K) (fun v => (.inr (sortS (strOf v)), .bl true)) hD (by rw [List.length_map]; omega) (gvs_list (SqL.of hpa)) (fun v => rfl) (fun i x H2 R hx s2 r => ?_) fun H2 ts s2 hD2 hts => ?_
    · obtain ⟨pr, hpr, rfl⟩ := strs_at hx
      have h2 := (hps pr (List.mem_of_getElem? hpr)).1
      refine ⟨⟨_, rfl⟩, _, rfl, pr, rfl, szS (by omega), fun ys q hpm hst hqn => ⟨_, q, ys, rfl, rfl, .inl (SqL.of upd_same), join_len ys pr hpm (by omega), ?_⟩⟩
      rw [join_sorted hpm hst]
      exact ⟨Nat.le_of_ble_eq_true rfl, fun t ht => r t _ ((same_upd hqn).trans (same_upd ht)) upd_same⟩
    · obtain ⟨bs0, e0, nd0, mem0, len0⟩ := ded_strs (ps.map sortS)
      rw [List.length_map] at len0
      have ekeys : (mergeK [] ((ps.map V.str).map fun v => ((Sum.inr (sortS (strOf v)) : Key), V.bl true))).map (fun p => kV p.1) = bs0.map V.str := by
        have h1 := merge_keys ((ps.map V.str).map fun v => ((Sum.inr (sortS (strOf v)) : Key), V.bl true))
        have h2 : ((ps.map V.str).map fun v => ((Sum.inr (sortS (strOf v)) : Key), V.bl true)).map (·.1) = (ps.map sortS).map Sum.inr := by rw [List.map_map, List.map_map, List.map_map]; rfl
        rw [h2, e0] at h1
        rw [show (fun p : Key × V => kV p.1) = kV ∘ (fun x => x.1) from rfl, ← List.map_map, h1, List.map_map]
        rfl
      refine ⟨D, ts, _, rfl, SqL.of hD2, hts, fun d hd => ⟨d, _, rfl, upd_same, fun o D2 hD2' => ?_⟩⟩
      have u3 : Same H2 (upd (upd H2 d (.dK (mergeK [] ((ps.map V.str).map fun v => ((Sum.inr (sortS (strOf v)) : Key), V.bl true))))) d (.frz o (.dK (mergeK [] ((ps.map V.str).map fun v => ((Sum.inr (sortS (strOf v)) : Key), V.bl true)))))) := same_at hd (same_upd hd)
      refine lc_map (xs := bs0.map V.str) (fun v => v) hD2' (by rw [List.length_map]; omega) (by rw [← ekeys]; exact gvs_keys upd_same) (fun v => rfl) (fun i x H3 R hx s3 r => ?_) fun H3 s3 hD3 => ?_
      · obtain ⟨pr, hpr, rfl⟩ := strs_at hx
        exact ⟨_, rfl, pr, rfl, r _ (Same.refl _)⟩
      · rw [List.map_id'] at hD3
        have s4 : Same H H3 := s2.trans (u3.trans s3)
        refine ⟨D2, bs0, rfl, SqL.of hD3, by omega, fun due q hpm hst hq => ?_⟩
        have s5 := s4.trans (same_upd (o := .lst (due.map V.str)) hq)
        have hq5 : (upd H3 q (.lst (due.map V.str))) q = some (.lst (due.map V.str)) := upd_same
        generalize upd H3 q (.lst (due.map V.str)) = H5 at s5 hq5 ⊢
        have hsa5 := s5 _ _ hsa
        refine ⟨sa, _, hsa5, trivial, fun od => ?_⟩
        refine ⟨_, rfl, sa, od, rfl, .inl ⟨_, upd_same, fun D3 hD3 => ?_⟩⟩
        have e6 : ((ls.map entK).map fun p => kV p.1) = (ls.map (·.1)).map V.str := by rw [List.map_map, List.map_map]; rfl
        have nDs : D3 ≠ sa := fun e => by rw [e, upd_same] at hD3; cases hD3
        refine lc_pairs (K := K) (xs := (ls.map (·.1)).map V.str) (fun v => entK (strOf v, dsort (valS ls (strOf v)))) hD3 (by rw [List.length_map, List.length_map]; omega) (by rw [← e6]; exact gvs_keys upd_same) (fun v => rfl) (fun i x H6 R hx s6 r => ?_) fun H6 ts6 s6 hD6 hts6 => ?_
        · obtain ⟨sg, hsg, rfl⟩ := strs_at hx
          obtain ⟨g1, g2⟩ := valS_get hnd (List.mem_of_getElem? hsg)
          obtain ⟨pq, hpq, e1, e2⟩ := g2
          have hvl : (valS ls sg).length ≤ 8 := by rw [← e2]; exact hl8 pq hpq
          have hsa6 := s6 _ _ upd_same
          refine ⟨_, rfl, ⟨_, rfl⟩, _, rfl, _, rfl, sa, _, rfl, .inl ⟨_, .inr sg, .inr ⟨od, hsa6⟩, rfl, g1.symm⟩, _, rfl, fun D7 hD7 => ?_⟩
          refine lc_pairs (K := K) (fun v => (.inr (strOf v), .bl true)) hD7 (signs_le (by omega)) gvs_str (fun v => rfl) (fun i x H8 R hx s8 r => ?_) fun H8 ts8 s8 hD8 hts8 => ?_
          · obtain ⟨ch, hch, rfl⟩ := signs_at hx
            exact ⟨_, rfl, Nat.le_of_ble_eq_true rfl, fun t ht => r t _ (same_upd ht) upd_same⟩
          · obtain ⟨xs9, e9, nd9, mem9, len9⟩ := ded_strs (SM.signs (valS ls sg))
            have ek9 : (mergeK [] (((SM.signs (valS ls sg)).map V.str).map fun v => ((Sum.inr (strOf v) : Key), V.bl true))).map (·.1) = xs9.map Sum.inr := by
              rw [merge_keys, ← e9, List.map_map, List.map_map]
              rfl
            rw [signs_len] at len9
            refine ⟨D7, ts8, _, rfl, SqL.of hD8, hts8, fun d8 hd8 => ⟨d8, _, xs9, rfl, .inl upd_same, ek9, by omega, fun ys9 q9 hpm9 hst9 hq9 => ⟨_, q9, ys9, rfl, rfl, .inl (SqL.of upd_same), join_lenD hpm9 nd9 mem9 (by omega), ?_⟩⟩⟩
            rw [join_dsort hpm9 nd9 mem9 hst9]
            exact ⟨Nat.le_of_ble_eq_true rfl, fun t ht => r t _ (s8.trans ((same_upd hd8).trans ((same_upd hq9).trans (same_upd ht)))) upd_same⟩
        · have s7 := unlock_same hsa5 s6
          have hsa6 := s6 _ _ upd_same
          have hts7 : PairAts K (upd H6 sa (.dK (ls.map entK))) ts6 (((ls.map (·.1)).map V.str).map fun v => entK (strOf v, dsort (valS ls (strOf v)))) := Paired.mapP hts6 fun T kv h => by
            rcases h with (h | ⟨o', h⟩) | h
            · exact .inl (.inl (by rw [upd_ne (fun e => by rw [e, hsa6] at h; cases h)]; exact h))
            · exact .inl (.inr ⟨o', by rw [upd_ne (fun e => by rw [e, hsa6] at h; cases h)]; exact h⟩)
            · exact .inr h
          have e7 : (((ls.map (·.1)).map V.str).map fun v => entK (strOf v, dsort (valS ls (strOf v)))) = (sigL ls).map entK := by
            unfold sigL
            rw [List.map_map, List.map_map, List.map_map]
            refine List.map_congr_left fun q hq => ?_
            show entK (q.1, dsort (valS ls q.1)) = entK (q.1, dsort q.2)
            rw [valS_mem hnd hq]
          rw [e7] at hts7
          have nd7 : (((sigL ls).map entK).map (·.1)).Nodup := ent_nodup (by unfold sigL; rw [List.map_map]; exact hnd)
          refine ⟨hsa6, D3, ts6, _, rfl, SqL.of (by rw [upd_ne nDs]; exact hD6), hts7, fun d7 hd7 => ?_⟩
          rw [merge_nd nd7]
          have s8 := s5.trans (s7.trans (same_upd (o := .dK ((sigL ls).map entK)) hd7))
          have hd8 : (upd (upd H6 sa (.dK (ls.map entK))) d7 (.dK ((sigL ls).map entK))) d7 = some (.dK ((sigL ls).map entK)) := upd_same
          have hq8 : (upd (upd H6 sa (.dK (ls.map entK))) d7 (.dK ((sigL ls).map entK))) q = some (.lst (due.map V.str)) := (s7.trans (same_upd hd7)) _ _ hq5
          generalize upd (upd H6 sa (.dK (ls.map entK))) d7 (.dK ((sigL ls).map entK)) = H8 at s8 hd8 hq8 ⊢
          obtain ⟨dx, tb, d, bs, ks, g1, g2, g3, g4, g5, g6, g7, g8⟩ := hR.same s8
          refine ⟨_, rfl, m, _, dx, _, _, rfl, g1, T.cl_Rule, T.n_Rule_colours, rfl, ⟨_, rfl⟩, _, rfl, c, rfl, szS (by omega), fun ys9 q9 hpm9 hst9 hq9 => ⟨_, q9, ys9, rfl, rfl, .inl (SqL.of upd_same), join_len ys9 c hpm9 (by omega), ?_⟩⟩
          rw [join_sorted hpm9 hst9]
          refine ⟨rfl, _, rfl, ifT (decide_eq_true rfl) ?_⟩
          have u9 := same_upd (o := .lst (ys9.map V.str)) hq9
          have ebs : due = bs := sorted_set hst g3 (hpm.nodup_iff.mpr nd0) g4 fun x => (hpm.mem_iff).trans ((mem0 x).trans (g5 x).symm)
          refine ⟨_, rfl, m, _, dx, _, _, rfl, u9 _ _ g1, T.cl_Rule, T.n_Rule_beside, rfl, _, rfl, q, _, rfl, .inl ⟨SqL.of (u9 _ _ hq8), fun t ht => ?_⟩⟩
          have ut := same_upd (o := .tup (due.map V.str)) ht
          have hsh : SeqAt.shaped (.tuple (bs.map PyData.str)) = true := by
            obtain ⟨c1, c2⟩ := canStrs bs fun x hx => hcan x ((g5 x).mp hx)
            refine shaped_of c1 ?_
            show PyData.depthAll (bs.map PyData.str) + 1 ≤ 11
            rw [c2]
            decide
          refine eq_same (.tup (Same.seqT (u9.trans ut) g2) (dpStrs bs)) (.tup (SqT.of (by rw [upd_same, ebs])) (dpStrs bs)) hsh ⟨_, rfl, iteT ?_⟩
          refine ⟨_, rfl, m, _, dx, _, _, rfl, (u9.trans ut) _ _ g1, T.cl_Rule, T.n_Rule_letters, rfl, _, rfl, d, d7, _, _, rfl, rfl, (u9.trans ut) _ _ g7, (u9.trans ut) _ _ hd8, (by rw [List.length_map, List.length_map]; exact g8.length_eq), fun e he => ?_, k _ (s8.trans (u9.trans ut))⟩
          obtain ⟨e0', he0, rfl⟩ := List.mem_map.mp he
          exact ⟨valV_mem nd7 (List.mem_map_of_mem (f := entK) (g8.mem_iff.mp he0)), rfl⟩
end
end R4
set_option Elab.async false
set_option linter.all false
set_option maxRecDepth 100000
set_option maxHeartbeats 4000000
namespace R4
open PySem L2 PySem.GW LamX SM
def qL (x : Str) (sc : Scope) : Str := (PyProof.Rows.envOfC x sc 0 0 .none).qual ++ "<lambda>"
def TS (K : PySem.W.Frag) : List (Addr × Str) := [(tbA K (fa K "_law_refusals_right"), qL "_law_refusals_right" (defScope s__law_refusals_right))]
structure Tb (K : PySem.W.Frag) (mg : Str → Option Value) (base : Heap) : Prop where
  b : TabB base mg (cdA K (fa K "_law_refusals_right")) (tbA K (fa K "_law_refusals_right"))
theorem Tb.u {K : PySem.W.Frag} {mg : Str → Option Value} {base : Heap} (U : Tb K mg base) : ∀ p ∈ TS K, p.1 = tbA K (fa K "_law_refusals_right") → p.2 = qL "_law_refusals_right" (defScope s__law_refusals_right) := fun p hp e => by
  rw [List.mem_singleton.mp hp]
theorem Tb.m {K : PySem.W.Frag} : (tbA K (fa K "_law_refusals_right"), qL "_law_refusals_right" (defScope s__law_refusals_right)) ∈ TS K := List.mem_cons_self
/-- what _law_refused makes of the call's reading -/
def TRefused (K : PySem.W.Frag) : (XK → Hp → VK → Prop) → Hp → VK → Prop := fun tl H Q =>
  tl (fun cls d H' => cls = .ref (He.ga K "BadRule") ∧ ∃ dd v, d = some dd ∧ H' dd = some (.xd [("value", v)]) ∧ ∀ p, H' p = none → Q (.ref p) (upd H' p (.lst [v]))) H (fun _ H' => ([] : List V).length ≤ sizeLine ∧ ∀ p, H' p = none → Q (.ref p) (upd H' p (.lst [])))
theorem refused_gives {X : Cx} {g : Addr} {cdg : Value} {q : Str} (T : Top X.K X.mg) (hr : Room 2 X.A) :
    Gives X ["_law_call", "e"] "_law_refused" (defScope s__law_refused) g cdg (defBody s__law_refused) "_law_call" q (TRefused X.K) := by
  intro f c' s H Q tl act hc h
  refine ⟨_, pss_cons (ps_try_manyA (tb := fun W D σ H => ∃ Ech : XK, (∀ cls d H', Ech cls d H' → W cls d σ H') ∧ σ[0]? = some (some (.ref f)) ∧ H c' = some (CodeO c' q) ∧ tl Ech H (fun _ H' => D.nx σ H')) rfl rfl sc__law_refused.nd L2.takes0 (fun W pn xe tk _ => ?_)
      (HdsA.consAs (i := 1) rfl rfl ⟨rfl, by decide, .inl T.e_BadRule.g⟩ (fun a oe cls d pn hz hf => pss_one (ps_ret (pe_ifExp
        (PW.pt (pw_and (pt_val (pe_callB (call_isS T.e_BadRule.z hz hf) (by rfl) T.z_isinstance (by decide +kernel) (pa_cons (pv 1) (pa_cons (pe_glob (v := .ref (He.ga X.K "WebError")) rfl T.g_WebError rfl) pa_nil))))
          (pw_and1 (pt_val (pe_callB (call_isS T.e_BadRule.z hz hf) (by rfl) T.z_isinstance (by decide +kernel) (pa_cons (pv 1) (pa_cons (pe_bltn (v := .ty "ValueError") (by rfl) T.z_ValueError (by decide +kernel) rfl) pa_nil)))))))
        (pe_lst (pa_cons (pe_xf (ErrG.xf T.e_BadRule.r) (noAt T.e_BadRule.i 0 rfl) hz hf (pv 1)) pa_nil)) (pe_lst (pa_cons pe_str pa_nil))))) HdsA.nil))
    (pss_one (ps_ret (pe_lst pa_nil))), ?_⟩
  · refine ⟨fun pins s' σ H' D I h' => ?_⟩
    obtain ⟨Ech, hW, h1, h2, h3⟩ := h'
    exact (pss_one (ps_expr (act W pn xe Ech _ _ σ tk hW))).run pins s' σ H' D I ⟨rfl, h1, h2, h3⟩
  · refine ⟨_, fun cls d H' hE => ?_, rfl, hc, h⟩
    obtain ⟨rfl, dd, v, rfl, hd, k⟩ := hE
    have hx : ∀ d2 : Addr, some dd = some d2 → ∃ fs, H' d2 = some (.xd fs) := fun d2 e => ⟨_, by cases e; exact hd⟩
    refine ⟨true, T.x_BadRule_BadRule, fun _ a ha => ?_, fun z => absurd z.symm Bool.false_ne_true⟩
    refine ⟨_, rfl, ⟨rfl, hx, _, _, true, rfl, .own _, T.e_BadRule.kw, _, rfl, iteT ?_⟩⟩
    refine ⟨_, rfl, ⟨rfl, hx, _, _, true, rfl, .ty _, T.q_BadRule_ValueError, _, rfl, iteT ?_⟩⟩
    refine ⟨_, rfl, rfl, rfl, dd, _, v, rfl, hd, rfl, Nat.le_of_ble_eq_true rfl, fun p hp => k p hp⟩
/-- _law_refused(lambda: body) -/
theorem pe_refused {X : Cx} {c P : Addr} {k : Nat} {params : Arguments} {body : Expr} {scope : Scope} {t : XK → TE} {p lpos pos : Pos} {Ts : List (Addr × Str)} (T : Top X.K X.mg) (hg : Gl X "_law_refused")
    (TB : TabB X.base X.mg c P) (hcode : X.env.code = .ref c) (hmT : (P, X.env.qual ++ "<lambda>") ∈ Ts) (hu : ∀ p ∈ Ts, p.1 = P → p.2 = X.env.qual ++ "<lambda>") (hr : Room (k + 2) X.A) (L : LamS X.env.scope scope) (hdef : defaultsOf params X.env = ([], []))
    (hbind : ∀ (q : Str) (cl : List (Str × Addr)) (pm cv ctv : Value), bindArgs (PySem.W.kla_fn "<lambda>" q params body scope cl pm cv ctv) ⟨[], []⟩ = pure [])
    (hbody : ∀ (A : Around) (outer : List Env) (s : Shared) (H : Hp) (E : XK) (f c' : Addr), Room k (A.deeper (lamEnv X scope s.heap.objs.size f c')) → PE (lamCx X A outer s H E scope f c') body (t E)) :
    PE X (.Call (.Name "_law_refused" p) [.Lambda params body scope lpos] [] pos) (tLam Ts (TRefused X.K) t) := by
  obtain ⟨oc, od, kV, doc, pm, an, cdv, ct, osl, e, lk, hcd⟩ := T.F__law_refused.ex
  have hb := T.b__law_refused
  rw [e] at lk hb
  exact pe_lam hg T.g__law_refused T.F__law_refused.kp lk hcd hb sc__law_refused rfl (.inl rfl) (refused_gives T (hr.mono (by omega))) TB hcode hmT hu hr L hdef hbind hbody
end R4
set_option Elab.async false
set_option linter.all false
set_option maxRecDepth 100000
set_option maxHeartbeats 4000000
namespace R4
open PySem L2 PySem.GW LamX SM
section
variable {w : World} {K : PySem.W.Frag} {mg : Str → Option Value} {base : Heap}
theorem rule_b3 (T : Top K mg) : ∃ ds, Vals [.non] ds ∧ Binds K (fdOf K (ME_Rule K "__init__")) ["self", "colours", "beside", "letters"] ds :=
  T.D_Rule___init__.binds1 (ps := ["self", "colours", "beside", "letters"]) 3 0 (by simp) rfl (by
    intro T1 kV doc pm an cdv ct us its h1 h2
    match us, its, h1, h2 with
    | [_, _, _], [_], _, _ => exact ⟨_, rfl, rfl⟩)
theorem rule_b4 (T : Top K mg) : ∃ ds, Vals [] ds ∧ Binds K (fdOf K (ME_Rule K "__init__")) ["self", "colours", "beside", "letters"] ds :=
  T.D_Rule___init__.binds1 (ps := ["self", "colours", "beside", "letters"]) 4 1 (by simp) rfl (by
    intro T1 kV doc pm an cdv ct us its h1 h2
    match us, its, h1, h2 with
    | [_, _, _, _], [_], _, _ => exact ⟨_, rfl, rfl⟩)
theorem rule_k2 (T : Top K mg) : ∃ g : List Value → List Value → List Value, KBn K (fdOf K (ME_Rule K "__init__")) ["self", "colours", "beside", "letters"] 2 ["beside", "letters"] g (fun vs zs => vs ++ zs) := by
  obtain ⟨its, h⟩ := T.D_Rule___init__.kbindsD (ps := ["self", "colours", "beside", "letters"]) 2 ["beside", "letters"] (fun us _ ws => us ++ ws) (by simp) (fun r1 _ r3 => r1.append r3) (by
    intro T1 kV doc pm an cdv ct us its ws h1 h2 h3
    match us, its, ws, h1, h2, h3 with
    | [_, _], [_], [_, _], _, _, _ => exact ⟨_, rfl, rfl⟩)
  exact ⟨_, h⟩
theorem vals_take : ∀ {vs : List V} {us : List Value} (n : Nat), Vals vs us → Vals (vs.take n) (us.take n)
  | _, _, 0, _ => by rw [List.take_zero, List.take_zero]; exact .nil
  | _, _, n + 1, .nil => .nil
  | _, _, n + 1, .cons h t => .cons h (vals_take n t)
theorem rule_k3 (T : Top K mg) : ∃ g : List Value → List Value → List Value, KBn K (fdOf K (ME_Rule K "__init__")) ["self", "colours", "beside", "letters"] 1 ["beside", "letters", "colours"] g (fun vs zs => vs ++ (zs.drop 2 ++ zs.take 2)) := by
  obtain ⟨its, h⟩ := T.D_Rule___init__.kbindsD (ps := ["self", "colours", "beside", "letters"]) 1 ["beside", "letters", "colours"] (fun us _ ws => us ++ (ws.drop 2 ++ ws.take 2)) (by simp) (fun r1 _ r3 => r1.append ((r3.drop 2).append (vals_take 2 r3))) (by
    intro T1 kV doc pm an cdv ct us its ws h1 h2 h3
    match us, its, ws, h1, h2, h3 with
    | [_], [_], [_, _, _], _, _, _ => exact ⟨_, rfl, rfl⟩)
  exact ⟨_, h⟩
end
end R4
set_option Elab.async false
set_option linter.all false
set_option maxRecDepth 100000
set_option maxHeartbeats 4000000
set_option pp.maxSteps 700
namespace R4
open PySem L2 PySem.GW LamX SM
section
variable {w : World} {K : PySem.W.Frag} {mg : Str → Option Value} {base : Heap}
open UM
open PyProof.Rows (sortedS)
/-- what a value needs of the heap stays -/
def Stays (H H' : Hp) (v : V) : Prop := ∀ r o, v = .ref r → H r = some o → (∀ ps, o ≠ .tbl ps) → H' r = some o
theorem Stays.same {H H' : Hp} {v : V} (s : Same H H') : Stays H H' v := fun r o _ h _ => s r o h
theorem Stays.but {H H' : Hp} {p : Addr} {v : V} (s : SameBut p H H') (hv : ∀ r, v = .ref r → r ≠ p) : Stays H H' v := fun r o e h _ => s r o (hv r e) h
theorem Stays.ext {H H' : Hp} {v : V} (s : ExtN H H') : Stays H H' v := fun r o _ h t => s r o h t
theorem Stays.extB {H H' : Hp} {p : Addr} {v : V} (s : ExtB p H H') (hv : ∀ r, v = .ref r → r ≠ p) : Stays H H' v := fun r o e h t => s r o (hv r e) h t
theorem Stays.trans {H H1 H2 : Hp} {v : V} (a : Stays H H1 v) (b : Stays H1 H2 v) : Stays H H2 v := fun r o e h t => b r o e (a r o e h t) t
theorem TyX.stays {H H' : Hp} {v : V} {t : Value} (g : Stays H H' v) (h : TyX K H v t) : TyX K H' v t := by
  cases h with
  | base b =>
    cases b with
    | non => exact .base .non
    | bl x => exact .base (.bl x)
    | int i => exact .base (.int i)
    | str x => exact .base (.str x)
    | flt x => exact .base (.flt x)
    | lst q => exact .base (.lst (g _ _ rfl q fun _ e => nomatch e))
    | frz q => exact .base (.frz (g _ _ rfl q fun _ e => nomatch e))
    | tup q => exact .base (.tup (g _ _ rfl q fun _ e => nomatch e))
    | dK q => exact .base (.dK (g _ _ rfl q fun _ e => nomatch e))
    | dT q => exact .base (.dT (g _ _ rfl q fun _ e => nomatch e))
    | ins q cl ha hn htk hm => exact .base (.ins (g _ _ rfl q fun _ e => nomatch e) cl ha hn htk hm)
  | byt b => exact .byt b
  | set q => exact .set (g _ _ rfl q fun _ e => nomatch e)
  | kList q c => exact .kList q c
  | kTuple q c => exact .kTuple q c
  | kDict q c => exact .kDict q c
  | fTuple q => exact .fTuple (g _ _ rfl q fun _ e => nomatch e)
  | fDict q => exact .fDict (g _ _ rfl q fun _ e => nomatch e)
/-- a property of a value that needs no more than its own object -/
def Own (P : Pr) : Prop := ∀ H H' v, Stays H H' v → P H v → P H' v
theorem Own.stab {H0 : Hp} {P : Pr} (h : Own P) : Stab (Odd H0 P) := fun H H' v s ⟨h1, h2⟩ => ⟨h H H' v (Stays.same s) h1, h2⟩
theorem own_col : Own (ColBad K) := fun H H' v s h => h.imp (fun ⟨n, h1, h2⟩ => ⟨n, TyX.stays s h1, h2⟩) id
theorem own_seq : Own (NoSeq K) := fun H H' v s ⟨n, h1, h2⟩ => ⟨n, TyX.stays s h1, h2⟩
theorem own_pair {c : Str} : Own (fun H v => PairBad K H c v) := fun H H' v s h => h.imp (fun ⟨n, h1, h2⟩ => ⟨n, TyX.stays s h1, h2⟩) id
theorem own_let {c : Str} : Own (fun H v => LetBad K H c v) := fun H H' v s ⟨h0, h⟩ => ⟨h0, h.imp (fun ⟨n, h1, h2⟩ => ⟨n, TyX.stays s h1, h2⟩) fun ⟨d, kvs, e, h1, h2⟩ => ⟨d, kvs, e, s _ _ e h1 (fun _ e => nomatch e), h2⟩⟩
theorem noseq_ty {H : Hp} {v : V} (n : String) (h : TyX K H v (.type n)) (h2 : PySem.W.kitAny K (.type n) [.type "list", .type "tuple"] = some false) : NoSeq K H v := ⟨n, h, h2⟩
theorem kitA {n : String} (h1 : kitB n "list" = some false) (h2 : kitB n "tuple" = some false) : PySem.W.kitAny K (.type n) [.type "list", .type "tuple"] = some false := kitAny_cons (b := false) (kit_ty h1) (fun _ => kitAny_cons (b := false) (kit_ty h2) (fun _ => rfl) fun e => nomatch e) fun e => nomatch e
/-- the state of the refusals; vp: values that keep their properties -/
structure Pn (K : PySem.W.Frag) (p c0 pa : Addr) (b : Nat) (ps : List Str) (vp : List (Pr × V)) (H0 H : Hp) : Prop where
  pen : PenOk H p c0 b
  tab : Tabs (TS K) H
  prs : H pa = some (.lst (ps.map V.str))
  ext : ExtB p H0 H
  own : ∀ q ∈ vp, Own q.1 ∧ ∀ r, q.2 = .ref r → r ≠ p
  val : ∀ q ∈ vp, q.1 H q.2
section
variable {p c0 pa : Addr} {b b' : Nat} {ps : List Str} {vp : List (Pr × V)} {H0 H H' : Hp}
theorem Pn.same (h : Pn K p c0 pa b ps vp H0 H) (s : Same H H') : Pn K p c0 pa b ps vp H0 H' := ⟨h.pen.same s, h.tab.ext s, s _ _ h.prs, h.ext.trans (ExtB.same p s), h.own, fun q hq => (h.own q hq).1 _ _ _ (Stays.same s) (h.val q hq)⟩
theorem PenOk.extN {c : Addr} (e : ExtN H H') (h : PenOk H p c b) : PenOk H' p c b := by
  obtain ⟨ns, z, r, h1, h2, h3⟩ := h
  exact ⟨ns, z, r, e _ _ h1 (fun _ e => nomatch e), e _ _ h2 (fun _ e => nomatch e), h3⟩
theorem Pn.extN (h : Pn K p c0 pa b ps vp H0 H) (s : ExtN H H') (tb : Tabs (TS K) H') : Pn K p c0 pa b ps vp H0 H' := ⟨h.pen.extN s, tb, s _ _ h.prs (fun _ e => nomatch e), h.ext.trans (ExtB.ext p s), h.own, fun q hq => (h.own q hq).1 _ _ _ (Stays.ext s) (h.val q hq)⟩
theorem Pn.but (h : Pn K p c0 pa b ps vp H0 H) (s : SameBut p H H') (t : PenOk H' p c0 b') : Pn K p c0 pa b' ps vp H0 H' := by
  obtain ⟨k, hk⟩ := h.pen.dict
  exact ⟨t, Tabs.but h.tab s hk, s _ _ (fun e => by have q := h.prs; rw [e, hk] at q; cases q) h.prs, h.ext.trans (ExtB.but s), h.own, fun q hq => (h.own q hq).1 _ _ _ (Stays.but s (h.own q hq).2) (h.val q hq)⟩
theorem Pn.add (h : Pn K p c0 pa b ps vp H0 H) {P : Pr} {v : V} (o : Own P) (hv : P H v) (hr : ∀ r, v = .ref r → r ≠ p) : Pn K p c0 pa b ps ((P, v) :: vp) H0 H :=
  ⟨h.pen, h.tab, h.prs, h.ext, fun q hq => (List.mem_cons.mp hq).elim (fun e => e ▸ ⟨o, hr⟩) (h.own q), fun q hq => (List.mem_cons.mp hq).elim (fun e => e ▸ hv) (h.val q)⟩
theorem Pn.get (h : Pn K p c0 pa b ps vp H0 H) (i : Nat) {P : Pr} {v : V} (e : vp[i]? = some (P, v)) : P H v := h.val (P, v) (List.mem_of_getElem? e)
end
theorem new_same {H : Hp} {x dx : Addr} {o : HO} (hx : H x = none) (hdx : H dx = none) (hne : dx ≠ x) : Same H (upd (upd H dx (.own x)) x o) := (same_upd hdx).trans (same_upd (by rw [upd_ne hne.symm]; exact hx))
theorem Odd.ne {H H' : Hp} {p c0 : Addr} {b : Nat} {P : Pr} {v : V} (h : Odd H P H' v) (t : PenOk H p c0 b) : ∀ r, v = .ref r → r ≠ p := fun r e e2 => by
  obtain ⟨k, hk⟩ := t.dict
  have := h.2.2 r e
  rw [e2, hk] at this
  cases this
theorem tell1 {v : V} (h : Tell v) : ∀ u ∈ [v], flatB u = true ∨ ∃ r, u = .ref r := fun u hu => by rw [List.mem_singleton.mp hu]; exact h
theorem colB_let {c : Str} (h : colB c = true) : ∀ x ∈ c.cps.toList, x ∈ lets := fun x hx => by
  unfold colB at h
  simp only [Bool.and_eq_true] at h
  exact of_decide_eq_true (List.all_eq_true.mp h.2.2.1 x hx)
theorem str_bad {H : Hp} {c z : Str} (h : z.length ≤ 1000) (h2 : hasB z c = false ∨ z.length ≠ 2) : PairBad K H c (.str z) := .inr ⟨z, rfl, h, h2⟩
theorem no_str {H : Hp} {v : V} (n : String) (h : TyX K H v (.type n)) (h2 : kitB n "str" = some false := by decide +kernel) : NoStr K H v := ⟨n, h, h2⟩
theorem let_ty {H : Hp} {c : Str} {v : V} (n : String) (h0 : v ≠ .non) (h : TyX K H v (.type n)) (h2 : kitB n "dict" = some false := by decide +kernel) : LetBad K H c v := ⟨h0, .inl ⟨n, h, h2⟩⟩
theorem let_d {H : Hp} {c : Str} {p : Addr} {kvs : List (Key × V)} (h : H p = some (.dK kvs)) (hl : kvs.length ≤ 1000) (he : ∀ q ∈ kvs, EntV q) (ha : kvs.all (entB c) = false) : LetBad K H c (.ref p)   := ⟨(fun e => nomatch e), .inr ⟨p, kvs, rfl, h, hl, he, ha⟩⟩
def spRef (K : PySem.W.Frag) : Sp := fun vs H Q _ => ∃ (p c0 pa : Addr) (b : Nat) (c : Str) (ps : List Str) (sv : V), vs = [.ref p, .str c, .ref pa, sv] ∧ PenOk H p c0 b ∧ b ≤ 1000000 ∧ colB c = true ∧ c.length ≤ 4 ∧ 1 ≤ c.length ∧ H pa = some (.lst (ps.map V.str)) ∧ (∀ q ∈ ps, PairC c q) ∧ ps.length ≤ 32 ∧ Tabs (TS K) H ∧
  ∀ H', ExtB p H H' → PenOk H' p c0 (b + 10) → Tabs (TS K) H' → Q (.bl true) H'
theorem gw0 {H0 : Hp} {σ : L2.St} {c : Str} (hσ : σ[1]? = some (some (.str c))) (hcl : c.length ≤ 1000) (hA1 : hasB "A" c = false) : GV H0 σ (tDisp [(tC (.str ""), tVar 1)]) (Odd H0 (fun H v => LetBad K H c v)) := (gv_d1 (k := .inr "") gv_c (gv_var hσ)).imp (odd_D (P := fun H v => LetBad K H c v) fun H p h => let_d h (by show 1 ≤ 1000; decide) (fun q hq => by rw [List.mem_singleton.mp hq]; exact ⟨(fun s e => by cases Sum.inr.inj e; decide), .inr ⟨c, rfl, hcl⟩⟩) (by show (signB "" && hasB c c && true) = false; rw [show signB "" = false by decide +kernel]; rfl))
theorem gw1 {H0 : Hp} {σ : L2.St} {c : Str} (hσ : σ[1]? = some (some (.str c))) (hcl : c.length ≤ 1000) (hA1 : hasB "A" c = false) : GV H0 σ (tDisp [(tC (.str "aa"), tC (.str ""))]) (Odd H0 (fun H v => LetBad K H c v)) := (gv_d1 (k := .inr "aa") gv_c gv_c).imp (odd_D (P := fun H v => LetBad K H c v) fun H p h => let_d h (by show 1 ≤ 1000; decide) (fun q hq => by rw [List.mem_singleton.mp hq]; exact ⟨(fun s e => by cases Sum.inr.inj e; decide), .inr ⟨_, rfl, by decide⟩⟩) (by show (signB "aa" && hasB "" c && true) = false; rw [show signB "aa" = false by decide +kernel]; rfl))
theorem gw2 {H0 : Hp} {σ : L2.St} {c : Str} (hσ : σ[1]? = some (some (.str c))) (hcl : c.length ≤ 1000) (hA1 : hasB "A" c = false) : GV H0 σ (tDisp [(tC (.str "a"), tC .non)]) (Odd H0 (fun H v => LetBad K H c v)) := (gv_d1 (k := .inr "a") gv_c gv_c).imp (odd_D (P := fun H v => LetBad K H c v) fun H p h => let_d h (by show 1 ≤ 1000; decide) (fun q hq => by rw [List.mem_singleton.mp hq]; exact ⟨(fun s e => by cases Sum.inr.inj e; decide), .inl rfl⟩) (rfl))
theorem gw3 {H0 : Hp} {σ : L2.St} {c : Str} (hσ : σ[1]? = some (some (.str c))) (hcl : c.length ≤ 1000) (hA1 : hasB "A" c = false) : GV H0 σ (tDisp [(tC (.str "a"), tC (.str "A"))]) (Odd H0 (fun H v => LetBad K H c v)) := (gv_d1 (k := .inr "a") gv_c gv_c).imp (odd_D (P := fun H v => LetBad K H c v) fun H p h => let_d h (by show 1 ≤ 1000; decide) (fun q hq => by rw [List.mem_singleton.mp hq]; exact ⟨(fun s e => by cases Sum.inr.inj e; decide), .inr ⟨_, rfl, by decide⟩⟩) (by show (signB "a" && hasB "A" c && true) = false; rw [hA1]; rw [Bool.and_false]; rfl))
theorem gw4 {H0 : Hp} {σ : L2.St} {c : Str} (hσ : σ[1]? = some (some (.str c))) (hcl : c.length ≤ 1000) (hA1 : hasB "A" c = false) : GV H0 σ (tDisp [(tC (.int 1), tVar 1)]) (Odd H0 (fun H v => LetBad K H c v)) := (gv_d1 (k := .inl 1) gv_c (gv_var hσ)).imp (odd_D (P := fun H v => LetBad K H c v) fun H p h => let_d h (by show 1 ≤ 1000; decide) (fun q hq => by rw [List.mem_singleton.mp hq]; exact ⟨(fun s e => nomatch e), .inr ⟨c, rfl, hcl⟩⟩) (rfl))
theorem gw5 {H0 : Hp} {σ : L2.St} {c : Str} (hσ : σ[1]? = some (some (.str c))) (hcl : c.length ≤ 1000) (hA1 : hasB "A" c = false) : GV H0 σ (tLst tNil) (Odd H0 (fun H v => LetBad K H c v)) := (gv_lst gvs_nil).imp (odd_L (P := fun H v => LetBad K H c v) fun H p xs h => let_ty "list" (fun e => nomatch e) (.base (.lst h)))
theorem gw6 {H0 : Hp} {σ : L2.St} {c : Str} (hσ : σ[1]? = some (some (.str c))) (hcl : c.length ≤ 1000) (hA1 : hasB "A" c = false) : GV H0 σ (tC (.str "a")) (Odd H0 (fun H v => LetBad K H c v)) := gv_c.imp (odd_c (P := fun H v => LetBad K H c v) (fun H => let_ty "str" (fun e => nomatch e) (.base (.str _))) rfl)
theorem gw7 {H0 : Hp} {σ : L2.St} {c : Str} (hσ : σ[1]? = some (some (.str c))) (hcl : c.length ≤ 1000) (hA1 : hasB "A" c = false) : GV H0 σ (tC (.int 5)) (Odd H0 (fun H v => LetBad K H c v)) := gv_c.imp (odd_c (P := fun H v => LetBad K H c v) (fun H => let_ty "int" (fun e => nomatch e) (.base (.int _))) rfl)
theorem gw8 {H0 : Hp} {σ : L2.St} {c : Str} (hσ : σ[1]? = some (some (.str c))) (hcl : c.length ≤ 1000) (hA1 : hasB "A" c = false) : GV H0 σ (tDisp [(tC (.str "a"), tVar 1), (tC (.str "B"), tC (.str ""))]) (Odd H0 (fun H v => LetBad K H c v)) := (gv_d2 (k := .inr "a") (k2 := .inr "B") (by decide) gv_c (gv_var hσ) gv_c gv_c).imp (odd_D (P := fun H v => LetBad K H c v) fun H p h => let_d h (by show 2 ≤ 1000; decide) (fun q hq => by
        rcases List.mem_cons.mp hq with e | e
        · rw [e]; exact ⟨(fun s e => by cases Sum.inr.inj e; decide), .inr ⟨c, rfl, hcl⟩⟩
        · rw [List.mem_singleton.mp e]; exact ⟨(fun s e => by cases Sum.inr.inj e; decide), .inr ⟨_, rfl, by decide⟩⟩) (by show ((signB "a" && hasB c c) && ((signB "B" && hasB "" c) && true)) = false; rw [show signB "B" = false by decide +kernel]; rw [Bool.false_and, Bool.false_and, Bool.and_false]))
theorem ok__law_refusals_right (T : Top K mg) (U : Tb K mg base) : FnOkG PW w K mg base CX0 13 (fa K "_law_refusals_right") (fdOf K (fa K "_law_refusals_right")) ["_law_pen", "_law_hues", "_law_pairs", "_law_signs"] (spRef K) := by
  refine T.F__law_refusals_right.okG sc__law_refusals_right (fun vs H Q E h => ?_) (fun A outer s H vs Q E hgd hr h => ?_)
  · obtain ⟨p, c0, pa, b, c, ps, sv, rfl, _hT, _hb, _hcb, _hcl, _hc1, _hpa, _hps, _hpl, _hTab, _k⟩ := h
    rfl
  · obtain ⟨p, c0, pa, b, c, ps, sv, rfl, hT, hb, hcb, hcl, hc1, hpa, hps, hpl, hTab, k⟩ := h
    have hu := hu_of hr
    obtain ⟨ds3, hv3, hb3⟩ := rule_b3 T
    obtain ⟨ds4, hv4, hb4⟩ := rule_b4 T
    obtain ⟨gk2, hk2⟩ := rule_k2 T
    obtain ⟨gk3, hk3⟩ := rule_k3 T
    refine ⟨_, (pss_cons (ps_asg (pe_tup (pa_cons (pe_call (ok__law_strange T) (hr.mono (by decide)) rfl T.g__law_strange T.F__law_strange.kp T.b__law_strange .nil pass0 (pa_cons (pv 0) pa_nil)) (pa_cons (pe_call (ok__law_pick T) (hr.mono (by decide)) rfl T.g__law_pick T.F__law_pick.kp T.b__law_pick .nil pass0 (pa_cons (pv 0) (pa_cons (pe_lst (pa_cons pe_non (pa_cons pe_int (pa_cons pe_bl (pa_cons pe_dnewK (pa_cons pe_str (pa_cons pe_str (pa_cons (pe_disp (pps_cons pe_str pe_str pps_nil) (by rfl) (by rfl) (fun z => by cases z) (by decide)) pa_nil)))))))) pa_nil))) pa_nil))) (pg_tup (by rfl) (pgs_cons (pg_name (i := 4) sc__law_refusals_right.nd rfl (Or.inr rfl)) (pgs_cons (pg_name (i := 5) sc__law_refusals_right.nd rfl (Or.inr rfl)) pgs_nil))))
      (pss_cons (ps_if (PW.pt (pw_or (pt_cmpR (op_neSame hr.units0) (pe_refused (k := 10) (Ts := TS K) T rfl U.b rfl Tb.m U.u (hr.mono (by decide)) (lamS_by (show lamSB (defScope s__law_refusals_right) _ = true by decide +kernel)) rfl (fun _ _ _ _ _ => rfl) (fun A outer s H E f c2 hr2 => (pe_make T.mk_Rule (ok_Rule___init__ T) (hr2.mono (by decide)) (by rfl) T.g_Rule hb4 hv4 (passes_call (takes_of rfl rfl rfl rfl) (fun _ _ _ _ h => h)) (pa_cons (pv 4) (pa_cons pe_int (pa_cons pe_int pa_nil)))))) (pe_lst (pa_cons (pv 4) pa_nil)) (nomark _)) (pw_or1 (pt_cmpR (op_neSame hr.units0) (pe_refused (k := 10) (Ts := TS K) T rfl U.b rfl Tb.m U.u (hr.mono (by decide)) (lamS_by (show lamSB (defScope s__law_refusals_right) _ = true by decide +kernel)) rfl (fun _ _ _ _ _ => rfl) (fun A outer s H E f c2 hr2 => (pe_makeK T.mk_Rule (ok_Rule___init__ T) (hr2.mono (by decide)) (by rfl) T.g_Rule hk2 (passes_call (takes_of rfl rfl rfl rfl) (fun _ _ _ _ h => h)) (pa_cons (pv 1) pa_nil) (pk_cons (pv 5) (pk_cons pe_int pk_nil))))) (pe_lst (pa_cons (pv 5) pa_nil)) (nomark _))))) (pss_one (ps_ret pe_bl)) pss_nil)
      (pss_cons (ps_set (i := 6) sc__law_refusals_right.nd rfl (Or.inr rfl) (pe_call (ok__law_pick T) (hr.mono (by decide)) rfl T.g__law_pick T.F__law_pick.kp T.b__law_pick .nil pass0 (pa_cons (pv 0) (pa_cons (pe_lst (pa_cons pe_non (pa_cons pe_int (pa_cons (pe_ix ix_str (pv 1) pe_int (fun _ _ => rfl)) (pa_cons pe_str (pa_cons (pe_op op_mul_str (pe_ix ix_str (pv 1) pe_int (fun _ _ => rfl)) pe_int) (pa_cons (pe_op op_add_str pe_str (pe_ix ix_str (pv 1) pe_int (fun _ _ => rfl))) (pa_cons (pe_tup (pa_cons (pe_ix ix_str (pv 1) pe_int (fun _ _ => rfl)) (pa_cons (pe_ix ix_str (pv 1) pe_int (fun _ _ => rfl)) pa_nil))) pa_nil)))))))) pa_nil))))
      (pss_cons (ps_set (i := 7) sc__law_refusals_right.nd rfl (Or.inr rfl) (pe_call (ok__law_draw T) (hr.mono (by decide)) rfl T.g__law_draw T.F__law_draw.kp T.b__law_draw .nil pass0 (pa_cons (pv 0) (pa_cons (pe_op op_add (pe_callB call_len_seq (by rfl) T.z_len (by decide +kernel) (pa_cons (pv 2) pa_nil)) pe_int) pa_nil))))
      (pss_cons (ps_if (pt_cmpR (op_neSame hr.units0) (pe_refused (t := fun E => tMake (CL_Rule K) (spInit K) [.non] E (tCons (tVar 1) (tCons (tOp rCat (tOp rCat (tOp rCat (tSl (rSlL K) (tVar 2) tNoPart (tPart (tVar 7))) (tLst (tCons (tVar 6) tNil))) (tSl (rSlL K) (tVar 2) (tPart (tVar 7)) tNoPart)) (tLst (tCons (tC (.int 0)) tNil))) tNil))) (k := 10) (Ts := TS K) T rfl U.b rfl Tb.m U.u (hr.mono (by decide)) (lamS_by (show lamSB (defScope s__law_refusals_right) _ = true by decide +kernel)) rfl (fun _ _ _ _ _ => rfl) (fun A outer s H E f c2 hr2 => (pe_make T.mk_Rule (ok_Rule___init__ T) (hr2.mono (by decide)) (by rfl) T.g_Rule hb3 hv3 (passes_call (takes_of rfl rfl rfl rfl) (fun _ _ _ _ h => h)) (pa_cons (pv 1) (pa_cons (pe_op op_cat (pe_op op_cat (pe_op op_cat (pe_slice sl_list (pv 2) po_none (po_some (pv 7))) (pe_lst (pa_cons (pv 6) pa_nil))) (pe_slice sl_list (pv 2) (po_some (pv 7)) po_none)) (pe_lst (pa_cons pe_int pa_nil))) pa_nil))))) (pe_lst (pa_cons (pv 6) pa_nil)) (nomark _)) (pss_one (ps_ret pe_bl)) pss_nil)
      (pss_cons (ps_for PassesOwn.never rfl (pi_list (pe_lst (pa_cons (pe_disp (pps_cons pe_str (pv 1) pps_nil) (by rfl) (by rfl) (fun z => by cases z) (by decide)) (pa_cons (pe_disp (pps_cons pe_str pe_str pps_nil) (by rfl) (by rfl) (fun z => by cases z) (by decide)) (pa_cons (pe_disp (pps_cons pe_str pe_non pps_nil) (by rfl) (by rfl) (fun z => by cases z) (by decide)) (pa_cons (pe_disp (pps_cons pe_str pe_str pps_nil) (by rfl) (by rfl) (fun z => by cases z) (by decide)) (pa_cons (pe_disp (pps_cons pe_int (pv 1) pps_nil) (by rfl) (by rfl) (fun z => by cases z) (by decide)) (pa_cons (pe_lst pa_nil) (pa_cons pe_str (pa_cons pe_int (pa_cons (pe_disp (pps_cons pe_str (pv 1) (pps_cons pe_str pe_str pps_nil)) (by rfl) (by rfl) (fun z => by cases z) (by decide)) pa_nil))))))))))) (pg_name (i := 8) sc__law_refusals_right.nd rfl (Or.inr rfl)) (pss_one (ps_if (pt_cmpR (op_neSame hr.units0) (pe_refused (k := 10) (Ts := TS K) T rfl U.b rfl Tb.m U.u (hr.mono (by decide)) (lamS_by (show lamSB (defScope s__law_refusals_right) _ = true by decide +kernel)) rfl (fun _ _ _ _ _ => rfl) (fun A outer s H E f c2 hr2 => (pe_make T.mk_Rule (ok_Rule___init__ T) (hr2.mono (by decide)) (by rfl) T.g_Rule hb4 hv4 (passes_call (takes_of rfl rfl rfl rfl) (fun _ _ _ _ h => h)) (pa_cons (pv 1) (pa_cons (pv 2) (pa_cons (pv 8) pa_nil)))))) (pe_lst (pa_cons (pv 8) pa_nil)) (nomark _)) (pss_one (ps_ret pe_bl)) pss_nil)))
      (pss_one (ps_ret (pe_cmpR (op_eqD hr.units) (pe_refused (k := 10) (Ts := TS K) T rfl U.b rfl Tb.m U.u (hr.mono (by decide)) (lamS_by (show lamSB (defScope s__law_refusals_right) _ = true by decide +kernel)) rfl (fun _ _ _ _ _ => rfl) (fun A outer s H E f c2 hr2 => (pe_make T.mk_Rule (ok_Rule___init__ T) (hr2.mono (by decide)) (by rfl) T.g_Rule hb4 hv4 (passes_call (takes_of rfl rfl rfl rfl) (fun _ _ _ _ h => h)) (pa_cons (pv 1) (pa_cons (pv 2) (pa_cons pe_non pa_nil)))))) (pe_lst pa_nil) (nomark _)))))))))), ?_⟩
    have hcl1 : c.length ≤ 1000 := by omega
    have N0 : Pn K p c0 pa b ps [] H H := ⟨hT, hTab, hpa, fun _ _ _ h _ => h, (fun q hq => nomatch hq), (fun q hq => nomatch hq)⟩
    obtain ⟨ch, hch⟩ : ∃ ch, c.cps[0]? = some ch := ⟨_, Array.getElem?_eq_getElem (show 0 < c.cps.size from hc1)⟩
    have hat0 : L2.atI c.cps.toList 0 = some ch := by
      have : c.cps.toList[0]? = some ch := by rw [Array.getElem?_toList]; exact hch
      exact atI_nat (j := 0) this
    have hA1 : hasB "A" c = false := by
      have h1 : ¬ (65 ∈ c.cps.toList) := fun h => absurd (colB_let hcb 65 h) (by decide +kernel)
      show ([65].all fun x => decide (x ∈ c.cps.toList)) = false
      rw [List.all_cons, decide_eq_false h1, Bool.false_and]
    have hA : hasB (("A" : Str) ++ ⟨#[ch]⟩) c = false := by
      have h1 : ¬ (65 ∈ c.cps.toList) := fun h => absurd (colB_let hcb 65 h) (by decide +kernel)
      show ([65, ch].all fun x => decide (x ∈ c.cps.toList)) = false
      rw [List.all_cons, decide_eq_false h1, Bool.false_and]
    refine ⟨_, rfl, p, c0, b, rfl, hT, by omega, fun odd H1 sb1 t1 ho => ?_⟩
    have N1 := (N0.but sb1 t1).add own_col ho.1 (ho.ne hT)
    refine ⟨_, rfl, ?_⟩
    refine (gvs_cons (gv_lst (H0 := H1) (Ps := List.replicate 7 (Odd H1 (NoSeq K))) (gvs_cons (gv_c.imp (odd_c (P := NoSeq K) (fun H => noseq_ty "NoneType" (.base .non) (kitA (by decide +kernel) (by decide +kernel))) rfl)) (Own.stab own_seq) (gvs_cons (gv_c.imp (odd_c (P := NoSeq K) (fun H => noseq_ty "int" (.base (.int 0)) (kitA (by decide +kernel) (by decide +kernel))) rfl)) (Own.stab own_seq) (gvs_cons (gv_c.imp (odd_c (P := NoSeq K) (fun H => noseq_ty "bool" (.base (.bl true)) (kitA (by decide +kernel) (by decide +kernel))) rfl)) (Own.stab own_seq) (gvs_cons (gv_d0.imp (odd_D (P := NoSeq K) fun H p h => noseq_ty "dict" (.base (.dK h)) (kitA (by decide +kernel) (by decide +kernel)))) (Own.stab own_seq) (gvs_cons (gv_c.imp (odd_c (P := NoSeq K) (fun H => noseq_ty "str" (.base (.str _)) (kitA (by decide +kernel) (by decide +kernel))) rfl)) (Own.stab own_seq) (gvs_cons (gv_c.imp (odd_c (P := NoSeq K) (fun H => noseq_ty "str" (.base (.str _)) (kitA (by decide +kernel) (by decide +kernel))) rfl)) (Own.stab own_seq) (gvs_cons ((gv_d1 (k := .inr "ab") gv_c gv_c).imp (odd_D (P := NoSeq K) fun H p h => noseq_ty "dict" (.base (.dK h)) (kitA (by decide +kernel) (by decide +kernel)))) (Own.stab own_seq) gvs_nil)))))))) (stab_L (fun P hP => by rw [List.eq_of_mem_replicate hP]; exact Own.stab own_seq)) gvs_nil).run H1 _ (Same.refl _) fun vs H2 s2 he => ?_
    obtain ⟨v, rfl, l, xs, rfl, hl, hl0, hx⟩ := each1 he
    have N2 := N1.same s2
    refine ⟨p, c0, l, _, xs, rfl, N2.pen, by omega, SqL.of hl, (by rw [hx.length, List.length_replicate]; decide), (by rw [hx.length, List.length_replicate]; decide), fun i lone H3 hxi s3 t3 => ?_⟩
    have hlo := hx.all lone (List.mem_of_getElem? hxi)
    have N3 := (N2.add own_seq hlo.1 (hlo.ne t1)).but s3 t3
    refine ⟨Nat.le_of_ble_eq_true rfl, fun t ht => ⟨t, _, rfl, SqT.of upd_same, rfl, _, _, rfl, _, _, rfl, rfl, ?_⟩⟩
    have N4 := N3.same (same_upd (o := .tup [odd, lone]) ht)
    generalize upd H3 t (.tup [odd, lone]) = H4 at N4 ⊢
    dsimp only
    refine if_noS (fun H9 => Pn K p c0 pa (b + 1 + 1) ps [(NoSeq K, lone), (ColBad K, odd)] H H9) (fun Q1 k1 => ?_) (fun H9 N9 => ?_)
    · refine ⟨N4.tab, fun H5 x5 tb5 => ?_⟩
      have N5 := N4.extN x5 tb5
      refine ⟨_, rfl, fun x dx hx5 hdx5 hne5 => ?_⟩
      have s6 := new_same (o := .ins (CL_Rule K) dx []) hx5 hdx5 hne5
      have N6 := N5.same s6
      refine ⟨x, dx, odd, .int 0, .int 0, rfl, upd_same, .inl ⟨N6.get 1 rfl, fun d H7 s7 hd7 => ⟨rfl, d, odd, rfl, hd7, fun q hq => ?_⟩⟩⟩
      have N7 := (N6.same s7).same (same_upd (o := .lst [odd]) hq)
      have hq7 : (upd H7 q (.lst [odd])) q = some (.lst [odd]) := upd_same
      generalize upd H7 q (.lst [odd]) = H8 at N7 hq7 ⊢
      refine ⟨_, rfl, Nat.le_of_ble_eq_true rfl, fun q2 hq2 => ⟨q, q2, [odd], rfl, rfl, SqL.of ((same_upd hq2) _ _ hq7), SqL.of upd_same, tell1 ho.2.1, _, rfl, iteF ?_⟩⟩
      have N8 := N7.same (same_upd (o := .lst [odd]) hq2)
      generalize upd H8 q2 (.lst [odd]) = H9 at N8 ⊢
      refine ⟨N8.tab, fun H10 x10 tb10 => ?_⟩
      have N10 := N8.extN x10 tb10
      refine ⟨_, rfl, _, rfl, rfl, rfl, fun x2 dx2 hx10 hdx10 hne10 => ?_⟩
      have s11 := new_same (o := .ins (CL_Rule K) dx2 []) hx10 hdx10 hne10
      have N11 := N10.same s11
      refine ⟨x2, dx2, .str c, lone, .int 0, rfl, upd_same, .inr ⟨c, rfl, by omega, hcb, .inl ⟨N11.get 0 rfl, fun d2 H12 s12 hd12 => ⟨rfl, d2, lone, rfl, hd12, fun q3 hq3 => ?_⟩⟩⟩⟩
      have N12 := (N11.same s12).same (same_upd (o := .lst [lone]) hq3)
      have hq12 : (upd H12 q3 (.lst [lone])) q3 = some (.lst [lone]) := upd_same
      generalize upd H12 q3 (.lst [lone]) = H13 at N12 hq12 ⊢
      refine ⟨_, rfl, Nat.le_of_ble_eq_true rfl, fun q4 hq4 => ⟨q3, q4, [lone], rfl, rfl, SqL.of ((same_upd hq4) _ _ hq12), SqL.of upd_same, tell1 hlo.2.1, _, rfl, ?_⟩⟩
      exact k1 _ (N12.same (same_upd hq4))
    · refine ⟨_, rfl, ?_⟩
      refine (gvs_cons (gv_lst (H0 := H9) (Ps := List.replicate 7 (Odd H9 (fun H v => PairBad K H c v))) (gvs_cons (gv_c.imp (odd_c (P := fun H v => PairBad K H c v) (fun H => .inl (no_str "NoneType" (.base .non))) rfl)) (Own.stab own_pair) (gvs_cons (gv_c.imp (odd_c (P := fun H v => PairBad K H c v) (fun H => .inl (no_str "int" (.base (.int 3)))) rfl)) (Own.stab own_pair) (gvs_cons ((gv_op (gv_var rfl) gv_c (v := .str ⟨#[ch]⟩) fun H Q q => ⟨c, 0, ch, rfl, rfl, szS (by omega), hat0, q⟩).imp (odd_c (P := fun H v => PairBad K H c v) (fun H => str_bad (by show 1 ≤ 1000; decide) (.inr (by show 1 ≠ 2; decide))) rfl)) (Own.stab own_pair) (gvs_cons (gv_c.imp (odd_c (P := fun H v => PairBad K H c v) (fun H => str_bad (by decide) (.inr (by decide))) rfl)) (Own.stab own_pair) (gvs_cons ((gv_op (gv_op (gv_var rfl) gv_c (v := .str ⟨#[ch]⟩) fun H Q q => ⟨c, 0, ch, rfl, rfl, szS (by omega), hat0, q⟩) gv_c (v := .str (strRep ⟨#[ch]⟩ 3)) fun H Q q => ⟨_, 3, rfl, rfl, by decide, by decide, (by show 1 ≤ 1000; decide), q⟩).imp (odd_c (P := fun H v => PairBad K H c v) (fun H => str_bad (by show 3 ≤ 1000; decide) (.inr (by show 3 ≠ 2; decide))) rfl)) (Own.stab own_pair) (gvs_cons ((gv_op gv_c (gv_op (gv_var rfl) gv_c (v := .str ⟨#[ch]⟩) fun H Q q => ⟨c, 0, ch, rfl, rfl, szS (by omega), hat0, q⟩) (v := .str (("A" : Str) ++ ⟨#[ch]⟩)) fun H Q q => ⟨_, _, rfl, rfl, (by rw [sizeLine_eq]; show 2 ≤ _; decide), q⟩).imp (odd_c (P := fun H v => PairBad K H c v) (fun H => str_bad (by show 2 ≤ 1000; decide) (.inl hA)) rfl)) (Own.stab own_pair) (gvs_cons ((gv_tup (gvs_cons (gv_op (gv_var rfl) gv_c (v := .str ⟨#[ch]⟩) fun H Q q => ⟨c, 0, ch, rfl, rfl, szS (by omega), hat0, q⟩) stab_is (gvs_cons (gv_op (gv_var rfl) gv_c (v := .str ⟨#[ch]⟩) fun H Q q => ⟨c, 0, ch, rfl, rfl, szS (by omega), hat0, q⟩) stab_is gvs_nil))).imp (odd_T (P := fun H v => PairBad K H c v) fun H p xs h => .inl (no_str "tuple" (.base (.tup h))))) (Own.stab own_pair) gvs_nil)))))))) (stab_L (fun P hP => by rw [List.eq_of_mem_replicate hP]; exact Own.stab own_pair)) gvs_nil).run H9 _ (Same.refl _) fun vs2 H10 s10 he10 => ?_
      obtain ⟨v10, rfl, l10, xs10, rfl, hl10, hl100, hx10⟩ := each1 he10
      have N10 := N9.same s10
      refine ⟨p, c0, l10, _, xs10, rfl, N10.pen, by omega, SqL.of hl10, (by rw [hx10.length, List.length_replicate]; decide), (by rw [hx10.length, List.length_replicate]; decide), fun i2 bad H11 hxi2 s11 t11 => ?_⟩
      have hbd := hx10.all bad (List.mem_of_getElem? hxi2)
      have N11 := (N10.add own_pair hbd.1 (hbd.ne N9.pen)).but s11 t11
      refine ⟨_, rfl, _, rfl, pa, _, rfl, .inl (SqL.of N11.prs), tcI (i0 (v := .int ((ps.length + 1 : Nat) : Int)) (congrArg V.int (by rw [List.length_map]; omega)) ⟨p, c0, _, _, rfl, N11.pen, by omega, by omega, by omega, fun at1 H12 hat s12 t12 => ?_⟩)⟩
      have N12 := N11.but s12 t12
      dsimp only
      refine if_noS (fun H30 => Pn K p c0 pa (b + 1 + 1 + 1 + 1) ps [(fun H v => PairBad K H c v, bad), (NoSeq K, lone), (ColBad K, odd)] H H30) (fun Q1 k1 => ?_) (fun H30 N30 => ?_)
      · refine ⟨N12.tab, fun H13 x13 tb13 => ?_⟩
        have N13 := N12.extN x13 tb13
        refine ⟨_, rfl, _, rfl, _, rfl, _, rfl, pa, _, rfl, SqL.of N13.prs, fun l1 hl1 => ?_⟩
        rw [cutT]
        have u1 := same_upd (o := .lst ((ps.map V.str).take at1)) hl1
        have cz : ∀ {n : Nat}, n ≤ 1000 → n ≤ sizeLine := fun h => by rw [sizeLine_eq]; omega
        refine ⟨_, rfl, Nat.le_of_ble_eq_true rfl, fun l2 hl2 => ?_⟩
        have u2 := same_upd (o := .lst [bad]) hl2
        refine ⟨l1, l2, _, _, rfl, rfl, u2 _ _ upd_same, upd_same, cz (by rw [List.length_take, List.length_map]; show _ + 1 ≤ _; omega), fun l3 hl3 => ?_⟩
        have u3 := same_upd (o := .lst ((ps.map V.str).take at1 ++ [bad])) hl3
        refine ⟨_, rfl, _, rfl, _, rfl, noPart ⟨pa, _, rfl, SqL.of ((u1.trans (u2.trans u3)) _ _ N13.prs), fun l4 hl4 => ?_⟩⟩
        rw [cutD (ps.map V.str) at1 (by rw [List.length_map]; omega)]
        have u4 := same_upd (o := .lst ((ps.map V.str).drop at1)) hl4
        refine ⟨l3, l4, _, _, rfl, rfl, u4 _ _ upd_same, upd_same, cz (by rw [List.length_append, List.length_take, List.length_drop, List.length_map]; show _ + 1 + _ ≤ _; omega), fun l5 hl5 => ?_⟩
        have u5 := same_upd (o := .lst ((ps.map V.str).take at1 ++ [bad] ++ (ps.map V.str).drop at1)) hl5
        refine ⟨Nat.le_of_ble_eq_true rfl, fun l6 hl6 => ?_⟩
        have u6 := same_upd (o := .lst [.int 0]) hl6
        refine ⟨l5, l6, _, _, rfl, rfl, u6 _ _ upd_same, upd_same, cz (by rw [List.length_append, List.length_append, List.length_take, List.length_drop, List.length_map]; show _ + 1 + _ + 1 ≤ _; omega), fun l7 hl7 => ?_⟩
        have u7 := same_upd (o := .lst ((ps.map V.str).take at1 ++ [bad] ++ (ps.map V.str).drop at1 ++ [.int 0])) hl7
        have N14 := N13.same (u1.trans (u2.trans (u3.trans (u4.trans (u5.trans (u6.trans u7))))))
        have hl8 : (upd (upd (upd (upd (upd (upd (upd H13 l1 (.lst ((ps.map V.str).take at1))) l2 (.lst [bad])) l3 (.lst ((ps.map V.str).take at1 ++ [bad]))) l4 (.lst ((ps.map V.str).drop at1))) l5 (.lst ((ps.map V.str).take at1 ++ [bad] ++ (ps.map V.str).drop at1))) l6 (.lst [.int 0])) l7 (.lst ((ps.map V.str).take at1 ++ [bad] ++ (ps.map V.str).drop at1 ++ [.int 0]))) l7 = some (.lst ((ps.map V.str).take at1 ++ [bad] ++ (ps.map V.str).drop at1 ++ [.int 0])) := upd_same
        generalize upd (upd (upd (upd (upd (upd (upd H13 l1 (.lst ((ps.map V.str).take at1))) l2 (.lst [bad])) l3 (.lst ((ps.map V.str).take at1 ++ [bad]))) l4 (.lst ((ps.map V.str).drop at1))) l5 (.lst ((ps.map V.str).take at1 ++ [bad] ++ (ps.map V.str).drop at1))) l6 (.lst [.int 0])) l7 (.lst ((ps.map V.str).take at1 ++ [bad] ++ (ps.map V.str).drop at1 ++ [.int 0])) = H14 at N14 hl8 ⊢
        intro x2 dx2 hx14 hdx14 hne14
        have s15 := new_same (o := .ins (CL_Rule K) dx2 []) hx14 hdx14 hne14
        have N15 := N14.same s15
        have htl : ((ps.map V.str).take at1).length = at1 := by rw [List.length_take, List.length_map]; omega
        refine ⟨x2, dx2, .str c, .ref l7, .non, rfl, upd_same, .inr ⟨c, rfl, by omega, hcb, .inr ⟨l7, _, rfl, .inl (SqL.of (s15 _ _ hl8)), (by rw [List.length_append, List.length_append, List.length_append, List.length_take, List.length_drop, List.length_map]; show _ + 1 + _ + 1 ≤ _; omega), .inl ⟨at1, bad, ?_, N15.get 0 rfl, fun i y hi hy => ?_, fun d2 H16 s16 hd16 => ⟨rfl, d2, bad, rfl, hd16, fun q3 hq3 => ?_⟩⟩⟩⟩⟩
        · rw [List.append_assoc, List.append_assoc, List.getElem?_append_right (by omega), htl, Nat.sub_self]
          rfl
        · rw [List.append_assoc, List.append_assoc, List.getElem?_append_left (by omega)] at hy
          exact PairOk.of (fun q hq => hps q hq) y (List.mem_of_mem_take (List.mem_of_getElem? hy))
        · have N16 := (N15.same s16).same (same_upd (o := .lst [bad]) hq3)
          have hq16 : (upd H16 q3 (.lst [bad])) q3 = some (.lst [bad]) := upd_same
          generalize upd H16 q3 (.lst [bad]) = H17 at N16 hq16 ⊢
          refine ⟨_, rfl, Nat.le_of_ble_eq_true rfl, fun q4 hq4 => ⟨q3, q4, [bad], rfl, rfl, SqL.of ((same_upd hq4) _ _ hq16), SqL.of upd_same, tell1 hbd.2.1, _, rfl, ?_⟩⟩
          exact k1 _ (N16.same (same_upd hq4))
      · unfold tSeq tFor iList
        refine (gv_lst (H0 := H30) (Ps := List.replicate 9 (Odd H30 (fun H v => LetBad K H c v))) (gvs_cons (gw0 (K := K) (c := c) rfl hcl1 hA1) (Own.stab own_let) (gvs_cons (gw1 (K := K) (c := c) rfl hcl1 hA1) (Own.stab own_let) (gvs_cons (gw2 (K := K) (c := c) rfl hcl1 hA1) (Own.stab own_let) (gvs_cons (gw3 (K := K) (c := c) rfl hcl1 hA1) (Own.stab own_let) (gvs_cons (gw4 (K := K) (c := c) rfl hcl1 hA1) (Own.stab own_let) (gvs_cons (gw5 (K := K) (c := c) rfl hcl1 hA1) (Own.stab own_let) (gvs_cons (gw6 (K := K) (c := c) rfl hcl1 hA1) (Own.stab own_let) (gvs_cons (gw7 (K := K) (c := c) rfl hcl1 hA1) (Own.stab own_let) (gvs_cons (gw8 (K := K) (c := c) rfl hcl1 hA1) (Own.stab own_let) gvs_nil)))))))))) H30 _ (Same.refl _) fun v H31 s31 hv31 => ?_
        obtain ⟨l31, xs31, rfl, hl31, hl310, hx31⟩ := hv31
        have N31 := N30.same s31
        have nlp := (N30.pen.ne hl310).1
        have M0 : Pn K p c0 pa (b + 1 + 1 + 1 + 1) ps [] H31 H31 := ⟨N31.pen, N31.tab, N31.prs, fun _ _ _ h _ => h, (fun q hq => nomatch hq), (fun q hq => nomatch hq)⟩
        refine ⟨l31, rfl, ⟨_, SqL.of hl31⟩, for_list (K := K) (a := l31) (xs := xs31) (fun i σ H32 => Pn K p c0 pa (b + 1 + 1 + 1 + 1) ps [] H31 H32 ∧ ∃ o8, σ = [some (.ref p), some (.str c), some (.ref pa), some sv, some odd, some lone, some bad, some (.int (at1 : Int)), o8]) ⟨M0, _, rfl⟩ (fun i σ H32 _ ⟨M, _⟩ => SqL.of (M.ext _ _ nlp hl31 (fun _ e => nomatch e))) ?_ ?_⟩
        · rintro i wrong σ H32 hwi ⟨M, o8, rfl⟩
          have hw := hx31.all wrong (List.mem_of_getElem? hwi)
          have wne := hw.ne N30.pen
          refine if_no (fun H40 => Pn K p c0 pa (b + 1 + 1 + 1 + 1) ps [] H31 H40) (fun Q1 k1 => ?_) (fun H40 M40 => ⟨M40, _, rfl⟩)
          refine ⟨M.tab, fun H33 x33 tb33 => ?_⟩
          have M33 := M.extN x33 tb33
          refine ⟨_, rfl, _, rfl, _, rfl, fun x2 dx2 hx33 hdx33 hne33 => ?_⟩
          have s34 := new_same (o := .ins (CL_Rule K) dx2 []) hx33 hdx33 hne33
          have M34 := M33.same s34
          have lb := own_let H31 _ wrong (Stays.extB M34.ext wne) hw.1
          refine ⟨x2, dx2, .str c, .ref pa, wrong, rfl, upd_same, .inr ⟨c, rfl, by omega, hcb, .inr ⟨pa, _, rfl, .inl (SqL.of M34.prs), (by rw [List.length_map]; omega), .inr ⟨ps, rfl, fun q hq => hps q hq, .inl ⟨lb, fun d2 H35 s35 hd35 => ⟨rfl, d2, wrong, rfl, hd35, fun q3 hq3 => ?_⟩⟩⟩⟩⟩⟩
          have M35 := (M34.same s35).same (same_upd (o := .lst [wrong]) hq3)
          have hq35 : (upd H35 q3 (.lst [wrong])) q3 = some (.lst [wrong]) := upd_same
          generalize upd H35 q3 (.lst [wrong]) = H36 at M35 hq35 ⊢
          refine ⟨_, rfl, Nat.le_of_ble_eq_true rfl, fun q4 hq4 => ⟨q3, q4, [wrong], rfl, rfl, SqL.of ((same_upd hq4) _ _ hq35), SqL.of upd_same, tell1 hw.2.1, _, rfl, ?_⟩⟩
          exact k1 _ (M35.same (same_upd hq4))
        · rintro σ H32 ⟨M, o8, rfl⟩
          refine ⟨M.tab, fun H33 x33 tb33 => ?_⟩
          have M33 := M.extN x33 tb33
          refine ⟨_, rfl, _, rfl, fun x2 dx2 hx33 hdx33 hne33 => ?_⟩
          have s34 := new_same (o := .ins (CL_Rule K) dx2 []) hx33 hdx33 hne33
          have M34 := M33.same s34
          refine ⟨x2, dx2, .str c, .ref pa, .non, rfl, upd_same, .inr ⟨c, rfl, by omega, hcb, .inr ⟨pa, _, rfl, .inl (SqL.of M34.prs), (by rw [List.length_map]; omega), .inr ⟨ps, rfl, fun q hq => hps q hq, .inr ⟨[], ⟨.inl ⟨rfl, rfl⟩, by decide, List.nodup_nil, fun q hq => nomatch hq⟩, fun H35 sb35 hR => ⟨rfl, Nat.le_of_ble_eq_true rfl, fun q3 hq3 => ?_⟩⟩⟩⟩⟩⟩
          have s35 : Same H33 H35 := fun b2 o2 e2 => sb35 b2 o2 (fun e => by rw [e, hx33] at e2; cases e2) (s34 b2 o2 e2)
          have M35 := (M33.same s35).same (same_upd (o := .lst []) hq3)
          have hq35 : (upd H35 q3 (.lst [])) q3 = some (.lst []) := upd_same
          generalize upd H35 q3 (.lst []) = H36 at M35 hq35 ⊢
          refine ⟨Nat.zero_le _, fun q4 hq4 => ?_⟩
          have M36 := M35.same (same_upd (o := .lst []) hq4)
          exact eq_same (.lst (SqL.of ((same_upd hq4) _ _ hq35)) .nil) (.lst (SqL.of upd_same) .nil) rfl (k _ (N31.ext.trans M36.ext) (M36.pen.mono (by omega)) M36.tab)
end
end R4
set_option Elab.async false
set_option linter.all false
set_option maxRecDepth 100000
set_option maxHeartbeats 4000000
set_option pp.maxSteps 700
namespace R4
open PySem L2 PySem.GW LamX SM
section
variable {w : World} {K : PySem.W.Frag} {mg : Str → Option Value} {base : Heap}
open UM
open PyProof.Rows (sortedS)
theorem tabs_updD {H : Hp} {T : List (Addr × Str)} {D : Addr} {ys : List (Key × V)} {o : HO} (t : Tabs T H) (hD : H D = some (.dK ys)) : Tabs T (upd H D o) := fun q hq => by
  obtain ⟨ps, h1, h2, h3⟩ := t q hq
  refine ⟨ps, by rw [upd_ne (fun e => by rw [e, hD] at h1; cases h1)]; exact h1, h2, fun pos cv hc => ?_⟩
  obtain ⟨c, e1, e2⟩ := h3 pos cv hc
  exact ⟨c, e1, by rw [upd_ne (fun e => by rw [e, hD] at e2; unfold CodeO at e2; cases e2)]; exact e2⟩
theorem RuleAt.based {H0 H1 H : Hp} {p : Addr} {c : Str} {ps : List Str} {ls : List (Str × Str)} (e : Same H0 H1) (h : RuleAt K H1 H p c ps ls) : RuleAt K H0 H p c ps ls := by
  obtain ⟨dx, tb, d, bs, ks, h1, h2, h3, h4, h5, h6, h7, h8⟩ := h
  exact ⟨dx, tb, d, bs, ks, h1, h2, h3, h4, h5, fresh_back e h6, h7, h8⟩
theorem RuleAt.updL {H0 H : Hp} {p D : Addr} {c : Str} {ps : List Str} {ls : List (Str × Str)} {xs : List V} {o : HO} (h : RuleAt K H0 H p c ps ls) (hD : H D = some (.lst xs)) : RuleAt K H0 (upd H D o) p c ps ls := by
  obtain ⟨dx, tb, d, bs, ks, h1, h2, h3, h4, h5, h6, h7, h8⟩ := h
  exact ⟨dx, tb, d, bs, ks, by rw [upd_ne (fun e => by rw [e, hD] at h1; cases h1)]; exact h1, sqT_upd hD h2, h3, h4, h5, h6, by rw [upd_ne (fun e => by rw [e, hD] at h7; cases h7)]; exact h7, h8⟩
theorem RuleAt.updD {H0 H : Hp} {p D : Addr} {c : Str} {ps : List Str} {ls : List (Str × Str)} {kvs : List (Key × V)} {o o2 : HO} (h : RuleAt K H0 H p c ps ls) (hD : H D = some (.dK kvs)) (h0 : H0 D = some o2) : RuleAt K H0 (upd H D o) p c ps ls := by
  obtain ⟨dx, tb, d, bs, ks, h1, h2, h3, h4, h5, h6, h7, h8⟩ := h
  refine ⟨dx, tb, d, bs, ks, by rw [upd_ne (fun e => by rw [e, hD] at h1; cases h1)]; exact h1, ?_, h3, h4, h5, h6, by rw [upd_ne (fun e => by rw [e, h0] at h6; cases h6)]; exact h7, h8⟩
  rcases h2 with (h2 | ⟨o', h2⟩) | h2
  · exact .inl (.inl (by rw [upd_ne (fun e => by rw [e, hD] at h2; cases h2)]; exact h2))
  · exact .inl (.inr ⟨o', by rw [upd_ne (fun e => by rw [e, hD] at h2; cases h2)]; exact h2⟩)
  · exact .inr h2
theorem RuleAt.ins {H0 H : Hp} {p : Addr} {c : Str} {ps : List Str} {ls : List (Str × Str)} (h : RuleAt K H0 H p c ps ls) : ∃ dx fs, H p = some (.ins (CL_Rule K) dx fs) := by
  obtain ⟨dx, tb, d, bs, ks, h1, _⟩ := h
  exact ⟨dx, _, h1⟩
/-- a right rule made -/
theorem mk_rule {H : Hp} {x dx a : Addr} {c : Str} {ps : List Str} {ls : List (Str × Str)} {vl : V} {R : Hp → Prop} {E : XK} (hx : H x = none) (hdx : H dx = none) (hne : dx ≠ x) (hc : colB c = true) (hcl : c.length ≤ 1000) (ha : Sq K H a (ps.map V.str)) (hps : ∀ q ∈ ps, PairC c q) (hpl : ps.length ≤ 1000) (hL : LetOk H c vl ls)
    (k : ∀ H', Same H H' → RuleAt K H H' x c ps ls → R H') : spInit K [.ref x, .str c, .ref a, vl] (upd (upd H dx (.own x)) x (.ins (CL_Rule K) dx [])) (fun v H3 => v = .non ∧ R H3) E := by
  have s := new_same (o := .ins (CL_Rule K) dx []) hx hdx hne
  obtain ⟨h1, h2, h3, h4⟩ := hL
  refine ⟨x, dx, .str c, .ref a, vl, rfl, upd_same, .inr ⟨c, rfl, hcl, hc, .inr ⟨a, _, rfl, Same.sq s ha, (by rw [List.length_map]; exact hpl), .inr ⟨ps, rfl, fun q hq => hps q hq, .inr ⟨ls, ⟨?_, h2, h3, h4⟩, fun H' sb hR => ⟨rfl, k H' (fun b o e => sb b o (fun e2 => by rw [e2, hx] at e; cases e) (s b o e)) (hR.based s)⟩⟩⟩⟩⟩⟩
  rcases h1 with h | ⟨d, e, h⟩
  · exact .inl h
  · exact .inr ⟨d, e, s _ _ h⟩
theorem eq_rule {T : Top K mg} {H H0 H1 : Hp} {m q : Addr} {c c' : Str} {ps ps' : List Str} {ls ls' : List (Str × Str)} {Q : VK} {E : XK} (h1 : RuleAt K H0 H m c ps ls) (h2 : RuleAt K H1 H q c' ps' ls') (hc : sortS c = sortS c') (hp : ∀ y, y ∈ ps.map sortS ↔ y ∈ ps'.map sortS) (hpl : ps.length ≤ 1000) (n1 : (ls.map (·.1)).Nodup) (n2 : (ls'.map (·.1)).Nodup) (hcan : ∀ x ∈ ps.map sortS, PyData.canLay0 (.str x) = true)
    (h : ((sigL ls).Perm (sigL ls') ∧ Q (.bl true) H) ∨ (ls.length ≠ ls'.length ∧ Q (.bl false) H)) : spEq K [.ref m, .ref q] H Q E := ⟨m, .ref q, rfl, .inr ⟨q, H0, H1, c, c', ps, ps', ls, ls', rfl, h1, h2, hc, hp, hpl, n1, n2, hcan, h⟩⟩
theorem nf_rule : PySem.W.notFirst K (CL_Rule K) (.ref (CL_Rule K)) = true := by unfold PySem.W.notFirst; simp
theorem nf_ty {n : String} (h : PySem.W.subIn K (.type n) (.ref (CL_Rule K)) = some false) : PySem.W.notFirst K (CL_Rule K) (.type n) = true := by unfold PySem.W.notFirst; rw [h]; simp
theorem can_pair {c : Str} (hc : ∀ x ∈ c.cps.toList, x ∈ lets) {q : Str} (h : PairC c q) : PyData.canLay0 (.str (sortS q)) = true := by
  show ((sortN q.cps.toList).toArray.all fun x => decide (x < 0x110000)) = true
  rw [List.all_toArray, List.all_eq_true]
  intro x hx
  have h1 : x ∈ q.cps.toList := (sortN_perm q.cps.toList).mem_iff.mp hx
  have h2 := of_decide_eq_true (List.all_eq_true.mp h.2 x h1)
  have h3 : ∀ y ∈ lets, decide (y < 0x110000) = true := by decide +kernel
  exact h3 x (hc x h2)
/-- the three alphabets -/
def alph (z : Str) : Prop := z = "abcd" ∨ z = "mzkq" ∨ z = "wxyz"
theorem alph_ok {z : Str} (h : alph z) : z.cps.toList.Nodup ∧ z.cps.toList.length = 4 ∧ ∀ x ∈ z.cps.toList, x ∈ lets := by
  rcases h with rfl | rfl | rfl <;> exact ⟨by decide +kernel, by decide +kernel, by decide +kernel⟩
theorem col_ok {l : List Nat} (h1 : 1 ≤ l.length) (h2 : l.length ≤ 4) (hn : l.Nodup) (hl : ∀ x ∈ l, x ∈ lets) : colB ⟨l.toArray⟩ = true := by
  unfold colB
  have e : (⟨l.toArray⟩ : Str).length = l.length := List.size_toArray
  rw [e, decide_eq_true h1, decide_eq_true h2]
  have e2 : (⟨l.toArray⟩ : Str).cps.toList = l := rfl
  rw [e2, List.all_eq_true.mpr fun x hx => decide_eq_true (hl x hx)]
  have e3 : (SM.signs (⟨l.toArray⟩ : Str)).map (Sum.inr : Str → Key) = (l.map UM.sing).map Sum.inr := rfl
  rw [e3, dedK_of_nodup (inr_nodup (map_nodup hn)), List.length_map, List.length_map]
  simp
def unS (s : Str) : Nat := s.cps.toList.headD 0
theorem un_sing (x : Nat) : unS (sing x) = x := rfl
theorem hues_ok {z : Str} {ys : List Str} {d : Nat} (hz : alph z) (hp : ys.Perm (SM.signs z)) (hd : d < 4) : ∃ l : List Nat, ys.take (1 + d) = l.map sing ∧ l.length = 1 + d ∧ l.Nodup ∧ ∀ x ∈ l, x ∈ lets := by
  obtain ⟨h1, h2, h3⟩ := alph_ok hz
  have hp' : ys.Perm (z.cps.toList.map sing) := hp
  have e1 : ys = (ys.map unS).map sing := by
    have : ∀ y ∈ ys, sing (unS y) = y := fun y hy => by
      obtain ⟨x, _, rfl⟩ := List.mem_map.mp (hp'.mem_iff.mp hy)
      rfl
    rw [List.map_map]
    conv => lhs; rw [← List.map_id ys]
    exact List.map_congr_left fun y hy => (this y hy).symm
  have e2 : (ys.map unS).Perm z.cps.toList := by
    have := hp'.map unS
    rw [List.map_map] at this
    have e : z.cps.toList.map (unS ∘ sing) = z.cps.toList := by
      conv => rhs; rw [← List.map_id z.cps.toList]
      exact List.map_congr_left fun y _ => rfl
    rwa [e] at this
  refine ⟨(ys.map unS).take (1 + d), ?_, ?_, ?_, ?_⟩
  · rw [List.map_take, ← e1]
  · rw [List.length_take, e2.length_eq, h2]; omega
  · exact List.Nodup.sublist (List.take_sublist _ _) (e2.nodup_iff.mpr h1)
  · exact fun x hx => h3 x (e2.mem_iff.mp (List.mem_of_mem_take hx))
theorem sum_sing : ∀ l : List Nat, ((l.map sing).map (·.length)).sum = l.length
  | [] => rfl
  | x :: l => by
    rw [List.map_cons, List.map_cons, List.sum_cons, sum_sing l, List.length_cons]
    show 1 + _ = _
    omega
def qe : Str × Str := ("q", "")
theorem cz1 {n : Nat} (h : n ≤ 1000) : n ≤ sizeLine := by rw [sizeLine_eq]; omega
structure Lw (K : PySem.W.Frag) (p c0 pa sa : Addr) (b : Nat) (ps : List Str) (ls : List (Str × Str)) (H : Hp) : Prop where
  pen : PenOk H p c0 b
  tab : Tabs (TS K) H
  prs : H pa = some (.lst (ps.map V.str))
  sgs : H sa = some (.dK (ls.map entK))
theorem Lw.same {p c0 pa sa : Addr} {b : Nat} {ps : List Str} {ls : List (Str × Str)} {H H' : Hp} (h : Lw K p c0 pa sa b ps ls H) (s : Same H H') : Lw K p c0 pa sa b ps ls H' := ⟨h.pen.same s, h.tab.ext s, s _ _ h.prs, s _ _ h.sgs⟩
def spLaw (K : PySem.W.Frag) : Sp := fun vs H Q _ => ∃ (a : Addr) (ns : List Int), vs = [.ref a] ∧ SqL K H a (ns.map V.int) ∧ ns.length ≤ 63 ∧ Tabs (TS K) H ∧ ∀ H', Q (.bl true) H'
theorem ok_law (T : Top K mg) (U : Tb K mg base) : FnOkG PW w K mg base CX0 14 (fa K "law") (fdOf K (fa K "law")) ["_law_script"] (spLaw K) := by
  refine T.F_law.okG sc_law (fun vs H Q E h => ?_) (fun A outer s H vs Q E hgd hr h => ?_)
  · obtain ⟨a, ns, rfl, _hS, _hns, _hTab, _k⟩ := h
    rfl
  · obtain ⟨a, ns, rfl, hS, hns, hTab, k⟩ := h
    have hu := hu_of hr
    obtain ⟨ds3, hv3, hb3⟩ := rule_b3 T
    obtain ⟨ds4, hv4, hb4⟩ := rule_b4 T
    obtain ⟨gk2, hk2⟩ := rule_k2 T
    obtain ⟨gk3, hk3⟩ := rule_k3 T
    refine ⟨_, (pss_cons (ps_set (i := 1) sc_law.nd rfl (Or.inl rfl) (pe_call (ok__law_begin T) (hr.mono (by decide)) rfl T.g__law_begin T.F__law_begin.kp T.b__law_begin .nil pass0 (pa_cons (pv 0) pa_nil)))
      (pss_cons (ps_for PassesOwn.never rfl (pi_range1 (by rfl) T.z_range (pa_cons (pe_op op_add pe_int (pe_callB (call_min2 rfl) (by rfl) T.z_min (by decide +kernel) (pa_cons pe_int (pa_cons (pe_callB call_len_seq (by rfl) T.z_len (by decide +kernel) (pa_cons (pv 0) pa_nil)) pa_nil)))) pa_nil)) (pg_name (i := 2) sc_law.nd rfl (Or.inl rfl)) (pss_cons (ps_set (i := 3) sc_law.nd rfl (Or.inl rfl) (pe_join pe_str (pe_slice sl_list (pe_call (ok__law_shuffled T) (hr.mono (by decide)) rfl T.g__law_shuffled T.F__law_shuffled.kp T.b__law_shuffled .nil pass0 (pa_cons (pv 1) (pa_cons (pe_call (ok__law_pick T) (hr.mono (by decide)) rfl T.g__law_pick T.F__law_pick.kp T.b__law_pick .nil pass0 (pa_cons (pv 1) (pa_cons (pe_lst (pa_cons pe_str (pa_cons pe_str (pa_cons pe_str pa_nil)))) pa_nil))) pa_nil))) po_none (po_some (pe_op op_add pe_int (pe_call (ok__law_draw T) (hr.mono (by decide)) rfl T.g__law_draw T.F__law_draw.kp T.b__law_draw .nil pass0 (pa_cons (pv 1) (pa_cons pe_int pa_nil))))))))
      (pss_cons (ps_par (i := 4) (j := 5) (by rfl) sc_law.nd rfl rfl (by decide) rfl rfl (pa_cons (pe_call (ok__law_pairs_of T) (hr.mono (by decide)) rfl T.g__law_pairs_of T.F__law_pairs_of.kp T.b__law_pairs_of .nil pass0 (pa_cons (pv 1) (pa_cons (pv 3) pa_nil))) (pa_cons (pe_call (ok__law_letters_of T) (hr.mono (by decide)) rfl T.g__law_letters_of T.F__law_letters_of.kp T.b__law_letters_of .nil pass0 (pa_cons (pv 1) (pa_cons (pv 3) pa_nil))) pa_nil)) (by rfl))
      (pss_cons (ps_par (i := 6) (j := 7) (by rfl) sc_law.nd rfl rfl (by decide) rfl rfl (pa_cons (pe_callTy call_list_of (by rfl) T.z_list (by decide +kernel) (pa_cons (pv 4) pa_nil)) (pa_cons (pe_callTy call_dictD (by rfl) T.z_dict (by decide +kernel) (pa_cons (pv 5) pa_nil)) pa_nil)) (by rfl))
      (pss_cons (ps_set (i := 8) sc_law.nd rfl (Or.inr rfl) (pe_makeK0 T.mk_Rule (ok_Rule___init__ T) (hr.mono (by decide)) (by rfl) T.g_Rule hk3 passE0 (pk_cons (pv 6) (pk_cons (pv 7) (pk_cons (pv 3) pk_nil)))))
      (pss_cons (ps_expr (pe_bm PySem.F.plainAttrs_list PySem.F.slot_list_append PySem.F.type_list_append mt_append (pv 6) (pa_cons pe_str pa_nil)))
      (pss_cons (ps_dput hu (pv 7) pe_str pe_str rfl)
      (pss_cons (ps_if (pt_not (pt_val (pe_call (ok__law_is_rule T) (hr.mono (by decide)) rfl T.g__law_is_rule T.F__law_is_rule.kp T.b__law_is_rule .nil pass0 (pa_cons (pv 8) (pa_cons (pv 3) (pa_cons (pv 4) (pa_cons (pv 5) pa_nil))))))) (pss_one (ps_ret pe_bl)) pss_nil)
      (pss_cons (ps_set (i := 9) sc_law.nd rfl (Or.inl rfl) (pe_make T.mk_Rule (ok_Rule___init__ T) (hr.mono (by decide)) (by rfl) T.g_Rule hb4 hv4 passE0 (pa_cons (pe_revS (pv 3)) (pa_cons (pe_callTy call_tuple_of (by rfl) T.z_tuple (by decide +kernel) (pa_cons (pe_lc (own := [("_law_pair", 11)]) (g := gName 11) (by rfl) sc_law.nd (pi_list (pe_revL (pv 4))) (blkOk_by (own := [("_law_pair", 11)]) (N := ["_law_script", "_law_pen", "_law_turn", "_law_hues", "_law_pairs", "_law_signs", "_law_handed", "_law_told", "_law_made", "_law_twin", "_law_other", "_law_pair", "_law_value"]) (sc := (defScope s_law)) (by decide +kernel)) (fun _ _ _ _ _ => (pg_name (i := 11) sc_law.nd rfl (Or.inl rfl))) (fun _ _ _ _ _ => pts_nil) (fun _ _ _ _ _ => (pe_revS (pv 11)))) pa_nil)) (pa_cons (pv 5) pa_nil)))))
      (pss_cons (ps_set (i := 10) sc_law.nd rfl (Or.inl rfl) (pe_make T.mk_Rule (ok_Rule___init__ T) (hr.mono (by decide)) (by rfl) T.g_Rule hb4 hv4 passE0 (pa_cons (pv 3) (pa_cons (pv 4) (pa_cons (pe_callTy (call_dictP rfl) (by rfl) T.z_dict (by decide +kernel) (pa_cons (pe_op op_cat (LiI.pe_listItems rfl (pv 5) (by rfl) T.z_list (by decide +kernel)) (pe_lst (pa_cons (pe_tup (pa_cons pe_str (pa_cons pe_str pa_nil))) pa_nil))) pa_nil)) pa_nil)))))
      (pss_cons (ps_if (PW.pt (pw_or (pt_not (pt_cmpR (op_ownV (op := .Eq) (fun _ _ => rfl) T.m_Rule___eq__.at_ T.m_Rule___eq__.fn (ok_Rule___eq__ T) T.b_Rule___eq__ (hr.mono (by decide))) (pv 8) (pv 9) (nomark _))) (pw_or (pt_cmpR (op_neV T.ne_Rule T.m_Rule___eq__.at_ T.m_Rule___eq__.fn T.os_Rule (ok_Rule___eq__ T) T.b_Rule___eq__ (hr.mono (by decide))) (pv 8) (pv 9) (nomark _)) (pw_or (pt_cmpR (op_ownV (op := .Eq) (fun _ _ => rfl) T.m_Rule___eq__.at_ T.m_Rule___eq__.fn (ok_Rule___eq__ T) T.b_Rule___eq__ (hr.mono (by decide))) (pv 8) (pv 10) (nomark _)) (pw_or1 (pt_not (pt_cmpR (op_neV T.ne_Rule T.m_Rule___eq__.at_ T.m_Rule___eq__.fn T.os_Rule (ok_Rule___eq__ T) T.b_Rule___eq__ (hr.mono (by decide))) (pv 8) (pv 10) (nomark _)))))))) (pss_one (ps_ret pe_bl)) pss_nil)
      (pss_cons (ps_if (pt_cmpR (op_neNil hr.units0) (pe_lc (own := [("_law_value", 12)]) (tt := tOr (tTest (tOp (rOwnV K (CL_Rule K) (spEq K)) (tVar 8) (tVar 12))) (tNot (tTest (tOp (rNeV K (CL_Rule K) (spEq K)) (tVar 8) (tVar 12))))) (g := gName 12) (by rfl) sc_law.nd (pi_list (pe_lst (pa_cons pe_non (pa_cons (pv 3) (pa_cons (pv 4) (pa_cons (pv 5) (pa_cons (pe_tup pa_nil) pa_nil))))))) (blkOk_by (own := [("_law_value", 12)]) (N := ["_law_script", "_law_pen", "_law_turn", "_law_hues", "_law_pairs", "_law_signs", "_law_handed", "_law_told", "_law_made", "_law_twin", "_law_other", "_law_pair", "_law_value"]) (sc := (defScope s_law)) (by decide +kernel)) (fun _ _ _ _ _ => (pg_name (i := 12) sc_law.nd rfl (Or.inl rfl))) (fun _ _ _ _ _ => (pts_one (PW.pt (pw_or (pt_cmpR (op_ownV (op := .Eq) (fun _ _ => rfl) T.m_Rule___eq__.at_ T.m_Rule___eq__.fn (ok_Rule___eq__ T) T.b_Rule___eq__ (hr.mono (by decide))) (pv 8) (pv 12) (nomark _)) (pw_or1 (pt_not (pt_cmpR (op_neV T.ne_Rule T.m_Rule___eq__.at_ T.m_Rule___eq__.fn T.os_Rule (ok_Rule___eq__ T) T.b_Rule___eq__ (hr.mono (by decide))) (pv 8) (pv 12) (nomark _)))))))) (fun _ _ _ _ _ => (pv 12))) (pe_lst pa_nil) (nomark _)) (pss_one (ps_ret pe_bl)) pss_nil)
      (pss_cons (ps_if (PW.pt (pw_and (pt_cmpR (op_or (op_eq_dictA hr.units0) (op_eq_dictL hr.units0)) (pv 5) pe_dnewK (nomark _)) (pw_and1 (pt_not (pt_cmpR (op_ownV (op := .Eq) (fun _ _ => rfl) T.m_Rule___eq__.at_ T.m_Rule___eq__.fn (ok_Rule___eq__ T) T.b_Rule___eq__ (hr.mono (by decide))) (pe_make T.mk_Rule (ok_Rule___init__ T) (hr.mono (by decide)) (by rfl) T.g_Rule hb3 hv3 passE0 (pa_cons (pv 3) (pa_cons (pv 4) pa_nil))) (pv 8) (nomark _)))))) (pss_one (ps_ret pe_bl)) pss_nil)
      (pss_one (ps_if (pt_not (pt_val (pe_callG (by exact hgd) (ok__law_refusals_right T U) (hr.mono (by decide)) rfl T.g__law_refusals_right T.F__law_refusals_right.kp T.b__law_refusals_right .nil pass0 (pa_cons (pv 1) (pa_cons (pv 3) (pa_cons (pv 4) (pa_cons (pv 5) pa_nil))))))) (pss_one (ps_ret pe_bl)) pss_nil)))))))))))))))
      (pss_one (ps_ret pe_bl)))), ?_⟩
    refine ⟨_, rfl, a, ns, rfl, hS, hns, fun p c0 H1 s1 _ t1 => ?_⟩
    have hTab1 := hTab.ext s1
    refine ⟨_, rfl, a, ns.map V.int, rfl, .inl (s1.seq hS), 3, ((ns.map V.int).length : Int), rfl, 3, _, rfl, rfl, ((3 + min 3 ns.length : Nat) : Int), ?_, by omega, by omega, for_range (lo := 0) (n := 3 + min 3 ns.length) (fun i σ H2 => PenOk H2 p c0 (i * 1000) ∧ Tabs (TS K) H2 ∧ ∃ o2 o3 o4 o5 o6 o7 o8 o9 o10 o11 o12, σ = [some (.ref a), some (.ref p), o2, o3, o4, o5, o6, o7, o8, o9, o10, o11, o12]) ⟨t1.mono (by omega), hTab1, _, _, _, _, _, _, _, _, _, _, _, rfl⟩ ?_ ?_⟩
    · rw [List.length_map]
      exact congrArg (fun t : Int => [V.int t]) (by split <;> omega)
    · rintro i σ H1 hi ⟨t1, tb1, o2, o3, o4, o5, o6, o7, o8, o9, o10, o11, o12, rfl⟩
      have hi6 : i < 6 := by omega
      refine ⟨⟨_, rfl⟩, _, rfl, _, rfl, Nat.le_of_ble_eq_true rfl, fun l hl => ⟨p, c0, l, i * 1000, [.str "abcd", .str "mzkq", .str "wxyz"], rfl, t1.same (same_upd hl), by omega, SqL.of upd_same, by decide, by decide, fun j x H2 hx s2 t2 => ?_⟩⟩
      have ul := same_upd (o := .lst [.str "abcd", .str "mzkq", .str "wxyz"]) hl
      obtain ⟨z, rfl, hz⟩ : ∃ z, x = .str z ∧ alph z := by
        rcases j with _ | _ | _ | j
        · cases hx; exact ⟨_, rfl, .inl rfl⟩
        · cases hx; exact ⟨_, rfl, .inr (.inl rfl)⟩
        · cases hx; exact ⟨_, rfl, .inr (.inr rfl)⟩
        · cases hx
      have hzl : (SM.signs z).length = 4 := by rw [signs_len]; exact (alph_ok hz).2.1
      refine ⟨p, c0, _, _, SM.signs z, rfl, t2, by omega, .inl ⟨z, rfl, rfl⟩, by omega, fun sh ys H3 hpm s3 t3 hsh hsh3 => ?_⟩
      refine noPart ⟨_, rfl, p, c0, _, 4, rfl, t3, by omega, by decide, by decide, fun d H4 hd4 s4 t4 => i0 (v := .int ((1 + d : Nat) : Int)) (congrArg V.int (by omega)) ⟨_, rfl, sh, _, rfl, SqL.of (s4 _ _ (t2.ne hsh).1 hsh3), fun l2 hl2 => ?_⟩⟩
      rw [cutT, ← List.map_take]
      obtain ⟨cs, ecs, hcl, hcn, hcs⟩ := hues_ok hz hpm hd4
      rw [ecs]
      refine ⟨_, l2, cs.map sing, rfl, rfl, .inl (SqL.of upd_same), ?_, ?_⟩
      · rw [sum_sing, List.length_map]
        show cs.length + cs.length * 0 ≤ _
        omega
      rw [join_sing]
      have hcb := col_ok (by omega) (by omega) hcn hcs
      have hcbr : colB ⟨(⟨cs.toArray⟩ : Str).cps.reverse⟩ = true := by
        show colB ⟨cs.toArray.reverse⟩ = true
        rw [List.reverse_toArray]
        exact col_ok (by rw [List.length_reverse]; omega) (by rw [List.length_reverse]; omega) ((List.reverse_perm cs).nodup_iff.mpr hcn) (fun x hx => hcs x (List.mem_reverse.mp hx))
      have hclen : (⟨cs.toArray⟩ : Str).length = 1 + d := by show cs.toArray.size = _; rw [List.size_toArray]; exact hcl
      have sb4 : SameBut p H1 (upd H4 l2 (.lst ((cs.map sing).map V.str))) := (Same.but p ul).trans (s2.trans (s3.trans (s4.trans (Same.but p (same_upd hl2)))))
      have t5 := (t4.same (same_upd (o := .lst ((cs.map sing).map V.str)) hl2)).mono (show _ ≤ i * 1000 + 10 by omega)
      have hlets := colB_let hcb
      generalize (⟨cs.toArray⟩ : Str) = c at hcb hcbr hclen hlets ⊢
      generalize upd H4 l2 (.lst ((cs.map sing).map V.str)) = H5 at sb4 t5 ⊢
      have tb5 : Tabs (TS K) H5 := by
        obtain ⟨k1, e1⟩ := t1.dict
        exact Tabs.but tb1 sb4 e1
      clear sb4 s4 s3 s2 t4 t3 t2 hl2 hsh3 hsh hl ul hpm hx ecs hcl hcn hcs
      refine ⟨_, rfl, _, rfl, p, c0, _, c, rfl, t5, by omega, by omega, fun pa ps H6 hps hpl s6 t6 hpa hpa6 => ⟨_, rfl, _, rfl, p, c0, _, c, rfl, t6, by omega, by omega, fun sa ls H7 hln hls hll s7 t7 hsa hsa7 => ⟨_, _, rfl, ?_⟩⟩⟩
      have tb7 : Tabs (TS K) H7 := by
        obtain ⟨k1, e1⟩ := t5.dict
        exact Tabs.but tb5 (s6.trans s7) e1
      have hpa7 := s7 _ _ (t5.ne hpa).1 hpa6
      have hcan : ∀ x ∈ ps.map sortS, PyData.canLay0 (.str x) = true := fun x hx => by
        obtain ⟨q, hq, rfl⟩ := List.mem_map.mp hx
        exact can_pair hlets (hps q hq)
      have hsig : ∀ y ∈ SM.signs "az.k", signB y = true ∧ y.length ≤ 1000 ∧ y ≠ "q" := by decide +kernel
      have hlq : ∀ c', (∀ z : Str, hasB z c = true → hasB z c' = true) → ∀ q ∈ ls, signB q.1 = true ∧ hasB q.2 c' = true ∧ q.1.length ≤ 1000 ∧ q.2.length ≤ 1000 := fun c' hc' q hq => ⟨(hsig _ (hls q hq).1).1, hc' _ (hls q hq).2.1, (hsig _ (hls q hq).1).2.1, by have := (hls q hq).2.2; omega⟩
      refine ⟨_, rfl, pa, _, rfl, .inl (SqL.of hpa7), fun ha hha => ⟨_, rfl, sa, _, rfl, .inl (same_upd hha _ _ hsa7), fun to hto => ⟨_, _, rfl, ?_⟩⟩⟩
      have uu : Same H7 (upd (upd H7 ha (.lst (ps.map V.str))) to (.dK (ls.map entK))) := (same_upd hha).trans (same_upd hto)
      have hha9 : (upd (upd H7 ha (.lst (ps.map V.str))) to (.dK (ls.map entK))) ha = some (.lst (ps.map V.str)) := same_upd hto _ _ upd_same
      have hto9 : (upd (upd H7 ha (.lst (ps.map V.str))) to (.dK (ls.map entK))) to = some (.dK (ls.map entK)) := upd_same
      have nto : to ≠ ha := fun e => by rw [e, upd_same] at hto; cases hto
      have hto7 := fresh_back (same_upd hha) hto
      have npa : pa ≠ ha := fun e => by rw [← e, hpa7] at hha; cases hha
      have nsa : sa ≠ to := fun e => by rw [← e, hsa7] at hto7; cases hto7
      obtain ⟨nhp, nhc⟩ := t7.ne hha
      obtain ⟨ntp, ntc⟩ := t7.ne hto7
      have L9 : Lw K p c0 pa sa (i * 1000 + 300) ps ls _ := Lw.same ⟨t7.mono (by omega), tb7, hpa7, hsa7⟩ uu
      generalize upd (upd H7 ha (.lst (ps.map V.str))) to (.dK (ls.map entK)) = H9 at uu hha9 hto9 L9 ⊢
      refine ⟨_, rfl, _, rfl, _, rfl, rfl, rfl, fun m dx hm hdx hne => mk_rule (c := c) (ps := ps) (ls := ls) hm hdx hne hcb (by omega) (.inl (SqL.of hha9)) hps (by omega) ⟨.inr ⟨to, rfl, hto9⟩, by omega, hln, hlq c fun z h => h⟩ fun H10 s10 R10 => ?_⟩
      have L10 := L9.same s10
      have hha10 := s10 _ _ hha9
      have hto10 := s10 _ _ hto9
      refine ⟨_, rfl, .inl ⟨rfl, _, SqL.of hha10⟩, ha, _, _, rfl, rfl, hha10, small1000 (by rw [List.length_map]; omega), ?_⟩
      have R11 := R10.updL (o := .lst (ps.map V.str ++ [.str "zz"])) hha10
      have L11 : Lw K p c0 pa sa (i * 1000 + 300) ps ls (upd H10 ha (.lst (ps.map V.str ++ [.str "zz"]))) := ⟨L10.pen.updL nhp nhc, tabs_upd L10.tab hha10, by rw [upd_ne npa]; exact L10.prs, by rw [upd_ne (fun e => by rw [← e, L10.sgs] at hha10; cases hha10)]; exact L10.sgs⟩
      have hto11 : (upd H10 ha (.lst (ps.map V.str ++ [.str "zz"]))) to = some (.dK (ls.map entK)) := by rw [upd_ne nto]; exact hto10
      generalize upd H10 ha (.lst (ps.map V.str ++ [.str "zz"])) = H11 at R11 L11 hto11 ⊢
      refine ⟨_, rfl, to, _, rfl, DPut.k (k := Sum.inr "q") hto11 (small1000 (by rw [List.length_map]; omega)), ?_⟩
      have R12 := R11.updD (o := .dK (putK (ls.map entK) (Sum.inr "q") (.str ""))) hto11 hto9
      have L12 : Lw K p c0 pa sa (i * 1000 + 300) ps ls (upd H11 to (.dK (putK (ls.map entK) (Sum.inr "q") (.str "")))) := ⟨L11.pen.updL ntp ntc, tabs_updD L11.tab hto11, by rw [upd_ne (fun e => by rw [← e, L11.prs] at hto11; cases hto11)]; exact L11.prs, by rw [upd_ne nsa]; exact L11.sgs⟩
      generalize upd H11 to (.dK (putK (ls.map entK) (Sum.inr "q") (.str ""))) = H12 at R12 L12 ⊢
      clear L11 R11 hto11 hto10 hha10 L10 R10 hto9 hha9 L9 uu
      dsimp only
      refine if_noS (fun H13 => Lw K p c0 pa sa (i * 1000 + 300) ps ls H13 ∧ RuleAt K H9 H13 m c ps ls) (fun Q1 k1 => ?_) (fun H13 ⟨L13, R13⟩ => ?_)
      · exact ⟨_, rfl, _, rfl, _, rfl, _, rfl, m, pa, sa, H9, c, ps, ls, rfl, R12, by omega, L12.prs, hps, hpl, hcan, L12.sgs, hln, hll, (fun q hq => (hls q hq).2.2), fun H' s' => ⟨_, rfl, k1 _ ⟨L12.same s', R12.same s'⟩⟩⟩
      clear L12 R12
      have hrv : ∀ z : Str, hasB z c = true → hasB z ⟨c.cps.reverse⟩ = true := fun z h => by
        refine List.all_eq_true.mpr fun x hx => decide_eq_true ?_
        show x ∈ c.cps.reverse.toList
        rw [Array.toList_reverse]
        exact List.mem_reverse.mpr (of_decide_eq_true (List.all_eq_true.mp h x hx))
      have hcrl : (⟨c.cps.reverse⟩ : Str).length ≤ 1000 := by show c.cps.reverse.size ≤ 1000; rw [Array.size_reverse]; have : c.cps.size = c.length := rfl; omega
      refine ⟨_, rfl, c, rfl, by omega, _, rfl, pa, _, rfl, SqL.of L13.prs, fun rl hrl => ⟨rl, rfl, ⟨_, SqL.of upd_same⟩, fun D hD => ?_⟩⟩
      have ur := same_upd (o := .lst (ps.map V.str).reverse) hrl
      have hrl13 : (upd H13 rl (.lst (ps.map V.str).reverse)) rl = some (.lst (ps.map V.str).reverse) := upd_same
      have L14 := L13.same ur
      have R14 := R13.same ur
      generalize upd H13 rl (.lst (ps.map V.str).reverse) = H14 at ur hrl13 L14 R14 hD ⊢
      refine lc_map (fun v => V.str ⟨(strOf v).cps.reverse⟩) hD (by rw [List.length_reverse, List.length_map]; omega) (gvs_list (SqL.of hrl13)) (fun v => rfl) (fun i2 x H15 R hx s15 r => ?_) fun H15 s15 hD15 => ?_
      · have hxm : x ∈ ps.map V.str := List.mem_reverse.mp (List.mem_of_getElem? hx)
        obtain ⟨q, hq, rfl⟩ := List.mem_map.mp hxm
        exact ⟨_, rfl, q, rfl, (by have := (hps q hq).1; omega), r _ (Same.refl _)⟩
      have L15 := L14.same s15
      have R15 := R14.same s15
      have e15 : (ps.map V.str).reverse.map (fun v => V.str ⟨(strOf v).cps.reverse⟩) = (ps.reverse.map fun q => (⟨q.cps.reverse⟩ : Str)).map V.str := by
        rw [← List.map_reverse, List.map_map, List.map_map]
        rfl
      rw [e15] at hD15
      have hps2 : ∀ q ∈ (ps.reverse.map fun q => (⟨q.cps.reverse⟩ : Str)), PairC ⟨c.cps.reverse⟩ q := fun q hq => by
        obtain ⟨q', hq', rfl⟩ := List.mem_map.mp hq
        have h := pairC_rev (hps q' (List.mem_reverse.mp hq'))
        exact ⟨h.1, hrv _ h.2⟩
      have hpl2 : (ps.reverse.map fun q => (⟨q.cps.reverse⟩ : Str)).length ≤ 32 := by rw [List.length_map, List.length_reverse]; exact hpl
      have hmem : ∀ y, y ∈ ps.map sortS ↔ y ∈ (ps.reverse.map fun q => (⟨q.cps.reverse⟩ : Str)).map sortS := fun y => by
        rw [List.map_map]
        have e : (sortS ∘ fun q : Str => (⟨q.cps.reverse⟩ : Str)) = sortS := funext fun q => sortS_rev q
        rw [e, List.mem_map, List.mem_map]
        constructor
        · rintro ⟨q, h, rfl⟩
          exact ⟨q, List.mem_reverse.mpr h, rfl⟩
        · rintro ⟨q, h, rfl⟩
          exact ⟨q, List.mem_reverse.mp h, rfl⟩
      generalize (ps.reverse.map fun q => (⟨q.cps.reverse⟩ : Str)) = ps2 at hD15 hps2 hpl2 hmem ⊢
      refine ⟨D, _, rfl, .inl ⟨SqL.of hD15, fun tt htt => ⟨_, rfl, fun tw dx2 htw hdx2 hne2 => ?_⟩⟩⟩
      have ut := same_upd (o := .tup (ps2.map V.str)) htt
      have L16 := L15.same ut
      have R16 := R15.same ut
      have htt16 : (upd H15 tt (.tup (ps2.map V.str))) tt = some (.tup (ps2.map V.str)) := upd_same
      generalize upd H15 tt (.tup (ps2.map V.str)) = H16 at ut L16 R16 htt16 htw hdx2 ⊢
      refine mk_rule (c := ⟨c.cps.reverse⟩) (ps := ps2) (ls := ls) htw hdx2 hne2 hcbr hcrl (.inr (SqT.of htt16)) hps2 (by omega) ⟨.inr ⟨sa, rfl, L16.sgs⟩, by omega, hln, hlq _ hrv⟩ fun H17 s17 W17 => ?_
      have L17 := L16.same s17
      have R17 := R16.same s17
      clear L16 R16 L15 R15 L14 R14 hrl13 s17 s15 ur ut hD hrl L13 R13
      refine ⟨_, rfl, _, rfl, _, rfl, sa, _, rfl, L17.sgs, fun H18 ip ts s18 hip hts hnd hip18 hprd => ?_⟩
      have L18 := L17.same s18
      have R18 := R17.same s18
      have W18 := W17.same s18
      refine ⟨Nat.le_of_ble_eq_true rfl, fun tq htq => ⟨Nat.le_of_ble_eq_true rfl, fun lq hlq2 => ?_⟩⟩
      have utq : Same H18 (upd (upd H18 tq (.tup [.str "q", .str ""])) lq (.lst [.ref tq])) := (same_upd htq).trans (same_upd hlq2)
      have htq20 : (upd (upd H18 tq (.tup [.str "q", .str ""])) lq (.lst [.ref tq])) tq = some (.tup [.str "q", .str ""]) := same_upd hlq2 _ _ upd_same
      have hlq20 : (upd (upd H18 tq (.tup [.str "q", .str ""])) lq (.lst [.ref tq])) lq = some (.lst [.ref tq]) := upd_same
      generalize upd (upd H18 tq (.tup [.str "q", .str ""])) lq (.lst [.ref tq]) = H20 at utq htq20 hlq20 ⊢
      have htl : ts.length = ls.length := by rw [Paired.length hprd, List.length_map]
      refine ⟨ip, lq, _, _, rfl, rfl, utq _ _ hip18, hlq20, cz1 (by rw [List.length_map]; show _ + 1 ≤ 1000; omega), fun ca hca => ?_⟩
      have uca := same_upd (o := .lst (ts.map V.ref ++ [.ref tq])) hca
      have hca21 : (upd H20 ca (.lst (ts.map V.ref ++ [.ref tq]))) ca = some (.lst ((ts ++ [tq]).map V.ref)) := by rw [upd_same, List.map_append]; rfl
      have htq21 := uca _ _ htq20
      have hprd21 : Paired (fun (t : Addr) (q : Key × V) => SqT K (upd H20 ca (.lst (ts.map V.ref ++ [.ref tq]))) t [kV q.1, q.2]) (ts ++ [tq]) ((ls ++ [qe]).map entK) := by
        rw [List.map_append]
        exact Paired.append (Paired.mapP hprd fun t q h => SqT.of ((utq.trans uca) _ _ h)) (SqT.of htq21)
      have L21 := L18.same (utq.trans uca)
      have R21 := R18.same (utq.trans uca)
      have W21 := W18.same (utq.trans uca)
      generalize upd H20 ca (.lst (ts.map V.ref ++ [.ref tq])) = H21 at uca hca21 htq21 hprd21 L21 R21 W21 ⊢
      have hln2 : ((ls ++ [qe]).map (·.1)).Nodup := by
        rw [List.map_append, List.nodup_append]
        refine ⟨hln, by simp, fun y hy z hz e => ?_⟩
        obtain ⟨q, hq, rfl⟩ := List.mem_map.mp hy
        rw [List.map_cons, List.map_nil, List.mem_singleton] at hz
        exact (hsig _ (hls q hq).1).2.2 (e.trans hz)
      refine ⟨ca, ts ++ [tq], _, rfl, SqL.of hca21, hprd21, fun dd hdd => fun ot dx3 hot hdx3 hne3 => ?_⟩
      rw [merge_nd (by rw [entK_keys]; exact inr_nodup hln2)] at hot hdx3 ⊢
      have udd := same_upd (o := .dK ((ls ++ [qe]).map entK)) hdd
      have hdd22 : (upd H21 dd (.dK ((ls ++ [qe]).map entK))) dd = some (.dK ((ls ++ [qe]).map entK)) := upd_same
      have L22 := L21.same udd
      have R22 := R21.same udd
      have W22 := W21.same udd
      generalize upd H21 dd (.dK ((ls ++ [qe]).map entK)) = H22 at udd hdd22 L22 R22 W22 hot hdx3 ⊢
      refine mk_rule (c := c) (ps := ps) (ls := ls ++ [qe]) hot hdx3 hne3 hcb (by omega) (.inl (SqL.of L22.prs)) hps (by omega) ⟨.inr ⟨dd, rfl, hdd22⟩, by rw [List.length_append]; show _ + 1 < 64; omega, hln2, fun q hq => ?_⟩ fun H23 s23 O23 => ?_
      · rcases List.mem_append.mp hq with h | h
        · exact hlq c (fun z h => h) q h
        · rw [List.mem_singleton.mp h]
          exact ⟨by decide +kernel, rfl, by decide, by decide⟩
      have L23 := L22.same s23
      have R23 := R22.same s23
      have W23 := W22.same s23
      clear L22 R22 W22 L21 R21 W21 L18 R18 W18 L17 R17 W17 hdd22 udd hca21 htq21 hprd21 uca hca htq20 hlq20 utq hprd hip18 s18
      obtain ⟨dx4, fs4, hins⟩ := R23.ins
      have nef : ls.length ≠ (ls ++ [qe]).length := by rw [List.length_append]; show _ ≠ _ + 1; omega
      dsimp only
      refine if_noS (fun H24 => H24 = H23) (fun Q1 k1 => ?_) (fun H24 e24 => ?_)
      · refine ⟨_, rfl, _, rfl, m, dx4, fs4, _, rfl, hins, RuleAt.ty T W23, nf_rule, eq_rule (T := T) R23 W23 (sortS_rev c).symm hmem (by omega) hln hln hcan (.inl ⟨List.Perm.refl _, _, rfl, iteF ?_⟩)⟩
        refine ⟨_, rfl, _, rfl, m, dx4, fs4, _, rfl, hins, RuleAt.ty T W23, nf_rule, eq_rule (T := T) R23 W23 (sortS_rev c).symm hmem (by omega) hln hln hcan (.inl ⟨List.Perm.refl _, _, rfl, _, rfl, iteF ?_⟩)⟩
        refine ⟨_, rfl, _, rfl, m, dx4, fs4, _, rfl, hins, RuleAt.ty T O23, nf_rule, eq_rule (T := T) R23 O23 rfl (fun _ => Iff.rfl) (by omega) hln hln2 hcan (.inr ⟨nef, _, rfl, iteF ?_⟩)⟩
        exact ⟨_, rfl, _, rfl, m, dx4, fs4, _, rfl, hins, RuleAt.ty T O23, nf_rule, eq_rule (T := T) R23 O23 rfl (fun _ => Iff.rfl) (by omega) hln hln2 hcan (.inr ⟨nef, _, rfl, _, rfl, k1 _ rfl⟩)⟩
      subst e24
      refine if_noS (fun H24 => Lw K p c0 pa sa (i * 1000 + 300) ps ls H24 ∧ RuleAt K H9 H24 m c ps ls) (fun Q1 k1 => ?_) (fun H30 ⟨L30, R30⟩ => ?_)
      · refine ⟨_, rfl, _, rfl, _, rfl, Nat.le_of_ble_eq_true rfl, fun tu htu => ⟨Nat.le_of_ble_eq_true rfl, fun vl hvl => ⟨vl, rfl, ⟨_, SqL.of upd_same⟩, fun D2 hD2 => ?_⟩⟩⟩
        have uv : Same H24 (upd (upd H24 tu (.tup [])) vl (.lst [.non, .str c, .ref pa, .ref sa, .ref tu])) := (same_upd htu).trans (same_upd hvl)
        have htu25 : (upd (upd H24 tu (.tup [])) vl (.lst [.non, .str c, .ref pa, .ref sa, .ref tu])) tu = some (.tup []) := same_upd hvl _ _ upd_same
        have hvl25 : (upd (upd H24 tu (.tup [])) vl (.lst [.non, .str c, .ref pa, .ref sa, .ref tu])) vl = some (.lst [.non, .str c, .ref pa, .ref sa, .ref tu]) := upd_same
        have L25 := L23.same uv
        have R25 := R23.same uv
        generalize upd (upd H24 tu (.tup [])) vl (.lst [.non, .str c, .ref pa, .ref sa, .ref tu]) = H25 at uv htu25 hvl25 L25 R25 hD2 ⊢
        have uD2 := same_upd (o := .lst []) hD2
        refine lc_any (xs := [.non, .str c, .ref pa, .ref sa, .ref tu]) (fun _ H26 => H26 = upd H25 D2 (.lst [])) rfl (fun j H26 hj e => gat_list hj (by rw [e]; exact SqL.of (uD2 _ _ hvl25))) (fun j x H26 hx e26 => ?_) (fun H26 e26 => ?_)
        · subst e26
          have L26 := L25.same uD2
          have R26 := R25.same uD2
          have htu26 := uD2 _ _ htu25
          obtain ⟨dx5, fs5, hins5⟩ := R26.ins
          obtain ⟨n, hty, hnf, hkit⟩ : ∃ n, TyX K (upd H25 D2 (.lst [])) x (.type n) ∧ PySem.W.notFirst K (CL_Rule K) (.type n) = true ∧ PySem.W.kitOne K (.type n) (.ref (CL_Rule K)) = some false := by
            rcases j with _ | _ | _ | _ | _ | j
            · cases hx; exact ⟨_, .base .non, nf_ty T.t1_Rule_NoneType, T.k_Rule_NoneType⟩
            · cases hx; exact ⟨_, .base (.str _), nf_ty T.t1_Rule_str, T.k_Rule_str⟩
            · cases hx; exact ⟨_, .base (.lst L26.prs), nf_ty T.t1_Rule_list, T.k_Rule_list⟩
            · cases hx; exact ⟨_, .base (.dK L26.sgs), nf_ty T.t1_Rule_dict, T.k_Rule_dict⟩
            · cases hx; exact ⟨_, .base (.tup htu26), nf_ty T.t1_Rule_tuple, T.k_Rule_tuple⟩
            · cases hx
          refine ⟨rfl, _, rfl, _, rfl, m, dx5, fs5, _, rfl, hins5, hty, hnf, m, x, rfl, .inl ⟨_, hty, hkit, _, rfl, iteF ?_⟩⟩
          exact ⟨_, rfl, _, rfl, m, dx5, fs5, _, rfl, hins5, hty, hnf, m, x, rfl, .inl ⟨_, hty, hkit, _, rfl, _, rfl, iteF rfl⟩⟩
        · subst e26
          have L26 := L25.same uD2
          have R26 := R25.same uD2
          have hD26 : (upd H25 D2 (.lst [])) D2 = some (.lst []) := upd_same
          generalize upd H25 D2 (.lst []) = H26 at L26 R26 hD26 ⊢
          refine ⟨Nat.le_of_ble_eq_true rfl, fun nl hnl => ⟨D2, nl, [], rfl, rfl, SqL.of (same_upd hnl _ _ hD26), SqL.of upd_same, _, rfl, ?_⟩⟩
          exact k1 _ ⟨L26.same (same_upd hnl), R26.same (same_upd hnl)⟩
      refine if_noS (fun H24 => Lw K p c0 pa sa (i * 1000 + 300) ps ls H24 ∧ RuleAt K H9 H24 m c ps ls) (fun Q1 k1 => ?_) (fun H40 ⟨L40, R40⟩ => ?_)
      · refine ⟨_, rfl, fun nd hnd => ?_⟩
        have un := same_upd (o := .dK []) hnd
        have hnd31 : (upd H30 nd (.dK [])) nd = some (.dK []) := upd_same
        have L31 := L30.same un
        have R31 := R30.same un
        generalize upd H30 nd (.dK []) = H31 at un hnd31 L31 R31 ⊢
        by_cases hls0 : ls = []
        · subst hls0
          refine .inl ⟨sa, nd, [], [], rfl, rfl, L31.sgs, hnd31, rfl, (fun q hq => nomatch hq), _, rfl, iteT ?_⟩
          refine ⟨_, rfl, _, rfl, fun x5 dx5 hx5 hdx5 hne5 => mk_rule (c := c) (ps := ps) (ls := []) hx5 hdx5 hne5 hcb (by omega) (.inl (SqL.of L31.prs)) hps (by omega) ⟨.inl ⟨rfl, rfl⟩, by decide, hln, (fun q hq => nomatch hq)⟩ fun H32 s32 V32 => ?_⟩
          have L32 := L31.same s32
          have R32 := R31.same s32
          obtain ⟨dx6, fs6, hins6⟩ := V32.ins
          exact ⟨_, rfl, x5, dx6, fs6, _, rfl, hins6, RuleAt.ty T R32, nf_rule, eq_rule (T := T) V32 R32 rfl (fun _ => Iff.rfl) (by omega) hln hln hcan (.inl ⟨List.Perm.refl _, _, rfl, k1 _ ⟨L32, R32⟩⟩)⟩
        · refine .inr ⟨sa, nd, _, [], rfl, rfl, L31.sgs, hnd31, ?_, _, rfl, iteF (k1 _ ⟨L31, R31⟩)⟩
          rw [List.length_map]
          exact fun e => hls0 (List.eq_nil_of_length_eq_zero e)
      refine if_no (fun H24 => PenOk H24 p c0 (i * 1000 + 310) ∧ Tabs (TS K) H24) (fun Q1 k1 => ?_) (fun H50 ⟨t50, tb50⟩ => ?_)
      · exact ⟨_, rfl, _, rfl, _, rfl, _, rfl, p, c0, pa, _, c, ps, .ref sa, rfl, L40.pen, by omega, hcb, by omega, by omega, L40.prs, hps, hpl, L40.tab, fun H' x' t' tb' => ⟨_, rfl, k1 _ ⟨t'.mono (by omega), tb'⟩⟩⟩
      exact ⟨t50.mono (by omega), tb50, _, _, _, _, _, _, _, _, _, _, _, rfl⟩
    · rintro σ H2 ⟨_, _, _⟩
      exact k _
end
end R4
set_option Elab.async false
set_option linter.all false
set_option maxRecDepth 100000
set_option maxHeartbeats 0
namespace R4
open PySem L2 PySem.GW
def dfs : List He.FnD := ([⟨("is_list", none), "is_list", "is_list", defArgs s_is_list, defBody s_is_list, defScope s_is_list⟩, ⟨("are_colours", none), "are_colours", "are_colours", defArgs s_are_colours, defBody s_are_colours, defScope s_are_colours⟩, ⟨("has_colours", none), "has_colours", "has_colours", defArgs s_has_colours, defBody s_has_colours, defScope s_has_colours⟩, ⟨("is_sign", none), "is_sign", "is_sign", defArgs s_is_sign, defBody s_is_sign, defScope s_is_sign⟩, ⟨("need_beside", none), "need_beside", "need_beside", defArgs s_need_beside, defBody s_need_beside, defScope s_need_beside⟩, ⟨("need_letters", none), "need_letters", "need_letters", defArgs s_need_letters, defBody s_need_letters, defScope s_need_letters⟩, ⟨("_law_begin", none), "_law_begin", "_law_begin", defArgs s__law_begin, defBody s__law_begin, defScope s__law_begin⟩, ⟨("_law_draw", none), "_law_draw", "_law_draw", defArgs s__law_draw, defBody s__law_draw, defScope s__law_draw⟩, ⟨("_law_pick", none), "_law_pick", "_law_pick", defArgs s__law_pick, defBody s__law_pick, defScope s__law_pick⟩, ⟨("_law_shuffled", none), "_law_shuffled", "_law_shuffled", defArgs s__law_shuffled, defBody s__law_shuffled, defScope s__law_shuffled⟩, ⟨("_law_refused", none), "_law_refused", "_law_refused", defArgs s__law_refused, defBody s__law_refused, defScope s__law_refused⟩, ⟨("_law_is_rule", none), "_law_is_rule", "_law_is_rule", defArgs s__law_is_rule, defBody s__law_is_rule, defScope s__law_is_rule⟩, ⟨("_law_strange", none), "_law_strange", "_law_strange", defArgs s__law_strange, defBody s__law_strange, defScope s__law_strange⟩, ⟨("_law_pairs_of", none), "_law_pairs_of", "_law_pairs_of", defArgs s__law_pairs_of, defBody s__law_pairs_of, defScope s__law_pairs_of⟩, ⟨("_law_letters_of", none), "_law_letters_of", "_law_letters_of", defArgs s__law_letters_of, defBody s__law_letters_of, defScope s__law_letters_of⟩, ⟨("_law_refusals_right", none), "_law_refusals_right", "_law_refusals_right", defArgs s__law_refusals_right, defBody s__law_refusals_right, defScope s__law_refusals_right⟩, ⟨("law", none), "law", "law", defArgs s_law, defBody s_law, defScope s_law⟩, ⟨("Rule", some "__eq__"), "__eq__", "Rule.__eq__", defArgs s_Rule___eq__, defBody s_Rule___eq__, defScope s_Rule___eq__⟩] : List He.FnD)
def fws : List He.DefD := ([⟨("Rule", some "__init__"), "__init__", "Rule.__init__", defArgs s_Rule___init__, defBody s_Rule___init__, defScope s_Rule___init__, [.non], []⟩] : List He.DefD)
def xsL : List Str := (["BadRule"] : List Str)
def ysL : List IniV := ([iniVal (inClass (top 3) 0)] : List IniV)
def tfs : List He.Defn := ([("_law_refusals_right", none)] : List He.Defn)
def fileN : Str := PW.main.file
def gB (K : PySem.W.Frag) (x : Str) : Bool := He.eqO (PySem.W.nsIn K mainGlobals x) (some (some (.ref (He.ga K x)))) && PySem.W.keepIn K (.ref (He.ga K x))
def fns : List Str := (["is_list", "are_colours", "has_colours", "is_sign", "need_beside", "need_letters", "_law_begin", "_law_draw", "_law_pick", "_law_shuffled", "_law_refused", "_law_is_rule", "_law_strange", "_law_pairs_of", "_law_letters_of", "_law_refusals_right", "law"] : List Str)
def frees : List Str := (["isinstance", "int", "bool", "list", "tuple", "len", "min", "abs", "sum", "all", "range", "super", "str", "dict", "set", "sorted", "ValueError"] : List Str)
def fas : List He.Fa := ([.int "MOST_COLOURS" (4), .str "LETTERS" "abcdefghijklmnopqrstuvwxyz", .cls "Rule", .noat "Rule" "colours", .noat "Rule" "beside", .noat "Rule" "letters", .mkr "Rule", .meth "Rule" "__init__", .meth "Rule" "__eq__"] : List He.Fa)
def xfs : List (Str × List Str) := ([("BadRule", ["value"])] : List (Str × List Str))
def clss : List Str := (["Rule"] : List Str)
def exs0 (K : PySem.W.Frag) : Bool := (He.eqO (PySem.W.findIn K (.ref (CL_Rule K)) "__class__") (some (some (.builtin "object.__class__"))) && (He.eqO (PySem.W.specialIn K (.builtin "object.__class__") "__get__") (some (some (.builtin "getset_descriptor.__get__"))) && (decide (PySem.W.takesIn K (.builtin "object.__class__") = some true) && (decide (PySem.W.mroIn K (CL_Rule K) (.type "object") = some true) && (decide (PySem.W.kitOne K (.ref (CL_Rule K)) (.ref (CL_Rule K)) = some true) && (decide (PySem.W.kitOne K (.type "tuple") (.ref (CL_Rule K)) = some false) && (decide (PySem.W.kitOne K (.type "list") (.ref (CL_Rule K)) = some false) && (decide (PySem.W.kitOne K (.type "int") (.ref (CL_Rule K)) = some false) && (decide (PySem.W.kitOne K (.type "str") (.ref (CL_Rule K)) = some false) && (decide (PySem.W.kitOne K (.type "bool") (.ref (CL_Rule K)) = some false) && (decide (PySem.W.kitOne K (.type "NoneType") (.ref (CL_Rule K)) = some false) && (decide (PySem.W.kitOne K (.type "float") (.ref (CL_Rule K)) = some false) && (decide (PySem.W.kitOne K (.type "dict") (.ref (CL_Rule K)) = some false) && ((PySem.W.selfFirst K (CL_Rule K) == true) && (He.eqO (PySem.W.findIn K (.ref (CL_Rule K)) "__ne__") (some (some (.builtin "object.__ne__"))) && (decide (PySem.W.subIn K (.ref (CL_Rule K)) (.type "object") = some true) && (decide (PySem.W.subIn K (.type "tuple") (.ref (CL_Rule K)) = some false) && (decide (PySem.W.subIn K (.ref (CL_Rule K)) (.type "tuple") = some false) && (decide (PySem.W.subIn K (.type "list") (.ref (CL_Rule K)) = some false) && (decide (PySem.W.subIn K (.ref (CL_Rule K)) (.type "list") = some false) && (decide (PySem.W.subIn K (.type "str") (.ref (CL_Rule K)) = some false) && (decide (PySem.W.subIn K (.ref (CL_Rule K)) (.type "str") = some false) && (decide (PySem.W.subIn K (.type "dict") (.ref (CL_Rule K)) = some false) && (decide (PySem.W.subIn K (.ref (CL_Rule K)) (.type "dict") = some false) && decide (PySem.W.subIn K (.type "NoneType") (.ref (CL_Rule K)) = some false)))))))))))))))))))))))))
def exs1 (K : PySem.W.Frag) : Bool := (decide (PySem.W.subIn K (.ref (CL_Rule K)) (.type "NoneType") = some false) && (decide (PySem.W.exmOne K (.ref (He.ga K "BadRule")) (.ref (He.ga K "BadRule")) = some true) && decide (PySem.W.kitOne K (.ref (He.ga K "BadRule")) (.type "ValueError") = some true)))
def tup0B (K : PySem.W.Frag) (a : Addr) : Bool := match K.lookup a with
  | some o => decide (o.cls = .type "tuple") && (match o.data with
    | .seq its _ => its.isEmpty
    | _ => false)
  | none => false
def fb (K : PySem.W.Frag) : Bool := ((fns.all fun x => gB K x) && ((frees.all fun x => He.eqO (PySem.W.nsIn K mainGlobals x) (some none)) && (gB K "WebError" && ((clss.all fun x => gB K x) && (He.eqO (PySem.W.nsIn K cStatics "thirdparty.any") (some none) && ((xfs.all fun p => xB fileN K p.1 p.2) && ((fas.all fun f => f.ok K) && (exs0 K && exs1 K))))))))
abbrev RW : PySem.W.OpenRow := PySem.W.OpenLaw.row PySem.Challenge.rw_growwebs_k58_rules_and_refusals
def hk : PySem.W.Hook := hook3 6 fb dfs xsL ysL fws tfs
def ob (s : PySem.W.SharedT) : Al3 × Bool := obs3G 6 fb dfs xsL fws tfs (HandSHeadRun.getT s)
theorem ob_eq (s : PySem.W.SharedT) : ob s = hk.obs s.abs := obs3G_eq (HandSHeadRun.getT_eq s)
def loose : List Str := (["_wall", "WebError", "BadRule", "LETTERS", "is_list", "MOST_COLOURS", "are_colours", "has_colours", "is_sign", "need_beside", "need_letters", "Rule", "_law_begin", "_law_draw", "_law_pick", "_law_shuffled", "_law_refused", "_law_is_rule", "_law_strange", "_law_pairs_of"] : List Str) ++ (["_law_letters_of", "_law_refusals_right"] : List Str)
theorem run (w : World) : HandSHeadRun.RunEq RW (PySem.W.view RW.prog [26]) hk ob 20000 loose w := by
  intro os
  kernel_rfl
end R4
set_option Elab.async false
set_option linter.all false
set_option maxRecDepth 100000
set_option maxHeartbeats 0
namespace R4
open PySem L2 PySem.GW LamX
theorem ptop : (PW.main.scope.names.lookup (Str.ofString "super")).isSome = false := by decide +kernel
section
variable {K : PySem.W.Frag}
theorem fun_at {x qual : Str} {st : Stmt} {f : Addr} (h : ∃ oc od osl kV doc pm an cdv ct, K.lookup f = some ⟨oc, od, .func (PySem.W.fnOf x qual (defArgs st) (defBody st) (defScope st) .none kV doc pm an cdv ct), osl⟩ ∧ PySem.W.codeIn K cdv qual = true) (kp : PySem.W.keepIn K (.ref f) = true) : Fun K x qual st f (fdOf K f) := by
  obtain ⟨oc, od, osl, kV, doc, pm, an, cdv, ct, lk, cd⟩ := h
  have e : fdOf K f = PySem.W.fnOf x qual (defArgs st) (defBody st) (defScope st) .none kV doc pm an cdv ct := by
    unfold fdOf
    rw [lk]
  rw [e]
  exact fun_mk lk cd kp
theorem tup0_ok {a : Addr} (h : tup0B K a = true) (H : Hp) : SqT K H a [] := by
  unfold tup0B at h
  cases hl : K.lookup a with
  | none => rw [hl] at h; cases h
  | some o =>
    rw [hl] at h
    simp only [Bool.and_eq_true] at h
    obtain ⟨h1, h2⟩ := h
    obtain ⟨cls, dd, data, sl⟩ := o
    cases data with
    | seq its n =>
      have e : its = #[] := Array.isEmpty_iff.mp h2
      subst e
      exact .inr ⟨_, #[], n, hl, of_decide_eq_true h1, rfl, Nat.zero_le _, .nil⟩
    | _ => cases h2
theorem funD_at {x qual : Str} {params : Arguments} {body : List Stmt} {scope : Scope} {dvs : List V} {kws : List (Str × V)} {f : Addr} (h : ∃ fd, FunD K x qual params body scope dvs kws f fd) : FunD K x qual params body scope dvs kws f (fdOf K f) := by
  obtain ⟨fd, F⟩ := h
  obtain ⟨oc, od, dV, kV, doc, pm, an, cdv, ct, osl, e, lk, r⟩ := F.ex
  have e2 : fdOf K f = fd := by
    unfold fdOf
    rw [lk]
  rw [e2]
  exact F
end
theorem top_of {K : PySem.W.Frag} {h : Heap} {mg : Str → Option Value} (X : K.In h) (G : h.Ns mainGlobals mg) (c : Says3 fb dfs xsL ysL fws tfs h K) : Top K mg ∧ (True) := by
  have a := c.all
  unfold fb at a
  simp only [Bool.and_eq_true] at a
  obtain ⟨aF, aN, aW, aC, aO, aX, aA, aE0, aE1⟩ := a
  refine ⟨?_, trivial⟩
  have gl : ∀ {x : Str}, gB K x = true → mg x = some (.ref (He.ga K x)) ∧ PySem.W.keepIn K (.ref (He.ga K x)) = true := fun {x} q => by
    unfold gB at q
    simp only [Bool.and_eq_true] at q
    exact ⟨PySem.W.mg_of X G (He.eqO_ok q.1), q.2⟩
  have fr : ∀ (i : Nat) {x : Str}, frees[i]? = some x → mg x = none := fun i {x} q => PySem.W.mg_none_of X G (He.eqO_ok (all_at aN i q))
  have opq := He.eqO_ok aO
  have fa_ : ∀ (i : Nat) {f : He.Fa}, fas[i]? = some f → f.ok K = true := fun i {f} q => all_at aA i q
  unfold exs0 at aE0
  try simp only [Bool.and_eq_true] at aE0
  obtain ⟨e0_0, e0_1, e0_2, e0_3, e0_4, e0_5, e0_6, e0_7, e0_8, e0_9, e0_10, e0_11, e0_12, e0_13, e0_14, e0_15, e0_16, e0_17, e0_18, e0_19, e0_20, e0_21, e0_22, e0_23, e0_24⟩ := aE0
  unfold exs1 at aE1
  try simp only [Bool.and_eq_true] at aE1
  obtain ⟨e1_0, e1_1, e1_2⟩ := aE1
  have hm_Rule___init__ := He.meth_ok (fa_ 7 (f := .meth "Rule" "__init__") rfl)
  have hm_Rule___eq__ := He.meth_ok (fa_ 8 (f := .meth "Rule" "__eq__") rfl)
  have F_is_list := fun_at (st := s_is_list) (c.def_ 0 (d := ⟨("is_list", none), "is_list", "is_list", defArgs s_is_list, defBody s_is_list, defScope s_is_list⟩) rfl) ((gl (all_at aF 0 (x := "is_list") rfl)).2)
  have F_are_colours := fun_at (st := s_are_colours) (c.def_ 1 (d := ⟨("are_colours", none), "are_colours", "are_colours", defArgs s_are_colours, defBody s_are_colours, defScope s_are_colours⟩) rfl) ((gl (all_at aF 1 (x := "are_colours") rfl)).2)
  have F_has_colours := fun_at (st := s_has_colours) (c.def_ 2 (d := ⟨("has_colours", none), "has_colours", "has_colours", defArgs s_has_colours, defBody s_has_colours, defScope s_has_colours⟩) rfl) ((gl (all_at aF 2 (x := "has_colours") rfl)).2)
  have F_is_sign := fun_at (st := s_is_sign) (c.def_ 3 (d := ⟨("is_sign", none), "is_sign", "is_sign", defArgs s_is_sign, defBody s_is_sign, defScope s_is_sign⟩) rfl) ((gl (all_at aF 3 (x := "is_sign") rfl)).2)
  have F_need_beside := fun_at (st := s_need_beside) (c.def_ 4 (d := ⟨("need_beside", none), "need_beside", "need_beside", defArgs s_need_beside, defBody s_need_beside, defScope s_need_beside⟩) rfl) ((gl (all_at aF 4 (x := "need_beside") rfl)).2)
  have F_need_letters := fun_at (st := s_need_letters) (c.def_ 5 (d := ⟨("need_letters", none), "need_letters", "need_letters", defArgs s_need_letters, defBody s_need_letters, defScope s_need_letters⟩) rfl) ((gl (all_at aF 5 (x := "need_letters") rfl)).2)
  have F__law_begin := fun_at (st := s__law_begin) (c.def_ 6 (d := ⟨("_law_begin", none), "_law_begin", "_law_begin", defArgs s__law_begin, defBody s__law_begin, defScope s__law_begin⟩) rfl) ((gl (all_at aF 6 (x := "_law_begin") rfl)).2)
  have F__law_draw := fun_at (st := s__law_draw) (c.def_ 7 (d := ⟨("_law_draw", none), "_law_draw", "_law_draw", defArgs s__law_draw, defBody s__law_draw, defScope s__law_draw⟩) rfl) ((gl (all_at aF 7 (x := "_law_draw") rfl)).2)
  have F__law_pick := fun_at (st := s__law_pick) (c.def_ 8 (d := ⟨("_law_pick", none), "_law_pick", "_law_pick", defArgs s__law_pick, defBody s__law_pick, defScope s__law_pick⟩) rfl) ((gl (all_at aF 8 (x := "_law_pick") rfl)).2)
  have F__law_shuffled := fun_at (st := s__law_shuffled) (c.def_ 9 (d := ⟨("_law_shuffled", none), "_law_shuffled", "_law_shuffled", defArgs s__law_shuffled, defBody s__law_shuffled, defScope s__law_shuffled⟩) rfl) ((gl (all_at aF 9 (x := "_law_shuffled") rfl)).2)
  have F__law_refused := fun_at (st := s__law_refused) (c.def_ 10 (d := ⟨("_law_refused", none), "_law_refused", "_law_refused", defArgs s__law_refused, defBody s__law_refused, defScope s__law_refused⟩) rfl) ((gl (all_at aF 10 (x := "_law_refused") rfl)).2)
  have F__law_is_rule := fun_at (st := s__law_is_rule) (c.def_ 11 (d := ⟨("_law_is_rule", none), "_law_is_rule", "_law_is_rule", defArgs s__law_is_rule, defBody s__law_is_rule, defScope s__law_is_rule⟩) rfl) ((gl (all_at aF 11 (x := "_law_is_rule") rfl)).2)
  have F__law_strange := fun_at (st := s__law_strange) (c.def_ 12 (d := ⟨("_law_strange", none), "_law_strange", "_law_strange", defArgs s__law_strange, defBody s__law_strange, defScope s__law_strange⟩) rfl) ((gl (all_at aF 12 (x := "_law_strange") rfl)).2)
  have F__law_pairs_of := fun_at (st := s__law_pairs_of) (c.def_ 13 (d := ⟨("_law_pairs_of", none), "_law_pairs_of", "_law_pairs_of", defArgs s__law_pairs_of, defBody s__law_pairs_of, defScope s__law_pairs_of⟩) rfl) ((gl (all_at aF 13 (x := "_law_pairs_of") rfl)).2)
  have F__law_letters_of := fun_at (st := s__law_letters_of) (c.def_ 14 (d := ⟨("_law_letters_of", none), "_law_letters_of", "_law_letters_of", defArgs s__law_letters_of, defBody s__law_letters_of, defScope s__law_letters_of⟩) rfl) ((gl (all_at aF 14 (x := "_law_letters_of") rfl)).2)
  have F__law_refusals_right := fun_at (st := s__law_refusals_right) (c.def_ 15 (d := ⟨("_law_refusals_right", none), "_law_refusals_right", "_law_refusals_right", defArgs s__law_refusals_right, defBody s__law_refusals_right, defScope s__law_refusals_right⟩) rfl) ((gl (all_at aF 15 (x := "_law_refusals_right") rfl)).2)
  have F_law := fun_at (st := s_law) (c.def_ 16 (d := ⟨("law", none), "law", "law", defArgs s_law, defBody s_law, defScope s_law⟩) rfl) ((gl (all_at aF 16 (x := "law") rfl)).2)
  have F_Rule___eq__ := fun_at (st := s_Rule___eq__) (c.def_ 17 (d := ⟨("Rule", some "__eq__"), "__eq__", "Rule.__eq__", defArgs s_Rule___eq__, defBody s_Rule___eq__, defScope s_Rule___eq__⟩) rfl) (hm_Rule___eq__.kp)
  exact {
    z_isinstance := fr 0 rfl,
    z_int := fr 1 rfl,
    z_bool := fr 2 rfl,
    z_list := fr 3 rfl,
    z_tuple := fr 4 rfl,
    z_len := fr 5 rfl,
    z_min := fr 6 rfl,
    z_abs := fr 7 rfl,
    z_sum := fr 8 rfl,
    z_all := fr 9 rfl,
    z_range := fr 10 rfl,
    z_super := fr 11 rfl,
    z_str := fr 12 rfl,
    z_dict := fr 13 rfl,
    z_set := fr 14 rfl,
    z_sorted := fr 15 rfl,
    z_ValueError := fr 16 rfl,
    c_MOST_COLOURS := He.int_ok X G (fa_ 0 rfl),
    c_LETTERS := He.str_ok X G (fa_ 1 rfl),
    g_is_list := (gl (all_at aF 0 (x := "is_list") rfl)).1,
    F_is_list := F_is_list,
    b_is_list := F_is_list.binds (ps := ["value"]) fun _ _ _ _ _ _ us hl => match us, hl with | [_], _ => rfl,
    g_are_colours := (gl (all_at aF 1 (x := "are_colours") rfl)).1,
    F_are_colours := F_are_colours,
    b_are_colours := F_are_colours.binds (ps := ["value"]) fun _ _ _ _ _ _ us hl => match us, hl with | [_], _ => rfl,
    g_has_colours := (gl (all_at aF 2 (x := "has_colours") rfl)).1,
    F_has_colours := F_has_colours,
    b_has_colours := F_has_colours.binds (ps := ["value", "colours"]) fun _ _ _ _ _ _ us hl => match us, hl with | [_, _], _ => rfl,
    g_is_sign := (gl (all_at aF 3 (x := "is_sign") rfl)).1,
    F_is_sign := F_is_sign,
    b_is_sign := F_is_sign.binds (ps := ["value"]) fun _ _ _ _ _ _ us hl => match us, hl with | [_], _ => rfl,
    g_need_beside := (gl (all_at aF 4 (x := "need_beside") rfl)).1,
    F_need_beside := F_need_beside,
    b_need_beside := F_need_beside.binds (ps := ["beside", "colours"]) fun _ _ _ _ _ _ us hl => match us, hl with | [_, _], _ => rfl,
    g_need_letters := (gl (all_at aF 5 (x := "need_letters") rfl)).1,
    F_need_letters := F_need_letters,
    b_need_letters := F_need_letters.binds (ps := ["letters", "colours"]) fun _ _ _ _ _ _ us hl => match us, hl with | [_, _], _ => rfl,
    g__law_begin := (gl (all_at aF 6 (x := "_law_begin") rfl)).1,
    F__law_begin := F__law_begin,
    b__law_begin := F__law_begin.binds (ps := ["_law_script"]) fun _ _ _ _ _ _ us hl => match us, hl with | [_], _ => rfl,
    g__law_draw := (gl (all_at aF 7 (x := "_law_draw") rfl)).1,
    F__law_draw := F__law_draw,
    b__law_draw := F__law_draw.binds (ps := ["_law_pen", "_law_span"]) fun _ _ _ _ _ _ us hl => match us, hl with | [_, _], _ => rfl,
    g__law_pick := (gl (all_at aF 8 (x := "_law_pick") rfl)).1,
    F__law_pick := F__law_pick,
    b__law_pick := F__law_pick.binds (ps := ["_law_pen", "_law_some"]) fun _ _ _ _ _ _ us hl => match us, hl with | [_, _], _ => rfl,
    g__law_shuffled := (gl (all_at aF 9 (x := "_law_shuffled") rfl)).1,
    F__law_shuffled := F__law_shuffled,
    b__law_shuffled := F__law_shuffled.binds (ps := ["_law_pen", "_law_some"]) fun _ _ _ _ _ _ us hl => match us, hl with | [_, _], _ => rfl,
    g__law_refused := (gl (all_at aF 10 (x := "_law_refused") rfl)).1,
    F__law_refused := F__law_refused,
    b__law_refused := F__law_refused.binds (ps := ["_law_call"]) fun _ _ _ _ _ _ us hl => match us, hl with | [_], _ => rfl,
    g__law_is_rule := (gl (all_at aF 11 (x := "_law_is_rule") rfl)).1,
    F__law_is_rule := F__law_is_rule,
    b__law_is_rule := F__law_is_rule.binds (ps := ["_law_made", "_law_hues", "_law_pairs", "_law_signs"]) fun _ _ _ _ _ _ us hl => match us, hl with | [_, _, _, _], _ => rfl,
    g__law_strange := (gl (all_at aF 12 (x := "_law_strange") rfl)).1,
    F__law_strange := F__law_strange,
    b__law_strange := F__law_strange.binds (ps := ["_law_pen"]) fun _ _ _ _ _ _ us hl => match us, hl with | [_], _ => rfl,
    g__law_pairs_of := (gl (all_at aF 13 (x := "_law_pairs_of") rfl)).1,
    F__law_pairs_of := F__law_pairs_of,
    b__law_pairs_of := F__law_pairs_of.binds (ps := ["_law_pen", "_law_hues"]) fun _ _ _ _ _ _ us hl => match us, hl with | [_, _], _ => rfl,
    g__law_letters_of := (gl (all_at aF 14 (x := "_law_letters_of") rfl)).1,
    F__law_letters_of := F__law_letters_of,
    b__law_letters_of := F__law_letters_of.binds (ps := ["_law_pen", "_law_hues"]) fun _ _ _ _ _ _ us hl => match us, hl with | [_, _], _ => rfl,
    g__law_refusals_right := (gl (all_at aF 15 (x := "_law_refusals_right") rfl)).1,
    F__law_refusals_right := F__law_refusals_right,
    b__law_refusals_right := F__law_refusals_right.binds (ps := ["_law_pen", "_law_hues", "_law_pairs", "_law_signs"]) fun _ _ _ _ _ _ us hl => match us, hl with | [_, _, _, _], _ => rfl,
    g_law := (gl (all_at aF 16 (x := "law") rfl)).1,
    F_law := F_law,
    b_law := F_law.binds (ps := ["_law_script"]) fun _ _ _ _ _ _ us hl => match us, hl with | [_], _ => rfl,
    g_Rule := (gl (all_at aC 0 (x := "Rule") rfl)).1,
    cl_Rule := He.cls_ok (fa_ 2 rfl),
    mk_Rule := He.mkr_ok (fa_ 6 rfl),
    n_Rule_colours := He.noat_ok (fa_ 3 rfl),
    n_Rule_beside := He.noat_ok (fa_ 4 rfl),
    n_Rule_letters := He.noat_ok (fa_ 5 rfl),
    m_Rule___init__ := hm_Rule___init__,
    D_Rule___init__ := funD_at (c.defD 0 rfl),
    m_Rule___eq__ := hm_Rule___eq__,
    F_Rule___eq__ := F_Rule___eq__,
    b_Rule___eq__ := F_Rule___eq__.binds (ps := ["self", "other"]) fun _ _ _ _ _ _ us hl => match us, hl with | [_, _], _ => rfl,
    ic_Rule := He.eqO_ok e0_0,
    ig_Rule := He.eqO_ok e0_1,
    it_Rule := of_decide_eq_true e0_2,
    im_Rule := of_decide_eq_true e0_3,
    kk_Rule := of_decide_eq_true e0_4,
    k_Rule_tuple := of_decide_eq_true e0_5,
    k_Rule_list := of_decide_eq_true e0_6,
    k_Rule_int := of_decide_eq_true e0_7,
    k_Rule_str := of_decide_eq_true e0_8,
    k_Rule_bool := of_decide_eq_true e0_9,
    k_Rule_NoneType := of_decide_eq_true e0_10,
    k_Rule_float := of_decide_eq_true e0_11,
    k_Rule_dict := of_decide_eq_true e0_12,
    sf_Rule := beq_iff_eq.mp e0_13,
    ne_Rule := He.eqO_ok e0_14,
    os_Rule := of_decide_eq_true e0_15,
    t1_Rule_tuple := of_decide_eq_true e0_16,
    t2_Rule_tuple := of_decide_eq_true e0_17,
    t1_Rule_list := of_decide_eq_true e0_18,
    t2_Rule_list := of_decide_eq_true e0_19,
    t1_Rule_str := of_decide_eq_true e0_20,
    t2_Rule_str := of_decide_eq_true e0_21,
    t1_Rule_dict := of_decide_eq_true e0_22,
    t2_Rule_dict := of_decide_eq_true e0_23,
    t1_Rule_NoneType := of_decide_eq_true e0_24,
    t2_Rule_NoneType := of_decide_eq_true e1_0,
    x_BadRule_BadRule := of_decide_eq_true e1_1,
    q_BadRule_ValueError := of_decide_eq_true e1_2,
    g_WebError := (gl aW).1,
    e_BadRule := xB_ok (P := PW) (l := fl_BadRule) X G (all_at aX 0 (x := ("BadRule", ["value"])) rfl) (c.ini 0 rfl rfl) ini_BadRule (fr 11 rfl) opq ptop }
theorem bl_law {K : PySem.W.Frag} {mg : Str → Option Value} (T : Top K mg) : ∀ (s : Shared) (u : Value), BindsTo s (fdOf K (fa K "law")) ⟨[u], []⟩ [("_law_script", u)] := fun s u => by
  obtain ⟨oc, od, kV, doc, pm, an, cdv, ct, osl, e, lk, hcd⟩ := T.F_law.ex
  rw [e]
  exact .of_eq rfl
end R4
open PySem PySem.W PySem.Calls PyProof.Rows
set_option maxRecDepth 100000 in
set_option maxHeartbeats 0 in
theorem PySem.Challenge.cw_growwebs_k58_rules_and_refusals_holds : PySem.Challenge.rw_growwebs_k58_rules_and_refusals.Holds := by
  w_on; o_law
  refine HandSHeadRun.head_any (r := OpenLaw.row PySem.Challenge.rw_growwebs_k58_rules_and_refusals) (q := view (OpenLaw.row PySem.Challenge.rw_growwebs_k58_rules_and_refusals).prog [26]) (H := R4.hk) (ob := R4.ob) (M := 20000) (loose := R4.loose) (d := HandSHeadRun.topDef (OpenLaw.row PySem.Challenge.rw_growwebs_k58_rules_and_refusals).prog 26) (kwd := []) R4.ob_eq
    (by kernel_rfl) (fun s => by kernel_rfl) R4.run (by kernel_rfl) (by kernel_rfl) (by kernel_rfl) (by rfl) (by first | assumption | decide +kernel) (by decide +kernel) ⟨rfl, rfl, rfl, rfl, rfl, by decide +kernel⟩ ?hw ?hc
  case hw => w_witness2
  case hc =>
    refine LamX.walk_ofTsG (l := PySem.Challenge.rw_growwebs_k58_rules_and_refusals) (n := 63) (k := 14) (x := "_law_script") (CX := fun _ => L2.CX0) rfl (by decide) (by kernel_rfl) ⟨rfl, by decide, by decide⟩ ?F (fun _ _ _ _ _ z => z)
    intro w mg fa h Y G hmg0
    obtain ⟨K, KX, c⟩ := Y
    have hmg : mg ("law" : PySem.Str) = some (.ref fa) := by
      have e : (HandSHeadRun.topDef (OpenLaw.row PySem.Challenge.rw_growwebs_k58_rules_and_refusals).prog 26).name = ("law" : PySem.Str) := by kernel_rfl
      rw [← e]
      exact hmg0
    obtain ⟨T, hne⟩ := R4.top_of KX G c
    have ef := hmg.symm.trans T.g_law
    cases ef
    refine ⟨K, KX, R4.fdOf K (R4.fa K "law"), R4.tfs.map (He.cT K), R4.spLaw K, fun p hp => ?_, fun p hp => ?_, fun p hp => ?_, R4.bl_law T, fun H a ns hl hH hS => ?_, fun base KB GB TB => ?_⟩
    · obtain ⟨d, hd, rfl⟩ := List.mem_map.mp hp
      exact c.empty d hd
    · obtain ⟨d, hd, rfl⟩ := List.mem_map.mp hp
      exact c.out d hd
    · obtain ⟨d, hd, rfl⟩ := List.mem_map.mp hp
      exact PySem.W.codeHd_of_K KX (c.hd d hd)
    · refine ⟨a, ns, rfl, hS, hl, fun p hp => ?_, fun _ => rfl⟩
      rw [List.mem_singleton.mp hp]
      exact LamX.TabS.nil (hH (He.cT K ("_law_refusals_right", none)) List.mem_cons_self)
    · exact R4.ok_law T ⟨TB (He.cT K ("_law_refusals_right", none)) List.mem_cons_self⟩
