import PyProof.Rows.All
import Wide.All
import OpenK.AllK
import Wide.FinOn
import KE.KExcSuper
import HandS.ForMost
import HandS.ForExc
import HandS.ExcInit
import HandS.ExcIs
import HandS.IsInst
import HandS.ExcSuper
import HandS.Wide
import HandS.ExcValue
import HandS.Head0
import HandS.Head1
import HandS.Head2
import HandS.HeadEnd
import HandS.HeadHook1
import HandS.HeadHook2
import HandS.EndTab
import HandS.HeadWalk
import HandS.HeadHook4
import HandS.Defaults
import HandS.MakeKw
import HandS.MakeKwOnly
import HandS.Style
import HandS.Lambda
import HandS.TryMany
import HandS.OwnEq
import HandS.TupAny
import HandS.TupMul
import HandS.TupLe
import HandS.SlotsOwn
import HandS.Spec
import HandS.ExcField
import HandS.ExcOwn
import KE.DatumIndex
import PyProof.Rows.SetFrom
import PyProof.CollectStr
import HandS.Set
import HandS.SetKeys
import HandS.SetBool
import HandS.Strs
import HandS.SortInts
import PyProof.Rows.SortShellAny
import KE.KDictList
import KE.KRevSl
import HandS.Text
import HandS.RaiseMore
import HandS.ListItems
import HandS.DictComp
import HandS.Codes
import HandS.Dict
import HandS.DeepEq
import HandS.SortRule
import HandS.DictTup
import KE.KDictWalk
import KE.KDictSum
import KE.SortKeyHeap
import KE.SortData
import HandS.SortKw
import HandS.Replace
import HandS.Conv
import PySem.Challenge.RW_growwebs_k01_pieces_made_and_refused
set_option Elab.async false
set_option linter.all false
set_option maxRecDepth 100000
set_option maxHeartbeats 2000000
/-! Errors of one's own over WebError: made by position and by name, held, read, raised. -/
namespace PySem
namespace GW
open PySem.W PySem.Calls PyProof.Rows PySem.HandSPX
section
variable {M : Model} {A : Around} {E : Value → Shared → Prop} {h : Heap} {g : Array GenState} {d : Drawn} {t : Nat} {os : OsState}
variable {nm q : Str} {C N : Addr} {bs bm bmB : List Value} {hdct : Bool} {sn : List Str} {sub : List Value} {ab : Bool} {col : Option Bool} {dd : Option Addr} {k0 k1 k2 k3 k5 : Option Value} {B newId initId : String}
theorem chk_kw (Fb : ExcBaseFacts B newId initId bmB) (hT : ∀ X : String, bm.contains (.type X) = bmB.contains (.type X)) {ps : List Value} {kw : List (Str × Value)} {Q : Unit → Shared → Prop}
    (hC : h.get? C = some (excClassObj nm q C N bs bm hdct sn sub ab col dd k0 k1 k2 k3 k5 newId)) (hq : Q () ⟨h, g, d, t, os⟩) : wpAny M A (checkBuiltinCall newId ⟨.ref C :: ps, kw⟩) Q E ⟨h, g, d, t, os⟩ := by
  have hc1 : (Value.ref C :: bm).contains (.type B) = true := by rw [List.contains_cons, hT, Fb.hasB, Bool.or_true]
  have hs1 := Fb.noStar
  simp only [checkBuiltinCall, Fb.newKind, Fb.newSplit, Fb.newRow]
  repeat (first | refine wpAny_loadPart_at hC ?_ | (refine wpAny_isSubtype_exc hC ?_; rw [hc1]) | refine wpAny_staticBase_exc hC ?_ | refine wpAny_madeBy_exc hC ?_ | simp only [bne_self_eq_false, Bool.false_eq_true, if_false] | wp_step)
  exact hq
end
section
variable {prog : Program} {w : World} {A : Around} {E : Value → Shared → Prop} {R : Result → Shared → Prop} {h : Heap} {g : Array GenState} {d : Drawn} {t : Nat} {os : OsState}
variable {nm q : Str} {C N : Addr} {bs bm bmB : List Value} {hdct : Bool} {sn : List Str} {sub : List Value} {ab : Bool} {col : Option Bool} {dd : Option Addr} {k0 k1 k2 k3 k5 : Option Value} {B newId initId : String}
theorem new_kw (Fb : ExcBaseFacts B newId initId bmB) (hT : ∀ X : String, bm.contains (.type X) = bmB.contains (.type X)) {ps : List Value} {kw : List (Str × Value)}
    (hC : h.get? C = some (excClassObj nm q C N bs bm hdct sn sub ab col dd k0 k1 k2 k3 k5 newId))
    (hq : R (.ok (.ret (.ref (h.objs.size + 1)))) ⟨(h.push { cls := .type "tuple", data := .seq ps.toArray }).push
      { cls := .ref C, data := .fields #[.ref h.objs.size, .none, .none, .none, .bool false, .none] }, g, d, t, os⟩) (hz : ps.length ≤ sizeLine) :
    codeAny (model prog w) A (.builtin newId ⟨.ref C :: ps, kw⟩) R ⟨h, g, d, t, os⟩ := by
  have he1 := Fb.ends
  have hc1 : (Value.ref C :: bm).contains (.type B) = true := by rw [List.contains_cons, hT, Fb.hasB, Bool.or_true]
  have hc2 : (Value.ref C :: bm).contains (.type "AttributeError") = false := by rw [List.contains_cons, hT, Fb.noAttr]; rfl
  have hc3 : (Value.ref C :: bm).contains (.type "NameError") = false := by rw [List.contains_cons, hT, Fb.noName]; rfl
  refine codeAny_builtinAt Fb.entry ?_
  unfold Builtin.«BaseException.__new__»
  refine wpAt_bind ?_
  show wpAt _ _ _ (stack >>= _) _ _ _
  refine wpAt_bind (wpAt_stack fun p below => wpAt_of_wpAny ?_)
  wp_walk
  refine wpAt_of_wpAny ?_
  rw [Fb.owner]
  repeat (first | with_reducible refine wpAny_madeHere_exc Fb.canon hC ?_ | with_reducible refine wpAny_loadPart_at hC ?_ | (with_reducible refine wpAny_isSubtype_exc hC ?_; first | rw [hc1] | rw [hc2] | rw [hc3]) | wp_step)
  show R _ _
  rw [Heap.size_push]
  exact hq
theorem tcall_kw (Fb : ExcBaseFacts B newId initId bmB) (hT : ∀ X : String, bm.contains (.type X) = bmB.contains (.type X)) {ps : List Value} {kw : List (Str × Value)} {fI : Addr} {Q : Fin → Shared → Prop}
    (hC : h.get? C = some (excClassObj nm q C N bs bm hdct sn sub ab col dd k0 k1 k2 k3 k5 newId))
    (hi : W.Looks (model prog w) h (typeLookup (.ref C) "__init__") (some (.ref fI))) (hb : ∀ self, W.Looks (model prog w) h (bindSpecial (.ref fI) self) (.ref fI, [self])) (hz : ps.length ≤ sizeLine)
    (hq : codeAny (model prog w) A (.call (.ref fI) ⟨.ref (h.objs.size + 1) :: ps, kw⟩)
      (fun r s' => match r with | .ok (.ret v) => v = .none ∧ Q (.done (.ret (.ref (h.objs.size + 1)))) s' | .ok _ => False | .error e => E e s')
      ⟨(h.push (W.kdv_tup ps)).push (excO C h.objs.size), g, d, t, os⟩) :
    wpAny (model prog w) A (Builtin.«type.__call__» ⟨.ref C :: ps, kw⟩) Q E ⟨h, g, d, t, os⟩ := by
  repeat (first | with_reducible refine wpAny_loadPart_at hC ?_ | with_reducible refine wpAny_madeBy_exc hC ?_ | wp_step)
  refine codeAny_call_builtin_code (Code.quiet_builtin _ Fb.quiet) (chk_kw Fb hT hC ?_)
  refine new_kw Fb hT hC ?_ hz
  show wpAny _ _ _ _ _ _
  have kk : ∀ b o, h.get? b = some o → ((h.push (W.kdv_tup ps)).push (excO C h.objs.size)).get? b = some o := fun b o e => Heap.get?_push_of_some _ (Heap.get?_push_of_some _ e)
  have hC1 := kk _ _ hC
  have hg1 : ((h.push (W.kdv_tup ps)).push (excO C h.objs.size)).get? (h.objs.size + 1) = some (excO C h.objs.size) := by heap_get
  have hcC : (Value.ref C :: bm).contains (.ref C) = true := by simp
  have i1 := hi.keeps kk
  have b1 := (hb (.ref (h.objs.size + 1))).keeps kk
  unfold isInstance
  repeat (first | with_reducible refine wpAny_loadPart_at hg1 ?_ | (with_reducible refine wpAny_isSubtype_exc hC1 ?_; rw [hcC]) | wp_step)
  show wpAny _ _ (typeLookup (.ref C) _) _ _ _
  refine i1.at ?_
  refine wpAny_holding (wpAny_bind (b1.at ?_))
  refine wpAny_bind (wpAny_call (codeAny_mono hq fun r s' z => ?_))
  rcases r with e | (v | _ | _ | _) <;> first | exact z | exact z.elim | skip
  obtain ⟨rfl, z⟩ := z
  first
    | exact wpAny_pure (wpAny_pure z)
    | (wp_walk; exact z)
theorem call_kw (Fb : ExcBaseFacts B newId initId bmB) (hT : ∀ X : String, bm.contains (.type X) = bmB.contains (.type X)) {ps : List Value} {kw : List (Str × Value)} {fI : Addr}
    (hC : h.get? C = some (excClassObj nm q C N bs bm hdct sn sub ab col dd k0 k1 k2 k3 k5 newId))
    (hi : W.Looks (model prog w) h (typeLookup (.ref C) "__init__") (some (.ref fI))) (hb : ∀ self, W.Looks (model prog w) h (bindSpecial (.ref fI) self) (.ref fI, [self])) (hz : ps.length ≤ sizeLine)
    (hq : codeAny (model prog w) (A.under (.builtin "type.__call__" ⟨.ref C :: ps, kw⟩)) (.call (.ref fI) ⟨.ref (h.objs.size + 1) :: ps, kw⟩) (W.InitBack (h.objs.size + 1) R)
      ⟨(h.push (W.kdv_tup ps)).push (excO C h.objs.size), g, d, t, os⟩) :
    codeAny (model prog w) A (.call (.ref C) ⟨ps, kw⟩) R ⟨h, g, d, t, os⟩ := by
  have f1 := tc_lookup
  have f2 := tc_bind (.ref C)
  have hTy : (⟨h, g, d, t, os⟩ : Shared).TypeIs (.ref C) "type" := ⟨_, hC, rfl⟩
  refine codeAny_of_tree ?_
  show wpAny _ _ (callAny (.ref C) _) _ _ _
  repeat (any_goals (first | assumption | with_reducible refine wpAny_loadPart_at hC ?_ | wp_step))
  refine ⟨rfl, ?_⟩
  refine codeAny_call_builtin_at (Code.quiet_builtin _ (by decide +kernel)) entry_typeCall (wpAny_check_type_call_sub hC (tcall_kw Fb hT hC hi hb hz ?_))
  refine codeAny_mono hq fun r s' z => ?_
  rcases r with e | (v | _ | _ | _) <;> exact z
end
end GW
end PySem
set_option Elab.async false
set_option linter.all false
set_option maxRecDepth 100000
set_option maxHeartbeats 4000000
namespace PySem
namespace GW
open PySem.W PySem.Calls PyProof.Rows PySem.HandSPX
/-- a field of an error: its name and the places in the text -/
structure Fl where
  f : Str
  a : Pos
  q1 : Pos
  q2 : Pos
  q3 : Pos
  q4 : Pos
def eStores (l : List Fl) : List Stmt := l.map fun p => .Assign [.Attribute (.Name "self" p.q1) p.f p.q2] (.Name p.f p.q3) p.q4
def eNames (l : List Fl) : List Expr := l.map fun p => .Name p.f p.a
def eBody (r0 r1 r2 r3 r4 : Pos) (l : List Fl) : List Stmt := .Expr (.Call (.Attribute (.Call (.Name "super" r0) [] [] r1) "__init__" r2) (eNames l) [] r3) r4 :: eStores l
/-- the class of an error, as the top has made it -/
structure ErrC (K : Frag) (C : Addr) : Prop where
  cls : ∃ nm q N bs bm sn sub ab col dd k0 k1 k2 k3 k5, K.lookup C = some (excClassObj nm q C N bs bm true sn sub ab col dd k0 k1 k2 k3 k5 "ValueError.__new__") ∧ refsVE bm = true
  sa : findIn K (.ref C) "__setattr__" = some (some (.builtin "object.__setattr__"))
  sup : ks_superIn K C C "__init__" = some (some (.builtin "ValueError.__init__"))
  opq : nsIn K cStatics "thirdparty.any" = some none
  subB : subIn K (.ref C) (.type "ValueError") = some true
  subC : mroIn K C (.ref C) = some true
/-- its __init__ -/
structure ErrI (prog : Program) (K : Frag) (mg : Str → Option Value) (C fI : Addr) (params : Arguments) (scope : Scope) (l : List Fl) : Prop where
  ini : findIn K (.ref C) "__init__" = some (some (.ref fI))
  tI : typeIn K (.ref fI) = some (.type "function")
  no : ∀ p ∈ l, findIn K (.ref C) p.f = some none
  nd : (("self" : Str) :: l.map (·.f)).Nodup
  ne : l ≠ []
  few : l.length ≤ 10
  hd : ∃ p, params.posonlyargs ++ params.args = { arg := "self", annotation := none, pos := p } :: (params.posonlyargs ++ params.args).tail
  sk : scope.kind = .function
  sco : scope.isCoroutine = false
  sge : scope.isGenerator = false
  ss : scope.names.lookup ("super" : Str) = some .globalImplicit
  sc : scope.names.lookup ("__class__" : Str) = some .free
  sl : ∀ y ∈ (("self" : Str) :: l.map (·.f)), scope.names.lookup y = some .local
  scell : ∀ x ∈ scope.names, x.2 ≠ .cell
  nodeb : ∀ p ∈ l, (p.f == ("__debug__" : Str)) = false
  msup : mg "super" = none
  ptop : (prog.main.scope.names.lookup ("super" : Str)).isSome = false
  fn : ∃ (oc : Value) (od : Option Addr) (qual : Str) (r0 r1 r2 r3 r4 : Pos) (doc pm : Value) (an : Option Addr) (cda : Addr) (ct : Value) (cc : Addr) (osl : Array (Option Value)),
    K.lookup fI = some ⟨oc, od, .func (ksFn "__init__" qual params (eBody r0 r1 r2 r3 r4 l) scope .none .none doc pm an (.ref cda) ct cc), osl⟩ ∧ codeIn K (.ref cda) qual = true ∧ (r2.endLine == r3.line) = true ∧
    (∃ cl cld csl, K.lookup cc = some ⟨cl, cld, .cell (some (.ref C)), csl⟩) ∧
    ∃ ccl cdd vs ccs file tf, K.lookup cda = some ⟨ccl, cdd, .fields vs, ccs⟩ ∧ vs[2]? = some (.str file tf) ∧ ((prog.main.file : Str) == file) = true
theorem lookup_zip_rev : ∀ (xs : List Str) (vs : List Value), xs.Nodup → xs.length = vs.length → ∀ y, ((xs.zip vs).reverse).lookup y = (xs.zip vs).lookup y
  | [], _, _, _, _ => by simp
  | x :: xs, [], _, h, _ => by simp at h
  | x :: xs, v :: vs, nd, h, y => by
    have nd' := List.nodup_cons.mp nd
    have ih := lookup_zip_rev xs vs nd'.2 (by simpa using h) y
    rw [List.zip_cons_cons, List.reverse_cons, List.lookup_append, ih]
    by_cases e : y = x
    · subst e
      have q : (xs.zip vs).lookup y = none := by
        rw [List.lookup_eq_none_iff]
        intro p hp
        have := (List.of_mem_zip (a := p.1) (b := p.2) hp).1
        simp
        intro e
        exact nd'.1 (e ▸ this)
      rw [q]
      simp [List.lookup]
    · have e' : (y == x) = false := by simpa using e
      cases q : (xs.zip vs).lookup y <;> simp [List.lookup, e', q]
/-- a made error at x -/
structure Made (h h' : Heap) (x C : Addr) (m : Str → Option Value) : Prop where
  keep : ∀ b o, b ≠ x → h.get? b = some o → h'.get? b = some o
  obj : ∃ dx t1, h'.get? x = some { cls := .ref C, dict := some dx, data := .fields #[.ref t1, .none, .none, .none, .bool false, .none] } ∧ h.objs.size ≤ dx ∧ dx ≠ x ∧ h'.Ns1 dx m
section
variable {prog : Program} {w : World} {A : Around} {E : Value → Shared → Prop} {R : Result → Shared → Prop} {s : Shared} {K : Frag} {mg : Str → Option Value} {C fI : Addr}
theorem mw_call {hp : Heap} {g : Array GenState} {d : Drawn} {t : Nat} {os : OsState} {nm q : Str} {N : Addr} {bs bm : List Value} {hdct : Bool} {sn : List Str} {sub : List Value} {ab : Bool} {col : Option Bool} {dd : Option Addr} {k0 k1 k2 k3 k5 : Option Value}
    {u e t0 : Addr} {rest : List Value} {Q : Value → Shared → Prop}
    (hC : hp.get? C = some (excClassObj nm q C N bs bm hdct sn sub ab col dd k0 k1 k2 k3 k5 "ValueError.__new__")) (he : hp.get? e = some (excO C t0)) (hu : hp.get? u = some (kxs_mw "ValueError.__init__" e)) (hz : rest.length ≤ sizeLine)
    (hq : ∀ h' t1, (∀ b o, b ≠ e → hp.get? b = some o → h'.get? b = some o) → h'.get? e = some (excO C t1) → Q .none ⟨h', g, d, t, os⟩) :
    wpAny (model prog w) A (call (.ref u) rest) Q E ⟨hp, g, d, t, os⟩ := by
  refine wpAny_call (codeAny_of_tree ?_)
  show wpAny _ A.in1 (callAny (.ref u) ⟨rest, []⟩) _ _ _
  simp only [callAny]
  refine wpAny_bind (wpAny_load hu ?_)
  simp only [kxs_mw, show (Value.type "method-wrapper" == Value.type "method" || Value.type "method-wrapper" == Value.type "builtin_function_or_method" || Value.type "method-wrapper" == Value.type "method-wrapper") = true by decide, if_true]
  refine W.KFB.if_so (by decide) ?_
  refine wpAny_bind (ESX.check_bound F.excBase_ValueError hC he rfl ?_)
  refine wpAny_bind (wpAny_pure (wpAny_pure ?_))
  refine ⟨Code.quiet_builtin _ (by decide +kernel), codeAny_builtin F.excBase_ValueError.initEntry ?_⟩
  rw [Around.under_plainId F.excBase_ValueError.init.plain _]
  wp_walk
  refine hq _ hp.objs.size (fun b o hb ho => ?_) ?_
  · rw [Heap.get?_update_other _ _ (Ne.symm hb)]
    exact Heap.get?_push_of_some _ ho
  · rw [Heap.get?_update_self _ (Heap.get?_push_of_some _ he) rfl]
    rfl
/-- the names of the fields, evaluated in a row -/
theorem names_at {env : Env} {m : Str → Option Value} {pos : Pos} (hk : env.scope.kind = .function) : ∀ (l : List Fl) (vs : List Value) (s : Shared) (Q : List Value → Shared → Prop), s.heap.Ns env.locals m →
    (∀ p ∈ l, env.kindOf p.f = some .local) → (∀ p ∈ l, (p.f == ("__debug__" : Str)) = false) → l.map (fun p => m p.f) = vs.map some → Q vs s → wpAny (model prog w) A (spliced (backTo pos (starEach (eNames l) env))) Q E s
  | [], [], s, Q, _, _, _, _, h => PyProof.Rows.spliced_none h
  | [], _ :: _, s, Q, _, _, _, e, h => by simp at e
  | _ :: _, [], s, Q, _, _, _, e, h => by simp at e
  | p :: l, v :: vs, s, Q, hn, hl, hd, e, h => by
    simp only [List.map_cons, List.cons.injEq] at e
    show wpAny _ _ (spliced (backTo pos (starEach (Expr.Name p.f p.a :: eNames l) env))) _ _ _
    refine PyProof.Rows.spliced_more ?_
    refine wpAny_Name (wpAny_loadName_local hk (hl p List.mem_cons_self) hn e.1 ?_) (hd p List.mem_cons_self)
    exact names_at hk l vs s _ hn (fun q hq => hl q (List.mem_cons_of_mem _ hq)) (fun q hq => hd q (List.mem_cons_of_mem _ hq)) e.2 h
theorem names_plain {env : Env} {pos : Pos} : ∀ (l : List Fl), (backTo pos (starEach (eNames l) env)).any (·.1) = false
  | [] => rfl
  | p :: l => by
    have ih := names_plain (env := env) (pos := pos) l
    cases l with
    | nil => rfl
    | cons q l => exact ih
theorem names_form {env : Env} {pos : Pos} : ∀ (l : List Fl), (backTo pos (starEach (eNames l) env)).all (!·.1) = true
  | [] => rfl
  | p :: l => by
    have ih := names_form (env := env) (pos := pos) l
    cases l with
    | nil => rfl
    | cons q l => exact ih
theorem names_args {M : Model} {A : Around} {E : Value → Shared → Prop} {s : Shared} {env : Env} {pos : Pos} {f : Value} {Q : Args → Shared → Prop} : ∀ {l : List Fl}, l ≠ [] →
    wpAny M A (spliced (backTo pos (starEach (eNames l) env))) (fun vs s₁ => Q ⟨vs, []⟩ s₁) E s → wpAny M A (evalArgs f true (backTo pos (starEach (eNames l) env)) []) Q E s
  | [], ne, _ => absurd rfl ne
  | p :: l, _, h => by
    have he : starEach (eNames (p :: l)) env = (false, eval (.Name p.f p.a) env) :: starEach (eNames l) env := rfl
    rw [he] at h ⊢
    exact evalArgs_plain h
/-- super().__init__(f, ..) as the evaluator takes it -/
theorem super_eval {env : Env} {r0 r1 r2 r3 : Pos} {l : List Fl} (few : l.length ≤ 10) (ln : (r2.endLine == r3.line) = true) :
    eval (.Call (.Attribute (.Call (.Name "super" r0) [] [] r1) "__init__" r2) (eNames l) [] r3) env = (do
      let ov ← attributeBase (.Call (.Name "super" r0) [] [] r1) "__init__" env (eval (.Call (.Name "super" r0) [] [] r1) env)
      standAt r2.atName
      let (f, first) ← holding [ov] (getMethod ov "__init__" (do return (← importBound (.Call (.Name "super" r0) [] [] r1) env).getD true))
      callWith r3 f first (backTo r3 (starEach (eNames l) env)) []) := by
  have e1 : methodCallForm ((eNames l).length + 0) (backTo r3 (starEach (eNames l) env)) [] = true := by
    unfold methodCallForm
    rw [names_form]
    have : (eNames l).length = l.length := by unfold eNames; simp
    simp [this]
    omega
  rw [arm_eval_Call]
  congr 1
  funext ov
  congr 1
  funext _
  show methodCall _ _ _ _ _ _ ((eNames l).length + 0) _ [] = _
  unfold methodCall
  rw [e1]
  unfold calleeOf methodCallPos
  simp only [if_true, Bool.not_true, Bool.false_or, ln]
  rfl
end
end GW
end PySem
set_option Elab.async false
set_option linter.all false
set_option maxRecDepth 100000
set_option maxHeartbeats 4000000
namespace PySem
namespace GW
open PySem.W PySem.Calls PyProof.Rows PySem.HandSPX
theorem within_lookup (done : List (Str × Value)) : Within (fun y => done.lookup y) (done.map (·.1)) := fun y hy => by
  cases q : done.lookup y with
  | none => exact absurd q hy
  | some v =>
    obtain ⟨l1, l2, e, _⟩ := List.lookup_eq_some_iff.mp q
    rw [e]
    simp
theorem ns1_eq {h : Heap} {a : Addr} {m m' : Str → Option Value} (x : h.Ns1 a m) (e : ∀ y, m y = m' y) : h.Ns1 a m' := by
  have : m = m' := funext e
  rw [← this]
  exact x
theorem lookup_put (done : List (Str × Value)) (f : Str) (v : Value) (y : Str) : (if y = f then some v else done.lookup y) = ((f, v) :: done).lookup y := by
  by_cases e : y = f
  · subst e
    rw [if_pos rfl]
    simp [List.lookup]
  · have e' : (y == f) = false := by simpa using e
    rw [if_neg e]
    simp [List.lookup, e']
section
variable {prog : Program} {w : World} {A : Around} {E : Value → Shared → Prop} {R : Result → Shared → Prop} {s : Shared} {K : Frag} {mg : Str → Option Value} {C fI : Addr}
/-- self.f = f, for every further field: the error at x has its dict at dx -/
theorem stores_more {env : Env} {m : Str → Option Value} {x dx t1 : Addr} (T : ErrC K C) (hk : env.scope.kind = .function) (hx : K.lookup x = none) (hself : env.kindOf "self" = some .local) (ms : m "self" = some (.ref x)) :
    ∀ (l : List Fl) (vs : List Value) (done : List (Str × Value)) (s : Shared) (Q : Flow → Shared → Prop), K.In s.heap → K.lookup dx = none → dx ≠ env.locals → dx ≠ x → s.heap.Ns env.locals m →
    s.heap.get? x = some { cls := .ref C, dict := some dx, data := .fields #[.ref t1, .none, .none, .none, .bool false, .none] } → s.heap.Ns1 dx (fun y => done.lookup y) → done.length + l.length ≤ 100 →
    (∀ p ∈ l, env.kindOf p.f = some .local) → (∀ p ∈ l, (p.f == ("__debug__" : Str)) = false) → (∀ p ∈ l, findIn K (.ref C) p.f = some none) → l.map (fun p => m p.f) = vs.map some →
    (∀ h' tk, (∀ b o, b ≠ dx → s.heap.get? b = some o → h'.get? b = some o) → h'.Ns1 dx (fun y => (((l.map (·.f)).zip vs).reverse ++ done).lookup y) → Q .next { s with heap := h', toks := tk }) →
    wpAny (model prog w) A (execs (eStores l) env) Q E s
  | [], vs, done, s, Q, X, hdx, hL, hdne, hn, ho, hns, few, hl, hd, hno, e, h => by
    refine wpAny_execs_nil ?_
    exact h s.heap s.toks (fun _ _ _ q => q) (by simpa using hns)
  | p :: l, [], done, s, Q, X, hdx, hL, hdne, hn, ho, hns, few, hl, hd, hno, e, h => by simp at e
  | p :: l, v :: vs, done, s, Q, X, hdx, hL, hdne, hn, ho, hns, few, hl, hd, hno, e, h => by
    simp only [List.map_cons, List.cons.injEq] at e
    obtain ⟨nm, q, N, bs, bm, sn, sub, ab, col, dd, k0, k1, k2, k3, k5, hC, hbm⟩ := T.cls
    have hcl : clsIn K C = some { name := nm, bases := bs, mro := .ref C :: bm, ns := N, qualname := q, hasDict := true, slotNames := sn, subclasses := sub, abstract := ab, collection := col, hasDel := false } := by unfold clsIn; rw [hC] <;> rfl
    show wpAny _ _ (execs (Stmt.Assign [.Attribute (.Name "self" p.q1) p.f p.q2] (.Name p.f p.q3) p.q4 :: eStores l) env) _ _ _
    refine wpAny_execs_cons (plainObj_wpAny_Assign_Attribute ?_)
    refine wpAny_Name (wpAny_loadName_local hk (hl p List.mem_cons_self) hn e.1 ?_) (hd p List.mem_cons_self)
    refine wpAny_Name (wpAny_loadName_local hk hself hn ms ?_) (by decide)
    obtain ⟨oD, esD, epD, hoD, hdD, _⟩ := hns.count (within_lookup done)
    refine set_plain X (ox := { cls := .ref C, dict := some dx, data := .fields #[.ref t1, .none, .none, .none, .bool false, .none] }) (od := some oD) ⟨ho, rfl, rfl, hoD⟩ T.sa ?_
    obtain ⟨hp, g, d, t, os⟩ := s
    refine OEX.osa_old X ho hns (within_lookup done) (by rw [List.length_map]; simp at few; omega) hcl (show refsVE (.ref C :: bm) = true from hbm) rfl (hno p List.mem_cons_self) (fun h' tk k' ns' => ?_)
    show wpAny _ _ (execs _ _) _ _ _
    have X' : K.In h' := fun a o q => k' a o (fun z => by rw [z, hdx] at q; cases q) (X a o q)
    refine stores_more (x := x) (t1 := t1) T hk hx hself ms l vs ((p.f, v) :: done) ⟨h', g, d, tk, os⟩ Q X' hdx hL hdne (hn.at fun o q => k' _ o hL.symm q) (k' _ _ hdne.symm ho) (ns1_eq ns' fun y => lookup_put done p.f v y) (by simp at few ⊢; omega)
      (fun q hq => hl q (List.mem_cons_of_mem _ hq)) (fun q hq => hd q (List.mem_cons_of_mem _ hq)) (fun q hq => hno q (List.mem_cons_of_mem _ hq)) e.2 fun h2 tk2 k2 n2 => ?_
    refine h h2 tk2 (fun b o hb q => k2 b o hb (k' b o hb q)) (ns1_eq n2 fun y => ?_)
    simp
def mm (x : Addr) (l : List Fl) (vs : List Value) (y : Str) : Option Value := List.lookup y (((Str.ofString "self") :: l.map (fun p => p.f)).zip (Value.ref x :: vs))
theorem mm_self {x : Addr} {l : List Fl} {vs : List Value} : mm x l vs (Str.ofString "self") = some (Value.ref x) := by
  unfold mm
  simp [List.lookup]
theorem map_lookup : ∀ (xs : List Str) (ws : List Value), xs.Nodup → xs.length = ws.length → xs.map (fun y => (xs.zip ws).lookup y) = ws.map some
  | [], [], _, _ => rfl
  | [], _ :: _, _, e => by simp at e
  | _ :: _, [], _, e => by simp at e
  | y :: ys, v :: ws, nd, e => by
    have nd' := List.nodup_cons.mp nd
    have r := map_lookup ys ws nd'.2 (by simpa using e)
    simp only [List.map_cons, List.zip_cons_cons]
    congr 1
    · simp [List.lookup]
    · rw [← r]
      refine List.map_congr_left fun z hz => ?_
      have e' : (z == y) = false := by
        simp
        intro e
        exact nd'.1 (e ▸ hz)
      simp [List.lookup, e']
theorem mm_fields {x : Addr} {l : List Fl} {vs : List Value} (nd0 : ((Str.ofString "self") :: l.map (fun p => p.f)).Nodup) (hlen : l.length = vs.length) : l.map (fun p => mm x l vs p.f) = vs.map some := by
  have nd := List.nodup_cons.mp nd0
  have r := map_lookup (l.map (fun p => p.f)) vs nd.2 (by simpa using hlen)
  rw [List.map_map] at r
  rw [← r]
  refine List.map_congr_left fun p hp => ?_
  have e' : (p.f == (Str.ofString "self")) = false := by
    simp
    intro e
    exact nd.1 (e ▸ List.mem_map_of_mem hp)
  unfold mm
  simp [List.lookup, e']
theorem err_init {params : Arguments} {scope : Scope} {l : List Fl} (T : ErrC K C) (I : ErrI prog K mg C fI params scope l) {x t0 : Addr} {vs : List Value} {args : Args} (Md : L2.Mod K mg s.heap) (hx : s.heap.get? x = some (excO C t0)) (hnx : K.lookup x = none)
    (hroom : A.depth < recursionLimit) (hlen : l.length = vs.length)
    (hbind : ∀ (qual : Str) (body : List Stmt) (doc pm : Value) (an : Option Addr) (cda : Value) (ct : Value) (cc : Addr), BindsTo s (ksFn "__init__" qual params body scope .none .none doc pm an cda ct cc) args (((Str.ofString "self") :: l.map (fun p => p.f)).zip (Value.ref x :: vs)))
    (hq : ∀ h' tk, Made s.heap h' x C (fun y => List.lookup y ((l.map (fun p => p.f)).zip vs)) → R (.ok (.ret .none)) { s with heap := h', toks := tk }) :
    codeAny (model prog w) A (.call (.ref fI) args) R s := by
  obtain ⟨oc, od, qual, r0, r1, r2, r3, r4, doc, pm, an, cda, ct, cc, osl, ho, hcd, hln, ⟨cl, cld, csl, hcell⟩, ccl, cdd, fvs, ccs, file, tf, hcode, hvs, hfile⟩ := I.fn
  obtain ⟨nm, q, N, bs, bm, sn, sub, ab, col, dd, k0, k1, k2, k3, k5, hC, hbm⟩ := T.cls
  have hcl : clsIn K C = some { name := nm, bases := bs, mro := .ref C :: bm, ns := N, qualname := q, hasDict := true, slotNames := sn, subclasses := sub, abstract := ab, collection := col, hasDel := false } := by unfold clsIn; rw [hC] <;> rfl
  obtain ⟨mb, hmb, hbo⟩ := Md.blt
  have X := Md.kin
  have hlen' : ((Str.ofString "self") :: l.map (fun p => p.f)).length = (Value.ref x :: vs).length := by simp [hlen]
  refine ks_codeAny_call_defAt (fd := ksFn "__init__" qual params (eBody r0 r1 r2 r3 r4 l) scope .none .none doc pm an (.ref cda) ct cc) (body := eBody r0 r1 r2 r3 r4 l) (binds := ((Str.ofString "self") :: l.map (fun p => p.f)).zip (Value.ref x :: vs))
    hroom (X _ _ ho) rfl Md.nolimit (codeRec_of X hcd) rfl (hbind _ _ _ _ _ _ _ _) I.scell (fun y hy => I.sl _ (List.of_mem_zip (a := y.1) (b := y.2) hy).1) (fun h₁ hns kk => ?_) I.sco I.sge I.sk
  obtain ⟨hp, g, d, t, os⟩ := s
  have hxL : hp.objs.size ≠ x := Nat.ne_of_gt (Heap.lt_size hx)
  have X₁ : K.In h₁ := X.keeps kk
  have hx₁ := kk _ _ hx
  have env_eq : callEnv (ksFn "__init__" qual params (eBody r0 r1 r2 r3 r4 l) scope .none .none doc pm an (.ref cda) ct cc) hp.objs.size fI = ksEnv qual scope hp.objs.size fI (.ref cda) cc := rfl
  rw [env_eq]
  have hns' : h₁.Ns hp.objs.size (mm x l vs) := by
    have e : mm x l vs = fun y => List.lookup y (((Str.ofString "self") :: l.map (fun p => p.f)).zip (Value.ref x :: vs)).reverse := funext fun y => (lookup_zip_rev _ _ I.nd hlen' y).symm
    rw [e]
    exact hns
  have mf : l.map (fun p => mm x l vs p.f) = vs.map some := mm_fields I.nd hlen
  have kself : (ksEnv qual scope hp.objs.size fI (.ref cda) cc).kindOf "self" = some .local := I.sl _ List.mem_cons_self
  have kf : ∀ p ∈ l, (ksEnv qual scope hp.objs.size fI (.ref cda) cc).kindOf p.f = some .local := fun p hp => I.sl _ (List.mem_cons_of_mem _ (List.mem_map_of_mem hp))
  have hi : interactive (ksEnv qual scope hp.objs.size fI (.ref cda) cc) = false := by
    unfold interactive
    rw [show (ksEnv qual scope hp.objs.size fI (.ref cda) cc).scope.kind = .function from I.sk]
    rfl
  refine ks_wpAt_execs_cons (ks_wpAt_Expr_any (ks_wpAt_MethodCall ?_ (super_eval I.few hln)) hi (by cases l <;> rfl))
  obtain ⟨ap, hap⟩ := I.hd
  obtain ⟨oD, hD1, hD2⟩ : ∃ oD, h₁.get? C = some oD ∧ oD.data = .cls { name := nm, bases := bs, mro := .ref C :: bm, ns := N, qualname := q, hasDict := true, slotNames := sn, subclasses := sub, abstract := ab, collection := col, hasDel := false } := ⟨_, X₁ _ _ hC, rfl⟩
  refine ks_wpAt_super_base (env := ksEnv qual scope hp.objs.size fI (.ref cda) cc) (ar := { arg := "self", annotation := none, pos := ap }) I.ss I.sc (by decide) rfl (X₁ _ _ ho) rfl (by show (params.posonlyargs ++ params.args).head? = _; rw [hap]; rfl) rfl (X₁ _ _ hcode) rfl hvs hfile I.ptop ?_
  refine ks_loadName_global I.sk I.ss (loadGlobal_builtin (env := ksEnv qual scope hp.objs.size fI (.ref cda) cc) (Md.glob.keeps kk) I.msup (hmb.keeps kk) ((hbo _ (by decide +kernel)).trans (by decide +kernel)) ⟨rfl, ?_⟩)
  refine wpAny_loadName_free I.sk I.sc rfl ⟨_, X₁ _ _ hcell, rfl⟩ ?_
  refine wpAny_loadName_local I.sk kself hns' mm_self ?_
  refine ks_wpAny_isType_cls hD1 hD2 ⟨rfl, ?_⟩
  have IA : InstAt h₁ x (excO C t0) C none := ⟨hx₁, rfl, rfl, trivial⟩
  refine ks_wpAny_call_super hD1 hD2 hx₁ rfl (fun c e => by cases e) (looks_mroIn X₁ T.subC) (fun h₂ e₂ kk₂ => ?_)
  have X₂ : K.In h₂ := X₁.keeps kk₂
  have IA₂ : InstAt h₂ x (excO C t0) C none := ⟨kk₂ _ _ hx₁, rfl, rfl, trivial⟩
  have hm := T.sup
  unfold ks_superIn at hm
  rw [hcl] at hm
  refine kxs_getMethod kxs_ValueError e₂ (looks_opaque X₂ T.opq) (l₀ := .ref C :: bm) ?_ rfl X₂ hm (IA₂.type.andThen (looks_subIn X₂ T.subB)) (ks_ne X₂ IA₂ hcl) (by decide) ?_
  · exact fun A Q E s k q => wpAny_bind ((looks_clsIn X₂ hcl) A _ E s k (wpAny_pure q))
  have kk₃ : ∀ b o, h₂.get? b = some o → (h₂.push (kxs_mw "ValueError.__init__" x)).get? b = some o := fun b o e => Heap.get?_push_of_some _ e
  have k13 : ∀ b o, h₁.get? b = some o → (h₂.push (kxs_mw "ValueError.__init__" x)).get? b = some o := fun b o e => kk₃ b o (kk₂ b o e)
  refine kxs_callWith (i := "ValueError.__init__") (x := x) (names_plain l) ?_
  refine names_args I.ne ?_
  refine names_at I.sk l vs _ _ (hns'.keeps k13) kf I.nodeb mf ?_
  have hmw : (h₂.push (kxs_mw "ValueError.__init__" x)).get? h₂.objs.size = some (kxs_mw "ValueError.__init__" x) := Heap.get?_push_at rfl rfl
  refine ⟨hmw, ?_⟩
  have hvl : vs.length ≤ sizeLine := by
    have := I.few
    rw [sizeLine_eq]
    omega
  refine mw_call (rest := vs) (t0 := t0) (k13 _ _ (X₁ _ _ hC)) (k13 _ _ hx₁) hmw hvl (fun h₄ t1 kk₄ hx₄ => ?_)
  refine wpAt_of_wpAny ?_
  have nxC : ∀ a o, K.lookup a = some o → a ≠ x := fun a o e z => by rw [z, hnx] at e; cases e
  have X₄ : K.In h₄ := fun a o e => kk₄ a o (nxC a o e) (k13 _ _ (X₁ a o e))
  have hL₄ : h₄.Ns hp.objs.size (mm x l vs) := (hns'.keeps k13).at fun o e => kk₄ _ o hxL e
  have old₄ : ∀ b o, b ≠ x → hp.get? b = some o → h₄.get? b = some o := fun b o hb e => kk₄ b o hb (k13 b o (kk b o e))
  have hne := I.ne
  have hno := I.no
  have hdb := I.nodeb
  have hfew := I.few
  have hnd := (List.nodup_cons.mp I.nd).2
  cases l with
  | nil => exact absurd rfl hne
  | cons p l =>
    cases vs with
    | nil => simp at hlen
    | cons v vs =>
      simp only [List.map_cons, List.cons.injEq] at mf
      show wpAny _ _ (execs (Stmt.Assign [.Attribute (.Name "self" p.q1) p.f p.q2] (.Name p.f p.q3) p.q4 :: eStores l) _) _ _ _
      refine wpAny_execs_cons (plainObj_wpAny_Assign_Attribute ?_)
      refine wpAny_Name (wpAny_loadName_local I.sk (kf p List.mem_cons_self) hL₄ mf.1 ?_) (hdb p List.mem_cons_self)
      refine wpAny_Name (wpAny_loadName_local I.sk kself hL₄ mm_self ?_) (by decide)
      refine set_plain X₄ (ox := excO C t1) (od := none) ⟨hx₄, rfl, rfl, trivial⟩ T.sa ?_
      refine exc_osa X₄ hx₄ hcl (show refsVE (.ref C :: bm) = true from hbm) rfl (hno p List.mem_cons_self) (fun h₅ tk₅ dx k₅ dn dne hx₅ hn₅ => ?_)
      show wpAny _ _ (execs _ _) _ _ _
      have z4 : hp.objs.size < h₄.objs.size := hL₄.lt
      have nKd : K.lookup dx = none := by
        cases e : K.lookup dx with
        | none => rfl
        | some o => exact absurd (Heap.lt_size (X₄ _ _ e)) (Nat.not_lt.mpr dn)
      have X₅ : K.In h₅ := fun a o e => k₅ a o (nxC a o e) (X₄ a o e)
      have dL : dx ≠ hp.objs.size := Nat.ne_of_gt (Nat.lt_of_lt_of_le z4 dn)
      refine stores_more (x := x) (dx := dx) (t1 := t1) T I.sk hnx kself mm_self l vs [(p.f, v)] _ _ X₅ nKd dL dne (hL₄.at fun o e => k₅ _ o hxL e) hx₅ (ns1_eq hn₅ fun y => lookup_put [] p.f v y) (by simp at hfew ⊢; omega)
        (fun q hq => kf q (List.mem_cons_of_mem _ hq)) (fun q hq => hdb q (List.mem_cons_of_mem _ hq)) (fun q hq => hno q (List.mem_cons_of_mem _ hq)) mf.2 fun h₆ tk₆ k₆ n₆ => ?_
      refine hq h₆ tk₆ ⟨fun b o hb e => ?_, dx, t1, k₆ _ _ dne.symm hx₅, Nat.le_trans (Nat.le_of_lt z4) dn, dne, ns1_eq n₆ fun y => ?_⟩
      · refine k₆ b o ?_ (k₅ b o hb (old₄ b o hb e))
        exact Nat.ne_of_lt (Nat.lt_of_lt_of_le (Nat.lt_trans (Heap.lt_size e) z4) dn)
      · have e1 : (((l.map (fun p => p.f)).zip vs).reverse ++ [(p.f, v)]) = (((p :: l).map (fun p => p.f)).zip (v :: vs)).reverse := by simp
        rw [e1]
        exact lookup_zip_rev _ _ hnd (by simpa using hlen) y
end
end GW
end PySem
set_option Elab.async false
set_option linter.all false
set_option maxRecDepth 100000
set_option maxHeartbeats 4000000
namespace PySem
namespace GW
open PySem.W PySem.Calls PyProof.Rows PySem.HandSPX
/-- a new error at e, its own dict at d -/
structure NewErr (h h' : Heap) (e C d : Addr) (m : Str → Option Value) : Prop where
  keep : ∀ b o, h.get? b = some o → h'.get? b = some o
  new : h.objs.size ≤ e
  dnew : h.objs.size ≤ d
  dne : d ≠ e
  obj : ∃ t1, h'.get? e = some { cls := .ref C, dict := some d, data := .fields #[.ref t1, .none, .none, .none, .bool false, .none] }
  ns : h'.Ns1 d m
theorem mod_keeps {K : Frag} {mg : Str → Option Value} {h h' : Heap} (M : L2.Mod K mg h) (k : ∀ b o, h.get? b = some o → h'.get? b = some o) : L2.Mod K mg h' :=
  ⟨M.kin.keeps k, M.glob.keeps k, let ⟨mb, e, q⟩ := M.blt; ⟨mb, e.keeps k, q⟩, M.nolimit.keeps k⟩
section
variable {prog : Program} {w : World} {A : Around} {E : Value → Shared → Prop} {R : Result → Shared → Prop} {s : Shared} {K : Frag} {mg : Str → Option Value} {C fI : Addr}
theorem err_made {params : Arguments} {scope : Scope} {l : List Fl} (T : ErrC K C) (I : ErrI prog K mg C fI params scope l) {ps vs : List Value} {kw : List (Str × Value)} (Md : L2.Mod K mg s.heap)
    (hroom : A.depth + 1 < recursionLimit) (hlen : l.length = vs.length) (hz : ps.length ≤ sizeLine)
    (hbind : ∀ (s' : Shared) (e : Addr) (qual : Str) (body : List Stmt) (doc pm : Value) (an : Option Addr) (cda : Value) (ct : Value) (cc : Addr), BindsTo s' (ksFn "__init__" qual params body scope .none .none doc pm an cda ct cc) ⟨.ref e :: ps, kw⟩ (((Str.ofString "self") :: l.map (fun p => p.f)).zip (Value.ref e :: vs)))
    (hq : ∀ h' tk e d, NewErr s.heap h' e C d (fun y => List.lookup y ((l.map (fun p => p.f)).zip vs)) → R (.ok (.ret (.ref e))) { s with heap := h', toks := tk }) :
    codeAny (model prog w) A (.call (.ref C) ⟨ps, kw⟩) R s := by
  obtain ⟨nm, q, N, bs, bm, sn, sub, ab, col, dd, k0, k1, k2, k3, k5, hC, hbm⟩ := T.cls
  obtain ⟨hp, g, d, t, os⟩ := s
  have X := Md.kin
  have kk : ∀ b o, hp.get? b = some o → ((hp.push (kdv_tup ps)).push (excO C hp.objs.size)).get? b = some o := fun b o e => Heap.get?_push_of_some _ (Heap.get?_push_of_some _ e)
  have hget : ((hp.push (kdv_tup ps)).push (excO C hp.objs.size)).get? (hp.objs.size + 1) = some (excO C hp.objs.size) := by heap_get
  have hnx : K.lookup (hp.objs.size + 1) = none := by
    cases e : K.lookup (hp.objs.size + 1) with
    | none => rfl
    | some o =>
      have z : hp.get? (hp.objs.size + 1) = some o := X _ _ e
      exact absurd (Nat.lt_of_succ_lt (Heap.lt_size z)) (Nat.lt_irrefl _)
  refine call_kw F.excBase_ValueError (fun X => refsVE_contains X bm hbm) (X _ _ hC) (looks_findIn X I.ini) (fun self => bind_fn X self I.tI) hz ?_
  refine err_init (s := ⟨(hp.push (kdv_tup ps)).push (excO C hp.objs.size), g, d, t, os⟩) T I (mod_keeps Md kk) hget hnx ?_ hlen (fun qual body doc pm an cda ct cc => hbind _ _ _ _ _ _ _ _ _ _) fun h' tk' M => ?_
  · show A.depth + 1 < recursionLimit
    exact hroom
  · obtain ⟨dx, t1, hx, dn, dne, hns⟩ := M.obj
    have old : ∀ b o, hp.get? b = some o → h'.get? b = some o := fun b o e => M.keep b o (Nat.ne_of_lt (Nat.lt_succ_of_lt (Heap.lt_size e))) (kk b o e)
    have z : hp.objs.size ≤ dx := by
      have q : ((hp.push (kdv_tup ps)).push (excO C hp.objs.size)).objs.size ≤ dx := dn
      rw [Heap.size_push, Heap.size_push] at q
      omega
    exact ⟨rfl, hq h' tk' (hp.objs.size + 1) dx ⟨old, Nat.le_succ _, z, dne, ⟨t1, hx⟩, hns⟩⟩
end
end GW
end PySem
namespace L2
open PySem PySem.Spec PyProof.Rows PySem.GW
/-- the module's facts at the state at hand -/
theorem Inv.modNow {X : Cx} {pins : List (Addr × Obj)} {σ : St} {H : Hp} {s : Shared} (I : Inv X pins σ H s) : Mod X.K X.mg s.heap := mod_keeps I.ok.mod I.bk
/-- how the values and the keywords of a call come to the fields of an error -/
def EBind (params : Arguments) (scope : Scope) (l : List Fl) (n : Nat) (ks : List Str) : Prop :=
  ∀ (us ws : List Value), us.length = n → ws.length = ks.length → ∀ (s' : Shared) (e : Addr) (qual : Str) (body : List Stmt) (doc pm : Value) (an : Option Addr) (cda : Value) (ct : Value) (cc : Addr),
    BindsTo s' (PySem.W.ksFn "__init__" qual params body scope .none .none doc pm an cda ct cc) ⟨.ref e :: us, ks.zip ws⟩ (((Str.ofString "self") :: l.map (fun p => p.f)).zip (Value.ref e :: (us ++ ws)))
/-- e makes a new error of the class at C, whose fields fs hold the values that t tells -/
def PEr (X : Cx) (e : Expr) (C : Addr) (fs : List Str) (t : TA) : Prop :=
  ∀ (pins : List (Addr × Obj)) (s : Shared) (σ : St) (H : Hp) (Q : List V → Hp → Prop), Inv X pins σ H s → t σ H Q → wpAny (model X.prog X.w) X.A (eval e X.env)
    (fun u s' => ∃ (a d : Addr) (vs : List V) (us : List Value) (H' : Hp) (s1 : Shared) (h' : Heap) (tk : Nat), u = .ref a ∧ Inv X pins σ H' s1 ∧ s' = { s1 with heap := h', toks := tk } ∧ NewErr s1.heap h' a C d (fun y => List.lookup y (fs.zip us)) ∧ Vals vs us ∧ fs.length = us.length ∧ Q vs H') X.xe s
section
variable {X : Cx} {C fI : Addr} {x : Str} {p pos : Pos} {e : Expr} {es : List Expr} {kws : List Keyword} {t tk : TA} {params : Arguments} {scope : Scope} {l : List Fl} {n k : Nat} {ks : List Str}
def tApp (n m : Nat) (t tk : TA) : TA := fun σ H Q => t σ H fun vs H1 => tk σ H1 fun zs H2 => vs.length = n ∧ zs.length = m ∧ Q (vs ++ zs) H2
def tLen (n : Nat) (t : TA) : TA := fun σ H Q => t σ H fun vs H1 => vs.length = n ∧ Q vs H1
theorem err_run (T : ErrC X.K C) (I : ErrI X.prog X.K X.mg C fI params scope l) (hr : Room k X.A) (hb : EBind params scope l n ks) (hn : n + ks.length = l.length) {pins : List (Addr × Obj)} {σ : St} {H : Hp} {s : Shared} {Q : List V → Hp → Prop} {us ws : List Value} {vs zs : List V}
    (J : Inv X pins σ H s) (r : Vals vs us) (rz : Vals zs ws) (l1 : vs.length = n) (l2 : zs.length = ks.length) (h : Q (vs ++ zs) H) :
    wpAny (model X.prog X.w) X.A (call (.ref C) us (ks.zip ws)) (fun u s' => ∃ (a d : Addr) (vs : List V) (us : List Value) (H' : Hp) (s1 : Shared) (h' : Heap) (tk : Nat), u = .ref a ∧ Inv X pins σ H' s1 ∧ s' = { s1 with heap := h', toks := tk } ∧ NewErr s1.heap h' a C d (fun y => List.lookup y ((l.map (fun p => p.f)).zip us)) ∧ Vals vs us ∧ (l.map (fun p => p.f)).length = us.length ∧ Q vs H') X.xe s := by
  have e1 : us.length = n := r.length.symm.trans l1
  have e2 : ws.length = ks.length := rz.length.symm.trans l2
  have few := I.few
  have hl : l.length = (us ++ ws).length := by rw [List.length_append]; omega
  refine wpAny_call (err_made T I J.modNow (by have := hr.dp; omega) hl (by rw [sizeLine_eq]; omega) (hb us ws e1 e2) fun h' tk a d M => ?_)
  exact ⟨a, d, vs ++ zs, us ++ ws, H, s, h', tk, rfl, J, rfl, M, Vals.append r rz, by rw [List.length_map]; exact hl, h⟩
theorem per_pos (T : ErrC X.K C) (I : ErrI X.prog X.K X.mg C fI params scope l) (hr : Room k X.A) (hg : Gl X x) (gC : X.mg x = some (.ref C)) (kC : PySem.W.keepIn X.K (.ref C) = true) (hb : EBind params scope l l.length [])
    (ha : PA X (e :: es) t) (hdb : (x == ("__debug__" : Str)) = false := by decide) (he : starEach (e :: es) X.env = (false, eval e X.env) :: starEach es X.env := by rfl) (hpl : (backTo pos (starEach es X.env)).any (·.1) = false := by rfl) :
    PEr X (.Call (.Name x p) (e :: es) [] pos) C (l.map (fun p => p.f)) (tLen l.length t) := by
  intro pins s σ H Q J h
  refine wpAny_Call_Name_kw (ld_glob J hg gC ?_ hdb)
  refine PySem.W.callWith_K (h₀ := X.base) J.ok.mod.kin kC (thn (ha.run pos pins s σ H _ J h) fun us s1 hh => ?_) he hpl
  obtain ⟨vs, H1, J1, r, q1, q2⟩ := hh
  refine ⟨J1.kIn, ?_⟩
  have := err_run (zs := []) (ws := []) T I hr hb (by simp) J1 r .nil q1 rfl (Q := Q) (by simpa using q2)
  simpa using this
theorem per_mix (T : ErrC X.K C) (I : ErrI X.prog X.K X.mg C fI params scope l) (hr : Room k X.A) (hg : Gl X x) (gC : X.mg x = some (.ref C)) (kC : PySem.W.keepIn X.K (.ref C) = true) (hb : EBind params scope l n ks) (hn : n + ks.length = l.length)
    (ha : PA X (e :: es) t) (hkw : PK X kws tk) (hall : (backToKw pos (keywordEach kws X.env)).all (·.1.isSome) = true := by rfl) (hks : (backToKw pos (keywordEach kws X.env)).filterMap (·.1) = ks := by rfl)
    (hdb : (x == ("__debug__" : Str)) = false := by decide) (he : starEach (e :: es) X.env = (false, eval e X.env) :: starEach es X.env := by rfl)
    (hpl : ((backTo pos (starEach (e :: es) X.env)).any (·.1) || (backToKw pos (keywordEach kws X.env)).any (·.1.isNone)) = false := by rfl) :
    PEr X (.Call (.Name x p) (e :: es) kws pos) C (l.map (fun p => p.f)) (tApp n ks.length t tk) := by
  intro pins s σ H Q J h
  refine wpAny_Call_Name_kw (ld_glob J hg gC ?_ hdb)
  refine PySem.W.callWith_KW (h₀ := X.base) J.ok.mod.kin kC hall (thn (ha.run pos pins s σ H _ J h) fun us s1 ⟨vs, H1, J1, r, q⟩ => ?_) hpl he
  refine thn (hkw.run pos pins s1 σ H1 _ J1 q) fun ws s2 ⟨zs, H2, J2, rz, l1, l2, q2⟩ => ⟨J2.kIn, ?_⟩
  rw [hks]
  exact err_run T I hr hb hn J2 r rz l1 l2 q2
theorem per_kw (T : ErrC X.K C) (I : ErrI X.prog X.K X.mg C fI params scope l) (hr : Room k X.A) (hg : Gl X x) (gC : X.mg x = some (.ref C)) (kC : PySem.W.keepIn X.K (.ref C) = true) (hb : EBind params scope l 0 ks) (hn : ks.length = l.length)
    (hkw : PK X kws tk) (hall : (backToKw pos (keywordEach kws X.env)).all (·.1.isSome) = true := by rfl) (hks : (backToKw pos (keywordEach kws X.env)).filterMap (·.1) = ks := by rfl)
    (hdb : (x == ("__debug__" : Str)) = false := by decide)
    (hpl : ((backTo pos (starEach [] X.env)).any (·.1) || (backToKw pos (keywordEach kws X.env)).any (·.1.isNone)) = false := by rfl) :
    PEr X (.Call (.Name x p) [] kws pos) C (l.map (fun p => p.f)) (tLen ks.length tk) := by
  intro pins s σ H Q J h
  refine wpAny_Call_Name_kw (ld_glob J hg gC ?_ hdb)
  refine PySem.W.callWith_KW0 (h₀ := X.base) J.ok.mod.kin kC hall (thn (hkw.run pos pins s σ H _ J h) fun ws s2 ⟨zs, H2, J2, rz, l2, q2⟩ => ⟨J2.kIn, ?_⟩) hpl
  rw [hks]
  exact err_run (vs := []) T I hr hb (by omega) J2 .nil rz rfl l2 q2
end
end L2
set_option Elab.async false
set_option linter.all false
set_option maxRecDepth 100000
set_option maxHeartbeats 4000000
namespace PySem
namespace GW
open PySem PySem.W PySem.Spec PySem.Calls PyProof.Rows PySem.HandSPX
section
variable {prog : Program} {w : World} {A : Around} {E : Value → Shared → Prop} {s : Shared} {K : Frag} {x D : Addr} {ox : Obj} {od : Option Obj}
theorem findObj_any {C : Addr} {name : Str} {a g : Value} (hc : (clsIn K C).isSome = true) (ha : findIn K (.ref C) name = some (some a)) (hg : specialIn K a "__get__" = some (some g)) (ht : takesIn K a = some true) : findObj K C od name = some (.bind g a) := by
  obtain ⟨cd, hcd⟩ := Option.isSome_iff_exists.mp hc
  unfold findObj
  rw [hcd, Option.bind_some, ha, Option.bind_some]
  simp [hg, ht]
theorem class_of {Q : Option Value → Shared → Prop} (Z : L2.ExcC K D) (X : K.In s.heap) (I : InstAt s.heap x ox D od) (h : Q (some (.ref D)) { s with toks := s.toks + 1 }) : wpAny (model prog w) A (getAttr? (.ref x) "__class__") Q E s := by
  have hf : findObj K D od "__class__" = some (.bind (.builtin "getset_descriptor.__get__") (.builtin "object.__class__")) := findObj_any (by obtain ⟨cd, hc, _⟩ := any_some Z.hd; rw [hc]; rfl) Z.ha Z.hn Z.ht
  obtain ⟨hp, g, d, t, os⟩ := s
  have g0 := I.type (M := model prog w)
  have g1 := looks_findIn (M := model prog w) X Z.hg
  have g2 := looks_findIn (M := model prog w) X Z.hk
  have g3 := looks_find (M := model prog w) X I hf
  have su : Looks (model prog w) hp (isInstance (.ref x) (.type "BaseException")) true := g0.andThen (looks_subIn X Z.hs)
  have b0 : (false && onTheHeap (Value.builtin "BaseException.__getattribute__")) = false := rfl
  have b2 : (Value.builtin "BaseException.__getattribute__" == Value.builtin "object.__getattribute__") = false := by decide +kernel
  have b1 : (onTheHeap (Value.ref D) && Value.builtin "BaseException.__getattribute__" == Value.builtin "object.__getattribute__") = false := by rw [b2]; rfl
  unfold getAttr? getAttrBy? getAttrBy
  refine wpAny_bind (wpAny_mkText (wpAny_bind (wpAny_attempt (wpAny_holding (wpAny_bind (g0.at (wpAny_bind (g1.at ?_))))))))
  show wpAny _ _ (if (onTheHeap (Value.ref D) && Value.builtin "BaseException.__getattribute__" == Value.builtin "object.__getattribute__") = true then _ else _) _ _ _
  rw [b1, if_neg Bool.false_ne_true]
  unfold getAttrByItsOwn hookBefore
  refine wpAny_bind ?_
  rw [if_pos (show onTheHeap (Value.ref D) = true from rfl)]
  refine g2.at ?_
  refine wpAny_bind (wpAny_attempt (wpAny_holding ?_))
  unfold callGetattribute
  rw [b0, if_neg Bool.false_ne_true]
  unfold boundAndCalled
  rw [PySem.F.excAttr_ValueError.ga.bind (.ref x)]
  refine wpAny_bind (wpAny_pure ?_)
  show wpAny _ _ (call (.builtin "BaseException.__getattribute__") [.ref x, .str "__class__" t]) _ _ _
  refine wpAny_call (codeAny_call_builtin PySem.F.excAttr_ValueError.ga.plain PySem.F.entry_bexc_ga ?_)
  refine @check_slot (model prog w) _ _ ⟨hp, g, d, t + 1, os⟩ "BaseException.__getattribute__" "BaseException" "__getattribute__" (.ref x) [.str "__class__" t] [] _ (by decide +kernel) (by decide +kernel) su (PySem.F.args_bexc_ga (.ref x) (.str "__class__" t)) ?_
  unfold Builtin.«object.__getattribute__»
  refine wpAny_bind (wpAny_of_eq (a := ((Value.ref x : Value), [Value.str "__class__" t])) (by first | rfl | (simp only [slotArgs]; rfl)) ?_)
  refine wpAny_bind (wpAny_pure (wpAny_bind (g0.at (wpAny_bind (g3.at ?_)))))
  show wpAny _ _ (holding [Value.builtin "object.__class__"] (call (.builtin "getset_descriptor.__get__") [.builtin "object.__class__", .ref x, .ref D]) >>= ret) _ _ _
  refine wpAny_bind (wpAny_holding (wpAny_call (class_get (s := ⟨hp, g, d, t + 1, os⟩) (ox := ox) (od := od) X I Z.hm ?_)))
  refine wpAny_pure ?_
  show wpAny _ _ (handedOut (.ref D)) _ _ _
  rw [handedOut_of (v := .ref D) rfl]
  first
    | exact wpAny_pure (wpAny_pure h)
    | exact wpAny_pure h
    | exact wpAny_pure (wpAny_bind (wpAny_pure (wpAny_pure h)))
theorem kit_err (Z : L2.ExcC K D) : KitX K (.ref x) (.ref D) (fun h => ∃ ox od, InstAt h x ox D od) where
  ty := fun _ _ _ ⟨_, _, I⟩ => I.type
  it := fun _ _ X _ => by
    obtain ⟨cdD, hcD, _⟩ := any_some Z.hd
    unfold clsIn at hcD
    split at hcD
    · rename_i c' d' cd' sl' ho
      intro A' Q' E' s' k q
      unfold isType loadHead
      exact wpAny_bind (wpAny_loadPart (k _ _ (X _ _ ho)) (wpAny_pure q))
    · cases hcD
  ne := fun h tp dd its n sl X htp => by
    obtain ⟨cdD, hcD, _⟩ := any_some Z.hd
    refine Bool.eq_false_iff.mpr fun q => ?_
    have e : D = tp := Value.ref.inj (beq_iff_eq.mp q)
    subst e
    unfold clsIn at hcD
    split at hcD
    · rename_i c' d' cd' sl' ho
      have z := (X _ _ ho).symm.trans htp
      cases z
    · cases hcD
  ca := fun X ⟨_, _, I⟩ k => class_of Z X I k
end
end GW
end PySem
namespace L2
open PySem PySem.Spec PyProof.Rows PySem.GW
/-- an error of the class at C that is held: with its own dict, or without one -/
def errO (a C : Addr) (d : Option Addr) : HO := .ext fun h => ∃ (oe : Obj) (vs : Array Value), h.get? a = some oe ∧ oe.cls = .ref C ∧ oe.dict = d ∧ oe.data = .fields vs
theorem errO_ok {P : Program} {w : World} {H : Hp} {h : Heap} {a C : Addr} {d : Option Addr} {oe : Obj} {vs : Array Value} (e : h.get? a = some oe) (c : oe.cls = .ref C) (q : oe.dict = d) (dt : oe.data = .fields vs) : ObjOk P w H h a (errO a C d) :=
  ⟨⟨oe, vs, e, c, q, dt⟩, ⟨oe, e⟩, fun h1 h2 ⟨o1, v1, e1, c1, q1, d1⟩ k => ⟨o1, v1, k _ e1, c1, q1, d1⟩⟩
theorem errO_at {P : Program} {w : World} {H : Hp} {h : Heap} {a C : Addr} {d : Option Addr} (ok : HOk P w H h) (e : H a = some (errO a C d)) : ∃ (oe : Obj) (vs : Array Value), h.get? a = some oe ∧ oe.cls = .ref C ∧ oe.dict = d ∧ oe.data = .fields vs := (ok a _ e).1
theorem relO_zip : ∀ {fs : List Str} {vs : List V} {us : List Value}, Vals vs us → ∀ f : Str, RelO (List.lookup f (fs.zip vs)) (List.lookup f (fs.zip us))
  | [], _, _, _, f => by simp [List.lookup, RelO]
  | g :: fs, [], [], _, f => by simp [List.lookup, RelO]
  | g :: fs, v :: vs, u :: us, .cons r rs, f => by
    by_cases e : f = g
    · subst e
      simp [List.lookup, RelO]
      exact r
    · have e' : (f == g) = false := by simpa using e
      simp only [List.zip_cons_cons, List.lookup, e']
      exact relO_zip rs f
section
variable {X : Cx} {C : Addr} {fs : List Str} {e : Expr} {t : TA} {pos pos2 : Pos} {f : Str}
/-- the class as a reader of its fields -/
structure ErrG (K : PySem.W.Frag) (C : Addr) : Prop where
  ga : PySem.W.findIn K (.ref C) "__getattribute__" = some (some (.builtin "BaseException.__getattribute__"))
  gg : PySem.W.findIn K (.ref C) "__getattr__" = some none
  ex : PySem.W.subIn K (.ref C) (.type "BaseException") = some true
  hd : PySem.W.hasDictIn K C = true
/-- C(..).f -/
theorem pe_errF (G : ErrG X.K C) (no : PySem.W.findIn X.K (.ref C) f = some none) (hE : PEr X e C fs t) (hb : attributeBase e f X.env (eval e X.env) = eval e X.env := by rfl) :
    PE X (.Attribute e f pos) (fun σ H Q => t σ H fun vs H1 => ∃ v, List.lookup f (fs.zip vs) = some v ∧ Q v H1) := by
  refine ⟨fun pins s σ H Q I h => ?_⟩
  refine attr_of hb (thn (hE pins s σ H _ I h) fun u s1 hh => ?_)
  obtain ⟨a, d, vs, us, H', s0, h', tk, rfl, J, rfl, M, r, hl, v, hv, q⟩ := hh
  obtain ⟨t1, ho⟩ := M.obj
  obtain ⟨od, hod, hlk⟩ := lookIn_ns M.ns
  obtain ⟨u, hu, ru⟩ := RelO.some_of (v := v) (o := List.lookup f (fs.zip us)) (by rw [← hv]; exact relO_zip r f)
  have J2 : Inv X pins σ H' { s0 with heap := h', toks := tk } := J.kept M.keep
  have K2 : PySem.W.InstAt h' a { cls := .ref C, dict := some d, data := .fields #[.ref t1, .none, .none, .none, .bool false, .none] } C (some od) := ⟨ho, rfl, rfl, hod⟩
  exact HandSPX.exc_get J2.kIn K2 G.ga G.gg G.ex (PySem.W.findObj_own G.hd no rfl (by rw [hlk, hu])) (handed_of ru) ⟨v, H', J2.tok _, ru, q⟩
/-- C(..) as a value that is held -/
theorem pe_err (hE : PEr X e C fs t) : PE X e (fun σ H Q => t σ H fun vs H1 => ∀ a d, H1 a = none → H1 d = none → d ≠ a → Q (.ref a) (upd (upd H1 d (.xd (fs.zip vs))) a (errO a C (some d)))) := by
  refine ⟨fun pins s σ H Q I h => wpAny_mono (hE pins s σ H _ I h) (fun u s1 hh => ?_) fun _ _ z => z⟩
  obtain ⟨a, d, vs, us, H', s0, h', tk, rfl, J, rfl, M, r, hl, q⟩ := hh
  obtain ⟨t1, ho⟩ := M.obj
  obtain ⟨G', g1, g2⟩ := restrict h' fun b => decide (b ≠ a)
  have gk : ∀ b, b ≠ a → G'.get? b = h'.get? b := fun b hb => g1 b (decide_eq_true hb)
  have ge : G'.get? a = none := g2 a (by simp)
  have old : ∀ b o, s0.heap.get? b = some o → G'.get? b = some o := fun b o q => (gk b (Nat.ne_of_lt (Nat.lt_of_lt_of_le (Heap.lt_size q) M.new))).trans (M.keep b o q)
  have ob : ObjOk X.prog X.w (upd H' d (.xd (fs.zip vs))) G' d (.xd (fs.zip vs)) := ⟨_, M.ns.at (fun o q => (gk d M.dne).trans q), fun f => relO_zip r f⟩
  have J1 : Inv X pins σ (upd H' d (.xd (fs.zip vs))) { s0 with heap := G', toks := tk } := J.laid (t' := tk) old M.dnew ob
  have na : H' a = none := J.hok.fresh M.new
  have nd : H' d = none := J.hok.fresh M.dnew
  have up : ∀ b o, G'.get? b = some o → h'.get? b = some o := fun b o q => by
    by_cases hb : b = a
    · rw [hb, ge] at q; cases q
    · exact (gk b hb).symm.trans q
  have na2 : (upd H' d (.xd (fs.zip vs))) a = none := by rw [upd_ne M.dne.symm]; exact na
  have J2 := J1.laidN (t' := tk) (h' := h') (a := a) (o := errO a C (some d)) up ge na2 (errO_ok ho rfl rfl rfl)
  exact ⟨.ref a, _, J2, rfl, q a d na nd M.dne⟩
/-- raise C(..) -/
theorem pmk_err (R : Raises X (.ref C)) (hE : PEr X e C fs t) : PMk X e (fun σ H Q => t σ H fun vs H1 => ∀ d, H1 d = none → Q (.ref C) (some d) (upd H1 d (.xd (fs.zip vs)))) := by
  intro pins s σ H Q I h
  refine wpAny_mono (hE pins s σ H _ I h) (fun u s1 hh => ?_) fun _ _ z => z
  obtain ⟨a, d, vs, us, H', s0, h', tk, rfl, J, rfl, M, r, hl, q⟩ := hh
  obtain ⟨t1, ho⟩ := M.obj
  obtain ⟨G', g1, g2⟩ := restrict h' fun b => decide (b ≠ a)
  have gk : ∀ b, b ≠ a → G'.get? b = h'.get? b := fun b hb => g1 b (decide_eq_true hb)
  have ge : G'.get? a = none := g2 a (by simp)
  have old : ∀ b o, s0.heap.get? b = some o → G'.get? b = some o := fun b o q => (gk b (Nat.ne_of_lt (Nat.lt_of_lt_of_le (Heap.lt_size q) M.new))).trans (M.keep b o q)
  have ob : ObjOk X.prog X.w (upd H' d (.xd (fs.zip vs))) G' d (.xd (fs.zip vs)) := ⟨_, M.ns.at (fun o q => (gk d M.dne).trans q), fun f => relO_zip r f⟩
  have J1 : Inv X pins σ (upd H' d (.xd (fs.zip vs))) { s0 with heap := G', toks := tk } := J.laid (t' := tk) old M.dnew ob
  refine ⟨a, _, _, { s0 with heap := G', toks := tk }, _, .ref C, some d, rfl, J1, fun b o q => ?_, ge, ho, ⟨rfl, rfl⟩, rfl, rfl, ?_, rfl, J.bare, R, q d (J.hok.fresh M.dnew)⟩
  · by_cases hb : b = a
    · have q' : G'.get? b = some o := q
      rw [hb, ge] at q'; cases q'
    · exact (gk b hb).symm.trans q
  · rw [upd_ne (Ne.symm M.dne)]
    exact J.hok.fresh M.new
end
section
variable {X : Cx}
theorem err_inst {P : Program} {w : World} {H : Hp} {h : Heap} {a C : Addr} {d : Option Addr} (ok : HOk P w H h) (e : H a = some (errO a C d)) (hd : ∀ dd, d = some dd → ∃ fs, H dd = some (.xd fs)) : ∃ ox od, PySem.W.InstAt h a ox C od := by
  obtain ⟨oe, vs, h1, h2, h3, h4⟩ := errO_at ok e
  have nc : PySem.W.notCls oe = true := by unfold PySem.W.notCls; rw [h4]
  cases d with
  | none => exact ⟨oe, none, h1, h2, nc, by rw [h3]; trivial⟩
  | some dd =>
    obtain ⟨fs, hx⟩ := hd dd rfl
    obtain ⟨mA, hns, _⟩ := (show ObjOk P w H h dd (.xd fs) from ok dd _ hx)
    obtain ⟨od, ho, _⟩ := lookIn_ns hns
    exact ⟨oe, some od, h1, h2, nc, by rw [h3]; exact ho⟩
/-- isinstance(e, c), e an error that is held -/
def rIsErr (K : PySem.W.Frag) : List V → Hp → VK → Prop := fun xs H Q => ∃ (a C : Addr) (d : Option Addr) (c : V) (cv : Value) (b : Bool), xs = [.ref a, c] ∧ H a = some (errO a C d) ∧ (∀ dd, d = some dd → ∃ fs, H dd = some (.xd fs)) ∧ ExcC K C ∧ ClsV c cv ∧ PySem.W.kitOne K (.ref C) cv = some b ∧ Q (.bl b) H
theorem call_isErr : CallR X (.builtin "isinstance") (rIsErr X.K) := by
  intro pins s σ H xs us Q I r h
  obtain ⟨a, C, d, c, cv, b, rfl, ha, hd, Z, k, e, q⟩ := h
  obtain ⟨u1, u2, rfl, r1, r2⟩ := vals2 r
  have e2 := k.eq r2
  subst e2
  cases (show u1 = Value.ref a from r1)
  exact PySem.W.kia_one (kit_err Z) I.kIn (err_inst I.hok ha hd) e (fun z => nomatch z) fun tk => ⟨.bl b, H, I.tok tk, rfl, q⟩
def rIsErrT (K : PySem.W.Frag) : List V → Hp → VK → Prop := fun xs H Q => ∃ (a C : Addr) (d : Option Addr) (tp : Addr) (cs : List V) (us : List Value) (b : Bool), xs = [.ref a, .ref tp] ∧ H a = some (errO a C d) ∧ (∀ dd, d = some dd → ∃ fs, H dd = some (.xd fs)) ∧ ExcC K C ∧ H tp = some (.tup cs) ∧ Paired ClsV cs us ∧ PySem.W.kitAny K (.ref C) us = some b ∧ Q (.bl b) H
theorem call_isErrT : CallR X (.builtin "isinstance") (rIsErrT X.K) := by
  intro pins s σ H xs us Q I r h
  obtain ⟨a, C, d, tp, cs, ws, b, rfl, ha, hd, Z, hT, k, e, q⟩ := h
  obtain ⟨u1, u2, rfl, r1, r2⟩ := vals2 r
  cases (show u1 = Value.ref a from r1)
  cases (show u2 = Value.ref tp from r2)
  obtain ⟨_, its, rv, o, h1, h2, n, h3⟩ := (show ObjOk X.prog X.w H s.heap tp (.tup cs) from I.hok tp _ hT)
  have e3 := ClsV.all k rv
  subst e3
  obtain ⟨oc, od, dt, sl⟩ := o
  simp only at h2 h3
  subst h2 h3
  exact PySem.W.kia_tup (kit_err Z) I.kIn (err_inst I.hok ha hd) h1 e (fun z => nomatch z) fun tk => ⟨.bl b, H, I.tok tk, rfl, q⟩
/-- raise C(), C without an __init__ of its own -/
theorem pmk_err0 {C : Addr} {bmB : List Value} {B newId initId : String} {x : Str} {p pos : Pos} (F : ExcBaseFacts B newId initId bmB) (q : PySem.W.excIn X.K C bmB newId = true) (gC : X.mg x = some (.ref C)) (kC : PySem.W.keepIn X.K (.ref C) = true) (R : Raises X (.ref C)) (hg : Gl X x)
    (hdb : (x == ("__debug__" : Str)) = false := by decide) : PMk X (.Call (.Name x p) [] [] pos) (fun _ H Q => Q (.ref C) none H) := by
  intro pins s σ H Q I h
  refine wpAny_Call_Name_kw (ld_glob I hg gC ?_ hdb)
  refine PySem.W.callWith_K0 I.kIn kC ?_
  show wpAny _ _ (call (.ref C) []) _ _ _
  obtain ⟨bm, N, nm, qn, bs, hdct, sn, sub, ab, col, dd, k0, k1, k2, k3, k5, mN, hC, hN, hni, T⟩ := exc_obj I.kIn q
  refine wpAny_call_exc_subT F T hC hN hni (fun h' a hm => ?_) (by show 0 ≤ sizeLine; omega)
  have hn : H a = none := I.hok.gone hm.new
  obtain ⟨t, ht, _, _⟩ := hm.there
  exact ⟨a, _, _, s, H, .ref C, none, rfl, I, hm.keeps, hm.new, ht, ⟨rfl, rfl⟩, rfl, rfl, hn, rfl, I.bare, R, h⟩
/-- C(): an error without an __init__ of its own -/
theorem pe_err0 {C : Addr} {bmB : List Value} {B newId initId : String} {x : Str} {p pos : Pos} (F : ExcBaseFacts B newId initId bmB) (q : PySem.W.excIn X.K C bmB newId = true) (gC : X.mg x = some (.ref C)) (kC : PySem.W.keepIn X.K (.ref C) = true) (hg : Gl X x)
    (hdb : (x == ("__debug__" : Str)) = false := by decide) :
    PE X (.Call (.Name x p) [] [] pos) (fun _ H Q => ∀ a, H a = none → Q (.ref a) (upd H a (errO a C none))) := by
  refine ⟨fun pins s σ H Q I h => ?_⟩
  refine wpAny_Call_Name_kw (ld_glob I hg gC ?_ hdb)
  refine PySem.W.callWith_K0 I.kIn kC ?_
  show wpAny _ _ (call (.ref C) []) _ _ _
  obtain ⟨bm, N, nm, qn, bs, hdct, sn, sub, ab, col, dd, k0, k1, k2, k3, k5, mN, hC, hN, hni, T⟩ := exc_obj I.kIn q
  refine wpAny_call_exc_subT F T hC hN hni (fun h' a hm => ?_) (by show 0 ≤ sizeLine; omega)
  have hn : H a = none := I.hok.gone hm.new
  obtain ⟨t, ht, _, _⟩ := hm.there
  exact ⟨.ref a, upd H a (errO a C none), I.laidN hm.keeps hm.new hn (errO_ok ht rfl rfl rfl), rfl, h a hn⟩
end
end L2
set_option Elab.async false
set_option linter.all false
set_option maxRecDepth 100000
set_option maxHeartbeats 4000000
/-! what the head tells of the errors: one Bool an error, and the text of its __init__ -/
namespace PySem
namespace GW
open PySem PySem.W PySem.Spec PySem.Calls PyProof.Rows PySem.HandSPX L2 He
structure ErrX (P : Program) (K : PySem.W.Frag) (mg : Str → Option Value) (W : Addr) (x : Str) (C fI : Addr) (params : Arguments) (scope : Scope) (l : List Fl) : Prop where
  c : ErrC K C
  i : ErrI P K mg C fI params scope l
  g : mg x = some (.ref C)
  k : PySem.W.keepIn K (.ref C) = true
  r : ErrG K C
  z : ExcC K C
  t : PySem.W.typeIn K (.ref C) = some (.type "type")
  kw : PySem.W.kitOne K (.ref C) (.ref W) = some true
  kv : PySem.W.kitOne K (.ref C) (.type "ValueError") = some true
  xw : PySem.W.exmOne K (.ref C) (.ref W) = some true
structure ErrZ (K : PySem.W.Frag) (mg : Str → Option Value) (W : Addr) (x : Str) (C : Addr) : Prop where
  q : PySem.W.excIn K C [.type "ValueError", .type "Exception", .type "BaseException", .type "object"] "ValueError.__new__" = true
  g : mg x = some (.ref C)
  k : PySem.W.keepIn K (.ref C) = true
  z : ExcC K C
  t : PySem.W.typeIn K (.ref C) = some (.type "type")
  kw : PySem.W.kitOne K (.ref C) (.ref W) = some true
  kv : PySem.W.kitOne K (.ref C) (.type "ValueError") = some true
  xw : PySem.W.exmOne K (.ref C) (.ref W) = some true
def veB : List Value := [.type "ValueError", .type "Exception", .type "BaseException", .type "object"]
def eqB (a : Option Bool) (b : Bool) : Bool := decide (a = some b)
/-- of a class: what isinstance, except and a reader ask -/
def clsB (K : Frag) (C W : Addr) : Bool :=
  keepIn K (.ref C) && (decide (typeIn K (.ref C) = some (.type "type")) && (eqO (findIn K (.ref C) "__getattribute__") (some (some (.builtin "BaseException.__getattribute__"))) && (eqO (findIn K (.ref C) "__getattr__") (some none) &&
    (eqB (subIn K (.ref C) (.type "BaseException")) true && (hasDictIn K C && (eqO (findIn K (.ref C) "__class__") (some (some (.builtin "object.__class__"))) && (eqO (specialIn K (.builtin "object.__class__") "__get__") (some (some (.builtin "getset_descriptor.__get__"))) &&
      (eqB (takesIn K (.builtin "object.__class__")) true && (eqB (mroIn K C (.type "object")) true && (eqB (kitOne K (.ref C) (.ref W)) true && (eqB (kitOne K (.ref C) (.type "ValueError")) true && eqB (exmOne K (.ref C) (.ref W)) true)))))))))))
theorem clsB_ok {K : Frag} {C W : Addr} (h : clsB K C W = true) : keepIn K (.ref C) = true ∧ typeIn K (.ref C) = some (.type "type") ∧ ErrG K C ∧ ExcC K C ∧ kitOne K (.ref C) (.ref W) = some true ∧ kitOne K (.ref C) (.type "ValueError") = some true ∧ exmOne K (.ref C) (.ref W) = some true := by
  unfold clsB eqB at h
  simp only [Bool.and_eq_true, decide_eq_true_eq] at h
  obtain ⟨h1, h2, h3, h4, h5, h6, h7, h8, h9, h10, h11, h12, h13⟩ := h
  exact ⟨h1, h2, ⟨eqO_ok h3, eqO_ok h4, h5, h6⟩, ⟨eqO_ok h3, eqO_ok h4, h5, h6, eqO_ok h7, eqO_ok h8, h9, h10⟩, h11, h12, h13⟩
def zB (K : Frag) (x : Str) : Bool := eqO (nsIn K mainGlobals x) (some (some (.ref (ga K x)))) && (excIn K (ga K x) veB "ValueError.__new__" && clsB K (ga K x) (ga K "WebError"))
theorem zB_ok {K : Frag} {h : Heap} {mg : Str → Option Value} {x : Str} (X : K.In h) (G : h.Ns mainGlobals mg) (c : zB K x = true) : ErrZ K mg (ga K "WebError") x (ga K x) := by
  unfold zB at c
  simp only [Bool.and_eq_true] at c
  obtain ⟨c1, c2, c3⟩ := c
  obtain ⟨d1, d2, d3, d4, d5, d6, d7⟩ := clsB_ok c3
  exact ⟨c2, mg_of X G (eqO_ok c1), d1, d4, d2, d5, d6, d7⟩
def fileB (file : Str) (vs : Array Value) : Bool := match vs[2]? with
  | some (Value.str f _) => f == file
  | _ => false
theorem fileB_ok {file : Str} {vs : Array Value} (h : fileB file vs = true) : ∃ f tk, vs[2]? = some (Value.str f tk) ∧ (file == f) = true := by
  unfold fileB at h
  split at h
  · rename_i f tk e
    exact ⟨f, tk, e, by have q : f = file := beq_iff_eq.mp h; rw [q]; exact beq_self_eq_true _⟩
  · cases h
def cellB (file : Str) (K : Frag) (C fI : Addr) : Bool := match K.lookup fI with
  | some ⟨_, _, .func fd, _⟩ => (match fd.closure, fd.code with
    | [(_, cc)], .ref cda => (match K.lookup cc, K.lookup cda with
      | some ⟨_, _, .cell (some (.ref D)), _⟩, some ⟨_, _, .fields vs, _⟩ => decide (D = C) && (fileB file vs && codeIn K (.ref cda) fd.qualname)
      | _, _ => false)
    | _, _ => false)
  | _ => false
abbrev IniV : Type := Option (Str × Arguments × FuncBody × Scope × Addr × List Str × Value × Value × Addr)
def iniObs (K : Frag) (x : Str) : IniV := match K.lookup (ma K (ga K x) "__init__") with
  | some ⟨_, _, .func fd, _⟩ => some (fd.name, fd.params, fd.body, fd.scope, fd.globals, fd.closure.map (fun p => p.1), fd.defaults, fd.kwdefaults, fd.builtins)
  | _ => none
def iniVal (st : Stmt) : IniV := some ("__init__", defArgs st, .stmts (defBody st), defScope st, mainGlobals, ["__class__"], .none, .none, builtinsNs)
def xB (file : Str) (K : Frag) (x : Str) (fs : List Str) : Bool :=
  eqO (nsIn K mainGlobals x) (some (some (.ref (ga K x)))) && (excInitIn K (ga K x) veB "ValueError.__new__" && (clsB K (ga K x) (ga K "WebError") && (eqO (findIn K (.ref (ga K x)) "__setattr__") (some (some (.builtin "object.__setattr__"))) &&
    (decide (ks_superIn K (ga K x) (ga K x) "__init__" = some (some (.builtin "ValueError.__init__"))) && (eqB (subIn K (.ref (ga K x)) (.type "ValueError")) true && (eqB (mroIn K (ga K x) (.ref (ga K x))) true &&
      (eqO (findIn K (.ref (ga K x)) "__init__") (some (some (.ref (ma K (ga K x) "__init__")))) && (decide (typeIn K (.ref (ma K (ga K x) "__init__")) = some (.type "function")) && ((fs.all fun f => eqO (findIn K (.ref (ga K x)) f) (some none)) && cellB file K (ga K x) (ma K (ga K x) "__init__"))))))))))
theorem refsVE_of : ∀ l : List Value, excTail veB l = true → refsVE l = true := by
  intro l
  induction l with
  | nil => intro h; exact absurd h (by decide)
  | cons v r ih =>
    intro h
    rcases excTail_cases (v :: r) h with ⟨c, r', e, h'⟩ | e
    · obtain ⟨rfl, rfl⟩ := List.cons.inj e
      exact ih h'
    · rw [e]
      decide
theorem cls_of {K : Frag} {C : Addr} (q : excInitIn K C veB "ValueError.__new__" = true) (hd : hasDictIn K C = true) :
    ∃ nm q N bs bm sn sub ab col dd k0 k1 k2 k3 k5, K.lookup C = some (excClassObj nm q C N bs bm true sn sub ab col dd k0 k1 k2 k3 k5 "ValueError.__new__") ∧ refsVE bm = true := by
  unfold excInitIn at q
  split at q
  · rename_i dd cd sl ho
    split at q
    · rename_i C' bm k0 k1 k2 k3 n k5 hm hs
      simp only [Bool.and_eq_true, beq_iff_eq, Bool.not_eq_true'] at q
      obtain ⟨⟨⟨rfl, rfl⟩, hdel⟩, ht⟩ := q
      have hdc : cd.hasDict = true := by
        obtain ⟨cd', hc, hh⟩ := any_some hd
        unfold clsIn at hc
        rw [ho] at hc
        cases hc
        exact hh
      obtain ⟨nm, bs, mro, ns, qn, hdd, sn, sub, ab, col, del⟩ := cd
      dsimp only at hm hdel hdc
      subst hm hdel hdc
      have hsl : sl = #[k0, k1, k2, k3, some (.builtin "ValueError.__new__"), k5] := by
        obtain ⟨l⟩ := sl
        simp only at hs
        rw [hs]
      subst hsl
      exact ⟨nm, qn, ns, bs, bm, sn, sub, ab, col, dd, k0, k1, k2, k3, k5, ho, refsVE_of bm ht⟩
    · cases q
  · cases q
/-- the text of an __init__ that only keeps its values -/
structure IniOk (st : Stmt) (l : List Fl) : Prop where
  body : ∃ r0 r1 r2 r3 r4 : Pos, defBody st = eBody r0 r1 r2 r3 r4 l ∧ (r2.endLine == r3.line) = true
  nd : ((Str.ofString "self") :: l.map (fun p => p.f)).Nodup
  ne : l ≠ []
  few : l.length ≤ 10
  hd : ∃ p, (defArgs st).posonlyargs ++ (defArgs st).args = { arg := "self", annotation := none, pos := p } :: ((defArgs st).posonlyargs ++ (defArgs st).args).tail
  sk : (defScope st).kind = .function
  sco : (defScope st).isCoroutine = false
  sge : (defScope st).isGenerator = false
  ss : (defScope st).names.lookup (Str.ofString "super") = some .globalImplicit
  sc : (defScope st).names.lookup (Str.ofString "__class__") = some .free
  sl : ∀ y ∈ ((Str.ofString "self") :: l.map (fun p => p.f)), (defScope st).names.lookup y = some .local
  scell : ∀ x ∈ (defScope st).names, x.2 ≠ .cell
  nodeb : ∀ p ∈ l, (p.f == (Str.ofString "__debug__")) = false
theorem xB_ok {P : Program} {K : Frag} {h : Heap} {mg : Str → Option Value} {x : Str} {st : Stmt} {l : List Fl} (X : K.In h) (G : h.Ns mainGlobals mg) (c : xB P.main.file K x (l.map (fun p => p.f)) = true) (o : iniObs K x = iniVal st) (T : IniOk st l)
    (sup : mg "super" = none) (opq : nsIn K cStatics "thirdparty.any" = some none) (ptop : (P.main.scope.names.lookup (Str.ofString "super")).isSome = false) :
    ErrX P K mg (ga K "WebError") x (ga K x) (ma K (ga K x) "__init__") (defArgs st) (defScope st) l := by
  unfold xB eqB at c
  simp only [Bool.and_eq_true, decide_eq_true_eq] at c
  obtain ⟨c1, c2, c3, c4, c5, c6, c7, c8, c9, c10, c11⟩ := c
  obtain ⟨d1, d2, d3, d4, d5, d6, d7⟩ := clsB_ok c3
  refine ⟨⟨cls_of c2 d3.hd, eqO_ok c4, c5, opq, c6, c7⟩, ⟨eqO_ok c8, c9, fun p hp => ?_, T.nd, T.ne, T.few, T.hd, T.sk, T.sco, T.sge, T.ss, T.sc, T.sl, T.scell, T.nodeb, sup, ptop, ?_⟩, mg_of X G (eqO_ok c1), d1, d3, d4, d2, d5, d6, d7⟩
  · exact eqO_ok (List.all_eq_true.mp c10 _ (List.mem_map_of_mem hp))
  · obtain ⟨r0, r1, r2, r3, r4, hb, hln⟩ := T.body
    unfold iniObs at o
    unfold cellB at c11
    cases e : K.lookup (ma K (ga K x) "__init__") with
    | none => rw [e] at o; cases o
    | some ob =>
      rw [e] at o c11
      obtain ⟨oc, od, dt, sl⟩ := ob
      cases dt with
      | func fd =>
        obtain ⟨n1, n2, n3, n4, n5, n6, n7, n8, n9, n10, n11, n12, n13, n14, n15⟩ := fd
        unfold iniVal at o
        simp only [Option.some.injEq, Prod.mk.injEq] at o
        obtain ⟨rfl, rfl, rfl, rfl, rfl, o6, rfl, rfl, rfl⟩ := o
        dsimp only at c11
        split at c11
        · rename_i nm cc cda
          split at c11
          · rename_i _ _ D _ _ _ _ vs _ ecc ecd
            simp only [Bool.and_eq_true, decide_eq_true_eq] at c11
            obtain ⟨rfl, cf, cq⟩ := c11
            obtain ⟨f, tk, ef, eq⟩ := fileB_ok cf
            have o7 : nm = Str.ofString "__class__" := by simpa using o6
            subst o7
            refine ⟨oc, od, n2, r0, r1, r2, r3, r4, n10, n11, n12, cda, n14, cc, sl, ?_, cq, hln, ⟨_, _, _, ecc⟩, _, _, vs, _, f, tk, ecd, ef, eq⟩
            first
              | (rw [← hb]; done)
              | (rw [← hb]; exact e)
          · cases c11
        · cases c11
      | _ => cases o
/-! ### the part of the heap that is looked at, the Hook -/
def refs2 (o : Obj) : List Addr := He.refsD o ++ (match o.data with
  | .func fd => fd.closure.map (fun p => p.2)
  | _ => [])
def grow2 (g : Addr → Option Obj) (as : List Addr) : List Addr := (as ++ as.flatMap fun a => match g a with
  | some o => refs2 o
  | none => []).eraseDups
def as2 (g : Addr → Option Obj) : Nat → List Addr
  | 0 => [mainGlobals, cStatics]
  | n + 1 => grow2 g (as2 g n)
abbrev Al2 : Type := Bool × List He.FnV × List IniV
def obs2 (fb : Frag → Bool) (fn : List He.FnD) (xs : List Str) (K : Frag) : Al2 := (fb K && fn.all fun d => (He.Fa.code d.at_ d.qual).ok K, fn.map fun d => He.fnObs K d.at_, xs.map fun x => iniObs K x)
def val2 (fn : List He.FnD) (ys : List IniV) : Al2 := (true, fn.map He.FnD.val, ys)
def Says2 (fb : Frag → Bool) (fn : List He.FnD) (xs : List Str) (ys : List IniV) (K : Frag) : Prop := obs2 fb fn xs K = val2 fn ys
def obs2G (n : Nat) (fb : Frag → Bool) (fn : List He.FnD) (xs : List Str) (g : Addr → Option Obj) : Al2 := obs2 fb fn xs (He.frG g (as2 g n))
def hook2 (n : Nat) (fb : Frag → Bool) (fn : List He.FnD) (xs : List Str) (ys : List IniV) : PySem.W.Hook where
  α := Al2
  obs := fun s => obs2G n fb fn xs s.heap.get?
  val := fun _ => val2 fn ys
  says := fun _ h => ∃ K : PySem.W.Frag, K.In h ∧ Says2 fb fn xs ys K
  of := fun _ _ e => ⟨_, He.frG_in, e⟩
  keeps := fun _ _ _ ⟨K, hK, c⟩ k => ⟨K, PySem.W.Frag.In.keeps hK k, c⟩
theorem obs2G_eq {n : Nat} {fb : Frag → Bool} {fn : List He.FnD} {xs : List Str} {ys : List IniV} {g : Addr → Option Obj} {s : Shared} (h : ∀ a, g a = s.heap.get? a) : obs2G n fb fn xs g = (hook2 n fb fn xs ys).obs s := by
  have e : g = s.heap.get? := funext h
  show obs2G n fb fn xs g = obs2G n fb fn xs s.heap.get?
  rw [e]
theorem Says2.all {fb : Frag → Bool} {fn : List He.FnD} {xs : List Str} {ys : List IniV} {K : Frag} (c : Says2 fb fn xs ys K) : fb K = true := by
  have e := congrArg Prod.fst c
  exact (Bool.and_eq_true_iff.mp e).1
theorem map_at {α β : Type} {f : α → β} {xs : List α} {ys : List β} (e : xs.map f = ys) (i : Nat) {x : α} {y : β} (hx : xs[i]? = some x) (hy : ys[i]? = some y) : f x = y := by
  rw [← e, List.getElem?_map, hx] at hy
  exact Option.some.inj hy
theorem Says2.ini {fb : Frag → Bool} {fn : List He.FnD} {xs : List Str} {ys : List IniV} {K : Frag} (c : Says2 fb fn xs ys K) (i : Nat) {x : Str} {y : IniV} (hx : xs[i]? = some x) (hy : ys[i]? = some y) : iniObs K x = y :=
  map_at (f := fun x => iniObs K x) (congrArg (fun p => p.2.2) c) i hx hy
theorem Says2.def_ {fb : Frag → Bool} {fn : List He.FnD} {xs : List Str} {ys : List IniV} {K : Frag} (c : Says2 fb fn xs ys K) (i : Nat) {d : He.FnD} (h : fn[i]? = some d) :
    ∃ oc od osl kV doc pm an cdv ct, K.lookup (He.fAd K d.at_) = some ⟨oc, od, .func (PySem.W.fnOf d.name d.qual d.params d.body d.scope .none kV doc pm an cdv ct), osl⟩ ∧ PySem.W.codeIn K cdv d.qual = true := by
  have e1 := congrArg Prod.fst c
  have e2 := (Bool.and_eq_true_iff.mp e1).2
  refine He.fn_ok ?_ (List.all_eq_true.mp e2 d (List.mem_of_getElem? h))
  exact map_at (f := fun d => He.fnObs K d.at_) (congrArg (fun p => p.2.1) c) i h (y := d.val) (by show (fn.map He.FnD.val)[i]? = some d.val; rw [List.getElem?_map, h]; rfl)
end GW
end PySem
set_option Elab.async false
set_option linter.all false
set_option maxRecDepth 100000
set_option maxHeartbeats 4000000
/-! the Hook with defs that have defaults, and with the empty tables of defs that make lambdas -/
namespace PySem
namespace GW
open PySem PySem.W PySem.Spec PySem.Calls PyProof.Rows PySem.HandSPX L2 He
abbrev Al3 : Type := Bool × List He.FnV × List IniV × List He.FnW
def obs3 (fb : Frag → Bool) (fn : List He.FnD) (xs : List Str) (fw : List He.DefD) (K : Frag) : Al3 := ((fb K && fn.all fun d => (He.Fa.code d.at_ d.qual).ok K) && fw.all fun d => d.ok K, fn.map fun d => He.fnObs K d.at_, xs.map fun x => iniObs K x, fw.map fun d => He.fnW K d.at_)
def val3 (fn : List He.FnD) (ys : List IniV) (fw : List He.DefD) : Al3 := (true, fn.map He.FnD.val, ys, fw.map He.DefD.val)
structure Says3 (fb : Frag → Bool) (fn : List He.FnD) (xs : List Str) (ys : List IniV) (fw : List He.DefD) (tf : List He.Defn) (h : Heap) (K : Frag) : Prop where
  e : obs3 fb fn xs fw K = val3 fn ys fw
  hd : ∀ p ∈ tf, PySem.W.codeHdIn K (He.cT K p).1 (He.cT K p).2 = true
  out : ∀ p ∈ tf, K.lookup (He.cT K p).2 = none
  empty : ∀ p ∈ tf, h.get? (He.cT K p).2 = some { cls := .none, data := .fields #[] }
def obs3K (fb : Frag → Bool) (fn : List He.FnD) (xs : List Str) (fw : List He.DefD) (tf : List He.Defn) (g : Addr → Option Obj) (K : Frag) : Al3 × Bool := (obs3 fb fn xs fw K, He.tabsB g tf K)
def obs3G (n : Nat) (fb : Frag → Bool) (fn : List He.FnD) (xs : List Str) (fw : List He.DefD) (tf : List He.Defn) (g : Addr → Option Obj) : Al3 × Bool := obs3K fb fn xs fw tf g (He.frT g (as2 g n))
theorem says3_of {n : Nat} {fb : Frag → Bool} {fn : List He.FnD} {xs : List Str} {ys : List IniV} {fw : List He.DefD} {tf : List He.Defn} {h : Heap} (e : obs3G n fb fn xs fw tf h.get? = (val3 fn ys fw, true)) : Says3 fb fn xs ys fw tf h (He.frT h.get? (as2 h.get? n)) := by
  have e1 : obs3 fb fn xs fw (He.frT h.get? (as2 h.get? n)) = val3 fn ys fw := congrArg (fun z : Al3 × Bool => z.1) e
  have e2 : He.tabsB h.get? tf (He.frT h.get? (as2 h.get? n)) = true := congrArg (fun z : Al3 × Bool => z.2) e
  have key : ∀ p ∈ tf, PySem.W.codeHdIn (He.frT h.get? (as2 h.get? n)) (He.cT (He.frT h.get? (as2 h.get? n)) p).1 (He.cT (He.frT h.get? (as2 h.get? n)) p).2 = true ∧ ∃ o, h.get? (He.cT (He.frT h.get? (as2 h.get? n)) p).2 = some o ∧ He.emptyTab o = true := fun p hp => by
    obtain ⟨h3, h4⟩ := He.ba (List.all_eq_true.mp e2 p hp)
    refine ⟨h3, ?_⟩
    cases q : h.get? (He.cT (He.frT h.get? (as2 h.get? n)) p).2 with
    | none =>
      rw [q] at h4
      cases h4
    | some o =>
      rw [q] at h4
      exact ⟨o, rfl, h4⟩
  exact ⟨e1, fun p hp => (key p hp).1, fun p hp => by
    obtain ⟨_, o, q, z⟩ := key p hp
    exact He.frT_none q z, fun p hp => by
    obtain ⟨_, o, q, z⟩ := key p hp
    rw [q, He.emptyTab_eq z]⟩
def hook3 (n : Nat) (fb : Frag → Bool) (fn : List He.FnD) (xs : List Str) (ys : List IniV) (fw : List He.DefD) (tf : List He.Defn) : PySem.W.Hook where
  α := Al3 × Bool
  obs := fun s => obs3G n fb fn xs fw tf s.heap.get?
  val := fun _ => (val3 fn ys fw, true)
  says := fun _ h => ∃ K : PySem.W.Frag, K.In h ∧ Says3 fb fn xs ys fw tf h K
  of := fun _ _ e => ⟨_, He.frT_in, says3_of e⟩
  keeps := fun _ _ _ ⟨K, hK, c⟩ k => ⟨K, PySem.W.Frag.In.keeps hK k, ⟨c.e, c.hd, c.out, fun p hp => k _ _ (c.empty p hp)⟩⟩
theorem obs3G_eq {n : Nat} {fb : Frag → Bool} {fn : List He.FnD} {xs : List Str} {ys : List IniV} {fw : List He.DefD} {tf : List He.Defn} {g : Addr → Option Obj} {s : Shared} (h : ∀ a, g a = s.heap.get? a) : obs3G n fb fn xs fw tf g = (hook3 n fb fn xs ys fw tf).obs s := by
  have e : g = s.heap.get? := funext h
  show obs3G n fb fn xs fw tf g = obs3G n fb fn xs fw tf s.heap.get?
  rw [e]
section
variable {fb : Frag → Bool} {fn : List He.FnD} {xs : List Str} {ys : List IniV} {fw : List He.DefD} {tf : List He.Defn} {h : Heap} {K : Frag}
theorem Says3.all (c : Says3 fb fn xs ys fw tf h K) : fb K = true := by
  have e := congrArg Prod.fst c.e
  exact (Bool.and_eq_true_iff.mp (Bool.and_eq_true_iff.mp e).1).1
theorem Says3.ini (c : Says3 fb fn xs ys fw tf h K) (i : Nat) {x : Str} {y : IniV} (hx : xs[i]? = some x) (hy : ys[i]? = some y) : iniObs K x = y :=
  map_at (f := fun x => iniObs K x) (congrArg (fun p => p.2.2.1) c.e) i hx hy
theorem Says3.def_ (c : Says3 fb fn xs ys fw tf h K) (i : Nat) {d : He.FnD} (h : fn[i]? = some d) :
    ∃ oc od osl kV doc pm an cdv ct, K.lookup (He.fAd K d.at_) = some ⟨oc, od, .func (PySem.W.fnOf d.name d.qual d.params d.body d.scope .none kV doc pm an cdv ct), osl⟩ ∧ PySem.W.codeIn K cdv d.qual = true := by
  have e1 := congrArg Prod.fst c.e
  have e2 := (Bool.and_eq_true_iff.mp (Bool.and_eq_true_iff.mp e1).1).2
  refine He.fn_ok ?_ (List.all_eq_true.mp e2 d (List.mem_of_getElem? h))
  exact map_at (f := fun d => He.fnObs K d.at_) (congrArg (fun p => p.2.1) c.e) i h (y := d.val) (by show (fn.map He.FnD.val)[i]? = some d.val; rw [List.getElem?_map, h]; rfl)
theorem Says3.defD (c : Says3 fb fn xs ys fw tf h K) (i : Nat) {d : He.DefD} (h : fw[i]? = some d) : ∃ fd, FunD K d.name d.qual d.params d.body d.scope (d.dvs K) (d.kws K) (He.fAd K d.at_) fd := by
  have e1 := congrArg Prod.fst c.e
  have e2 := (Bool.and_eq_true_iff.mp e1).2
  refine He.DefD.funD ?_ (List.all_eq_true.mp e2 d (List.mem_of_getElem? h))
  exact map_at (f := fun d => He.fnW K d.at_) (congrArg (fun p => p.2.2.2) c.e) i h (y := d.val) (by show (fw.map He.DefD.val)[i]? = some d.val; rw [List.getElem?_map, h]; rfl)
end
/-- the function object that stands at f -/
def fdAt (K : PySem.W.Frag) (f : Addr) : FuncData := match K.lookup f with
  | some ⟨_, _, .func fd, _⟩ => fd
  | _ => PySem.W.fnOf "" "" ⟨[], [], none, [], [], none, []⟩ [] ⟨.function, [], false, false, []⟩ .none .none .none .none none .none .none
theorem all_at {α : Type} {p : α → Bool} {xs : List α} (h : xs.all p = true) (i : Nat) {x : α} (hx : xs[i]? = some x) : p x = true := List.all_eq_true.mp h x (List.mem_of_getElem? hx)
end GW
end PySem
set_option Elab.async false
set_option linter.all false
set_option maxRecDepth 100000
set_option maxHeartbeats 4000000
/-! general: operators of own classes, several except clauses, lambdas handed to a def -/
namespace L2
open PySem PySem.Spec PySem.GW
/-- x op y, both of the class at C whose def for op is at g -/
def rOwnI (C : Addr) (sp : Sp) : R2 := fun x y H Q => ∃ a dx fs b dy gs, x = .ref a ∧ y = .ref b ∧ H a = some (.ins C dx fs) ∧ H b = some (.ins C dy gs) ∧ sp [x, y] H Q E0
theorem op_ownI {X : Cx} {C g : Addr} {fd : FuncData} {ps : List Str} {n : Nat} {sp : Sp} {op : CmpOp} (hop : ∀ a b, compareOp op a b = richCompare op a b) (hs : PySem.W.findIn X.K (.ref C) (cmpInfo op).2.1 = some (some (.ref g))) (hf : PySem.W.isFn X.K (.ref g) = true)
    (F : FnOk X.prog X.w X.K X.mg X.base CX0 n g fd ps sp) (hb : Binds X.K fd ps []) (hr : Room n X.A) : OpR X (compareOp op) (rOwnI C sp) := by
  intro pins s σ H x y v u Q I rx ry h
  obtain ⟨a, dx, fs, b, dy, gs, rfl, rfl, ha, hb2, q⟩ := h
  cases (show v = Value.ref a from rx)
  cases (show u = Value.ref b from ry)
  obtain ⟨mA, O, _⟩ := ins_get I.hok ha
  obtain ⟨od, J, _⟩ := O.look
  obtain ⟨mA', O', _⟩ := ins_get I.hok hb2
  obtain ⟨od', J', _⟩ := O'.look
  obtain ⟨m, hF⟩ := I.fr
  rw [hop]
  refine PySem.W.cmp_K (op := op) (tb := .ref C) hr.units0 hF I.ok.mod.kin J J'.type (by simp [PySem.W.notFirst]) hs hf ?_
  refine wpAny_mono (run_fn (us := [.ref a, .ref b]) (vs := [.ref a, .ref b]) (dvs := []) (ds := []) F hr hb .nil pass0 I (.cons rfl (.cons rfl .nil)) q) (fun w s' z => ?_) fun _ _ x => x
  obtain ⟨z', H', I', rz, qz⟩ := z
  exact SlX.cmpback rz ⟨z', H', I', rz, qz⟩
/-- x + y, both of the class at C -/
theorem bop_ownI {X : Cx} {C g : Addr} {fd : FuncData} {ps : List Str} {n : Nat} {sp : Sp} {op : Operator} (hc : PySem.W.selfFirst X.K C = true) (hs : PySem.W.findIn X.K (.ref C) (PySem.dunder op.info.2) = some (some (.ref g))) (hf : PySem.W.isFn X.K (.ref g) = true)
    (F : FnOk X.prog X.w X.K X.mg X.base CX0 n g fd ps sp) (hb : Binds X.K fd ps []) (hr : Room n X.A) : OpR X (binaryOp op) (rOwnI C sp) := by
  intro pins s σ H x y v u Q I rx ry h
  obtain ⟨a, dx, fs, b, dy, gs, rfl, rfl, ha, hb2, q⟩ := h
  cases (show v = Value.ref a from rx)
  cases (show u = Value.ref b from ry)
  obtain ⟨mA, O, _⟩ := ins_get I.hok ha
  obtain ⟨od, J, _⟩ := O.look
  obtain ⟨mA', O', _⟩ := ins_get I.hok hb2
  obtain ⟨od', J', _⟩ := O'.look
  obtain ⟨m, hF⟩ := I.fr
  refine PySem.W.binop_K (op := op) hF I.ok.mod.kin J J'.type hc hs hf ?_
  refine wpAny_mono (run_fn (us := [.ref a, .ref b]) (vs := [.ref a, .ref b]) (dvs := []) (ds := []) F hr hb .nil pass0 I (.cons rfl (.cons rfl .nil)) q) (fun w s' z => ?_) fun _ _ x => x
  obtain ⟨z', H', I', rz, qz⟩ := z
  exact SlX.cmpback rz ⟨z', H', I', rz, qz⟩
end L2

namespace PySem.W
open PySem PyProof.Rows
theorem binop_KT {K : Frag} {h₀ : Heap} {L : Addr} {s : Shared} {m : Str → Option Value} {x C f : Addr} {ox : Obj} {od : Option Obj} {A : Around} {E : Value → Shared → Prop} {prog : Program} {w : World} {b : Value} {Q : Value → Shared → Prop} (F : Fr h₀ L s.heap m) (X₀ : K.In h₀) (I : InstAt s.heap x ox C od) (hb : Looks (model prog w) s.heap (typeOf b) (.type "tuple")) (hc : selfFirst K C = true)
    (hs : findIn K (.ref C) (PySem.dunder Operator.Add.info.2) = some (some (.ref f))) (hf : isFn K (.ref f) = true)
    (h : wpAny (model prog w) A (call (.ref f) [.ref x, b]) (CmpBack Q) E s) : wpAny (model prog w) A (binaryOp .Add (.ref x) b) Q E s := by
  have X := X₀.keeps F.keep
  obtain ⟨cd, hcd, hm⟩ := any_some hc
  obtain ⟨rest, hm⟩ : ∃ rest, cd.mro = .ref C :: rest := by
    cases q : cd.mro with
    | nil => rw [q] at hm; cases hm
    | cons a r => rw [q] at hm; exact ⟨r, by rw [List.head?_cons] at hm; cases (beq_iff_eq.mp hm); rfl⟩
  unfold binaryOp
  refine wpAny_holding (wpAny_bind ?_)
  unfold binaryOp1
  refine wpAny_bind (I.type.here (wpAny_bind (hb.here (wpAny_bind ((fills_K X hcd hm hs).here ?_)))))
  refine wpAny_bind (m := if (Value.ref C == Value.type "tuple") = true then pure false else fillsNumberSlot (.type "tuple") "add") ?_
  rw [if_neg (show ¬ ((Value.ref C == Value.type "tuple") = true) from fun e => by simp at e), noFill_tuple_add]
  refine wpAny_pure ?_
  simp only [Bool.and_false, Bool.false_eq_true, if_false, Bool.false_and]
  refine wpAny_bind (wpAny_pure ?_)
  simp only [Bool.false_eq_true, if_false]
  refine wpAny_bind (m := tryMethod (.ref x) _ b) ?_
  unfold tryMethod
  refine wpAny_bind (special_fn X I hs (beq_iff_eq.mp hf) (wpAny_mono h (fun v s' hv => ?_) fun _ _ e => e))
  cases v <;> first | exact hv.elim | exact wpAny_pure (wpAny_pure (wpAny_pure hv))
end PySem.W
namespace PySem.W
open PySem PyProof.Rows
theorem sl_ne : Slot "object" "__ne__" "object.__ne__" := PySem.F.cmp_object.ne
/-- x != y by the class's own __eq__ -/
theorem ne_K {K : Frag} {h₀ : Heap} {L : Addr} {s : Shared} {m : Str → Option Value} {x y C f : Addr} {ox : Obj} {od : Option Obj} {A : Around} {E : Value → Shared → Prop} {prog : Program} {w : World} {Q : Value → Shared → Prop} (hu : A.units + 1 < cLine) (F : Fr h₀ L s.heap m) (X₀ : K.In h₀) (I : InstAt s.heap x ox C od) (hb : Looks (model prog w) s.heap (typeOf (.ref y)) (.ref C))
    (hn : findIn K (.ref C) "__ne__" = some (some (.builtin "object.__ne__"))) (hs : findIn K (.ref C) "__eq__" = some (some (.ref f))) (hf : isFn K (.ref f) = true) (ho : subIn K (.ref C) (.type "object") = some true)
    (h : wpAny (model prog w) A.in1 (call (.ref f) [.ref x, .ref y]) (fun v s' => ∃ b, v = .bool b ∧ Q (.bool (!b)) s') E s) : wpAny (model prog w) A (compareOp .NotEq (.ref x) (.ref y)) Q E s := by
  have X := X₀.keeps F.keep
  have hi : Looks (model prog w) s.heap (isInstance (.ref x) (.type "object")) true := I.type.andThen (looks_subIn X ho)
  have one : wpAny (model prog w) A (tryCompare (.ref x) "__ne__" (.ref y)) (fun r s' => ∃ v, r = some v ∧ Q v s') E s := by
    unfold tryCompare
    simp only [callSpecialIfBound?, bindSpecialIfBound?]
    refine wpAny_bind (wpAny_holding (wpAny_bind (wpAny_bind (wpAny_bind (I.type.here ((looks_findIn X hn).here ?_))))))
    simp only [sl_ne.bind]
    refine wpAny_bind (wpAny_askSetting (wpAny_ite ?_))
    have go : wpAny (model prog w) A (call (.builtin "object.__ne__") ([.ref x] ++ [.ref y])) (fun v s' => ∃ b, v = .bool b ∧ Q v s') E s := by
      refine wpAny_call (codeAny_call_builtin sl_ne.plain PySem.F.cmpEntry_ne (check_slot PySem.F.cmpKind_ne PySem.F.cmpSplit_ne hi (PySem.F.cmpArgs_ne _ _) ?_))
      unfold Builtin.«object.__ne__»
      repeat (first
        | with_reducible refine wpAny_cRoomFor (A := A.in1) hu ?_
        | (refine wpAny_bind (m := callSpecialIfBound? (.ref x) (Str.ofString "__eq__") [.ref y])
            (ifBound_K X I hs hf (wpAny_mono h (fun r s' hr => by
              obtain ⟨b, rfl, hq⟩ := hr
              repeat (first | exact ⟨_, rfl, hq⟩ | exact wpAny_pure ⟨_, rfl, hq⟩ | exact wpAny_truthy_bool ⟨_, rfl, hq⟩ | (refine wpAny_bind (m := truthy (.bool _)) (wpAny_truthy_bool ?_)) | wp_step)) fun _ _ e => e)))
        | wp_step)
    have fin : wpAny (model prog w) A (call (.builtin "object.__ne__") ([.ref x] ++ [.ref y]) >>= fun v => pure (some v)) (fun r s' => ∃ b, r = some (.bool b) ∧ Q (.bool b) s') E s :=
      wpAny_bind (wpAny_mono go (fun v s' ⟨b, e, hq⟩ => wpAny_pure ⟨b, by rw [e], by rw [← e]; exact hq⟩) fun _ _ e => e)
    have fin2 : wpAny (model prog w) A (call (.builtin "object.__ne__") ([.ref x] ++ [.ref y]) >>= fun v => pure (some v)) (fun r s' => wpAny (model prog w) A (match r with | some .notImplemented | none => pure none | some v => pure (some v)) (fun r s' => ∃ v, r = some v ∧ Q v s') E s') E s :=
      wpAny_mono fin (fun r s' ⟨b, e, hq⟩ => by subst e; exact wpAny_pure ⟨_, rfl, hq⟩) fun _ _ e => e
    split
    · exact wpAny_bind (wpAny_pure (wpAny_pure (by exact fin2)))
    · exact wpAny_tryCatch (wpAny_bind (wpAny_pure (wpAny_pure (by exact fin2))))
  show wpAny (model prog w) A (richCompare .NotEq (.ref x) (.ref y)) Q E s
  unfold richCompare
  simp only [oneThing_ref]
  refine wpAny_holding (wpAny_bind (wpAny_cRoomFor (Nat.lt_of_succ_lt hu) ?_))
  rw [cmpInfo_NotEq]
  dsimp only
  refine wpAny_bind (I.type.here (wpAny_bind (hb.here ?_)))
  rw [show (Value.ref C != Value.ref C) = false from by simp]
  simp only [Bool.false_eq_true, if_false]
  refine wpAny_bind (wpAny_pure ?_)
  simp only [Bool.false_eq_true, if_false]
  refine wpAny_bind (wpAny_mono one (fun r s' z => ?_) fun _ _ e => e)
  obtain ⟨v, rfl, hq⟩ := z
  exact wpAny_pure hq
end PySem.W

namespace L2
open PySem PySem.Spec PySem.GW
def rNeI (C : Addr) (sp : Sp) : R2 := fun x y H Q => ∃ a dx fs b dy gs, x = .ref a ∧ y = .ref b ∧ H a = some (.ins C dx fs) ∧ H b = some (.ins C dy gs) ∧ sp [x, y] H (fun z H' => ∃ k, z = .bl k ∧ Q (.bl (!k)) H') E0
def rOwnT (K : PySem.W.Frag) (C : Addr) (sp : Sp) : R2 := fun x y H Q => ∃ a dx fs b ys, x = .ref a ∧ y = .ref b ∧ H a = some (.ins C dx fs) ∧ SqT K H b ys ∧ sp [x, y] H Q E0
/-- x != y, both of the class at C with its own __eq__ -/
theorem op_neI {X : Cx} {C g : Addr} {fd : FuncData} {ps : List Str} {n : Nat} {sp : Sp} (hn : PySem.W.findIn X.K (.ref C) "__ne__" = some (some (.builtin "object.__ne__"))) (hs : PySem.W.findIn X.K (.ref C) "__eq__" = some (some (.ref g))) (hf : PySem.W.isFn X.K (.ref g) = true) (ho : PySem.W.subIn X.K (.ref C) (.type "object") = some true)
    (F : FnOk X.prog X.w X.K X.mg X.base CX0 n g fd ps sp) (hb : Binds X.K fd ps []) (hr : Room (n + 1) X.A) : OpR X (compareOp .NotEq) (rNeI C sp) := by
  intro pins s σ H x y v u Q I rx ry h
  obtain ⟨a, dx, fs, b, dy, gs, rfl, rfl, ha, hb2, q⟩ := h
  cases (show v = Value.ref a from rx)
  cases (show u = Value.ref b from ry)
  obtain ⟨mA, O, _⟩ := ins_get I.hok ha
  obtain ⟨od, J, _⟩ := O.look
  obtain ⟨mA', O', _⟩ := ins_get I.hok hb2
  obtain ⟨od', J', _⟩ := O'.look
  obtain ⟨m, hF⟩ := I.fr
  refine PySem.W.ne_K (by have := hr.units; omega) hF I.ok.mod.kin J J'.type hn hs hf ho ?_
  have hl : ([Value.ref a, .ref b] ++ []).length = ps.length := F.len _ _ _ _ q
  refine wpAny_call (codeAny_mono (F.run X.A.in1 X.stack s H ⟨[.ref a, .ref b], []⟩ [.ref a, .ref b] [.ref a, .ref b] _ E0 hr.in1 I.env0.in1 (hb s [.ref a, .ref b] I.kIn hl) (.cons rfl (.cons rfl .nil)) q) fun r s' hq => ?_)
  cases r with
  | error e => exact (pass0 pins σ H s e s' I hq)
  | ok fl =>
    cases fl with
    | ret u =>
      obtain ⟨v, H', I2, rv, k, e, q⟩ := I.after hq
      subst e
      cases (show u = Value.bool k from rv)
      exact ⟨k, rfl, .bl (!k), H', I2, rfl, q⟩
    | next => exact False.elim hq
    | brk => exact False.elim hq
    | cont => exact False.elim hq
/-- x + t, x of the class at C, t a tuple -/
theorem bop_ownT {X : Cx} {C g : Addr} {fd : FuncData} {ps : List Str} {n : Nat} {sp : Sp} (hc : PySem.W.selfFirst X.K C = true) (hs : PySem.W.findIn X.K (.ref C) (PySem.dunder Operator.Add.info.2) = some (some (.ref g))) (hf : PySem.W.isFn X.K (.ref g) = true)
    (F : FnOk X.prog X.w X.K X.mg X.base CX0 n g fd ps sp) (hb : Binds X.K fd ps []) (hr : Room n X.A) : OpR X (binaryOp .Add) (rOwnT X.K C sp) := by
  intro pins s σ H x y v u Q I rx ry h
  obtain ⟨a, dx, fs, b, ys, rfl, rfl, ha, hb2, q⟩ := h
  cases (show v = Value.ref a from rx)
  cases (show u = Value.ref b from ry)
  obtain ⟨mA, O, _⟩ := ins_get I.hok ha
  obtain ⟨od, J, _⟩ := O.look
  obtain ⟨its, o, n', _, hg, hcl, _⟩ := L2.sqT_at I.hok I.kIn hb2
  have LT : PySem.W.Looks (model X.prog X.w) s.heap (typeOf (.ref b)) (.type "tuple") := by rw [← hcl]; exact (PySem.W.Looks.ld (part := none) hg).andThen .now
  obtain ⟨m, hF⟩ := I.fr
  refine PySem.W.binop_KT hF I.ok.mod.kin J LT hc hs hf ?_
  refine wpAny_mono (run_fn (us := [.ref a, .ref b]) (vs := [.ref a, .ref b]) (dvs := []) (ds := []) F hr hb .nil pass0 I (.cons rfl (.cons rfl .nil)) q) (fun w s' z => ?_) fun _ _ x => x
  obtain ⟨z', H', I', rz, qz⟩ := z
  exact SlX.cmpback rz ⟨z', H', I', rz, qz⟩
/-- o.m(k = v, ..), nothing by position -/
def tMethK (C : Addr) (m : Str) (n : Nat) (sp : Sp) (gV : List V → List V → List V) (E : XK) (ta : TE) (tk : TA) : TE := fun σ H Q => ta σ H fun x H1 => ∃ a dx fs, x = .ref a ∧ H1 a = some (.ins C dx fs) ∧ fs.lookup m = none ∧ tk σ H1 fun zs H2 => zs.length = n ∧ sp (gV [.ref a] zs) H2 Q E
theorem pe_methK0 {X : Cx} {C f : Addr} {fd : FuncData} {ps ks : List Str} {n : Nat} {sp : Sp} {m : Str} {o : Expr} {apos pos : Pos} {ta : TE} {tk : TA} {kws : List Keyword} {g : List Value → List Value → List Value} {gV : List V → List V → List V} {CX : CXT} {E : XK} {pl : Sem Bool} (he : PE X o ta) (c : Cls X.K C) (hm : Meth X.K C m f) (F : FnOk X.prog X.w X.K X.mg X.base CX n f fd ps sp) (hr : Room n X.A) (hb : KBn X.K fd ps 1 ks g gV) (hx : Passes CX X E) (hkw : PK X kws tk)
    (hall : (backToKw pos (keywordEach kws X.env)).all (·.1.isSome) = true := by rfl) (hks : (backToKw pos (keywordEach kws X.env)).filterMap (·.1) = ks := by rfl)
    (hpl : ((backTo pos (starEach [] X.env)).any (·.1) || (backToKw pos (keywordEach kws X.env)).any (·.1.isNone)) = false := by rfl)
    (ht : eval (.Call (.Attribute o m apos) [] kws pos) X.env = (do
      let ov ← eval o X.env
      standAt apos.atName
      let (f, first) ← holding [ov] (getMethod ov m pl)
      callWith pos f first (backTo pos (starEach [] X.env)) (backToKw pos (keywordEach kws X.env))) := by rfl) :
    PE X (.Call (.Attribute o m apos) [] kws pos) (tMethK C m ks.length sp gV E ta tk) := by
  refine ⟨fun pins s σ H Q I h => ?_⟩
  refine PySem.W.methodCall_KW (pl := pl) (thn (he.run pins s σ H _ I h) fun u s1 ⟨x, H1, I1, rx, a, dx, fs, ex, ea, l, q⟩ => ?_) ht
  subst ex
  obtain rfl : u = Value.ref a := rx
  refine getmeth_ok I1 ea c hm l ?_
  refine PySem.W.callWith_KW0 (first := [.ref a]) (h₀ := X.base) I1.ok.mod.kin hm.kp hall ?_ hpl
  refine thn (hkw.run pos pins s1 σ H1 _ I1 q) fun ws s2 ⟨zs, H2, I2, rz, l2, q2⟩ => ⟨I2.kIn, ?_⟩
  rw [hks]
  exact run_fnN (us := [.ref a]) (vs := [.ref a]) F hr hb hx I2 (.cons rfl .nil) rz rfl l2 q2
end L2

namespace L2
open PySem PySem.Spec PyProof.Rows
/-- behind the suite of a clause with the name in slot i -/
def endA (i : Nat) (D : Ends) : Ends := { nx := fun σ' H' => D.nx (σ'.set i none) H', rt := D.rt, bk := fun σ' H' => D.bk (σ'.set i none) H', ct := fun σ' H' => D.ct (σ'.set i none) H' }
/-- what the clauses wish of an exception of the body, one after the other; a clause with a name tells its slot -/
def wManyA (K : PySem.W.Frag) (Wout : WX) (D : Ends) : List (Value × Option Nat × (Addr → Value → Option Addr → TS)) → WX
  | [] => Wout
  | (c, none, ts) :: r => fun cls d σ H => ∃ b, PySem.W.exmOne K cls c = some b ∧ (b = true → ∀ a, H a = none → ts a cls d D σ H) ∧ (b = false → wManyA K Wout D r cls d σ H)
  | (c, some i, ts) :: r => fun cls d σ H => ∃ b, PySem.W.exmOne K cls c = some b ∧ (b = true → ∀ a, H a = none → ts a cls d (endA i D) (σ.set i (some (.ref a))) H) ∧ (b = false → wManyA K Wout D r cls d σ H)
inductive HdsA (X : Cx) : List ExceptHandler → List (Value × Option Nat × (Addr → Value → Option Addr → TS)) → Prop
  | nil : HdsA X [] []
  | cons {x : Str} {c : Value} {ts : Addr → Value → Option Addr → TS} {b₀ : Stmt} {suite : List Stmt} {np pos' : Pos} {hds : List ExceptHandler} {l : List (Value × Option Nat × (Addr → Value → Option Addr → TS))} (hc : Names X x c)
      (hsu : ∀ (a : Addr) (oe : Obj) (cls : Value) (d : Option Addr) (pn : List (Addr × Obj)), Zc cls d oe → (∃ vs, oe.data = .fields vs) → PSs (X.suite a ((a, oe) :: pn)) (b₀ :: suite) (ts a cls d)) (r : HdsA X hds l) :
      HdsA X (.ExceptHandler (some (.Name x np)) none (b₀ :: suite) pos' :: hds) ((c, none, ts) :: l)
  | consAs {x n : Str} {i : Nat} {c : Value} {ts : Addr → Value → Option Addr → TS} {b₀ : Stmt} {suite : List Stmt} {np pos' : Pos} {hds : List ExceptHandler} {l : List (Value × Option Nat × (Addr → Value → Option Addr → TS))} (hi : X.N[i]? = some n) (hln : X.env.kindOf n = some .local) (hc : Names X x c)
      (hsu : ∀ (a : Addr) (oe : Obj) (cls : Value) (d : Option Addr) (pn : List (Addr × Obj)), Zc cls d oe → (∃ vs, oe.data = .fields vs) → PSs (X.suite a ((a, oe) :: pn)) (b₀ :: suite) (ts a cls d)) (r : HdsA X hds l) :
      HdsA X (.ExceptHandler (some (.Name x np)) (some n) (b₀ :: suite) pos' :: hds) ((c, some i, ts) :: l)
section
variable {X : Cx} {body : List Stmt} {h₀ : ExceptHandler} {hds : List ExceptHandler} {l : List (Value × Option Nat × (Addr → Value → Option Addr → TS))} {pos : Pos} {tb : WX → TS} {Wout : WX}
theorem ps_try_manyA (hs : X.stack = X.env :: X.outer) (hf : X.env.frame = some X.env.locals) (hN : X.N.Nodup) (tk : Takes X Wout)
    (hb : ∀ (W : WX) (pn : List (Addr × Obj)) (xe : Value → Shared → Prop), Takes (X.tr pn xe) W → PassesOwn (model X.prog X.w) X.A X.env xe → PSs (X.tr pn xe) body (tb W))
    (hh : HdsA X (h₀ :: hds) l) : PS X (.Try body (h₀ :: hds) [] [] pos) (fun D σ H => tb (wManyA X.K Wout D l) D σ H) := by
  refine ⟨fun pins s σ H D I h => ?_⟩
  have ok := I.ok
  have hfr : X.A.frames = some (X.env :: X.outer) := by rw [ok.frames, hs]
  refine wpAny_Try_except ?_
  refine wpAny_mono ((hb (wManyA X.K Wout D l) (X.pn ++ pins) (fun e s₁ => wpAny (model X.prog X.w) X.A (noteFrame e X.env) (fun _ s₂ => wpAny (model X.prog X.w) X.A (setFlight e none) (fun _ s₃ =>
    wpAny (model X.prog X.w) X.A (handleBy e X.env (h₀ :: hds)) (SP X pins D) X.xe s₃) X.xe s₂) X.xe s₁) (fun u s' xx => ?_) PassesOwn.looking).run [] s σ H D (I.toTry _) h) (fun f s1 hsp => ?_) (fun e s1 he => he)
  · -- the catch
    obtain ⟨a, B, sI, pins', σ', H', cls, d, rfl, J', nb, up, sky, na, os, ag, w⟩ := xx
    have J : Inv X pins σ' H' sI := J'.ofTry ok
    have sky' : Sky B (X.env :: X.outer) a (Zc cls d) X.env.locals s'.heap := by rw [← hs]; exact sky
    show wpAny (model X.prog X.w) X.A (noteFrame (.ref a) X.env) _ _ _
    refine Sky.land Zc.steady hfr hf sky' fun h3 fl3 up3 => ?_
    have J3 : Inv X pins σ' H' { s' with heap := h3 } := J.landed nb fl3.1 (up.trans up3) os ag
    obtain ⟨oe3, vs3, he3, hz3, hd3⟩ := fl3.there
    have notFr : ∀ {h : Heap} {o : Obj} {vs : Array Value}, h.FunFrames B (X.env :: X.outer) → h.get? a = some o → o.data = .fields vs → a ∉ frs (X.env :: X.outer) := fun {h o vs} ff e dd hm => by
      obtain ⟨_, o', e', hnf⟩ := ff.mem hm
      rw [e] at e'; cases e'
      exact hnf _ dd
    have nfr := notFr fl3.2.2.1 he3 hd3
    have nL : a ≠ X.env.locals := fun z => nfr (List.mem_filterMap.mpr ⟨X.env, List.mem_cons_self, by rw [hf, z]⟩)
    have nF : a ∉ X.fs := fun hm => by
      obtain ⟨e, he, q⟩ := List.mem_filterMap.mp hm
      exact nfr (List.mem_filterMap.mpr ⟨e, List.mem_cons_of_mem _ he, q⟩)
    have S3 := J3.suite he3 hd3 na nL nF
    have LT : PySem.W.Looks (model X.prog X.w) h3 (typeOf (.ref a)) cls := fun A Q E s k q => wpAny_typeOf_ref (k _ _ he3) (by rw [hz3.1]; exact q)
    have test : ∀ {x : Str} {np : Pos} {c : Value}, Names X x c → ∀ {Q : Value → Shared → Prop} {E : Value → Shared → Prop}, Q c { s' with heap := h3 } → wpAny (model X.prog X.w) (X.A.mark (some (.ref a))) (eval (.Name x np) X.env) Q E { s' with heap := h3 } := fun {x np c} hc {Q E} q => by
      obtain ⟨hg, hdbg, hm | ⟨hm, hv, hnn⟩⟩ := hc
      · exact ld_glob (X := X.suite a ((a, oe3) :: (X.pn ++ pins))) S3 hg hm q hdbg
      · exact ld_blt (X := X.suite a ((a, oe3) :: (X.pn ++ pins))) S3 hg hm hv q hnn hdbg
    have go : ∀ {hds' : List ExceptHandler} {l' : List (Value × Option Nat × (Addr → Value → Option Addr → TS))}, HdsA X hds' l' → wManyA X.K Wout D l' cls d σ' H' →
        wpAny (model X.prog X.w) X.A (handleBy (.ref a) X.env hds') (SP X pins D) X.xe { s' with heap := h3 } := by
      intro hds' l' hk
      induction hk with
      | nil =>
        intro w
        refine wpAny_handleBy_nil ?_
        obtain ⟨k1, k2, k3, oe, vs, T, oT, ts', he, hz, hd, h1, hr⟩ := id fl3
        unfold PySem.passOn
        refine wpAny_bind (wpAny_field he hd h1 ?_)
        rw [if_neg (show ¬ ((Value.ref T == Value.none) = true) from by simp)]
        have fin : wpAny (model X.prog X.w) X.A (setFlight (.ref a) X.env.frame) (fun _ s4 => wpAny (model X.prog X.w) X.A (throw (.ref a) : Sem Flow) (SP X pins D) X.xe s4) X.xe { s' with heap := h3 } := by
          rw [hf]
          refine HandSPX.setFlight_upZ fl3 fun h4 hh4 up4 => wpAny_throw (tk _ _ ?_)
          exact ⟨a, B, sI, pins, σ', H', cls, d, rfl, J, nb, (up.trans up3).trans up4, .inr (.inr (by rw [hs]; exact hh4)), na, os, ag, w⟩
        first
          | exact wpAny_bind (wpAny_pure (wpAny_bind fin))
          | exact wpAny_bind fin
      | @cons x c ts b₀ suite np pos' hds2 l2 hc hsu r ih =>
        intro w
        obtain ⟨b, hb1, hyes, hno⟩ := w
        have LM := PySem.W.exm_one (M := model X.prog X.w) (J3.kIn) LT hb1
        refine wpAny_handleBy_cons (codeAny_handlers_test ?_) (by intro q; cases q)
        refine test hc (LM.here ?_)
        cases b with
        | true =>
          refine codeAny_handlers_suite ?_
          refine HandSPX.lands_againZ fl3 fun h4 fl4 up4 => ?_
          have J4 : Inv X pins σ' H' { s' with heap := h4 } := J.landed nb fl4.1 ((up.trans up3).trans up4) os ag
          obtain ⟨oe4, vs4, he4, hz4, hd4⟩ := fl4.there
          have S4 := J4.suite he4 hd4 na nL nF
          refine wpAny_mono ((hsu a oe4 cls d (X.pn ++ pins) hz4 ⟨_, hd4⟩).run [] _ _ H' _ S4 (hyes rfl a na)) (fun f s6 hsp => ?_) (fun _ _ z => False.elim z)
          cases f with
          | next =>
            obtain ⟨σ6, H6, S6, q6⟩ := hsp
            exact ⟨_, _, S6.unsuite ok, q6⟩
          | brk =>
            obtain ⟨σ6, H6, S6, q6⟩ := hsp
            exact ⟨_, _, S6.unsuite ok, q6⟩
          | cont =>
            obtain ⟨σ6, H6, S6, q6⟩ := hsp
            exact ⟨_, _, S6.unsuite ok, q6⟩
          | ret u =>
            obtain ⟨v6, σ6, H6, S6, r6, q6⟩ := hsp
            exact ⟨_, _, _, S6.unsuite ok, r6, q6⟩
        | false =>
          show wpAny _ X.A (handleBy (.ref a) X.env hds2) _ _ _
          exact ih (hno rfl)
      | @consAs x n i c ts b₀ suite np pos' hds2 l2 hi hln hc hsu r ih =>
        intro w
        obtain ⟨b, hb1, hyes, hno⟩ := w
        have LM := PySem.W.exm_one (M := model X.prog X.w) (J3.kIn) LT hb1
        refine wpAny_handleBy_cons (codeAny_handlers_test ?_) (by intro q; cases q)
        refine test hc (LM.here ?_)
        cases b with
        | true =>
          have hloc : Loc X.env.scope n := .inl hln
          refine codeAny_handlers_suite_as ?_
          refine HandSPX.lands_againZ fl3 fun h4 fl4 up4 => ?_
          have J4 : Inv X pins σ' H' { s' with heap := h4 } := J.landed nb fl4.1 ((up.trans up3).trans up4) os ag
          obtain ⟨oe4, vs4, he4, hz4, hd4⟩ := fl4.there
          have S4 := J4.suite he4 hd4 na nL nF
          refine store_ok (X := X.suite a ((a, oe4) :: (X.pn ++ pins))) (v := .ref a) S4 hN hi hloc rfl (fun s5 S5 => ?_) (.inr hln)
          refine wpAny_mono ((hsu a oe4 cls d (X.pn ++ pins) hz4 ⟨_, hd4⟩).run [] s5 _ H' _ S5 (hyes rfl a na)) (fun f s6 hsp => ?_) (fun _ _ z => False.elim z)
          have end_ : ∀ {σ6 : L2.St} {H6 : Hp} {Q : Shared → Prop}, Inv (X.suite a ((a, oe4) :: (X.pn ++ pins))) [] σ6 H6 s6 → (∀ s7, Inv X pins (σ6.set i none) H6 s7 → Q s7) →
              wpAny (model X.prog X.w) X.A (do bindName X.env n .none; unbindBehindTheSuite X.env n pos') (fun _ s7 => Q s7) X.xe s6 := fun {σ6 H6 Q} S6 hq => gone_ok (S6.unsuite ok) hN hi hln hq
          cases f with
          | next =>
            obtain ⟨σ6, H6, S6, q6⟩ := hsp
            exact end_ S6 fun s7 J7 => ⟨_, _, J7, q6⟩
          | brk =>
            obtain ⟨σ6, H6, S6, q6⟩ := hsp
            exact end_ S6 fun s7 J7 => ⟨_, _, J7, q6⟩
          | cont =>
            obtain ⟨σ6, H6, S6, q6⟩ := hsp
            exact end_ S6 fun s7 J7 => ⟨_, _, J7, q6⟩
          | ret u =>
            obtain ⟨v6, σ6, H6, S6, r6, q6⟩ := hsp
            exact end_ S6 fun s7 J7 => ⟨_, _, _, J7, r6, q6⟩
        | false =>
          show wpAny _ X.A (handleBy (.ref a) X.env hds2) _ _ _
          exact ih (hno rfl)
    exact go hh w
  · cases f with
    | next =>
      obtain ⟨σ', H', J', q⟩ := hsp
      exact wpAny_execs_nil ⟨σ', H', J'.ofTry ok, q⟩
    | brk =>
      obtain ⟨σ', H', J', q⟩ := hsp
      exact ⟨σ', H', J'.ofTry ok, q⟩
    | cont =>
      obtain ⟨σ', H', J', q⟩ := hsp
      exact ⟨σ', H', J'.ofTry ok, q⟩
    | ret u =>
      obtain ⟨v, σ', H', J', r, q⟩ := hsp
      exact ⟨v, σ', H', J'.ofTry ok, r, q⟩
end
end L2

/-! a lambda handed to a def that calls it; what it raises is wished for at that def's slots -/
namespace LamX
open PySem PySem.Spec PyProof.Rows L2
section
variable {X : Cx} {pins : List (Addr × Obj)} {σ : L2.St} {H HZ : Hp} {s s1 : Shared}
theorem act2 {CXg : CXT} {Eg : XK} {Ng : List Str} {qg : Str} {sg : Scope} {g f c' : Addr} {cdg pm ctv : Value} {params : Arguments} {body : Expr} {scope : Scope} {k i : Nat} {a : Str} {pn : List (Addr × Obj)} {xe : Value → Shared → Prop} {W : WX} {E : XK} {tb : TE} {p1 p2 : Pos} {σ0 : L2.St}
    (I : Inv X pins σ H s) (L : LamS X.env.scope scope) (hf : s.heap.get? f = some (PySem.W.kla_obj "<lambda>" (X.env.qual ++ "<lambda>") params body scope (cloFrom X.env.cells scope.names []) pm c' ctv)) (hfn : H f = none) (hfr : f ∉ frs X.stack)
    (hbind : bindArgs (PySem.W.kla_fn "<lambda>" (X.env.qual ++ "<lambda>") params body scope (cloFrom X.env.cells scope.names []) pm (.ref c') ctv) ⟨[], []⟩ = pure [])
    (tk : Takes ((cxOf CXg X.prog X.w X.K X.mg X.base Ng qg sg g cdg X.A X.stack s H Eg).tr pn xe) W) (hW : ∀ cls d H', E cls d H' → W cls d σ0 H') (hr : Room (k + 1) (X.A.deeper (envOfC qg sg s.heap.objs.size g cdg)))
    (hbody : ∀ (A : Around) (outer : List Env) (s : Shared) (H : Hp), Room k (A.deeper (lamEnv X scope s.heap.objs.size f c')) → PE (lamCx X A outer s H E scope f c') body tb)
    (hN : Ng[i]? = some a) (hv : Vis sg a) (hd : (a == ("__debug__" : Str)) = false := by decide) (hcd : (a == ("__classdict__" : Str)) = false := by decide) :
    PE ((cxOf CXg X.prog X.w X.K X.mg X.base Ng qg sg g cdg X.A X.stack s H Eg).tr pn xe) (.Call (.Name a p1) [] [] p2)
      (fun σZ HZ Q => σZ = σ0 ∧ σZ[i]? = some (some (.ref f)) ∧ HZ c' = some (CodeO c' (X.env.qual ++ "<lambda>")) ∧ tb σ HZ Q) := by
  refine ⟨fun pinsZ sZ σZ HZ Q IZ h => ?_⟩
  obtain ⟨e0, hs, hc, ht⟩ := h
  subst e0
  refine wpAny_Call_Name_kw (thn ((pe_var (pos := p1) (i := i) hN hv hd hcd).run pinsZ sZ σZ HZ (fun v H1 => v = .ref f ∧ H1 = HZ) IZ ⟨.ref f, hs, rfl, rfl⟩) fun u s1 ⟨v, H1, I1, r1, q1⟩ => ?_)
  obtain ⟨ev, eH⟩ := q1
  subst ev
  rw [eH] at I1
  obtain rfl : u = Value.ref f := r1
  have of1 : s1.heap.get? f = some (PySem.W.kla_obj "<lambda>" (X.env.qual ++ "<lambda>") params body scope (cloFrom X.env.cells scope.names []) pm c' ctv) := I1.base.keep f _ hf hfn hfr (fun z => nomatch (show f ∈ ([] : List Addr) from z))
  refine PySem.W.callWith_F0 ⟨_, _, _, _, of1⟩ ?_
  have un : Un (frs X.stack) [] H HZ s.heap s1.heap := I1.base
  obtain ⟨⟨oc, vs, t, hoc, hdc, hvc⟩, _, _⟩ := I1.hok c' _ hc
  have rc : codeAny (model X.prog X.w) (X.A.deeper (envOfC qg sg s.heap.objs.size g cdg)) (.call (.ref f) ⟨[], []⟩) (CR (L2.CX X.prog X.w) (envOfC qg sg s.heap.objs.size g cdg :: X.stack) X.prog X.w HZ s1 Q E) s1 := by
    refine PySem.W.kla_callFunE hr.depth of1 rfl L.co L.gen rfl ⟨c', oc, vs, t, rfl, hoc, hdc, hvc⟩ ?_
    rw [hbind]
    refine wpAny_pure (wpAny_newFunctionEnv (fun y hy => (L.own y hy).2) (fun y hy => absurd hy (by simp)) (fun h₁ hns hsb => ⟨I1.nolimit.fresh _ hsb, ?_⟩) L.kind)
    show codeAny _ _ (.expr body (lamEnv X scope s1.heap.objs.size f c')) _ _
    have kp : ∀ b o, s1.heap.get? b = some o → h₁.get? b = some o := fun b o e => hsb.extBut b o (Nat.ne_of_lt (Heap.lt_size e)) (Heap.get?_push_of_some _ e)
    have J : Inv (lamCx X (X.A.deeper (envOfC qg sg s.heap.objs.size g cdg)) (envOfC qg sg s.heap.objs.size g cdg :: X.stack) s1 HZ E scope f c') [] σ HZ { s1 with heap := h₁, toks := s1.toks + ([] : List (Str × Value)).length } :=
      lam_start2 I L I1.env0 hr.hd un hns kp
    refine PySem.W.kla_codeExpr (wpAny_mono ((hbody _ _ s1 HZ (hr.deeper _)).run [] _ _ HZ Q J ht) (fun v s' hq => ?_) fun e s' hq => hq)
    obtain ⟨w', H', J', rv, q⟩ := hq
    exact ⟨w', H', J'.os, J'.bare, J'.base, J'.hok, rv, q⟩
  refine wpAny_call (codeAny_mono rc fun r s' hq => ?_)
  cases r with
  | error e => exact tk e s' (XE.of_call I1 (fun cls d H' h => hW cls d H' h) hq)
  | ok fl =>
    cases fl with
    | ret u => exact I1.after hq
    | next => exact False.elim hq
    | brk => exact False.elim hq
    | cont => exact False.elim hq
end
/-- the def that calls what it got, a: TT tells what it makes of the lambda's reading -/
def Gives (X : Cx) (Ng : List Str) (x : Str) (sg : Scope) (g : Addr) (cdg : Value) (bg : List Stmt) (a : Str) (q : Str) (TT : (XK → Hp → VK → Prop) → Hp → VK → Prop) : Prop :=
  ∀ (f c' : Addr) (s : Shared) (H : Hp) (Q : VK) (tl : XK → Hp → VK → Prop),
    (∀ (W : WX) (pn : List (Addr × Obj)) (xe : Value → Shared → Prop) (E : XK) (p1 p2 : Pos) (σ0 : L2.St), Takes ((cxOf C8.CX0 X.prog X.w X.K X.mg X.base Ng x sg g cdg X.A X.stack s H C8.E0).tr pn xe) W → (∀ cls d H', E cls d H' → W cls d σ0 H') →
      PE ((cxOf C8.CX0 X.prog X.w X.K X.mg X.base Ng x sg g cdg X.A X.stack s H C8.E0).tr pn xe) (.Call (.Name a p1) [] [] p2) (fun σZ HZ Q => σZ = σ0 ∧ σZ[0]? = some (some (.ref f)) ∧ HZ c' = some (CodeO c' q) ∧ tl E HZ Q)) →
    H c' = some (CodeO c' q) → TT tl H Q →
    ∃ t, PSs (cxOf C8.CX0 X.prog X.w X.K X.mg X.base Ng x sg g cdg X.A X.stack s H C8.E0).nox bg t ∧ t { nx := fun _ H' => Q .non H', rt := Q } (L2.start Ng [.ref f]) H
section
variable {X : Cx}
/-- x(lambda: body) -/
theorem pe_lam {T : List (Addr × Str)} {TT : (XK → Hp → VK → Prop) → Hp → VK → Prop} {x a : Str} {g c P : Addr} {k : Nat} {pg : Arguments} {bg : List Stmt} {sg : Scope} {dV kV doc pm cdv ct oc : Value} {an od : Option Addr} {osl : Array (Option Value)} {Ng : List Str}
    {params : Arguments} {body : Expr} {scope : Scope} {t : XK → TE} {p lpos pos : Pos} (hg : Gl X x) (hm : X.mg x = some (.ref g)) (hk : PySem.W.keepIn X.K (.ref g) = true)
    (lk : X.K.lookup g = some ⟨oc, od, .func (PySem.W.fnOf x x pg bg sg dV kV doc pm an cdv ct), osl⟩) (hcg : PySem.W.codeIn X.K cdv x = true) (hb : L2.Binds X.K (PySem.W.fnOf x x pg bg sg dV kV doc pm an cdv ct) [a] []) (Sg : FnScope Ng [a] sg) (hNg : Ng[0]? = some a) (hva : Vis sg a)
    (hG : Gives X Ng x sg g cdv bg a (X.env.qual ++ "<lambda>") TT)
    (TB : TabB X.base X.mg c P) (hcode : X.env.code = .ref c) (hmT : (P, X.env.qual ++ "<lambda>") ∈ T) (hu : ∀ p ∈ T, p.1 = P → p.2 = X.env.qual ++ "<lambda>") (hr : Room (k + 2) X.A) (L : LamS X.env.scope scope) (hdef : defaultsOf params X.env = ([], []))
    (hbind : ∀ (q : Str) (cl : List (Str × Addr)) (pm cv ctv : Value), bindArgs (PySem.W.kla_fn "<lambda>" q params body scope cl pm cv ctv) ⟨[], []⟩ = pure [])
    (hbody : ∀ (A : Around) (outer : List Env) (s : Shared) (H : Hp) (E : XK) (f c' : Addr), Room k (A.deeper (lamEnv X scope s.heap.objs.size f c')) → PE (lamCx X A outer s H E scope f c') body (t E))
    (hdb : (x == ("__debug__" : Str)) = false := by decide) (hd : (a == ("__debug__" : Str)) = false := by decide) (hcd : (a == ("__classdict__" : Str)) = false := by decide) :
    PE X (.Call (.Name x p) [.Lambda params body scope lpos] [] pos) (tLam T TT t) := by
  refine ⟨fun pins s σ H Q I h => ?_⟩
  obtain ⟨hT, h⟩ := h
  refine wpAny_Call_Name_kw (ld_glob I hg hm ?_ hdb)
  refine PySem.W.callWith_K (h₀ := X.base) I.ok.mod.kin hk ?_ (by rfl) (by rfl)
  show wpAny _ _ (spliced ((false, eval (.Lambda params body scope lpos) X.env) :: backTo pos (starEach [] X.env))) _ _ s
  refine Calls.spliced_cons (lam_make2 I TB hcode hmT hu hT hdef (L.has I.ok) fun f c' pm' ctv H1 s' I1 eN T1 hf hfn hfr hco => ?_)
  refine Calls.spliced_nil ⟨I1.kIn, ?_⟩
  have rc : codeAny (model X.prog X.w) X.A (.call (.ref g) ⟨[.ref f], []⟩) (CR C8.CX0 X.stack X.prog X.w H1 s' Q C8.E0) s' := by
    refine run_ofS (N := Ng) (ps := [a]) (us := [.ref f]) (vs := [.ref f]) lk hcg Sg hr I1.env0 (hb s' [.ref f] I1.kIn rfl) (.cons rfl .nil) rfl fun hr' => ?_
    obtain ⟨t', ht', hq'⟩ := hG f c' s' H1 Q (fun E H' Q' => t E σ H' Q') (fun W pn xe E p1 p2 σ0 tk hW => act2 (i := 0) I1 L hf hfn hfr (hbind _ _ _ _ _) tk hW hr' (fun A outer s H hr2 => hbody A outer s H E f c' hr2) hNg hva hd hcd) hco (h H1 eN T1)
    exact ⟨t', ht'.nox, hq'⟩
  refine wpAny_call (codeAny_mono rc fun r s2 hq => ?_)
  cases r with
  | error e => exact (show False from hq).elim
  | ok fl =>
    cases fl with
    | ret u => exact I1.after hq
    | next => exact False.elim hq
    | brk => exact False.elim hq
    | cont => exact False.elim hq
end
end LamX

namespace L2
open PySem PySem.Spec PyProof.Rows
section
variable {P : Program} {w : World} {K : PySem.W.Frag} {mg : Str → Option Value} {base : Heap}
/-- the code object of the def at f; its table -/
def cdA (K : PySem.W.Frag) (f : Addr) : Addr := match K.lookup f with
  | some ⟨_, _, .func fd, _⟩ => (match fd.code with
    | .ref c => c
    | _ => 0)
  | _ => 0
def tbA (K : PySem.W.Frag) (f : Addr) : Addr := He.tabOf K (cdA K f)
/-- as Fun.ok, the code object told -/
theorem Fun.okC {x qual : Str} {st : Stmt} {f : Addr} {fd : FuncData} {N ps : List Str} {k : Nat} {sp : Sp} (F : Fun K x qual st f fd) (S : FnScope N ps (defScope st)) (len : ∀ vs H Q E, sp vs H Q E → vs.length = ps.length)
    (hbody : ∀ (A : Around) (outer : List Env) (s : Shared) (H : Hp) (vs : List V) (Q : VK) (E : XK), Room k (A.deeper (envOfC qual (defScope st) s.heap.objs.size f (.ref (cdA K f)))) → sp vs H Q E →
      ∃ t, PSs (cxOf CX0 P w K mg base N qual (defScope st) f (.ref (cdA K f)) A outer s H E).nox (defBody st) t ∧ t { nx := fun _ H' => Q .non H', rt := Q } (start N vs) H) : FnOk P w K mg base CX0 (k + 1) f fd ps sp := by
  obtain ⟨oc, od, kV, doc, pm, an, cdv, ct, osl, rfl, lk, hcd⟩ := F.ex
  obtain ⟨c, rfl⟩ := He.codeIn_ref hcd
  have e : cdA K f = c := by
    unfold cdA
    rw [lk]
  refine fn_of lk hcd S len fun A outer s H vs Q E hr hsp => ?_
  rw [e] at hbody
  obtain ⟨t, h, q⟩ := hbody A outer s H vs Q E hr hsp
  exact ⟨t, h.nox, q⟩
end
end L2
set_option Elab.async false
set_option linter.all false
set_option maxRecDepth 100000
set_option maxHeartbeats 4000000
/-! general: isinstance of a caught error, an own class beside other kinds, repr -/
namespace PySem.W
open PySem PyProof.Rows PySem.SeqAt
/-- t == x, t a tuple, x of an own class: x's own __eq__ is asked -/
theorem eqT_K {K : Frag} {h₀ : Heap} {L : Addr} {s : Shared} {m : Str → Option Value} {x t C f : Addr} {ox : Obj} {od : Option Obj} {A : Around} {E : Value → Shared → Prop} {prog : Program} {w : World} {Q : Value → Shared → Prop} (hu : A.units < cLine) (F : Fr h₀ L s.heap m) (X₀ : K.In h₀) (I : InstAt s.heap x ox C od) (ht : s.TypeIs (.ref t) "tuple")
    (hsub : subIn K (.ref C) (.type "tuple") = some false) (hs : findIn K (.ref C) (cmpInfo .Eq).2.2 = some (some (.ref f))) (hf : isFn K (.ref f) = true)
    (h : wpAny (model prog w) A (call (.ref f) [.ref x, .ref t]) (CmpBack Q) E s) : wpAny (model prog w) A (richCompare .Eq (.ref t) (.ref x)) Q E s := by
  have X := X₀.keeps F.keep
  have hi : Looks (model prog w) s.heap (isInstance (.ref x) (.type "tuple")) false := I.type.andThen (looks_subIn X hsub)
  have dec : ∀ Q' : Value → Shared → Prop, Q' .notImplemented s → wpAny (model prog w) A (call (.builtin "tuple.__eq__") [.ref t, .ref x]) Q' E s := fun Q' hq => by
    refine call_meetsIn (S := fun A R s' => Looks (model prog w) s'.heap (isInstance (.ref x) (.type "tuple")) false ∧ R (.ok (.ret .notImplemented)) s') PySem.F.slot_tuple_eq ht PySem.F.entry_tuple_eq (PySem.F.args_tuple_eq_2 _ _) (.of_wp fun A R s hh => ?_) ⟨hi, hq⟩
    obtain ⟨h1, h2⟩ := hh
    wp_walk using h1.here
    exact ⟨_, rfl, h2⟩
  unfold richCompare
  simp only [oneThing_ref]
  refine wpAny_holding (wpAny_bind (wpAny_cRoomFor hu ?_))
  rcases hi : cmpInfo CmpOp.Eq with ⟨sym, g, r⟩
  rw [hi] at hs
  have h1 : Slot "tuple" (cmpInfo .Eq).2.1 "tuple.__eq__" := PySem.F.slot_tuple_eq
  rw [hi] at h1
  dsimp only at hs h1 ⊢
  refine wpAny_bind (wpAny_typeOf ht (wpAny_bind (I.type.here ?_)))
  rw [show (Value.type "tuple" != Value.ref C) = true from by simp]
  simp only [if_true]
  refine wpAny_bind ((looks_subIn X hsub).here ?_)
  simp only [Bool.false_eq_true, if_false, Bool.not_false, if_true]
  refine wpAny_bind (m := tryCompare (.ref t) _ (.ref x)) (wpAny_tryCompare_declines ht h1 (dec _ ⟨rfl, ?_⟩))
  refine wpAny_bind (m := tryCompare (.ref x) _ (.ref t)) ?_
  unfold tryCompare
  refine wpAny_bind (ifBound_K X I hs hf (wpAny_mono h (fun v s' hv => ?_) fun _ _ e => e))
  cases v <;> first | exact hv.elim | exact wpAny_pure (wpAny_pure hv)
end PySem.W
set_option Elab.async false
set_option linter.all false
set_option maxRecDepth 100000
set_option maxHeartbeats 4000000
/-! general: repr of None, bools, ints, texts, lists -/
namespace PySem
open PySem PyProof.Rows PySem.SeqAt
section
variable {prog : Program} {w : World} {A : Around} {E : Value → Shared → Prop} {s : Shared}
theorem repr_of_list {a : Addr} {xs : List PyData} {as : List Addr} {Q : Value → Shared → Prop} (r : Reads s.heap (.ref a) (.list xs) as) (hne : xs ≠ []) (hs : PyData.showable (.list xs) = true) (hd : PyData.hasDict (.list xs) = false) (hz : (PyData.shown (.list xs)).length ≤ sizeLine) (hg : A.guards = some []) (hu : A.units + PyData.depth (.list xs) + 2 < cLine)
    (hQ : ∀ h' u tk, (∀ b o, s.heap.get? b = some o → h'.get? b = some o) → Q (.str (PyData.shown (.list xs)) u) { s with heap := h', toks := tk }) : wpAny (model prog w) A (call (.builtin "repr") [.ref a]) Q E s := by
  cases r with
  | @list _ o vs na _ as0 h1 h2 h3 h4 =>
    have hz' : (listText (PyData.shownAll xs)).length ≤ sizeLine := by simpa only [PyData.shown] using hz
    obtain ⟨bs, hb, hk⟩ := ReprAllK.of_readsAll (prog := prog) (w := w) h4 (by simpa [PyData.showable] using hs) (fun hx hm => by rw [show PyData.hasDict (.list xs) = PyData.hasDictAll xs from by simp [PyData.hasDict]] at hd; rw [hd] at hx; cases hx) (fun t ht => Nat.le_trans (listText_mem_le ht) hz')
    have r : Reads s.heap (.ref a) (.list xs) _ := .list h1 h2 h3 h4
    have hna : a ∉ bs := not_mem_of_deeper r (by simp only [PyData.depth]; omega) hb
    simp only [PyData.depth] at hu
    simp only [PyData.shown] at hQ
    obtain ⟨l⟩ := vs
    cases l with
    | nil =>
      have h4' : ReadsAll s.heap [] xs _ := h4
      cases h4'
      exact absurd rfl hne
    | cons x l =>
      have hTy : s.TypeIs (.ref a) "list" := ⟨_, h1, h2⟩
      refine Calls.call_function_entry F.kind_repr F.plain_repr F.entry_repr (F.args_repr1 _) ?_
      unfold Builtin.«repr»
      refine wpAny_bind (m := oneArg "repr" _) (wpAny_pure ?_)
      refine wpAny_bind (wpAny_cRoomFor (by show A.units + 1 < cLine; omega) ?_)
      refine wpAny_bind (wpAny_specialOf (name := Str.ofString "__repr__") hTy F.slot_list_repr.lookup ?_)
      refine wpAny_bind (m := callSpecialIfBound? (.ref a) (Str.ofString "__repr__")) (wpAny_callSpecialIfBound?_slot (name := Str.ofString "__repr__") hTy F.slot_list_repr
        (call_list_reprK h1 h2 h3 hna (by simpa using hk.length_eq) (fun i y e => hk.item i y (by simpa using e)) (A := A.in1) (g := []) hg (fun b _ => Clear.nil b) (by show A.units + 1 + (_ + 1) < cLine; omega) (fun _ _ e => e) (fun h' u tk hk' => ?_) hz'))
      refine wpAny_bind (wpAny_isInstance (T := "str") (b := true) rfl isSubtype_str_str ?_)
      exact wpAny_pure ⟨_, rfl, hQ h' u tk hk'⟩
end
end PySem
namespace L2
open PySem PySem.Spec PyProof.Rows PySem.GW
section
variable {X : Cx}
/-- repr(x) of data: not a tuple, not an empty list -/
def rRepr (K : PySem.W.Frag) : List V → Hp → VK → Prop := fun xs H Q => ∃ x d, xs = [x] ∧ Dp K H x d ∧ PyData.showable d = true ∧ PyData.hasDict d = false ∧ d ≠ .list [] ∧ (∀ ds, d ≠ .tuple ds) ∧ PyData.depth d ≤ 60 ∧ (PyData.shown d).length ≤ sizeLine ∧ Q (.str (PyData.shown d)) H
theorem call_repr (hg : X.A.guards = some []) (hu : X.A.units + 70 < cLine) : CallR X (.builtin "repr") (rRepr X.K) := by
  intro pins s σ H xs us Q I r h
  obtain ⟨x, d, rfl, hd, hs, hD, hn, ht, hp, hz, q⟩ := h
  obtain ⟨u, rfl, ru⟩ := vals1 r
  cases hd with
  | non =>
    cases (show u = Value.none from ru)
    exact PySem.P.repr_of_none ⟨.str _, H, I.tok _, ⟨_, rfl⟩, by simpa only [PyData.shown] using q⟩
  | bl b =>
    cases (show u = Value.bool b from ru)
    exact PySem.P.repr_of_bool ⟨.str _, H, I.tok _, ⟨_, rfl⟩, by simpa only [PyData.shown] using q⟩
  | int i =>
    obtain ⟨t, rfl⟩ := (show ∃ t, u = Value.int i t from ru)
    exact PySem.P.repr_of_int (by simpa [PyData.showable] using hs) ⟨.str _, H, I.tok _, ⟨_, rfl⟩, by simpa only [PyData.shown] using q⟩
  | str y =>
    obtain ⟨t, rfl⟩ := (show ∃ t, u = Value.str y t from ru)
    exact PySem.P.repr_of_str ⟨.str _, H, I.tok _, ⟨_, rfl⟩, by simpa only [PyData.shown] using q⟩ (by simpa only [PyData.shown] using hz)
  | @lst a xs ds h1 h2 =>
    cases (show u = Value.ref a from ru)
    obtain ⟨as, rd⟩ := Dp.reads I (.list ds) (.ref a) (.ref a) (.lst h1 h2) rfl
    exact repr_of_list rd (fun e => hn (by rw [e])) hs hD hz hg (by omega) fun h' u tk hk => ⟨.str _, H, I.kept hk, ⟨_, rfl⟩, q⟩
  | @tup a xs ds h1 h2 => exact absurd rfl (ht ds)
end
end L2
set_option Elab.async false
set_option linter.all false
set_option maxRecDepth 100000
set_option maxHeartbeats 4000000
/-! general: an own class beside other kinds, isinstance of a caught error, defs called where no repr is under way -/
namespace PySem.W
open PySem PyProof.Rows
/-- x + b, x of an own class, b of a built-in class T that fills no number slot for it -/
theorem binop_KX {K : Frag} {h₀ : Heap} {L : Addr} {s : Shared} {m : Str → Option Value} {x C f : Addr} {ox : Obj} {od : Option Obj} {A : Around} {E : Value → Shared → Prop} {prog : Program} {w : World} {b : Value} {T : String} {Q : Value → Shared → Prop} (F : Fr h₀ L s.heap m) (X₀ : K.In h₀) (I : InstAt s.heap x ox C od) (hb : Looks (model prog w) s.heap (typeOf b) (.type T)) (hT : fillsNumberSlot (.type T) "add" = pure false) (hc : selfFirst K C = true)
    (hs : findIn K (.ref C) (PySem.dunder Operator.Add.info.2) = some (some (.ref f))) (hf : isFn K (.ref f) = true)
    (h : wpAny (model prog w) A (call (.ref f) [.ref x, b]) (CmpBack Q) E s) : wpAny (model prog w) A (binaryOp .Add (.ref x) b) Q E s := by
  have X := X₀.keeps F.keep
  obtain ⟨cd, hcd, hm⟩ := any_some hc
  obtain ⟨rest, hm⟩ : ∃ rest, cd.mro = .ref C :: rest := by
    cases q : cd.mro with
    | nil => rw [q] at hm; cases hm
    | cons a r => rw [q] at hm; exact ⟨r, by rw [List.head?_cons] at hm; cases (beq_iff_eq.mp hm); rfl⟩
  unfold binaryOp
  refine wpAny_holding (wpAny_bind ?_)
  unfold binaryOp1
  refine wpAny_bind (I.type.here (wpAny_bind (hb.here (wpAny_bind ((fills_K X hcd hm hs).here ?_)))))
  refine wpAny_bind (m := if (Value.ref C == Value.type T) = true then pure false else fillsNumberSlot (.type T) "add") ?_
  rw [if_neg (show ¬ ((Value.ref C == Value.type T) = true) from fun e => by simp at e), hT]
  refine wpAny_pure ?_
  simp only [Bool.and_false, Bool.false_eq_true, if_false, Bool.false_and]
  refine wpAny_bind (wpAny_pure ?_)
  simp only [Bool.false_eq_true, if_false]
  refine wpAny_bind (m := tryMethod (.ref x) _ b) ?_
  unfold tryMethod
  refine wpAny_bind (special_fn X I hs (beq_iff_eq.mp hf) (wpAny_mono h (fun v s' hv => ?_) fun _ _ e => e))
  cases v <;> first | exact hv.elim | exact wpAny_pure (wpAny_pure (wpAny_pure hv))
end PySem.W
namespace L2
open PySem PySem.Spec PyProof.Rows PySem.GW
section
variable {X : Cx}
/-- x op y, x of the own class at C, y of a built-in class T -/
def rOwnB (K : PySem.W.Frag) (C : Addr) (T : String) (sp : Sp) : R2 := fun x y H Q => ∃ a dx fs, x = .ref a ∧ H a = some (.ins C dx fs) ∧ TyX K H y (.type T) ∧ sp [x, y] H Q E0
theorem bop_ownB {C g : Addr} {fd : FuncData} {ps : List Str} {n : Nat} {sp : Sp} {T : String} (hT : fillsNumberSlot (.type T) "add" = pure false) (hc : PySem.W.selfFirst X.K C = true) (hs : PySem.W.findIn X.K (.ref C) (PySem.dunder Operator.Add.info.2) = some (some (.ref g))) (hf : PySem.W.isFn X.K (.ref g) = true)
    (F : FnOk X.prog X.w X.K X.mg X.base CX0 n g fd ps sp) (hb : Binds X.K fd ps []) (hr : Room n X.A) : OpR X (binaryOp .Add) (rOwnB X.K C T sp) := by
  intro pins s σ H x y v u Q I rx ry h
  obtain ⟨a, dx, fs, rfl, ha, ty, q⟩ := h
  cases (show v = Value.ref a from rx)
  obtain ⟨mA, O, _⟩ := ins_get I.hok ha
  obtain ⟨od, J, _⟩ := O.look
  obtain ⟨P, Z, p, _⟩ := kit_of I ry ty
  obtain ⟨m, hF⟩ := I.fr
  refine PySem.W.binop_KX hF I.ok.mod.kin J (Z.ty _ _ I.kIn p) hT hc hs hf ?_
  refine wpAny_mono (run_fn (us := [.ref a, u]) (vs := [.ref a, y]) (dvs := []) (ds := []) F hr hb .nil pass0 I (.cons rfl (.cons ry .nil)) q) (fun w s' z => ?_) fun _ _ x => x
  obtain ⟨z', H', I', rz, qz⟩ := z
  exact SlX.cmpback rz ⟨z', H', I', rz, qz⟩
theorem op_ownB {C g : Addr} {fd : FuncData} {ps : List Str} {n : Nat} {sp : Sp} {T : String} {op : CmpOp} (hop : ∀ a b, compareOp op a b = richCompare op a b) (hn : PySem.W.subIn X.K (.type T) (.ref C) = some false) (hs : PySem.W.findIn X.K (.ref C) (cmpInfo op).2.1 = some (some (.ref g))) (hf : PySem.W.isFn X.K (.ref g) = true)
    (F : FnOk X.prog X.w X.K X.mg X.base CX0 n g fd ps sp) (hb : Binds X.K fd ps []) (hr : Room n X.A) : OpR X (compareOp op) (rOwnB X.K C T sp) := by
  intro pins s σ H x y v u Q I rx ry h
  obtain ⟨a, dx, fs, rfl, ha, ty, q⟩ := h
  cases (show v = Value.ref a from rx)
  obtain ⟨mA, O, _⟩ := ins_get I.hok ha
  obtain ⟨od, J, _⟩ := O.look
  obtain ⟨P, Z, p, _⟩ := kit_of I ry ty
  obtain ⟨m, hF⟩ := I.fr
  rw [hop]
  refine PySem.W.cmp_K (op := op) (tb := .type T) hr.units0 hF I.ok.mod.kin J (Z.ty _ _ I.kIn p) (by unfold PySem.W.notFirst; rw [hn]; simp) hs hf ?_
  refine wpAny_mono (run_fn (us := [.ref a, u]) (vs := [.ref a, y]) (dvs := []) (ds := []) F hr hb .nil pass0 I (.cons rfl (.cons ry .nil)) q) (fun w s' z => ?_) fun _ _ x => x
  obtain ⟨z', H', I', rz, qz⟩ := z
  exact SlX.cmpback rz ⟨z', H', I', rz, qz⟩
/-- t == x, t a tuple, x of the own class at C -/
def rTupOwn (K : PySem.W.Frag) (C : Addr) (sp : Sp) : R2 := fun x y H Q => ∃ t ys a dx fs, x = .ref t ∧ y = .ref a ∧ SqT K H t ys ∧ H a = some (.ins C dx fs) ∧ sp [y, x] H Q E0
theorem op_tupOwn {C g : Addr} {fd : FuncData} {ps : List Str} {n : Nat} {sp : Sp} (hsub : PySem.W.subIn X.K (.ref C) (.type "tuple") = some false) (hs : PySem.W.findIn X.K (.ref C) (cmpInfo .Eq).2.2 = some (some (.ref g))) (hf : PySem.W.isFn X.K (.ref g) = true)
    (F : FnOk X.prog X.w X.K X.mg X.base CX0 n g fd ps sp) (hb : Binds X.K fd ps []) (hr : Room n X.A) : OpR X (compareOp .Eq) (rTupOwn X.K C sp) := by
  intro pins s σ H x y v u Q I rx ry h
  obtain ⟨t, ys, a, dx, fs, rfl, rfl, ht, ha, q⟩ := h
  cases (show v = Value.ref t from rx)
  cases (show u = Value.ref a from ry)
  obtain ⟨mA, O, _⟩ := ins_get I.hok ha
  obtain ⟨od, J, _⟩ := O.look
  obtain ⟨its, o, n', _, hg, hcl, _⟩ := L2.sqT_at I.hok I.kIn ht
  obtain ⟨m, hF⟩ := I.fr
  show wpAny (model X.prog X.w) X.A (richCompare .Eq (.ref t) (.ref a)) _ _ s
  refine PySem.W.eqT_K hr.units0 hF I.ok.mod.kin J ⟨o, hg, hcl⟩ hsub hs hf ?_
  refine wpAny_mono (run_fn (us := [.ref a, .ref t]) (vs := [.ref a, .ref t]) (dvs := []) (ds := []) F hr hb .nil pass0 I (.cons rfl (.cons rfl .nil)) q) (fun w s' z => ?_) fun _ _ x => x
  obtain ⟨z', H', I', rz, qz⟩ := z
  exact SlX.cmpback rz ⟨z', H', I', rz, qz⟩
/-- isinstance(e, c) in the suite of a caught error of the own class at C -/
def rIsS (K : PySem.W.Frag) (a C : Addr) (cls : Value) (d : Option Addr) : List V → Hp → VK → Prop := fun xs H Q => cls = .ref C ∧ (∀ dd, d = some dd → ∃ fs, H dd = some (.xd fs)) ∧ ∃ (c : V) (cv : Value) (b : Bool), xs = [.ref a, c] ∧ ClsV c cv ∧ PySem.W.kitOne K (.ref C) cv = some b ∧ Q (.bl b) H
theorem call_isS {a C : Addr} {oe : Obj} {cls : Value} {d : Option Addr} {pn : List (Addr × Obj)} (Z : ExcC X.K C) (hz : Zc cls d oe) (hf : ∃ vs, oe.data = .fields vs) : CallR (X.suite a ((a, oe) :: pn)) (.builtin "isinstance") (rIsS X.K a C cls d) := by
  intro pins s σ H xs us Q I r h
  obtain ⟨rfl, hd, c, cv, b, rfl, k, e, q⟩ := h
  obtain ⟨u1, u2, rfl, r1, r2⟩ := vals2 r
  have e2 := k.eq r2
  subst e2
  cases (show u1 = Value.ref a from r1)
  obtain ⟨hget, _⟩ := I.pin (a, oe) (List.mem_append.mpr (.inl List.mem_cons_self))
  obtain ⟨vs, hv⟩ := hf
  have nc : PySem.W.notCls oe = true := by unfold PySem.W.notCls; rw [hv]
  have J : ∃ ox od, PySem.W.InstAt s.heap a ox C od := by
    cases d with
    | none => exact ⟨oe, none, hget, hz.1, nc, by rw [hz.2]; trivial⟩
    | some dd =>
      obtain ⟨fs, hx⟩ := hd dd rfl
      obtain ⟨mA, hns, _⟩ := (show ObjOk X.prog X.w H s.heap dd (.xd fs) from I.hok dd _ hx)
      obtain ⟨od, ho, _⟩ := lookIn_ns hns
      exact ⟨oe, some od, hget, hz.1, nc, by rw [hz.2]; exact ho⟩
  exact PySem.W.kia_one (kit_err Z) I.kIn J e (fun z => nomatch z) fun tk => ⟨.bl b, H, I.tok tk, rfl, q⟩
end
/-! ### defs called where no repr is under way -/
/-- as FnOk, called only where no repr is under way -/
structure FnOkG (P : Program) (w : World) (K : PySem.W.Frag) (mg : Str → Option Value) (base : Heap) (CX : CXT) (k : Nat) (f : Addr) (fd : FuncData) (ps : List Str) (sp : Sp) : Prop where
  len : ∀ vs H Q E, sp vs H Q E → vs.length = ps.length
  run : ∀ (A : Around) (outer : List Env) (s : Shared) (H : Hp) (args : Args) (us : List Value) (vs : List V) (Q : VK) (E : XK), A.guards = some [] → Room k A → Env0 P w K mg base A outer s H → BindsTo s fd args (ps.zip us) → Vals vs us → sp vs H Q E →
    codeAny (model P w) A (.call (.ref f) args) (CR CX outer P w H s Q E) s
section
variable {P : Program} {w : World} {K : PySem.W.Frag} {mg : Str → Option Value} {base : Heap}
theorem Fun.okG {x qual : Str} {st : Stmt} {f : Addr} {fd : FuncData} {N ps : List Str} {k : Nat} {sp : Sp} (F : Fun K x qual st f fd) (S : FnScope N ps (defScope st)) (len : ∀ vs H Q E, sp vs H Q E → vs.length = ps.length)
    (hbody : ∀ (A : Around) (outer : List Env) (s : Shared) (H : Hp) (vs : List V) (Q : VK) (E : XK), A.guards = some [] → Room k (A.deeper (envOfC qual (defScope st) s.heap.objs.size f (.ref (cdA K f)))) → sp vs H Q E →
      ∃ t, PSs (cxOf CX0 P w K mg base N qual (defScope st) f (.ref (cdA K f)) A outer s H E).nox (defBody st) t ∧ t { nx := fun _ H' => Q .non H', rt := Q } (start N vs) H) : FnOkG P w K mg base CX0 (k + 1) f fd ps sp := by
  obtain ⟨oc, od, kV, doc, pm, an, cdv, ct, osl, rfl, lk, hcd⟩ := F.ex
  obtain ⟨c, rfl⟩ := He.codeIn_ref hcd
  have e : cdA K f = c := by
    unfold cdA
    rw [lk]
  rw [e] at hbody
  refine ⟨len, fun A outer s H args us vs Q E hg hr e0 hb r hsp => ?_⟩
  refine LamX.run_ofS lk hcd S hr e0 hb r (len _ _ _ _ hsp) fun hr' => ?_
  obtain ⟨t, h, q⟩ := hbody A outer s H vs Q E hg hr' hsp
  exact ⟨t, h.nox, q⟩
end
section
variable {X : Cx} {CX : CXT} {k : Nat} {f : Addr} {fd : FuncData} {ps : List Str} {sp : Sp} {dvs : List V} {ds : List Value} {E : XK} {x : Str} {p pos : Pos} {e : Expr} {es : List Expr} {t : TA}
theorem pe_callG (hgd : X.A.guards = some []) (F : FnOkG X.prog X.w X.K X.mg X.base CX k f fd ps sp) (hr : Room k X.A) (hg : Gl X x) (hm : X.mg x = some (.ref f)) (hk : PySem.W.keepIn X.K (.ref f) = true) (hb : Binds X.K fd ps ds) (hd : Vals dvs ds) (hx : Passes CX X E)
    (ha : PA X (e :: es) t) (hdb : (x == ("__debug__" : Str)) = false := by decide) (he : starEach (e :: es) X.env = (false, eval e X.env) :: starEach es X.env := by rfl) (hpl : (backTo pos (starEach es X.env)).any (·.1) = false := by rfl) :
    PE X (.Call (.Name x p) (e :: es) [] pos) (tCall sp dvs E t) := by
  refine ⟨fun pins s σ H Q I h => ?_⟩
  refine wpAny_Call_Name_kw (ld_glob I hg hm ?_ hdb)
  refine PySem.W.callWith_K (h₀ := X.base) I.ok.mod.kin hk (thn (ha.run pos pins s σ H _ I h) fun us s1 ⟨vs, H1, I1, r, q⟩ => ⟨I1.kIn, ?_⟩) he hpl
  have r2 : Vals (vs ++ dvs) (us ++ ds) := r.append hd
  have hl : (us ++ ds).length = ps.length := by rw [← r2.length]; exact F.len _ _ _ _ q
  refine wpAny_call (codeAny_mono (F.run X.A X.stack s1 H1 ⟨us, []⟩ (us ++ ds) (vs ++ dvs) Q E hgd hr I1.env0 (hb s1 us I1.kIn hl) r2 q) fun r s' hq => ?_)
  cases r with
  | error e => exact hx pins σ H1 s1 e s' I1 hq
  | ok fl =>
    cases fl with
    | ret u => exact I1.after hq
    | next => exact False.elim hq
    | brk => exact False.elim hq
    | cont => exact False.elim hq
end
end L2
set_option Elab.async false
set_option linter.all false
set_option maxRecDepth 100000
set_option maxHeartbeats 4000000
/-! general: t[::k] of a tuple -/
namespace HT
open PySem PySem.Spec PyProof.Rows L2
/-- how many places xs[::k] has -/
def stepN (n k : Nat) : Nat := if 0 < n then (n - 1) / k + 1 else 0
def stepL {α : Type} (xs : List α) (k : Nat) : List α := (List.range (stepN xs.length k)).filterMap fun m => xs[m * k]?
theorem stepL_le {α : Type} (xs : List α) (k : Nat) : (stepL xs k).length ≤ xs.length := by
  have e1 : (stepL xs k).length ≤ stepN xs.length k := by
    unfold stepL
    refine Nat.le_trans (List.length_filterMap_le _ _) ?_
    rw [List.length_range]
    exact Nat.le_refl _
  have e2 : stepN xs.length k ≤ xs.length := by
    unfold stepN
    split
    · have := Nat.div_le_self (xs.length - 1) k
      omega
    · omega
  omega
section
variable {prog : Program} {w : World} {A : Around} {E : Value → Shared → Prop} {s : Shared}
theorem adjust_step (k n : Nat) : Builtin.Slice.sliceAdjust none none (k : Int) (n : Int) = (0, (n : Int)) := by
  have h1 : ¬ ((k : Int) < 0) := by omega
  unfold Builtin.Slice.sliceAdjust
  simp only [h1, if_false]
theorem places_step (k n : Nat) (hk : 1 ≤ k) : Builtin.Slice.slicePlaces 0 (n : Int) (k : Int) = stepN n k := by
  unfold Builtin.Slice.slicePlaces stepN
  have h1 : (k : Int) > 0 := by omega
  rw [if_pos h1]
  by_cases c : 0 < n
  · rw [if_pos (by omega), if_pos c]
    have e : ((n : Int) - 0 - 1) = ((n - 1 : Nat) : Int) := by omega
    rw [e]
    show (((n - 1 : Nat) : Int) / (k : Int) + 1).toNat = _
    rw [show (((n - 1 : Nat) : Int) / (k : Int) + 1) = (((n - 1) / k + 1 : Nat) : Int) by push_cast; rfl]
    exact Int.toNat_natCast _
  · rw [if_neg (by omega), if_neg c]
    rfl
theorem sliceApplied_step {sl : Addr} {vs : Value} {k n : Nat} {Q : Int × Int × Nat → Shared → Prop} (hs : s.heap.IsSliceOf sl .none .none vs) (ps : IsPart vs (some (k : Int))) (hk : 1 ≤ k)
    (h : Q (0, (k : Int), stepN n k) s) : wpAny (model prog w) A (Builtin.Slice.sliceApplied (.ref sl) (pure (n : Int))) Q E s := by
  obtain ⟨os, hos, hcs, hds⟩ := id hs
  unfold Builtin.Slice.sliceApplied Builtin.Slice.sliceFields
  refine wpAny_bind (wpAny_bind (wpAny_field hos hds (x := .none) rfl (wpAny_bind (wpAny_field hos hds (x := .none) rfl (wpAny_bind (wpAny_field hos hds (x := vs) rfl (wpAny_pure ?_)))))))
  refine wpAny_bind (slicePart_ ps ?_)
  show wpAny _ _ (if ((k : Int) == 0) = true then _ else _) _ _ s
  rw [if_neg (by simp; omega)]
  refine wpAny_bind (slicePart_none (wpAny_bind (slicePart_none (wpAny_bind (wpAny_pure ?_)))))
  show wpAny _ _ (match Builtin.Slice.sliceAdjust none none (k : Int) (n : Int) with | (lo, hi) => pure (lo, (k : Int), Builtin.Slice.slicePlaces lo hi (k : Int))) _ _ s
  rw [adjust_step]
  show wpAny _ _ (pure ((0 : Int), (k : Int), Builtin.Slice.slicePlaces 0 (n : Int) (k : Int))) _ _ s
  rw [places_step k n hk]
  exact wpAny_pure h
theorem pick_step (xs : Array Value) (k c : Nat) : ((List.range c).filterMap fun (m : Nat) => xs[((0 : Int) + (m : Int) * (k : Int)).toNat]?).toArray = ((List.range c).filterMap fun m => xs.toList[m * k]?).toArray := by
  have e : (fun (m : Nat) => xs[((0 : Int) + (m : Int) * (k : Int)).toNat]?) = fun m => xs.toList[m * k]? := by
    funext m
    have : ((0 : Int) + (m : Int) * (k : Int)).toNat = m * k := by
      rw [show ((0 : Int) + (m : Int) * (k : Int)) = ((m * k : Nat) : Int) by push_cast; omega]
      exact Int.toNat_natCast _
    rw [this]
    simp
  rw [e]
theorem getItem_tuple_step {t sl : Addr} {items : Array Value} {vs : Value} {k : Nat} {Q : Value → Shared → Prop} (ht : IsTup s.heap t items) (hs : s.heap.IsSliceOf sl .none .none vs) (ps : IsPart vs (some (k : Int))) (hk : 1 ≤ k)
    (h1 : k = 1 → Q (.ref t) s) (h2 : k ≠ 1 → Q (.ref s.heap.objs.size) { s with heap := s.heap.push { cls := .type "tuple", data := .seq (stepL items.toList k).toArray } })
    (hsz : items.size ≤ sizeLine) : wpAny (model prog w) A (getItem (.ref t) (.ref sl)) Q E s := by
  have hlen : (stepL items.toList k).length ≤ sizeLine := by
    have e1 : (stepL items.toList k).length ≤ stepN items.size k := by
      unfold stepL
      refine Nat.le_trans (List.length_filterMap_le _ _) ?_
      rw [List.length_range, Array.length_toList]
      exact Nat.le_refl _
    have e2 : stepN items.size k ≤ items.size := by
      unfold stepN
      split
      · have := Nat.div_le_self (items.size - 1) k
        omega
      · omega
    omega
  have htake : sizeOk (.seq (stepL items.toList k).toArray) := by
    show (stepL items.toList k).toArray.size ≤ sizeLine
    rw [List.size_toArray]
    exact hlen
  obtain ⟨os, hos, hcs, hds⟩ := id hs
  have hTs : s.TypeIs (.ref sl) "slice" := ⟨os, hos, hcs⟩
  unfold getItem
  try with_reducible refine wpAny_holding ?_
  first | refine wpAny_bind (wpAny_pure ?_) | skip
  refine wpAny_bind (wpAny_sequenceKey ht.typeIs (by decide) ?_)
  refine wpAny_bind (wpAny_callSpecial?_slot (name := Str.ofString "__getitem__") ht.typeIs PyProof.Rows.slot_tuple_getitem
    (wpAny_call_entry PyProof.Rows.slot_tuple_getitem ht.typeIs entry_tuple_getitem ?_ (args_tuple_getitem _ _)))
  show wpAny _ _ (Builtin.Tuple.tupleItemsOf (.ref t) >>= _) _ _ s
  refine wpAny_bind (tupleItemsOf_ ht ?_)
  refine wpAny_bind (wpAny_typeOf hTs ?_)
  rw [if_pos (by decide)]
  refine wpAny_bind (sliceApplied_step hs ps hk ?_)
  show wpAny _ _ (if ((0 : Int) == 0 && (k : Int) == 1 && stepN items.size k == items.size) = true then _ else _) _ _ s
  by_cases c : k = 1
  · subst c
    have hyes : ((0 : Int) == 0 && (((1 : Nat) : Int)) == 1 && stepN items.size 1 == items.size) = true := by
      have e : stepN items.size 1 = items.size := by
        unfold stepN
        split
        · rw [Nat.div_one]; omega
        · omega
      rw [e]
      simp
    rw [if_pos hyes]
    refine wpAny_bind ?_
    show wpAny _ _ (typeOf (.ref t) >>= fun T => pure (T == .type "tuple")) _ _ s
    refine wpAny_bind (wpAny_typeOf ht.typeIs (wpAny_pure ?_))
    first
      | rw [if_pos (by decide)]
      | simp only [beq_self_eq_true, if_true]
    first
      | exact wpAny_bind (wpAny_rule (wpAny_pure ⟨_, rfl, wpAny_pure (h1 rfl)⟩))
      | exact wpAny_bind (wpAny_rule (wpAny_bind (wpAny_pure (wpAny_pure ⟨_, rfl, wpAny_pure (h1 rfl)⟩))))
  · have hno : ¬ (((0 : Int) == 0 && (k : Int) == 1 && stepN items.size k == items.size) = true) := by
      intro q
      rw [Bool.and_eq_true, Bool.and_eq_true] at q
      have q1 : (k : Int) = 1 := eq_of_beq q.1.2
      omega
    rw [if_neg hno, pick_step]
    have h := h2 c
    unfold stepL at h htake
    rw [Array.length_toList] at h htake
    first
      | exact wpAny_bind (m := Builtin.Tuple.tupleExact _) (wpAny_newObj_type (wpAny_pure ⟨_, rfl, wpAny_pure h⟩) htake)
      | exact wpAny_bind (m := Builtin.Tuple.tupleExact _) (wpAny_newObj_type (wpAny_bind (wpAny_pure (wpAny_pure ⟨_, rfl, wpAny_pure h⟩))) htake)
      | exact wpAny_bind (wpAny_bind (m := Builtin.Tuple.tupleExact _) (wpAny_newObj_type (wpAny_pure (wpAny_pure ⟨_, rfl, wpAny_pure h⟩)) htake))
      | exact wpAny_bind (wpAny_bind (m := Builtin.Tuple.tupleExact _) (wpAny_newObj_type (wpAny_pure ⟨_, rfl, wpAny_pure h⟩) htake))
end
end HT
namespace L2
open PySem PySem.Spec PyProof.Rows PySem.GW
theorem Vals.step {vs : List V} {us : List Value} (r : Vals vs us) (k : Nat) : Vals (HT.stepL vs k) (HT.stepL us k) := by
  have hl := r.length
  unfold HT.stepL
  rw [hl]
  have key : ∀ l : List Nat, Vals (l.filterMap fun m => vs[m * k]?) (l.filterMap fun m => us[m * k]?) := by
    intro l
    induction l with
    | nil => exact .nil
    | cons m l ih =>
      cases e : vs[m * k]? with
      | none =>
        have e2 : us[m * k]? = none := by
          rw [List.getElem?_eq_none_iff] at e ⊢
          omega
        rw [List.filterMap_cons_none (f := fun m => vs[m * k]?) e, List.filterMap_cons_none (f := fun m => us[m * k]?) e2]
        exact ih
      | some v =>
        obtain ⟨u, hu, ru⟩ := r.get e
        rw [List.filterMap_cons_some (f := fun m => vs[m * k]?) e, List.filterMap_cons_some (f := fun m => us[m * k]?) hu]
        exact .cons ru ih
  exact key _
section
variable {X : Cx}
/-- t[::k] -/
def tStepT (K : PySem.W.Frag) (te tk : TE) : TE := fun σ H Q => te σ H fun x H1 => tPart tk σ H1 fun o H2 => ∃ a xs k, x = .ref a ∧ o = some ((k : Nat) : Int) ∧ 1 ≤ k ∧ SqT K H2 a xs ∧ (k = 1 → Q (.ref a) H2) ∧ (k ≠ 1 → ∀ p, H2 p = none → Q (.ref p) (upd H2 p (.tup (HT.stepL xs k))))
theorem pe_stepT {e ek : Expr} {te tk : TE} {p3 pos : Pos} (he : PE X e te) (hk : PE X ek tk) : PE X (.Subscript e (.Slice none none (some ek) p3) pos) (tStepT X.K te tk) := by
  refine ⟨fun pins s σ H Q I h => ?_⟩
  refine Subscript_ (thn (he.run pins s σ H _ I h) fun v s1 ⟨x, H1, I1, r1, q1⟩ => ?_)
  refine wpAny_Slice (thn (po_none.run pins s1 σ H1 (fun o H2 => o = none ∧ H2 = H1) I1 ⟨rfl, rfl⟩) fun vl s2 ⟨l, H2, I2, pl, el, e2⟩ => ?_)
  subst el e2
  refine thn (po_none.run pins s2 σ H2 (fun o H3 => o = none ∧ H3 = H2) I2 ⟨rfl, rfl⟩) fun vu s3 ⟨u, H3, I3, pu, eu, e3⟩ => ?_
  subst eu e3
  refine thn ((po_some hk).run pins s3 σ H3 _ I3 q1) fun vs s4 ⟨o, H4, I4, ps, q⟩ => ?_
  obtain ⟨a, xs, k, rfl, rfl, hk1, hx, c1, c2⟩ := q
  cases r1
  cases pl
  cases pu
  have I5 : Inv X pins σ H4 { s4 with heap := s4.heap.push { cls := .type "slice", data := .fields #[.none, .none, vs] } } := I4.kept (t' := s4.toks) fun b ob q => Heap.get?_push_of_some _ q
  obtain ⟨its, r, ht, hz⟩ := I5.tuple hx
  have hlen := r.length
  show wpAny (model X.prog X.w) X.A (subscriptTail e (.Slice none none (some ek) p3) (.ref a) (.ref s4.heap.objs.size)) (EP X pins σ Q) X.xe { s4 with heap := s4.heap.push { cls := .type "slice", data := .fields #[.none, .none, vs] } }
  refine tail_any (ops := [.ref a, .ref s4.heap.objs.size]) ht.typeIs (PyProof.Rows.slot_tuple_getitem.lookup) ?_ (by with_unfolding_all rfl)
  refine HT.getItem_tuple_step ht (Heap.IsSliceOf.new _ .none .none vs) ps hk1 (fun e => ⟨.ref a, H4, I5, rfl, c1 e⟩) (fun e => ?_) (by rw [List.size_toArray]; omega)
  refine ⟨.ref _, _, I5.laid (t' := s4.toks) (o := .tup (HT.stepL xs k)) (fun b ob q => Heap.get?_push_of_some _ q) (Nat.le_refl _) ?_, rfl, c2 e _ (I5.hok.fresh (Nat.le_refl _))⟩
  have rs := r.step k
  exact ⟨Nat.le_trans (HT.stepL_le xs k) hz, _, rs, ⟨_, Heap.get?_push_size _ rfl, rfl, 0, rfl⟩⟩
end
end L2
set_option Elab.async false
set_option linter.all false
set_option maxRecDepth 100000
set_option maxHeartbeats 4000000
/-! general: for i, x in enumerate(a tuple) -/
namespace PySem
open PySem PyProof.Rows PySem.SeqAt
section
variable {prog : Program} {w : World} {A : Around} {E : Value → Shared → Prop} {s : Shared}
theorem nextOf_tup_item {it t : Addr} {i : Nat} {items : Array Value} {x : Value} {Q : Value → Shared → Prop} (hit : s.heap.IsTupleIter it t i) (ht : s.heap.IsTuple t items) (hx : items[i]? = some x)
    (hQ : ∀ h', h'.IsTupleIter it t (i + 1) → Heap.SameBut it s.heap h' → Q x { s with heap := h' }) : wpAny (model prog w) A (Builtin.SmallTypes.nextOf (.ref it)) Q E s := by
  obtain ⟨o, ho, hc, hd⟩ := id hit
  obtain ⟨ol, hol, _, nl, hdl⟩ := ht
  unfold Builtin.SmallTypes.nextOf
  refine wpAny_bind (wpAny_callSpecial?_slot (name := Str.ofString "__next__") hit.typeIs F.slot_tuple_iterator_next
    (wpAny_call_entry F.slot_tuple_iterator_next hit.typeIs F.entry_tuple_iterator_next ?_ (F.args_tuple_iterator_next_1 _)))
  show wpAny _ _ (field (.ref it) 0 >>= _) _ _ s
  refine wpAny_bind (wpAny_field ho hd (x := .ref t) rfl ?_)
  show wpAny _ _ (if (Value.ref t == Value.none) = true then _ else _) _ _ s
  rw [if_neg (show ¬ ((Value.ref t == Value.none) = true) from Bool.false_ne_true)]
  show wpAny _ _ (field (.ref it) 1 >>= _) _ _ s
  refine wpAny_bind (wpAny_field ho hd (x := .int i 0) rfl ?_)
  show wpAny _ _ (seqItems? (.ref t) >>= _) _ _ s
  refine wpAny_bind (wpAny_seqItems hol hdl ?_)
  simp only [Int.toNat_natCast, hx]
  refine wpAny_bind (wpAny_setField ho hd (by simp) (wpAny_pure ⟨x, rfl, wpAny_pure (hQ _ ?_ (Heap.SameBut.update ..))⟩))
  exact ⟨_, Heap.get?_update_self _ ho (Obj.isFreed_of_fields (Obj.data_mapFields hd _)), (Obj.cls_mapFields ..).trans hc, by rw [Obj.data_mapFields hd]; simp [rawInt]⟩
theorem nextOf_tup_end {it t : Addr} {i : Nat} {items : Array Value} {Q : Value → Shared → Prop} (hh : A.handled = none) (hit : s.heap.IsTupleIter it t i) (ht : s.heap.IsTuple t items) (hx : items[i]? = none)
    (hE : ∀ h' e, Heap.ExtBut it s.heap h' → (∃ o, h'.get? e = some o ∧ o.cls = .type "StopIteration") → E (.ref e) { s with heap := h' }) : wpAny (model prog w) A (Builtin.SmallTypes.nextOf (.ref it)) Q E s := by
  obtain ⟨o, ho, hc, hd⟩ := id hit
  obtain ⟨ol, hol, _, nl, hdl⟩ := ht
  unfold Builtin.SmallTypes.nextOf
  refine wpAny_bind (wpAny_callSpecial?_slot (name := Str.ofString "__next__") hit.typeIs F.slot_tuple_iterator_next
    (wpAny_call_entry F.slot_tuple_iterator_next hit.typeIs F.entry_tuple_iterator_next ?_ (F.args_tuple_iterator_next_1 _)))
  show wpAny _ _ (field (.ref it) 0 >>= _) _ _ s
  refine wpAny_bind (wpAny_field ho hd (x := .ref t) rfl ?_)
  show wpAny _ _ (if (Value.ref t == Value.none) = true then _ else _) _ _ s
  rw [if_neg (show ¬ ((Value.ref t == Value.none) = true) from Bool.false_ne_true)]
  show wpAny _ _ (field (.ref it) 1 >>= _) _ _ s
  refine wpAny_bind (wpAny_field ho hd (x := .int i 0) rfl ?_)
  show wpAny _ _ (seqItems? (.ref t) >>= _) _ _ s
  refine wpAny_bind (wpAny_seqItems hol hdl ?_)
  simp only [Int.toNat_natCast, hx]
  refine wpAny_bind (wpAny_rule (wpAny_bind (wpAny_setField ho hd (by simp) ?_)))
  show wpAny _ _ (newExc (.type "StopIteration") [] >>= _) _ _ _
  refine wpAny_bind ?_
  simp only [newExc, newTuple]
  refine wpAny_bind (wpAny_newObj_type ?_ (by size_fits))
  refine wpAny_bind (m := firstArgMember _ _) (wpAny_of_eq (a := Value.none) (by first | rfl | (simp only [firstArgMember]; rfl)) ?_)
  refine wpAny_newObj_type ?_ (by size_fits)
  simp only [raiseNew]
  refine wpAny_bind (wpAny_handled ?_)
  first | rw [show A.in1.handled = none from hh] | rw [hh]
  refine wpAny_bind (wpAny_pure (wpAny_throw ?_))
  exact hE _ _ (((Heap.SameBut.update ..).extBut.push _).push _) ⟨_, Heap.get?_push_size _ rfl, rfl⟩
end
theorem Draws.tup {prog : Program} {w : World} {A : Around} (hh : A.handled = none) (it l : Addr) (hne : l ≠ it) (items : Array Value) :
    Draws prog w A it [it, l] items.size (fun i v => items[i]? = some v) (fun i h => h.IsTupleIter it l i ∧ h.IsTuple l items) where
  live := fun _ _ st => let ⟨o, ho, _⟩ := st.1; ⟨o, ho⟩
  frame := fun _ _ _ st hk => ⟨st.1.at fun o e => hk it (by simp) o e, let ⟨o, ho, r⟩ := st.2; ⟨o, hk l (by simp) o ho, r⟩⟩
  item := fun i s Q E hi st hQ => by
    refine nextOf_tup_item st.1 st.2 (x := items[i]) (by simp [hi]) fun h' hit' hs' => ?_
    exact hQ _ h' s.toks (by simp [hi]) ⟨hit', st.2.extBut hs'.extBut hne⟩ hs'
  done := fun s Q E st hE => nextOf_tup_end hh st.1 st.2 (by simp) hE
theorem pyNext_enumT_end {prog : Program} {w : World} {A : Around} {E : Value → Shared → Prop} {s : Shared} {e it t : Addr} {i : Nat} {items : Array Value} {old : Value} {Q : Option Value → Shared → Prop} (hh : A.handled = none) (he : IsEnum s.heap e it i old) (hit : s.heap.IsTupleIter it t i) (ht : s.heap.IsTuple t items) (hx : items[i]? = none)
    (hQ : ∀ h', Heap.ExtBut it s.heap h' → Q none { s with heap := h' }) : wpAny (model prog w) A (pyNext (.ref e)) Q E s := by
  have hT : s.TypeIs (.ref e) "enumerate" := ⟨_, he, rfl⟩
  unfold pyNext
  refine wpAny_bind (wpAny_attempt (wpAny_callSpecial?_slot (name := Str.ofString "__next__") hT F.slot_enumerate_next
    (wpAny_call_entry F.slot_enumerate_next hT F.entry_enumerate_next ?_ (F.args_enumerate_next_1 _))))
  show wpAny _ _ (field (.ref e) 2 >>= _) _ _ _
  refine wpAny_bind (wpAny_field he rfl (x := .ref it) rfl ?_)
  refine wpAny_bind (nextOf_tup_end hh hit ht hx fun h' x he' hx' => ?_)
  obtain ⟨o, ho, hc⟩ := hx'
  refine wpAny_bind (wpAny_isInstance (T := "StopIteration") (b := true) ⟨o, ho, hc⟩ isSubtype_stop ?_)
  exact wpAny_pure (hQ _ he')
theorem meets_enum_newT (l : Addr) (items : Array Value) (n : Nat) (dct : Option Addr) (sl : Array (Option Value)) :
    Meets (Builtin.«enumerate.__new__» ⟨[.type "enumerate", .ref l], []⟩) (fun _ R s => s.heap.get? l = some { cls := .type "tuple", dict := dct, data := .seq items n, slots := sl } ∧
      R (.ok (.ret (.ref (s.heap.push { cls := .type "tuple_iterator", data := .fields #[.ref l, .int 0 0] }).objs.size)))
        { s with heap := (s.heap.push { cls := .type "tuple_iterator", data := .fields #[.ref l, .int 0 0] }).push { cls := .type "enumerate", data := .fields #[.none, .bool false, .ref s.heap.objs.size, rawInt 0, .none, .none] } }) :=
  .of_wp fun prog w A R s h => by
    obtain ⟨hp, g, d, tk, os⟩ := s; obtain ⟨hl, h⟩ := h
    have hsub := sub_enumerate
    have hL : Heap.IsTuple (Shared.heap ⟨hp, g, d, tk, os⟩) l items := ⟨_, hl, rfl, n, rfl⟩
    wp_walk using PySem.AutoSeq1.wpAny_loadPart' hl
    refine wpAny_stack_any fun st => wpAny_pure ?_
    split
    · rename_i c _ _ _ _ _
      cases (c == Value.type "enumerate")
      · wp_walk using PySem.AutoSeq1.wpAny_loadPart' hl, wpAny_pyIter_tuple hL
        exact ⟨_, rfl, h⟩
      · wp_walk using PySem.AutoSeq1.wpAny_loadPart' hl, wpAny_pyIter_tuple hL
        exact ⟨_, rfl, h⟩
    · wp_walk using PySem.AutoSeq1.wpAny_loadPart' hl, wpAny_pyIter_tuple hL
      exact ⟨_, rfl, h⟩
section
variable {prog : Program} {w : World} {A : Around} {E : Value → Shared → Prop} {s : Shared}
theorem call_enumerate_tup {l : Addr} {items : Array Value} {Q : Value → Shared → Prop} (hL : s.heap.IsTuple l items)
    (h : ∀ h', IsEnum h' (s.heap.objs.size + 1) s.heap.objs.size 0 .none → h'.IsTupleIter s.heap.objs.size l 0 → h'.objs.size = s.heap.objs.size + 2 →
      (∀ b o, s.heap.get? b = some o → h'.get? b = some o) → Q (.ref (s.heap.objs.size + 1)) { s with heap := h' }) :
    wpAny (model prog w) A (call (.type "enumerate") [.ref l]) Q E s := by
  obtain ⟨⟨c, dct, dt, sl⟩, hl, hc, n, hd⟩ := hL
  replace hc : c = .type "tuple" := hc
  replace hd : dt = .seq items n := hd
  subst hc hd
  refine callType_new F.called_enumerate (by decide) (F.typeCall_enumerate_1 _) (F.newCall_enumerate_1 _) (fun obj => F.args_object_init_2 obj _) F.entry_enumerate_new
    (meets_enum_newT l items n dct sl) ⟨hl, ?_⟩
  have hz : (s.heap.push { cls := .type "tuple_iterator", data := .fields #[.ref l, .int 0 0] }).objs.size = s.heap.objs.size + 1 := Heap.size_push ..
  show _ ∧ _
  rw [hz]
  have he : IsEnum ((s.heap.push { cls := .type "tuple_iterator", data := .fields #[.ref l, .int 0 0] }).push
      { cls := .type "enumerate", data := .fields #[.none, .bool false, .ref s.heap.objs.size, rawInt 0, .none, .none] }) (s.heap.objs.size + 1) s.heap.objs.size 0 .none := by
    have := Heap.get?_push_size (s.heap.push { cls := .type "tuple_iterator", data := .fields #[.ref l, .int 0 0] })
      (o := { cls := .type "enumerate", data := .fields #[.none, .bool false, .ref s.heap.objs.size, rawInt 0, .none, .none] }) rfl
    rw [hz] at this; exact this
  exact ⟨⟨_, he, rfl⟩, h _ he ⟨_, Heap.get?_push_of_some _ (Heap.get?_push_size _ rfl), rfl, rfl⟩ (by rw [Heap.size_push, hz]) fun b o x => Heap.get?_push_of_some _ (Heap.get?_push_of_some _ x)⟩
end
end PySem
namespace L2
open PySem PySem.Spec PyProof.Rows PySem.GW
/-- the tuple at a, each item in a new pair -/
def IteT (K : PySem.W.Frag) (a : Addr) : It :=
  ⟨fun i H => ∃ (xs : List V) (x : V), SqT K H a xs ∧ xs[i]? = some x, fun i H v H' => ∃ T x, v = .ref T ∧ H T = none ∧ H' = upd H T (.tup [.int (i : Nat), x]) ∧ ∀ xs, SqT K H a xs → xs[i]? = some x, fun i H => ∃ xs : List V, SqT K H a xs ∧ xs.length ≤ i⟩
theorem turn_enumT {P : Program} {w : World} {K : PySem.W.Frag} {elts : List Expr} {kk : Nat} {tpos : Pos} (a e it : Addr) (hai : a ≠ it) (hae : e ≠ a) :
    Turn P w K (.Tuple elts kk tpos) (IteT K a) [e, it] e (fun i h => (∃ old, IsEnum h e it ((i : Nat) : Int) old) ∧ h.IsTupleIter it a i ∧ e ≠ it) where
  mem := by simp
  obj := fun i h st b hb => by
    obtain ⟨⟨old, he⟩, ⟨o, ho, hc, hd⟩, _⟩ := st
    have e' : b = e ∨ b = it := by simpa using hb
    rcases e' with z | z
    · rw [z]; exact ⟨_, he, fun v q => nomatch q⟩
    · rw [z]; exact ⟨o, ho, fun v q => by rw [hd] at q; cases q⟩
  keep := fun i h h' st k => let ⟨⟨old, he⟩, hi, hne⟩ := st; ⟨⟨old, k e (by simp) _ he⟩, hi.at fun o q => k it (by simp) o q, hne⟩
  item := by
    intro X hP hw hK hc i pins s σ H E I hf st hg
    subst hP hw hK
    obtain ⟨⟨old, he⟩, hit, hne⟩ := st
    obtain ⟨xs, x, hq, hx⟩ := hg
    obtain ⟨its, rv, p, hz⟩ := I.tuple hq
    obtain ⟨u, hu, ru⟩ := rv.get hx
    have hel : e < s.heap.objs.size := Heap.lt_size he
    have hil : it < s.heap.objs.size := by obtain ⟨_, q, _⟩ := hit; exact Heap.lt_size q
    have hlt : i < its.toArray.size := by
      rw [List.size_toArray]
      exact (List.getElem?_eq_some_iff.mp hu).1
    refine wpAny_pyNext_enum_itemD (Draws.tup (A := X.A.in1) (I.ok.hd hc) it a hai its.toArray) he ⟨hit, p⟩ hlt hne (by simp [hne, hae]) fun x' h' tk hP ho hst hT hsz hk => ?_
    have e1 : x' = u := by
      have : its.toArray[i]? = some x' := hP
      rw [List.getElem?_toArray, hu] at this
      exact (Option.some.inj this).symm
    subst e1
    refine ⟨_, rfl, wpAny_letOwnedTupleGo_enum (s := { s with heap := h', toks := tk + 1 }) ho fun h'' he' sb => ?_⟩
    have hT2 : h''.get? s.heap.objs.size = some { cls := .type "tuple", data := .seq #[.int i tk, x'] } := (sb.2 _ (Nat.ne_of_gt hel)).trans hT
    have new : ObjOk X.prog X.w (upd H s.heap.objs.size (.tup [.int (i : Nat), x])) h'' s.heap.objs.size (.tup [.int (i : Nat), x]) :=
      ⟨by show 2 ≤ sizeLine; decide, [.int i tk, x'], .cons ⟨_, rfl⟩ (.cons ru .nil), ⟨_, hT2, rfl, _, rfl⟩⟩
    have I1 : Inv X pins σ (upd H s.heap.objs.size (.tup [.int (i : Nat), x])) { s with heap := h'', toks := tk + 1 } :=
      I.turnedNew (ch := [e, it]) (fun b ob hb q => (sb.2 b (fun z => hb (by simp [z]))).trans (hk b ob (fun z => hb (by simp [z])) (fun z => hb (by simp [z])) q)) hf (Nat.le_refl _) new
    refine ⟨.ref s.heap.objs.size, _, I1, rfl, ⟨_, x, rfl, I.hok.fresh (Nat.le_refl _), rfl, fun ys hy => ?_⟩, ⟨⟨x', ?_⟩, hst.1.at fun o q => (sb.2 it (Ne.symm hne)).trans q, hne⟩, fun b hb => ?_⟩
    · rw [I.tuple_inj hy hq]; exact hx
    · have e1 : ((i + 1 : Nat) : Int) = (i : Int) + 1 := by omega
      rw [e1]; exact he'
    · have hb' : b < s.heap.objs.size := by
        have e' : b = e ∨ b = it := by simpa using hb
        rcases e' with z | z
        · rw [z]; exact hel
        · rw [z]; exact hil
      rw [upd_ne (Nat.ne_of_lt hb')]
      exact (hf b hb).1
  done := by
    intro X hP hw hK hc i pins s σ H E I hf st hg
    subst hP hw hK
    obtain ⟨⟨old, he⟩, hit, hne⟩ := st
    obtain ⟨xs, hq, hx⟩ := hg
    obtain ⟨its, rv, p, hz⟩ := I.tuple hq
    obtain ⟨f0, f1, f2, f3, f4, f5⟩ := hf it (by simp)
    have hl := rv.length
    exact pyNext_enumT_end (I.ok.hd hc) he hit p (by simp; omega) fun h' eb => ⟨rfl, I.turned (t' := s.toks) (fun b o hb q => eb b o hb q) f0 f1 f3 f4 f5⟩
  self := fun A i s Q E st h => let ⟨⟨_, he⟩, _⟩ := st; wpAny_pyIter_enum he h
def iEnumT (K : PySem.W.Frag) (ta : TA) : TI := fun σ H R => ta σ H fun vs H1 => ∃ a xs, vs = [.ref a] ∧ SqT K H1 a xs ∧ R (IteT K a) H1
theorem pi_enumT {X : Cx} {e : Expr} {ta : TA} {p pos tpos : Pos} {elts : List Expr} {kk : Nat} (hg : Gl X "enumerate") (hm : X.mg "enumerate" = none) (ha : PA X [e] ta) (hs : starEach [e] X.env = [(false, eval e X.env)] := by rfl) :
    PI X (.Tuple elts kk tpos) (.Call (.Name "enumerate" p) [e] [] pos) (iEnumT X.K ta) := by
  refine ⟨fun pins s σ H R I h => ?_⟩
  refine Call_ (ld_blt I hg hm boot_enumerate (PyProof.Rows.callWith_type1 (thn (ha.run pos pins s σ H _ I h) fun us s1 ⟨vs, H1, I1, r1, q1⟩ => ?_) hs rfl))
  obtain ⟨a, xs, ex, hq, q⟩ := q1
  subst ex
  cases r1 with
  | cons r rr =>
    cases rr
    cases r
    obtain ⟨its, rv, p', hz⟩ := I1.tuple hq
    have hal : a < s1.heap.objs.size := by obtain ⟨_, q, _⟩ := p'; exact Heap.lt_size q
    refine call_enumerate_tup p' fun h' he hit hsz hk => wpAny_pyIter_enum he ?_
    have I2 : Inv X pins σ H1 { s1 with heap := h' } := I1.kept (t' := s1.toks) hk
    refine ⟨s1.heap.objs.size + 1, [s1.heap.objs.size + 1, s1.heap.objs.size], _, _, H1, rfl, I2, turn_enumT a (s1.heap.objs.size + 1) s1.heap.objs.size (Nat.ne_of_lt hal) (Nat.ne_of_gt (Nat.lt_succ_of_lt hal)), ⟨⟨.none, he⟩, hit, Nat.succ_ne_self _⟩, fun b hb => ?_, q⟩
    have e' : b = s1.heap.objs.size + 1 ∨ b = s1.heap.objs.size := by simpa using hb
    have hle : s1.heap.objs.size ≤ b := by
      rcases e' with z | z
      · rw [z]; exact Nat.le_add_right _ _
      · rw [z]; exact Nat.le_refl _
    exact I1.fpOk hle (I1.hok.fresh hle)
theorem for_enumT {K : PySem.W.Frag} {a : Addr} {xs : List V} {g : TG} {tb : TS} {D : Ends} {σ : St} {H : Hp} (Pv : Nat → St → Hp → Prop) (h0 : Pv 0 σ H) (hl : ∀ i σ H, i ≤ xs.length → Pv i σ H → SqT K H a xs)
    (hs : ∀ i x T σ H, xs[i]? = some x → Pv i σ H → H T = none → g (.ref T) σ (upd H T (.tup [.int (i : Nat), x])) fun σ2 H2 => tb { D with nx := Pv (i + 1), ct := Pv (i + 1), bk := D.nx } σ2 H2) (hd : ∀ σ H, Pv xs.length σ H → D.nx σ H) :
    ∃ W : Nat → Nat → St → Hp → Prop, (∃ m, W 0 m σ H) ∧ ∀ i m σ H, W i m σ H →
      ((IteT K a).stop i H ∧ D.nx σ H) ∨ ((IteT K a).go i H ∧ ∃ N : St → Hp → Prop, (∀ σ' H', N σ' H' → ∃ m', m' < m ∧ W (i + 1) m' σ' H') ∧ ∀ x H', (IteT K a).yld i H x H' → g x σ H' fun σ2 H2 => tb { D with nx := N, ct := N, bk := D.nx } σ2 H2) := by
  refine ⟨fun i m σ H => m = xs.length - i ∧ i ≤ xs.length ∧ Pv i σ H, ⟨xs.length, rfl, Nat.zero_le _, h0⟩, ?_⟩
  rintro i m σ H ⟨rfl, hi, pv⟩
  have hq := hl i σ H hi pv
  by_cases hlt : i < xs.length
  · refine .inr ⟨⟨xs, xs[i], hq, by simp [hlt]⟩, Pv (i + 1), fun σ' H' p' => ⟨xs.length - (i + 1), by omega, rfl, hlt, p'⟩, fun x H' y => ?_⟩
    obtain ⟨T, z, rfl, hT, rfl, hz⟩ := y
    exact hs i z T σ H (hz xs hq) pv hT
  · refine .inl ⟨⟨xs, hq, by omega⟩, hd σ H ?_⟩
    have e : i = xs.length := by omega
    rw [← e]
    exact pv
end L2
set_option Elab.async false
set_option linter.all false
set_option maxRecDepth 100000
set_option maxHeartbeats 4000000
namespace R4
open PySem L2 PySem.GW LamX
section
variable {w : World} {K : PySem.W.Frag} {mg : Str → Option Value} {base : Heap}
theorem pi_or {X : Cx} {tg it : Expr} {w1 w2 : TI} (h1 : PI X tg it w1) (h2 : PI X tg it w2) : PI X tg it (fun σ H R => w1 σ H R ∨ w2 σ H R) :=
  ⟨fun pins s σ H R I h => h.elim (h1.run pins s σ H R I) (h2.run pins s σ H R I)⟩
theorem Same.seqT {K : PySem.W.Frag} {H H' : Hp} {a : Addr} {xs : List V} (e : Same H H') (h : SqT K H a xs) : SqT K H' a xs := by
  rcases h with (h | ⟨o, h⟩) | h
  · exact .inl (.inl (e _ _ h))
  · exact .inl (.inr ⟨o, e _ _ h⟩)
  · exact .inr h
theorem same_upd {H : Hp} {p : Addr} {o : HO} (h : H p = none) : Same H (upd H p o) := fun b u e => by rw [upd_ne (ne_of_none e h)]; exact e
theorem ty_tup {K : PySem.W.Frag} {H : Hp} {a : Addr} {xs : List V} (h : SqT K H a xs) : TyX K H (.ref a) (.type "tuple") := by
  rcases h with (h | ⟨o, h⟩) | ⟨o, its, n, h1, h2, h3, h4, h5⟩
  · exact .base (.tup h)
  · exact .fTuple h
  · exact .kTuple h1 h2
theorem ty_lst {K : PySem.W.Frag} {H : Hp} {a : Addr} {xs : List V} (h : SqL K H a xs) : TyX K H (.ref a) (.type "list") := by
  rcases h with (h | ⟨o, h⟩) | ⟨o, its, n, h1, h2, h3, h4, h5⟩
  · exact .base (.lst h)
  · exact .base (.frz h)
  · exact .kList h1 h2
theorem TyX.same {K : PySem.W.Frag} {H H' : Hp} {v : V} {t : Value} (e : Same H H') (h : TyX K H v t) : TyX K H' v t := by
  cases h with
  | base b =>
    cases b with
    | non => exact .base .non
    | bl x => exact .base (.bl x)
    | int i => exact .base (.int i)
    | str x => exact .base (.str x)
    | flt x => exact .base (.flt x)
    | lst q => exact .base (.lst (e _ _ q))
    | frz q => exact .base (.frz (e _ _ q))
    | tup q => exact .base (.tup (e _ _ q))
    | dK q => exact .base (.dK (e _ _ q))
    | dT q => exact .base (.dT (e _ _ q))
    | ins q cl ha hn htk hm => exact .base (.ins (e _ _ q) cl ha hn htk hm)
  | byt b => exact .byt b
  | set q => exact .set (e _ _ q)
  | kList q c => exact .kList q c
  | kTuple q c => exact .kTuple q c
  | kDict q c => exact .kDict q c
  | fTuple q => exact .fTuple (e _ _ q)
  | fDict q => exact .fDict (e _ _ q)
/-- a list or a tuple of xs -/
def Sq (K : PySem.W.Frag) (H : Hp) (a : Addr) (xs : List V) : Prop := SqL K H a xs ∨ SqT K H a xs
theorem Same.sq {K : PySem.W.Frag} {H H' : Hp} {a : Addr} {xs : List V} (e : Same H H') (h : Sq K H a xs) : Sq K H' a xs := h.elim (fun h => .inl (e.seq h)) fun h => .inr (Same.seqT e h)
theorem Sq.ty {K : PySem.W.Frag} {H : Hp} {a : Addr} {xs : List V} (h : Sq K H a xs) : ∃ n, TyX K H (.ref a) (.type n) ∧ PySem.W.kitAny K (.type n) [.type "list", .type "tuple"] = some true := by
  rcases h with h | h
  · exact ⟨_, ty_lst h, kitAny_cons (b := true) (kit_ty (by decide +kernel)) (fun e => nomatch e) fun _ => rfl⟩
  · exact ⟨_, ty_tup h, kitAny_cons (b := false) (kit_ty (by decide +kernel)) (fun _ => kitAny_cons (b := true) (kit_ty (by decide +kernel)) (fun e => nomatch e) fun _ => rfl) fun e => nomatch e⟩
theorem ifT {c : Bool} {A B : Prop} (hc : c = true) (h : A) : if c = true then A else B := by rw [if_pos hc]; exact h
theorem ifF {c : Bool} {A B : Prop} (hc : c = false) (h : B) : if c = true then A else B := by rw [hc]; exact iteF h
theorem nd {p : Prop} [Decidable p] (h : p) : (!decide p) = false := by rw [decide_eq_true h]; rfl
theorem nn {p : Prop} [Decidable p] (h : ¬ p) : (!decide p) = true := by rw [decide_eq_false h]; rfl
theorem all_rep (n : Nat) : (List.replicate n true).all id = true := by
  induction n with
  | zero => rfl
  | succ n ih => rw [List.replicate_succ, List.all_cons, ih]; rfl
theorem map_at {ns : List Int} {i : Nat} {x : V} (h : (ns.map V.int)[i]? = some x) : ∃ z, ns[i]? = some z ∧ x = .int z := by
  rw [List.getElem?_map] at h
  obtain ⟨z, hz, e⟩ := Option.map_eq_some_iff.mp h
  exact ⟨z, hz, e.symm⟩
theorem paired_at {α β : Type} {R : α → β → Prop} : ∀ {xs : List α} {ys : List β} {i : Nat} {x : α}, Paired R xs ys → xs[i]? = some x → ∃ y, ys[i]? = some y ∧ R x y
  | _, _, _, _, .nil, e => by simp at e
  | _, _, 0, _, .cons r _, e => by simp at e; subst e; exact ⟨_, rfl, r⟩
  | _, _, i + 1, x, .cons _ t, e => by
    obtain ⟨u, h1, h2⟩ := paired_at (i := i) (x := x) t (by simpa using e)
    exact ⟨u, by simpa using h1, h2⟩
theorem for_enum {K : PySem.W.Frag} {a : Addr} {xs : List V} {g : TG} {tb : TS} {D : Ends} {σ : St} {H : Hp} (Pv : Nat → St → Hp → Prop) (h0 : Pv 0 σ H) (hl : ∀ i σ H, i ≤ xs.length → Pv i σ H → SqL K H a xs)
    (hs : ∀ i x T σ H, xs[i]? = some x → Pv i σ H → H T = none → g (.ref T) σ (upd H T (.tup [.int (i : Nat), x])) fun σ2 H2 => tb { D with nx := Pv (i + 1), ct := Pv (i + 1), bk := D.nx } σ2 H2) (hd : ∀ σ H, Pv xs.length σ H → D.nx σ H) :
    ∃ W : Nat → Nat → St → Hp → Prop, (∃ m, W 0 m σ H) ∧ ∀ i m σ H, W i m σ H →
      ((Ite K a).stop i H ∧ D.nx σ H) ∨ ((Ite K a).go i H ∧ ∃ N : St → Hp → Prop, (∀ σ' H', N σ' H' → ∃ m', m' < m ∧ W (i + 1) m' σ' H') ∧ ∀ x H', (Ite K a).yld i H x H' → g x σ H' fun σ2 H2 => tb { D with nx := N, ct := N, bk := D.nx } σ2 H2) := by
  refine ⟨fun i m σ H => m = xs.length - i ∧ i ≤ xs.length ∧ Pv i σ H, ⟨xs.length, rfl, Nat.zero_le _, h0⟩, ?_⟩
  rintro i m σ H ⟨rfl, hi, pv⟩
  have hq := hl i σ H hi pv
  by_cases hlt : i < xs.length
  · refine .inr ⟨⟨xs, xs[i], hq, by simp [hlt]⟩, Pv (i + 1), fun σ' H' p' => ⟨xs.length - (i + 1), by omega, rfl, hlt, p'⟩, fun x H' y => ?_⟩
    obtain ⟨T, z, rfl, hT, rfl, hz⟩ := y
    exact hs i z T σ H (hz xs hq) pv hT
  · refine .inl ⟨⟨xs, hq, by omega⟩, hd σ H ?_⟩
    have e : i = xs.length := by omega
    rw [← e]
    exact pv
/-! ### values of any kind -/
def tyD : PyData → String
  | .none => "NoneType"
  | .bool _ => "bool"
  | .int _ => "int"
  | .str _ => "str"
  | .list _ => "list"
  | .tuple _ => "tuple"
  | .dict _ => "dict"
def seqD : PyData → Option (List PyData)
  | .list ds => some ds
  | .tuple ds => some ds
  | _ => none
theorem dp_ty {H : Hp} {v : V} {d : PyData} (h : Dp K H v d) : TyX K H v (.type (tyD d)) := by
  cases h with
  | non => exact .base .non
  | bl b => exact .base (.bl b)
  | int i => exact .base (.int i)
  | str x => exact .base (.str x)
  | lst h _ => exact ty_lst h
  | tup h _ => exact ty_tup h
mutual
theorem Dp.same {H H' : Hp} (e : Same H H') : ∀ {d : PyData} {v : V}, Dp K H v d → Dp K H' v d
  | _, _, .non => .non
  | _, _, .bl b => .bl b
  | _, _, .int i => .int i
  | _, _, .str x => .str x
  | _, _, .lst h hs => .lst (e.seq h) (DpAll.same e hs)
  | _, _, .tup h hs => .tup (Same.seqT e h) (DpAll.same e hs)
theorem DpAll.same {H H' : Hp} (e : Same H H') : ∀ {ds : List PyData} {vs : List V}, DpAll K H vs ds → DpAll K H' vs ds
  | _, _, .nil => .nil
  | _, _, .cons h hs => .cons (Dp.same e h) (DpAll.same e hs)
end
theorem DpAll.length {H : Hp} : ∀ {ds : List PyData} {vs : List V}, DpAll K H vs ds → vs.length = ds.length
  | _, _, .nil => rfl
  | _, _, .cons _ hs => by rw [List.length_cons, List.length_cons, DpAll.length hs]
theorem DpAll.at {H : Hp} : ∀ {ds : List PyData} {vs : List V} {i : Nat} {v : V}, DpAll K H vs ds → vs[i]? = some v → ∃ d, ds[i]? = some d ∧ Dp K H v d
  | _, _, _, _, .nil, h => by simp at h
  | _, _, 0, _, .cons h _, e => by
    simp at e
    subst e
    exact ⟨_, rfl, h⟩
  | _, _, i + 1, _, .cons _ hs, e => DpAll.at (i := i) hs e
theorem dpInts {H : Hp} : ∀ ns : List Int, DpAll K H (ns.map V.int) (ns.map PyData.int)
  | [] => .nil
  | n :: ns => .cons (.int n) (dpInts ns)
theorem dpStrs {H : Hp} : ∀ ns : List Str, DpAll K H (ns.map V.str) (ns.map PyData.str)
  | [] => .nil
  | n :: ns => .cons (.str n) (dpStrs ns)
theorem take_at {α : Type} {xs : List α} {i : Nat} {x : α} (h : xs[i]? = some x) : xs.take (i + 1) = xs.take i ++ [x] := by rw [List.take_add_one, h]; rfl
theorem drop_at {α : Type} {xs : List α} {i : Nat} {x : α} (h : xs[i]? = some x) : xs.drop i = x :: xs.drop (i + 1) := by
  obtain ⟨hl, rfl⟩ := List.getElem?_eq_some_iff.mp h
  exact List.drop_eq_getElem_cons hl
theorem Paired.append {α β : Type} {R : α → β → Prop} : ∀ {xs : List α} {ys : List β} {x : α} {y : β}, Paired R xs ys → R x y → Paired R (xs ++ [x]) (ys ++ [y])
  | _, _, _, _, .nil, h => .cons h .nil
  | _, _, _, _, .cons r t, h => .cons r (Paired.append t h)
theorem sqT_upd {K : PySem.W.Frag} {H : Hp} {a D : Addr} {xs us : List V} {o : HO} (hD : H D = some (.lst us)) (h : SqT K H a xs) : SqT K (upd H D o) a xs := by
  rcases h with (h | ⟨o2, h⟩) | h
  · exact .inl (.inl (by rw [upd_ne (by rintro rfl; rw [hD] at h; cases h)]; exact h))
  · exact .inl (.inr ⟨o2, by rw [upd_ne (by rintro rfl; rw [hD] at h; cases h)]; exact h⟩)
  · exact .inr h
theorem same_at {H H2 : Hp} {D : Addr} {o : HO} (hD : H D = none) (s : Same H H2) : Same H (upd H2 D o) := fun b u e => by rw [upd_ne (ne_of_none e hD)]; exact s b u e
theorem slA_drop {K : PySem.W.Frag} {H : Hp} {a : Addr} {xs : List V} {k : Nat} {Q : VK} (h : SqT K H a xs) (q : ∀ p H', Same H H' → SqT K H' p (xs.drop k) → Q (.ref p) H') : rSlA K (.ref a) (some (k : Int)) none H Q := by
  refine ⟨a, xs, rfl, h, fun hw => q a H (Same.refl _) ?_, fun _ p hp => q p _ (same_upd hp) (SqT.of ?_)⟩
  · have h1 := hw.1
    rw [HT.sIx_nat] at h1
    have e : xs.drop k = xs := by
      rcases Nat.min_eq_zero_iff.mp h1 with e | e
      · rw [e]; rfl
      · rw [List.eq_nil_of_length_eq_zero e]; simp
    rw [e]; exact h
  · rw [upd_same]
    unfold cutV
    rw [HT.sIx_nat, HT.sIx_none]
    congr 2
    by_cases hk : k ≤ xs.length
    · rw [Nat.min_eq_left hk, List.take_of_length_le (by rw [List.length_drop]; exact Nat.le_refl _)]
    · rw [Nat.min_eq_right (by omega), List.drop_length, List.drop_eq_nil_of_le (by omega)]; simp
theorem slA_take {K : PySem.W.Frag} {H : Hp} {a : Addr} {xs : List V} {k : Nat} {Q : VK} (h : SqT K H a xs) (q : ∀ p H', Same H H' → SqT K H' p (xs.take k) → Q (.ref p) H') : rSlA K (.ref a) none (some (k : Int)) H Q := by
  refine ⟨a, xs, rfl, h, fun hw => q a H (Same.refl _) ?_, fun _ p hp => q p _ (same_upd hp) (SqT.of ?_)⟩
  · have h1 := hw.2
    rw [HT.sIx_nat] at h1
    rw [List.take_of_length_le (by omega)]; exact h
  · rw [upd_same]
    unfold cutV
    rw [HT.sIx_nat, HT.sIx_none, List.drop_zero, Nat.sub_zero]
    congr 2
    by_cases hk : k ≤ xs.length
    · rw [Nat.min_eq_left hk]
    · rw [Nat.min_eq_right (by omega), List.take_length, List.take_of_length_le (by omega)]
theorem catA {K : PySem.W.Frag} {H : Hp} {a b : Addr} {xs ys : List V} {Q : VK} (h1 : SqT K H a xs) (h2 : SqT K H b ys) (hl : xs.length + ys.length ≤ sizeLine) (q : ∀ p H', Same H H' → SqT K H' p (xs ++ ys) → Q (.ref p) H') : rCatA K (.ref a) (.ref b) H Q := by
  refine ⟨a, b, xs, ys, rfl, rfl, h1, h2, hl, fun e => q b H (Same.refl _) (by rw [e]; exact h2), fun _ e => q a H (Same.refl _) (by rw [e, List.append_nil]; exact h1), fun _ _ p hp => q p _ (same_upd hp) (SqT.of upd_same)⟩
theorem min_cast (a b : Nat) : (if (b : Int) < (a : Int) then (b : Int) else (a : Int)) = ((min a b : Nat) : Int) := by
  by_cases h : b < a
  · rw [if_pos (by omega), Nat.min_eq_right (by omega)]
  · rw [if_neg (by omega), Nat.min_eq_left (by omega)]
theorem tcI {v : V} {σ : St} {H : Hp} {Q : VK} (h : Q v H) : tC v σ H Q := h
theorem noPart {σ : St} {H : Hp} {Q : Option Int → Hp → Prop} (h : Q none H) : tNoPart σ H Q := h
theorem i0 {f : Int → Int → V} {i j : Int} {v : V} {H : Hp} {Q : VK} (e : f i j = v) (q : Q v H) : rI0 f (.int i) (.int j) H Q := ⟨i, j, rfl, rfl, by rw [e]; exact q⟩
theorem iC {c : Int → Int → Prop} {f : Int → Int → V} {i j : Int} {v : V} {H : Hp} {Q : VK} (h : c i j) (e : f i j = v) (q : Q v H) : rI c f (.int i) (.int j) H Q := ⟨i, j, rfl, rfl, h, by rw [e]; exact q⟩
theorem mod_nat (a b : Nat) : ((a : Int) % (b : Int)) = ((a % b : Nat) : Int) := by push_cast; rfl

theorem joinT {b : Bool} {t : TS} {D : Ends} {σ : St} {H : Hp} (P : Hp → Prop) (h1 : b = true → ∀ nx : St → Hp → Prop, (∀ H1, P H1 → nx σ H1) → t { D with nx := nx } σ H) (h2 : b = false → P H) (k : ∀ H1, P H1 → D.nx σ H1) : if b = true then t D σ H else tNext D σ H := by
  cases b with
  | true => exact h1 rfl D.nx k
  | false => exact k H (h2 rfl)
theorem sqT_updI {K : PySem.W.Frag} {H : Hp} {a D C dx : Addr} {fs : List (Str × V)} {xs : List V} {o : HO} (hD : H D = some (.ins C dx fs)) (h : SqT K H a xs) : SqT K (upd H D o) a xs := by
  rcases h with (h | ⟨o2, h⟩) | h
  · exact .inl (.inl (by rw [upd_ne (by rintro rfl; rw [hD] at h; cases h)]; exact h))
  · exact .inl (.inr ⟨o2, by rw [upd_ne (by rintro rfl; rw [hD] at h; cases h)]; exact h⟩)
  · exact .inr h
/-- all but x stays -/
def SameBut (x : Addr) (H H' : Hp) : Prop := ∀ b o, b ≠ x → H b = some o → H' b = some o
theorem div_nat (a b : Nat) : ((a : Int) / (b : Int)) = ((a / b : Nat) : Int) := by push_cast; rfl
theorem joinU {b : Bool} {t : TS} {D : Ends} {σ : St} {H : Hp} (P : St → Hp → Prop) (h1 : b = true → ∀ nx : St → Hp → Prop, (∀ σ H1, P σ H1 → nx σ H1) → t { D with nx := nx } σ H) (h2 : b = false → P σ H) (k : ∀ σ H1, P σ H1 → D.nx σ H1) : if b = true then t D σ H else tNext D σ H := by
  cases b with
  | true => exact h1 rfl D.nx k
  | false => exact k σ H (h2 rfl)

theorem sqT_at {w : List Int} {i : Nat} (h : i < w.length) : (w.map V.int)[i]? = some (.int (w.getD i 0)) := by
  rw [List.getElem?_map, List.getElem?_eq_getElem h, List.getD_eq_getElem?_getD, List.getElem?_eq_getElem h]; rfl
theorem fresh_back {H H' : Hp} {p : Addr} (e : Same H H') (h : H' p = none) : H p = none := by
  cases hh : H p with
  | none => rfl
  | some o => rw [e _ _ hh] at h; cases h

theorem paired_cons {α β : Type} {R : α → β → Prop} {xs : List α} {ys : List β} (h : Paired R xs ys) (hx : xs ≠ []) : ∃ x xs' y ys', xs = x :: xs' ∧ ys = y :: ys' ∧ R x y ∧ Paired R xs' ys' := by
  cases h with
  | nil => exact absurd rfl hx
  | cons r t => exact ⟨_, _, _, _, rfl, rfl, r, t⟩
/-- a method asked of a Row: the parts of the rule -/
theorem nilI {σ : St} {H : Hp} {Q : List V → Hp → Prop} (h : Q [] H) : tNil σ H Q := h
theorem Paired.app {α β : Type} {R : α → β → Prop} : ∀ {xs : List α} {ys : List β} {xs' : List α} {ys' : List β}, Paired R xs ys → Paired R xs' ys' → Paired R (xs ++ xs') (ys ++ ys')
  | _, _, _, _, .nil, h => h
  | _, _, _, _, .cons r t, h => .cons r (Paired.app t h)
theorem _root_.L2.FunD.okN {P : Program} {x qual : Str} {params : Arguments} {body : List Stmt} {scope : Scope} {dvs : List V} {kws : List (Str × V)} {f : Addr} {fd : FuncData} {N ps : List Str} {k : Nat} {sp : Sp} (F : FunD K x qual params body scope dvs kws f fd) (S : FnScope N ps scope) (len : ∀ vs H Q E, sp vs H Q E → vs.length = ps.length)
    (hbody : ∀ (cdv : Value) (A : Around) (outer : List Env) (s : Shared) (H : Hp) (vs : List V) (Q : VK) (E : XK), Room k (A.deeper (PyProof.Rows.envOfC qual scope s.heap.objs.size f cdv)) → sp vs H Q E →
      ∃ t, PSs (cxOf CX0 P w K mg base N qual scope f cdv A outer s H E).nox body t ∧ t { nx := fun _ H' => Q .non H', rt := Q } (start N vs) H) : FnOk P w K mg base CX0 (k + 1) f fd ps sp :=
  F.ok S len fun cdv A outer s H vs Q E hr hsp => by
    obtain ⟨t, h, q⟩ := hbody cdv A outer s H vs Q E hr hsp
    exact ⟨t, h.nox, q⟩
theorem set_dict {X : Cx} (hu : X.A.units + 1 < cLine) : PSet X (fun o i v H Q => ∃ a H', o = .ref a ∧ DPut H a i v H' ∧ Q H') := by
  intro pins s σ H o i v ov iv u Q I ro ri rv h
  obtain ⟨a, H', rfl, g, q⟩ := h
  obtain rfl : ov = Value.ref a := ro
  exact d_setItem hu I g ri rv fun s' I' => ⟨H', I', q⟩
theorem cut63 (ns : List Int) (h : ns.length ≤ 63) : cutV (ns.map V.int) none (some 63) = ns.map V.int := by
  unfold cutV
  rw [List.length_map, HT.sIx_none, show (some (63 : Int)) = some ((63 : Nat) : Int) from rfl, HT.sIx_nat, List.drop_zero, List.take_of_length_le (by rw [List.length_map]; omega)]
def Lim (m : Int) : Prop := 0 < m ∧ m.natAbs < 2 ^ 8000
theorem Lim.div {i m : Int} (h : Lim m) : CDivW i m := ⟨h.1, by
  have h1 : m.natAbs ≠ 0 := by have := h.1; omega
  have h2 := (Nat.log2_lt h1).mpr h.2
  omega⟩
theorem foldl_size (a : Array Nat) : ∀ (m : Nat) (acc : Array Nat), ((List.replicate m a).foldl (· ++ ·) acc).size = acc.size + m * a.size
  | 0, acc => by simp
  | m + 1, acc => by
    rw [List.replicate_succ, List.foldl_cons, foldl_size a m, Array.size_append, Nat.succ_mul]
    omega
/-- a text written n times -/
def strRep (x : Str) (n : Int) : Str := if n < 1 then Str.empty else if (n == 1 || x.length == 0) = true then x else ⟨(List.replicate n.toNat x.cps).foldl (· ++ ·) #[]⟩
theorem op_mul_str {X : Cx} : OpR X (binaryOp .Mult) (fun x y H Q => ∃ a n, x = .str a ∧ y = .int n ∧ 0 ≤ n ∧ n ≤ 1000 ∧ a.length ≤ 1000 ∧ Q (.str (strRep a n)) H) := by
  intro pins s σ H x y v u Q I rx ry h
  obtain ⟨a, n, rfl, rfl, h0, h1, hz, q⟩ := h
  obtain ⟨t, rfl⟩ := rx
  obtain ⟨t', rfl⟩ := ry
  have hsz : a.length * n.toNat ≤ 1000000 := Nat.mul_le_mul hz (show n.toNat ≤ 1000 by omega)
  refine PySem.P.mul_str (by rw [decide_eq_false (by omega), decide_eq_false (by omega)]; rfl) (fun h2 h3 => ?_) (fun h2 h3 => ?_) ?_
  · have h4 : (1001 : Int) ≤ (2 ^ 63 - 1) / n := by
      rw [Int.le_ediv_iff_mul_le (by omega)]
      omega
    omega
  · unfold Builtin.Str.tooLong
    rw [decide_eq_false]
    rw [sizeLine_eq]
    omega
  · unfold strRep at q
    by_cases c1 : n < 1
    · rw [if_pos c1] at q ⊢
      exact ⟨by decide, .str Str.empty, H, I.tok _, ⟨_, rfl⟩, q⟩
    · rw [if_neg c1] at q ⊢
      by_cases c2 : (n == 1 || a.length == 0) = true
      · rw [if_pos c2] at q ⊢
        exact ⟨.str a, H, I, ⟨_, rfl⟩, q⟩
      · rw [if_neg c2] at q ⊢
        refine ⟨?_, .str _, H, I.tok _, ⟨_, rfl⟩, q⟩
        show ((List.replicate n.toNat a.cps).foldl (· ++ ·) #[]).size ≤ sizeLine
        rw [foldl_size, sizeLine_eq]
        have e : n.toNat * a.cps.size ≤ 1000000 := by rw [Nat.mul_comm]; exact hsz
        simp only [Array.size_empty]
        omega
theorem lim_top : Lim (10 ^ 310) := ⟨by decide +kernel, by decide +kernel⟩
theorem lim_le {m k : Int} (h : Lim k) (h0 : 0 < m) (h1 : m ≤ k) : Lim m := ⟨h0, Nat.lt_of_le_of_lt (show m.natAbs ≤ k.natAbs by omega) h.2⟩
theorem lim_small {m : Int} (h0 : 0 < m) (h1 : m ≤ 1000000) : Lim m := lim_le lim_top h0 (Int.le_trans h1 (by decide +kernel))
theorem SameBut.sqL {H H' : Hp} {p l : Addr} {xs : List V} {k : List (Key × V)} (s : SameBut p H H') (hp : H p = some (.dK k)) (h : SqL K H l xs) : SqL K H' l xs := by
  rcases h with (h | ⟨o, h⟩) | h
  · exact .inl (.inl (s _ _ (by rintro rfl; rw [hp] at h; cases h) h))
  · exact .inl (.inr ⟨o, s _ _ (by rintro rfl; rw [hp] at h; cases h) h⟩)
  · exact .inr h
theorem SameBut.sqT {H H' : Hp} {p l : Addr} {xs : List V} {k : List (Key × V)} (s : SameBut p H H') (hp : H p = some (.dK k)) (h : SqT K H l xs) : SqT K H' l xs := by
  rcases h with (h | ⟨o, h⟩) | h
  · exact .inl (.inl (s _ _ (by rintro rfl; rw [hp] at h; cases h) h))
  · exact .inl (.inr ⟨o, s _ _ (by rintro rfl; rw [hp] at h; cases h) h⟩)
  · exact .inr h
theorem SameBut.trans {H1 H2 H3 : Hp} {p : Addr} (a : SameBut p H1 H2) (b : SameBut p H2 H3) : SameBut p H1 H3 := fun q o h e => b q o h (a q o h e)
theorem Same.but {H H' : Hp} (p : Addr) (s : Same H H') : SameBut p H H' := fun b o _ e => s b o e
theorem but_fresh {H H' : Hp} {p D : Addr} {k : List (Key × V)} (s : SameBut p H H') (hp : H' p = some (.dK k)) (h : H' D = none) : H D = none := by
  cases hh : H D with
  | none => rfl
  | some o =>
    by_cases e : D = p
    · rw [e, hp] at h; cases h
    · rw [s _ _ e hh] at h; cases h
theorem but_at {H H2 : Hp} {p D : Addr} {o : HO} (hD : H D = none) (s : SameBut p H H2) : SameBut p H (upd H2 D o) := fun b u n e => by rw [upd_ne (ne_of_none e hD)]; exact s b u n e
/-- all but the tables and what stands at p stay -/
def ExtB (p : Addr) (H H' : Hp) : Prop := ∀ b o, b ≠ p → H b = some o → (∀ ps, o ≠ .tbl ps) → H' b = some o
theorem ExtB.trans {H H1 H2 : Hp} {p : Addr} (a : ExtB p H H1) (b : ExtB p H1 H2) : ExtB p H H2 := fun c o n h t => b c o n (a c o n h t) t
theorem ExtB.but {H H1 : Hp} {p : Addr} (a : SameBut p H H1) : ExtB p H H1 := fun c o n h _ => a c o n h
theorem ExtB.same {H H1 : Hp} (p : Addr) (a : Same H H1) : ExtB p H H1 := fun c o _ h _ => a c o h
theorem ExtB.ext {H H1 : Hp} (p : Addr) (a : ExtN H H1) : ExtB p H H1 := fun c o _ h t => a c o h t
section
variable {H H' : Hp} {p : Addr}
theorem ExtB.sqL {l : Addr} {xs : List V} {k : List (Key × V)} (s : ExtB p H H') (hp : H p = some (.dK k)) (h : SqL K H l xs) : SqL K H' l xs := by
  rcases h with (h | ⟨o, h⟩) | h
  · exact .inl (.inl (s _ _ (fun e => by rw [e, hp] at h; cases h) h (fun ps z => by cases z)))
  · exact .inl (.inr ⟨o, s _ _ (fun e => by rw [e, hp] at h; cases h) h (fun ps z => by cases z)⟩)
  · exact .inr h
end
section
variable {H H' : Hp} {p : Addr}
theorem ExtB.sqT {l : Addr} {xs : List V} {k : List (Key × V)} (s : ExtB p H H') (hp : H p = some (.dK k)) (h : SqT K H l xs) : SqT K H' l xs := by
  rcases h with (h | ⟨o, h⟩) | h
  · exact .inl (.inl (s _ _ (fun e => by rw [e, hp] at h; cases h) h (fun ps z => by cases z)))
  · exact .inl (.inr ⟨o, s _ _ (fun e => by rw [e, hp] at h; cases h) h (fun ps z => by cases z)⟩)
  · exact .inr h
end
section
variable {H H' : Hp} {p : Addr}
theorem Tabs.but {T : List (Addr × Str)} {k : List (Key × V)} (t : Tabs T H) (s : SameBut p H H') (hp : H p = some (.dK k)) : Tabs T H' := fun q hq => by
  obtain ⟨ps, h1, h2, h3⟩ := t q hq
  refine ⟨ps, s _ _ (fun e => by rw [e, hp] at h1; cases h1) h1, h2, fun pos cv hc => ?_⟩
  obtain ⟨c, e1, e2⟩ := h3 pos cv hc
  exact ⟨c, e1, s _ _ (fun e => by rw [e, hp] at e2; unfold CodeO at e2; cases e2) e2⟩
end
theorem noAt {P : Program} {K : PySem.W.Frag} {mg : Str → Option Value} {C fI : Addr} {params : Arguments} {scope : Scope} {l : List Fl} (I : ErrI P K mg C fI params scope l) (k : Nat) {f : Str} (h : (l.map (fun p => p.f))[k]? = some f) : PySem.W.findIn K (.ref C) f = some none := by
  rw [List.getElem?_map] at h
  cases e : l[k]? with
  | none => rw [e] at h; cases h
  | some p =>
    rw [e] at h
    cases h
    exact I.no p (List.mem_of_getElem? e)
theorem ErrG.xf {K : PySem.W.Frag} {C : Addr} (h : ErrG K C) : XfC K C := by
  obtain ⟨h1, h2, h3, h4⟩ := h
  exact ⟨h1, h2, h3, h4⟩

theorem canInts : ∀ ns : List Int, PyData.canLayAll0 (ns.map PyData.int) = true
  | [] => rfl
  | n :: ns => by
    show (PyData.canLay0 (.int n) && PyData.canLayAll0 (ns.map PyData.int)) = true
    rw [canInts ns]
    rfl

theorem depInts : ∀ ns : List Int, PyData.depthAll (ns.map PyData.int) = 0
  | [] => rfl
  | n :: ns => by
    show max (PyData.depth (.int n)) (PyData.depthAll (ns.map PyData.int)) = 0
    rw [depInts ns]
    rfl

theorem shTup (ns : List Int) : SeqAt.shaped (.tuple (ns.map PyData.int)) = true := by
  have e1 : PyData.canLay0 (.tuple (ns.map PyData.int)) = true := canInts ns
  have e2 : PyData.depth (.tuple (ns.map PyData.int)) = 1 := by
    show PyData.depthAll (ns.map PyData.int) + 1 = 1
    rw [depInts ns]
  unfold SeqAt.shaped
  rw [e1, e2]
  rfl

theorem shLst (ns : List Int) : SeqAt.shaped (.list (ns.map PyData.int)) = true := by
  have e1 : PyData.canLay0 (.list (ns.map PyData.int)) = true := canInts ns
  have e2 : PyData.depth (.list (ns.map PyData.int)) = 1 := by
    show PyData.depthAll (ns.map PyData.int) + 1 = 1
    rw [depInts ns]
  unfold SeqAt.shaped
  rw [e1, e2]
  rfl

theorem ne_same {H : Hp} {x y : V} {d : PyData} {Q : VK} (h1 : Dp K H x d) (h2 : Dp K H y d) (sh : SeqAt.shaped d = true) (q : Q (.bl false) H) : rNeD K x y H Q := by
  refine ⟨d, d, h1, h2, sh, sh, ?_⟩
  rw [SeqAt.eqv_refl d (SeqAt.canLay_of_shaped sh)]
  exact q

theorem eq_same {H : Hp} {x y : V} {d : PyData} {Q : VK} (h1 : Dp K H x d) (h2 : Dp K H y d) (sh : SeqAt.shaped d = true) (q : Q (.bl true) H) : rEqD K x y H Q := by
  refine ⟨d, d, h1, h2, sh, sh, ?_⟩
  rw [SeqAt.eqv_refl d (SeqAt.canLay_of_shaped sh)]
  exact q
theorem if_no {c : L2.TT} {t : L2.TS} {D : Ends} {σ : St} {H : Hp} (P : Hp → Prop) (h : ∀ Q : Bool → Hp → Prop, (∀ H1, P H1 → Q false H1) → c σ H Q) (k : ∀ H1, P H1 → D.nx σ H1) : tIfS c t tNext D σ H := h _ fun H1 p => iteF (k H1 p)

theorem if_noS {c : L2.TT} {t u : L2.TS} {D : Ends} {σ : St} {H : Hp} (P : Hp → Prop) (h : ∀ Q : Bool → Hp → Prop, (∀ H1, P H1 → Q false H1) → c σ H Q) (k : ∀ H1, P H1 → u D σ H1) : tSeq (tIfS c t tNext) u D σ H := h _ fun H1 p => iteF (k H1 p)

theorem eqvInts : ∀ a b : List Int, PyData.eqvAll (a.map PyData.int) (b.map PyData.int) = decide (a = b)
  | [], [] => rfl
  | [], _ :: _ => by simp [PyData.eqvAll]
  | _ :: _, [] => by simp [PyData.eqvAll]
  | x :: a, y :: b => by
    show (PyData.eqv (.int x) (.int y) && PyData.eqvAll (a.map PyData.int) (b.map PyData.int)) = _
    rw [eqvInts a b]
    show ((x == y) && decide (a = b)) = _
    by_cases h1 : x = y <;> by_cases h2 : a = b <;> simp [h1, h2]
theorem eqT {H : Hp} {p q : Addr} {a b : List Int} {Q : VK} (h1 : SqT K H p (a.map V.int)) (h2 : SqT K H q (b.map V.int)) (k : Q (.bl (decide (a = b))) H) : rEqD K (.ref p) (.ref q) H Q := by
  refine ⟨_, _, .tup h1 (dpInts a), .tup h2 (dpInts b), shTup a, shTup b, ?_⟩
  show Q (.bl (PyData.eqvAll (a.map PyData.int) (b.map PyData.int))) H
  rw [eqvInts]
  exact k
theorem neT {H : Hp} {p q : Addr} {a b : List Int} {Q : VK} (h1 : SqT K H p (a.map V.int)) (h2 : SqT K H q (b.map V.int)) (k : Q (.bl (!decide (a = b))) H) : rNeD K (.ref p) (.ref q) H Q := by
  refine ⟨_, _, .tup h1 (dpInts a), .tup h2 (dpInts b), shTup a, shTup b, ?_⟩
  show Q (.bl (!PyData.eqvAll (a.map PyData.int) (b.map PyData.int))) H
  rw [eqvInts]
  exact k
theorem slA_mid {H : Hp} {a : Addr} {xs : List V} {lo hi : Nat} {Q : VK} (h : SqT K H a xs) (q : ∀ p H', Same H H' → SqT K H' p ((xs.drop lo).take (hi - lo)) → Q (.ref p) H') : rSlA K (.ref a) (some (lo : Int)) (some (hi : Int)) H Q := by
  refine ⟨a, xs, rfl, h, fun hw => q a H (Same.refl _) ?_, fun _ p hp => q p _ (same_upd hp) (SqT.of ?_)⟩
  · have h1 := hw.1
    have h2 := hw.2
    rw [HT.sIx_nat] at h1 h2
    by_cases e : xs.length = 0
    · have e2 := List.eq_nil_of_length_eq_zero e
      subst e2
      simpa using h
    · have e0 : lo = 0 := by omega
      subst e0
      rw [List.drop_zero, Nat.sub_zero, List.take_of_length_le (by omega)]
      exact h
  · rw [upd_same]
    unfold cutV
    rw [HT.sIx_nat, HT.sIx_nat]
    congr 2
    by_cases h1 : lo ≤ xs.length
    · rw [Nat.min_eq_left h1]
      by_cases h2 : hi ≤ xs.length
      · rw [Nat.min_eq_left h2]
      · rw [Nat.min_eq_right (by omega), List.take_of_length_le (by rw [List.length_drop]; omega), List.take_of_length_le (by rw [List.length_drop]; omega)]
    · rw [show min lo xs.length = xs.length by omega, List.drop_of_length_le (Nat.le_refl _), List.drop_of_length_le (by omega), List.take_nil, List.take_nil]
/-- one of two readings of an operator -/
def rOr (r1 r2 : R2) : R2 := fun x y H Q => r1 x y H Q ∨ r2 x y H Q
theorem op_or {X : Cx} {f : Value → Value → Sem Value} {r1 r2 : R2} (h1 : OpR X f r1) (h2 : OpR X f r2) : OpR X f (rOr r1 r2) := by
  intro pins s σ H x y v u Q I rx ry h
  rcases h with h | h
  · exact h1 pins s σ H x y v u Q I rx ry h
  · exact h2 pins s σ H x y v u Q I rx ry h
theorem joinE {b : Bool} {t1 t2 : TE} {σ : St} {H : Hp} {Q : VK} (P : V → Hp → Prop) (h1 : b = true → ∀ Q' : VK, (∀ v H1, P v H1 → Q' v H1) → t1 σ H Q') (h2 : b = false → ∀ Q' : VK, (∀ v H1, P v H1 → Q' v H1) → t2 σ H Q') (k : ∀ v H1, P v H1 → Q v H1) : if b = true then t1 σ H Q else t2 σ H Q := by
  cases b with
  | true => exact iteT (h1 rfl Q k)
  | false => exact iteF (h2 rfl Q k)
theorem andW {c : Bool} {u : L2.TT} {σ : St} {H : Hp} {A B : Hp → Prop} {P R : Hp → Prop} (h0 : c = false → P H) (h1 : c = true → ∀ Q : Bool → Hp → Prop, (∀ H1, P H1 → Q false H1) → (∀ H1, R H1 → Q true H1) → u σ H Q) (kF : ∀ H1, P H1 → B H1) (kT : ∀ H1, R H1 → A H1) :
    if c = true then u σ H (fun b H1 => if b = true then A H1 else B H1) else (if false = true then A H else B H) := by
  cases c with
  | true => exact iteT (h1 rfl _ (fun H1 p => iteF (kF H1 p)) fun H1 r => iteT (kT H1 r))
  | false => exact iteF (iteF (kF H (h0 rfl)))
theorem Room.u70 {k : Nat} {A : Around} (r : Room k A) : A.units + 70 < cLine := by have := r.un; omega
theorem tru {a : Bool} {Q : VK} {H : Hp} (q : Q (.bl true) H) : Q (.bl (decide (a = a))) H := by rw [decide_eq_true rfl]; exact q

theorem passE0 {X : Cx} : Passes (L2.CX X.prog X.w) X E0 := fun _ _ _ _ _ _ _ h => by
  obtain ⟨_, _, _, _, _, _, _, _, _, _, _, _, e⟩ := h
  exact e.elim
/-- an expression that makes data, and changes nothing -/
def GD (K : PySem.W.Frag) (te : TE) (d : PyData) : Prop := ∀ (σ : St) (H : Hp) (Q : VK), (∀ v H', Same H H' → Dp K H' v d → Q v H') → te σ H Q
def GDs (K : PySem.W.Frag) (ta : TA) (ds : List PyData) : Prop := ∀ (σ : St) (H : Hp) (Q : List V → Hp → Prop), (∀ vs H', Same H H' → DpAll K H' vs ds → Q vs H') → ta σ H Q
theorem gd_int {i : Int} : GD K (tC (.int i)) (.int i) := fun _ H _ q => q _ H (Same.refl _) (.int i)
theorem gd_bl {b : Bool} : GD K (tC (.bl b)) (.bool b) := fun _ H _ q => q _ H (Same.refl _) (.bl b)
theorem gd_non : GD K (tC .non) .none := fun _ H _ q => q _ H (Same.refl _) .non
theorem gd_str {x : Str} : GD K (tC (.str x)) (.str x) := fun _ H _ q => q _ H (Same.refl _) (.str x)
theorem gds_nil : GDs K tNil [] := fun _ H _ q => q _ H (Same.refl _) .nil
theorem gds_cons {te : TE} {ta : TA} {d : PyData} {ds : List PyData} (h1 : GD K te d) (h2 : GDs K ta ds) : GDs K (tCons te ta) (d :: ds) := fun σ H Q q =>
  h1 σ H _ fun v H1 s1 hd => h2 σ H1 _ fun vs H2 s2 hs => q _ _ (s1.trans s2) (.cons (Dp.same s2 hd) hs)
theorem gd_tup {ta : TA} {ds : List PyData} (h : GDs K ta ds) (hl : ds.length ≤ 1000 := by decide) : GD K (tTup ta) (.tuple ds) := fun σ H Q q =>
  h σ H _ fun vs H1 s1 hs => ⟨by rw [DpAll.length hs, sizeLine_eq]; omega, fun p hp => q _ _ (s1.trans (same_upd hp)) (.tup (SqT.of upd_same) (DpAll.same (same_upd hp) hs))⟩
theorem gd_lst {ta : TA} {ds : List PyData} (h : GDs K ta ds) (hl : ds.length ≤ 1000 := by decide) : GD K (tLst ta) (.list ds) := fun σ H Q q =>
  h σ H _ fun vs H1 s1 hs => ⟨by rw [DpAll.length hs, sizeLine_eq]; omega, fun p hp => q _ _ (s1.trans (same_upd hp)) (.lst (SqL.of upd_same) (DpAll.same (same_upd hp) hs))⟩
theorem gd_neg {i : Int} : GD K (tUn (rU fun i => .int (-i)) (tC (.int i))) (.int (-i)) := fun _ H _ q => ⟨i, rfl, q _ H (Same.refl _) (.int (-i))⟩
theorem dp1L {H : Hp} {vl : List V} {ds : List PyData} (h : DpAll K H vl [.list ds]) : ∃ La lx, vl = [.ref La] ∧ SqL K H La lx ∧ DpAll K H lx ds := by
  cases h with
  | cons h t =>
    cases t
    cases h with
    | lst g1 g2 => exact ⟨_, _, rfl, g1, g2⟩
theorem DpAll.app {H : Hp} : ∀ {ds es : List PyData} {xs ys : List V}, DpAll K H xs ds → DpAll K H ys es → DpAll K H (xs ++ ys) (ds ++ es)
  | _, _, _, _, .nil, h => h
  | _, _, _, _, .cons h t, g => .cons h (DpAll.app t g)
theorem DpAll.take {H : Hp} : ∀ {ds : List PyData} {xs : List V} (n : Nat), DpAll K H xs ds → DpAll K H (xs.take n) (ds.take n)
  | _, _, 0, _ => by rw [List.take_zero, List.take_zero]; exact .nil
  | _, _, n + 1, .nil => .nil
  | _, _, n + 1, .cons h t => .cons h (DpAll.take n t)
theorem DpAll.drop {H : Hp} : ∀ {ds : List PyData} {xs : List V} (n : Nat), DpAll K H xs ds → DpAll K H (xs.drop n) (ds.drop n)
  | _, _, 0, h => h
  | _, _, n + 1, .nil => .nil
  | _, _, n + 1, .cons h t => DpAll.drop n t
theorem cutT (xs : List V) (n : Nat) : cutV xs none (some (n : Int)) = xs.take n := by
  unfold cutV
  rw [HT.sIx_none, HT.sIx_nat, List.drop_zero, Nat.sub_zero]
  by_cases h : n ≤ xs.length
  · rw [Nat.min_eq_left h]
  · rw [Nat.min_eq_right (by omega), List.take_length, List.take_of_length_le (by omega)]
theorem cutD (xs : List V) (n : Nat) (h : n ≤ xs.length) : cutV xs (some (n : Int)) none = xs.drop n := by
  unfold cutV
  rw [HT.sIx_none, HT.sIx_nat, Nat.min_eq_left h, List.take_of_length_le (by rw [List.length_drop]; omega)]
theorem repAll {H : Hp} {v : V} {d : PyData} (h : Dp K H v d) : ∀ n : Nat, DpAll K H (List.replicate n [v]).flatten (List.replicate n d)
  | 0 => .nil
  | n + 1 => by
    rw [List.replicate_succ, List.replicate_succ, List.flatten_cons]
    exact .cons h (repAll h n)
theorem shaped_of {d : PyData} (h1 : PyData.canLay0 d = true) (h2 : PyData.depth d ≤ 11) : SeqAt.shaped d = true := by
  unfold SeqAt.shaped
  rw [h1]
  simp only [Bool.true_and]
  exact decide_eq_true (by omega)
section
variable {H H' : Hp} {p : Addr}
theorem tabs_upd {T : List (Addr × Str)} {D : Addr} {ys : List V} {o : HO} (t : Tabs T H) (hD : H D = some (.lst ys)) : Tabs T (upd H D o) := fun q hq => by
  obtain ⟨ps, h1, h2, h3⟩ := t q hq
  refine ⟨ps, by rw [upd_ne (fun e => by rw [e, hD] at h1; cases h1)]; exact h1, h2, fun pos cv hc => ?_⟩
  obtain ⟨c, e1, e2⟩ := h3 pos cv hc
  exact ⟨c, e1, by rw [upd_ne (fun e => by rw [e, hD] at e2; unfold CodeO at e2; cases e2)]; exact e2⟩
end
end
end R4
set_option Elab.async false
set_option linter.all false
set_option maxRecDepth 100000
set_option maxHeartbeats 4000000
/-! general: tuple * 0, tuple * 1 -/
namespace L2
open PySem PySem.Spec PyProof.Rows
theorem tuple_mul0 (l : Addr) (items : Array Value) (n : Nat) (dd : Option Addr) (sl : Array (Option Value)) (u : Tok) (c1 : items.isEmpty = false) :
    Meets (Builtin.«tuple.__mul__» ⟨[.ref l, .int 0 u], []⟩) (fun _ R s => s.heap.get? l = some { cls := .type "tuple", dict := dd, data := .seq items n, slots := sl } ∧
      R (.ok (.ret (Value.ref s.heap.objs.size))) { s with heap := s.heap.push { cls := Value.type "tuple", data := Data.seq #[] }, toks := s.toks }) :=
  .of_wp fun prog w A R s h => by
    obtain ⟨hp, g, d, tk, os⟩ := s
    obtain ⟨hl, h⟩ := h
    have f1 := AutoSeq1.idx_int
    have c2 : (items.isEmpty || (0 : Int) == 1) = false := by rw [c1]; rfl
    have c3 : (decide ((0 : Int) ≤ 0) || items.isEmpty) = true := by rfl
    wp_walk using wpAny_loadPart' hl
    repeat (first
      | (refine wpAny_ite_false (decide_eq_false (by rw [c2]; exact Bool.false_ne_true)) ?_; wp_walk using wpAny_loadPart' hl)
      | (refine wpAny_ite_true (decide_eq_true c3) ?_; wp_walk using wpAny_loadPart' hl)
      | (refine wpAny_ite_false (decide_eq_false (Nat.not_lt.mpr (Nat.zero_le _))) ?_; wp_walk using wpAny_loadPart' hl))
    exact ⟨_, rfl, h⟩
theorem tuple_mul1 (l : Addr) (items : Array Value) (n : Nat) (dd : Option Addr) (sl : Array (Option Value)) (u : Tok) :
    Meets (Builtin.«tuple.__mul__» ⟨[.ref l, .int 1 u], []⟩) (fun _ R s => s.heap.get? l = some { cls := .type "tuple", dict := dd, data := .seq items n, slots := sl } ∧
      R (.ok (.ret (Value.ref l))) s) :=
  .of_wp fun prog w A R s h => by
    obtain ⟨hp, g, d, tk, os⟩ := s
    obtain ⟨hl, h⟩ := h
    have f1 := AutoSeq1.idx_int
    have c2 : (items.isEmpty || (1 : Int) == 1) = true := by rw [Bool.or_eq_true]; exact .inr rfl
    wp_walk using wpAny_loadPart' hl
    repeat (first
      | (refine wpAny_ite_true (decide_eq_true c2) ?_; wp_walk using wpAny_loadPart' hl))
    exact ⟨_, rfl, h⟩
theorem sameU {H : Hp} {p : Addr} {o : HO} (h : H p = none) : Same H (upd H p o) := fun b ob e => by
  rw [upd_ne (fun z => by rw [z, h] at e; cases e)]
  exact e
/-- t * k, t not empty, any k from 0 -/
def rRepA (K : PySem.W.Frag) : R2 := fun x y H Q => ∃ l k xs, x = .ref l ∧ y = .int k ∧ SqT K H l xs ∧ xs ≠ [] ∧ 0 ≤ k ∧ (2 ≤ k → k ≤ 1000 ∧ xs.length ≤ 1000) ∧ ∀ p H', Same H H' → SqT K H' p (List.replicate k.toNat xs).flatten → Q (.ref p) H'
section
variable {X : Cx}
theorem op_repA : OpR X (binaryOp .Mult) (rRepA X.K) := by
  intro pins s σ H x y v u Q I rx ry h
  obtain ⟨l, k, xs, rfl, rfl, hT, hne, h1, h2, q⟩ := h
  by_cases c2 : 2 ≤ k
  · exact op_repT pins s σ H _ _ v u Q I rx ry ⟨l, k, xs, rfl, rfl, hT, hne, c2, (h2 c2).1, (h2 c2).2, fun p hp => q p _ (sameU hp) (SqT.of upd_same)⟩
  cases rx
  obtain ⟨t, rfl⟩ := ry
  obtain ⟨its, r, ⟨⟨cls, dd, data, sl⟩, ho, hc, n, hd⟩, hs⟩ := I.tuple hT
  simp only at hc hd
  subst hc hd
  have hle : its.length = xs.length := r.length.symm
  have hi : its.toArray.isEmpty = false := by
    cases its with
    | nil => exact absurd (List.eq_nil_of_length_eq_zero hle.symm) hne
    | cons a b => rfl
  by_cases c0 : k = 0
  · subst c0
    refine wpAny_binaryOp_repeat_ref (T := "tuple") (U := "int") (by decide) ⟨_, ho, rfl⟩ (fun s' => typeIs_int s' 0 t) noFill_tuple_mul F.fills_int_mul F.slot_int_rmul repeat_tuple F.slot_int_index.lookup
      (call_meets F.slot_int_rmul (typeIs_int s 0 t) F.entry_int_rmul (F.args_int_rmul_2 _ _) (int_rmul_tuple 0 t l its.toArray n dd sl)
        ⟨ho, rfl, ⟨_, ho, rfl⟩, call_meets F.slot_tuple_mul ⟨_, ho, rfl⟩ F.entry_tuple_mul (F.args_tuple_mul_2 _ _) (tuple_mul0 l its.toArray n dd sl t hi) ⟨ho, ?_⟩⟩)
    refine ⟨.ref s.heap.objs.size, _, I.laid (t' := s.toks) (o := .tup []) (fun b ob q => Heap.get?_push_of_some _ q) (Nat.le_refl _) ?_, rfl, q _ _ (sameU (I.hok.fresh (Nat.le_refl _))) (SqT.of upd_same)⟩
    exact ⟨Nat.zero_le _, [], .nil, IsTup.new _ _⟩
  · have c1 : k = 1 := by omega
    subst c1
    refine wpAny_binaryOp_repeat_ref (T := "tuple") (U := "int") (by decide) ⟨_, ho, rfl⟩ (fun s' => typeIs_int s' 1 t) noFill_tuple_mul F.fills_int_mul F.slot_int_rmul repeat_tuple F.slot_int_index.lookup
      (call_meets F.slot_int_rmul (typeIs_int s 1 t) F.entry_int_rmul (F.args_int_rmul_2 _ _) (int_rmul_tuple 1 t l its.toArray n dd sl)
        ⟨ho, rfl, ⟨_, ho, rfl⟩, call_meets F.slot_tuple_mul ⟨_, ho, rfl⟩ F.entry_tuple_mul (F.args_tuple_mul_2 _ _) (tuple_mul1 l its.toArray n dd sl t) ⟨ho, ?_⟩⟩)
    refine ⟨.ref l, H, I, rfl, q _ _ (fun _ _ e => e) ?_⟩
    rw [show (List.replicate (1 : Int).toNat xs).flatten = xs by simp]
    exact hT
end
end L2
set_option Elab.async false
set_option linter.all false
set_option maxRecDepth 100000
set_option maxHeartbeats 4000000
/-! general: comprehensions over range(a, b, c); t[::k] of mapped lists -/
namespace L2
open PySem PySem.Spec PyProof.Rows
theorem lc_rangeC {lo c : Int} {n : Nat} {g : TG} {tt : TT} {te : TE} {vs : List Nat} {σ : St} {H1 : Hp} {D : Addr} {Qd : Hp → Prop} (Pv : Nat → Hp → Prop) (h0 : Pv 0 (upd H1 D (.lst [])))
    (hs : ∀ i H, i < n → Pv i H → g (.int (lo + (i : Nat) * c)) (wipe σ vs) H fun σ2 H2 => wipe σ2 vs = wipe σ vs ∧ tt σ2 H2 fun b H3 =>
      if b = true then te σ2 H3 fun y H4 => ∃ acc, H4 D = some (.lst acc) ∧ acc.length < sizeLine ∧ Pv (i + 1) (upd H4 D (.lst (acc ++ [y]))) else Pv (i + 1) H3) (hd : ∀ H, Pv n H → Qd H) :
    ∃ W : Nat → Nat → Hp → Prop, (∃ m, W 0 m (upd H1 D (.lst []))) ∧ ∀ i m H, W i m H →
      ((Itc lo c n).stop i H ∧ Qd H) ∨ ((Itc lo c n).go i H ∧ ∃ Nx : Hp → Prop, (∀ H', Nx H' → ∃ m', m' < m ∧ W (i + 1) m' H') ∧ ∀ x H', (Itc lo c n).yld i H x H' → g x (wipe σ vs) H' fun σ2 H2 => wipe σ2 vs = wipe σ vs ∧ tt σ2 H2 fun b H3 =>
        if b = true then te σ2 H3 fun y H4 => ∃ acc, H4 D = some (.lst acc) ∧ acc.length < sizeLine ∧ Nx (upd H4 D (.lst (acc ++ [y]))) else Nx H3) := by
  refine ⟨fun i m H => m = n - i ∧ i ≤ n ∧ Pv i H, ⟨n, by simp, Nat.zero_le _, h0⟩, ?_⟩
  rintro i m H ⟨rfl, hi, p⟩
  by_cases hlt : i < n
  · refine .inr ⟨hlt, Pv (i + 1), fun H' p' => ⟨n - (i + 1), by omega, rfl, hlt, p'⟩, fun x H' y => ?_⟩
    obtain ⟨e, y⟩ := y
    subst e y
    exact hs i _ hlt p
  · have e : i = n := by omega
    subst e
    exact .inl ⟨Nat.le_refl _, hd H p⟩
theorem call_reprN {Y : Cx} (hg : Y.A.guards = some []) (hu : Y.A.units + 70 < cLine) : CallR Y.nox (.builtin "repr") (rRepr Y.K) := call_repr (X := Y.nox) hg hu
end L2
namespace HT
theorem stepN_lt {n k m : Nat} (hk : 1 ≤ k) (h : m < stepN n k) : m * k < n := by
  unfold stepN at h
  split at h
  · have h1 : m ≤ (n - 1) / k := by omega
    have h2 : m * k ≤ n - 1 := (Nat.le_div_iff_mul_le (by omega)).mp h1
    omega
  · omega
theorem stepL_map {α β : Type} (f : α → β) (xs : List α) (k : Nat) : stepL (xs.map f) k = (stepL xs k).map f := by
  unfold stepL
  rw [List.length_map, List.map_filterMap]
  congr 1
  funext m
  rw [List.getElem?_map]
theorem stepL_get (xs : List Int) (k : Nat) (hk : 1 ≤ k) : stepL xs k = (List.range (stepN xs.length k)).map fun m => xs.getD (m * k) 0 := by
  unfold stepL
  have key : ∀ l : List Nat, (∀ m ∈ l, m * k < xs.length) → (l.filterMap fun m => xs[m * k]?) = l.map fun m => xs.getD (m * k) 0 := by
    intro l
    induction l with
    | nil => intro _; rfl
    | cons m l ih =>
      intro h
      have e : xs[m * k]? = some (xs.getD (m * k) 0) := by
        rw [List.getD_eq_getElem?_getD, List.getElem?_eq_getElem (h m List.mem_cons_self)]
        rfl
      rw [List.filterMap_cons_some (f := fun m => xs[m * k]?) e, List.map_cons, ih fun z hz => h z (List.mem_cons_of_mem _ hz)]
  exact key _ fun m hm => stepN_lt hk (List.mem_range.mp hm)
end HT
namespace L2
open PySem
theorem rgc75 : ∀ n, n < 76 → RgC 0 ((n : Nat) : Int) ((1 + n / 12 : Nat) : Int) (HT.stepN n (1 + n / 12)) := by
  unfold RgC
  decide +kernel
end L2
set_option Elab.async false
set_option linter.all false
set_option maxRecDepth 100000
set_option maxHeartbeats 4000000
/-! general: the end of a law row, the law called where no repr is under way -/
namespace LamX
open PySem PySem.Spec PyProof.Rows L2
theorem law_callTsG {P : Program} {w : World} {K : PySem.W.Frag} {mg mb : Str → Option Value} {CX : CXT} {k : Nat} {fa a : Addr} {cs : List (Addr × Addr)} {fd : FuncData} {x : Str} {sp : Sp} {s₁ : Shared} {vs : List Value} {ns : List Int}
    (KX : K.In s₁.heap) (hns : s₁.heap.Ns mainGlobals mg) (hb : s₁.heap.Ns builtinsNs mb) (hbb : ∀ x : Str, x ≠ "__name__" → mb x = bootBuiltins x) (hlim : s₁.heap.NoLimit) (hg : s₁.gens = #[])
    (hT : ∀ p ∈ cs, s₁.heap.get? p.2 = some { cls := .none, data := .fields #[] }) (nT : ∀ p ∈ cs, K.lookup p.2 = none) (C : ∀ p ∈ cs, PySem.W.CodeHd s₁.heap p.1 p.2)
    (hbm : ∃ (bm : Addr) (ob : Obj), mg "__builtins__" = some (.ref bm) ∧ bm ≠ builtinsNs ∧ s₁.heap.get? bm = some ob ∧ ob.cls = .type "module" ∧ ob.dict = some builtinsNs ∧ ob.data = .plain)
    (ha : s₁.heap.get? a = some { cls := .type "list", data := .seq vs.toArray }) (hi : IntsAre vs ns) (hl : ns.length ≤ sizeLine) (hr : Room k callerA)
    (F : ∀ base : Heap, K.In base → base.Ns mainGlobals mg → (∀ p ∈ cs, TabB base mg p.1 p.2) → FnOkG P w K mg base CX k fa fd [x] sp) (hbind : ∀ (s : Shared) (u : Value), BindsTo s fd ⟨[u], []⟩ [(x, u)])
    (hsp : ∀ H : Hp, (∀ p ∈ cs, H p.2 = some (.tbl #[])) → SqL K H a (ns.map V.int) → sp [.ref a] H (fun v _ => v = .bl true) fun _ _ _ => False)
    (hCX : ∀ H e s', CX [] H s₁ (fun _ _ _ => False) e s' → False) :
    codeAny (model P w) callerA (.call (.ref fa) ⟨[.ref a], []⟩) (fun r s' => r = .ok (.ret (.bool true)) ∧ OldK s₁.heap s'.heap ∧ s'.os = s₁.os ∧ AllBare s'.gens) s₁ := by
  have rv := vals_ints hi
  have lenV := hi.length
  have isT : ∀ b : Addr, b ∈ cs.map (·.2) → s₁.heap.get? b = some { cls := .none, data := .fields #[] } := fun b hb => by
    obtain ⟨p, hp, e⟩ := List.mem_map.mp hb
    rw [← e]
    exact hT p hp
  have aT : a ∉ cs.map (·.2) := fun z => by
    have q := isT a z
    rw [ha] at q
    have z' : Data.seq vs.toArray _ = Data.fields #[] := congrArg Obj.data (Option.some.inj q)
    cases z'
  have memT : ∀ p ∈ cs, p.2 ∈ cs.map (·.2) := fun p hp => List.mem_map.mpr ⟨p, hp, rfl⟩
  -- from an abstract heap in which nothing but the script and the tables may be tracked
  have core : ∀ H : Hp, (∀ p ∈ cs, H p.2 = some (.tbl #[])) → (∀ b, H b = none ∨ b ∈ cs.map (·.2) ∨ ∃ o xs, H b = some (.frz o (.lst xs))) → SqL K H a (ns.map V.int) → HOk P w H s₁.heap → (∀ b, H b ≠ none → b = a ∨ b ∈ cs.map (·.2)) → (H a ≠ none → K.lookup a = none) →
      codeAny (model P w) callerA (.call (.ref fa) ⟨[.ref a], []⟩) (fun r s' => r = .ok (.ret (.bool true)) ∧ OldK s₁.heap s'.heap ∧ s'.os = s₁.os ∧ AllBare s'.gens) s₁ := by
    intro H hH hO hS hok hA hK
    have base_of : ∀ {b : Addr} {o : Obj}, s₁.heap.get? b = some o → H b = none → (hidT s₁.heap H).get? b = some o := fun e n => hidT_get e n
    have noD : ∀ {b : Addr} {o : Obj}, s₁.heap.get? b = some o → (∀ vs n, o.data ≠ .seq vs n) → o.data ≠ .fields #[] → H b = none := fun {b o} e h1 h2 => by
      cases q : H b with
      | none => rfl
      | some u =>
        rcases hA b (by rw [q]; simp) with e' | e'
        · rw [e', ha] at e
          cases e
          exact (h1 _ _ rfl).elim
        · rw [isT b e'] at e
          cases e
          exact (h2 rfl).elim
    have noA : ∀ {b : Addr} {o : Obj} {es : Array DictEntry} {ep : Nat}, s₁.heap.get? b = some o → o.data = .dict es ep → H b = none := fun {b o es ep} e d => by
      refine noD e (fun vs n z => ?_) fun z => ?_
      · rw [d] at z
        cases z
      · rw [d] at z
        cases z
    have nsK : ∀ {b : Addr} {m : Str → Option Value}, s₁.heap.Ns b m → (hidT s₁.heap H).Ns b m := fun {b m} ⟨o, es, ep, e, d, r⟩ => ⟨o, es, ep, base_of e (noA e d), d, r⟩
    have hKb : K.In (hidT s₁.heap H) := fun b o e => base_of (KX b o e) (by
      cases q : H b with
      | none => rfl
      | some u =>
        rcases hA b (by rw [q]; simp) with e' | e'
        · rw [e'] at e q
          rw [hK (by rw [q]; simp)] at e
          cases e
        · obtain ⟨p, hp, ep⟩ := List.mem_map.mp e'
          rw [← ep, nT p hp] at e
          cases e)
    have hM : L2.Mod K mg (hidT s₁.heap H) := ⟨hKb, nsK hns, ⟨mb, nsK hb, hbb⟩, let ⟨mc, h1, h2⟩ := hlim; ⟨mc, nsK h1, h2⟩⟩
    have TB : ∀ p ∈ cs, TabB (hidT s₁.heap H) mg p.1 p.2 := fun p hp => by
      have hTp := hT p hp
      refine ⟨?_, ?_, fun z => ?_⟩
      · obtain ⟨o, us, file, tf, flags, tg, inF, text, tt, e1, r1, r2, r3, r4, r5, r6, r7, r8, hne⟩ := C p hp
        refine ⟨o, us, file, tf, flags, tg, inF, text, tt, base_of e1 (noD e1 (fun vs n z => ?_) fun z => ?_), r1, r2, r3, r4, r5, r6, r7, r8, hne⟩
        · rw [r2] at z
          cases z
        · rw [r2] at z
          cases z
          simp at r3
      · obtain ⟨bm, ob, b1, b2, b3, b4, b5, b6⟩ := hbm
        have nG : bm ≠ mainGlobals := fun q => by
          obtain ⟨o, es, ep, e, hd, _⟩ := hns
          rw [q, e] at b3
          cases b3
          rw [hd] at b6
          cases b6
        have nP : bm ≠ p.2 := fun q => by
          rw [q, hTp] at b3
          cases b3
          cases b6
        refine ⟨bm, ob, b1, b2, nG, nP, base_of b3 (noD b3 (fun vs n z => ?_) fun z => ?_), b4, b5, b6⟩
        · rw [b6] at z
          cases z
        · rw [b6] at z
          cases z
      · obtain ⟨o, es, ep, e, hd, _⟩ := hns
        rw [z, hTp] at e
        cases e
        cases hd
    have e0 : Env0 P w K mg (hidT s₁.heap H) callerA [] s₁ H := ⟨rfl, hM, fun b o e => of_hidT e, Nat.le_of_eq (hidT_size _ _), trivial, fun b hb => absurd (show b ∈ ([] : List Addr) from hb) (by simp), hok, .of_eq hg⟩
    refine codeAny_mono ((F _ hKb (nsK hns) TB).run callerA [] s₁ H ⟨[.ref a], []⟩ [.ref a] [.ref a] _ _ rfl hr e0 (hbind s₁ (.ref a)) (.cons rfl .nil) (hsp H hH hS)) fun r s' h => ?_
    cases r with
    | error e => exact (hCX H e s' h).elim
    | ok fl =>
      cases fl with
      | next => exact False.elim h
      | brk => exact False.elim h
      | cont => exact False.elim h
      | ret u =>
        obtain ⟨v, H', os, bare, un, hok', r', q⟩ := h
        have q' : v = .bl true := q
        subst q'
        obtain rfl : u = Value.bool true := r'
        have key : ∀ b o, b ∉ cs.map (·.2) → s₁.heap.get? b = some o → s'.heap.get? b = some o := fun b o nb e => by
          cases q : H b with
          | none => exact un.keep b o e q (by intro z; exact absurd (show b ∈ ([] : List Addr) from z) (by simp)) (by simp)
          | some u =>
            rcases hO b with z | z | ⟨ob, xs, z⟩
            · rw [q] at z; cases z
            · exact absurd z nb
            · have z2 := un.frzs b ob _ z
              obtain ⟨e1, _⟩ := hok b _ z
              obtain ⟨e2, _⟩ := hok' b _ z2
              rw [e] at e1; cases e1
              exact e2
        have grown : ∀ p ∈ cs, ∃ more : Array Value, s'.heap.get? p.2 = some { cls := .none, data := .fields more } := fun p hp => by
          obtain ⟨more, z⟩ := un.tbls p.2 #[] (hH p hp)
          exact ⟨_, hok' p.2 _ z⟩
        refine ⟨rfl, ⟨fun b o e => ?_, fun b o e => ?_⟩, os, bare⟩
        · by_cases hb : b ∈ cs.map (·.2)
          · obtain ⟨p, hp, ep⟩ := List.mem_map.mp hb
            obtain ⟨more, hm⟩ := grown p hp
            rw [← ep] at e ⊢
            rw [hT p hp] at e
            cases e
            exact .inr (.inl ⟨((C p hp).tab (hT p hp)).isCodeTable, rfl, #[], more, rfl, by rw [Array.empty_append]; exact hm⟩)
          · exact .inl (key b o hb e)
        · by_cases hb : b ∈ cs.map (·.2)
          · obtain ⟨p, hp, ep⟩ := List.mem_map.mp hb
            obtain ⟨more, hm⟩ := grown p hp
            rw [← ep]
            exact ⟨_, hm⟩
          · exact ⟨o, key b o hb e⟩
  cases hk : K.lookup a with
  | some o =>
    have e := KX a o hk
    rw [ha] at e
    cases e
    refine core (fun b => if b ∈ cs.map (·.2) then some (.tbl #[]) else none) (fun p hp => if_pos (memT p hp)) (fun b => ?_) (.inr ⟨_, vs.toArray, _, hk, rfl, rfl, rfl, by rw [List.size_toArray, lenV]; exact hl, by simpa using rv⟩) (fun b u z => ?_) (fun b z => ?_) fun z => absurd (show (if a ∈ cs.map (·.2) then some (HO.tbl #[]) else none) = none from if_neg aT) z
    · by_cases hb : b ∈ cs.map (·.2)
      · exact .inr (.inl hb)
      · exact .inl (if_neg hb)
    · by_cases hb : b ∈ cs.map (·.2)
      · have z' := (if_pos hb).symm.trans z
        cases z'
        exact isT b hb
      · have z' := (if_neg hb).symm.trans z
        cases z'
    · by_cases hb : b ∈ cs.map (·.2)
      · exact .inr hb
      · exact absurd (if_neg hb) z
  | none =>
    refine core (fun b => if b = a then some (.frz { cls := .type "list", data := .seq vs.toArray } (.lst (ns.map V.int))) else if b ∈ cs.map (·.2) then some (.tbl #[]) else none) (fun p hp => (if_neg (show ¬ p.2 = a from fun z => aT (by rw [← z]; exact memT p hp))).trans (if_pos (memT p hp))) (fun b => ?_)
      (.inl (.inr ⟨{ cls := .type "list", data := .seq vs.toArray }, if_pos rfl⟩)) (fun b u z => ?_) (fun b z => ?_) fun _ => hk
    · by_cases hb : b = a
      · exact .inr (.inr ⟨_, _, if_pos hb⟩)
      · by_cases hb2 : b ∈ cs.map (·.2)
        · exact .inr (.inl hb2)
        · exact .inl ((if_neg hb).trans (if_neg hb2))
    · by_cases hb : b = a
      · have z' := (if_pos hb).symm.trans z
        cases z'
        rw [hb]
        exact ⟨ha, by rw [List.length_map]; exact hl, vs, _, rv, ha⟩
      · have z1 := (if_neg hb).symm.trans z
        by_cases hb2 : b ∈ cs.map (·.2)
        · have z' := (if_pos hb2).symm.trans z1
          cases z'
          exact isT b hb2
        · have z' := (if_neg hb2).symm.trans z1
          cases z'
    · by_cases hb : b = a
      · exact .inl hb
      · by_cases hb2 : b ∈ cs.map (·.2)
        · exact .inr hb2
        · exact absurd ((if_neg hb).trans (if_neg hb2)) z

def LawAtG (l : PySem.W.OpenLaw) (w : World) (K : PySem.W.Frag) (CX : CXT) (k n : Nat) (x : Str) (mg : Str → Option Value) (fa : Addr) (h : Heap) : Prop :=
  ∃ (fd : FuncData) (cs : List (Addr × Addr)) (sp : Sp), (∀ p ∈ cs, h.get? p.2 = some { cls := .none, data := .fields #[] }) ∧ (∀ p ∈ cs, K.lookup p.2 = none) ∧ (∀ p ∈ cs, PySem.W.CodeHd h p.1 p.2) ∧ (∀ (s : Shared) (u : Value), BindsTo s fd ⟨[u], []⟩ [(x, u)]) ∧
    (∀ (H : Hp) (a : Addr) (ns : List Int), ns.length ≤ n → (∀ p ∈ cs, H p.2 = some (.tbl #[])) → SqL K H a (ns.map V.int) → sp [.ref a] H (fun v _ => v = .bl true) fun _ _ _ => False) ∧
    ∀ base : Heap, K.In base → base.Ns mainGlobals mg → (∀ p ∈ cs, TabB base mg p.1 p.2) → FnOkG l.prog w K mg base CX k fa fd [x] sp
theorem walk_ofTsG {l : PySem.W.OpenLaw} {n k : Nat} {q : Program} {loose : List Str} {XP : (Str → Option Value) → Heap → Prop} {YP : World → Heap → Prop} {d : DefRec} {CX : World → CXT} {x : Str}
    (hn : l.most = some n) (hn2 : n ≤ sizeLine) (hdf : d.params.defaults = []) (hr : Room k callerA)
    (F : ∀ (w : World) (mg : Str → Option Value) (fa : Addr) (h : Heap), YP w h → h.Ns mainGlobals mg → mg d.name = some (.ref fa) → ∃ K : PySem.W.Frag, K.In h ∧ LawAtG l w K (CX w) k n x mg fa h)
    (hCX : ∀ (w : World) (H : Hp) (s : Shared) (e : Value) (s' : Shared), CX w [] H s (fun _ _ _ => False) e s' → False) :
    PySem.W.WalkO q loose XP YP l.row.toRowW d [] (fun f vs => PySem.call f vs) := by
  refine Att.attach_callB hn hdf fun w s₀ s₁ mg mb fa o pm cd doc a vs ns G Y ho hd hcd hmg hobj hints hlen hbits hg => ?_
  obtain ⟨K, KX, fd, cs, sp, hT, nT, C, hb, hsp, hF⟩ := F w mg fa _ Y G.T.g hmg
  exact law_callTsG KX G.T.g G.T.b G.T.builtins G.T.nolimit hg hT nT C G.T.bmain hobj hints (Nat.le_trans hlen hn2) hr hF hb (fun H hH hS => hsp H a ns hlen hH hS) fun H e s' => hCX w H s₁ e s'
end LamX
set_option Elab.async false
set_option linter.all false
set_option maxRecDepth 100000
set_option maxHeartbeats 4000000
/-! general: sets of ints and texts that can be walked: made of a text or a list, added to, counted, sorted; set comprehensions -/
namespace SM
open PySem PySem.Spec PyProof.Rows L2
def keyE (e : Int × Value) : Key := match e.2 with
  | .int k _ => .inl k
  | .str x _ => .inr x
  | _ => .inl 0
def GoodK (w : World) (e : Int × Value) : Prop := ∃ k, keyIs k e.2 = true ∧ e.1 = keyH w k
theorem keyE_of {k : Key} {h : Int} {u : Value} (r : keyIs k u = true) : keyE (h, u) = k := by
  rcases keyIs_shape r with ⟨i, t, rfl, rfl⟩ | ⟨x, t, rfl, rfl⟩ <;> rfl
theorem scan_of {k : Key} {u : Value} (r : keyIs k u = true) : u.scannable = true := by
  rcases keyIs_shape r with ⟨i, t, rfl, rfl⟩ | ⟨x, t, rfl, rfl⟩ <;> rfl
theorem GoodK.is {w : World} {e : Int × Value} (g : GoodK w e) : keyIs (keyE e) e.2 = true := by
  obtain ⟨k, h1, _⟩ := g
  have q : keyE e = k := keyE_of (h := e.1) (u := e.2) h1
  rw [q]
  exact h1
/-- whether a key is among some -/
def memK (ks : List Key) (k : Key) : Bool := ks.any fun x => decide (x = k)
theorem memK_iff {ks : List Key} {k : Key} : memK ks k = true ↔ k ∈ ks := by
  unfold memK
  rw [List.any_eq_true]
  constructor
  · rintro ⟨x, hx, e⟩
    rw [← of_decide_eq_true e]
    exact hx
  · intro h
    exact ⟨k, h, decide_eq_true rfl⟩
/-- the set at a has the members ks, each once; its table can be walked -/
def SetM (w : World) (h : Heap) (a : Addr) (ks : List Key) : Prop :=
  ∃ o es ep t, h.get? a = some o ∧ o.ExactSet ∧ o.data = .set es ep t ∧ (∀ e ∈ es.toList, GoodK w e) ∧ (es.toList.map keyE).Perm ks ∧ ks.Nodup ∧
    es.size < scanBound ∧ t.fits es.size = true ∧ Ris t.place.toList ∧ (w.params.followText "set-order" = true ∨ t.led = true)
section
variable {P : Program} {w : World} {h h' : Heap} {a : Addr} {ks : List Key}
theorem SetM.at (R : SetM w h a ks) (k : ∀ o, h.get? a = some o → h'.get? a = some o) : SetM w h' a ks := by
  obtain ⟨o, es, ep, t, ho, r⟩ := R
  exact ⟨o, es, ep, t, k o ho, r⟩
theorem SetM.nodup (R : SetM w h a ks) : ks.Nodup := by
  obtain ⟨o, es, ep, t, ho, _, _, _, _, nd, _⟩ := R
  exact nd
theorem SetM.typeIs {s : Shared} (R : SetM w s.heap a ks) : s.TypeIs (.ref a) "set" := by
  obtain ⟨o, es, ep, t, ho, hx, _⟩ := R
  exact ⟨o, ho, hx.1⟩
theorem elems_ok {l : List (Int × Value)} (g : ∀ e ∈ l, GoodK w e) : ElemsOf (mixKind P w) l := fun e he => by
  obtain ⟨k, h1, h2⟩ := g e he
  exact ⟨⟨k, h1, h2⟩, scan_of h1⟩
theorem is_iff {e : Int × Value} (g : GoodK w e) (k : Key) : (mixKind P w).is k e.2 = true ↔ keyE e = k := by
  constructor
  · intro q
    exact keyE_of (h := e.1) (u := e.2) q
  · intro q
    rw [← q]
    exact g.is
theorem mem_iff {l : List (Int × Value)} (g : ∀ e ∈ l, GoodK w e) (k : Key) : k ∈ l.map keyE ↔ ∃ e ∈ l, (mixKind P w).is k e.2 = true := by
  rw [List.mem_map]
  constructor
  · rintro ⟨e, he, q⟩
    exact ⟨e, he, (is_iff (g e he) k).2 q⟩
  · rintro ⟨e, he, q⟩
    exact ⟨e, he, (is_iff (g e he) k).1 q⟩
theorem SetM.setOf (R : SetM w h a ks) : h.SetOf (mixKind P w) a (fun k => memK ks k) ks.length := by
  obtain ⟨o, es, ep, t, ho, hx, hd, g, pm, nd, hb, hf, _⟩ := R
  refine ⟨o, es, ep, t, ho, hx, hd, elems_ok g, fun k => ?_, hb, hf, ?_⟩
  · show memK ks k = true ↔ _
    rw [memK_iff, ← pm.mem_iff]
    exact mem_iff g k
  · rw [← pm.length_eq, List.length_map, Array.length_toList]
theorem SetM.perm {ks' : List Key} (R : SetM w h a ks) (p : ks.Perm ks') : SetM w h a ks' := by
  obtain ⟨o, es, ep, t, ho, hx, hd, g, pm, nd, r⟩ := R
  exact ⟨o, es, ep, t, ho, hx, hd, g, pm.trans p, p.nodup_iff.mp nd, r⟩
end
/-- one more member -/
def insK (ks : List Key) (k : Key) : List Key := if memK ks k = true then ks else ks ++ [k]
theorem insK_in {ks : List Key} {k : Key} (h : k ∈ ks) : insK ks k = ks := by unfold insK; rw [if_pos (memK_iff.mpr h)]
theorem insK_out {ks : List Key} {k : Key} (h : k ∉ ks) : insK ks k = ks ++ [k] := by unfold insK; rw [if_neg fun q => h (memK_iff.mp q)]
theorem insK_len (ks : List Key) (k : Key) : (insK ks k).length ≤ ks.length + 1 := by
  unfold insK
  split
  · omega
  · rw [List.length_append]; exact Nat.le_refl _
theorem mem_insK {ks : List Key} {k x : Key} : x ∈ insK ks k ↔ x ∈ ks ∨ x = k := by
  unfold insK
  split
  · rename_i h
    exact ⟨.inl, fun q => q.elim id fun e => e ▸ memK_iff.mp h⟩
  · rw [List.mem_append, List.mem_singleton]
/-- the members of a list, each once -/
def dedK (xs : List Key) : List Key := xs.foldl insK []
theorem mem_fold (xs : List Key) : ∀ (acc : List Key) (x : Key), x ∈ xs.foldl insK acc ↔ x ∈ acc ∨ x ∈ xs := by
  induction xs with
  | nil => intro acc x; simp
  | cons y xs ih =>
    intro acc x
    rw [List.foldl_cons, ih, mem_insK, List.mem_cons, or_assoc]
theorem mem_dedK {xs : List Key} {x : Key} : x ∈ dedK xs ↔ x ∈ xs := by
  unfold dedK
  rw [mem_fold]
  simp
theorem fold_len (xs : List Key) : ∀ acc : List Key, (xs.foldl insK acc).length ≤ acc.length + xs.length := by
  induction xs with
  | nil => intro acc; exact Nat.le_refl _
  | cons y xs ih =>
    intro acc
    rw [List.foldl_cons, List.length_cons]
    have := ih (insK acc y)
    have := insK_len acc y
    omega
theorem dedK_len (xs : List Key) : (dedK xs).length ≤ xs.length := by
  have := fold_len xs []
  unfold dedK
  simpa using this
theorem insK_nodup {ks : List Key} {k : Key} (h : ks.Nodup) : (insK ks k).Nodup := by
  unfold insK
  split
  · exact h
  · rename_i q
    exact List.nodup_append.mpr ⟨h, List.nodup_cons.mpr ⟨List.not_mem_nil, List.nodup_nil⟩, fun a ha b hb e => q (memK_iff.mpr (by rw [← List.mem_singleton.mp hb, ← e]; exact ha))⟩
theorem fold_nodup (xs : List Key) : ∀ acc : List Key, acc.Nodup → (xs.foldl insK acc).Nodup := by
  induction xs with
  | nil => intro acc h; exact h
  | cons y xs ih => intro acc h; exact ih _ (insK_nodup h)
theorem dedK_nodup (xs : List Key) : (dedK xs).Nodup := fold_nodup xs [] List.nodup_nil
theorem dedK_of_nodup {xs : List Key} (h : xs.Nodup) : dedK xs = xs := by
  have key : ∀ (xs acc : List Key), (acc ++ xs).Nodup → xs.foldl insK acc = acc ++ xs := by
    intro xs
    induction xs with
    | nil => intro acc _; simp
    | cons y xs ih =>
      intro acc hn
      have hy : y ∉ acc := fun q => (List.nodup_append.mp hn).2.2 y q y List.mem_cons_self rfl
      rw [List.foldl_cons]
      have e : insK acc y = acc ++ [y] := insK_out hy
      rw [e, ih (acc ++ [y]) (by rw [List.append_assoc]; exact hn), List.append_assoc]
      rfl
  exact key xs [] (by simpa using h)
theorem take_ded {xs : List Key} {i : Nat} {x : Key} (h : xs[i]? = some x) : dedK (xs.take (i + 1)) = insK (dedK (xs.take i)) x := by
  unfold dedK
  rw [List.take_add_one, h]
  show (xs.take i ++ [x]).foldl insK [] = _
  rw [List.foldl_append]
  rfl
section
variable {P : Program} {w : World} {A : Around} {E : Value → Shared → Prop} {s : Shared} {a : Addr} {ks : List Key}
theorem add_tail {g : Bool → Sem Unit} (hg : ∀ (b : Bool) (s₁ : Shared) (Q' : Unit → Shared → Prop), Q' () s₁ → wpAny (model P w) A (g b) Q' E s₁)
    {o : Obj} {es : Array (Int × Value)} {ep : Nat} {t : SetTable} (ho : s.heap.get? a = some o) (hex : o.ExactSet) (hd : o.data = .set es ep t)
    {es1 : Array (Int × Value)} {t2 : SetTable} {ks' : List Key} (g1 : ∀ e ∈ es1.toList, GoodK w e) (p1 : (es1.toList.map keyE).Perm ks') (nd1 : ks'.Nodup)
    (hb1 : es1.size < scanBound) (hf2 : t2.fits es1.size = true) (hr : Ris t2.place.toList) (hl : w.params.followText "set-order" = true ∨ t2.led = true) {wasDummy : Bool} {R : Option Bool → Shared → Prop}
    (hR : ∀ h', Heap.SameBut a s.heap h' → SetM w h' a ks' → R (some true) { s with heap := h' }) :
    wpAny (model P w) A (do
        storeSet a es1 t2
        if (!wasDummy && t2.tooFull) = true then do
            g (relayAll t2 es1 (SetTable.grown es1.size)).2.2
            storeSet a (relayAll t2 es1 (SetTable.grown es1.size)).1 (relayAll t2 es1 (SetTable.grown es1.size)).2.1
            pure (some true)
          else pure (some true)) R E s := by
  refine wpAny_bind (wpAny_storeSet_of ho hd ?_ (fits_of_scanBound hb1))
  have ho1 := store_at (es' := es1) (t' := t2) ho hd
  have sb1 := Heap.SameBut.update s.heap a (Obj.putSet es1 t2)
  split
  · have pm := relayAll_perm t2 es1 (SetTable.grown es1.size)
    have hf3 := relayAll_fits t2 es1 (SetTable.grown es1.size)
    have hr3 := relayAll_ris t2 es1 (SetTable.grown es1.size)
    have hl3 := relayAll_led t2 es1 (SetTable.grown es1.size)
    generalize relayAll t2 es1 (SetTable.grown es1.size) = Z at pm hf3 hr3 hl3 ⊢
    obtain ⟨es2, t3, gave⟩ := Z
    dsimp only at pm hf3 hr3 hl3 ⊢
    have hsz : es2.size = es1.size := by rw [← Array.length_toList, pm.length_eq, Array.length_toList]
    have hb2 : es2.size < scanBound := by rw [hsz]; exact hb1
    refine wpAny_bind (hg _ _ _ ?_)
    refine wpAny_bind (wpAny_storeSet_of ho1 rfl ?_ (fits_of_scanBound hb2))
    have ho2 := store_at (es' := es2) (t' := t3) ho1 rfl
    refine wpAny_pure (hR _ (sb1.trans (Heap.SameBut.update _ a _)) ?_)
    exact ⟨_, es2, _, t3, ho2, hex, rfl, fun e he => g1 e (pm.mem_iff.mp he), (pm.map keyE).trans p1, nd1, hb2, hf3, hr3, hl.imp id fun z => by rw [hl3]; exact z⟩
  · exact wpAny_pure (hR _ sb1 ⟨_, es1, _, t2, ho1, hex, rfl, g1, p1, nd1, hb1, hf2, hr, hl⟩)
theorem add_hashed {k : Key} {u : Value} {Q : Bool → Shared → Prop} (hkey : keyIs k u = true) (R : SetM w s.heap a ks) (room : ks.length + 1 < scanBound)
    (hQ : ∀ h' b, Heap.SameBut a s.heap h' → SetM w h' a (insK ks k) → Q b { s with heap := h' }) :
    wpAny (model P w) A (setAddHashed a u ((mixKind P w).hash k)) Q E s := by
  obtain ⟨o, es, ep, t, ho, hex, hd, g, pk0, nd, hb, hf, hr, hl⟩ := R
  have hkey' : (mixKind P w).is k u = true := hkey
  have hsc : u.scannable = true := scan_of hkey
  have hel : ElemsOf (mixKind P w) es.toList := elems_ok g
  unfold setAddHashed setAddHashedIn
  refine wpAny_holding (wpAny_bind (wpAny_setState_of ho hd hf ?_))
  dsimp only
  rw [byScan_of hsc hb hel]
  simp only [↓reduceIte]
  unfold setAddByScan
  refine wpAny_bind ?_
  refine wpAny_bind (wpAny_rule ?_)
  refine wpAny_bind (wpAny_setScan_of hkey' ho hd hf hel ?_)
  cases hfi : List.findIdx? (fun e => (mixKind P w).is k e.2) es.toList with
  | some j =>
    dsimp only
    obtain ⟨hj, pj, _⟩ := List.findIdx?_eq_some_iff_getElem.mp hfi
    have hSk : k ∈ ks := pk0.mem_iff.mp ((mem_iff (P := P) (w := w) g k).2 ⟨es.toList[j], List.getElem_mem hj, pj⟩)
    refine wpAny_pure (wpAny_pure ?_)
    refine hQ s.heap _ (Heap.SameBut.refl a s.heap) ?_
    rw [insK_in hSk]
    exact ⟨o, es, ep, t, ho, hex, hd, g, pk0, nd, hb, hf, hr, hl⟩
  | none =>
    dsimp only
    have hnk : k ∉ ks := fun z => by
      obtain ⟨e, he, q⟩ := (mem_iff (P := P) (w := w) g k).1 (pk0.mem_iff.mpr z)
      have c := List.findIdx?_eq_none_iff.mp hfi e he
      rw [q] at c
      cases c
    have hgw : ∀ (b : Bool) {s₁ : Shared} {Q' : Unit → Shared → Prop}, Q' () s₁ → wpAny (model P w) A (match b with | true => rule "set.scan.the-table-gave-way" | false => pure ()) Q' E s₁ :=
      fun b s₁ Q' q => by cases b <;> first | exact wpAny_pure q | exact wpAny_rule q
    have pm := layNew_perm t es ((mixKind P w).hash k) u
    have hf1 := layNew_fits t es ((mixKind P w).hash k) u
    have hr1 := layNew_ris t es ((mixKind P w).hash k) u hr
    have hl1 := layNew_led t es ((mixKind P w).hash k) u
    generalize layNew t es ((mixKind P w).hash k) u = Z at pm hf1 hr1 hl1 ⊢
    obtain ⟨es1, t1, wasDummy, gave⟩ := Z
    dsimp only at pm hf1 hr1 hl1 ⊢
    rw [Array.toList_push] at pm
    have pc : es1.toList.Perm (((mixKind P w).hash k, u) :: es.toList) := pm.trans (List.perm_append_singleton _ _)
    have pk : (es1.toList.map keyE).Perm (insK ks k) := by
      have q := pc.map keyE
      rw [List.map_cons, keyE_of hkey] at q
      rw [insK_out hnk]
      exact q.trans ((pk0.cons k).trans (List.perm_append_singleton k ks).symm)
    have g1 : ∀ e ∈ es1.toList, GoodK w e := fun e he => by
      rcases List.mem_cons.mp (pc.mem_iff.mp he) with z | z
      · rw [z]; exact ⟨k, hkey, rfl⟩
      · exact g e z
    have nd1 : (insK ks k).Nodup := insK_nodup nd
    have hsz0 : es.size = ks.length := by rw [← pk0.length_eq, List.length_map, Array.length_toList]
    have hsz : es1.size = ks.length + 1 := by rw [← Array.length_toList, pc.length_eq, List.length_cons, Array.length_toList, hsz0]
    have hb1 : es1.size < scanBound := by rw [hsz]; exact room
    have hled : w.params.followText "set-order" = true ∨ t1.led = true := hl.imp id fun z => by rw [hl1]; exact z
    refine wpAny_bind (hgw _ ?_)
    split
    · refine wpAny_bind ?_
      rw [hashByValue_scannable 8 hsc]
      refine wpAny_pure ?_
      refine add_tail ?_ ho hex hd g1 pk nd1 hb1 ?_ ?_ ?_ ?_
      · intro b s₁ Q' q; cases b <;> first | exact wpAny_pure q | exact wpAny_rule q
      · first | (split <;> first | exact hf1 | exact SetTable.fits_plain_off hf1) | exact hf1
      · first | (split <;> exact hr1) | exact hr1
      · first | (split <;> exact hled) | exact hled
      · intro h' sb r; dsimp only; exact wpAny_pure (hQ h' _ sb r)
    · refine wpAny_bind (wpAny_pure ?_)
      simp only [↓reduceIte]
      refine add_tail ?_ ho hex hd g1 pk nd1 hb1 hf1 hr1 hled ?_
      · intro b s₁ Q' q; cases b <;> first | exact wpAny_pure q | exact wpAny_rule q
      · intro h' sb r; dsimp only; exact wpAny_pure (hQ h' _ sb r)
/-- set.add -/
theorem call_add {k : Key} {u : Value} {Q : Value → Shared → Prop} (hkey : keyIs k u = true) (R : SetM w s.heap a ks) (room : ks.length + 1 < scanBound)
    (hQ : ∀ h', Heap.SameBut a s.heap h' → SetM w h' a (insK ks k) → Q .none { s with heap := h', toks := s.toks + 1 }) :
    wpAny (model P w) A (call (.builtin "set.add") [.ref a, u]) Q E s := by
  have hT := R.typeIs
  refine wpAny_call_entry F.slot_set_add hT F.entry_set_add ?_ (F.args_set_add_2 _ _)
  unfold Builtin.«set.add» Builtin.Frozenset.oneOther
  simp only [List.isEmpty_nil, bind_assoc]
  unfold Builtin.Frozenset.addrOf setAdd
  refine wpAny_bind (wpAny_pure ?_)
  try dsimp only
  refine wpAny_bind (wpAny_pure ?_)
  try dsimp only
  refine wpAny_bind ?_
  refine wpAny_holding ?_
  refine wpAny_bind ((mixKind P w).pyHash (k := k) hkey ?_)
  refine add_hashed (s := { s with toks := s.toks + 1 }) hkey R room fun h' b sb r => ?_
  show wpAny _ _ (ret Value.none) _ _ _
  exact wpAny_pure ⟨_, rfl, hQ h' sb r⟩
theorem fresh_ok {h : Heap} {c : Bool} (w : World) (hc : w.params.followText "set-order" = true ∨ c = true) : SetM w (h.push { cls := .type "set", dict := none, data := .set #[] 0 (.fresh 0 0 c) }) h.objs.size [] :=
  ⟨_, #[], 0, _, Heap.get?_push_size _ rfl, ⟨rfl, rfl, rfl⟩, rfl, (fun e he => by simp at he), (by simp), List.nodup_nil, (by decide), (by rfl), List.Pairwise.nil, hc⟩
theorem led_ok (w : World) : w.params.followText "set-order" = true ∨ (!w.params.followText "set-order") = true := by
  cases w.params.followText "set-order"
  · exact .inr rfl
  · exact .inl rfl
end
end SM
set_option Elab.async false
set_option linter.all false
set_option maxRecDepth 100000
set_option maxHeartbeats 4000000
/-! general: set(text), set(list), sorted(set), sorted(text) at the model's level -/
namespace SM
open PySem PySem.Spec PyProof.Rows L2
section
variable {prog : Program} {w : World} {A : Around} {R : Result → Shared → Prop} {I : Addr} {fp wr : List Addr} {G : Array GenState → Array GenState → Prop} {n : Nat} {P : Nat → Value → Prop} {St : Nat → Shared → Prop}
/-- set.update's loop: the keys xs one by one -/
theorem update_loop (W : WalksS prog w A.in1 I fp wr G n P St) (S : Addr) (hSf : S ∉ fp)
    (xs : List Key) (hn : xs.length = n) (hval : ∀ i v, P i v → ∃ k, xs[i]? = some k ∧ keyIs k v = true) (hb : n + 1 < scanBound) :
    ∀ (k i : Nat) (s : Shared), n - i = k → i ≤ n → St i s → SetM w s.heap S (dedK (xs.take i)) →
      (∀ s', Moved (S :: wr) G s s' → SetM w s'.heap S (dedK xs) → R (.ok (.ret .none)) s') →
      codeAny (model prog w) A (.builtin "set.update.loop" ⟨[.ref S, .ref I], []⟩) R s := by
  have hSw : S ∉ wr := fun h => hSf (W.sub _ h)
  have hsub : ∀ b ∈ wr, b ∈ S :: wr := fun b hb => List.mem_cons_of_mem _ hb
  intro k
  induction k with
  | zero =>
    intro i s hk hi hst hS hR
    have hin : i = n := by omega
    subst hin
    refine codeAny_builtin F.entry_set_update_loop ?_
    rw [Around.under_plainId F.plain_set_update_loop _]
    show wpAny _ A.in1 (pyNext (.ref I) >>= _) _ _ s
    refine wpAny_bind (W.done s _ _ hst fun s' hm => ?_)
    show wpAny _ A.in1 (ret Value.none) _ _ s'
    rw [← hn, List.take_length] at hS
    exact wpAny_pure (hR s' (hm.mono hsub) (hS.at fun o ho => hm.heap S _ hSw ho))
  | succ k ih =>
    intro i s hk hi hst hS hR
    have hlt : i < n := by omega
    refine codeAny_builtin F.entry_set_update_loop ?_
    rw [Around.under_plainId F.plain_set_update_loop _]
    show wpAny _ A.in1 (pyNext (.ref I) >>= _) _ _ s
    refine wpAny_bind (W.item i s _ _ hlt hst fun v s' hP hst' hm => ?_)
    obtain ⟨key, hki, hkv⟩ := hval i v hP
    have hS' := hS.at fun o ho => hm.heap S _ hSw ho
    show wpAny _ A.in1 (holding [v] (setAdd S v) >>= _) _ _ s'
    refine wpAny_bind (wpAny_holding ?_)
    unfold setAdd
    refine wpAny_holding ?_
    refine wpAny_bind ((mixKind prog w).pyHash (k := key) hkv ?_)
    have hroom : (dedK (xs.take i)).length + 1 < scanBound := by
      have := dedK_len (xs.take i)
      rw [List.length_take] at this
      omega
    refine add_hashed (s := { s' with toks := s'.toks + 1 }) hkv hS' hroom fun h' b hsb hS2 => ?_
    rw [← take_ded hki] at hS2
    refine wpAny_pure ⟨plainId_quiet F.plain_set_update_loop _, ih (i + 1) _ (by omega) hlt (W.frame _ s' _ _ hst' (Nat.le_succ _) fun b hb o e => ?_) hS2 fun s'' hm'' hS'' => ?_⟩
    · rw [hsb.2 b (fun h : b = S => hSf (by rw [← h]; exact hb))]; exact e
    · refine hR s'' (Moved.trans W.gtrans ((hm.mono hsub).then_heap (Nat.le_succ _) fun b o hb e => ?_) hm'') hS''
      rw [hsb.2 b (fun h : b = S => hb (by rw [h]; exact List.mem_cons_self))]; exact e
end
section
variable {prog : Program} {w : World} {A : Around} {E : Value → Shared → Prop} {s : Shared}
abbrev newSetO (w : World) : Obj := { cls := .type "set", dict := none, data := .set #[] 0 (.fresh 0 0 (!w.params.followText "set-order")) }
theorem code_new1 (a : Value) {Q₁ : Value → Shared → Prop} (h : Q₁ (.ref s.heap.objs.size) { s with heap := s.heap.push (newSetO w) }) :
    codeAny (model prog w) A (.call (.builtin "set.__new__") ⟨[.type "set", a], []⟩) (wants Q₁ E) s := by
  refine codeAny_of_tree ?_
  show wpAny _ A.in1 (do checkBuiltinCall "set.__new__" ⟨[.type "set", a], []⟩; again (.builtin "set.__new__" ⟨[.type "set", a], []⟩)) _ _ s
  refine wpAny_bind (wpAny_of_eq (F.newCall_set_1 a) (wpAny_pure ⟨plainId_quiet F.plain_set_new _, codeAny_builtin F.entry_set_new ?_⟩))
  rw [Around.under_plainId F.plain_set_new _]
  unfold Builtin.«set.__new__» Builtin.Frozenset.newClass
  have hsub := sub_set_self
  obtain ⟨hp, g, d, tk, os⟩ := s
  dsimp only
  wp_walk
  refine wpAny_askSetting (wpAny_pure ?_)
  dsimp only
  simp only [newObj]
  refine wpAny_bind (wpAny_alloc (wpAny_pure ?_))
  exact wpAny_pure h
/-- what set(x) must be told of x: its iterator gives the keys xs -/
def Feeds (prog : Program) (w : World) (s : Shared) (v : Value) (xs : List Key) : Prop := ∀ (A' : Around) (E' : Value → Shared → Prop) (Q : Value → Shared → Prop), A'.handled = none →
  (∀ (I : Addr) (o : Obj) (fp : List Addr) (P : Nat → Value → Prop) (St : Nat → Heap → Prop), I = s.heap.objs.size + 1 → (∀ b ∈ fp, b ≠ s.heap.objs.size) → (∀ A'' : Around, A''.handled = none → Walks prog w A'' I fp [I] xs.length P St) → (∀ i v, P i v → ∃ k, xs[i]? = some k ∧ keyIs k v = true) → St 0 ((s.heap.push (newSetO w)).push o) →
    Q (.ref I) { s with heap := (s.heap.push (newSetO w)).push o }) → wpAny (model prog w) A' (pyIter v) Q E' { s with heap := s.heap.push (newSetO w) }
theorem sub_str_set : isSubtype (.type "str") (.type "set") = pure false := by rw [isSubtype_type]; kernel_rfl
theorem sub_str_frozenset : isSubtype (.type "str") (.type "frozenset") = pure false := by rw [isSubtype_type]; kernel_rfl
set_option maxHeartbeats 16000000 in
/-- set(text) -/
theorem call_set_str {z : Str} {tk : Tok} {Q : Value → Shared → Prop} (hh : A.handled = none) (hb : z.cps.size + 1 < scanBound)
    (h : ∀ (h' : Heap) (tk' : Nat), SetM w h' s.heap.objs.size (dedK (z.cps.toList.map fun c => .inr ⟨#[c]⟩)) →
      (∀ b o, b < s.heap.objs.size → s.heap.get? b = some o → h'.get? b = some o) → Q (.ref s.heap.objs.size) { s with heap := h', toks := tk' }) :
    wpAny (model prog w) A (call (.type "set") [.str z tk]) Q E s := by
  obtain ⟨c, tl, hmro⟩ := F.called_set.mro
  have hmade := F.called_set.made
  have hsub := F.called_set.sub
  refine wpAny_call (codeAny_of_tree ?_)
  show wpAny _ _ (callAny (.type "set") _) _ _ _
  refine wpAny_pure ⟨Code.quiet_builtin _ (by decide +kernel), codeAny_builtin F.entry_type_call ?_⟩
  rw [Around.under_plain (weight_type_call_type "set" [.str z tk] []) rfl]
  have h1 := F.called_set.notType
  have h2 := F.called_set.canCreate
  have hct := F.typeCall_set_1 (.str z tk)
  repeat (any_goals (first | assumption | wp_step))
  refine codeAny_mono (code_new1 (.str z tk) (E := E) (Q₁ := fun obj s₁ => obj = .ref s.heap.objs.size ∧ s₁ = { s with heap := s.heap.push (newSetO w) }) ⟨rfl, rfl⟩) fun r s₁ hr => ?_
  cases r with
  | error e => exact hr
  | ok fl =>
    cases fl with
    | ret obj =>
      obtain ⟨rfl, rfl⟩ := hr
      have hS : (s.heap.push (newSetO w)).get? s.heap.objs.size = some (newSetO w) := Heap.get?_push_size _ rfl
      have hT : Shared.TypeIs { s with heap := s.heap.push (newSetO w) } (.ref s.heap.objs.size) "set" := ⟨_, hS, rfl⟩
      have hli := F.called_set.init.lookup
      have hbi := F.called_set.init.bind (.ref s.heap.objs.size)
      repeat (any_goals (first | assumption | wp_step))
      refine codeAny_mono (codeAny_call_builtin (R := wants (fun r s₂ => r = .none ∧ ∃ h' tk', s₂ = { s with heap := h', toks := tk' } ∧ SetM w h' s.heap.objs.size (dedK (z.cps.toList.map fun c => .inr ⟨#[c]⟩)) ∧
          (∀ b o, b < s.heap.objs.size → s.heap.get? b = some o → h'.get? b = some o)) E) F.called_set.init.plain F.entry_set_init (check_set_init_1 hT ?_)) fun r₂ s₂ hr₂ => ?_
      · have hsls := sub_str_set
        have hslf := sub_str_frozenset
        have hne : (Value.type "str" == Value.type "dict") = false := by decide
        unfold Builtin.«set.__init__» noKeywords Builtin.Frozenset.updateFrom
        generalize hPI : pyIter = PI
        wp_walk
        subst hPI
        refine wpAny_pyIter_str fun o St W hst => ?_
        refine wpAny_bind (wpAny_runValue ?_)
        have hh3 : A.in1.in1.in1.handled = none := by simp [hh]
        have hSf : s.heap.objs.size ∉ [(s.heap.push (newSetO w)).objs.size] := by
          rw [Heap.size_push]
          simp only [List.mem_cons, List.mem_singleton, List.not_mem_nil, or_false]
          exact Nat.ne_of_lt (Nat.lt_succ_self _)
        have hval : ∀ (i : Nat) (v : Value), SignAt z i v → ∃ k, (z.cps.toList.map fun c => (.inr ⟨#[c]⟩ : Key))[i]? = some k ∧ keyIs k v = true := fun i v ⟨c, u, hc, e⟩ =>
          ⟨.inr ⟨#[c]⟩, by rw [List.getElem?_map, Array.getElem?_toList, hc]; rfl, by rw [e]; exact keyIs_str _ _⟩
        refine update_loop ((W A.in1.in1.in1 hh3).toS) s.heap.objs.size hSf (z.cps.toList.map fun c => .inr ⟨#[c]⟩) (by rw [List.length_map, Array.length_toList]) hval hb (z.cps.size - 0) 0 _ (by omega) (Nat.zero_le _) hst ?hS0 ?hR
        case hS0 => exact (fresh_ok w (led_ok w)).at fun o ho => Heap.get?_push_of_some _ ho
        case hR =>
          intro s' hm hS'
          obtain ⟨h', g', d', tk', os'⟩ := s'
          have eg : g' = s.gens := hm.gens
          have ed : d' = s.drawn := hm.drawn
          have eo : os' = s.os := hm.os
          subst eg; subst ed; subst eo
          show wpAny _ _ _ _ _ _
          refine wpAny_pure ?_
          show wpAny _ _ (ret Value.none) _ _ _
          refine wpAny_pure ⟨rfl, h', tk', rfl, hS', fun b o hb e => ?_⟩
          have hb1 : b ≠ s.heap.objs.size := Nat.ne_of_lt hb
          have hb2 : b ≠ (s.heap.push (newSetO w)).objs.size := by rw [Heap.size_push]; exact Nat.ne_of_lt (Nat.lt_succ_of_lt hb)
          exact hm.heap b o (by simp only [List.mem_cons, List.mem_singleton, List.not_mem_nil, or_false, not_or]; exact ⟨hb1, hb2⟩) (Heap.get?_push_of_some _ (Heap.get?_push_of_some _ e))
      · cases r₂ with
        | error e => exact hr₂
        | ok fl₂ =>
          cases fl₂ with
          | ret r =>
            obtain ⟨rfl, h', tk', rfl, hS', hk'⟩ := hr₂
            repeat (any_goals (first | assumption | wp_step))
            exact h _ _ hS' hk'
          | _ => exact hr₂.elim
    | _ => exact hr.elim
/-- texts of keys -/
def strsOf (ks : List Key) (xs : List Str) : Prop := ks = xs.map Sum.inr
theorem strs_of {ks : List Key} {xs : List Str} (h : ks = xs.map Sum.inr) : ∀ (l : List Value), (∀ v ∈ l, keyIs (keyE (0, v)) v = true) → (l.map fun v => keyE (0, v)).Perm ks → ∃ ys : List Str, ys.Perm xs ∧ StrsAre l ys := by
  intro l hk pm
  have key : ∀ l : List Value, (∀ v ∈ l, keyIs (keyE (0, v)) v = true) → (∀ v ∈ l, ∃ x, keyE (0, v) = .inr x) → ∃ ys : List Str, l.map (fun v => keyE (0, v)) = ys.map Sum.inr ∧ StrsAre l ys := by
    intro l
    induction l with
    | nil => intro _ _; exact ⟨[], rfl, .nil⟩
    | cons v l ih =>
      intro h1 h2
      obtain ⟨ys, e, hy⟩ := ih (fun u hu => h1 u (List.mem_cons_of_mem _ hu)) (fun u hu => h2 u (List.mem_cons_of_mem _ hu))
      obtain ⟨x, hx⟩ := h2 v List.mem_cons_self
      have hv := h1 v List.mem_cons_self
      rw [hx] at hv
      rcases keyIs_shape hv with ⟨i, t, q, _⟩ | ⟨x', t, q, rfl⟩
      · cases q
      · cases q
        exact ⟨x :: ys, by rw [List.map_cons, List.map_cons, hx, e], .cons x t hy⟩
  obtain ⟨ys, e, hy⟩ := key l hk fun v hv => by
    have q : keyE (0, v) ∈ ks := pm.mem_iff.mp (List.mem_map_of_mem hv)
    rw [h] at q
    obtain ⟨x, _, hx⟩ := List.mem_map.mp q
    exact ⟨x, hx.symm⟩
  refine ⟨ys, ?_, hy⟩
  rw [e, h] at pm
  have q := pm.filterMap (fun k : Key => match k with | .inr x => some x | _ => none)
  rw [List.filterMap_map, List.filterMap_map] at q
  have ev : ∀ zs : List Str, List.filterMap ((fun k : Key => match k with | .inr x => some x | _ => none) ∘ Sum.inr) zs = zs := fun zs => by
    induction zs with
    | nil => rfl
    | cons z zs ih => rw [List.filterMap_cons]; simp only [Function.comp]; rw [ih]
  rw [ev, ev] at q
  exact q
end
end SM
set_option Elab.async false
set_option linter.all false
set_option maxRecDepth 100000
set_option maxHeartbeats 4000000
/-! general: rules for sets of ints and texts, sorted of a text and of a set, set comprehensions -/
namespace SM
open PySem PySem.Spec PyProof.Rows L2
section
variable {P : Program} {w : World} {A : Around} {E : Value → Shared → Prop} {s : Shared} {a : Addr} {ks : List Key}
/-- sorted(v) of texts, v gathered by hcol -/
theorem sorted_coll {v : Value} {Pss : List Str → Prop} {Q : Value → Shared → Prop}
    (hcol : ∀ (E' : Value → Shared → Prop) (Q' : List Value → Shared → Prop), (∀ s1 vs ss, (∀ b o, s.heap.get? b = some o → s1.heap.get? b = some o) → s.heap.objs.size ≤ s1.heap.objs.size → s1.gens = s.gens → s1.os = s.os → StrsAre vs ss → ss.length ≤ sizeLine → Pss ss → Q' vs s1) → wpAny (model P w) A.in1 (collect v) Q' E' s)
    (hQ : ∀ s' p (out : Array Value) (c : Nat) (ss' ss : List Str), (∀ b o, s.heap.get? b = some o → s'.heap.get? b = some o) → s'.gens = s.gens → s'.os = s.os → s.heap.objs.size ≤ p →
      s'.heap.get? p = some (seqObj "list" out c) → StrsAre out.toList ss' → Pss ss → ss'.Perm ss → sortedS ss' = true → ss'.length ≤ sizeLine → Q (.ref p) s') :
    wpAny (model P w) A (call (.builtin "sorted") [v]) Q E s := by
  refine Calls.call_function_entry kind_sorted plain_sorted entry_sorted (args_sorted1 _) ?_
  unfold Builtin.«sorted»
  refine wpAny_bind (m := checkCount "sorted" 1 1 _) (wpAny_pure ?_)
  refine wpAny_bind (hcol _ _ fun s1 vs ss k1 hz g1 o1 hS hl hP => ?_)
  have hvl : vs.length ≤ sizeLine := by rw [StrsAre.length hS]; exact hl
  refine wpAny_bind (wpAny_newList ?_ hvl)
  have hoL : (s1.heap.push (seqObj "list" vs.toArray 0)).get? s1.heap.objs.size = some (seqObj "list" vs.toArray 0) := Heap.get?_push_size _ rfl
  refine wpAny_bind (wpAny_holding (wpAny_call_entry slot_list_sort ⟨_, hoL, rfl⟩ entry_list_sort (list_sort_treeKAny strKind_oneLt hoL hS.keysOf (fun v₁ v₂ rest e => keyKind_strs (by rw [← e]; exact hS)) hvl fun st' hp hs => ⟨_, rfl, ?_⟩) (args_list_sort _)))
  obtain ⟨ss', h1, h2, h3⟩ := sorted_out_str hS hp hs
  obtain ⟨c, hc⟩ := sortedHeap_at (vs := vs) (out := (arrOf st').map (·.2)) hoL
  refine wpAny_pure ⟨_, rfl, hQ _ s1.heap.objs.size _ c ss' ss (fun b u e => ?_) g1 o1 hz hc h1 hP h2 h3 (by rw [h2.length_eq]; exact hl)⟩
  have q := k1 b u e
  have hlt := Heap.lt_size q
  show (sortedHeap (s1.heap.push (seqObj "list" vs.toArray 0)) s1.heap.objs.size vs _).get? b = some u
  rw [sortedHeap_old (Nat.ne_of_lt hlt) (by rw [size_push']; exact Nat.lt_succ_of_lt hlt)]
  exact Heap.get?_push_of_some _ q
theorem sorted_setS {xs : List Str} {Q : Value → Shared → Prop} (R : SetM w s.heap a (xs.map Sum.inr)) (hh : A.handled = none)
    (hQ : ∀ s' p (out : Array Value) (c : Nat) (ss : List Str), (∀ b o, s.heap.get? b = some o → s'.heap.get? b = some o) → s'.gens = s.gens → s'.os = s.os → s.heap.objs.size ≤ p →
      s'.heap.get? p = some (seqObj "list" out c) → StrsAre out.toList ss → ss.Perm xs → sortedS ss = true → ss.length ≤ sizeLine → Q (.ref p) s') :
    wpAny (model P w) A (call (.builtin "sorted") [.ref a]) Q E s := by
  obtain ⟨o, es, ep, t, ho, hex, hd, g, pm, nd, hb, hf, hr, hl⟩ := R
  refine sorted_coll (Pss := fun ss => ss.Perm xs) (fun E' Q' h' => ?_) fun s' p out c ss' ss k g1 o1 hp hg h1 hP h2 h3 h4 => hQ s' p out c ss' k g1 o1 hp hg h1 (h2.trans hP) h3 h4
  refine collect_set (A := A.in1) hh ⟨o, ho, hex.1, hd⟩ hf hb hr hl fun s1 vs k1 hz g1 o1 pv => ?_
  have ev : ∀ v ∈ vs, keyIs (keyE (0, v)) v = true := fun v hv => by
    obtain ⟨e, he, q⟩ := List.mem_map.mp (pv.mem_iff.mp hv)
    have z := (g e he).is
    rw [← q]
    exact z
  have pk : (vs.map fun v => keyE (0, v)).Perm (xs.map Sum.inr) := by
    have q := pv.map fun v => keyE (0, v)
    rw [List.map_map] at q
    exact q.trans pm
  obtain ⟨ys, py, hy⟩ := strs_of rfl vs ev pk
  have hyl : ys.length ≤ sizeLine := by
    rw [py.length_eq, show xs.length = es.size by rw [← List.length_map (f := (Sum.inr : Str → Key)), ← pm.length_eq, List.length_map, Array.length_toList]]
    exact fits_of_scanBound hb
  exact h' s1 vs ys k1 hz g1 o1 hy hyl py
theorem signs_are : ∀ (l : List Value) (cs : List Nat), l.length = cs.length → (∀ (i : Nat) (v : Value), l[i]? = some v → ∃ c u, cs[i]? = some c ∧ v = .str ⟨#[c]⟩ u) → StrsAre l (cs.map fun c => (⟨#[c]⟩ : Str))
  | [], [], _, _ => .nil
  | [], _ :: _, h, _ => by simp at h
  | _ :: _, [], h, _ => by simp at h
  | v :: l, c :: cs, h, q => by
    obtain ⟨c', u, e1, e2⟩ := q 0 v rfl
    have e3 : c = c' := by simpa using e1
    subst e3
    rw [e2]
    exact .cons _ u (signs_are l cs (by simpa using h) fun i v hv => by
      obtain ⟨c2, u2, a1, a2⟩ := q (i + 1) v (by simpa using hv)
      exact ⟨c2, u2, by simpa using a1, a2⟩)
theorem collect_text {Q : List Value → Shared → Prop} (hh : A.handled = none) (x : Str) (t : Tok) (hn : x.cps.size ≤ sizeLine)
    (hQ : ∀ s' acc, (∀ b o, s.heap.get? b = some o → s'.heap.get? b = some o) → s.heap.objs.size ≤ s'.heap.objs.size → s'.gens = s.gens → s'.os = s.os → ItemsOf (SignAt x) acc x.cps.size → Q acc.toList s') :
    wpAny (model P w) A (collect (.str x t)) Q E s := by
  unfold collect
  refine wpAny_bind (wpAny_runValue (codeAny_builtin F.entry_proto_collect ?_))
  rw [Around.under_plainId F.plain_proto_collect _]
  show wpAny _ A.in1 (newList [] >>= fun l => again (.builtin "list.__iadd__" ⟨[l, .str x t], []⟩)) _ _ s
  refine wpAny_bind (wpAny_newObj_type ?_)
  refine wpAny_pure ⟨plainId_quiet F.plain_list_iadd _, codeAny_builtin F.entry_list_iadd ?_⟩
  rw [Around.under_plainId F.plain_list_iadd _]
  show wpAny _ A.in1 (Builtin.List.listExtendWith (.ref s.heap.objs.size) (.str x t) (.ref s.heap.objs.size)) _ _ _
  unfold Builtin.List.listExtendWith
  refine wpAny_bind (wpAny_typeOf (T := "str") (v := .str x t) rfl ?_)
  have h1 : Builtin.List.listSameRef (.ref s.heap.objs.size) (.str x t) = false := rfl
  have h2 : (Value.type "str" == Value.type "list") = false := by decide
  have h3 : (Value.type "str" == Value.type "tuple") = false := by decide
  simp only [h1, h2, h3, Bool.or_false, Bool.false_eq_true, if_false]
  refine wpAny_bind (wpAny_pyIter_str fun o St W hst => ?_)
  refine wpAny_bind (wpAny_holding ?_)
  unfold Builtin.List.listLengthHint
  refine wpAny_bind (wpAny_specialOf (T := "str") (v := .str x t) rfl F.str_len ?_)
  wp_delta
  refine wpAny_bind (wpAny_isInstance (T := "str") (v := .str x t) (b := true) rfl (by rw [isSubtype_type]; kernel_rfl) ?_)
  show wpAny _ A.in1 (typeOf (Value.str x t) >>= _) _ _ _
  refine wpAny_bind (wpAny_typeOf (T := "str") (v := .str x t) rfl ?_)
  refine wpAny_pure ?_
  rw [if_neg (by decide)]
  generalize hH : s.heap.push { cls := .type "list", data := .seq ([] : List Value).toArray } = H at W hst ⊢
  have hHs : H.objs.size = s.heap.objs.size + 1 := by rw [← hH, Heap.size_push]
  have hSf : s.heap.objs.size ∉ [H.objs.size] := fun hm => by rw [List.mem_singleton.mp hm] at hHs; exact absurd hHs (Nat.ne_of_lt (Nat.lt_succ_self _))
  have hS : (H.push o).get? s.heap.objs.size = some { cls := .type "list", data := .seq ([] : List Value).toArray } := Heap.get?_push_of_some _ (hH ▸ Heap.get?_push_size _ rfl)
  refine wpAny_pure ⟨plainId_quiet F.plain_extend_loop _, codeAny_extend_loopS (W A.in1 hh).toS hn _ hSf _ x.cps.size 0 _ _ _ rfl (Nat.zero_le _) hst hS (ItemsOf.nil _) fun s' acc' c' hm hS' hacc => ?_⟩
  show wpAny _ A (load s.heap.objs.size >>= _) _ _ s'
  refine wpAny_bind (wpAny_load hS' ?_)
  refine wpAny_pure (hQ s' acc' (fun b ob e => hm.heap b ob (fun hb => ?_) (Heap.get?_push_of_some _ (hH ▸ Heap.get?_push_of_some _ e))) (Nat.le_of_lt (Heap.lt_size hS')) hm.gens hm.os hacc)
  have hlt := Heap.lt_size e
  rcases List.mem_cons.mp hb with h | h
  · exact absurd hlt (h ▸ Nat.lt_irrefl _)
  · rw [List.mem_singleton.mp h, hHs] at hlt; exact absurd hlt (Nat.not_lt.mpr (Nat.le_succ _))
theorem sorted_text {z : Str} {tk : Tok} {Q : Value → Shared → Prop} (hh : A.handled = none) (hz : z.length ≤ sizeLine)
    (hQ : ∀ s' p (out : Array Value) (c : Nat) (ss : List Str), (∀ b o, s.heap.get? b = some o → s'.heap.get? b = some o) → s'.gens = s.gens → s'.os = s.os → s.heap.objs.size ≤ p →
      s'.heap.get? p = some (seqObj "list" out c) → StrsAre out.toList ss → ss.Perm (z.cps.toList.map fun c => ⟨#[c]⟩) → sortedS ss = true → ss.length ≤ sizeLine → Q (.ref p) s') :
    wpAny (model P w) A (call (.builtin "sorted") [.str z tk]) Q E s := by
  refine sorted_coll (Pss := fun ss => ss = z.cps.toList.map fun c => ⟨#[c]⟩) (fun E' Q' h' => ?_) fun s' p out c ss' ss k g1 o1 hp hg h1 hP h2 h3 h4 => hQ s' p out c ss' k g1 o1 hp hg h1 (hP ▸ h2) h3 h4
  refine collect_text (P := P) (w := w) (A := A.in1) hh z tk hz fun s1 acc k1 hz1 g1 o1 hi => ?_
  refine h' s1 _ _ k1 hz1 g1 o1 (signs_are acc.toList z.cps.toList (by rw [Array.length_toList, Array.length_toList]; exact hi.1) fun i v hv => ?_) (by rw [List.length_map, Array.length_toList]; exact hz) rfl
  rw [Array.getElem?_toList] at hv
  obtain ⟨c, u, e1, e2⟩ := hi.2 i v hv
  exact ⟨c, u, by rw [Array.getElem?_toList]; exact e1, e2⟩
end
/-! ### rules -/
/-- the set at a -/
def SetL (w : World) (a : Addr) (ks : List Key) : HO := .ext fun h => SetM w h a ks
section
variable {X : Cx}
theorem setL_new {w : World} {P : Program} {H : Hp} {h : Heap} {a : Addr} {ks : List Key} (R : SetM w h a ks) : ObjOk P w H h a (SetL w a ks) := by
  have ⟨o, _, _, _, ho, _⟩ := R
  exact ⟨R, ⟨o, ho⟩, fun h1 h2 p k => SetM.at p k⟩
theorem setL_get {pins : List (Addr × Obj)} {σ : L2.St} {H : Hp} {s : Shared} {a : Addr} {ks : List Key} (I : Inv X pins σ H s) (ha : H a = some (SetL X.w a ks)) : SetM X.w s.heap a ks := (I.hok a _ ha).1
/-- the signs of a text -/
def signs (z : Str) : List Str := z.cps.toList.map fun c => ⟨#[c]⟩
theorem signs_len (z : Str) : (signs z).length = z.length := by
  unfold signs
  rw [List.length_map, Array.length_toList]
  rfl
theorem signs_map (z : Str) : (signs z).map (Sum.inr : Str → Key) = z.cps.toList.map fun c => .inr ⟨#[c]⟩ := by
  unfold signs
  rw [List.map_map]
  rfl
/-- set(text) -/
def rSetStr (w : World) : List V → Hp → VK → Prop := fun vs H Q => ∃ z : Str, vs = [.str z] ∧ z.length + 1 < scanBound ∧ ∀ p, H p = none → Q (.ref p) (upd H p (SetL w p (dedK ((signs z).map Sum.inr))))
theorem cr_setStr (hc : X.calm = true) : CallR X (.type "set") (rSetStr X.w) := by
  intro pins s σ H vs us Q I r h
  obtain ⟨z, rfl, hl, q⟩ := h
  cases r with
  | cons r t =>
    cases t
    obtain ⟨tk, rfl⟩ := r
    refine call_set_str (I.ok.hd hc) hl fun h' tk' hS hk => ?_
    have e : s = { s with heap := s.heap, gens := s.gens, drawn := s.drawn, toks := s.toks } := rfl
    have hn : H s.heap.objs.size = none := I.hok.fresh (Nat.le_refl _)
    have k : ∀ b o, s.heap.get? b = some o → h'.get? b = some o := fun b o e => hk b o (Heap.lt_size e) e
    rw [← signs_map] at hS
    have J : Inv X pins σ (upd H s.heap.objs.size (SetL X.w s.heap.objs.size (dedK ((signs z).map Sum.inr)))) { s with heap := h', gens := s.gens, drawn := s.drawn, toks := tk' } :=
      I.call (ch := []) (Un.laid k (Nat.le_refl _) hn) (I.hok.laid k (Nat.le_refl _) (setL_new hS)) I.bare (fun _ z => nomatch z)
    exact ⟨.ref _, _, J, rfl, q _ hn⟩
/-- len(set) -/
def rLenSet (w : World) : List V → Hp → VK → Prop := fun vs H Q => ∃ (a : Addr) (ks : List Key), vs = [.ref a] ∧ H a = some (SetL w a ks) ∧ Q (.int (ks.length : Int)) H
theorem cr_lenSet : CallR X (.builtin "len") (rLenSet X.w) := by
  intro pins s σ H vs us Q I r h
  obtain ⟨a, ks, rfl, ha, q⟩ := h
  rw [Vals.ref1 r]
  obtain ⟨o, es, ep, t, ho, hex, hd, g, pm, nd, hb, hf, _⟩ := setL_get I ha
  have hn : es.size = ks.length := by rw [← pm.length_eq, List.length_map, Array.length_toList]
  have hb2 : es.size < 4096 := hb
  exact call_len_set ho hex hd hf (by omega) ⟨.int ks.length, H, I.tok _, ⟨_, by rw [hn]⟩, q⟩
theorem sorted_in {pins : List (Addr × Obj)} {σ : L2.St} {H : Hp} {s s' : Shared} {p : Addr} {out : Array Value} {c : Nat} {ss : List Str} (I : Inv X pins σ H s) (k : ∀ b o, s.heap.get? b = some o → s'.heap.get? b = some o) (g : s'.gens = s.gens) (o : s'.os = s.os) (hp : s.heap.objs.size ≤ p)
    (hg : s'.heap.get? p = some (seqObj "list" out c)) (hi : StrsAre out.toList ss) (hl : ss.length ≤ sizeLine) : Inv X pins σ (upd H p (.lst (ss.map V.str))) s' ∧ H p = none := by
  have hlen : (ss.map V.str).length ≤ sizeLine := by rw [List.length_map]; exact hl
  have hn : H p = none := I.hok.fresh hp
  have J : Inv X pins σ (upd H p (.lst (ss.map V.str))) { s with heap := s'.heap, gens := s'.gens, drawn := s'.drawn, toks := s'.toks } :=
    I.call (ch := []) (Un.laid k hp hn) (I.hok.laid k hp ⟨hlen, out.toList, c, vals_of_strs hi, hg⟩) (by rw [g]; exact I.bare) (fun _ z => nomatch z)
  have e : s' = { s with heap := s'.heap, gens := s'.gens, drawn := s'.drawn, toks := s'.toks } := by
    cases s'
    cases s
    cases o
    rfl
  rw [e]
  exact ⟨J, hn⟩
/-- sorted(set of texts) -/
def rSortSet (w : World) : List V → Hp → VK → Prop := fun vs H Q => ∃ (a : Addr) (xs : List Str), vs = [.ref a] ∧ H a = some (SetL w a (xs.map Sum.inr)) ∧ ∀ (ys : List Str) (p : Addr), ys.Perm xs → sortedS ys = true → H p = none → Q (.ref p) (upd H p (.lst (ys.map V.str)))
theorem cr_sortSet (hc : X.calm = true) : CallR X (.builtin "sorted") (rSortSet X.w) := by
  intro pins s σ H vs us Q I r h
  obtain ⟨a, xs, rfl, ha, q⟩ := h
  rw [Vals.ref1 r]
  refine sorted_setS (setL_get I ha) (I.ok.hd hc) fun s' p out c ss k g o hp hg hi pm hs hl => ?_
  obtain ⟨J, hn⟩ := sorted_in I k g o hp hg hi hl
  exact ⟨.ref p, _, J, rfl, q ss p pm hs hn⟩
/-- sorted(text) -/
def rSortStr : List V → Hp → VK → Prop := fun vs H Q => ∃ z : Str, vs = [.str z] ∧ z.length ≤ sizeLine ∧ ∀ (ys : List Str) (p : Addr), ys.Perm (signs z) → sortedS ys = true → H p = none → Q (.ref p) (upd H p (.lst (ys.map V.str)))
theorem cr_sortStr (hc : X.calm = true) : CallR X (.builtin "sorted") rSortStr := by
  intro pins s σ H vs us Q I r h
  obtain ⟨z, rfl, hz, q⟩ := h
  cases r with
  | cons r t =>
    cases t
    obtain ⟨tk, rfl⟩ := r
    refine sorted_text (I.ok.hd hc) hz fun s' p out c ss k g o hp hg hi pm hs hl => ?_
    obtain ⟨J, hn⟩ := sorted_in I k g o hp hg hi hl
    exact ⟨.ref p, _, J, rfl, q ss p pm hs hn⟩
end
end SM
set_option Elab.async false
set_option linter.all false
set_option maxRecDepth 100000
set_option maxHeartbeats 4000000
/-! general: set comprehensions of ints and texts -/
namespace SM
open PySem PySem.Spec PyProof.Rows L2
section
variable {X : Cx}
theorem addK_ok {pins : List (Addr × Obj)} {σ : L2.St} {H : Hp} {s : Shared} {E : Value → Shared → Prop} {D : Addr} {ks : List Key} {k : Key} {u : Value} {Q : Value → Shared → Prop} (I : Inv X pins σ H s) (hD : H D = some (SetL X.w D ks)) (hk : keyIs k u = true) (room : ks.length + 1 < scanBound)
    (h : ∀ s', Inv X pins σ (upd H D (SetL X.w D (insK ks k))) s' → Q .none s') : wpAny (model X.prog X.w) X.A (call (.builtin "set.add") [.ref D, u]) Q E s := by
  have R := setL_get I hD
  refine call_add hk R room fun h' sb new => ?_
  have he : ∃ u, h'.get? D = some u := by
    have ⟨o, _, _, _, ho, _⟩ := new
    exact ⟨o, ho⟩
  exact h _ (I.write (e := D) (t' := s.toks + 1) (by rw [hD]; trivial) (.inl rfl) (fun b u hb hu => (sb.2 b hb).trans hu) he (setL_new new))
/-- {elt for target in iter if ..}, elt an int or a text: D the new set -/
def tScK (w : World) (wi : TI) (g : TG) (tt : TT) (te : TE) (vs : List Nat) : TE := fun σ H Q => wi σ H fun J H1 => ∀ D, H1 D = none → ∃ W : Nat → Nat → Hp → Prop, (∃ m, W 0 m (upd H1 D (SetL w D []))) ∧ ∀ i m H, W i m H →
  (J.stop i H ∧ Q (.ref D) H) ∨ (J.go i H ∧ ∃ Nx : Hp → Prop, (∀ H', Nx H' → ∃ m', m' < m ∧ W (i + 1) m' H') ∧ ∀ x H', J.yld i H x H' → g x (wipe σ vs) H' fun σ2 H2 => wipe σ2 vs = wipe σ vs ∧ tt σ2 H2 fun b H3 =>
    if b = true then te σ2 H3 fun y H4 => ∃ (k : Key) (ks : List Key), y = kV k ∧ H4 D = some (SetL w D ks) ∧ ks.length + 1 < scanBound ∧ Nx (upd H4 D (SetL w D (insK ks k))) else Nx H3)
theorem scK_core {pins : List (Addr × Obj)} {s : Shared} {σ : L2.St} {H : Hp} {Q : VK} {elt tg iter : Expr} {ifs : List Expr} {scope : Scope} {own : List (PySem.Str × Nat)} {pos pos' : Pos} {wi : TI} {g : TG} {tt : TT} {te : TE} {use : Option (Value → Sem Unit)} {Qf : Value → Shared → Prop}
    (hc : X.calm = true) (hN : X.N.Nodup) (I : Inv X pins σ H s) (hi : PI X tg iter wi) (ok : BlkOk X.N X.env.scope scope own)
    (hg : ∀ (s : Shared) (H : Hp) (C : Addr) (cl : List (PySem.Str × Addr)) (fp : List Addr), PG (X.blk s H scope (compEnvC scope cl C X.env) fp) tg g) (ht : ∀ (s : Shared) (H : Hp) (C : Addr) (cl : List (PySem.Str × Addr)) (fp : List Addr), PTs (X.blk s H scope (compEnvC scope cl C X.env) fp) ifs tt)
    (he : ∀ (s : Shared) (H : Hp) (C : Addr) (cl : List (PySem.Str × Addr)) (fp : List Addr), PE (X.blk s H scope (compEnvC scope cl C X.env) fp) elt te) (hs : ∀ x, foldedSetIterable iter X.env x = pure x)
    (h : tScK X.w wi g tt te (own.map (·.2)) σ H Q)
    (hRR : ∀ D C s' m H', Inv X pins σ H' s' → Q (.ref D) H' → s'.heap.Ns C m → FpOk X pins H' C → compPost (model X.prog X.w) X.A X.xe use Qf (.ref D) C (.ok .next) s') :
    wpAny (model X.prog X.w) X.A (comprehension (.SetComp elt [⟨tg, iter, ifs, 0⟩] scope pos) scope X.env pos' (newSet (.type "set")) false (eval iter X.env) use) Qf X.xe s := by
  have hfree : ∀ y ∈ scope.names, y.2 = .free → ∃ c, X.env.cells.lookup y.1 = some c := fun y hy e => by
    rcases ok.free y hy e with k | k
    · exact I.ok.has _ (.inl k)
    · exact I.ok.has _ (.inr k)
  refine wpAny_comprehension_free (use := use) rfl hs (closure_ok hfree) ok.kind (fun y hy e => by rw [ok.uniq y hy, e])
    (thn (hi.run pins s σ H _ I h) fun xv s1 hx => thn hx fun itv s2 h2 => ?_)
  obtain ⟨it, fp, tn, J, H2, e, I2, T, st2, f2, q⟩ := h2
  subst e
  refine PpSet.newSet_ok (newEnv_comp ?_)
  generalize hD : s2.heap.objs.size = D
  have hDn : H2 D = none := I2.hok.fresh (Nat.le_of_eq hD)
  obtain ⟨W, ⟨m0, w0⟩, turn⟩ := q D hDn
  generalize hs3 : ({ s2 with heap := s2.heap.push (newSetO X.w) } : Shared) = s3
  have I3 : Inv X pins σ (upd H2 D (SetL X.w D [])) s3 := by
    rw [← hs3]
    refine I2.laid (t' := s2.toks) (fun b o e => Heap.get?_push_of_some _ e) (Nat.le_of_eq hD) ?_
    rw [← hD]
    exact setL_new (fresh_ok X.w (led_ok X.w))
  have h3 : s3.heap = s2.heap.push (newSetO X.w) := by rw [← hs3]
  have sz : ∀ b ∈ fp, b < s2.heap.objs.size := fun b hb => by
    obtain ⟨o, e, _⟩ := T.obj _ _ st2 b hb
    exact Heap.lt_size e
  have f3 : ∀ b ∈ fp, FpOk X pins (upd H2 D (SetL X.w D [])) b ∧ b < s3.heap.objs.size := fun b hb => by
    have hlt := sz b hb
    refine ⟨⟨?_, (f2 b hb).2⟩, by rw [h3, Heap.size_push]; exact Nat.lt_succ_of_lt hlt⟩
    rw [upd_ne (by rw [← hD]; exact Nat.ne_of_lt hlt)]
    exact (f2 b hb).1
  have st3 : tn 0 s3.heap := T.keep _ _ _ st2 fun b _ o e => by rw [h3]; exact Heap.get?_push_of_some _ e
  have I4 := block_start I3 ok hN f3
  have pg := hg s3 (upd H2 D (SetL X.w D [])) s3.heap.objs.size (cellsFrom (s3.heap.objs.size + 1) scope.names (cloFrom X.env.cells scope.names [])) fp
  have pt := ht s3 (upd H2 D (SetL X.w D [])) s3.heap.objs.size (cellsFrom (s3.heap.objs.size + 1) scope.names (cloFrom X.env.cells scope.names [])) fp
  have pe := he s3 (upd H2 D (SetL X.w D [])) s3.heap.objs.size (cellsFrom (s3.heap.objs.size + 1) scope.names (cloFrom X.env.cells scope.names [])) fp
  show codeAny _ _ (.compStart (.SetComp elt [⟨tg, iter, ifs, 0⟩] scope pos) 0 (.ref it) (.ref D) (compEnvC scope (cellsFrom (s3.heap.objs.size + 1) scope.names (cloFrom X.env.cells scope.names [])) s3.heap.objs.size X.env)) (compPost (model X.prog X.w) X.A X.xe use Qf (.ref D) s3.heap.objs.size) { s3 with heap := pushCells (s3.heap.push { cls := .type "dict", data := .dict #[] }) scope.names }
  have nfp : ∀ b ∈ fp, (upd H2 D (SetL X.w D [])) b = none := fun b hb => (f3 b hb).1.1
  generalize hce : compEnvC scope (cellsFrom (s3.heap.objs.size + 1) scope.names (cloFrom X.env.cells scope.names [])) s3.heap.objs.size X.env = ce at I4 pg pt pe ⊢
  have cL : ce.locals = s3.heap.objs.size := by subst hce; rfl
  generalize hH3 : upd H2 D (SetL X.w D []) = H3 at I3 I4 pg pt pe w0 nfp f3
  generalize hs4 : ({ s3 with heap := pushCells (s3.heap.push { cls := .type "dict", data := .dict #[] }) scope.names } : Shared) = s4 at I4 ⊢
  have st4 : tn 0 s4.heap := T.keep _ _ _ st3 fun b _ o e => by rw [← hs4]; exact pushCells_keeps _ _ _ _ (Heap.get?_push_of_some _ e)
  have stat : ∀ {σ' : L2.St} {H' : Hp} {s' : Shared}, Inv (X.blk s3 H3 scope ce fp) [] σ' H' s' → (∀ b ∈ fp, H' b = none) → ∀ b ∈ fp, FpOk (X.blk s3 H3 scope ce fp) [] H' b := fun {σ' H' s'} I' hn b hb =>
    ⟨hn b hb, (I'.ok.exf b hb).1, I'.ok.exfs b hb, .inl hb, fun x c e => (I'.ok.exf b hb).2 x c e, fun p hp => absurd (show p ∈ ([] : List (Addr × Obj)) ++ [] from hp) (by simp)⟩
  have loop : codeAny (model X.prog X.w) X.A (.compLoop (.SetComp elt [⟨tg, iter, ifs, 0⟩] scope pos) 0 (.ref it) (.ref D) ce) (compPost (model X.prog X.w) X.A X.xe use Qf (.ref D) s3.heap.objs.size) s4 := by
    refine PpSet.compLoopS_any (fun n s' => ∃ i H', Inv (X.blk s3 H3 scope ce fp) [] (wipe σ (own.map (·.2))) H' s' ∧ tn i s'.heap ∧ (∀ b ∈ fp, H' b = none) ∧ W i n H') ?_ m0 ⟨0, H3, I4, st4, nfp, w0⟩
    rintro n s5 ⟨i, H5, I5, st5, n5, w5⟩
    rcases turn i n H5 w5 with ⟨stop, qq⟩ | ⟨go, Nx, hNx, step⟩
    · have td := T.done (X.blk s3 H3 scope ce fp) rfl rfl rfl hc i [] s5 _ H5 (fun _ _ => False) I5 (stat I5 n5) st5 stop
      refine thnF td fun r s6 ⟨hr, I6⟩ => ?_
      subst hr
      have I7 : Inv X pins σ H5 s6 := I3.call' (ch := fp) I6.os I6.base I6.hok I6.bare fun b hb => ⟨(f3 b hb).1.2.2.2.1, (f3 b hb).1.2.1, (f3 b hb).1.2.2.2.2.1, (f3 b hb).1.2.2.2.2.2⟩
      have nC : H5 s3.heap.objs.size = none := by
        have z : H5 ce.locals = none := I6.free
        rw [cL] at z
        exact z
      obtain ⟨m, hn, _⟩ := I6.loc
      have hn : s6.heap.Ns ce.locals m := hn
      rw [cL] at hn
      exact hRR D s3.heap.objs.size s6 m H5 I7 qq hn (I3.fpOk (Nat.le_refl _) nC)
    · have ti := T.item (X.blk s3 H3 scope ce fp) rfl rfl rfl hc i [] s5 _ H5 (fun _ _ => False) I5 (stat I5 n5) st5 go
      refine thnF ti fun r s6 ⟨u, hr, h6⟩ => ?_
      subst hr
      refine thnF h6 fun _ s7 ⟨x, H7, I7, r7, y7, st7, n7⟩ => ?_
      have I7' := I7.pinned (stat I7 n7) (T.obj _ _ st7)
      refine thnF (pg.run _ s7 _ H7 x u _ I7' r7 (step x H7 y7)) fun _ s8 ⟨σ8, H8, I8, hw8, q8⟩ => ?_
      refine thnF (pt.run _ s8 σ8 H8 _ I8 q8) fun b s9 ⟨H9, I9, q9⟩ => ?_
      have fin : ∀ {s' : Shared} {H' : Hp}, Inv (X.blk s3 H3 scope ce fp) ([] ++ pinsAt fp s7.heap) σ8 H' s' → Nx H' → ∃ m, m < n ∧ ∃ i H', Inv (X.blk s3 H3 scope ce fp) [] (wipe σ (own.map (·.2))) H' s' ∧ tn i s'.heap ∧ (∀ b ∈ fp, H' b = none) ∧ W i m H' := fun {s' H'} I' nx => by
        obtain ⟨m', hm, w'⟩ := hNx H' nx
        have pin' : ∀ b ∈ fp, ∀ o, s7.heap.get? b = some o → s'.heap.get? b = some o ∧ H' b = none := fun b hb o e =>
          let z := I'.pin (b, o) (List.mem_append_right _ (List.mem_append_right _ (mem_pinsAt hb e)))
          ⟨z.1, z.2.1⟩
        have hl : (wipe σ (own.map (·.2))).length = σ8.length := by rw [← hw8, wipe_length]
        refine ⟨m', hm, i + 1, H', (I'.unpinned (pins := [])).weak hl (fun j v e => ?_), T.keep _ _ _ st7 fun b hb o e => (pin' b hb o e).1, fun b hb => ?_, w'⟩
        · rw [← hw8] at e
          exact (wipe_some e).1
        · obtain ⟨o, e, _⟩ := T.obj _ _ st7 b hb
          exact (pin' b hb o e).2
      cases b with
      | false =>
        simp only [Bool.false_eq_true, if_false] at q9 ⊢
        exact fin I9 q9
      | true =>
        simp only [if_true] at q9 ⊢
        refine thnF (pe.run _ s9 σ8 H9 _ I9 q9) fun z s10 ⟨yv, H10, I10, r10, k0, ks0, ey, hD10, hz10, nx⟩ => ?_
        subst ey
        exact addK_ok (X := X.blk s3 H3 scope ce fp) I10 hD10 (kV_is (P := X.prog) (w := X.w) r10) hz10 fun s11 I11 => fin I11 nx
  exact PpSet.codeAny_compStart_set loop (T.self X.A 0 _ _ _ st4 loop)
/-- as a value -/
theorem pe_scK {elt tg iter : Expr} {ifs : List Expr} {scope : Scope} {own : List (PySem.Str × Nat)} {pos : Pos} {wi : TI} {g : TG} {tt : TT} {te : TE} (hc : X.calm = true) (hN : X.N.Nodup) (hi : PI X tg iter wi) (ok : BlkOk X.N X.env.scope scope own)
    (hg : ∀ (s : Shared) (H : Hp) (C : Addr) (cl : List (PySem.Str × Addr)) (fp : List Addr), PG (X.blk s H scope (compEnvC scope cl C X.env) fp) tg g) (ht : ∀ (s : Shared) (H : Hp) (C : Addr) (cl : List (PySem.Str × Addr)) (fp : List Addr), PTs (X.blk s H scope (compEnvC scope cl C X.env) fp) ifs tt)
    (he : ∀ (s : Shared) (H : Hp) (C : Addr) (cl : List (PySem.Str × Addr)) (fp : List Addr), PE (X.blk s H scope (compEnvC scope cl C X.env) fp) elt te) (hs : ∀ x, foldedSetIterable iter X.env x = pure x := by intro _; rfl) :
    PE X (.SetComp elt [⟨tg, iter, ifs, 0⟩] scope pos) (tScK X.w wi g tt te (own.map (·.2))) := by
  refine ⟨fun pins s σ H Q I h => ?_⟩
  rw [PpSet.eval_SetComp]
  refine scK_core hc hN I hi ok hg ht he hs h fun D C s' m H' I' q hn f => ⟨m, hn, fun h'' sb => ?_⟩
  obtain ⟨f0, f1, f2, f3, f4, f5⟩ := f
  exact ⟨.ref D, H', I'.turned (t' := s'.toks) (fun b o hb e => (sb.2 b hb).trans e) f0 f1 f3 f4 f5, rfl, q⟩
end
/-- over a list or tuple that the block leaves as it is -/
theorem sc_at {J : It} {w : World} {xs : List V} {g : TG} {tt : TT} {te : TE} {vs : List Nat} {σ : L2.St} {H1 : Hp} {D : Addr} {Qd : Hp → Prop} (Pv : Nat → Hp → Prop) (h0 : Pv 0 (upd H1 D (SetL w D [])))
    (hj : ∀ i H, i ≤ xs.length → Pv i H → (i < xs.length → J.go i H ∧ ∀ x H', J.yld i H x H' → H' = H ∧ xs[i]? = some x) ∧ (i = xs.length → J.stop i H))
    (hs : ∀ i x H, xs[i]? = some x → Pv i H → g x (wipe σ vs) H fun σ2 H2 => wipe σ2 vs = wipe σ vs ∧ tt σ2 H2 fun b H3 =>
      if b = true then te σ2 H3 fun y H4 => ∃ (k : Key) (ks : List Key), y = kV k ∧ H4 D = some (SetL w D ks) ∧ ks.length + 1 < scanBound ∧ Pv (i + 1) (upd H4 D (SetL w D (insK ks k))) else Pv (i + 1) H3) (hd : ∀ H, Pv xs.length H → Qd H) :
    ∃ W : Nat → Nat → Hp → Prop, (∃ m, W 0 m (upd H1 D (SetL w D []))) ∧ ∀ i m H, W i m H →
      (J.stop i H ∧ Qd H) ∨ (J.go i H ∧ ∃ Nx : Hp → Prop, (∀ H', Nx H' → ∃ m', m' < m ∧ W (i + 1) m' H') ∧ ∀ x H', J.yld i H x H' → g x (wipe σ vs) H' fun σ2 H2 => wipe σ2 vs = wipe σ vs ∧ tt σ2 H2 fun b H3 =>
        if b = true then te σ2 H3 fun y H4 => ∃ (k : Key) (ks : List Key), y = kV k ∧ H4 D = some (SetL w D ks) ∧ ks.length + 1 < scanBound ∧ Nx (upd H4 D (SetL w D (insK ks k))) else Nx H3) := by
  refine ⟨fun i m H => m = xs.length - i ∧ i ≤ xs.length ∧ Pv i H, ⟨xs.length, by simp, Nat.zero_le _, h0⟩, ?_⟩
  rintro i m H ⟨rfl, hi, p⟩
  obtain ⟨q1, q2⟩ := hj i H hi p
  by_cases hlt : i < xs.length
  · obtain ⟨q3, q4⟩ := q1 hlt
    refine .inr ⟨q3, Pv (i + 1), fun H' p' => ⟨xs.length - (i + 1), by omega, rfl, hlt, p'⟩, fun x H' y => ?_⟩
    obtain ⟨e, hx⟩ := q4 x H' y
    subst e
    exact hs i x _ hx p
  · have e : i = xs.length := by omega
    subst e
    exact .inl ⟨q2 rfl, hd H p⟩
theorem sc_tupK {K : PySem.W.Frag} {a : Addr} {w : World} {xs : List V} {g : TG} {tt : TT} {te : TE} {vs : List Nat} {σ : L2.St} {H1 : Hp} {D : Addr} {Qd : Hp → Prop} (Pv : Nat → Hp → Prop) (h0 : Pv 0 (upd H1 D (SetL w D [])))
    (hl : ∀ i H, i ≤ xs.length → Pv i H → SqT K H a xs)
    (hs : ∀ i x H, xs[i]? = some x → Pv i H → g x (wipe σ vs) H fun σ2 H2 => wipe σ2 vs = wipe σ vs ∧ tt σ2 H2 fun b H3 =>
      if b = true then te σ2 H3 fun y H4 => ∃ (k : Key) (ks : List Key), y = kV k ∧ H4 D = some (SetL w D ks) ∧ ks.length + 1 < scanBound ∧ Pv (i + 1) (upd H4 D (SetL w D (insK ks k))) else Pv (i + 1) H3) (hd : ∀ H, Pv xs.length H → Qd H) :
    ∃ W : Nat → Nat → Hp → Prop, (∃ m, W 0 m (upd H1 D (SetL w D []))) ∧ ∀ i m H, W i m H →
      ((Itt K a).stop i H ∧ Qd H) ∨ ((Itt K a).go i H ∧ ∃ Nx : Hp → Prop, (∀ H', Nx H' → ∃ m', m' < m ∧ W (i + 1) m' H') ∧ ∀ x H', (Itt K a).yld i H x H' → g x (wipe σ vs) H' fun σ2 H2 => wipe σ2 vs = wipe σ vs ∧ tt σ2 H2 fun b H3 =>
        if b = true then te σ2 H3 fun y H4 => ∃ (k : Key) (ks : List Key), y = kV k ∧ H4 D = some (SetL w D ks) ∧ ks.length + 1 < scanBound ∧ Nx (upd H4 D (SetL w D (insK ks k))) else Nx H3) :=
  sc_at Pv h0 (fun i H hi p => ⟨fun hlt => ⟨⟨xs, xs[i], hl i H hi p, by simp [hlt]⟩, fun x H' y => ⟨y.1, y.2 xs (hl i H hi p)⟩⟩, fun e => ⟨xs, hl i H hi p, Nat.le_of_eq e.symm⟩⟩) hs hd
theorem sc_listK {K : PySem.W.Frag} {a : Addr} {w : World} {xs : List V} {g : TG} {tt : TT} {te : TE} {vs : List Nat} {σ : L2.St} {H1 : Hp} {D : Addr} {Qd : Hp → Prop} (Pv : Nat → Hp → Prop) (h0 : Pv 0 (upd H1 D (SetL w D [])))
    (hl : ∀ i H, i ≤ xs.length → Pv i H → SqL K H a xs)
    (hs : ∀ i x H, xs[i]? = some x → Pv i H → g x (wipe σ vs) H fun σ2 H2 => wipe σ2 vs = wipe σ vs ∧ tt σ2 H2 fun b H3 =>
      if b = true then te σ2 H3 fun y H4 => ∃ (k : Key) (ks : List Key), y = kV k ∧ H4 D = some (SetL w D ks) ∧ ks.length + 1 < scanBound ∧ Pv (i + 1) (upd H4 D (SetL w D (insK ks k))) else Pv (i + 1) H3) (hd : ∀ H, Pv xs.length H → Qd H) :
    ∃ W : Nat → Nat → Hp → Prop, (∃ m, W 0 m (upd H1 D (SetL w D []))) ∧ ∀ i m H, W i m H →
      ((Itl K a).stop i H ∧ Qd H) ∨ ((Itl K a).go i H ∧ ∃ Nx : Hp → Prop, (∀ H', Nx H' → ∃ m', m' < m ∧ W (i + 1) m' H') ∧ ∀ x H', (Itl K a).yld i H x H' → g x (wipe σ vs) H' fun σ2 H2 => wipe σ2 vs = wipe σ vs ∧ tt σ2 H2 fun b H3 =>
        if b = true then te σ2 H3 fun y H4 => ∃ (k : Key) (ks : List Key), y = kV k ∧ H4 D = some (SetL w D ks) ∧ ks.length + 1 < scanBound ∧ Nx (upd H4 D (SetL w D (insK ks k))) else Nx H3) :=
  sc_at Pv h0 (fun i H hi p => ⟨fun hlt => ⟨⟨xs, xs[i], hl i H hi p, by simp [hlt]⟩, fun x H' y => ⟨y.1, y.2 xs (hl i H hi p)⟩⟩, fun e => ⟨xs, hl i H hi p, Nat.le_of_eq e.symm⟩⟩) hs hd
end SM
set_option Elab.async false
set_option linter.all false
set_option maxRecDepth 100000
set_option maxHeartbeats 4000000
/-! general: list(text), text[::-1] -/
namespace SM
open PySem PySem.Spec PyProof.Rows L2
section
variable {P : Program} {w : World} {A : Around} {E : Value → Shared → Prop} {s : Shared}
theorem extend_text {R : Result → Shared → Prop} {x : Str} {t : Tok} (hh : A.handled = none) (S : Addr) (c₀ : Nat) (hS : s.heap.get? S = some { cls := .type "list", data := .seq #[] c₀ }) (hn : x.cps.size ≤ sizeLine)
    (hR : ∀ h' tk acc' c', (∀ b o, b ≠ S → s.heap.get? b = some o → h'.get? b = some o) → h'.get? S = some { cls := .type "list", dict := none, data := .seq acc' c', slots := #[] } → ItemsOf (SignAt x) acc' x.cps.size → R (.ok (.ret .none)) { s with heap := h', toks := tk }) :
    wpAny (model P w) A.in1 (Builtin.List.listExtendWith (.ref S) (.str x t) .none)
      (fun fin s' => match fin with | .done f => R (.ok f) s' | .again c' => c'.quiet = true ∧ codeAny (model P w) A c' R s') (fun e s' => R (.error e) s') s := by
  unfold Builtin.List.listExtendWith
  refine wpAny_bind (wpAny_typeOf (T := "str") (v := .str x t) rfl ?_)
  have h1 : Builtin.List.listSameRef (.ref S) (.str x t) = false := rfl
  have h2 : (Value.type "str" == Value.type "list") = false := by decide
  have h3 : (Value.type "str" == Value.type "tuple") = false := by decide
  simp only [h1, h2, h3, Bool.or_false, Bool.false_eq_true, if_false]
  refine wpAny_bind (wpAny_pyIter_str fun o St W hst => ?_)
  refine wpAny_bind (wpAny_holding ?_)
  unfold Builtin.List.listLengthHint
  refine wpAny_bind (wpAny_specialOf (T := "str") (v := .str x t) rfl F.str_len ?_)
  wp_delta
  refine wpAny_bind (wpAny_isInstance (T := "str") (v := .str x t) (b := true) rfl (by rw [isSubtype_type]; kernel_rfl) ?_)
  show wpAny _ A.in1 (typeOf (Value.str x t) >>= _) _ _ _
  refine wpAny_bind (wpAny_typeOf (T := "str") (v := .str x t) rfl ?_)
  refine wpAny_pure ?_
  have hSI : S ≠ s.heap.objs.size := Nat.ne_of_lt (Heap.lt_size hS)
  have hSf : S ∉ [s.heap.objs.size] := by simp only [List.mem_cons, List.not_mem_nil, or_false]; exact hSI
  have key : ∀ (h : Heap) (c₁ tk : Nat), St 0 h → (∀ b o, b ≠ S → s.heap.get? b = some o → h.get? b = some o) →
      h.get? S = some { cls := .type "list", data := .seq #[] c₁ } → codeAny (model P w) A (.builtin "list.extend.loop" ⟨[.ref S, .ref s.heap.objs.size, .none], []⟩) R { s with heap := h, toks := tk } := by
    intro h c₁ tk hst hk hS₁
    refine codeAny_extend_loopS (W A.in1 hh).toS hn S hSf .none x.cps.size 0 _ #[] c₁ rfl (Nat.zero_le _) hst hS₁ (ItemsOf.nil _) fun s' acc' c' hm hS' hacc => ?_
    rw [Moved.eq_with hm]
    refine hR s'.heap s'.toks acc' c' (fun b o hb e => hm.heap b o (fun hmem => ?_) (hk b o hb e)) hS' hacc
    rcases List.mem_cons.mp hmem with e' | hmem
    · exact hb e'
    · exact absurd (Heap.lt_size e) (by rw [List.mem_singleton.mp hmem]; exact Nat.lt_irrefl _)
  have hS₁ := Heap.get?_push_of_some o hS
  refine wpAny_ite_split (fun _ => ?_) (fun _ => wpAny_pure ⟨plainId_quiet PySem.F.plain_extend_loop _, key _ c₀ _ hst (fun b o _ e => Heap.get?_push_of_some _ e) hS₁⟩)
  refine wpAny_bind (wpAny_rule ?_)
  refine wpAny_bind ?_
  show wpAny _ _ (updateSeq S (·.push .none) >>= fun _ => updateSeq S (·.pop)) _ _ _
  refine wpAny_bind (wpAny_updateSeq hS₁ rfl ?_)
  have hS₂ := Heap.get?_update_self (Obj.mapSeq (·.push Value.none)) hS₁ rfl
  refine wpAny_updateSeq (hz := by seq_fits) hS₂ rfl ?_
  have hS₃ := Heap.get?_update_self (Obj.mapSeq (·.pop)) hS₂ rfl
  refine wpAny_pure ⟨plainId_quiet PySem.F.plain_extend_loop _, key _ _ _ ?_ (fun b o hb e => ?_) hS₃⟩
  · refine (W A.in1 hh).frame 0 _ _ hst fun b hb o e => ?_
    have hbS : b ≠ S := fun h => hSf (h ▸ hb)
    exact (Heap.get?_update_other _ _ (Ne.symm hbS)).trans ((Heap.get?_update_other _ _ (Ne.symm hbS)).trans e)
  · exact (Heap.get?_update_other _ _ (Ne.symm hb)).trans ((Heap.get?_update_other _ _ (Ne.symm hb)).trans (Heap.get?_push_of_some _ e))
theorem call_list_text {Q : Value → Shared → Prop} {x : Str} {t : Tok} (hh : A.handled = none) (hn : x.cps.size ≤ sizeLine)
    (hQ : ∀ h' tk acc' c', (∀ b o, s.heap.get? b = some o → h'.get? b = some o) → h'.get? s.heap.objs.size = some { cls := .type "list", dict := none, data := .seq acc' c', slots := #[] } → ItemsOf (SignAt x) acc' x.cps.size → Q (.ref s.heap.objs.size) { s with heap := h', toks := tk }) :
    wpAny (model P w) A (call (.type "list") [.str x t]) Q E s := by
  refine callType_codes (Q₁ := fun obj s₁ => obj = .ref s.heap.objs.size ∧ s₁ = { s with heap := s.heap.push { cls := .type "list", data := .seq #[] } }) PySem.F.called_list (PySem.F.typeCall_list_1 _) PySem.F.entry_list_init
    (code_list_new _ ⟨rfl, rfl⟩) fun obj s₁ h₁ => ?_
  obtain ⟨rfl, rfl⟩ := h₁
  have hS : (s.heap.push { cls := .type "list", data := .seq #[] }).get? s.heap.objs.size = some { cls := .type "list", data := .seq #[] } := Heap.get?_push_size _ rfl
  refine ⟨⟨_, hS, rfl⟩, PySem.F.args_list_init_2 _ _, ?_⟩
  show wpAny _ _ (do let old ← Builtin.List.listItems (.ref s.heap.objs.size); Builtin.List.listUpdate (.ref s.heap.objs.size) (fun _ => #[]); letGo old.toList.reverse; Builtin.List.listExtendWith (.ref s.heap.objs.size) (.str x t) .none) _ _ _
  refine wpAny_bind ?_
  unfold Builtin.List.listItems
  refine wpAny_bind (wpAny_seqItems hS rfl (wpAny_pure ?_))
  show wpAny _ _ (updateSeq s.heap.objs.size (fun _ => #[]) >>= fun _ => letGo (#[] : Array Value).toList.reverse >>= fun _ => Builtin.List.listExtendWith (.ref s.heap.objs.size) (.str x t) .none) _ _ _
  refine wpAny_bind (wpAny_updateSeq hS rfl ?_)
  have hS₂ := Heap.get?_update_self (Obj.mapSeq (fun _ => (#[] : Array Value))) hS rfl
  refine wpAny_bind (wpAny_letGo ?_)
  refine extend_text (A := A.in1) hh s.heap.objs.size _ hS₂ hn fun h' tk acc' c' hk hS' hacc => ⟨rfl, hQ h' tk acc' c' (fun b o e => ?_) hS' hacc⟩
  have hb : b ≠ s.heap.objs.size := Nat.ne_of_lt (Heap.lt_size e)
  exact hk b o hb ((Heap.get?_update_other _ _ (Ne.symm hb)).trans (Heap.get?_push_of_some _ e))
end
section
variable {X : Cx}
/-- list(text) -/
def rListStr : List V → Hp → VK → Prop := fun vs H Q => ∃ z : Str, vs = [.str z] ∧ z.length ≤ sizeLine ∧ ∀ p, H p = none → Q (.ref p) (upd H p (.lst ((signs z).map V.str)))
theorem cr_listStr (hc : X.calm = true) : CallR X (.type "list") rListStr := by
  intro pins s σ H vs us Q I r h
  obtain ⟨z, rfl, hz, q⟩ := h
  cases r with
  | cons r t =>
    cases t
    obtain ⟨tk, rfl⟩ := r
    refine call_list_text (I.ok.hd hc) hz fun h' tk' acc c' hk hD hacc => ?_
    have hs : StrsAre acc.toList (signs z) := signs_are acc.toList z.cps.toList (by rw [Array.length_toList, Array.length_toList]; exact hacc.1) fun i v hv => by
      rw [Array.getElem?_toList] at hv
      obtain ⟨c, u, e1, e2⟩ := hacc.2 i v hv
      exact ⟨c, u, by rw [Array.getElem?_toList]; exact e1, e2⟩
    exact ⟨.ref s.heap.objs.size, upd H s.heap.objs.size (.lst ((signs z).map V.str)), I.laid (t' := tk') hk (Nat.le_refl _)
      (show ObjOk X.prog X.w _ _ _ (.lst ((signs z).map V.str)) from ⟨by rw [List.length_map, signs_len]; exact hz, acc.toList, c', vals_of_strs hs, by rw [Array.toArray_toList]; exact hD⟩), rfl, q _ (I.hok.fresh (Nat.le_refl _))⟩
/-- text[::-1] -/
def tRevS (te : TE) : TE := fun σ H Q => te σ H fun x H1 => ∃ z : Str, x = .str z ∧ z.length ≤ 1000 ∧ Q (.str ⟨z.cps.reverse⟩) H1
theorem pe_revS {e : Expr} {te : TE} {k : Nat} {p1 p2 p3 pos : Pos} (he : PE X e te) : PE X (.Subscript e (.Slice none none (some (.UnaryOp .USub (.Constant (.int 1) k p1) p2)) p3) pos) (tRevS te) := by
  refine ⟨fun pins s σ H Q I h => ?_⟩
  refine Subscript_ (thn (he.run pins s σ H _ I h) fun v s1 ⟨x, H1, I1, r1, q1⟩ => ?_)
  obtain ⟨z, ex, hz, q⟩ := q1
  subst ex
  obtain ⟨tk, rfl⟩ := r1
  have hst : PO X (some (.UnaryOp .USub (.Constant (.int 1) k p1) p2)) (tPart (tUn (rU fun i => .int (-i)) (tC (.int 1)))) := po_some (pe_un un_neg pe_int)
  refine wpAny_Slice (thn (po_none.run pins s1 σ H1 (fun o H2 => o = none ∧ H2 = H1) I1 ⟨rfl, rfl⟩) fun vl s2 ⟨l, H2, I2, pl, el, e2⟩ => ?_)
  subst el e2
  refine thn (po_none.run pins s2 σ H2 (fun o H3 => o = none ∧ H3 = H2) I2 ⟨rfl, rfl⟩) fun vu s3 ⟨u, H3, I3, pu, eu, e3⟩ => ?_
  subst eu e3
  refine thn (hst.run pins s3 σ H3 (fun o H4 => o = some (-1) ∧ H4 = H3) I3 ⟨1, rfl, -1, rfl, rfl, rfl⟩) fun vs s4 ⟨o, H4, I4, ps, eo, e4⟩ => ?_
  subst eo e4
  have I5 : Inv X pins σ H4 { s4 with heap := s4.heap.push { cls := .type "slice", data := .fields #[vl, vu, vs] } } := I4.kept (t' := s4.toks) fun b ob q => Heap.get?_push_of_some _ q
  obtain ⟨l1, rfl, hl1⟩ := IsPart.raw pl
  obtain ⟨u1, rfl, hu1⟩ := IsPart.raw pu
  obtain ⟨t1, rfl, ht1⟩ := IsPart.raw ps
  show wpAny (model X.prog X.w) X.A (subscriptTail e (.Slice none none (some (.UnaryOp .USub (.Constant (.int 1) k p1) p2)) p3) (.str z tk) (.ref s4.heap.objs.size)) (EP X pins σ Q) X.xe { s4 with heap := s4.heap.push { cls := .type "slice", data := .fields #[partValue l1, partValue u1, partValue t1] } }
  refine tail_any (ops := [.str z tk, .ref s4.heap.objs.size]) (typeIs_str _ z tk) (PySem.F.slot_str_getitem.lookup) ?_ (by with_unfolding_all rfl)
  refine wpAny_getItem_str_slice (l := l1) (u := u1) (st := t1) ⟨_, Heap.get?_push_size _ rfl, rfl, rfl⟩ (by rw [ht1]; rfl) ?_
  unfold sliceMade slicePicked
  rw [hl1, hu1, ht1]
  have e1 : Builtin.Str.strSliceIndices none none ((some (-1 : Int)).getD 1) z.length = (List.range z.length).reverse := by
    rw [← PySem.W.krv_range, ← PySem.W.krv_sliceRange]
    rfl
  rw [e1]
  have e2 : ((some (-1 : Int)).getD 1 == 1 && (List.range z.length).reverse.length == z.length) = false := by
    have : ((some (-1 : Int)).getD 1 == 1) = false := by decide
    rw [this, Bool.false_and]
  rw [e2]
  have e3 : ((List.range z.length).reverse.filterMap (z.cps[·]?)) = z.cps.toList.reverse := by
    rw [List.filterMap_reverse]
    exact congrArg List.reverse (PySem.W.krv_all z.cps)
  show Made.post (.str ⟨((List.range z.length).reverse.filterMap (z.cps[·]?)).toArray⟩) _ _
  rw [e3]
  have e4 : z.cps.toList.reverse.toArray = z.cps.reverse := by rw [← Array.toList_reverse, Array.toArray_toList]
  rw [e4]
  have hl : (⟨z.cps.reverse⟩ : Str).length ≤ sizeLine := by
    show z.cps.reverse.size ≤ sizeLine
    rw [Array.size_reverse, sizeLine_eq]
    have : z.cps.size ≤ 1000 := hz
    omega
  exact ⟨hl, .str _, H4, I5.tok _, ⟨_, rfl⟩, q⟩
end
end SM
set_option Elab.async false
set_option linter.all false
set_option maxRecDepth 100000
set_option maxHeartbeats 4000000
/-! general: comprehensions that make a value of each item, over anything that is walked in its order -/
namespace R4
open PySem L2 PySem.GW LamX SM
/-- J gives the items xs while what stands in H1 stands -/
def Gvs (J : It) (xs : List V) (H1 : Hp) : Prop := ∀ i H, i ≤ xs.length → Same H1 H → (i < xs.length → J.go i H ∧ ∀ x H', J.yld i H x H' → H' = H ∧ xs[i]? = some x) ∧ (i = xs.length → J.stop i H)
theorem gvs_str {z : Str} {H1 : Hp} : Gvs (Its z) ((SM.signs z).map V.str) H1 := fun i H hi _ => by
  have hl : ((SM.signs z).map V.str).length = z.cps.size := by rw [List.length_map]; exact signs_len z
  refine ⟨fun h => ⟨by rw [hl] at h; exact h, fun x H' y => ?_⟩, fun e => by rw [hl] at e; exact Nat.le_of_eq e.symm⟩
  obtain ⟨e, c, hc, rfl⟩ := y
  refine ⟨e, ?_⟩
  unfold SM.signs
  rw [List.map_map, List.getElem?_map, Array.getElem?_toList, hc]
  rfl
theorem gvs_list {K : PySem.W.Frag} {a : Addr} {xs : List V} {H1 : Hp} (h : SqL K H1 a xs) : Gvs (Itl K a) xs H1 := fun i H hi s => by
  have q := s.seq h
  exact ⟨fun hlt => ⟨⟨xs, xs[i], q, by simp [hlt]⟩, fun x H' y => ⟨y.1, y.2 xs q⟩⟩, fun e => ⟨xs, q, Nat.le_of_eq e.symm⟩⟩
theorem gvs_tup {K : PySem.W.Frag} {a : Addr} {xs : List V} {H1 : Hp} (h : SqT K H1 a xs) : Gvs (Itt K a) xs H1 := fun i H hi s => by
  have q := Same.seqT s h
  exact ⟨fun hlt => ⟨⟨xs, xs[i], q, by simp [hlt]⟩, fun x H' y => ⟨y.1, y.2 xs q⟩⟩, fun e => ⟨xs, q, Nat.le_of_eq e.symm⟩⟩
/-- [f(x) for x in ..] -/
theorem lc_map {J : It} {xs : List V} {j : Nat} {te : TE} {vs : List Nat} {σ : L2.St} {H1 : Hp} {D : Addr} {Qd : Hp → Prop} (f : V → V) (hD : H1 D = none) (hl : xs.length ≤ 100000) (hj : Gvs J xs H1)
    (hw : ∀ v : V, wipe ((wipe σ vs).set j (some v)) vs = wipe σ vs)
    (hs : ∀ (i : Nat) (x : V) (H : Hp) (R : V → Hp → Prop), xs[i]? = some x → Same H1 H → (∀ H', Same H H' → R (f x) H') → te ((wipe σ vs).set j (some x)) H R)
    (hd : ∀ H, Same H1 H → H D = some (.lst (xs.map f)) → Qd H) :
    ∃ W : Nat → Nat → Hp → Prop, (∃ m, W 0 m (upd H1 D (.lst []))) ∧ ∀ i m H, W i m H →
      (J.stop i H ∧ Qd H) ∨ (J.go i H ∧ ∃ Nx : Hp → Prop, (∀ H', Nx H' → ∃ m', m' < m ∧ W (i + 1) m' H') ∧ ∀ x H', J.yld i H x H' → gName j x (wipe σ vs) H' fun σ2 H2 => wipe σ2 vs = wipe σ vs ∧ tYes σ2 H2 fun b H3 =>
        if b = true then te σ2 H3 fun y H4 => ∃ acc, H4 D = some (.lst acc) ∧ acc.length < sizeLine ∧ Nx (upd H4 D (.lst (acc ++ [y]))) else Nx H3) := by
  refine ⟨fun i m H => m = xs.length - i ∧ i ≤ xs.length ∧ Same H1 H ∧ H D = some (.lst ((xs.take i).map f)), ⟨xs.length, by simp, Nat.zero_le _, same_upd hD, upd_same⟩, ?_⟩
  rintro i m H ⟨rfl, hi, sm, hDi⟩
  obtain ⟨q1, q2⟩ := hj i H hi sm
  by_cases hlt : i < xs.length
  · obtain ⟨q3, q4⟩ := q1 hlt
    refine .inr ⟨q3, fun H' => i + 1 ≤ xs.length ∧ Same H1 H' ∧ H' D = some (.lst ((xs.take (i + 1)).map f)), fun H' p' => ⟨xs.length - (i + 1), by omega, rfl, p'⟩, fun x H' y => ?_⟩
    obtain ⟨e, hx⟩ := q4 x H' y
    subst e
    refine ⟨hw x, ?_⟩
    refine (hs i x H' _ hx sm fun H4 s4 => ⟨_, s4 _ _ hDi, ?_, hlt, same_at hD (sm.trans s4), ?_⟩)
    · rw [List.length_map, List.length_take, sizeLine_eq]; omega
    · rw [upd_same, take_at hx, List.map_append]; rfl
  · have e : i = xs.length := by omega
    subst e
    rw [List.take_length] at hDi
    exact .inl ⟨q2 rfl, hd H sm hDi⟩
/-- {f(x) for x in ..} -/
theorem sc_map {w : World} {J : It} {xs : List V} {j : Nat} {te : TE} {vs : List Nat} {σ : L2.St} {H1 : Hp} {D : Addr} {Qd : Hp → Prop} (f : V → Key) (hD : H1 D = none) (hl : xs.length ≤ 4000) (hj : Gvs J xs H1)
    (hw : ∀ v : V, wipe ((wipe σ vs).set j (some v)) vs = wipe σ vs)
    (hs : ∀ (i : Nat) (x : V) (H : Hp) (R : V → Hp → Prop), xs[i]? = some x → Same H1 H → (∀ H', Same H H' → R (kV (f x)) H') → te ((wipe σ vs).set j (some x)) H R)
    (hd : ∀ H, Same H1 H → H D = some (SetL w D (dedK (xs.map f))) → Qd H) :
    ∃ W : Nat → Nat → Hp → Prop, (∃ m, W 0 m (upd H1 D (SetL w D []))) ∧ ∀ i m H, W i m H →
      (J.stop i H ∧ Qd H) ∨ (J.go i H ∧ ∃ Nx : Hp → Prop, (∀ H', Nx H' → ∃ m', m' < m ∧ W (i + 1) m' H') ∧ ∀ x H', J.yld i H x H' → gName j x (wipe σ vs) H' fun σ2 H2 => wipe σ2 vs = wipe σ vs ∧ tYes σ2 H2 fun b H3 =>
        if b = true then te σ2 H3 fun y H4 => ∃ (k : Key) (ks : List Key), y = kV k ∧ H4 D = some (SetL w D ks) ∧ ks.length + 1 < scanBound ∧ Nx (upd H4 D (SetL w D (insK ks k))) else Nx H3) := by
  refine ⟨fun i m H => m = xs.length - i ∧ i ≤ xs.length ∧ Same H1 H ∧ H D = some (SetL w D (dedK ((xs.map f).take i))), ⟨xs.length, by simp, Nat.zero_le _, same_upd hD, upd_same⟩, ?_⟩
  rintro i m H ⟨rfl, hi, sm, hDi⟩
  obtain ⟨q1, q2⟩ := hj i H hi sm
  by_cases hlt : i < xs.length
  · obtain ⟨q3, q4⟩ := q1 hlt
    refine .inr ⟨q3, fun H' => i + 1 ≤ xs.length ∧ Same H1 H' ∧ H' D = some (SetL w D (dedK ((xs.map f).take (i + 1)))), fun H' p' => ⟨xs.length - (i + 1), by omega, rfl, p'⟩, fun x H' y => ?_⟩
    obtain ⟨e, hx⟩ := q4 x H' y
    subst e
    refine ⟨hw x, ?_⟩
    refine (hs i x H' _ hx sm fun H4 s4 => ⟨_, _, rfl, s4 _ _ hDi, ?_, hlt, same_at hD (sm.trans s4), ?_⟩)
    · have h1 := dedK_len ((xs.map f).take i)
      rw [List.length_take, List.length_map] at h1
      show _ < 4096
      omega
    · rw [upd_same, take_ded (by rw [List.getElem?_map, hx]; rfl)]
  · have e : i = xs.length := by omega
    subst e
    rw [show (xs.map f).take xs.length = xs.map f by rw [← List.length_map (f := f), List.take_length]] at hDi
    exact .inl ⟨q2 rfl, hd H sm hDi⟩
/-- {k(x): v(x) for x in ..} -/
theorem dc_map {J : It} {xs : List V} {j : Nat} {tk tv : TE} {vs : List Nat} {σ : L2.St} {H1 : Hp} {D : Addr} {Qd : Hp → Prop} (f : V → Key × V) (hD : H1 D = none) (hl : xs.length ≤ 100000) (hj : Gvs J xs H1)
    (hw : ∀ v : V, wipe ((wipe σ vs).set j (some v)) vs = wipe σ vs)
    (hs : ∀ (i : Nat) (x : V) (H : Hp) (R : V → V → Hp → Prop), xs[i]? = some x → Same H1 H → (∀ H', Same H H' → R (kV (f x).1) (f x).2 H') → tk ((wipe σ vs).set j (some x)) H fun y H4 => tv ((wipe σ vs).set j (some x)) H4 fun z H5 => R y z H5)
    (hd : ∀ H, Same H1 H → H D = some (.dK (mergeK [] (xs.map f))) → Qd H) :
    ∃ W : Nat → Nat → Hp → Prop, (∃ m, W 0 m (upd H1 D (.dK []))) ∧ ∀ i m H, W i m H →
      (J.stop i H ∧ Qd H) ∨ (J.go i H ∧ ∃ Nx : Hp → Prop, (∀ H', Nx H' → ∃ m', m' < m ∧ W (i + 1) m' H') ∧ ∀ x H', J.yld i H x H' → gName j x (wipe σ vs) H' fun σ2 H2 => wipe σ2 vs = wipe σ vs ∧ tYes σ2 H2 fun b H3 =>
        if b = true then tk σ2 H3 fun y H4 => tv σ2 H4 fun z H5 => ∃ kvs k, y = kV k ∧ H5 D = some (.dK kvs) ∧ kvs.length < sizeLine ∧ Nx (upd H5 D (.dK (putK kvs k z))) else Nx H3) := by
  have mlen : ∀ (l acc : List (Key × V)), (mergeK acc l).length ≤ acc.length + l.length := by
    intro l
    induction l with
    | nil => intro acc; exact Nat.le_refl _
    | cons p l ih =>
      intro acc
      have h1 := ih (putK acc p.1 p.2)
      have h2 := length_putK acc p.1 p.2
      show (mergeK (putK acc p.1 p.2) l).length ≤ _
      rw [List.length_cons]
      omega
  have mapp : ∀ (l acc : List (Key × V)) (p : Key × V), mergeK acc (l ++ [p]) = putK (mergeK acc l) p.1 p.2 := by
    intro l
    induction l with
    | nil => intro acc p; rfl
    | cons q l ih => intro acc p; exact ih (putK acc q.1 q.2) p
  refine ⟨fun i m H => m = xs.length - i ∧ i ≤ xs.length ∧ Same H1 H ∧ H D = some (.dK (mergeK [] ((xs.take i).map f))), ⟨xs.length, by simp, Nat.zero_le _, same_upd hD, upd_same⟩, ?_⟩
  rintro i m H ⟨rfl, hi, sm, hDi⟩
  obtain ⟨q1, q2⟩ := hj i H hi sm
  by_cases hlt : i < xs.length
  · obtain ⟨q3, q4⟩ := q1 hlt
    refine .inr ⟨q3, fun H' => i + 1 ≤ xs.length ∧ Same H1 H' ∧ H' D = some (.dK (mergeK [] ((xs.take (i + 1)).map f))), fun H' p' => ⟨xs.length - (i + 1), by omega, rfl, p'⟩, fun x H' y => ?_⟩
    obtain ⟨e, hx⟩ := q4 x H' y
    subst e
    refine ⟨hw x, ?_⟩
    refine (hs i x H' (fun y z H5 => ∃ kvs k, y = kV k ∧ H5 D = some (.dK kvs) ∧ kvs.length < sizeLine ∧ (i + 1 ≤ xs.length ∧ Same H1 (upd H5 D (.dK (putK kvs k z))) ∧ (upd H5 D (.dK (putK kvs k z))) D = some (.dK (mergeK [] ((xs.take (i + 1)).map f))))) hx sm fun H4 s4 => ⟨_, _, rfl, s4 _ _ hDi, ?_, hlt, same_at hD (sm.trans s4), ?_⟩)
    · have := mlen ((xs.take i).map f) []
      rw [List.length_map, List.length_take] at this
      rw [sizeLine_eq]
      have h0 : ([] : List (Key × V)).length = 0 := rfl
      omega
    · rw [upd_same, take_at hx, List.map_append]
      show _ = some (HO.dK (mergeK [] (_ ++ [f x])))
      rw [mapp]
  · have e : i = xs.length := by omega
    subst e
    rw [List.take_length] at hDi
    exact .inl ⟨q2 rfl, hd H sm hDi⟩
theorem gvs_keys {d : Addr} {o : Obj} {kvs : List (Key × V)} {H1 : Hp} (h : H1 d = some (.frz o (.dK kvs))) : Gvs (Itk d o kvs) (kvs.map fun p => kV p.1) H1 := fun i H hi s => by
  have q := s _ _ h
  have hl : (kvs.map fun p => kV p.1).length = kvs.length := List.length_map _
  refine ⟨fun hlt => ⟨⟨q, by rw [hl] at hlt; exact hlt⟩, fun x H' y => ?_⟩, fun e => ⟨q, by rw [hl] at e; exact Nat.le_of_eq e.symm⟩⟩
  obtain ⟨e, k, v, hk, rfl⟩ := y
  exact ⟨e, by rw [List.getElem?_map, hk]; rfl⟩
theorem unlock_same {H H' : Hp} {d : Addr} {u f : HO} (h : H d = some u) (s : Same (upd H d f) H') : Same H (upd H' d u) := fun b o e => by
  by_cases c : b = d
  · rw [c, upd_same, ← h, ← c, e]
  · rw [upd_ne c]
    exact s b o (by rw [upd_ne c]; exact e)
/-- [f(k, v) for k, v in d.items()] -/
theorem lc_items {K : PySem.W.Frag} {d : Addr} {o : Obj} {kvs : List (Key × V)} {a b : Nat} {te : TE} {vs : List Nat} {σ : L2.St} {H1 : Hp} {D : Addr} {Qd : Hp → Prop} (f : Key × V → V) (hD : H1 D = none) (hd : H1 d = some (.frz o (.dK kvs))) (hl : kvs.length ≤ 100000)
    (hw : ∀ v u : V, wipe (((wipe σ vs).set a (some v)).set b (some u)) vs = wipe σ vs)
    (hs : ∀ (i : Nat) (k : Key) (v : V) (H : Hp) (R : V → Hp → Prop), kvs[i]? = some (k, v) → Same H1 H → (∀ H', Same H H' → R (f (k, v)) H') → te (((wipe σ vs).set a (some (kV k))).set b (some v)) H R)
    (hq : ∀ H, Same H1 H → H D = some (.lst (kvs.map f)) → Qd H) :
    ∃ W : Nat → Nat → Hp → Prop, (∃ m, W 0 m (upd H1 D (.lst []))) ∧ ∀ i m H, W i m H →
      ((Iti d o kvs).stop i H ∧ Qd H) ∨ ((Iti d o kvs).go i H ∧ ∃ Nx : Hp → Prop, (∀ H', Nx H' → ∃ m', m' < m ∧ W (i + 1) m' H') ∧ ∀ x H', (Iti d o kvs).yld i H x H' → gTup K 2 (gCons (gName a) (gCons (gName b) gNil)) x (wipe σ vs) H' fun σ2 H2 => wipe σ2 vs = wipe σ vs ∧ tYes σ2 H2 fun b H3 =>
        if b = true then te σ2 H3 fun y H4 => ∃ acc, H4 D = some (.lst acc) ∧ acc.length < sizeLine ∧ Nx (upd H4 D (.lst (acc ++ [y]))) else Nx H3) := by
  refine ⟨fun i m H => m = kvs.length - i ∧ i ≤ kvs.length ∧ Same H1 H ∧ H D = some (.lst ((kvs.take i).map f)), ⟨kvs.length, by simp, Nat.zero_le _, same_upd hD, upd_same⟩, ?_⟩
  rintro i m H ⟨rfl, hi, sm, hDi⟩
  have hdi := sm _ _ hd
  by_cases hlt : i < kvs.length
  · refine .inr ⟨⟨hdi, hlt⟩, fun H' => i + 1 ≤ kvs.length ∧ Same H1 H' ∧ H' D = some (.lst ((kvs.take (i + 1)).map f)), fun H' p' => ⟨kvs.length - (i + 1), by omega, rfl, p'⟩, fun x H' y => ?_⟩
    obtain ⟨T, k, v, hkv, rfl, hT, rfl⟩ := y
    have sT := same_upd (o := .tup [kV k, v]) hT
    refine ⟨T, _, rfl, SqT.of upd_same, rfl, _, _, rfl, _, _, rfl, rfl, hw _ _, ?_⟩
    refine (hs i k v (upd H T (.tup [kV k, v])) _ hkv (sm.trans sT) fun H4 s4 => ⟨_, s4 _ _ (sT _ _ hDi), ?_, hlt, same_at hD (sm.trans (sT.trans s4)), ?_⟩)
    · rw [List.length_map, List.length_take, sizeLine_eq]; omega
    · rw [upd_same, take_at hkv, List.map_append]; rfl
  · have e : i = kvs.length := by omega
    subst e
    rw [List.take_length] at hDi
    exact .inl ⟨⟨hdi, Nat.le_refl _⟩, hq H sm hDi⟩
end R4
set_option Elab.async false
set_option linter.all false
set_option maxRecDepth 100000
set_option maxHeartbeats 4000000
/-! texts in order: plain mathematics -/
namespace UM
open PySem PySem.Spec PyProof.Rows SM
theorem lt_irr : ∀ a : List Nat, ltCps a a = false
  | [] => rfl
  | x :: a => by simp [ltCps, lt_irr a]
theorem le_trans : ∀ {a b c : List Nat}, ltCps b a = false → ltCps c b = false → ltCps c a = false
  | [], _, [], _, _ => rfl
  | [], [], _ :: _, _, h => rfl
  | [], _ :: _, _ :: _, _, _ => rfl
  | _ :: _, [], _, h, _ => by simp [ltCps] at h
  | _ :: _, _ :: _, [], _, h => by simp [ltCps] at h
  | x :: a, y :: b, z :: c, h1, h2 => by
    simp only [ltCps, Bool.or_eq_false_iff, decide_eq_false_iff_not, Bool.and_eq_false_iff, beq_eq_false_iff_ne] at h1 h2 ⊢
    obtain ⟨p1, p2⟩ := h1
    obtain ⟨q1, q2⟩ := h2
    refine ⟨by omega, ?_⟩
    by_cases e : z = x
    · have e1 : y = x := by omega
      have e2 : z = y := by omega
      exact .inr (le_trans (p2.resolve_left fun n => n e1) (q2.resolve_left fun n => n e2))
    · exact .inl e
theorem le_anti : ∀ {a b : List Nat}, ltCps b a = false → ltCps a b = false → a = b
  | [], [], _, _ => rfl
  | [], _ :: _, _, h => by simp [ltCps] at h
  | _ :: _, [], h, _ => by simp [ltCps] at h
  | x :: a, y :: b, h1, h2 => by
    simp only [ltCps, Bool.or_eq_false_iff, decide_eq_false_iff_not, Bool.and_eq_false_iff, beq_eq_false_iff_ne] at h1 h2
    obtain ⟨p1, p2⟩ := h1
    obtain ⟨q1, q2⟩ := h2
    have e : x = y := by omega
    rw [e, le_anti (p2.resolve_left fun n => n e.symm) (q2.resolve_left fun n => n e)]
def leS (a b : Str) : Prop := ltCps b.cps.toList a.cps.toList = false
theorem rising_pw : ∀ (xs : List Str) (p : Str), risingS p xs = true → (∀ x ∈ xs, leS p x) ∧ xs.Pairwise leS
  | [], _, _ => ⟨(fun _ h => nomatch h), List.Pairwise.nil⟩
  | x :: xs, p, h => by
    unfold risingS at h
    simp only [Bool.and_eq_true, Bool.not_eq_true'] at h
    obtain ⟨h1, h2⟩ := h
    obtain ⟨q1, q2⟩ := rising_pw xs x h2
    refine ⟨fun y hy => ?_, List.pairwise_cons.mpr ⟨q1, q2⟩⟩
    rcases List.mem_cons.mp hy with e | e
    · rw [e]; exact h1
    · exact le_trans h1 (q1 y e)
theorem sorted_pw {xs : List Str} (h : sortedS xs = true) : xs.Pairwise leS := by
  cases xs with
  | nil => exact List.Pairwise.nil
  | cons x xs =>
    obtain ⟨h1, h2⟩ := rising_pw xs x h
    exact List.pairwise_cons.mpr ⟨h1, h2⟩
theorem str_ext {a b : Str} (h : a.cps.toList = b.cps.toList) : a = b := by
  obtain ⟨a⟩ := a
  obtain ⟨b⟩ := b
  exact congrArg Str.mk (Array.toList_inj.mp h)
/-- a list of texts has one order -/
theorem sorted_one {xs ys : List Str} (h1 : sortedS xs = true) (h2 : sortedS ys = true) (p : xs.Perm ys) : xs = ys :=
  List.Perm.eq_of_pairwise (le := leS) (fun a b _ _ u v => str_ext (le_anti u v)) (sorted_pw h1) (sorted_pw h2) p
theorem sorted_set {xs ys : List Str} (h1 : sortedS xs = true) (h2 : sortedS ys = true) (n1 : xs.Nodup) (n2 : ys.Nodup) (m : ∀ x, x ∈ xs ↔ x ∈ ys) : xs = ys :=
  sorted_one h1 h2 ((List.perm_ext_iff_of_nodup n1 n2).mpr m)
def sing (c : Nat) : Str := ⟨#[c]⟩
def unsing (s : Str) : Nat := s.cps.toList.headD 0
theorem unsing_sing (c : Nat) : unsing (sing c) = c := rfl
theorem signs_eq (z : Str) : SM.signs z = z.cps.toList.map sing := rfl
/-- the SM.signs of a text in order -/
def sortN (cs : List Nat) : List Nat := cs.mergeSort (fun a b => decide (a ≤ b))
def sortS (z : Str) : Str := ⟨(sortN z.cps.toList).toArray⟩
theorem sortN_perm (cs : List Nat) : (sortN cs).Perm cs := List.mergeSort_perm _ _
theorem sortN_pw (cs : List Nat) : (sortN cs).Pairwise (· ≤ ·) := by
  have h := List.pairwise_mergeSort (le := fun a b : Nat => decide (a ≤ b)) (fun a b c h1 h2 => decide_eq_true (Nat.le_trans (of_decide_eq_true h1) (of_decide_eq_true h2))) (fun a b => by
    by_cases h : a ≤ b
    · simp [h]
    · have : b ≤ a := by omega
      simp [this]) cs
  exact h.imp fun h => of_decide_eq_true h
theorem sortN_one {l cs : List Nat} (p : l.Perm cs) (h : l.Pairwise (· ≤ ·)) : l = sortN cs :=
  List.Perm.eq_of_pairwise (le := (· ≤ ·)) (fun a b _ _ u v => Nat.le_antisymm u v) h (sortN_pw cs) (p.trans (sortN_perm cs).symm)
theorem sortN_congr {l cs : List Nat} (p : l.Perm cs) : sortN l = sortN cs := sortN_one ((sortN_perm l).trans p) (sortN_pw l)
theorem joinL_one (cs : List Nat) : TL.joinL [] (cs.map fun c => [c]) = cs := by
  induction cs with
  | nil => rfl
  | cons c cs ih =>
    cases cs with
    | nil => rfl
    | cons d cs =>
      show [c] ++ ([] ++ TL.joinL [] ((d :: cs).map fun c => [c])) = _
      rw [ih]
      rfl
theorem join_sing (cs : List Nat) : Txt.join "" (cs.map sing) = ⟨cs.toArray⟩ := by
  have h := SX.join_S [] (cs.map fun c => [c])
  rw [List.map_map, joinL_one] at h
  exact h
theorem perm_sing {ys : List Str} {cs : List Nat} (p : ys.Perm (cs.map sing)) : ∃ l : List Nat, ys = l.map sing ∧ l.Perm cs := by
  refine ⟨ys.map unsing, ?_, ?_⟩
  · rw [List.map_map]
    have : ∀ y ∈ ys, (sing ∘ unsing) y = y := fun y hy => by
      obtain ⟨c, _, e⟩ := List.mem_map.mp (p.mem_iff.mp hy)
      rw [← e]
      rfl
    exact ((List.map_congr_left this).trans (List.map_id' ys)).symm
  · have q := p.map unsing
    rw [List.map_map] at q
    have e : unsing ∘ sing = id := rfl
    rw [e, List.map_id] at q
    exact q
theorem pw_sing {l : List Nat} (h : (l.map sing).Pairwise leS) : l.Pairwise (· ≤ ·) := by
  rw [List.pairwise_map] at h
  refine h.imp fun {a b} h => ?_
  have q : ltCps [b] [a] = false := h
  simp only [ltCps, Bool.and_false, Bool.or_false, decide_eq_false_iff_not] at q
  omega
theorem join_sorted {ys : List Str} {z : Str} (p : ys.Perm (SM.signs z)) (h : sortedS ys = true) : Txt.join "" ys = sortS z := by
  obtain ⟨l, rfl, hl⟩ := perm_sing (cs := z.cps.toList) p
  rw [join_sing, sortN_one hl (pw_sing (sorted_pw h))]
  rfl
/-- each number once -/
def nub : List Nat → List Nat
  | [] => []
  | c :: cs => if c ∈ nub cs then nub cs else c :: nub cs
theorem mem_nub {x : Nat} : ∀ {cs : List Nat}, x ∈ nub cs ↔ x ∈ cs
  | [] => Iff.rfl
  | c :: cs => by
    unfold nub
    split
    · rename_i h
      rw [mem_nub, List.mem_cons]
      exact ⟨.inr, fun q => q.elim (fun e => e ▸ mem_nub.mp h) id⟩
    · rw [List.mem_cons, List.mem_cons, mem_nub]
theorem nub_nodup : ∀ cs : List Nat, (nub cs).Nodup
  | [] => List.nodup_nil
  | c :: cs => by
    unfold nub
    split
    · exact nub_nodup cs
    · rename_i h
      exact List.nodup_cons.mpr ⟨h, nub_nodup cs⟩
/-- the different SM.signs of a text in order -/
def dsort (z : Str) : Str := ⟨(sortN (nub z.cps.toList)).toArray⟩
theorem sing_inj {a b : Nat} (h : sing a = sing b) : a = b := by
  have := congrArg unsing h
  exact this
theorem map_nodup {l : List Nat} (h : l.Nodup) : (l.map sing).Nodup := List.Pairwise.map sing (fun a b h e => h (sing_inj e)) h
theorem join_dsort {ys xs : List Str} {z : Str} (p : ys.Perm xs) (n : xs.Nodup) (m : ∀ x, x ∈ xs ↔ x ∈ SM.signs z) (h : sortedS ys = true) : Txt.join "" ys = dsort z := by
  have p2 : xs.Perm ((nub z.cps.toList).map sing) := (List.perm_ext_iff_of_nodup n (map_nodup (nub_nodup _))).mpr fun x => by
    rw [m x, signs_eq, List.mem_map, List.mem_map]
    exact ⟨fun ⟨c, h1, h2⟩ => ⟨c, mem_nub.mpr h1, h2⟩, fun ⟨c, h1, h2⟩ => ⟨c, mem_nub.mp h1, h2⟩⟩
  obtain ⟨l, rfl, hl⟩ := perm_sing (p.trans p2)
  rw [join_sing, sortN_one hl (pw_sing (sorted_pw h))]
  rfl
theorem sortS_congr {z y : Str} (p : z.cps.toList.Perm y.cps.toList) : sortS z = sortS y := by
  unfold sortS
  rw [sortN_congr p]
theorem sortS_rev (z : Str) : sortS ⟨z.cps.reverse⟩ = sortS z := sortS_congr (by
  show z.cps.reverse.toList.Perm _
  rw [Array.toList_reverse]
  exact List.reverse_perm _)
theorem sortS_len (z : Str) : (sortS z).length = z.length := by
  show (sortN z.cps.toList).toArray.size = z.cps.size
  rw [List.size_toArray, (sortN_perm _).length_eq, Array.length_toList]
theorem nub_len : ∀ cs : List Nat, (nub cs).length ≤ cs.length
  | [] => Nat.le_refl _
  | c :: cs => by
    unfold nub
    have := nub_len cs
    split
    · rw [List.length_cons]; omega
    · rw [List.length_cons, List.length_cons]; omega
theorem dsort_len (z : Str) : (dsort z).length ≤ z.length := by
  show (sortN (nub z.cps.toList)).toArray.size ≤ z.cps.size
  rw [List.size_toArray, (sortN_perm _).length_eq]
  have := nub_len z.cps.toList
  rw [Array.length_toList] at this
  exact this
theorem nub_of : ∀ {cs : List Nat}, cs.Nodup → nub cs = cs
  | [], _ => rfl
  | c :: cs, h => by
    obtain ⟨h1, h2⟩ := List.nodup_cons.mp h
    unfold nub
    rw [nub_of h2, if_neg h1]
end UM
set_option Elab.async false
set_option linter.all false
set_option maxRecDepth 100000
set_option maxHeartbeats 4000000
/-! dicts: plain mathematics of their pairs -/
namespace UM
open PySem PySem.Spec PyProof.Rows SM L2
theorem any_key {kvs : List (Key × V)} {k : Key} : (kvs.any fun kv => decide (kv.1 = k)) = memK (kvs.map (·.1)) k := by
  unfold memK
  rw [List.any_map]
  rfl
theorem putK_keys (kvs : List (Key × V)) (k : Key) (v : V) : (putK kvs k v).map (·.1) = insK (kvs.map (·.1)) k := by
  unfold putK insK
  rw [any_key]
  split
  · rw [List.map_map]
    refine List.map_congr_left fun p _ => ?_
    show (if p.1 = k then (p.1, v) else p).1 = p.1
    split <;> rfl
  · rw [List.map_append]
    rfl
theorem mergeK_keys : ∀ (l acc : List (Key × V)), (mergeK acc l).map (·.1) = (l.map (·.1)).foldl insK (acc.map (·.1))
  | [], acc => rfl
  | p :: l, acc => by
    show (mergeK (putK acc p.1 p.2) l).map (·.1) = _
    rw [mergeK_keys l, putK_keys]
    rfl
theorem merge_keys (l : List (Key × V)) : (mergeK [] l).map (·.1) = dedK (l.map (·.1)) := mergeK_keys l []
theorem mergeK_app : ∀ (l acc : List (Key × V)) (p : Key × V), mergeK acc (l ++ [p]) = putK (mergeK acc l) p.1 p.2
  | [], acc, p => rfl
  | q :: l, acc, p => mergeK_app l (putK acc q.1 q.2) p
theorem putK_new {kvs : List (Key × V)} {k : Key} {v : V} (h : k ∉ kvs.map (·.1)) : putK kvs k v = kvs ++ [(k, v)] := by
  unfold putK
  rw [any_key, if_neg fun q => h (memK_iff.mp q)]
theorem mergeK_nd : ∀ (l acc : List (Key × V)), ((acc ++ l).map (·.1)).Nodup → mergeK acc l = acc ++ l
  | [], acc, _ => by rw [List.append_nil]; rfl
  | p :: l, acc, h => by
    have hp : p.1 ∉ acc.map (·.1) := fun q => by
      rw [List.map_append] at h
      exact (List.nodup_append.mp h).2.2 p.1 q p.1 List.mem_cons_self rfl
    show mergeK (putK acc p.1 p.2) l = _
    rw [putK_new hp, mergeK_nd l _ (by rw [List.append_assoc]; exact h), List.append_assoc]
    rfl
/-- keys that differ: the pairs as they stand -/
theorem merge_nd {l : List (Key × V)} (h : (l.map (·.1)).Nodup) : mergeK [] l = l := mergeK_nd l [] h
theorem valV_mem : ∀ {kvs : List (Key × V)} {p : Key × V}, (kvs.map (·.1)).Nodup → p ∈ kvs → valV kvs p.1 = some p.2
  | q :: kvs, p, h, hp => by
    obtain ⟨h1, h2⟩ := List.nodup_cons.mp h
    rcases List.mem_cons.mp hp with e | e
    · rw [← e]
      exact valV_pos rfl
    · have hn : ¬ q.1 = p.1 := fun e2 => h1 (by show q.1 ∈ _; rw [e2]; exact List.mem_map_of_mem (f := fun x : Key × V => x.1) e)
      rw [valV_neg hn]
      exact valV_mem h2 e
/-- a list of texts each once, by keys -/
theorem ded_strs (l : List Str) : ∃ xs : List Str, dedK (l.map Sum.inr) = xs.map Sum.inr ∧ xs.Nodup ∧ (∀ x, x ∈ xs ↔ x ∈ l) ∧ xs.length ≤ l.length := by
  have hall : ∀ k ∈ dedK (l.map (Sum.inr : Str → Key)), ∃ x, k = Sum.inr x := fun k hk => by
    obtain ⟨x, _, e⟩ := List.mem_map.mp (mem_dedK.mp hk)
    exact ⟨x, e.symm⟩
  have key : ∀ ks : List Key, (∀ k ∈ ks, ∃ x : Str, k = Sum.inr x) → ∃ xs : List Str, ks = xs.map Sum.inr := by
    intro ks
    induction ks with
    | nil => intro _; exact ⟨[], rfl⟩
    | cons k ks ih =>
      intro h
      obtain ⟨x, e⟩ := h k List.mem_cons_self
      obtain ⟨xs, e2⟩ := ih fun k hk => h k (List.mem_cons_of_mem _ hk)
      exact ⟨x :: xs, by rw [e, e2]; rfl⟩
  obtain ⟨xs, e⟩ := key _ hall
  have nd := dedK_nodup (l.map (Sum.inr : Str → Key))
  rw [e] at nd
  refine ⟨xs, e, List.Pairwise.of_map Sum.inr (fun a b h e => h (congrArg Sum.inr e)) nd, fun x => ?_, ?_⟩
  · have h1 : (Sum.inr x : Key) ∈ dedK (l.map Sum.inr) ↔ (Sum.inr x : Key) ∈ l.map Sum.inr := mem_dedK
    rw [e] at h1
    constructor
    · intro hx
      obtain ⟨y, hy, e2⟩ := List.mem_map.mp (h1.mp (List.mem_map_of_mem hx))
      rw [← Sum.inr.inj e2]
      exact hy
    · intro hx
      obtain ⟨y, hy, e2⟩ := List.mem_map.mp (h1.mpr (List.mem_map_of_mem hx))
      rw [← Sum.inr.inj e2]
      exact hy
  · have := dedK_len (l.map (Sum.inr : Str → Key))
    rw [e, List.length_map, List.length_map] at this
    exact this
/-- an entry of two texts -/
def entK (p : Str × Str) : Key × V := (Sum.inr p.1, V.str p.2)
theorem entK_keys (ls : List (Str × Str)) : (ls.map entK).map (·.1) = (ls.map (·.1)).map Sum.inr := by
  rw [List.map_map, List.map_map]
  rfl
theorem inr_nodup {l : List Str} (h : l.Nodup) : (l.map (Sum.inr : Str → Key)).Nodup := List.Pairwise.map Sum.inr (fun a b h e => h (Sum.inr.inj e)) h
theorem ent_nodup {ls : List (Str × Str)} (h : (ls.map (·.1)).Nodup) : ((ls.map entK).map (·.1)).Nodup := by
  rw [entK_keys]
  exact inr_nodup h
theorem join_len (ys : List Str) (z : Str) (p : ys.Perm (SM.signs z)) (hz : z.length ≤ 1000) : (ys.map (·.length)).sum + ys.length * ("" : Str).length ≤ 16777216 := by
  have h1 : (ys.map (·.length)).sum = ((SM.signs z).map (·.length)).sum := (p.map _).sum_nat
  have h2 : ((SM.signs z).map (·.length)).sum = z.length := by
    rw [signs_eq, List.map_map]
    have : ∀ l : List Nat, (l.map ((fun x : Str => x.length) ∘ sing)).sum = l.length := by
      intro l
      induction l with
      | nil => rfl
      | cons c l ih =>
        rw [List.map_cons, List.sum_cons, ih, List.length_cons]
        show 1 + _ = _
        omega
    rw [this, Array.length_toList]
    rfl
  have h3 : ("" : Str).length = 0 := rfl
  rw [h1, h2, h3]
  omega
end UM
set_option Elab.async false
set_option linter.all false
set_option maxRecDepth 100000
set_option maxHeartbeats 4000000
/-! general: an own class's == and != beside any value; lists compared by their very items, and with []; dicts of unlike lengths -/
namespace PySem.W
open PySem PyProof.Rows
/-- x != y by the class's own __eq__ -/
theorem ne_KB {K : Frag} {h₀ : Heap} {L : Addr} {s : Shared} {m : Str → Option Value} {x C f : Addr} {b tb : Value} {ox : Obj} {od : Option Obj} {A : Around} {E : Value → Shared → Prop} {prog : Program} {w : World} {Q : Value → Shared → Prop} (hu : A.units + 1 < cLine) (F : Fr h₀ L s.heap m) (X₀ : K.In h₀) (I : InstAt s.heap x ox C od) (hb : Looks (model prog w) s.heap (typeOf b) tb) (hnf : notFirst K C tb = true)
    (hn : findIn K (.ref C) "__ne__" = some (some (.builtin "object.__ne__"))) (hs : findIn K (.ref C) "__eq__" = some (some (.ref f))) (hf : isFn K (.ref f) = true) (ho : subIn K (.ref C) (.type "object") = some true)
    (h : wpAny (model prog w) A.in1 (call (.ref f) [.ref x, b]) (fun v s' => ∃ k, v = .bool k ∧ Q (.bool (!k)) s') E s) : wpAny (model prog w) A (compareOp .NotEq (.ref x) b) Q E s := by
  have X := X₀.keeps F.keep
  have hi : Looks (model prog w) s.heap (isInstance (.ref x) (.type "object")) true := I.type.andThen (looks_subIn X ho)
  have one : wpAny (model prog w) A (tryCompare (.ref x) "__ne__" b) (fun r s' => ∃ v, r = some v ∧ Q v s') E s := by
    unfold tryCompare
    simp only [callSpecialIfBound?, bindSpecialIfBound?]
    refine wpAny_bind (wpAny_holding (wpAny_bind (wpAny_bind (wpAny_bind (I.type.here ((looks_findIn X hn).here ?_))))))
    simp only [sl_ne.bind]
    refine wpAny_bind (wpAny_askSetting (wpAny_ite ?_))
    have go : wpAny (model prog w) A (call (.builtin "object.__ne__") ([.ref x] ++ [b])) (fun v s' => ∃ k, v = .bool k ∧ Q v s') E s := by
      refine wpAny_call (codeAny_call_builtin sl_ne.plain PySem.F.cmpEntry_ne (check_slot PySem.F.cmpKind_ne PySem.F.cmpSplit_ne hi (PySem.F.cmpArgs_ne _ _) ?_))
      unfold Builtin.«object.__ne__»
      repeat (first
        | with_reducible refine wpAny_cRoomFor (A := A.in1) hu ?_
        | (refine wpAny_bind (m := callSpecialIfBound? (.ref x) (Str.ofString "__eq__") [b])
            (ifBound_K X I hs hf (wpAny_mono h (fun r s' hr => by
              obtain ⟨k, rfl, hq⟩ := hr
              repeat (first | exact ⟨_, rfl, hq⟩ | exact wpAny_pure ⟨_, rfl, hq⟩ | exact wpAny_truthy_bool ⟨_, rfl, hq⟩ | (refine wpAny_bind (m := truthy (.bool _)) (wpAny_truthy_bool ?_)) | wp_step)) fun _ _ e => e)))
        | wp_step)
    have fin : wpAny (model prog w) A (call (.builtin "object.__ne__") ([.ref x] ++ [b]) >>= fun v => pure (some v)) (fun r s' => ∃ k, r = some (.bool k) ∧ Q (.bool k) s') E s :=
      wpAny_bind (wpAny_mono go (fun v s' ⟨k, e, hq⟩ => wpAny_pure ⟨k, by rw [e], by rw [← e]; exact hq⟩) fun _ _ e => e)
    have fin2 : wpAny (model prog w) A (call (.builtin "object.__ne__") ([.ref x] ++ [b]) >>= fun v => pure (some v)) (fun r s' => wpAny (model prog w) A (match r with | some .notImplemented | none => pure none | some v => pure (some v)) (fun r s' => ∃ v, r = some v ∧ Q v s') E s') E s :=
      wpAny_mono fin (fun r s' ⟨k, e, hq⟩ => by subst e; exact wpAny_pure ⟨_, rfl, hq⟩) fun _ _ e => e
    split
    · exact wpAny_bind (wpAny_pure (wpAny_pure (by exact fin2)))
    · exact wpAny_tryCatch (wpAny_bind (wpAny_pure (wpAny_pure (by exact fin2))))
  show wpAny (model prog w) A (richCompare .NotEq (.ref x) b) Q E s
  unfold richCompare
  simp only [oneThing_ref]
  refine wpAny_holding (wpAny_bind (wpAny_cRoomFor (Nat.lt_of_succ_lt hu) ?_))
  rw [cmpInfo_NotEq]
  dsimp only
  refine wpAny_bind (I.type.here (wpAny_bind (hb.here ?_)))
  split
  · rename_i q
    have e : subIn K tb (.ref C) = some false := by
      rcases Bool.or_eq_true_iff.mp hnf with e | e
      · rw [beq_iff_eq.mp e] at q; simp at q
      · exact beq_iff_eq.mp e
    refine wpAny_bind ((looks_subIn X e).here ?_)
    simp only [Bool.false_eq_true, if_false]
    refine wpAny_bind (wpAny_mono one (fun r s' z => ?_) fun _ _ e => e)
    obtain ⟨v, rfl, hq⟩ := z
    exact wpAny_pure hq
  · refine wpAny_bind (wpAny_pure ?_)
    simp only [Bool.false_eq_true, if_false]
    refine wpAny_bind (wpAny_mono one (fun r s' z => ?_) fun _ _ e => e)
    obtain ⟨v, rfl, hq⟩ := z
    exact wpAny_pure hq
end PySem.W
namespace L2
open PySem PySem.Spec PyProof.Rows PySem.GW
section
variable {X : Cx}
/-- x op y, x of the own class at C, y any value whose class does not stand below C -/
def rOwnV (K : PySem.W.Frag) (C : Addr) (sp : Sp) : R2 := fun x y H Q => ∃ a dx fs tb, x = .ref a ∧ H a = some (.ins C dx fs) ∧ TyX K H y tb ∧ PySem.W.notFirst K C tb = true ∧ sp [x, y] H Q E0
def rNeV (K : PySem.W.Frag) (C : Addr) (sp : Sp) : R2 := fun x y H Q => ∃ a dx fs tb, x = .ref a ∧ H a = some (.ins C dx fs) ∧ TyX K H y tb ∧ PySem.W.notFirst K C tb = true ∧ sp [x, y] H (fun z H' => ∃ k, z = .bl k ∧ Q (.bl (!k)) H') E0
theorem op_ownV {C g : Addr} {fd : FuncData} {ps : List Str} {n : Nat} {sp : Sp} {op : CmpOp} (hop : ∀ a b, compareOp op a b = richCompare op a b) (hs : PySem.W.findIn X.K (.ref C) (cmpInfo op).2.1 = some (some (.ref g))) (hf : PySem.W.isFn X.K (.ref g) = true)
    (F : FnOk X.prog X.w X.K X.mg X.base CX0 n g fd ps sp) (hb : Binds X.K fd ps []) (hr : Room n X.A) : OpR X (compareOp op) (rOwnV X.K C sp) := by
  intro pins s σ H x y v u Q I rx ry h
  obtain ⟨a, dx, fs, tb, rfl, ha, ty, hn, q⟩ := h
  cases (show v = Value.ref a from rx)
  obtain ⟨mA, O, _⟩ := ins_get I.hok ha
  obtain ⟨od, J, _⟩ := O.look
  obtain ⟨P, Z, p, _⟩ := kit_of I ry ty
  obtain ⟨m, hF⟩ := I.fr
  rw [hop]
  refine PySem.W.cmp_K (op := op) (tb := tb) hr.units0 hF I.ok.mod.kin J (Z.ty _ _ I.kIn p) hn hs hf ?_
  refine wpAny_mono (run_fn (us := [.ref a, u]) (vs := [.ref a, y]) (dvs := []) (ds := []) F hr hb .nil pass0 I (.cons rfl (.cons ry .nil)) q) (fun w s' z => ?_) fun _ _ x => x
  obtain ⟨z', H', I', rz, qz⟩ := z
  exact SlX.cmpback rz ⟨z', H', I', rz, qz⟩
theorem op_neV {C g : Addr} {fd : FuncData} {ps : List Str} {n : Nat} {sp : Sp} (hn : PySem.W.findIn X.K (.ref C) "__ne__" = some (some (.builtin "object.__ne__"))) (hs : PySem.W.findIn X.K (.ref C) "__eq__" = some (some (.ref g))) (hf : PySem.W.isFn X.K (.ref g) = true) (ho : PySem.W.subIn X.K (.ref C) (.type "object") = some true)
    (F : FnOk X.prog X.w X.K X.mg X.base CX0 n g fd ps sp) (hb : Binds X.K fd ps []) (hr : Room (n + 1) X.A) : OpR X (compareOp .NotEq) (rNeV X.K C sp) := by
  intro pins s σ H x y v u Q I rx ry h
  obtain ⟨a, dx, fs, tb, rfl, ha, ty, hnf, q⟩ := h
  cases (show v = Value.ref a from rx)
  obtain ⟨mA, O, _⟩ := ins_get I.hok ha
  obtain ⟨od, J, _⟩ := O.look
  obtain ⟨P, Z, p, _⟩ := kit_of I ry ty
  obtain ⟨m, hF⟩ := I.fr
  refine PySem.W.ne_KB (by have := hr.units; omega) hF I.ok.mod.kin J (Z.ty _ _ I.kIn p) hnf hn hs hf ho ?_
  have hl : ([V.ref a, y] ++ []).length = ps.length := F.len _ _ _ _ q
  refine wpAny_call (codeAny_mono (F.run X.A.in1 X.stack s H ⟨[.ref a, u], []⟩ [.ref a, u] [.ref a, y] _ E0 hr.in1 I.env0.in1 (hb s [.ref a, u] I.kIn hl) (.cons rfl (.cons ry .nil)) q) fun r s' hq => ?_)
  cases r with
  | error e => exact (pass0 pins σ H s e s' I hq)
  | ok fl =>
    cases fl with
    | ret u =>
      obtain ⟨v, H', I2, rv, k, e, q⟩ := I.after hq
      subst e
      cases (show u = Value.bool k from rv)
      exact ⟨k, rfl, .bl (!k), H', I2, rfl, q⟩
    | next => exact False.elim hq
    | brk => exact False.elim hq
    | cont => exact False.elim hq
/-- dicts of unlike lengths -/
def rEqDL : R2 := fun x y H Q => ∃ a b ks ls, x = .ref a ∧ y = .ref b ∧ H a = some (.dK ks) ∧ H b = some (.dK ls) ∧ ks.length ≠ ls.length ∧ Q (.bl false) H
theorem op_eq_dictL (hu : X.A.units < cLine) : OpR X (compareOp .Eq) rEqDL := by
  intro pins s σ H x y v u Q I rx ry h
  obtain ⟨a, b, ks, ls, rfl, rfl, ea, eb, hlen, q⟩ := h
  obtain rfl : v = Value.ref a := rx
  obtain rfl : u = Value.ref b := ry
  obtain ⟨_, ya, va, ra, da⟩ := (show ObjOk X.prog X.w H s.heap a (.dK ks) from I.hok a _ ea)
  obtain ⟨_, yb, vb, rb, db⟩ := (show ObjOk X.prog X.w H s.heap b (.dK ls) from I.hok b _ eb)
  have hl : ¬ va.length = vb.length := by rw [← ra.length, ← rb.length]; exact hlen
  exact PySem.W.keq_eq (knd := mixKind X.prog X.w) (r := true) ya yb da db hu (fun e => absurd e hl) (fin_bl I q (by simp [hl]))
/-- lists of the very same items are not unlike -/
def rNeSame (K : PySem.W.Frag) : R2 := fun x y H Q => ∃ a b xs, x = .ref a ∧ y = .ref b ∧ SqL K H a xs ∧ SqL K H b xs ∧ (∀ v ∈ xs, flatB v = true ∨ ∃ r, v = .ref r) ∧ Q (.bl false) H
theorem same_items {A : Around} {s : Shared} : ∀ {xs : List V} {us ws : List Value}, Vals xs us → Vals xs ws → (∀ v ∈ xs, flatB v = true ∨ ∃ r, v = .ref r) → ∀ j (h1 : j < us.length) (h2 : j < ws.length), SeqAt.EqAt A s us[j] ws[j] true
  | _, _, _, .nil, _, _, j, h1, _ => absurd h1 (Nat.not_lt_zero j)
  | _, _, _, .cons a1 b1, .cons a2 b2, h, 0, _, _ => by
    rcases h _ List.mem_cons_self with f | ⟨r, rfl⟩
    · exact eqAt_same a1 a2 f
    · cases a1
      cases a2
      exact SeqAt.EqAt.same _
  | _, _, _, .cons a1 b1, .cons a2 b2, h, j + 1, h1, h2 => same_items b1 b2 (fun v hv => h v (List.mem_cons_of_mem _ hv)) j (Nat.lt_of_succ_lt_succ h1) (Nat.lt_of_succ_lt_succ h2)
theorem op_neSame (hu : X.A.units < cLine) : OpR X (compareOp .NotEq) (rNeSame X.K) := by
  intro pins s σ H x y v u Q I rx ry h
  obtain ⟨a, b, xs, rfl, rfl, ha, hb, hx, q⟩ := h
  obtain rfl : v = Value.ref a := rx
  obtain rfl : u = Value.ref b := ry
  obtain ⟨us, r1, p1, _⟩ := I.list ha
  obtain ⟨ws, r2, p2, _⟩ := I.list hb
  have hsz : us.toArray.size = ws.toArray.size := by rw [List.size_toArray, List.size_toArray, ← r1.length, ← r2.length]
  refine SeqAt.RcNeAt.lists (e := fun _ => true) p1.isList p2.isList hsz hu (fun j h1 h2 => ?_) X.prog X.w _ _ ?_
  · have k := same_items (A := X.A.in1) (s := s) r1 r2 hx j (by simpa using h1) (by simpa using h2)
    simpa using k
  · rw [show ((List.range us.toArray.size).all fun _ => true) = true from List.all_eq_true.mpr fun _ _ => rfl]
    exact ⟨.bl false, H, I, rfl, q⟩
/-- xs != [] -/
def rNeNil (K : PySem.W.Frag) : R2 := fun x y H Q => ∃ a b xs, x = .ref a ∧ y = .ref b ∧ SqL K H a xs ∧ SqL K H b [] ∧ Q (.bl (!xs.isEmpty)) H
theorem op_neNil (hu : X.A.units < cLine) : OpR X (compareOp .NotEq) (rNeNil X.K) := by
  intro pins s σ H x y v u Q I rx ry h
  obtain ⟨a, b, xs, rfl, rfl, ha, hb, q⟩ := h
  obtain rfl : v = Value.ref a := rx
  obtain rfl : u = Value.ref b := ry
  obtain ⟨us, r1, p1, _⟩ := I.list ha
  obtain ⟨ws, r2, p2, _⟩ := I.list hb
  cases r2
  cases xs with
  | nil =>
    cases r1
    refine SeqAt.RcNeAt.lists (e := fun _ => true) p1.isList p2.isList rfl hu (fun j h1 h2 => absurd h1 (Nat.not_lt_zero j)) X.prog X.w _ _ ?_
    exact ⟨.bl false, H, I, rfl, q⟩
  | cons x xs =>
    cases r1 with
    | cons r1 t1 =>
      refine SeqAt.RcNeAt.lists_lengths p1.isList p2.isList (by simp) hu X.prog X.w _ _ ?_
      exact ⟨.bl true, H, I, rfl, q⟩
end
end L2
set_option Elab.async false
set_option linter.all false
set_option maxRecDepth 100000
set_option maxHeartbeats 4000000
/-! general: displays of odd values: what an expression makes, by a property that new objects do not touch -/
namespace R4
open PySem L2 PySem.GW LamX SM
abbrev Pr : Type := Hp → V → Prop
def Stab (P : Pr) : Prop := ∀ H H' v, Same H H' → P H v → P H' v
/-- an expression that makes a value with P and changes nothing that stands in H0 -/
def GV (H0 : Hp) (σ : L2.St) (te : TE) (P : Pr) : Prop := ∀ (H : Hp) (Q : VK), Same H0 H → (∀ v H', Same H H' → P H' v → Q v H') → te σ H Q
def Each (Ps : List Pr) (H : Hp) (vs : List V) : Prop := Paired (fun (P : Pr) v => P H v) Ps vs
structure GVs (H0 : Hp) (σ : L2.St) (ta : TA) (Ps : List Pr) : Prop where
  st : ∀ P ∈ Ps, Stab P
  run : ∀ (H : Hp) (Q : List V → Hp → Prop), Same H0 H → (∀ vs H', Same H H' → Each Ps H' vs → Q vs H') → ta σ H Q
def Is (x : V) : Pr := fun _ v => v = x
theorem stab_is {x : V} : Stab (Is x) := fun _ _ _ _ h => h
section
variable {H0 : Hp} {σ : L2.St}
theorem Each.same {Ps : List Pr} {H H' : Hp} {vs : List V} (st : ∀ P ∈ Ps, Stab P) (s : Same H H') (h : Each Ps H vs) : Each Ps H' vs := by
  unfold Each at h ⊢
  induction h with
  | nil => exact .nil
  | cons h _ ih => exact .cons (st _ List.mem_cons_self _ _ _ s h) (ih fun P hP => st P (List.mem_cons_of_mem _ hP))
theorem gvs_nil : GVs H0 σ tNil [] := ⟨(fun P h => nomatch h), fun H Q _ q => q [] H (Same.refl _) .nil⟩
theorem gvs_cons {te : TE} {ta : TA} {P : Pr} {Ps : List Pr} (h1 : GV H0 σ te P) (st : Stab P) (h2 : GVs H0 σ ta Ps) : GVs H0 σ (tCons te ta) (P :: Ps) :=
  ⟨fun P' h => (List.mem_cons.mp h).elim (fun e => e ▸ st) (h2.st P'), fun H Q s q => h1 H _ s fun v H1 s1 p1 => h2.run H1 _ (s.trans s1) fun vs H2 s2 p2 => q (v :: vs) H2 (s1.trans s2) (.cons (st _ _ _ s2 p1) p2)⟩
theorem gv_c {v : V} : GV H0 σ (tC v) (Is v) := fun H _ _ q => q v H (Same.refl _) rfl
theorem gv_var {v : V} {i : Nat} (h : σ[i]? = some (some v)) : GV H0 σ (tVar i) (Is v) := fun H _ _ q => ⟨v, h, q v H (Same.refl _) rfl⟩
theorem GV.imp {te : TE} {P P' : Pr} (h : GV H0 σ te P) (i : ∀ H v, P H v → P' H v) : GV H0 σ te P' := fun H Q s q => h H Q s fun v H' s' p => q v H' s' (i H' v p)
theorem gv_op {ta tb : TE} {r : R2} {x y v : V} (h1 : GV H0 σ ta (Is x)) (h2 : GV H0 σ tb (Is y)) (hr : ∀ (H : Hp) (Q : VK), Q v H → r x y H Q) : GV H0 σ (tOp r ta tb) (Is v) := fun H Q s q =>
  h1 H _ s fun u H1 s1 e1 => h2 H1 _ (s.trans s1) fun u' H2 s2 e2 => by
    cases e1
    cases e2
    exact hr H2 Q (q v H2 (s1.trans s2) rfl)
/-- a new tuple, list, dict -/
def NewT (H0 : Hp) (Ps : List Pr) : Pr := fun H v => ∃ p xs, v = .ref p ∧ H p = some (.tup xs) ∧ H0 p = none ∧ Each Ps H xs
def NewL (H0 : Hp) (Ps : List Pr) : Pr := fun H v => ∃ p xs, v = .ref p ∧ H p = some (.lst xs) ∧ H0 p = none ∧ Each Ps H xs
def NewD (H0 : Hp) (kvs : List (Key × V)) : Pr := fun H v => ∃ p, v = .ref p ∧ H p = some (.dK kvs) ∧ H0 p = none
theorem stab_T {Ps : List Pr} (st : ∀ P ∈ Ps, Stab P) : Stab (NewT H0 Ps) := fun H H' v s ⟨p, xs, e, h1, h2, h3⟩ => ⟨p, xs, e, s _ _ h1, h2, h3.same st s⟩
theorem stab_L {Ps : List Pr} (st : ∀ P ∈ Ps, Stab P) : Stab (NewL H0 Ps) := fun H H' v s ⟨p, xs, e, h1, h2, h3⟩ => ⟨p, xs, e, s _ _ h1, h2, h3.same st s⟩
theorem stab_D {kvs : List (Key × V)} : Stab (NewD H0 kvs) := fun H H' v s ⟨p, e, h1, h2⟩ => ⟨p, e, s _ _ h1, h2⟩
theorem Each.length {Ps : List Pr} {H : Hp} {vs : List V} (h : Each Ps H vs) : vs.length = Ps.length := (Paired.length h).symm
theorem gv_tup {ta : TA} {Ps : List Pr} (h : GVs H0 σ ta Ps) (hl : Ps.length ≤ 1000 := by first | decide | simp) : GV H0 σ (tTup ta) (NewT H0 Ps) := fun H Q s q =>
  h.run H _ s fun vs H1 s1 he => ⟨by rw [he.length, sizeLine_eq]; omega, fun p hp => q _ _ (s1.trans (same_upd hp)) ⟨p, vs, rfl, upd_same, fresh_back (s.trans s1) hp, he.same h.st (same_upd hp)⟩⟩
theorem gv_lst {ta : TA} {Ps : List Pr} (h : GVs H0 σ ta Ps) (hl : Ps.length ≤ 1000 := by first | decide | simp) : GV H0 σ (tLst ta) (NewL H0 Ps) := fun H Q s q =>
  h.run H _ s fun vs H1 s1 he => ⟨by rw [he.length, sizeLine_eq]; omega, fun p hp => q _ _ (s1.trans (same_upd hp)) ⟨p, vs, rfl, upd_same, fresh_back (s.trans s1) hp, he.same h.st (same_upd hp)⟩⟩
theorem gv_d0 : GV H0 σ tDNewK (NewD H0 []) := fun H Q s q p hp => q _ _ (same_upd hp) ⟨p, rfl, upd_same, fresh_back s hp⟩
theorem gv_d1 {tk tv : TE} {k : Key} {v : V} (h1 : GV H0 σ tk (Is (kV k))) (h2 : GV H0 σ tv (Is v)) : GV H0 σ (tDisp [(tk, tv)]) (NewD H0 [(k, v)]) := fun H Q s q p hp => by
  have s0 := same_upd (o := .dK []) hp
  refine h1 _ _ (s.trans s0) fun u H1 s1 e1 => h2 _ _ ((s.trans s0).trans s1) fun u' H2 s2 e2 => ?_
  cases e1
  cases e2
  refine ⟨s2 _ _ (s1 _ _ upd_same), [(k, v)], rfl, (by show 1 ≤ 15; decide), ?_⟩
  exact q _ _ (same_at hp (s0.trans (s1.trans s2))) ⟨p, rfl, upd_same, fresh_back s hp⟩
theorem gv_d2 {tk tv tk2 tv2 : TE} {k k2 : Key} {v v2 : V} (hne : k ≠ k2) (h1 : GV H0 σ tk (Is (kV k))) (h2 : GV H0 σ tv (Is v)) (h3 : GV H0 σ tk2 (Is (kV k2))) (h4 : GV H0 σ tv2 (Is v2)) : GV H0 σ (tDisp [(tk, tv), (tk2, tv2)]) (NewD H0 [(k, v), (k2, v2)]) := fun H Q s q p hp => by
  have s0 := same_upd (o := .dK []) hp
  refine h1 _ _ (s.trans s0) fun u H1 s1 e1 => h2 _ _ ((s.trans s0).trans s1) fun u' H2 s2 e2 => h3 _ _ (((s.trans s0).trans s1).trans s2) fun u3 H3 s3 e3 => h4 _ _ ((((s.trans s0).trans s1).trans s2).trans s3) fun u4 H4 s4 e4 => ?_
  cases e1
  cases e2
  cases e3
  cases e4
  refine ⟨s4 _ _ (s3 _ _ (s2 _ _ (s1 _ _ upd_same))), [(k, v), (k2, v2)], rfl, (by show 2 ≤ 15; decide), ?_⟩
  have e : mergeK [] [(k, v), (k2, v2)] = [(k, v), (k2, v2)] := by
    show putK (putK [] k v) k2 v2 = _
    have e1 : putK ([] : List (Key × V)) k v = [(k, v)] := rfl
    rw [e1]
    unfold putK
    rw [if_neg (by simp [hne])]
    rfl
  rw [e]
  exact q _ _ (same_at hp (s0.trans (s1.trans (s2.trans (s3.trans s4))))) ⟨p, rfl, upd_same, fresh_back s hp⟩
end
/-- the item of a display at i has the property that stands there -/
theorem Each.at {Ps : List Pr} {H : Hp} {vs : List V} {i : Nat} {v : V} (h : Each Ps H vs) (hv : vs[i]? = some v) : ∃ P, Ps[i]? = some P ∧ P H v := by
  unfold Each at h
  induction h generalizing i with
  | nil => simp at hv
  | cons h _ ih =>
    cases i with
    | zero =>
      simp at hv
      subst hv
      exact ⟨_, rfl, h⟩
    | succ i => exact ih (by simpa using hv)
theorem Each.all {P : Pr} : ∀ {n : Nat} {H : Hp} {vs : List V}, Each (List.replicate n P) H vs → ∀ v ∈ vs, P H v := fun {n H vs} h v hv => by
  obtain ⟨i, hi⟩ := List.getElem?_of_mem hv
  obtain ⟨P', h1, h2⟩ := h.at hi
  rw [List.getElem?_replicate] at h1
  split at h1
  · cases h1; exact h2
  · cases h1
theorem TyX.but {K : PySem.W.Frag} {H H' : Hp} {p : Addr} {v : V} {t : Value} (e : SameBut p H H') (hv : ∀ r, v = .ref r → r ≠ p) (h : TyX K H v t) : TyX K H' v t := by
  have g : ∀ {r : Addr} {o : HO}, v = .ref r → H r = some o → H' r = some o := fun e1 h1 => e _ _ (hv _ e1) h1
  cases h with
  | base b =>
    cases b with
    | non => exact .base .non
    | bl x => exact .base (.bl x)
    | int i => exact .base (.int i)
    | str x => exact .base (.str x)
    | flt x => exact .base (.flt x)
    | lst q => exact .base (.lst (g rfl q))
    | frz q => exact .base (.frz (g rfl q))
    | tup q => exact .base (.tup (g rfl q))
    | dK q => exact .base (.dK (g rfl q))
    | dT q => exact .base (.dT (g rfl q))
    | ins q cl ha hn htk hm => exact .base (.ins (g rfl q) cl ha hn htk hm)
  | byt b => exact .byt b
  | set q => exact .set (g rfl q)
  | kList q c => exact .kList q c
  | kTuple q c => exact .kTuple q c
  | kDict q c => exact .kDict q c
  | fTuple q => exact .fTuple (g rfl q)
  | fDict q => exact .fDict (g rfl q)
end R4
set_option Elab.async false
set_option linter.all false
set_option maxRecDepth 100000
set_option maxHeartbeats 4000000
/-! general: loops and comprehensions over anything that is walked in its order, by an invariant -/
namespace R4
open PySem L2 PySem.GW LamX SM
/-- J gives xs[i] at H -/
def Gat (J : It) (xs : List V) (i : Nat) (H : Hp) : Prop := (i < xs.length → J.go i H ∧ ∀ x H', J.yld i H x H' → H' = H ∧ xs[i]? = some x) ∧ (i = xs.length → J.stop i H)
theorem gat_str {z : Str} {i : Nat} {H : Hp} (hi : i ≤ ((SM.signs z).map V.str).length) : Gat (Its z) ((SM.signs z).map V.str) i H := gvs_str (H1 := H) i H hi (Same.refl _)
theorem gat_list {K : PySem.W.Frag} {a : Addr} {xs : List V} {i : Nat} {H : Hp} (hi : i ≤ xs.length) (h : SqL K H a xs) : Gat (Itl K a) xs i H := gvs_list h i H hi (Same.refl _)
theorem gat_tup {K : PySem.W.Frag} {a : Addr} {xs : List V} {i : Nat} {H : Hp} (hi : i ≤ xs.length) (h : SqT K H a xs) : Gat (Itt K a) xs i H := gvs_tup h i H hi (Same.refl _)
theorem gat_keys {d : Addr} {o : Obj} {kvs : List (Key × V)} {i : Nat} {H : Hp} (hi : i ≤ (kvs.map fun p => kV p.1).length) (h : H d = some (.frz o (.dK kvs))) : Gat (Itk d o kvs) (kvs.map fun p => kV p.1) i H := gvs_keys h i H hi (Same.refl _)
theorem lc_any {J : It} {xs : List V} {g : TG} {tt : TT} {te : TE} {vs : List Nat} {σ : L2.St} {H1 : Hp} {D : Addr} {Qd : Hp → Prop} (Pv : Nat → Hp → Prop) (h0 : Pv 0 (upd H1 D (.lst []))) (hj : ∀ i H, i ≤ xs.length → Pv i H → Gat J xs i H)
    (hs : ∀ i x H, xs[i]? = some x → Pv i H → g x (wipe σ vs) H fun σ2 H2 => wipe σ2 vs = wipe σ vs ∧ tt σ2 H2 fun b H3 =>
      if b = true then te σ2 H3 fun y H4 => ∃ acc, H4 D = some (.lst acc) ∧ acc.length < sizeLine ∧ Pv (i + 1) (upd H4 D (.lst (acc ++ [y]))) else Pv (i + 1) H3) (hd : ∀ H, Pv xs.length H → Qd H) :
    ∃ W : Nat → Nat → Hp → Prop, (∃ m, W 0 m (upd H1 D (.lst []))) ∧ ∀ i m H, W i m H →
      (J.stop i H ∧ Qd H) ∨ (J.go i H ∧ ∃ Nx : Hp → Prop, (∀ H', Nx H' → ∃ m', m' < m ∧ W (i + 1) m' H') ∧ ∀ x H', J.yld i H x H' → g x (wipe σ vs) H' fun σ2 H2 => wipe σ2 vs = wipe σ vs ∧ tt σ2 H2 fun b H3 =>
        if b = true then te σ2 H3 fun y H4 => ∃ acc, H4 D = some (.lst acc) ∧ acc.length < sizeLine ∧ Nx (upd H4 D (.lst (acc ++ [y]))) else Nx H3) := by
  refine ⟨fun i m H => m = xs.length - i ∧ i ≤ xs.length ∧ Pv i H, ⟨xs.length, by simp, Nat.zero_le _, h0⟩, ?_⟩
  rintro i m H ⟨rfl, hi, p⟩
  obtain ⟨q1, q2⟩ := hj i H hi p
  by_cases hlt : i < xs.length
  · obtain ⟨q3, q4⟩ := q1 hlt
    refine .inr ⟨q3, Pv (i + 1), fun H' p' => ⟨xs.length - (i + 1), by omega, rfl, hlt, p'⟩, fun x H' y => ?_⟩
    obtain ⟨e, hx⟩ := q4 x H' y
    subst e
    exact hs i x _ hx p
  · have e : i = xs.length := by omega
    subst e
    exact .inl ⟨q2 rfl, hd H p⟩
theorem for_any {J : It} {xs : List V} {g : TG} {tb : TS} {D : Ends} {σ : L2.St} {H : Hp} (Pv : Nat → L2.St → Hp → Prop) (h0 : Pv 0 σ H) (hj : ∀ i σ H, i ≤ xs.length → Pv i σ H → Gat J xs i H)
    (hs : ∀ i x σ H, xs[i]? = some x → Pv i σ H → g x σ H fun σ2 H2 => tb { D with nx := Pv (i + 1), ct := Pv (i + 1), bk := D.nx } σ2 H2) (hd : ∀ σ H, Pv xs.length σ H → D.nx σ H) :
    ∃ W : Nat → Nat → L2.St → Hp → Prop, (∃ m, W 0 m σ H) ∧ ∀ i m σ H, W i m σ H →
      (J.stop i H ∧ D.nx σ H) ∨ (J.go i H ∧ ∃ N : L2.St → Hp → Prop, (∀ σ' H', N σ' H' → ∃ m', m' < m ∧ W (i + 1) m' σ' H') ∧ ∀ x H', J.yld i H x H' → g x σ H' fun σ2 H2 => tb { D with nx := N, ct := N, bk := D.nx } σ2 H2) := by
  refine ⟨fun i m σ H => m = xs.length - i ∧ i ≤ xs.length ∧ Pv i σ H, ⟨xs.length, by simp, Nat.zero_le _, h0⟩, ?_⟩
  rintro i m σ H ⟨rfl, hi, p⟩
  obtain ⟨q1, q2⟩ := hj i σ H hi p
  by_cases hlt : i < xs.length
  · obtain ⟨q3, q4⟩ := q1 hlt
    refine .inr ⟨q3, Pv (i + 1), fun σ' H' p' => ⟨xs.length - (i + 1), by omega, rfl, hlt, p'⟩, fun x H' y => ?_⟩
    obtain ⟨e, hx⟩ := q4 x H' y
    subst e
    exact hs i x σ _ hx p
  · have e : i = xs.length := by omega
    subst e
    exact .inl ⟨q2 rfl, hd σ H p⟩
end R4
set_option Elab.async false
set_option linter.all false
set_option maxRecDepth 100000
set_option maxHeartbeats 4000000
/-! general: a new dict walked (it stays locked), comprehensions of pairs -/
namespace L2
open PySem PySem.Spec PyProof.Rows
/-- for k in d, d a dict that nothing writes any more -/
def iKeysN (td : TE) : TI := fun σ H R => td σ H fun x H1 => ∃ d kvs, x = .ref d ∧ H1 d = some (.dK kvs) ∧ ∀ o, R (Itk d o kvs) (upd H1 d (.frz o (.dK kvs)))
theorem pi_keysN {X : Cx} {tg e : Expr} {td : TE} (he : PE X e td) : PI X tg e (iKeysN td) := by
  refine ⟨fun pins s σ H R I h => ?_⟩
  refine thn (he.run pins s σ H _ I h) fun u s1 ⟨x, H1, I1, rx, d, kvs, ex, hd0, q⟩ => ?_
  subst ex
  obtain rfl : u = Value.ref d := rx
  obtain ⟨o, I2⟩ := I1.lock hd0 True.intro
  obtain ⟨hs, hgd, hx, es, ep, vs, hdt, hsz, kv, hm⟩ := I2.frzK upd_same
  refine iter_keys hs hgd hx hdt (pi_one (tk := s1.toks) I2 _ (turn_keys _ hdt) ⟨_, Heap.get?_push_size _ rfl, rfl, ?_⟩ (q o))
  rw [hsz] <;> rfl
end L2
namespace R4
open PySem L2 PySem.GW LamX SM
/-- tuples of a key and a value -/
abbrev PairAts (K : PySem.W.Frag) (H : Hp) : List Addr → List (Key × V) → Prop := Paired fun T kv => SqT K H T [kV kv.1, kv.2]
theorem PairAts.same {K : PySem.W.Frag} {H H' : Hp} {ts : List Addr} {kvs : List (Key × V)} (e : Same H H') (h : PairAts K H ts kvs) : PairAts K H' ts kvs := Paired.mapP h fun _ _ h => Same.seqT e h
/-- [(k(x), v(x)) for x in ..] -/
theorem lc_pairs {K : PySem.W.Frag} {J : It} {xs : List V} {j : Nat} {te : TE} {vs : List Nat} {σ : L2.St} {H1 : Hp} {D : Addr} {Qd : Hp → Prop} (f : V → Key × V) (hD : H1 D = none) (hl : xs.length ≤ 100000) (hj : Gvs J xs H1)
    (hw : ∀ v : V, wipe ((wipe σ vs).set j (some v)) vs = wipe σ vs)
    (hs : ∀ (i : Nat) (x : V) (H : Hp) (R : V → Hp → Prop), xs[i]? = some x → Same H1 H → (∀ T H', Same H H' → H' T = some (.tup [kV (f x).1, (f x).2]) → R (.ref T) H') → te ((wipe σ vs).set j (some x)) H R)
    (hd : ∀ H ts, Same H1 H → H D = some (.lst (ts.map V.ref)) → PairAts K H ts (xs.map f) → Qd H) :
    ∃ W : Nat → Nat → Hp → Prop, (∃ m, W 0 m (upd H1 D (.lst []))) ∧ ∀ i m H, W i m H →
      (J.stop i H ∧ Qd H) ∨ (J.go i H ∧ ∃ Nx : Hp → Prop, (∀ H', Nx H' → ∃ m', m' < m ∧ W (i + 1) m' H') ∧ ∀ x H', J.yld i H x H' → gName j x (wipe σ vs) H' fun σ2 H2 => wipe σ2 vs = wipe σ vs ∧ tYes σ2 H2 fun b H3 =>
        if b = true then te σ2 H3 fun y H4 => ∃ acc, H4 D = some (.lst acc) ∧ acc.length < sizeLine ∧ Nx (upd H4 D (.lst (acc ++ [y]))) else Nx H3) := by
  refine ⟨fun i m H => m = xs.length - i ∧ i ≤ xs.length ∧ Same H1 H ∧ ∃ ts : List Addr, H D = some (.lst (ts.map V.ref)) ∧ PairAts K H ts ((xs.take i).map f), ⟨xs.length, by simp, Nat.zero_le _, same_upd hD, [], upd_same, .nil⟩, ?_⟩
  rintro i m H ⟨rfl, hi, sm, ts, hDi, hts⟩
  obtain ⟨q1, q2⟩ := hj i H hi sm
  by_cases hlt : i < xs.length
  · obtain ⟨q3, q4⟩ := q1 hlt
    refine .inr ⟨q3, fun H' => i + 1 ≤ xs.length ∧ Same H1 H' ∧ ∃ ts : List Addr, H' D = some (.lst (ts.map V.ref)) ∧ PairAts K H' ts ((xs.take (i + 1)).map f), fun H' p' => ⟨xs.length - (i + 1), by omega, rfl, p'⟩, fun x H' y => ?_⟩
    obtain ⟨e, hx⟩ := q4 x H' y
    subst e
    have htl : ts.length = i := by
      have := Paired.length hts
      rw [List.length_map, List.length_take] at this
      omega
    refine ⟨hw x, ?_⟩
    refine (hs i x H' _ hx sm fun T H4 s4 hT => ⟨_, s4 _ _ hDi, ?_, hlt, same_at hD (sm.trans s4), ts ++ [T], ?_, ?_⟩)
    · rw [List.length_map, sizeLine_eq]; omega
    · rw [upd_same, List.map_append]; rfl
    · rw [take_at hx, List.map_append]
      exact Paired.append (Paired.mapP hts fun _ _ h => sqT_upd (s4 _ _ hDi) (Same.seqT s4 h)) (sqT_upd (s4 _ _ hDi) (SqT.of hT))
  · have e : i = xs.length := by omega
    subst e
    rw [List.take_length] at hts
    exact .inl ⟨q2 rfl, hd H ts sm hDi hts⟩
end R4
set_option Elab.async false
set_option linter.all false
set_option maxRecDepth 100000
set_option maxHeartbeats 4000000
/-! sorted(d), d a dict whose keys are pairs of ints: a new list of the keys. -/
namespace L2
open PySem PySem.Spec PyProof.Rows
section
variable {X : Cx} {prog : Program} {w : World}
theorem kdl_rawD {d : Addr} {es : Array DictEntry} {ep : Nat} (lo : (d == sysModules) = false) : PySem.W.KdlSrc prog w "dict" d d es.size (fun i v => ∃ hi : i < es.size, v = es[i].key) (fun h => h.DictRaw d es ep) where
  type := fun _ hm => hm.typeIs
  there := fun _ hm => ⟨let ⟨_, ho, _⟩ := hm; Heap.lt_size ho, let ⟨_, ho, _⟩ := hm; Heap.lt_size ho⟩
  keep := fun _ _ hm hk => hm.at fun o e => hk d (.inl rfl) o e
  notList := by decide
  notTuple := by decide
  hint := fun _ _ _ _ hm hq => PySem.W.kdl_hint_dict hm.typeIs hq
  iter := fun _ _ hh hm => ⟨_, _, (fun _ _ hq => wpAny_pyIter_dict_raw lo hm hq), Walks.rawKeys hh _ d (Nat.ne_of_lt (let ⟨_, ho, _⟩ := hm; Heap.lt_size ho)) es ep, ⟨⟨_, Heap.get?_push_size _ rfl, rfl, rfl⟩, hm.at fun o e => Heap.get?_push_of_some _ e⟩⟩
def pairAt (H : Hp) : Value → Int × Int
  | .ref t => match H t with
    | some (.tup [.int i, .int j]) => (i, j)
    | _ => (0, 0)
  | _ => (0, 0)
theorem pairAt_of {H : Hp} {t : Addr} {i j : Int} (h : H t = some (.tup [.int i, .int j])) : pairAt H (.ref t) = (i, j) := by
  show (match H t with | some (.tup [.int i, .int j]) => (i, j) | _ => (0, 0)) = _
  rw [h]
def adrOf : Value → Addr
  | .ref t => t
  | _ => 0
theorem paired_map {α β γ : Type} {F : β → γ → Prop} (f : α → β) (g : α → γ) : ∀ (l : List α), (∀ x ∈ l, F (f x) (g x)) → Paired F (l.map f) (l.map g)
  | [], _ => .nil
  | x :: l, h => .cons (h x List.mem_cons_self) (paired_map f g l fun y hy => h y (List.mem_cons_of_mem _ hy))
def rSortDT : List V → Hp → VK → Prop := fun vs H Q => ∃ (a : Addr) (kvs : List (List Key × V)) (ks : List (Int × Int)), vs = [.ref a] ∧ H a = some (.dT kvs) ∧ kvs.map (·.1) = ks.map (fun p => [Sum.inl p.1, Sum.inl p.2]) ∧
  ∀ (ts : List Addr) (ys : List (Int × Int)) (p : Addr), Paired (fun t (y : Int × Int) => H t = some (.tup [.int y.1, .int y.2])) ts ys → ys.Perm ks → ys.Pairwise (fun p q => SrtO.lexB q p = false) → H p = none → Q (.ref p) (upd H p (.lst (ts.map V.ref)))
theorem call_sortedDT (hcalm : X.calm = true) : CallR X (.builtin "sorted") rSortDT := by
  intro pins s σ H xs us Q I r q
  obtain ⟨a, kvs, ks, ex, hd, hks, q⟩ := q
  subst ex
  obtain ⟨u, eu, rx⟩ := vals1 r
  subst eu
  cases rx
  obtain ⟨z, lo, xs, rel, dd⟩ := dt_of I.hok hd
  obtain ⟨es, ep, raw, hsz, hx⟩ := dd.raw
  have hl : kvs.length = xs.length := Paired.length rel
  have h16 : es.size ≤ sizeLine := by omega
  have hkl : ks.length = kvs.length := by
    have e := congrArg List.length hks
    rw [List.length_map, List.length_map] at e
    exact e.symm
  have hpr : ∀ (i : Nat) (y : List Key × Addr × Value), xs[i]? = some y → ∃ p : Int × Int, ks[i]? = some p ∧ H y.2.1 = some (.tup [.int p.1, .int p.2]) := fun i y hy => by
    obtain ⟨e0, he0, r1, r2, r3⟩ := L2.DX.pget rel hy
    have e1 : (kvs.map (·.1))[i]? = some e0.1 := by rw [List.getElem?_map, he0]; rfl
    rw [hks, List.getElem?_map] at e1
    cases e4 : ks[i]? with
    | none => rw [e4] at e1; cases e1
    | some p =>
      rw [e4] at e1
      have e5 : [Sum.inl p.1, Sum.inl p.2] = e0.1 := Option.some.inj e1
      rw [← e5] at r2
      exact ⟨p, rfl, r2⟩
  refine Calls.call_function_entry PyProof.Rows.kind_sorted PyProof.Rows.plain_sorted PyProof.Rows.entry_sorted (PyProof.Rows.args_sorted1 _) ?_
  unfold Builtin.«sorted»
  refine wpAny_bind (m := checkCount "sorted" 1 1 _) (wpAny_pure ?_)
  refine wpAny_bind (PySem.W.kdu_collect (A := X.A.in1) (kdl_rawD (es := es) (ep := ep) lo) (I.ok.hd hcalm) raw h16 fun h' tk acc hk hacc => ?_)
  have hal : acc.toList.length = ks.length := by rw [Array.length_toList, hacc.1]; omega
  have hall : ∀ (j : Nat) (v : Value), acc.toList[j]? = some v → ∃ (t : Addr) (p : Int × Int), v = .ref t ∧ ks[j]? = some p ∧ H t = some (.tup [.int p.1, .int p.2]) := fun j v e => by
    obtain ⟨hi, e1⟩ := hacc.2 j v (by rw [← Array.getElem?_toList]; exact e)
    obtain ⟨y, hy, e2, _⟩ := hx j hi
    obtain ⟨p, hp, ht⟩ := hpr j y hy
    exact ⟨y.2.1, p, e1.trans e2, hp, ht⟩
  have hmem : ∀ v ∈ acc.toList, ∃ (t : Addr), v = .ref t ∧ H t = some (.tup [.int (pairAt H v).1, .int (pairAt H v).2]) := fun v hv => by
    obtain ⟨j, hj⟩ := List.getElem?_of_mem hv
    obtain ⟨t, p, rfl, _, ht⟩ := hall j v hj
    refine ⟨t, rfl, ?_⟩
    rw [pairAt_of ht]
    exact ht
  have hks2 : acc.toList.map (pairAt H) = ks := by
    refine List.ext_getElem? fun j => ?_
    rw [List.getElem?_map]
    cases e : acc.toList[j]? with
    | none =>
      have : ks.length ≤ j := by rw [← hal]; exact List.getElem?_eq_none_iff.mp e
      rw [List.getElem?_eq_none_iff.mpr this]
      rfl
    | some v =>
      obtain ⟨t, p, rfl, hp, ht⟩ := hall j v e
      rw [hp]
      show some (pairAt H (.ref t)) = _
      rw [pairAt_of ht]
  have I1 : Inv X pins σ H { s with heap := h', toks := tk } := I.kept hk
  have hz : acc.toList.length ≤ sizeLine := by omega
  refine wpAny_bind (wpAny_newList ?_ hz)
  have hoL : (h'.push (seqObj "list" acc.toList.toArray 0)).get? h'.objs.size = some (seqObj "list" acc.toList.toArray 0) := Heap.get?_push_size _ rfl
  show wpAny _ _ _ _ _ { s with heap := h'.push (seqObj "list" acc.toList.toArray 0), toks := tk }
  refine wpAny_bind (wpAny_holding (wpAny_call_entry PyProof.Rows.slot_list_sort ⟨_, hoL, rfl⟩ PyProof.Rows.entry_list_sort
    (SrtO.list_sort_ord (s := { s with heap := h'.push (seqObj "list" acc.toList.toArray 0), toks := tk }) (SrtO.swo_lex (pairAt H)) hoL hz (fun h2 => ?_) fun out hs hb => ⟨_, rfl, ?_⟩) (PyProof.Rows.args_list_sort _)))
  · refine SrtO.pairs_sortableO (by omega) (fun v hm => ?_) fun o e => ?_
    · obtain ⟨t, rfl, ht⟩ := hmem v hm
      obtain ⟨_, its2, r2, o, ho, hc, n, hdt⟩ := I1.hok _ _ ht
      obtain ⟨u1, u2, rfl, ri, rj⟩ := vals2 r2
      obtain ⟨t1, rfl⟩ := ri
      obtain ⟨t2, rfl⟩ := rj
      exact ⟨t, o, t1, t2, n, rfl, Heap.get?_push_of_some _ ho, hc, hdt⟩
    · have e' := e.symm.trans hoL
      cases e'
      intro c
      exact absurd (Value.type.inj c) (by decide)
  · obtain ⟨e', he'⟩ := PyProof.Rows.sortedHeap_at (vs := acc.toList) (out := out.toArray) hoL
    have hpm : out.Perm acc.toList := hb.perm
    have hrefs : ∀ u ∈ out, ∃ t, u = Value.ref t ∧ H t = some (.tup [.int (pairAt H u).1, .int (pairAt H u).2]) := fun u hu => hmem u (hpm.mem_iff.mp hu)
    have eb : out.map backV = (out.map adrOf).map V.ref := by
      rw [List.map_map]
      refine List.map_congr_left fun u hu => ?_
      obtain ⟨t, rfl, _⟩ := hrefs u hu
      rfl
    have hvals : Vals ((out.map adrOf).map V.ref) out := by
      rw [← eb]
      exact vals_back fun u hu => by
        obtain ⟨t, e, _⟩ := hrefs u hu
        exact ⟨t, e⟩
    have hlen : ((out.map adrOf).map V.ref).length ≤ sizeLine := by
      rw [List.length_map, List.length_map, hpm.length_eq]
      exact hz
    refine wpAny_pure ⟨_, rfl, .ref h'.objs.size, upd H h'.objs.size (.lst ((out.map adrOf).map V.ref)), I1.laid (t' := tk) (fun b u e => ?_) (Nat.le_refl _)
      (show ObjOk X.prog X.w _ _ _ (.lst ((out.map adrOf).map V.ref)) from ⟨hlen, out, e', hvals, he'⟩), rfl, q (out.map adrOf) (out.map (pairAt H)) _ ?_ ?_ ?_ (I1.hok.fresh (Nat.le_refl _))⟩
    · have hb : b < h'.objs.size := Heap.lt_size e
      rw [PyProof.Rows.sortedHeap_old (Nat.ne_of_lt hb) (by rw [size_push']; exact Nat.lt_succ_of_lt hb)]
      exact Heap.get?_push_of_some _ e
    · refine paired_map adrOf (pairAt H) out fun u hu => ?_
      obtain ⟨t, rfl, ht⟩ := hrefs u hu
      exact ht
    · rw [← hks2]
      exact hpm.map _
    · exact List.pairwise_map.mpr hs
end
end L2
set_option Elab.async false
set_option linter.all false
set_option maxRecDepth 100000
set_option maxHeartbeats 4000000
/-! sorted(xs, key=str), xs a list of tuples or lists that read as data. -/
namespace L2
open PySem PySem.Spec PyProof.Rows PySem.GW
section
variable {X : Cx}
def rSortKeyStr (K : PySem.W.Frag) : List V → List V → Hp → VK → Prop := fun vs zs H Q => ∃ (a : Addr) (bs : List (Addr × PyData)), vs = [.ref a] ∧ zs = [.ty "str"] ∧ SqL K H a (bs.map fun b => V.ref b.1) ∧
  (∀ b ∈ bs, Dp K H (.ref b.1) b.2 ∧ PyData.showable b.2 = true ∧ PyData.hasDict b.2 = false ∧ PyData.depth b.2 ≤ 60 ∧ (PyData.shown b.2).length ≤ sizeLine) ∧
  ∀ p, H p = none → Q (.ref p) (upd H p (.lst ((bs.mergeSort fun x y => decide ((PyData.shown x.2).cps.toList ≤ (PyData.shown y.2).cps.toList)).map fun b => V.ref b.1)))
theorem refs_are : ∀ {bs : List (Addr × PyData)} {us : List Value}, Vals (bs.map fun b => V.ref b.1) us → PySem.W.EachIs (fun (v : Value) (b : Addr × PyData) => v = .ref b.1) us bs
  | [], us, r => by
    rw [List.map_nil] at r
    cases r
    exact .nil
  | b :: bs, us, r => by
    rw [List.map_cons] at r
    cases r with
    | cons h t =>
      cases h
      exact .cons rfl (refs_are t)
theorem refs_vals : ∀ {bs : List (Addr × PyData)} {us : List Value}, PySem.W.EachIs (fun (v : Value) (b : Addr × PyData) => v = .ref b.1) us bs → Vals (bs.map fun b => V.ref b.1) us
  | _, _, .nil => .nil
  | _, _, .cons h t => by
    subst h
    exact .cons rfl (refs_vals t)
theorem cr_sortedStr (hg : X.A.guards = some []) (hu : X.A.units + 80 < cLine) : CallRK X (.builtin "sorted") [Str.ofString "key"] (rSortKeyStr X.K) := by
  intro pins s σ H vs zs us ws Q I r rz h
  obtain ⟨a, bs, rfl, rfl, hs, hb, q⟩ := h
  obtain rfl := Vals.ref1 r
  obtain ⟨w1, rfl, e1⟩ := vals1 rz
  obtain rfl : w1 = Value.type "str" := e1
  obtain ⟨its, rv, hl, hz⟩ := I.list hs
  rw [List.length_map] at hz
  refine PySem.W.sorted_key_data (β := Addr × PyData) (vs := its) (bs := bs) (R := fun v b => v = .ref b.1) (f := .type "str") (b := false) (fun b => .str (PyData.shown b.2)) hl.isList (refs_are rv) (PySem.W.AllAlike.of fun _ _ => rfl) (.inr fun d hd => ?_) hz
    (fun x hx => ?_) (PyProof.Rows.ksk_s1 _ _) (fun _ => PyProof.Rows.ksk_l1 _ _) (fun _ => rfl) (fun v x hv hx h tk hk => ?_) fun out c h' tk hk fresh hat hlen he => ?_
  · obtain ⟨b, _, rfl⟩ := List.mem_map.mp hd
    exact ⟨(fun e => nomatch e), fun xs e => nomatch e⟩
  · show X.A.units + 2 + 0 < cLine
    omega
  · subst hv
    obtain ⟨h1, h2, h3, h4, h5⟩ := hb x hx
    obtain ⟨as, rd⟩ := Dp.reads I x.2 (.ref x.1) (.ref x.1) h1 rfl
    refine str_of_reads rd h2 (fun e => by rw [h3] at e; cases e) hg (by show X.A.units + 1 + 1 + _ < cLine; omega) hk (fun h2 u tk2 hk2 => ⟨h2, tk2, rfl, hk2, .str _ _⟩) h5
  · rw [PySem.W.dataLe_str (fun b : Addr × PyData => PyData.shown b.2)] at he
    have hlen2 : ((bs.mergeSort fun x y => decide ((PyData.shown x.2).cps.toList ≤ (PyData.shown y.2).cps.toList)).map fun b => V.ref b.1).length ≤ sizeLine := by
      rw [List.length_map, List.length_mergeSort]
      exact hz
    exact ⟨.ref _, upd H (s.heap.objs.size + 1) (.lst ((bs.mergeSort fun x y => decide ((PyData.shown x.2).cps.toList ≤ (PyData.shown y.2).cps.toList)).map fun b => V.ref b.1)), I.laid (t' := tk) hk (Nat.le_succ _) ⟨hlen2, out, c, refs_vals he, hat⟩, rfl, q _ (I.hok.fresh (Nat.le_succ _))⟩
end
end L2
set_option Elab.async false
set_option linter.all false
set_option maxRecDepth 100000
set_option maxHeartbeats 4000000
/-! general: a name that holds a list or a tuple is walked -/
namespace R4
open PySem L2 PySem.GW LamX SM
theorem or_var {K : PySem.W.Frag} {n : Nat} {a : Addr} {xs : List V} {σ : L2.St} {H : Hp} {R : It → Hp → Prop} (hv : σ[n]? = some (some (.ref a))) (hS : Sq K H a xs)
    (k : ∀ J : It, (∀ i H', i ≤ xs.length → Same H H' → Gat J xs i H') → R J H) : iList K (tVar n) σ H R ∨ iTup K (tVar n) σ H R := by
  rcases hS with hS | hS
  · exact .inl ⟨_, hv, a, rfl, ⟨_, hS⟩, k _ fun i H' hi s => gat_list hi (Same.seq s hS)⟩
  · exact .inr ⟨_, hv, a, rfl, ⟨_, hS⟩, k _ fun i H' hi s => gat_tup hi (Same.seqT s hS)⟩
theorem or_var2 {K : PySem.W.Frag} {n : Nat} {a : Addr} {xs : List V} {σ : L2.St} {H0 H : Hp} {R : It → Hp → Prop} (hv : σ[n]? = some (some (.ref a))) (hS : Sq K H0 a xs) (s0 : Same H0 H)
    (k : ∀ J : It, (∀ i H', i ≤ xs.length → Same H0 H' → Gat J xs i H') → R J H) : iList K (tVar n) σ H R ∨ iTup K (tVar n) σ H R := by
  rcases hS with hS | hS
  · exact .inl ⟨_, hv, a, rfl, ⟨_, Same.seq s0 hS⟩, k _ fun i H' hi s => gat_list hi (Same.seq s hS)⟩
  · exact .inr ⟨_, hv, a, rfl, ⟨_, Same.seqT s0 hS⟩, k _ fun i H' hi s => gat_tup hi (Same.seqT s hS)⟩
end R4
set_option Elab.async false
set_option linter.all false
set_option maxRecDepth 100000
set_option maxHeartbeats 4000000
/-! general: displays of data with variables in them (new but for a given address); statements that end in a known state -/
namespace R4
open PySem L2 PySem.GW LamX SM
/-- H without what stands at W -/
def del (H : Hp) (W : Addr) : Hp := fun b => if b = W then none else H b
theorem del_at {H : Hp} {W b : Addr} (h : b ≠ W) : del H W b = H b := if_neg h
theorem del_self {H : Hp} {W : Addr} : del H W W = none := if_pos rfl
theorem del_some {H : Hp} {W b : Addr} {o : HO} (h : del H W b = some o) : b ≠ W ∧ H b = some o := by
  unfold del at h
  by_cases c : b = W
  · rw [if_pos c] at h; cases h
  · rw [if_neg c] at h; exact ⟨c, h⟩
theorem del_same {H : Hp} {W : Addr} : Same (del H W) H := fun b o h => (del_some h).2
theorem same_del {H H' : Hp} (W : Addr) (e : Same H H') : Same (del H W) (del H' W) := fun b o h => by
  obtain ⟨h1, h2⟩ := del_some h
  rw [del_at h1]
  exact e _ _ h2
theorem but_del {H H' : Hp} {p : Addr} (W : Addr) (e : SameBut p H H') : SameBut p (del H W) (del H' W) := fun b o n h => by
  obtain ⟨h1, h2⟩ := del_some h
  rw [del_at h1]
  exact e _ _ n h2
theorem del_upd {H : Hp} {W l : Addr} {o : HO} (h : l ≠ W) : del (upd H l o) W = upd (del H W) l o := by
  funext b
  unfold del upd
  by_cases c : b = W
  · rw [if_pos c, if_neg (fun e => h (e.symm.trans c))]
    exact (if_pos c).symm
  · rw [if_neg c]
    by_cases c2 : b = l
    · rw [if_pos c2, if_pos c2]
    · rw [if_neg c2, if_neg c2]
      exact (if_neg c).symm
theorem del_updW {H : Hp} {W : Addr} {o : HO} : del (upd H W o) W = del H W := by
  funext b
  unfold del upd
  by_cases c : b = W
  · rw [if_pos c]
    exact (if_pos c).symm
  · rw [if_neg c, if_neg c]
    exact (if_neg c).symm
theorem del_none {H : Hp} {W : Addr} (h : H W = none) : del H W = H := by
  funext b
  unfold del
  by_cases c : b = W
  · rw [if_pos c, c, h]
  · rw [if_neg c]
theorem ne_of_isSome {H : Hp} {W l : Addr} (h : (H W).isSome = true) (hl : H l = none) : l ≠ W := fun e => by rw [← e, hl] at h; cases h
theorem Same.isSome {H H' : Hp} {W : Addr} (e : Same H H') (h : (H W).isSome = true) : (H' W).isSome = true := by
  obtain ⟨o, ho⟩ := Option.isSome_iff_exists.mp h
  rw [e _ _ ho]
  rfl
section
variable {K : PySem.W.Frag} {H0 : Hp} {σ : L2.St}
/-- an expression that makes the data d out of new objects alone and changes nothing that stands in H0 -/
def GE (K : PySem.W.Frag) (H0 : Hp) (σ : L2.St) (te : TE) (d : PyData) : Prop := ∀ (H : Hp) (Q : VK), Same H0 H → (∀ v H', Same H H' → Dp K H' v d → (∀ W, (H W).isSome = true → Dp K (del H' W) v d) → Q v H') → te σ H Q
def GEs (K : PySem.W.Frag) (H0 : Hp) (σ : L2.St) (ta : TA) (ds : List PyData) : Prop := ∀ (H : Hp) (Q : List V → Hp → Prop), Same H0 H → (∀ vs H', Same H H' → DpAll K H' vs ds → (∀ W, (H W).isSome = true → DpAll K (del H' W) vs ds) → Q vs H') → ta σ H Q
theorem ge_int {i : Int} : GE K H0 σ (tC (.int i)) (.int i) := fun H _ _ q => q _ H (Same.refl _) (.int i) fun _ _ => .int i
theorem ge_bl {b : Bool} : GE K H0 σ (tC (.bl b)) (.bool b) := fun H _ _ q => q _ H (Same.refl _) (.bl b) fun _ _ => .bl b
theorem ge_non : GE K H0 σ (tC .non) .none := fun H _ _ q => q _ H (Same.refl _) .non fun _ _ => .non
theorem ge_str {x : Str} : GE K H0 σ (tC (.str x)) (.str x) := fun H _ _ q => q _ H (Same.refl _) (.str x) fun _ _ => .str x
theorem ge_neg {i : Int} : GE K H0 σ (tUn (rU fun i => .int (-i)) (tC (.int i))) (.int (-i)) := fun H _ _ q => ⟨i, rfl, q _ H (Same.refl _) (.int (-i)) fun _ _ => .int (-i)⟩
theorem ge_pow {i j : Int} (h : 0 ≤ j ∧ j ≤ 1000000 ∧ i.natAbs < 2 ^ 64) : GE K H0 σ (tOp (rI CPow fun i j => .int (i ^ j.toNat)) (tC (.int i)) (tC (.int j))) (.int (i ^ j.toNat)) := fun H _ _ q => ⟨i, j, rfl, rfl, h, q _ H (Same.refl _) (.int _) fun _ _ => .int _⟩
/-- a variable that is no object -/
theorem ge_var {v : V} {i : Nat} {d : PyData} (h : σ[i]? = some (some v)) (hd : ∀ H, Dp K H v d) : GE K H0 σ (tVar i) d := fun H _ s q => ⟨v, h, q v H (Same.refl _) (hd _) fun _ _ => hd _⟩
theorem ges_nil : GEs K H0 σ tNil [] := fun H _ _ q => q _ H (Same.refl _) .nil fun _ _ => .nil
theorem ges_cons {te : TE} {ta : TA} {d : PyData} {ds : List PyData} (h1 : GE K H0 σ te d) (h2 : GEs K H0 σ ta ds) : GEs K H0 σ (tCons te ta) (d :: ds) := fun H Q s q =>
  h1 H _ s fun v H1 s1 hd hw => h2 H1 _ (s.trans s1) fun vs H2 s2 hs hws => q _ _ (s1.trans s2) (.cons (Dp.same s2 hd) hs) fun W hW => .cons (Dp.same (same_del W s2) (hw W hW)) (hws W (Same.isSome s1 hW))
theorem ge_tup {ta : TA} {ds : List PyData} (h : GEs K H0 σ ta ds) (hl : ds.length ≤ 1000 := by first | decide | simp) : GE K H0 σ (tTup ta) (.tuple ds) := fun H Q s q =>
  h H _ s fun vs H1 s1 hs hw => ⟨by rw [DpAll.length hs, sizeLine_eq]; omega, fun p hp => q _ _ (s1.trans (same_upd hp)) (.tup (SqT.of upd_same) (DpAll.same (same_upd hp) hs)) fun W hW => by
    have np := ne_of_isSome (Same.isSome s1 hW) hp
    rw [del_upd np]
    exact .tup (SqT.of upd_same) (DpAll.same (same_upd (by rw [del_at np]; exact hp)) (hw W hW))⟩
theorem ge_lst {ta : TA} {ds : List PyData} (h : GEs K H0 σ ta ds) (hl : ds.length ≤ 1000 := by first | decide | simp) : GE K H0 σ (tLst ta) (.list ds) := fun H Q s q =>
  h H _ s fun vs H1 s1 hs hw => ⟨by rw [DpAll.length hs, sizeLine_eq]; omega, fun p hp => q _ _ (s1.trans (same_upd hp)) (.lst (SqL.of upd_same) (DpAll.same (same_upd hp) hs)) fun W hW => by
    have np := ne_of_isSome (Same.isSome s1 hW) hp
    rw [del_upd np]
    exact .lst (SqL.of upd_same) (DpAll.same (same_upd (by rw [del_at np]; exact hp)) (hw W hW))⟩
/-- a list display: a new list -/
theorem lst_new {ta : TA} {ds : List PyData} {H : Hp} {Q : VK} (h : GEs K H0 σ ta ds) (hl : ds.length ≤ 1000) (s : Same H0 H) (k : ∀ l vs H1, Same H H1 → H1 l = none → DpAll K H1 vs ds → (∀ W, (H W).isSome = true → DpAll K (del H1 W) vs ds) → Q (.ref l) (upd H1 l (.lst vs))) : tLst ta σ H Q :=
  h H _ s fun vs H1 s1 hs hw => ⟨by rw [DpAll.length hs, sizeLine_eq]; omega, fun p hp => k p vs H1 s1 hp hs hw⟩
theorem seq_lst {ta : TA} {tg : TG} {u : TS} {D : Ends} {ds : List PyData} {H : Hp} (h : GEs K H0 σ ta ds) (hl : ds.length ≤ 1000) (s : Same H0 H) (k : ∀ l vs H1, Same H H1 → H1 l = none → DpAll K H1 vs ds → (∀ W, (H W).isSome = true → DpAll K (del H1 W) vs ds) → tg (.ref l) σ (upd H1 l (.lst vs)) (u D)) : tSeq (tAsg (tLst ta) tg) u D σ H :=
  show tLst ta σ H fun x H1 => tg x σ H1 (u D) from lst_new h hl s k
theorem seq_ge {te : TE} {tg : TG} {u : TS} {D : Ends} {d : PyData} {H : Hp} (h : GE K H0 σ te d) (s : Same H0 H) (k : ∀ v H', Same H H' → Dp K H' v d → (∀ W, (H W).isSome = true → Dp K (del H' W) v d) → tg v σ H' (u D)) : tSeq (tAsg te tg) u D σ H := h H _ s k
/-- by what is known behind an expression -/
theorem seq_via {te : TE} {tg : TG} {u : TS} {D : Ends} {H : Hp} (P : V → Hp → Prop) (h : ∀ Q : VK, (∀ v H1, P v H1 → Q v H1) → te σ H Q) (k : ∀ v H1, P v H1 → tg v σ H1 (u D)) : tSeq (tAsg te tg) u D σ H := h _ k
theorem via {te : TE} {H : Hp} {Q : VK} (P : V → Hp → Prop) (h : ∀ Q : VK, (∀ v H1, P v H1 → Q v H1) → te σ H Q) (k : ∀ v H1, P v H1 → Q v H1) : te σ H Q := h _ k
/-- the whole of an if -/
theorem if_via {c : L2.TT} {t u : TS} {D : Ends} {H : Hp} (P : L2.St → Hp → Prop) (h : ∀ nx : L2.St → Hp → Prop, (∀ σ1 H1, P σ1 H1 → nx σ1 H1) → tIfS c t tNext { D with nx := nx } σ H) (k : ∀ σ1 H1, P σ1 H1 → u D σ1 H1) : tSeq (tIfS c t tNext) u D σ H := h _ k
theorem weq {a b : Int} (h : a = b) : decide (V.int a = V.int b) = true := decide_eq_true (by rw [h])
theorem wne {a b : Int} (h : a ≠ b) : decide (V.int a = V.int b) = false := decide_eq_false fun e => h (V.int.inj e)
end
end R4
set_option Elab.async false
set_option linter.all false
set_option maxRecDepth 100000
set_option maxHeartbeats 4000000
namespace R4
open PySem L2 PySem.GW
abbrev PW : Program := PySem.Challenge.pw_growwebs_k01_pieces_made_and_refused
def top (i : Nat) : Stmt := PW.main.body.getD i (.Pass ⟨0, 0, 0, 0⟩)
/-- the function object that stands at f -/
def fdOf (K : PySem.W.Frag) (f : Addr) : FuncData := match K.lookup f with
  | some ⟨_, _, .func fd, _⟩ => fd
  | _ => PySem.W.fnOf "" "" ⟨[], [], none, [], [], none, []⟩ [] ⟨.function, [], false, false, []⟩ .none .none .none .none none .none .none
abbrev fa (K : PySem.W.Frag) (x : Str) : Addr := He.ga K x
abbrev CL_Piece (K : PySem.W.Frag) : Addr := He.ga K "Piece"
abbrev ME_Piece (K : PySem.W.Frag) (m : Str) : Addr := He.ma K (CL_Piece K) m
abbrev s_is_integer : Stmt := top 11
abbrev s_is_whole : Stmt := top 12
abbrev s_is_list : Stmt := top 13
abbrev s_is_word : Stmt := top 14
abbrev s_place_rank : Stmt := top 17
abbrev s_are_signs : Stmt := top 19
abbrev s__law_pen : Stmt := top 21
abbrev s__law_draw : Stmt := top 22
abbrev s__law_pick : Stmt := top 23
abbrev s__law_kinds : Stmt := top 24
abbrev s__law_ties : Stmt := top 25
abbrev s__law_row : Stmt := top 26
abbrev s__law_rank : Stmt := top 27
abbrev s__law_ordered : Stmt := top 28
abbrev s__law_told : Stmt := top 29
abbrev s__law_bent : Stmt := top 30
abbrev s_law : Stmt := top 31
abbrev s_Piece___init__ : Stmt := inClass (top 18) 0
abbrev s_Piece___eq__ : Stmt := inClass (top 18) 1
abbrev s_Piece_has_place : Stmt := inClass (top 18) 2
abbrev s_Piece_checked_ties : Stmt := inClass (top 18) 4
abbrev s_Piece_is_tie : Stmt := inClass (top 18) 5
abbrev s_Piece_checked_buds : Stmt := inClass (top 18) 6
abbrev s_Piece_is_bud : Stmt := inClass (top 18) 7
theorem sc_is_integer : FnScope ["value"] ["value"] (defScope s_is_integer) := ⟨rfl, rfl, rfl, by decide +kernel, rfl, by decide +kernel, by decide +kernel⟩
theorem sc_is_whole : FnScope ["value", "least"] ["value", "least"] (defScope s_is_whole) := ⟨rfl, rfl, rfl, by decide +kernel, rfl, by decide +kernel, by decide +kernel⟩
theorem sc_is_list : FnScope ["value"] ["value"] (defScope s_is_list) := ⟨rfl, rfl, rfl, by decide +kernel, rfl, by decide +kernel, by decide +kernel⟩
theorem sc_is_word : FnScope ["value", "letter"] ["value"] (defScope s_is_word) := ⟨rfl, rfl, rfl, by decide +kernel, rfl, by decide +kernel, by decide +kernel⟩
theorem sc_place_rank : FnScope ["place"] ["place"] (defScope s_place_rank) := ⟨rfl, rfl, rfl, by decide +kernel, rfl, by decide +kernel, by decide +kernel⟩
theorem sc_are_signs : FnScope ["value", "sign"] ["value"] (defScope s_are_signs) := ⟨rfl, rfl, rfl, by decide +kernel, rfl, by decide +kernel, by decide +kernel⟩
theorem sc__law_pen : FnScope ["_law_script"] ["_law_script"] (defScope s__law_pen) := ⟨rfl, rfl, rfl, by decide +kernel, rfl, by decide +kernel, by decide +kernel⟩
theorem sc__law_draw : FnScope ["_law_pen_here", "_law_many", "_law_digit", "_law_spot", "_law_cell", "_law_mixed"] ["_law_pen_here", "_law_many"] (defScope s__law_draw) := ⟨rfl, rfl, rfl, by decide +kernel, rfl, by decide +kernel, by decide +kernel⟩
theorem sc__law_pick : FnScope ["_law_pen_here", "_law_items"] ["_law_pen_here", "_law_items"] (defScope s__law_pick) := ⟨rfl, rfl, rfl, by decide +kernel, rfl, by decide +kernel, by decide +kernel⟩
theorem sc__law_kinds : FnScope ["_law_pen_here", "_law_many", "_law_stem", "_law_front", "_law_step", "_law_k"] ["_law_pen_here", "_law_many"] (defScope s__law_kinds) := ⟨rfl, rfl, rfl, by decide +kernel, rfl, by decide +kernel, by decide +kernel⟩
theorem sc__law_ties : FnScope ["_law_pen_here", "_law_lips", "_law_fresh", "_law_far", "_law_places", "_law_found", "_law_share", "_law_i", "_law_j", "_law_length", "_law_tips"] ["_law_pen_here", "_law_lips", "_law_fresh", "_law_far"] (defScope s__law_ties) := ⟨rfl, rfl, rfl, by decide +kernel, rfl, by decide +kernel, by decide +kernel⟩
theorem sc__law_row : FnScope ["_law_pen_here", "_law_places", "_law_many", "_law_left", "_law_found", "_law_k", "_law_at"] ["_law_pen_here", "_law_places", "_law_many"] (defScope s__law_row) := ⟨rfl, rfl, rfl, by decide +kernel, rfl, by decide +kernel, by decide +kernel⟩
theorem sc__law_rank : FnScope ["_law_place"] ["_law_place"] (defScope s__law_rank) := ⟨rfl, rfl, rfl, by decide +kernel, rfl, by decide +kernel, by decide +kernel⟩
theorem sc__law_ordered : FnScope ["_law_ropes", "_law_found", "_law_one", "_law_other", "_law_length", "_law_tie", "_law_row_here"] ["_law_ropes"] (defScope s__law_ordered) := ⟨rfl, rfl, rfl, by decide +kernel, rfl, by decide +kernel, by decide +kernel⟩
theorem sc__law_told : FnScope ["_law_ask", "e"] ["_law_ask"] (defScope s__law_told) := ⟨rfl, rfl, rfl, by decide +kernel, rfl, by decide +kernel, by decide +kernel⟩
theorem sc__law_bent : FnScope ["_law_pen_here", "_law_which", "_law_parts", "_law_lips", "_law_signs", "_law_ropes", "_law_sprouts", "_law_places", "_law_odds", "_law_odd", "_law_at", "_law_whole", "_law_again", "_law_more"] ["_law_pen_here", "_law_which", "_law_parts"] (defScope s__law_bent) := ⟨rfl, rfl, rfl, by decide +kernel, rfl, by decide +kernel, by decide +kernel⟩
theorem sc_law : FnScope ["_law_script", "_law_pen_here", "_law_lap", "_law_lips", "_law_fresh", "_law_signs", "_law_ropes", "_law_places", "_law_sprouts", "_law_k", "_law_many", "_law_made", "_law_due", "_law_shown", "_law_twin", "_law_parts", "_law_wrong", "_law_first", "_law_told_here", "_law_row_here", "_law_kind", "_law_tie"] ["_law_script"] (defScope s_law) := ⟨rfl, rfl, rfl, by decide +kernel, rfl, by decide +kernel, by decide +kernel⟩
theorem sc_Piece___init__ : FnScope ["self", "mouth", "letters", "ties", "buds"] ["self", "mouth", "letters", "ties", "buds"] (defScope s_Piece___init__) := ⟨rfl, rfl, rfl, by decide +kernel, rfl, by decide +kernel, by decide +kernel⟩
theorem sc_Piece___eq__ : FnScope ["self", "other"] ["self", "other"] (defScope s_Piece___eq__) := ⟨rfl, rfl, rfl, by decide +kernel, rfl, by decide +kernel, by decide +kernel⟩
theorem sc_Piece_has_place : FnScope ["self", "value"] ["self", "value"] (defScope s_Piece_has_place) := ⟨rfl, rfl, rfl, by decide +kernel, rfl, by decide +kernel, by decide +kernel⟩
theorem sc_Piece_checked_ties : FnScope ["self", "ties", "found", "one", "other", "length", "tie", "ranks"] ["self", "ties"] (defScope s_Piece_checked_ties) := ⟨rfl, rfl, rfl, by decide +kernel, rfl, by decide +kernel, by decide +kernel⟩
theorem sc_Piece_is_tie : FnScope ["self", "value", "one", "other", "length"] ["self", "value"] (defScope s_Piece_is_tie) := ⟨rfl, rfl, rfl, by decide +kernel, rfl, by decide +kernel, by decide +kernel⟩
theorem sc_Piece_checked_buds : FnScope ["self", "buds", "bud", "kind", "row"] ["self", "buds"] (defScope s_Piece_checked_buds) := ⟨rfl, rfl, rfl, by decide +kernel, rfl, by decide +kernel, by decide +kernel⟩
theorem sc_Piece_is_bud : FnScope ["self", "value", "row", "place"] ["self", "value"] (defScope s_Piece_is_bud) := ⟨rfl, rfl, rfl, by decide +kernel, rfl, by decide +kernel, by decide +kernel⟩
def fl_BadPiece : List Fl := [⟨"field", ⟨10, 25, 10, 30⟩, ⟨11, 8, 11, 12⟩, ⟨11, 8, 11, 18⟩, ⟨11, 21, 11, 26⟩, ⟨11, 8, 11, 26⟩⟩]
theorem ini_BadPiece : IniOk (inClass (top 3) 0) fl_BadPiece := ⟨⟨⟨10, 8, 10, 13⟩, ⟨10, 8, 10, 15⟩, ⟨10, 8, 10, 24⟩, ⟨10, 8, 10, 31⟩, ⟨10, 8, 10, 31⟩, rfl, rfl⟩, by decide +kernel, by decide +kernel, by decide +kernel, ⟨_, rfl⟩, rfl, rfl, rfl, by decide +kernel, by decide +kernel, by decide +kernel, by decide +kernel, by decide +kernel⟩
theorem eb_BadPiece_1 : EBind (defArgs (inClass (top 3) 0)) (defScope (inClass (top 3) 0)) fl_BadPiece fl_BadPiece.length [] := by
  intro us ws h1 h2 s e qual body doc pm an cda ct cc
  match us, ws, h1, h2 with
  | [_], [], _, _ => exact .of_eq rfl
/-- what the top has made -/
structure Top (K : PySem.W.Frag) (mg : Str → Option Value) : Prop where
  z_isinstance : mg "isinstance" = none
  z_int : mg "int" = none
  z_bool : mg "bool" = none
  z_list : mg "list" = none
  z_tuple : mg "tuple" = none
  z_len : mg "len" = none
  z_min : mg "min" = none
  z_all : mg "all" = none
  z_range : mg "range" = none
  z_super : mg "super" = none
  z_str : mg "str" = none
  z_sorted : mg "sorted" = none
  c_MOST_LETTERS : ∃ t, mg "MOST_LETTERS" = some (.int (8) t)
  c_MOST_MOUTH : ∃ t, mg "MOST_MOUTH" = some (.int (3) t)
  c_MOST_NEW : ∃ t, mg "MOST_NEW" = some (.int (6) t)
  c_MOST_BUDS : ∃ t, mg "MOST_BUDS" = some (.int (4) t)
  c_MOST_LENGTH : ∃ t, mg "MOST_LENGTH" = some (.int (10000000000000000000000000000000000000000000000000000000000000000000000000000000000000000000000000000) t)
  c_LETTERS : ∃ t, mg "LETTERS" = some (.str "abcdefghijklmnopqrstuvwxyz" t)
  c_MOUTH : ∃ t, mg "MOUTH" = some (.str "abc" t)
  F_is_integer : Fun K "is_integer" "is_integer" s_is_integer (fa K "is_integer") (fdOf K (fa K "is_integer"))
  b_is_integer : Binds K (fdOf K (fa K "is_integer")) ["value"] []
  g_is_integer : mg "is_integer" = some (.ref (fa K "is_integer"))
  F_is_whole : Fun K "is_whole" "is_whole" s_is_whole (fa K "is_whole") (fdOf K (fa K "is_whole"))
  b_is_whole : Binds K (fdOf K (fa K "is_whole")) ["value", "least"] []
  g_is_whole : mg "is_whole" = some (.ref (fa K "is_whole"))
  F_is_list : Fun K "is_list" "is_list" s_is_list (fa K "is_list") (fdOf K (fa K "is_list"))
  b_is_list : Binds K (fdOf K (fa K "is_list")) ["value"] []
  g_is_list : mg "is_list" = some (.ref (fa K "is_list"))
  F_is_word : Fun K "is_word" "is_word" s_is_word (fa K "is_word") (fdOf K (fa K "is_word"))
  b_is_word : Binds K (fdOf K (fa K "is_word")) ["value"] []
  g_is_word : mg "is_word" = some (.ref (fa K "is_word"))
  F_place_rank : Fun K "place_rank" "place_rank" s_place_rank (fa K "place_rank") (fdOf K (fa K "place_rank"))
  b_place_rank : Binds K (fdOf K (fa K "place_rank")) ["place"] []
  g_place_rank : mg "place_rank" = some (.ref (fa K "place_rank"))
  F_are_signs : Fun K "are_signs" "are_signs" s_are_signs (fa K "are_signs") (fdOf K (fa K "are_signs"))
  b_are_signs : Binds K (fdOf K (fa K "are_signs")) ["value"] []
  g_are_signs : mg "are_signs" = some (.ref (fa K "are_signs"))
  F__law_pen : Fun K "_law_pen" "_law_pen" s__law_pen (fa K "_law_pen") (fdOf K (fa K "_law_pen"))
  b__law_pen : Binds K (fdOf K (fa K "_law_pen")) ["_law_script"] []
  g__law_pen : mg "_law_pen" = some (.ref (fa K "_law_pen"))
  F__law_draw : Fun K "_law_draw" "_law_draw" s__law_draw (fa K "_law_draw") (fdOf K (fa K "_law_draw"))
  b__law_draw : Binds K (fdOf K (fa K "_law_draw")) ["_law_pen_here", "_law_many"] []
  g__law_draw : mg "_law_draw" = some (.ref (fa K "_law_draw"))
  F__law_pick : Fun K "_law_pick" "_law_pick" s__law_pick (fa K "_law_pick") (fdOf K (fa K "_law_pick"))
  b__law_pick : Binds K (fdOf K (fa K "_law_pick")) ["_law_pen_here", "_law_items"] []
  g__law_pick : mg "_law_pick" = some (.ref (fa K "_law_pick"))
  F__law_kinds : Fun K "_law_kinds" "_law_kinds" s__law_kinds (fa K "_law_kinds") (fdOf K (fa K "_law_kinds"))
  b__law_kinds : Binds K (fdOf K (fa K "_law_kinds")) ["_law_pen_here", "_law_many"] []
  g__law_kinds : mg "_law_kinds" = some (.ref (fa K "_law_kinds"))
  F__law_ties : Fun K "_law_ties" "_law_ties" s__law_ties (fa K "_law_ties") (fdOf K (fa K "_law_ties"))
  b__law_ties : Binds K (fdOf K (fa K "_law_ties")) ["_law_pen_here", "_law_lips", "_law_fresh", "_law_far"] []
  g__law_ties : mg "_law_ties" = some (.ref (fa K "_law_ties"))
  F__law_row : Fun K "_law_row" "_law_row" s__law_row (fa K "_law_row") (fdOf K (fa K "_law_row"))
  b__law_row : Binds K (fdOf K (fa K "_law_row")) ["_law_pen_here", "_law_places", "_law_many"] []
  g__law_row : mg "_law_row" = some (.ref (fa K "_law_row"))
  F__law_rank : Fun K "_law_rank" "_law_rank" s__law_rank (fa K "_law_rank") (fdOf K (fa K "_law_rank"))
  b__law_rank : Binds K (fdOf K (fa K "_law_rank")) ["_law_place"] []
  g__law_rank : mg "_law_rank" = some (.ref (fa K "_law_rank"))
  F__law_ordered : Fun K "_law_ordered" "_law_ordered" s__law_ordered (fa K "_law_ordered") (fdOf K (fa K "_law_ordered"))
  b__law_ordered : Binds K (fdOf K (fa K "_law_ordered")) ["_law_ropes"] []
  g__law_ordered : mg "_law_ordered" = some (.ref (fa K "_law_ordered"))
  F__law_told : Fun K "_law_told" "_law_told" s__law_told (fa K "_law_told") (fdOf K (fa K "_law_told"))
  b__law_told : Binds K (fdOf K (fa K "_law_told")) ["_law_ask"] []
  g__law_told : mg "_law_told" = some (.ref (fa K "_law_told"))
  F__law_bent : Fun K "_law_bent" "_law_bent" s__law_bent (fa K "_law_bent") (fdOf K (fa K "_law_bent"))
  b__law_bent : Binds K (fdOf K (fa K "_law_bent")) ["_law_pen_here", "_law_which", "_law_parts"] []
  g__law_bent : mg "_law_bent" = some (.ref (fa K "_law_bent"))
  F_law : Fun K "law" "law" s_law (fa K "law") (fdOf K (fa K "law"))
  b_law : Binds K (fdOf K (fa K "law")) ["_law_script"] []
  g_law : mg "law" = some (.ref (fa K "law"))
  g_Piece : mg "Piece" = some (.ref (CL_Piece K))
  cl_Piece : Cls K (CL_Piece K)
  n_Piece_mouth : NoAttr K (CL_Piece K) "mouth"
  n_Piece_letters : NoAttr K (CL_Piece K) "letters"
  n_Piece_ties : NoAttr K (CL_Piece K) "ties"
  n_Piece_buds : NoAttr K (CL_Piece K) "buds"
  mk_Piece : Mk K (CL_Piece K) (ME_Piece K "__init__")
  D_Piece___init__ : FunD K "__init__" "Piece.__init__" (defArgs s_Piece___init__) (defBody s_Piece___init__) (defScope s_Piece___init__) [.ref ((He.dflAt ("Piece", some "__init__") 0) K), .ref ((He.dflAt ("Piece", some "__init__") 1) K)] [] (ME_Piece K "__init__") (fdOf K (ME_Piece K "__init__"))
  m_Piece___init__ : Meth K (CL_Piece K) "__init__" (ME_Piece K "__init__")
  F_Piece___eq__ : Fun K "__eq__" "Piece.__eq__" s_Piece___eq__ (ME_Piece K "__eq__") (fdOf K (ME_Piece K "__eq__"))
  b_Piece___eq__ : Binds K (fdOf K (ME_Piece K "__eq__")) ["self", "other"] []
  m_Piece___eq__ : Meth K (CL_Piece K) "__eq__" (ME_Piece K "__eq__")
  F_Piece_has_place : Fun K "has_place" "Piece.has_place" s_Piece_has_place (ME_Piece K "has_place") (fdOf K (ME_Piece K "has_place"))
  b_Piece_has_place : Binds K (fdOf K (ME_Piece K "has_place")) ["self", "value"] []
  m_Piece_has_place : Meth K (CL_Piece K) "has_place" (ME_Piece K "has_place")
  F_Piece_checked_ties : Fun K "checked_ties" "Piece.checked_ties" s_Piece_checked_ties (ME_Piece K "checked_ties") (fdOf K (ME_Piece K "checked_ties"))
  b_Piece_checked_ties : Binds K (fdOf K (ME_Piece K "checked_ties")) ["self", "ties"] []
  m_Piece_checked_ties : Meth K (CL_Piece K) "checked_ties" (ME_Piece K "checked_ties")
  F_Piece_is_tie : Fun K "is_tie" "Piece.is_tie" s_Piece_is_tie (ME_Piece K "is_tie") (fdOf K (ME_Piece K "is_tie"))
  b_Piece_is_tie : Binds K (fdOf K (ME_Piece K "is_tie")) ["self", "value"] []
  m_Piece_is_tie : Meth K (CL_Piece K) "is_tie" (ME_Piece K "is_tie")
  F_Piece_checked_buds : Fun K "checked_buds" "Piece.checked_buds" s_Piece_checked_buds (ME_Piece K "checked_buds") (fdOf K (ME_Piece K "checked_buds"))
  b_Piece_checked_buds : Binds K (fdOf K (ME_Piece K "checked_buds")) ["self", "buds"] []
  m_Piece_checked_buds : Meth K (CL_Piece K) "checked_buds" (ME_Piece K "checked_buds")
  F_Piece_is_bud : Fun K "is_bud" "Piece.is_bud" s_Piece_is_bud (ME_Piece K "is_bud") (fdOf K (ME_Piece K "is_bud"))
  b_Piece_is_bud : Binds K (fdOf K (ME_Piece K "is_bud")) ["self", "value"] []
  m_Piece_is_bud : Meth K (CL_Piece K) "is_bud" (ME_Piece K "is_bud")
  ic_Piece : PySem.W.findIn K (.ref (CL_Piece K)) "__class__" = some (some (.builtin "object.__class__"))
  ig_Piece : PySem.W.specialIn K (.builtin "object.__class__") "__get__" = some (some (.builtin "getset_descriptor.__get__"))
  it_Piece : PySem.W.takesIn K (.builtin "object.__class__") = some true
  im_Piece : PySem.W.mroIn K (CL_Piece K) (.type "object") = some true
  kk_Piece : PySem.W.kitOne K (.ref (CL_Piece K)) (.ref (CL_Piece K)) = some true
  k_Piece_tuple : PySem.W.kitOne K (.type "tuple") (.ref (CL_Piece K)) = some false
  k_Piece_list : PySem.W.kitOne K (.type "list") (.ref (CL_Piece K)) = some false
  k_Piece_int : PySem.W.kitOne K (.type "int") (.ref (CL_Piece K)) = some false
  k_Piece_str : PySem.W.kitOne K (.type "str") (.ref (CL_Piece K)) = some false
  k_Piece_bool : PySem.W.kitOne K (.type "bool") (.ref (CL_Piece K)) = some false
  k_Piece_NoneType : PySem.W.kitOne K (.type "NoneType") (.ref (CL_Piece K)) = some false
  k_Piece_float : PySem.W.kitOne K (.type "float") (.ref (CL_Piece K)) = some false
  k_Piece_dict : PySem.W.kitOne K (.type "dict") (.ref (CL_Piece K)) = some false
  sf_Piece : PySem.W.selfFirst K (CL_Piece K) = true
  ne_Piece : PySem.W.findIn K (.ref (CL_Piece K)) "__ne__" = some (some (.builtin "object.__ne__"))
  os_Piece : PySem.W.subIn K (.ref (CL_Piece K)) (.type "object") = some true
  t1_Piece_tuple : PySem.W.subIn K (.type "tuple") (.ref (CL_Piece K)) = some false
  t2_Piece_tuple : PySem.W.subIn K (.ref (CL_Piece K)) (.type "tuple") = some false
  t1_Piece_list : PySem.W.subIn K (.type "list") (.ref (CL_Piece K)) = some false
  t2_Piece_list : PySem.W.subIn K (.ref (CL_Piece K)) (.type "list") = some false
  t1_Piece_str : PySem.W.subIn K (.type "str") (.ref (CL_Piece K)) = some false
  t2_Piece_str : PySem.W.subIn K (.ref (CL_Piece K)) (.type "str") = some false
  t1_Piece_dict : PySem.W.subIn K (.type "dict") (.ref (CL_Piece K)) = some false
  t2_Piece_dict : PySem.W.subIn K (.ref (CL_Piece K)) (.type "dict") = some false
  t1_Piece_NoneType : PySem.W.subIn K (.type "NoneType") (.ref (CL_Piece K)) = some false
  t2_Piece_NoneType : PySem.W.subIn K (.ref (CL_Piece K)) (.type "NoneType") = some false
  x_BadPiece_BadPiece : PySem.W.exmOne K (.ref (He.ga K "BadPiece")) (.ref (He.ga K "BadPiece")) = some true
  g_WebError : mg "WebError" = some (.ref (He.ga K "WebError"))
  e_BadPiece : ErrX PW K mg (He.ga K "WebError") "BadPiece" (He.ga K "BadPiece") (He.ma K (He.ga K "BadPiece") "__init__") (defArgs (inClass (top 3) 0)) (defScope (inClass (top 3) 0)) fl_BadPiece
  nil0 : ∀ H : Hp, SqT K H ((He.dflAt ("Piece", some "__init__") 0) K) []
  nil1 : ∀ H : Hp, SqT K H ((He.dflAt ("Piece", some "__init__") 1) K) []
end R4
set_option Elab.async false
set_option linter.all false
set_option maxRecDepth 100000
set_option maxHeartbeats 4000000
set_option pp.maxSteps 700
namespace R4
open PySem L2 PySem.GW LamX SM
section
variable {w : World} {K : PySem.W.Frag} {mg : Str → Option Value} {base : Heap}
def lets : List Nat := ("abcdefghijklmnopqrstuvwxyz" : Str).cps.toList
def wordB (z : Str) : Bool := decide (1 ≤ z.length) && (decide (z.length ≤ 8) && z.cps.toList.all (fun c => decide (c ∈ lets)))
def signsB (z : Str) : Bool := decide (z.length ≤ 6) && z.cps.toList.all (fun c => decide (c ∈ lets) || decide (c = 46))
/-- the values that are no texts -/
def NoStr (K : PySem.W.Frag) (H : Hp) (v : V) : Prop := ∃ n, TyX K H v (.type n) ∧ kitB n "str" = some false
/-- the values that are no whole numbers: bools are none -/
def NoInt (K : PySem.W.Frag) (H : Hp) (v : V) : Prop := ∃ n b1 b2, TyX K H v (.type n) ∧ kitB n "int" = some b1 ∧ kitB n "bool" = some b2 ∧ (b1 && !b2) = false
def NoSeq (K : PySem.W.Frag) (H : Hp) (v : V) : Prop := ∃ n, TyX K H v (.type n) ∧ PySem.W.kitAny K (.type n) [.type "list", .type "tuple"] = some false
theorem NoStr.same {H H' : Hp} {v : V} (e : Same H H') (h : NoStr K H v) : NoStr K H' v := by
  obtain ⟨n, h1, h2⟩ := h
  exact ⟨n, TyX.same e h1, h2⟩
theorem NoInt.same {H H' : Hp} {v : V} (e : Same H H') (h : NoInt K H v) : NoInt K H' v := by
  obtain ⟨n, b1, b2, h1, h2⟩ := h
  exact ⟨n, b1, b2, TyX.same e h1, h2⟩
theorem NoSeq.same {H H' : Hp} {v : V} (e : Same H H') (h : NoSeq K H v) : NoSeq K H' v := by
  obtain ⟨n, h1, h2⟩ := h
  exact ⟨n, TyX.same e h1, h2⟩
def spInt (K : PySem.W.Frag) : Sp := fun vs H Q _ => ∃ v, vs = [v] ∧ ((∃ i, v = .int i ∧ Q (.bl true) H) ∨ (NoInt K H v ∧ Q (.bl false) H))
def spWhole (K : PySem.W.Frag) : Sp := fun vs H Q _ => ∃ v l, vs = [v, .int l] ∧ ((∃ i, v = .int i ∧ Q (.bl (decide (l ≤ i))) H) ∨ (NoInt K H v ∧ Q (.bl false) H))
def spIsList (K : PySem.W.Frag) : Sp := fun vs H Q _ => ∃ (v : V) (n : String) (b : Bool), vs = [v] ∧ TyX K H v (.type n) ∧ PySem.W.kitAny K (.type n) [.type "list", .type "tuple"] = some b ∧ ∀ H', Same H H' → Q (.bl b) H'
def spWord (K : PySem.W.Frag) : Sp := fun vs H Q _ => ∃ v, vs = [v] ∧ ((NoStr K H v ∧ Q (.bl false) H) ∨ (∃ z : Str, v = .str z ∧ z.length ≤ 1000 ∧ ∀ H', Same H H' → Q (.bl (wordB z)) H'))
def spSigns (K : PySem.W.Frag) : Sp := fun vs H Q _ => ∃ v, vs = [v] ∧ ((NoStr K H v ∧ Q (.bl false) H) ∨ (∃ z : Str, v = .str z ∧ z.length ≤ 1000 ∧ ∀ H', Same H H' → Q (.bl (signsB z)) H'))
/-- the places: whole numbers and the letters of the mouth -/
def lipN : Str → Nat := fun z => if z = "a" then 0 else if z = "b" then 1 else 2
def isLip (z : Str) : Prop := z = "a" ∨ z = "b" ∨ z = "c"
inductive Plc : V → Int → Prop
  | num (i : Int) : Plc (.int i) i
  | lip {z : Str} (h : isLip z) : Plc (.str z) (6 + (lipN z : Int))
def spRank : Sp := fun vs H Q _ => ∃ v r, vs = [v] ∧ Plc v r ∧ Q (.int r) H
theorem szS {z : Str} (h : z.length ≤ 1000) : z.length ≤ sizeLine := by rw [sizeLine_eq]; omega
theorem map_signs {f : Nat → V} {g : V → V} (z : Str) (h : ∀ c, g (.str ⟨#[c]⟩) = f c) : ((SM.signs z).map V.str).map g = z.cps.toList.map f := by
  unfold SM.signs
  rw [List.map_map, List.map_map]
  exact List.map_congr_left fun c _ => h c
def sgn : V → Nat
  | .str z => UM.unsing z
  | _ => 0
theorem signs_at {z : Str} {i : Nat} {x : V} (h : ((SM.signs z).map V.str)[i]? = some x) : ∃ c, z.cps[i]? = some c ∧ x = .str ⟨#[c]⟩ := by
  unfold SM.signs at h
  rw [List.map_map, List.getElem?_map, Array.getElem?_toList] at h
  obtain ⟨c, hc, e⟩ := Option.map_eq_some_iff.mp h
  exact ⟨c, hc, e.symm⟩
theorem signs_le {z : Str} (h : z.length ≤ 1000) : ((SM.signs z).map V.str).length ≤ 100000 := by rw [List.length_map, signs_len]; omega
theorem all_bl {α : Type} (l : List α) (p : α → Bool) : l.map (fun c => V.bl (p c)) = (l.map p).map V.bl := by rw [List.map_map]; rfl
theorem all_id {α : Type} (l : List α) (p : α → Bool) : (l.map p).all id = l.all p := by rw [List.all_map]; rfl
theorem dec_int (a b : Nat) : decide (V.int (a : Int) = V.int (b : Int)) = decide (a = b) := by
  by_cases h : a = b
  · rw [decide_eq_true h, decide_eq_true (by rw [h])]
  · rw [decide_eq_false h, decide_eq_false]
    intro e
    have := V.int.inj e
    exact h (by omega)
theorem dec_intI (a b : Int) : decide (V.int a = V.int b) = decide (a = b) := by
  by_cases h : a = b
  · rw [decide_eq_true h, decide_eq_true (by rw [h])]
  · rw [decide_eq_false h, decide_eq_false]
    intro e
    exact h (V.int.inj e)
theorem dec_str (a b : Str) : decide (V.str a = V.str b) = decide (a = b) := by
  by_cases h : a = b
  · rw [decide_eq_true h, decide_eq_true (by rw [h])]
  · rw [decide_eq_false h, decide_eq_false]
    intro e
    exact h (V.str.inj e)
theorem one_sign {z : Str} (h : z.length = 1) : ∃ c, z = ⟨#[c]⟩ := by
  obtain ⟨a⟩ := z
  have h2 : a.size = 1 := h
  obtain ⟨c, rfl⟩ := Array.size_eq_one_iff.mp h2
  exact ⟨c, rfl⟩
theorem sing46 (c : Nat) : decide ((⟨#[c]⟩ : Str) = ".") = decide (c = 46) := by
  by_cases h : c = 46
  · subst h
    decide +kernel
  · rw [decide_eq_false h, decide_eq_false]
    intro e
    have e2 : (⟨#[c]⟩ : Str).cps.toList = ("." : Str).cps.toList := by rw [e]
    have e3 : ("." : Str).cps.toList = [46] := by decide +kernel
    rw [e3] at e2
    exact h (List.cons.inj e2).1
theorem ok_is_integer (T : Top K mg) : FnOk PW w K mg base CX0 1 (fa K "is_integer") (fdOf K (fa K "is_integer")) ["value"] (spInt K) := by
  refine T.F_is_integer.ok sc_is_integer (fun vs H Q E h => ?_) (fun cdv A outer s H vs Q E hr h => ?_)
  · obtain ⟨v, rfl, _h⟩ := h
    rfl
  · obtain ⟨v, rfl, h⟩ := h
    have hu := hu_of hr
    refine ⟨_, (pss_one (ps_ret (pe_and (pe_callB call_isi (by rfl) T.z_isinstance (by decide +kernel) (pa_cons (pv 0) (pa_cons (pe_bltn (v := .ty "int") (by rfl) T.z_int (by decide +kernel) rfl) pa_nil))) (pe_one (pe_not (pe_callB call_isi (by rfl) T.z_isinstance (by decide +kernel) (pa_cons (pv 0) (pa_cons (pe_bltn (v := .ty "bool") (by rfl) T.z_bool (by decide +kernel) rfl) pa_nil)))))))), ?_⟩
    rcases h with ⟨i, rfl, k⟩ | ⟨⟨n, b1, b2, ty, h1, h2, h3⟩, k⟩
    · refine ⟨_, rfl, _, _, _, _, true, rfl, .ty _, .base (.int i), kit_ty (by decide +kernel), true, rfl, ?_⟩
      exact ⟨_, rfl, _, _, _, _, false, rfl, .ty _, .base (.int i), kit_ty (by decide +kernel), false, rfl, k⟩
    · refine ⟨_, rfl, _, _, _, _, b1, rfl, .ty _, ty, kit_ty h1, b1, rfl, ?_⟩
      cases b1 with
      | false => exact k
      | true =>
        cases b2 with
        | true => exact ⟨_, rfl, _, _, _, _, true, rfl, .ty _, ty, kit_ty h2, true, rfl, k⟩
        | false => cases h3
theorem ok_is_whole (T : Top K mg) : FnOk PW w K mg base CX0 2 (fa K "is_whole") (fdOf K (fa K "is_whole")) ["value", "least"] (spWhole K) := by
  refine T.F_is_whole.ok sc_is_whole (fun vs H Q E h => ?_) (fun cdv A outer s H vs Q E hr h => ?_)
  · obtain ⟨v, l, rfl, _h⟩ := h
    rfl
  · obtain ⟨v, l, rfl, h⟩ := h
    have hu := hu_of hr
    refine ⟨_, (pss_one (ps_ret (pe_and (pe_call (ok_is_integer T) (hr.mono (by decide)) rfl T.g_is_integer T.F_is_integer.kp T.b_is_integer .nil pass0 (pa_cons (pv 0) pa_nil)) (pe_one (pe_cmpR op_ge (pv 0) (pv 1) (nomark _)))))), ?_⟩
    rcases h with ⟨i, rfl, k⟩ | ⟨h, k⟩
    · refine ⟨_, rfl, .int i, rfl, .inl ⟨i, rfl, _, rfl, ?_⟩⟩
      exact iteT ⟨_, rfl, _, rfl, _, _, rfl, rfl, k⟩
    · exact ⟨_, rfl, v, rfl, .inr ⟨h, _, rfl, iteF k⟩⟩
theorem ok_is_list (T : Top K mg) : FnOk PW w K mg base CX0 1 (fa K "is_list") (fdOf K (fa K "is_list")) ["value"] (spIsList K) := by
  refine T.F_is_list.ok sc_is_list (fun vs H Q E h => ?_) (fun cdv A outer s H vs Q E hr h => ?_)
  · obtain ⟨v, n, b, rfl, _ty, _h1, _k⟩ := h
    rfl
  · obtain ⟨v, n, b, rfl, ty, h1, k⟩ := h
    have hu := hu_of hr
    refine ⟨_, (pss_one (ps_ret (pe_callB call_isiT (by rfl) T.z_isinstance (by decide +kernel) (pa_cons (pv 0) (pa_cons (pe_tup (pa_cons (pe_bltn (v := .ty "list") (by rfl) T.z_list (by decide +kernel) rfl) (pa_cons (pe_bltn (v := .ty "tuple") (by rfl) T.z_tuple (by decide +kernel) rfl) pa_nil))) pa_nil))))), ?_⟩
    refine ⟨_, rfl, (by show 2 ≤ sizeLine; decide), fun tp htp => ?_⟩
    have ty' := TyX.same (same_upd (o := .tup [.ty "list", .ty "tuple"]) htp) ty
    exact ⟨v, tp, _, _, _, b, rfl, upd_same, .cons (.ty _) (.cons (.ty _) .nil), ty', h1, k _ (same_upd htp)⟩
theorem ok_is_word (T : Top K mg) : FnOk PW w K mg base CX0 2 (fa K "is_word") (fdOf K (fa K "is_word")) ["value"] (spWord K) := by
  refine T.F_is_word.ok sc_is_word (fun vs H Q E h => ?_) (fun cdv A outer s H vs Q E hr h => ?_)
  · obtain ⟨v, rfl, _h⟩ := h
    rfl
  · obtain ⟨v, rfl, h⟩ := h
    have hu := hu_of hr
    obtain ⟨t_LETTERS, c_LETTERS⟩ := T.c_LETTERS
    obtain ⟨t_MOST_LETTERS, c_MOST_LETTERS⟩ := T.c_MOST_LETTERS
    refine ⟨_, (pss_cons (ps_if (PW.pt (pw_or (pt_not (pt_val (pe_callB call_isi (by rfl) T.z_isinstance (by decide +kernel) (pa_cons (pv 0) (pa_cons (pe_bltn (v := .ty "str") (by rfl) T.z_str (by decide +kernel) rfl) pa_nil))))) (pw_or1 (pt_not (pt_chain op_le op_le pe_int (pe_callB call_len_str (by rfl) T.z_len (by decide +kernel) (pa_cons (pv 0) pa_nil)) (pe_glob (v := .int 8) rfl c_MOST_LETTERS ⟨_, rfl⟩)))))) (pss_one (ps_ret pe_bl)) pss_nil)
      (pss_one (ps_ret (pe_callB (cr_all rfl) (by rfl) T.z_all (by decide +kernel) (pa_cons (pe_lc (own := [("letter", 1)]) (g := gName 1) (by rfl) sc_is_word.nd (pi_str (pv 0)) (blkOk_by (own := [("letter", 1)]) (N := ["value", "letter"]) (sc := (defScope s_is_word)) (by decide +kernel)) (fun _ _ _ _ _ => (pg_name (i := 1) sc_is_word.nd rfl (Or.inl rfl))) (fun _ _ _ _ _ => pts_nil) (fun _ _ _ _ _ => (pe_cmpR op_in_sign (pv 1) (pe_glob (v := .str "abcdefghijklmnopqrstuvwxyz") rfl c_LETTERS ⟨_, rfl⟩) rfl))) pa_nil))))), ?_⟩
    rcases h with ⟨⟨n, ty, h1⟩, k⟩ | ⟨z, rfl, hz, k⟩
    · exact ⟨_, rfl, _, _, _, _, false, rfl, .ty _, ty, kit_ty h1, _, rfl, ifT rfl (ifT rfl (tcI k))⟩
    · refine ⟨_, rfl, _, _, _, _, true, rfl, .ty _, .base (.str z), kit_ty (by decide +kernel), _, rfl, ifF rfl ?_⟩
      refine ⟨_, rfl, z, rfl, szS hz, _, _, rfl, rfl, _, rfl, ?_⟩
      unfold wordB at k
      by_cases c1 : 1 ≤ z.length
      · refine ifT (decide_eq_true (by omega)) (tcI ⟨_, _, rfl, rfl, _, rfl, ?_⟩)
        by_cases c2 : z.length ≤ 8
        · rw [decide_eq_true c1, decide_eq_true c2, Bool.true_and, Bool.true_and] at k
          refine ifF (nd (show (z.length : Int) ≤ 8 by omega)) ?_
          refine ⟨_, rfl, z, rfl, fun D hD => ?_⟩
          refine lc_map (fun v => .bl (decide (sgn v ∈ lets))) hD (signs_le hz) gvs_str (fun v => rfl) (fun i x H2 R hx s2 r => ?_) fun H2 s2 hD2 => ?_
          · obtain ⟨c0, hc0, rfl⟩ := signs_at hx
            exact ⟨_, rfl, tcI ⟨c0, _, rfl, rfl, r H2 (Same.refl _)⟩⟩
          · rw [map_signs (f := fun c => .bl (decide (c ∈ lets))) z (fun c => rfl), all_bl] at hD2
            refine ⟨D, _, rfl, SqL.of hD2, ?_⟩
            rw [all_id]
            exact k _ s2
        · rw [decide_eq_false c2, Bool.false_and, Bool.and_false] at k
          exact ifT (nn (show ¬ (z.length : Int) ≤ 8 by omega)) (tcI (k H (Same.refl _)))
      · rw [decide_eq_false c1, Bool.false_and] at k
        exact ifF (decide_eq_false (by omega)) ⟨false, rfl, ifT rfl (tcI (k H (Same.refl _)))⟩
theorem ok_are_signs (T : Top K mg) : FnOk PW w K mg base CX0 2 (fa K "are_signs") (fdOf K (fa K "are_signs")) ["value"] (spSigns K) := by
  refine T.F_are_signs.ok sc_are_signs (fun vs H Q E h => ?_) (fun cdv A outer s H vs Q E hr h => ?_)
  · obtain ⟨v, rfl, _h⟩ := h
    rfl
  · obtain ⟨v, rfl, h⟩ := h
    have hu := hu_of hr
    obtain ⟨t_LETTERS, c_LETTERS⟩ := T.c_LETTERS
    obtain ⟨t_MOST_NEW, c_MOST_NEW⟩ := T.c_MOST_NEW
    refine ⟨_, (pss_cons (ps_if (PW.pt (pw_or (pt_not (pt_val (pe_callB call_isi (by rfl) T.z_isinstance (by decide +kernel) (pa_cons (pv 0) (pa_cons (pe_bltn (v := .ty "str") (by rfl) T.z_str (by decide +kernel) rfl) pa_nil))))) (pw_or1 (pt_cmpR op_gt (pe_callB call_len_str (by rfl) T.z_len (by decide +kernel) (pa_cons (pv 0) pa_nil)) (pe_glob (v := .int 6) rfl c_MOST_NEW ⟨_, rfl⟩) (nomark _))))) (pss_one (ps_ret pe_bl)) pss_nil)
      (pss_one (ps_ret (pe_callB (cr_all rfl) (by rfl) T.z_all (by decide +kernel) (pa_cons (pe_lc (own := [("sign", 1)]) (g := gName 1) (by rfl) sc_are_signs.nd (pi_str (pv 0)) (blkOk_by (own := [("sign", 1)]) (N := ["value", "sign"]) (sc := (defScope s_are_signs)) (by decide +kernel)) (fun _ _ _ _ _ => (pg_name (i := 1) sc_are_signs.nd rfl (Or.inl rfl))) (fun _ _ _ _ _ => pts_nil) (fun _ _ _ _ _ => (pe_or (pe_cmpR op_in_sign (pv 1) (pe_glob (v := .str "abcdefghijklmnopqrstuvwxyz") rfl c_LETTERS ⟨_, rfl⟩) rfl) (pe_one (pe_cmpR op_eq (pv 1) pe_str (nomark _)))))) pa_nil))))), ?_⟩
    rcases h with ⟨⟨n, ty, h1⟩, k⟩ | ⟨z, rfl, hz, k⟩
    · exact ⟨_, rfl, _, _, _, _, false, rfl, .ty _, ty, kit_ty h1, _, rfl, ifT rfl (ifT rfl (tcI k))⟩
    · refine ⟨_, rfl, _, _, _, _, true, rfl, .ty _, .base (.str z), kit_ty (by decide +kernel), _, rfl, ifF rfl ?_⟩
      refine ⟨_, rfl, z, rfl, szS hz, tcI ⟨_, _, rfl, rfl, _, rfl, ?_⟩⟩
      unfold signsB at k
      by_cases c1 : z.length ≤ 6
      · rw [decide_eq_true c1, Bool.true_and] at k
        refine ifF (decide_eq_false (by omega)) ?_
        refine ⟨_, rfl, z, rfl, fun D hD => ?_⟩
        refine lc_map (fun v => .bl (decide (sgn v ∈ lets) || decide (sgn v = 46))) hD (signs_le hz) gvs_str (fun v => rfl) (fun i x H2 R hx s2 r => ?_) fun H2 s2 hD2 => ?_
        · obtain ⟨c0, hc0, rfl⟩ := signs_at hx
          refine ⟨_, rfl, tcI ⟨c0, _, rfl, rfl, _, rfl, ?_⟩⟩
          have r' : ∀ H', Same H2 H' → R (.bl (decide (c0 ∈ lets) || decide (c0 = 46))) H' := r
          by_cases c2 : c0 ∈ lets
          · rw [decide_eq_true c2, Bool.true_or] at r'
            exact ifT (decide_eq_true c2) (r' _ (Same.refl _))
          · rw [decide_eq_false c2, Bool.false_or] at r'
            refine ifF (decide_eq_false c2) ⟨_, rfl, tcI ⟨rfl, ?_⟩⟩
            rw [dec_str, sing46]
            exact r' _ (Same.refl _)
        · rw [map_signs (f := fun c => .bl (decide (c ∈ lets) || decide (c = 46))) z (fun c => rfl), all_bl] at hD2
          refine ⟨D, _, rfl, SqL.of hD2, ?_⟩
          rw [all_id]
          exact k _ s2
      · rw [decide_eq_false c1, Bool.false_and] at k
        exact ifT (decide_eq_true (by omega)) (tcI (k H (Same.refl _)))
theorem ok_place_rank (T : Top K mg) : FnOk PW w K mg base CX0 1 (fa K "place_rank") (fdOf K (fa K "place_rank")) ["place"] spRank := by
  refine T.F_place_rank.ok sc_place_rank (fun vs H Q E h => ?_) (fun cdv A outer s H vs Q E hr h => ?_)
  · obtain ⟨v, r, rfl, _hp, _k⟩ := h
    rfl
  · obtain ⟨v, r, rfl, hp, k⟩ := h
    have hu := hu_of hr
    obtain ⟨t_MOUTH, c_MOUTH⟩ := T.c_MOUTH
    obtain ⟨t_MOST_NEW, c_MOST_NEW⟩ := T.c_MOST_NEW
    refine ⟨_, (pss_one (ps_ret (pe_ifExp (pt_val (pe_callB call_isi (by rfl) T.z_isinstance (by decide +kernel) (pa_cons (pv 0) (pa_cons (pe_bltn (v := .ty "str") (by rfl) T.z_str (by decide +kernel) rfl) pa_nil)))) (pe_op op_add (pe_glob (v := .int 6) rfl c_MOST_NEW ⟨_, rfl⟩) (pe_m1 PySem.F.slot_str_index PySem.F.type_str_index mt_sindex (pe_glob (v := .str "abc") rfl c_MOUTH ⟨_, rfl⟩) (pv 0))) (pv 0)))), ?_⟩
    cases hp with
    | num => exact ⟨_, rfl, _, _, _, _, false, rfl, .ty _, .base (.int r), kit_ty (by decide +kernel), _, rfl, iteF ⟨_, rfl, k⟩⟩
    | @lip z h =>
      refine ⟨_, rfl, _, _, _, _, true, rfl, .ty _, .base (.str z), kit_ty (by decide +kernel), _, rfl, iteT ?_⟩
      refine ⟨⟨_, rfl⟩, _, rfl, "abc", z, lipN z, [], rfl, rfl, ?_, 6, _, rfl, rfl, k⟩
      rcases h with rfl | rfl | rfl <;> decide +kernel
end
end R4
set_option Elab.async false
set_option linter.all false
set_option maxRecDepth 100000
set_option maxHeartbeats 4000000
set_option pp.maxSteps 700
namespace R4
open PySem L2 PySem.GW LamX SM
section
variable {w : World} {K : PySem.W.Frag} {mg : Str → Option Value} {base : Heap}
def methsP : List Str := ["has_place", "is_tie", "is_bud", "checked_ties", "checked_buds"]
/-- a piece, its mouth and its letters set -/
def PcB (K : PySem.W.Frag) (H : Hp) (p : Addr) (m : Nat) (z : Str) : Prop := ∃ dx fs, H p = some (.ins (CL_Piece K) dx fs) ∧ fs.lookup ("mouth" : Str) = some (.int (m : Int)) ∧ fs.lookup ("letters" : Str) = some (.str z) ∧ m ≤ 3 ∧ z.length ≤ 6 ∧ ∀ f ∈ methsP, fs.lookup f = none
theorem PcB.same {H H' : Hp} {p : Addr} {m : Nat} {z : Str} (e : Same H H') (h : PcB K H p m z) : PcB K H' p m z := by
  obtain ⟨dx, fs, h1, h2⟩ := h
  exact ⟨dx, fs, e _ _ h1, h2⟩
def lipsOf (m : Nat) : List Nat := [97, 98, 99].take m
/-- is there such a place -/
def hasP (m n : Nat) : V → Bool
  | .int i => decide (0 ≤ i) && decide (i < (n : Int))
  | .str z => decide (z.length = 1) && z.cps.toList.all fun c => decide (c ∈ lipsOf m)
  | _ => false
/-- the values that are asked of -/
inductive PV (K : PySem.W.Frag) (H : Hp) : V → Prop
  | int (i : Int) : PV K H (.int i)
  | str (z : Str) (h : z.length ≤ 1000) : PV K H (.str z)
  | odd {v : V} (h1 : NoStr K H v) (h2 : NoInt K H v) (h3 : ∀ m n, hasP m n v = false) : PV K H v
theorem PV.same {H H' : Hp} {v : V} (e : Same H H') (h : PV K H v) : PV K H' v := by
  cases h with
  | int i => exact .int i
  | str z h => exact .str z h
  | odd h1 h2 h3 => exact .odd (h1.same e) (h2.same e) h3
theorem cut_lips {m : Nat} (h : m ≤ 3) : (cutS "abc" none (some (m : Int))).cps.toList = lipsOf m := by
  rcases m with _ | _ | _ | _ | m
  · decide +kernel
  · decide +kernel
  · decide +kernel
  · decide +kernel
  · omega
def spHas (K : PySem.W.Frag) : Sp := fun vs H Q _ => ∃ (p : Addr) (v : V) (m : Nat) (z : Str), vs = [.ref p, v] ∧ PcB K H p m z ∧ PV K H v ∧ Q (.bl (hasP m z.length v)) H
theorem ok_Piece_has_place (T : Top K mg) : FnOk PW w K mg base CX0 2 (ME_Piece K "has_place") (fdOf K (ME_Piece K "has_place")) ["self", "value"] (spHas K) := by
  refine T.F_Piece_has_place.ok sc_Piece_has_place (fun vs H Q E h => ?_) (fun cdv A outer s H vs Q E hr h => ?_)
  · obtain ⟨p, v, m, z, rfl, _hp, _hv, _k⟩ := h
    rfl
  · obtain ⟨p, v, m, z, rfl, hp, hv, k⟩ := h
    have hu := hu_of hr
    obtain ⟨t_MOUTH, c_MOUTH⟩ := T.c_MOUTH
    refine ⟨_, (pss_cons (ps_if (pt_val (pe_callB call_isi (by rfl) T.z_isinstance (by decide +kernel) (pa_cons (pv 1) (pa_cons (pe_bltn (v := .ty "str") (by rfl) T.z_str (by decide +kernel) rfl) pa_nil)))) (pss_one (ps_ret (pe_and (pe_cmpR op_eq (pe_callB call_len_str (by rfl) T.z_len (by decide +kernel) (pa_cons (pv 1) pa_nil)) pe_int (nomark _)) (pe_one (pe_cmpR op_in_sign (pv 1) (pe_slice sl_str (pe_glob (v := .str "abc") rfl c_MOUTH ⟨_, rfl⟩) po_none (po_some (pe_fld (pv 0) rfl))) rfl))))) pss_nil)
      (pss_one (ps_ret (pe_and (pe_call (ok_is_integer T) (hr.mono (by decide)) rfl T.g_is_integer T.F_is_integer.kp T.b_is_integer .nil pass0 (pa_cons (pv 1) pa_nil)) (pe_one (pe_chain op_le op_lt pe_int (pv 1) (pe_callB call_len_str (by rfl) T.z_len (by decide +kernel) (pa_cons (pe_fld (pv 0) rfl) pa_nil)))))))), ?_⟩
    obtain ⟨dx, fs, h1, h2, h3, h4, h5, h6⟩ := hp
    cases hv with
    | odd n1 n2 n3 =>
      obtain ⟨n, ty, hn⟩ := n1
      rw [n3] at k
      exact ⟨_, rfl, _, _, _, _, false, rfl, .ty _, ty, kit_ty hn, _, rfl, iteF ⟨_, rfl, v, rfl, .inr ⟨n2, _, rfl, iteF k⟩⟩⟩
    | int i =>
      refine ⟨_, rfl, _, _, _, _, false, rfl, .ty _, .base (.int i), kit_ty (by decide +kernel), _, rfl, iteF ⟨_, rfl, .int i, rfl, .inl ⟨i, rfl, _, rfl, iteT ?_⟩⟩⟩
      have k' : Q (.bl (decide (0 ≤ i) && decide (i < (z.length : Int)))) H := k
      refine tcI ⟨_, rfl, _, _, rfl, rfl, _, rfl, ?_⟩
      by_cases c1 : 0 ≤ i
      · rw [decide_eq_true c1, Bool.true_and] at k'
        exact ifT (decide_eq_true c1) ⟨_, rfl, p, _, dx, fs, _, rfl, h1, T.cl_Piece, T.n_Piece_letters, h3, z, rfl, szS (by omega), _, _, rfl, rfl, k'⟩
      · rw [decide_eq_false c1, Bool.false_and] at k'
        exact ifF (decide_eq_false c1) k'
    | str y hy =>
      refine ⟨_, rfl, _, _, _, _, true, rfl, .ty _, .base (.str y), kit_ty (by decide +kernel), _, rfl, iteT ?_⟩
      have k' : Q (.bl (decide (y.length = 1) && y.cps.toList.all fun c => decide (c ∈ lipsOf m))) H := k
      refine ⟨_, rfl, y, rfl, szS hy, tcI ⟨rfl, _, rfl, ?_⟩⟩
      have e1 : decide (V.int (y.length : Int) = V.int 1) = decide (y.length = 1) := dec_int y.length 1
      rw [e1]
      by_cases c1 : y.length = 1
      · rw [decide_eq_true c1, Bool.true_and] at k'
        obtain ⟨c0, rfl⟩ := one_sign c1
        refine ifT (decide_eq_true c1) ⟨_, rfl, tcI (noPart ⟨_, rfl, p, _, dx, fs, _, rfl, h1, T.cl_Piece, T.n_Piece_mouth, h2, m, rfl, "abc", rfl, by decide, c0, _, rfl, rfl, ?_⟩)⟩
        rw [cut_lips h4]
        have e2 : ((⟨#[c0]⟩ : Str).cps.toList.all fun c => decide (c ∈ lipsOf m)) = decide (c0 ∈ lipsOf m) := by simp
        rw [e2] at k'
        exact k'
      · rw [decide_eq_false c1, Bool.false_and] at k'
        exact ifF (decide_eq_false c1) (k')
end
end R4
set_option Elab.async false
set_option linter.all false
set_option maxRecDepth 100000
set_option maxHeartbeats 4000000
/-! (a, b, ..) = a list or a tuple of that length. -/
namespace L2
open PySem PySem.Spec PyProof.Rows
section
variable {prog : Program} {w : World} {A : Around} {E : Value → Shared → Prop} {s : Shared}
theorem draw_list {it t : Addr} {items : Array Value} (hne : t ≠ it) : ∀ (n i : Nat) (s : Shared) (Q : List Value → Shared → Prop), s.heap.IsListIter it t i → s.heap.IsList t items → i + n ≤ items.size →
    (∀ h', Heap.IsListIter h' it t (i + n) → Heap.SameBut it s.heap h' → Q ((items.toList.drop i).take n) { s with heap := h' }) → wpAny (model prog w) A (draw (.ref it) n) Q E s
  | 0, i, s, Q, hit, _, _, hQ => by
    show wpAny _ _ (pure []) Q E s
    exact wpAny_pure (by simpa using hQ s.heap hit (Heap.SameBut.refl ..))
  | n + 1, i, s, Q, hit, ht, hle, hQ => by
    have hlt : i < items.size := by omega
    show wpAny _ _ (pyNext (.ref it) >>= _) Q E s
    refine wpAny_bind (wpAny_pyNext_list_item hit ht (x := items[i]) (by simp [hlt]) fun h₁ hit₁ hs₁ => ?_)
    refine wpAny_bind (wpAny_holding (draw_list hne n (i + 1) _ _ hit₁ (ht.extBut hs₁.extBut hne) (by omega) fun h₂ hit₂ hs₂ => wpAny_pure ?_))
    have hd : items.toList.drop i = items[i] :: items.toList.drop (i + 1) := by simp [List.drop_eq_getElem_cons, hlt]
    have := hQ h₂ (by rw [show i + (n + 1) = i + 1 + n by omega]; exact hit₂) (hs₁.trans hs₂)
    rw [hd, List.take_succ_cons] at this
    exact this
theorem unpackItems_list {t : Addr} {items : Array Value} {Q : List Value → Shared → Prop} (hh : A.handled = none) (ht : s.heap.IsList t items)
    (hQ : ∀ h', Heap.ExtBut s.heap.objs.size s.heap h' → Q items.toList { s with heap := h' }) : wpAny (model prog w) A (unpackItems (.ref t) items.size none) Q E s := by
  have hlt : t ≠ s.heap.objs.size := by obtain ⟨o, ho, _⟩ := ht; exact Nat.ne_of_lt (Heap.lt_size ho)
  unfold unpackItems
  refine wpAny_bind ?_
  · unfold notIterableAtAll
    refine wpAny_bind (wpAny_specialOf ht.typeIs F.slot_list_iter.lookup ?_)
    refine wpAny_pure ?_
    simp only [Bool.false_eq_true, if_false]
    refine wpAny_bind (wpAny_holding (wpAny_pyIter_list ht ?_))
    refine wpAny_bind (wpAny_holding (draw_list hlt items.size 0 _ _ ⟨_, Heap.get?_push_size _ rfl, rfl, rfl⟩ (ht.push _) (by omega) fun h₁ hit₁ hs₁ => ?_))
    have hall : List.take items.size (List.drop 0 items.toList) = items.toList := by
      rw [List.drop_zero]; exact List.take_of_length_le (by simp)
    rw [hall]
    rw [if_neg (by simp)]
    have ht₁ : h₁.IsList t items := (ht.push _).extBut hs₁.extBut hlt
    refine wpAny_bind (wpAny_holding (wpAny_pyNext_list_end hh hit₁ ht₁ (by simp) fun h₂ he₂ => ?_))
    simp only [Option.isSome_none, Bool.false_eq_true, if_false]
    refine wpAny_pure (hQ h₂ fun b o hb e => he₂ b o hb (hs₁.extBut b o hb (Heap.get?_push_of_some _ e)))
theorem unpack_list {t : Addr} {items : Array Value} {targets : List (Bool × (Value → Sem Unit))} {Q : Unit → Shared → Prop} (hh : A.handled = none) (ht : s.heap.IsList t items)
    (hn : targets.length = items.size) (hstar : targets.findIdx? (·.1) = none)
    (h : ∀ h', Heap.ExtBut s.heap.objs.size s.heap h' → wpAny (model prog w) A (assignInOrder (targets.map (·.2)) items.toList) Q E { s with heap := h' }) :
    wpAny (model prog w) A (unpack (.ref t) targets) Q E s := by
  unfold unpack
  rw [hn, hstar]
  exact wpAny_bind (wpAny_holding (unpackItems_list hh ht h))
theorem assign_Tuple_list {env : Env} {elts : List Expr} {x1} {pos : Pos} {t : Addr} {items : Array Value} {Q : Unit → Shared → Prop} (hh : A.handled = none) (ht : s.heap.IsList t items)
    (hn : (assignEach elts env).length = items.size) (hstar : (assignEach elts env).findIdx? (·.1) = none)
    (h : ∀ h', Heap.ExtBut s.heap.objs.size s.heap h' → wpAny (model prog w) A (assignInOrder ((assignEach elts env).map (·.2)) items.toList) Q E { s with heap := h' }) :
    wpAny (model prog w) A (assign (.Tuple elts x1 pos) env (.ref t)) Q E s := by
  rw [assign_Tuple]
  exact wpAny_bind (wpAny_standAt (unpack_list hh ht hn hstar h))
end
section
variable {X : Cx} {pos : Pos}
/-- (a, b, ..) = a list or a tuple of that length -/
def gSeq (K : PySem.W.Frag) (n : Nat) (t : TGs) : TG := fun v σ H Q => ∃ a xs, v = .ref a ∧ R4.Sq K H a xs ∧ xs.length = n ∧ t xs σ H Q
theorem pg_seq {es : List Expr} {k : Nat} {t : TGs} {n : Nat} (hc : X.calm = true) (h : PGs X es t)
    (hn : (assignEach es X.env).length = n := by rfl) (hst : (assignEach es X.env).findIdx? (·.1) = none := by rfl) : PG X (.Tuple es k pos) (gSeq X.K n t) := by
  refine ⟨fun pins s σ H v u Q I r hw => ?_⟩
  obtain ⟨a, xs, e1, hq, hl, hw⟩ := hw
  subst e1
  cases r
  rcases hq with hq | hq
  · obtain ⟨its, rv, ht, hz⟩ := I.list hq
    refine assign_Tuple_list (I.ok.hd hc) ht.isList (by simp [hn, ← hl, rv.length]) hst fun h' hx => ?_
    have I1 : Inv X pins σ H { s with heap := h' } := I.kept (t' := s.toks) fun b o e => hx b o (Nat.ne_of_lt (Heap.lt_size e)) e
    exact h.run pins _ σ H xs _ Q I1 (by simpa using rv) hw
  · obtain ⟨its, rv, ht, hz⟩ := I.tuple hq
    refine assign_Tuple_tuple (I.ok.hd hc) ht (by simp [hn, ← hl, rv.length]) hst fun h' hx => ?_
    have I1 : Inv X pins σ H { s with heap := h' } := I.kept (t' := s.toks) fun b o e => hx b o (Nat.ne_of_lt (Heap.lt_size e)) e
    exact h.run pins _ σ H xs _ Q I1 (by simpa using rv) hw
end
end L2
set_option Elab.async false
set_option linter.all false
set_option maxRecDepth 100000
set_option maxHeartbeats 4000000
set_option pp.maxSteps 700
namespace R4
open PySem L2 PySem.GW LamX SM
section
variable {w : World} {K : PySem.W.Frag} {mg : Str → Option Value} {base : Heap}
open R4
/-- what is asked of a tie -/
def lenB : V → Bool
  | .int i => decide (1 ≤ i) && decide (i ≤ 10 ^ 100)
  | _ => false
def isS : V → Bool
  | .str _ => true
  | _ => false
def tieB (m n : Nat) (x y l : V) : Bool := hasP m n x && (hasP m n y && (lenB l && (!decide (x = y) && !(isS x && isS y))))
variable {H : Hp}
inductive LV (K : PySem.W.Frag) (H : Hp) : V → Prop
  | int (i : Int) : LV K H (.int i)
  | odd {v : V} (h : NoInt K H v) (h2 : lenB v = false) : LV K H v
inductive TieV (K : PySem.W.Frag) (H : Hp) (m n : Nat) : V → Bool → Prop
  | no {v : V} (h : NoSeq K H v) : TieV K H m n v false
  | len {a : Addr} {xs : List V} (h : Sq K H a xs) (h2 : xs.length ≠ 3) : TieV K H m n (.ref a) false
  | tie {a : Addr} {x y l : V} (h : Sq K H a [x, y, l]) (hx : PV K H x) (hy : PV K H y) (hl : LV K H l) : TieV K H m n (.ref a) (tieB m n x y l)
theorem PV.isS {m n : Nat} {x : V} (h : PV K H x) (hh : hasP m n x = true) : ∃ t, TyX K H x (.type t) ∧ kitB t "str" = some (isS x) := by
  cases h with
  | int i => exact ⟨_, .base (.int i), show kitB "int" "str" = some false by decide +kernel⟩
  | str z h => exact ⟨_, .base (.str z), show kitB "str" "str" = some true by decide +kernel⟩
  | odd h1 h2 h3 => rw [h3] at hh; cases hh
theorem PV.scal {m n : Nat} {x y : V} (h : PV K H x) (hh : hasP m n x = true) (h2 : PV K H y) (hh2 : hasP m n y = true) : scal x y = true := by
  cases h with
  | int i =>
    cases h2 with
    | int j => rfl
    | str z h => rfl
    | odd h1 h2 h3 => rw [h3] at hh2; cases hh2
  | str z h =>
    cases h2 with
    | int j => rfl
    | str z h => rfl
    | odd h1 h2 h3 => rw [h3] at hh2; cases hh2
  | odd h1 h2 h3 => rw [h3] at hh; cases hh
def spTie (K : PySem.W.Frag) : Sp := fun vs H Q _ => ∃ (p : Addr) (v : V) (m : Nat) (z : Str) (b : Bool), vs = [.ref p, v] ∧ PcB K H p m z ∧ TieV K H m z.length v b ∧ ∀ H', Same H H' → Q (.bl b) H'
theorem ok_Piece_is_tie (T : Top K mg) : FnOk PW w K mg base CX0 3 (ME_Piece K "is_tie") (fdOf K (ME_Piece K "is_tie")) ["self", "value"] (spTie K) := by
  refine T.F_Piece_is_tie.ok sc_Piece_is_tie (fun vs H Q E h => ?_) (fun cdv A outer s H vs Q E hr h => ?_)
  · obtain ⟨p, v, m, z, b, rfl, _hp, _hv, _k⟩ := h
    rfl
  · obtain ⟨p, v, m, z, b, rfl, hp, hv, k⟩ := h
    have hu := hu_of hr
    obtain ⟨t_MOST_LENGTH, c_MOST_LENGTH⟩ := T.c_MOST_LENGTH
    refine ⟨_, (pss_cons (ps_if (PW.pt (pw_or (pt_not (pt_val (pe_call (ok_is_list T) (hr.mono (by decide)) rfl T.g_is_list T.F_is_list.kp T.b_is_list .nil pass0 (pa_cons (pv 1) pa_nil)))) (pw_or1 (pt_cmpR op_ne (pe_callB call_len_seq (by rfl) T.z_len (by decide +kernel) (pa_cons (pv 1) pa_nil)) pe_int (nomark _))))) (pss_one (ps_ret pe_bl)) pss_nil)
      (pss_cons (ps_asg (pv 1) (pg_seq (by rfl) (pgs_cons (pg_name (i := 2) sc_Piece_is_tie.nd rfl (Or.inl rfl)) (pgs_cons (pg_name (i := 3) sc_Piece_is_tie.nd rfl (Or.inl rfl)) (pgs_cons (pg_name (i := 4) sc_Piece_is_tie.nd rfl (Or.inl rfl)) pgs_nil)))))
      (pss_cons (ps_if (PW.pt (pw_or (pt_not (pt_val (pe_meth (pv 0) T.cl_Piece T.m_Piece_has_place (ok_Piece_has_place T) (hr.mono (by decide)) T.b_Piece_has_place .nil pass0 (pa_cons (pv 2) pa_nil)))) (pw_or (pt_not (pt_val (pe_meth (pv 0) T.cl_Piece T.m_Piece_has_place (ok_Piece_has_place T) (hr.mono (by decide)) T.b_Piece_has_place .nil pass0 (pa_cons (pv 3) pa_nil)))) (pw_or (pt_not (pt_val (pe_call (ok_is_whole T) (hr.mono (by decide)) rfl T.g_is_whole T.F_is_whole.kp T.b_is_whole .nil pass0 (pa_cons (pv 4) (pa_cons pe_int pa_nil))))) (pw_or1 (pt_cmpR op_gt (pv 4) (pe_glob (v := .int 10000000000000000000000000000000000000000000000000000000000000000000000000000000000000000000000000000) rfl c_MOST_LENGTH ⟨_, rfl⟩) (nomark _))))))) (pss_one (ps_ret pe_bl)) pss_nil)
      (pss_one (ps_ret (pe_and (pe_cmpR op_ne (pv 2) (pv 3) (nomark _)) (pe_one (pe_not (pe_and (pe_callB call_isi (by rfl) T.z_isinstance (by decide +kernel) (pa_cons (pv 2) (pa_cons (pe_bltn (v := .ty "str") (by rfl) T.z_str (by decide +kernel) rfl) pa_nil))) (pe_one (pe_callB call_isi (by rfl) T.z_isinstance (by decide +kernel) (pa_cons (pv 3) (pa_cons (pe_bltn (v := .ty "str") (by rfl) T.z_str (by decide +kernel) rfl) pa_nil))))))))))))), ?_⟩
    cases hv with
    | no h => 
      obtain ⟨n, ty, hn⟩ := h
      exact ⟨_, rfl, v, n, false, rfl, ty, hn, fun H1 s1 => ⟨_, rfl, ifT rfl (ifT rfl (tcI (k _ s1)))⟩⟩
    | @len a xs h h2 =>
      obtain ⟨n, ty, hn⟩ := h.ty
      refine ⟨_, rfl, .ref a, n, true, rfl, ty, hn, fun H1 s1 => ⟨_, rfl, ifF rfl ⟨_, rfl, a, xs, rfl, Same.sq s1 h, tcI ⟨rfl, _, rfl, ifT ?_ (tcI (k _ s1))⟩⟩⟩⟩
      rw [show decide (V.int (xs.length : Int) = V.int 3) = decide (xs.length = 3) from dec_int xs.length 3]
      exact nn h2
    | @tie a x y l h hx hy hl =>
      obtain ⟨n, ty, hn⟩ := h.ty
      refine ⟨_, rfl, .ref a, n, true, rfl, ty, hn, fun H1 s1 => ⟨_, rfl, ifF rfl ⟨_, rfl, a, _, rfl, Same.sq s1 h, tcI ⟨rfl, _, rfl, ifF rfl ?_⟩⟩⟩⟩
      have hp1 := hp.same s1
      have hx1 := hx.same s1
      have hy1 := hy.same s1
      have k1 : Q (.bl (tieB m z.length x y l)) H1 := k _ s1
      obtain ⟨dx, fs, g1, _, _, _, _, g6⟩ := id hp1
      have gm : fs.lookup ("has_place" : Str) = none := g6 _ (by decide +kernel)
      refine ⟨_, rfl, a, _, rfl, Same.sq s1 h, rfl, _, _, rfl, _, _, rfl, _, _, rfl, rfl, ?_⟩
      refine ⟨_, rfl, p, dx, fs, rfl, g1, gm, _, rfl, p, x, m, z, rfl, hp1, hx1, _, rfl, ?_⟩
      unfold tieB at k1
      cases cx : hasP m z.length x with
      | false =>
        rw [cx] at k1
        exact ifT rfl (ifT rfl (tcI k1))
      | true =>
        rw [cx, Bool.true_and] at k1
        refine ifF rfl ⟨_, rfl, p, dx, fs, rfl, g1, gm, _, rfl, p, y, m, z, rfl, hp1, hy1, _, rfl, ?_⟩
        cases cy : hasP m z.length y with
        | false =>
          rw [cy] at k1
          exact ifT rfl (ifT rfl (tcI k1))
        | true =>
          rw [cy, Bool.true_and] at k1
          cases hl with
          | odd h1 h2 =>
            rw [h2] at k1
            exact ifF rfl ⟨_, rfl, l, 1, rfl, .inr ⟨h1.same s1, _, rfl, ifT rfl (ifT rfl (tcI k1))⟩⟩
          | int i =>
            have k2 : Q (.bl ((decide (1 ≤ i) && decide (i ≤ 10 ^ 100)) && (!decide (x = y) && !(R4.isS x && R4.isS y)))) H1 := k1
            refine ifF rfl ⟨_, rfl, .int i, 1, rfl, .inl ⟨i, rfl, _, rfl, ?_⟩⟩
            by_cases c1 : 1 ≤ i
            · rw [decide_eq_true c1] at k2 ⊢
              refine ifF rfl ⟨_, rfl, _, _, rfl, rfl, _, rfl, ?_⟩
              by_cases c2 : i ≤ 10 ^ 100
              · rw [decide_eq_true c2, Bool.true_and, Bool.true_and] at k2
                refine ifF (decide_eq_false (by omega)) ?_
                refine ⟨_, rfl, _, rfl, hx1.scal cx hy1 cy, _, rfl, ?_⟩
                obtain ⟨t1, ty1, e1⟩ := hx1.isS cx
                obtain ⟨t2, ty2, e2⟩ := hy1.isS cy
                cases cxy : !decide (x = y) with
                | false =>
                  rw [cxy] at k2
                  exact iteF k2
                | true =>
                  rw [cxy, Bool.true_and] at k2
                  refine iteT ⟨_, rfl, _, _, _, _, R4.isS x, rfl, .ty _, ty1, kit_ty e1, _, rfl, ?_⟩
                  cases c3 : R4.isS x with
                  | false =>
                    rw [c3] at k2
                    exact iteF ⟨_, rfl, k2⟩
                  | true =>
                    rw [c3, Bool.true_and] at k2
                    exact iteT ⟨_, rfl, _, _, _, _, R4.isS y, rfl, .ty _, ty2, kit_ty e2, _, rfl, k2⟩
              · rw [decide_eq_false c2, Bool.and_false, Bool.false_and] at k2
                exact ifT (decide_eq_true (by omega)) (tcI k2)
            · rw [decide_eq_false c1, Bool.false_and, Bool.false_and] at k2
              rw [decide_eq_false c1]
              exact ifT rfl (ifT rfl (tcI k2))
end
end R4
set_option Elab.async false
set_option linter.all false
set_option maxRecDepth 100000
set_option maxHeartbeats 4000000
set_option pp.maxSteps 700
namespace R4
open PySem L2 PySem.GW LamX SM
section
variable {w : World} {K : PySem.W.Frag} {mg : Str → Option Value} {base : Heap}
def rankV : V → Int
  | .int i => i
  | .str z => 6 + (lipN z : Int)
  | _ => 0
def budB (m n : Nat) (ps : List V) : Bool := decide (1 ≤ ps.length) && (decide (ps.length ≤ 3) && (ps.all (hasP m n) && decide ((dedK (ps.map fun v => Sum.inl (rankV v))).length = ps.length)))
inductive WV (K : PySem.W.Frag) (H : Hp) : V → Prop
  | str (z : Str) (h : z.length ≤ 1000) : WV K H (.str z)
  | odd {v : V} (h : NoStr K H v) : WV K H v
def wordV : V → Bool
  | .str z => wordB z
  | _ => false
inductive BudV (K : PySem.W.Frag) (H : Hp) (m n : Nat) : V → Bool → Prop
  | no {v : V} (h : NoSeq K H v) : BudV K H m n v false
  | len {a : Addr} {xs : List V} (h : Sq K H a xs) (h2 : xs.length ≠ 2) : BudV K H m n (.ref a) false
  | noword {a : Addr} {x r : V} (h : Sq K H a [x, r]) (h2 : NoStr K H x ∨ ∃ w : Str, x = .str w ∧ w.length ≤ 1000 ∧ wordB w = false) : BudV K H m n (.ref a) false
  | norow {a : Addr} {w : Str} {r : V} (h : Sq K H a [.str w, r]) (hw : w.length ≤ 1000) (h2 : wordB w = true) (h3 : NoSeq K H r) : BudV K H m n (.ref a) false
  | row {a r : Addr} {w : Str} {ps : List V} (h : Sq K H a [.str w, .ref r]) (hw : w.length ≤ 1000) (h2 : wordB w = true) (h3 : Sq K H r ps) (h4 : ∀ x ∈ ps, PV K H x) (h5 : ps.length ≤ 1000) : BudV K H m n (.ref a) (budB m n ps)
theorem ix_sq {H : Hp} {a : Addr} {xs : List V} {i : Int} {v : V} {Q : VK} (h : Sq K H a xs) (e : L2.atI xs i = some v) (q : Q v H) : rIx K (.ref a) (.int i) H Q := by
  rcases h with h | h
  · exact .inl ⟨a, xs, i, v, rfl, rfl, h, e, q⟩
  · exact .inr (.inl ⟨a, xs, i, v, rfl, rfl, h, e, q⟩)
theorem hasP_rank {m n : Nat} {v : V} (h : hasP m n v = true) : Plc v (rankV v) := by
  cases v with
  | int i => exact .num i
  | str z =>
    have h2 : (decide (z.length = 1) && z.cps.toList.all fun c => decide (c ∈ lipsOf m)) = true := h
    rw [Bool.and_eq_true] at h2
    obtain ⟨c0, rfl⟩ := one_sign (of_decide_eq_true h2.1)
    have h3 := of_decide_eq_true (List.all_eq_true.mp h2.2 c0 (by simp))
    have h4 : c0 ∈ [97, 98, 99] := List.mem_of_mem_take h3
    refine .lip ?_
    rcases List.mem_cons.mp h4 with rfl | h4
    · exact .inl rfl
    rcases List.mem_cons.mp h4 with rfl | h4
    · exact .inr (.inl rfl)
    · rw [List.mem_singleton.mp h4]
      exact .inr (.inr rfl)
  | _ => cases h
theorem all_map_bl (ps : List V) (f : V → Bool) : ps.map (fun v => V.bl (f v)) = (ps.map f).map V.bl := by rw [List.map_map]; rfl
def spBud (K : PySem.W.Frag) : Sp := fun vs H Q _ => ∃ (p : Addr) (v : V) (m : Nat) (z : Str) (b : Bool), vs = [.ref p, v] ∧ PcB K H p m z ∧ BudV K H m z.length v b ∧ ∀ H', Same H H' → Q (.bl b) H'
theorem ok_Piece_is_bud (T : Top K mg) : FnOk PW w K mg base CX0 3 (ME_Piece K "is_bud") (fdOf K (ME_Piece K "is_bud")) ["self", "value"] (spBud K) := by
  refine T.F_Piece_is_bud.ok sc_Piece_is_bud (fun vs H Q E h => ?_) (fun cdv A outer s H vs Q E hr h => ?_)
  · obtain ⟨p, v, m, z, b, rfl, _hp, _hv, _k⟩ := h
    rfl
  · obtain ⟨p, v, m, z, b, rfl, hp, hv, k⟩ := h
    have hu := hu_of hr
    obtain ⟨t_MOST_MOUTH, c_MOST_MOUTH⟩ := T.c_MOST_MOUTH
    refine ⟨_, (pss_cons (ps_if (PW.pt (pw_or (pt_not (pt_val (pe_call (ok_is_list T) (hr.mono (by decide)) rfl T.g_is_list T.F_is_list.kp T.b_is_list .nil pass0 (pa_cons (pv 1) pa_nil)))) (pw_or (pt_cmpR op_ne (pe_callB call_len_seq (by rfl) T.z_len (by decide +kernel) (pa_cons (pv 1) pa_nil)) pe_int (nomark _)) (pw_or (pt_not (pt_val (pe_call (ok_is_word T) (hr.mono (by decide)) rfl T.g_is_word T.F_is_word.kp T.b_is_word .nil pass0 (pa_cons (pe_ix ix_seq (pv 1) pe_int (fun _ _ => rfl)) pa_nil)))) (pw_or1 (pt_not (pt_val (pe_call (ok_is_list T) (hr.mono (by decide)) rfl T.g_is_list T.F_is_list.kp T.b_is_list .nil pass0 (pa_cons (pe_ix ix_seq (pv 1) pe_int (fun _ _ => rfl)) pa_nil))))))))) (pss_one (ps_ret pe_bl)) pss_nil)
      (pss_cons (ps_set (i := 2) sc_Piece_is_bud.nd rfl (Or.inl rfl) (pe_ix ix_seq (pv 1) pe_int (fun _ _ => rfl)))
      (pss_cons (ps_if (PW.pt (pw_or (pt_not (pt_chain op_le op_le pe_int (pe_callB call_len_seq (by rfl) T.z_len (by decide +kernel) (pa_cons (pv 2) pa_nil)) (pe_glob (v := .int 3) rfl c_MOST_MOUTH ⟨_, rfl⟩))) (pw_or1 (pt_not (pt_val (pe_callB (cr_all rfl) (by rfl) T.z_all (by decide +kernel) (pa_cons (pe_lc (own := [("place", 3)]) (g := gName 3) (by rfl) sc_Piece_is_bud.nd (pi_or (pi_list (pv 2)) (pi_tup (pv 2))) (blkOk_by (own := [("place", 3)]) (N := ["self", "value", "row", "place"]) (sc := (defScope s_Piece_is_bud)) (by decide +kernel)) (fun _ _ _ _ _ => (pg_name (i := 3) sc_Piece_is_bud.nd rfl (Or.inl rfl))) (fun _ _ _ _ _ => pts_nil) (fun _ _ _ _ _ => (pe_meth (pv 0) T.cl_Piece T.m_Piece_has_place (ok_Piece_has_place T) (hr.mono (by decide)) T.b_Piece_has_place .nil pass0 (pa_cons (pv 3) pa_nil)))) pa_nil))))))) (pss_one (ps_ret pe_bl)) pss_nil)
      (pss_one (ps_ret (pe_cmpR op_eq (pe_callB cr_lenSet (by rfl) T.z_len (by decide +kernel) (pa_cons (pe_scK (own := [("place", 3)]) (g := gName 3) (by rfl) sc_Piece_is_bud.nd (pi_or (pi_list (pv 2)) (pi_tup (pv 2))) (blkOk_by (own := [("place", 3)]) (N := ["self", "value", "row", "place"]) (sc := (defScope s_Piece_is_bud)) (by decide +kernel)) (fun _ _ _ _ _ => (pg_name (i := 3) sc_Piece_is_bud.nd rfl (Or.inl rfl))) (fun _ _ _ _ _ => pts_nil) (fun _ _ _ _ _ => (pe_call (ok_place_rank T) (hr.mono (by decide)) rfl T.g_place_rank T.F_place_rank.kp T.b_place_rank .nil pass0 (pa_cons (pv 3) pa_nil)))) pa_nil)) (pe_callB call_len_seq (by rfl) T.z_len (by decide +kernel) (pa_cons (pv 2) pa_nil)) (nomark _))))))), ?_⟩
    cases hv with
    | no h => 
      obtain ⟨n, ty, hn⟩ := h
      exact ⟨_, rfl, v, n, false, rfl, ty, hn, fun H1 s1 => ⟨_, rfl, ifT rfl (ifT rfl (tcI (k _ s1)))⟩⟩
    | @len a xs h h2 =>
      obtain ⟨n, ty, hn⟩ := h.ty
      refine ⟨_, rfl, .ref a, n, true, rfl, ty, hn, fun H1 s1 => ⟨_, rfl, ifF rfl ⟨_, rfl, a, xs, rfl, Same.sq s1 h, tcI ⟨rfl, _, rfl, ifT ?_ (ifT rfl (tcI (k _ s1)))⟩⟩⟩⟩
      rw [show decide (V.int (xs.length : Int) = V.int 2) = decide (xs.length = 2) from dec_int xs.length 2]
      exact nn h2
    | @noword a x r h h2 =>
      obtain ⟨n, ty, hn⟩ := h.ty
      refine ⟨_, rfl, .ref a, n, true, rfl, ty, hn, fun H1 s1 => ⟨_, rfl, ifF rfl ⟨_, rfl, a, _, rfl, Same.sq s1 h, tcI ⟨rfl, _, rfl, ifF rfl ?_⟩⟩⟩⟩
      refine ⟨_, rfl, tcI (ix_sq (v := x) (Same.sq s1 h) rfl ⟨x, rfl, ?_⟩)⟩
      rcases h2 with h2 | ⟨w2, rfl, hw, h2⟩
      · exact .inl ⟨h2.same s1, _, rfl, ifT rfl (ifT rfl (tcI (k _ s1)))⟩
      · exact .inr ⟨w2, rfl, hw, fun H2 s2 => by rw [h2]; exact ⟨_, rfl, ifT rfl (ifT rfl (tcI (k _ (s1.trans s2))))⟩⟩
    | @norow a w2 r h hw h2 h3 =>
      obtain ⟨n, ty, hn⟩ := h.ty
      refine ⟨_, rfl, .ref a, n, true, rfl, ty, hn, fun H1 s1 => ⟨_, rfl, ifF rfl ⟨_, rfl, a, _, rfl, Same.sq s1 h, tcI ⟨rfl, _, rfl, ifF rfl ?_⟩⟩⟩⟩
      refine ⟨_, rfl, tcI (ix_sq (v := .str w2) (Same.sq s1 h) rfl ⟨.str w2, rfl, .inr ⟨w2, rfl, hw, fun H2 s2 => ?_⟩⟩)⟩
      rw [h2]
      obtain ⟨n3, ty3, hn3⟩ := h3.same (s1.trans s2)
      exact ⟨_, rfl, ifF rfl ⟨_, rfl, tcI (ix_sq (v := r) (Same.sq (s1.trans s2) h) rfl ⟨r, n3, false, rfl, ty3, hn3, fun H3 s3 => ⟨_, rfl, ifT rfl (tcI (k _ ((s1.trans s2).trans s3)))⟩⟩)⟩⟩
    | @row a r w2 ps h hw h2 h3 h4 h5 =>
      obtain ⟨n, ty, hn⟩ := h.ty
      refine ⟨_, rfl, .ref a, n, true, rfl, ty, hn, fun H1 s1 => ⟨_, rfl, ifF rfl ⟨_, rfl, a, _, rfl, Same.sq s1 h, tcI ⟨rfl, _, rfl, ifF rfl ?_⟩⟩⟩⟩
      refine ⟨_, rfl, tcI (ix_sq (v := .str w2) (Same.sq s1 h) rfl ⟨.str w2, rfl, .inr ⟨w2, rfl, hw, fun H2 s2 => ?_⟩⟩)⟩
      rw [h2]
      obtain ⟨n3, ty3, hn3⟩ := (Same.sq (s1.trans s2) h3).ty
      refine ⟨_, rfl, ifF rfl ⟨_, rfl, tcI (ix_sq (v := .ref r) (Same.sq (s1.trans s2) h) rfl ⟨.ref r, n3, true, rfl, ty3, hn3, fun H3 s3 => ⟨_, rfl, ifF rfl ?_⟩⟩)⟩⟩
      have sA := (s1.trans s2).trans s3
      have hp1 := hp.same sA
      have h31 := Same.sq sA h3
      have k1 : ∀ H', Same H3 H' → Q (.bl (budB m z.length ps)) H' := fun H' s' => k _ (sA.trans s')
      unfold budB at k1
      refine ⟨_, rfl, tcI (ix_sq (v := .ref r) (Same.sq sA h) rfl ?_)⟩
      refine ⟨_, rfl, r, ps, rfl, h31, _, _, rfl, rfl, _, rfl, ?_⟩
      by_cases c1 : 1 ≤ ps.length
      · refine ifT (decide_eq_true (by omega)) (tcI ⟨_, _, rfl, rfl, _, rfl, ?_⟩)
        by_cases c2 : ps.length ≤ 3
        · simp only [decide_eq_true c1, decide_eq_true c2, Bool.true_and] at k1
          refine ifF (nd (show (ps.length : Int) ≤ 3 by omega)) ?_
          rcases h31 with hS | hS
          · refine .inl ⟨_, rfl, r, rfl, ⟨_, hS⟩, fun D hD => ?_⟩
            refine lc_map (fun v => .bl (hasP m z.length v)) hD (by omega) (gvs_list hS) (fun v => rfl) (fun i x H4 R hx s4 rr => ?_) fun H4 s4 hD4 => ?_
            · obtain ⟨dx, fs, g1, _, _, _, _, g6⟩ := id (hp1.same s4)
              exact ⟨_, rfl, p, dx, fs, rfl, g1, g6 _ (by decide +kernel), _, rfl, p, x, m, z, rfl, hp1.same s4, (h4 x (List.mem_of_getElem? hx)).same (sA.trans s4), rr _ (Same.refl _)⟩
            · rw [all_map_bl] at hD4
              refine ⟨D, _, rfl, SqL.of hD4, _, rfl, ?_⟩
              rw [all_id]
              cases ca : ps.all (hasP m z.length) with
              | false =>
                simp only [ca, Bool.false_and] at k1
                exact ifT rfl (tcI (k1 _ s4))
              | true =>
                simp only [ca, Bool.true_and] at k1
                have hS4 := Same.seq s4 hS
                refine ifF rfl (.inl ⟨_, rfl, r, rfl, ⟨_, hS4⟩, fun D2 hD2 => ?_⟩)
                refine sc_map (fun v => Sum.inl (rankV v)) hD2 (by omega) (gvs_list hS4) (fun v => rfl) (fun i x H5 R hx s5 rr => ?_) fun H5 s5 hD5 => ?_
                · exact ⟨_, rfl, x, rankV x, rfl, hasP_rank (List.all_eq_true.mp ca x (List.mem_of_getElem? hx)), rr _ (Same.refl _)⟩
                · exact ⟨D2, _, rfl, hD5, _, rfl, r, ps, rfl, .inl (Same.seq s5 hS4), rfl, by rw [dec_int]; exact k1 _ (s4.trans s5)⟩
          · refine .inr ⟨_, rfl, r, rfl, ⟨_, hS⟩, fun D hD => ?_⟩
            refine lc_map (fun v => .bl (hasP m z.length v)) hD (by omega) (gvs_tup hS) (fun v => rfl) (fun i x H4 R hx s4 rr => ?_) fun H4 s4 hD4 => ?_
            · obtain ⟨dx, fs, g1, _, _, _, _, g6⟩ := id (hp1.same s4)
              exact ⟨_, rfl, p, dx, fs, rfl, g1, g6 _ (by decide +kernel), _, rfl, p, x, m, z, rfl, hp1.same s4, (h4 x (List.mem_of_getElem? hx)).same (sA.trans s4), rr _ (Same.refl _)⟩
            · rw [all_map_bl] at hD4
              refine ⟨D, _, rfl, SqL.of hD4, _, rfl, ?_⟩
              rw [all_id]
              cases ca : ps.all (hasP m z.length) with
              | false =>
                simp only [ca, Bool.false_and] at k1
                exact ifT rfl (tcI (k1 _ s4))
              | true =>
                simp only [ca, Bool.true_and] at k1
                have hS4 := Same.seqT s4 hS
                refine ifF rfl (.inr ⟨_, rfl, r, rfl, ⟨_, hS4⟩, fun D2 hD2 => ?_⟩)
                refine sc_map (fun v => Sum.inl (rankV v)) hD2 (by omega) (gvs_tup hS4) (fun v => rfl) (fun i x H5 R hx s5 rr => ?_) fun H5 s5 hD5 => ?_
                · exact ⟨_, rfl, x, rankV x, rfl, hasP_rank (List.all_eq_true.mp ca x (List.mem_of_getElem? hx)), rr _ (Same.refl _)⟩
                · exact ⟨D2, _, rfl, hD5, _, rfl, r, ps, rfl, .inr (Same.seqT s5 hS4), rfl, by rw [dec_int]; exact k1 _ (s4.trans s5)⟩
        · simp only [decide_eq_false c2, Bool.false_and, Bool.and_false] at k1
          exact ifT (nn (show ¬ (ps.length : Int) ≤ 3 by omega)) (ifT rfl (tcI (k1 _ (Same.refl _))))
      · simp only [decide_eq_false c1, Bool.false_and] at k1
        exact ifF (decide_eq_false (by omega)) ⟨false, rfl, ifT rfl (ifT rfl (tcI (k1 _ (Same.refl _))))⟩
end
end R4
set_option Elab.async false
set_option linter.all false
set_option maxRecDepth 100000
set_option maxHeartbeats 4000000
set_option pp.maxSteps 700
namespace R4
open PySem L2 PySem.GW LamX SM
section
variable {w : World} {K : PySem.W.Frag} {mg : Str → Option Value} {base : Heap}
abbrev rTupOf (K : PySem.W.Frag) : List V → Hp → VK → Prop := fun xs H Q => ∃ p ys, xs = [V.ref p] ∧ ((SqL K H p ys ∧ ∀ l, H l = none → Q (.ref l) (upd H l (.tup ys))) ∨ (SqT K H p ys ∧ Q (.ref p) H))
/-- BadPiece with the field f -/
def Rz (K : PySem.W.Frag) (H : Hp) (E : XK) (f : Str) : Prop := ∀ d H', Same H H' → H' d = some (.xd [("field", .str f)]) → E (.ref (He.ga K "BadPiece")) (some d) H'
theorem Rz.same {H H' : Hp} {E : XK} {f : Str} (e : Same H H') (h : Rz K H E f) : Rz K H' E f := fun d H2 s hd => h d H2 (e.trans s) hd
/-- a bud as it is told -/
def BudAt (K : PySem.W.Frag) (H : Hp) (v : V) (r : Str × List V) : Prop := ∃ a q, v = .ref a ∧ Sq K H a [.str r.1, .ref q] ∧ Sq K H q r.2
/-- a bud as it is kept -/
def BudT (K : PySem.W.Frag) (H : Hp) (t : Addr) (r : Str × List V) : Prop := ∃ q, H t = some (.tup [.str r.1, .ref q]) ∧ SqT K H q r.2
theorem BudV.same {H H' : Hp} {m n : Nat} {v : V} {b : Bool} (e : Same H H') (h : BudV K H m n v b) : BudV K H' m n v b := by
  cases h with
  | no h => exact .no (h.same e)
  | len h h2 => exact .len (Same.sq e h) h2
  | noword h h2 => exact .noword (Same.sq e h) (h2.imp (fun h => h.same e) id)
  | norow h hw h2 h3 => exact .norow (Same.sq e h) hw h2 (h3.same e)
  | row h hw h2 h3 h4 h5 => exact .row (Same.sq e h) hw h2 (Same.sq e h3) (fun x hx => (h4 x hx).same e) h5
theorem BudAt.same {H H' : Hp} {v : V} {r : Str × List V} (e : Same H H') (h : BudAt K H v r) : BudAt K H' v r := by
  obtain ⟨a, q, rfl, h1, h2⟩ := h
  exact ⟨a, q, rfl, Same.sq e h1, Same.sq e h2⟩
theorem BudT.same {H H' : Hp} {t : Addr} {r : Str × List V} (e : Same H H') (h : BudT K H t r) : BudT K H' t r := by
  obtain ⟨q, h1, h2⟩ := h
  exact ⟨q, e _ _ h1, Same.seqT e h2⟩
theorem BudT.updL {H : Hp} {t D : Addr} {r : Str × List V} {xs : List V} {o : HO} (hD : H D = some (.lst xs)) (h : BudT K H t r) : BudT K (upd H D o) t r := by
  obtain ⟨q, h1, h2⟩ := h
  exact ⟨q, by rw [upd_ne (fun e => by rw [e, hD] at h1; cases h1)]; exact h1, sqT_upd hD h2⟩
theorem pgetL {α β : Type} {F : α → β → Prop} : ∀ {l₁ : List α} {l₂ : List β} {j : Nat} {x : α}, Paired F l₁ l₂ → l₁[j]? = some x → ∃ y, l₂[j]? = some y ∧ F x y
  | _, _, j, x, Paired.nil, h => by simp at h
  | _, _, 0, x, Paired.cons h _, e => ⟨_, rfl, by cases e; exact h⟩
  | _, _, j + 1, x, Paired.cons _ t, e => by
    obtain ⟨y, h1, h2⟩ := pgetL t (j := j) (by simpa using e)
    exact ⟨y, by simpa using h1, h2⟩
theorem take_at1 {α : Type} {l : List α} {i : Nat} {x : α} (h : l[i]? = some x) : l.take (i + 1) = l.take i ++ [x] := by rw [List.take_succ, h]; rfl
theorem same_new {H1 H2 : Hp} {D : Addr} {o : HO} (hD : H1 D = none) (s : Same H1 H2) : Same H1 (upd H2 D o) := fun b o' e => by
  rw [upd_ne (fun z => by rw [z, hD] at e; cases e)]
  exact s b o' e
def spBuds (K : PySem.W.Frag) : Sp := fun vs H Q E => ∃ (p : Addr) (v : V) (m : Nat) (z : Str), vs = [.ref p, v] ∧ PcB K H p m z ∧ ((NoSeq K H v ∧ Rz K H E "buds") ∨ ∃ a xs bs, v = .ref a ∧ Sq K H a xs ∧ xs.length ≤ 1000 ∧ Paired (BudV K H m z.length) xs bs ∧
  (((4 < xs.length ∨ bs.all id = false) ∧ Rz K H E "buds") ∨ (xs.length ≤ 4 ∧ bs.all id = true ∧ ∃ rs, Paired (BudAt K H) xs rs ∧ ∀ H' tt ts, Same H H' → H tt = none → H' tt = some (.tup (ts.map V.ref)) → Paired (BudT K H') ts rs → Q (.ref tt) H')))
theorem ok_Piece_checked_buds (T : Top K mg) : FnOk PW w K mg base (L2.CX PW w) 4 (ME_Piece K "checked_buds") (fdOf K (ME_Piece K "checked_buds")) ["self", "buds"] (spBuds K) := by
  refine T.F_Piece_checked_buds.okX sc_Piece_checked_buds (fun vs H Q E h => ?_) (fun cdv A outer s H vs Q E hr h => ?_)
  · obtain ⟨p, v, m, z, rfl, _hp, _h⟩ := h
    rfl
  · obtain ⟨p, v, m, z, rfl, hp, h⟩ := h
    have hu := hu_of hr
    have hrE : Room 3 _ := hr.mono (by decide)
    obtain ⟨t_MOST_BUDS, c_MOST_BUDS⟩ := T.c_MOST_BUDS
    refine ⟨_, (pss_cons (ps_if (PW.pt (pw_or (pt_not (pt_val (pe_call (ok_is_list T) (hr.mono (by decide)) rfl T.g_is_list T.F_is_list.kp T.b_is_list .nil pass0 (pa_cons (pv 1) pa_nil)))) (pw_or (pt_cmpR op_gt (pe_callB call_len_seq (by rfl) T.z_len (by decide +kernel) (pa_cons (pv 1) pa_nil)) (pe_glob (v := .int 4) rfl c_MOST_BUDS ⟨_, rfl⟩) (nomark _)) (pw_or1 (pt_not (pt_val (pe_callB (cr_all rfl) (by rfl) T.z_all (by decide +kernel) (pa_cons (pe_lc (own := [("bud", 2)]) (g := gName 2) (by rfl) sc_Piece_checked_buds.nd (pi_or (pi_list (pv 1)) (pi_tup (pv 1))) (blkOk_by (own := [("bud", 2)]) (N := ["self", "buds", "bud", "kind", "row"]) (sc := (defScope s_Piece_checked_buds)) (by decide +kernel)) (fun _ _ _ _ _ => (pg_name (i := 2) sc_Piece_checked_buds.nd rfl (Or.inl rfl))) (fun _ _ _ _ _ => pts_nil) (fun _ _ _ _ _ => (pe_meth (pv 0) T.cl_Piece T.m_Piece_is_bud (ok_Piece_is_bud T) (hr.mono (by decide)) T.b_Piece_is_bud .nil pass0 (pa_cons (pv 2) pa_nil)))) pa_nil)))))))) (pss_one (ps_raise rfl (takes_of rfl rfl rfl rfl) (pmk_err (raises_own T.e_BadPiece.z.hs T.e_BadPiece.t) (per_pos T.e_BadPiece.c T.e_BadPiece.i hrE (by rfl) T.e_BadPiece.g T.e_BadPiece.k (eb_BadPiece_1) (pa_cons pe_str pa_nil))))) pss_nil)
      (pss_one (ps_ret (pe_callTy call_tuple_of (by rfl) T.z_tuple (by decide +kernel) (pa_cons (pe_lc (own := [("kind", 3), ("row", 4)]) (te := tTup (tCons (tVar 3) (tCons (tCB (rTupOf K) (tCons (tVar 4) tNil)) tNil))) (g := gSeq K 2 (gCons (gName 3) (gCons (gName 4) gNil))) (by rfl) sc_Piece_checked_buds.nd (pi_or (pi_list (pv 1)) (pi_tup (pv 1))) (blkOk_by (own := [("kind", 3), ("row", 4)]) (N := ["self", "buds", "bud", "kind", "row"]) (sc := (defScope s_Piece_checked_buds)) (by decide +kernel)) (fun _ _ _ _ _ => (pg_seq (by rfl) (pgs_cons (pg_name (i := 3) sc_Piece_checked_buds.nd rfl (Or.inl rfl)) (pgs_cons (pg_name (i := 4) sc_Piece_checked_buds.nd rfl (Or.inl rfl)) pgs_nil)))) (fun _ _ _ _ _ => pts_nil) (fun _ _ _ _ _ => (pe_tup (pa_cons (pv 3) (pa_cons (pe_callTy call_tuple_of (by rfl) T.z_tuple (by decide +kernel) (pa_cons (pv 4) pa_nil)) pa_nil))))) pa_nil))))), ?_⟩
    rcases h with ⟨⟨n, ty, h1⟩, k⟩ | ⟨a, xs, bs, rfl, hS, hl, hb, h⟩
    · exact ⟨_, rfl, v, n, false, rfl, ty, h1, fun H1 s1 => ⟨_, rfl, ifT rfl (ifT rfl ⟨rfl, fun dd hdd => k dd _ (s1.trans (same_upd hdd)) upd_same⟩)⟩⟩
    · obtain ⟨n, ty, hn⟩ := hS.ty
      have hbl : xs.length = bs.length := Paired.length hb
      refine ⟨_, rfl, .ref a, n, true, rfl, ty, hn, fun H1 s1 => ⟨_, rfl, ifF rfl ⟨_, rfl, a, xs, rfl, Same.sq s1 hS, tcI ⟨_, _, rfl, rfl, _, rfl, ?_⟩⟩⟩⟩
      by_cases c4 : xs.length ≤ 4
      · refine ifF (decide_eq_false (by omega)) ?_
        rcases hS with hS | hS
        · refine .inl ⟨_, rfl, a, rfl, ⟨_, Same.seq s1 hS⟩, fun D hD => ?_⟩
          refine lc_any (xs := xs) (fun i H2 => Same H1 H2 ∧ H2 D = some (.lst ((bs.take i).map V.bl))) ⟨same_upd hD, by rw [upd_same]; rfl⟩ (fun i H2 hi ⟨s2, _⟩ => gat_list hi (Same.seq s2 (Same.seq s1 hS))) ?_ ?_
          · rintro i x H2 hx ⟨s2, hD2⟩
            obtain ⟨b, hbi, hbv⟩ := pgetL hb hx
            have hil : i < xs.length := (List.getElem?_eq_some_iff.mp hx).1
            have hp2 := hp.same (s1.trans s2)
            obtain ⟨dx, fs, g1, _, _, _, _, g6⟩ := id hp2
            refine ⟨rfl, _, rfl, p, dx, fs, rfl, g1, g6 _ (by decide +kernel), _, rfl, p, x, m, z, b, rfl, hp2, hbv.same (s1.trans s2), fun H3 s3 => ⟨_, s3 _ _ hD2, small1000 (by rw [List.length_map, List.length_take]; omega), same_new hD (s2.trans s3), ?_⟩⟩
            rw [upd_same, take_at1 hbi, List.map_append]
            rfl
          · rintro H2 ⟨s2, hD2⟩
            rw [hbl, List.take_length] at hD2
            refine ⟨D, _, rfl, SqL.of hD2, _, rfl, ?_⟩
            have sB := s1.trans s2
            rcases h with ⟨hbad, k⟩ | ⟨_, hall, rs, hrs, k⟩
            · have hf : bs.all id = false := hbad.resolve_left (by omega)
              rw [hf]
              exact ifT rfl ⟨rfl, fun dd hdd => k dd _ (sB.trans (same_upd hdd)) upd_same⟩
            · rw [hall]
              refine ifF rfl ?_
              have hS2 := Same.seq sB hS
              refine .inl ⟨_, rfl, a, rfl, ⟨_, hS2⟩, fun D2 hD2 => ?_⟩
              refine lc_any (xs := xs) (fun i H3 => Same H2 H3 ∧ ∃ ts : List Addr, H3 D2 = some (.lst (ts.map V.ref)) ∧ ts.length = i ∧ Paired (BudT K H3) ts (rs.take i)) ⟨same_upd hD2, [], by rw [upd_same]; rfl, rfl, .nil⟩ (fun i H3 hi ⟨s3, _⟩ => gat_list hi (Same.seq s3 hS2)) ?_ ?_
              · rintro i x H3 hx ⟨s3, ts, hD3, hti, hts⟩
                have hil : i < xs.length := (List.getElem?_eq_some_iff.mp hx).1
                obtain ⟨r, hri, aa, q, rfl, g1, g2⟩ := pgetL hrs hx
                have sC := sB.trans s3
                refine ⟨aa, _, rfl, Same.sq sC g1, rfl, _, _, rfl, _, _, rfl, rfl, rfl, ?_⟩
                have fin : ∀ (H4 : Hp) (l : Addr), Same H3 H4 → SqT K H4 l r.2 → ([.str r.1, .ref l] : List V).length ≤ sizeLine ∧ ∀ t, H4 t = none → ∃ acc, (upd H4 t (.tup [.str r.1, .ref l])) D2 = some (.lst acc) ∧ acc.length < sizeLine ∧ Same H2 (upd (upd H4 t (.tup [.str r.1, .ref l])) D2 (.lst (acc ++ [.ref t]))) ∧ ∃ ts : List Addr, (upd (upd H4 t (.tup [.str r.1, .ref l])) D2 (.lst (acc ++ [.ref t]))) D2 = some (.lst (ts.map V.ref)) ∧ ts.length = i + 1 ∧ Paired (BudT K (upd (upd H4 t (.tup [.str r.1, .ref l])) D2 (.lst (acc ++ [.ref t])))) ts (rs.take (i + 1)) := fun H4 l s4 hl4 => by
                  refine ⟨Nat.le_of_ble_eq_true rfl, fun t ht => ?_⟩
                  have u := same_upd (o := .tup [.str r.1, .ref l]) ht
                  have hD4 := u _ _ (s4 _ _ hD3)
                  refine ⟨_, hD4, small1000 (by rw [List.length_map]; omega), same_new hD2 (s3.trans (s4.trans u)), ts ++ [t], by rw [upd_same, List.map_append]; rfl, by rw [List.length_append, hti]; rfl, ?_⟩
                  rw [take_at1 hri]
                  exact Paired.append (Paired.mapP hts fun t' r' h' => BudT.updL hD4 (h'.same (s4.trans u))) (BudT.updL hD4 ⟨l, upd_same, Same.seqT u hl4⟩)
                refine ⟨_, rfl, _, rfl, q, r.2, rfl, ?_⟩
                rcases Same.sq sC g2 with hq | hq
                · exact .inl ⟨hq, fun l hl => fin _ l (same_upd hl) (SqT.of upd_same)⟩
                · exact .inr ⟨hq, fin _ q (Same.refl _) hq⟩
              · rintro H3 ⟨s3, ts, hD3, _, hts⟩
                rw [show xs.length = rs.length from Paired.length hrs, List.take_length] at hts
                exact ⟨D2, _, rfl, .inl ⟨SqL.of hD3, fun tt htt => k _ tt ts ((sB.trans s3).trans (same_upd htt)) (fresh_back (sB.trans s3) htt) upd_same (Paired.mapP hts fun t' r' h' => h'.same (same_upd htt))⟩⟩
        · refine .inr ⟨_, rfl, a, rfl, ⟨_, Same.seqT s1 hS⟩, fun D hD => ?_⟩
          refine lc_any (xs := xs) (fun i H2 => Same H1 H2 ∧ H2 D = some (.lst ((bs.take i).map V.bl))) ⟨same_upd hD, by rw [upd_same]; rfl⟩ (fun i H2 hi ⟨s2, _⟩ => gat_tup hi (Same.seqT s2 (Same.seqT s1 hS))) ?_ ?_
          · rintro i x H2 hx ⟨s2, hD2⟩
            obtain ⟨b, hbi, hbv⟩ := pgetL hb hx
            have hil : i < xs.length := (List.getElem?_eq_some_iff.mp hx).1
            have hp2 := hp.same (s1.trans s2)
            obtain ⟨dx, fs, g1, _, _, _, _, g6⟩ := id hp2
            refine ⟨rfl, _, rfl, p, dx, fs, rfl, g1, g6 _ (by decide +kernel), _, rfl, p, x, m, z, b, rfl, hp2, hbv.same (s1.trans s2), fun H3 s3 => ⟨_, s3 _ _ hD2, small1000 (by rw [List.length_map, List.length_take]; omega), same_new hD (s2.trans s3), ?_⟩⟩
            rw [upd_same, take_at1 hbi, List.map_append]
            rfl
          · rintro H2 ⟨s2, hD2⟩
            rw [hbl, List.take_length] at hD2
            refine ⟨D, _, rfl, SqL.of hD2, _, rfl, ?_⟩
            have sB := s1.trans s2
            rcases h with ⟨hbad, k⟩ | ⟨_, hall, rs, hrs, k⟩
            · have hf : bs.all id = false := hbad.resolve_left (by omega)
              rw [hf]
              exact ifT rfl ⟨rfl, fun dd hdd => k dd _ (sB.trans (same_upd hdd)) upd_same⟩
            · rw [hall]
              refine ifF rfl ?_
              have hS2 := Same.seqT sB hS
              refine .inr ⟨_, rfl, a, rfl, ⟨_, hS2⟩, fun D2 hD2 => ?_⟩
              refine lc_any (xs := xs) (fun i H3 => Same H2 H3 ∧ ∃ ts : List Addr, H3 D2 = some (.lst (ts.map V.ref)) ∧ ts.length = i ∧ Paired (BudT K H3) ts (rs.take i)) ⟨same_upd hD2, [], by rw [upd_same]; rfl, rfl, .nil⟩ (fun i H3 hi ⟨s3, _⟩ => gat_tup hi (Same.seqT s3 hS2)) ?_ ?_
              · rintro i x H3 hx ⟨s3, ts, hD3, hti, hts⟩
                have hil : i < xs.length := (List.getElem?_eq_some_iff.mp hx).1
                obtain ⟨r, hri, aa, q, rfl, g1, g2⟩ := pgetL hrs hx
                have sC := sB.trans s3
                refine ⟨aa, _, rfl, Same.sq sC g1, rfl, _, _, rfl, _, _, rfl, rfl, rfl, ?_⟩
                have fin : ∀ (H4 : Hp) (l : Addr), Same H3 H4 → SqT K H4 l r.2 → ([.str r.1, .ref l] : List V).length ≤ sizeLine ∧ ∀ t, H4 t = none → ∃ acc, (upd H4 t (.tup [.str r.1, .ref l])) D2 = some (.lst acc) ∧ acc.length < sizeLine ∧ Same H2 (upd (upd H4 t (.tup [.str r.1, .ref l])) D2 (.lst (acc ++ [.ref t]))) ∧ ∃ ts : List Addr, (upd (upd H4 t (.tup [.str r.1, .ref l])) D2 (.lst (acc ++ [.ref t]))) D2 = some (.lst (ts.map V.ref)) ∧ ts.length = i + 1 ∧ Paired (BudT K (upd (upd H4 t (.tup [.str r.1, .ref l])) D2 (.lst (acc ++ [.ref t])))) ts (rs.take (i + 1)) := fun H4 l s4 hl4 => by
                  refine ⟨Nat.le_of_ble_eq_true rfl, fun t ht => ?_⟩
                  have u := same_upd (o := .tup [.str r.1, .ref l]) ht
                  have hD4 := u _ _ (s4 _ _ hD3)
                  refine ⟨_, hD4, small1000 (by rw [List.length_map]; omega), same_new hD2 (s3.trans (s4.trans u)), ts ++ [t], by rw [upd_same, List.map_append]; rfl, by rw [List.length_append, hti]; rfl, ?_⟩
                  rw [take_at1 hri]
                  exact Paired.append (Paired.mapP hts fun t' r' h' => BudT.updL hD4 (h'.same (s4.trans u))) (BudT.updL hD4 ⟨l, upd_same, Same.seqT u hl4⟩)
                refine ⟨_, rfl, _, rfl, q, r.2, rfl, ?_⟩
                rcases Same.sq sC g2 with hq | hq
                · exact .inl ⟨hq, fun l hl => fin _ l (same_upd hl) (SqT.of upd_same)⟩
                · exact .inr ⟨hq, fin _ q (Same.refl _) hq⟩
              · rintro H3 ⟨s3, ts, hD3, _, hts⟩
                rw [show xs.length = rs.length from Paired.length hrs, List.take_length] at hts
                exact ⟨D2, _, rfl, .inl ⟨SqL.of hD3, fun tt htt => k _ tt ts ((sB.trans s3).trans (same_upd htt)) (fresh_back (sB.trans s3) htt) upd_same (Paired.mapP hts fun t' r' h' => h'.same (same_upd htt))⟩⟩
      · rcases h with ⟨_, k⟩ | ⟨h4, _⟩
        · exact ifT (decide_eq_true (by omega)) (ifT rfl ⟨rfl, fun dd hdd => k dd _ (s1.trans (same_upd hdd)) upd_same⟩)
        · exact absurd h4 c4
end
end R4
set_option Elab.async false
set_option linter.all false
set_option maxRecDepth 100000
set_option maxHeartbeats 4000000
set_option pp.maxSteps 700
namespace R4
open PySem L2 PySem.GW LamX SM
section
variable {w : World} {K : PySem.W.Frag} {mg : Str → Option Value} {base : Heap}
/-- a tie as it is told: two places and a length -/
def TieAt (K : PySem.W.Frag) (H : Hp) (v : V) (t : V × V × Int) : Prop := ∃ a, v = .ref a ∧ Sq K H a [t.1, t.2.1, .int t.2.2]
/-- the lesser rank ahead -/
def nrm (t : V × V × Int) : V × V × Int := if rankV t.2.1 < rankV t.1 then (t.2.1, t.1, t.2.2) else t
def kt (t : V × V × Int) : Int × Int := (rankV (nrm t).1, rankV (nrm t).2.1)
def TieT (H : Hp) (r : Addr) (t : V × V × Int) : Prop := H r = some (.tup [t.1, t.2.1, .int t.2.2])
theorem nrm_nrm (t : V × V × Int) : nrm (nrm t) = nrm t := by
  unfold nrm
  by_cases c : rankV t.2.1 < rankV t.1
  · rw [if_pos c]
    exact if_neg (by show ¬ rankV t.1 < rankV t.2.1; omega)
  · rw [if_neg c, if_neg c]
theorem kt_nrm (t : V × V × Int) : kt (nrm t) = kt t := by
  unfold kt
  rw [nrm_nrm]
theorem perm_map_inv {α β : Type} {f : α → β} : ∀ {l m : List β}, l.Perm m → ∀ ts : List α, m = ts.map f → ∃ zs : List α, zs.Perm ts ∧ zs.map f = l := by
  intro l m h
  induction h with
  | nil => intro ts e; exact ⟨[], by rw [List.map_eq_nil_iff.mp e.symm], rfl⟩
  | cons x _ ih =>
    intro ts e
    cases ts with
    | nil => cases e
    | cons t ts =>
      obtain ⟨e1, e2⟩ := List.cons.inj e
      obtain ⟨zs, h1, h2⟩ := ih ts e2
      exact ⟨t :: zs, h1.cons t, by rw [List.map_cons, h2, e1]⟩
  | swap x y l =>
    intro ts e
    match ts, e with
    | a :: b :: ts, e =>
      obtain ⟨e1, e2⟩ := List.cons.inj e
      obtain ⟨e3, e4⟩ := List.cons.inj e2
      exact ⟨b :: a :: ts, List.Perm.swap a b ts, by rw [List.map_cons, List.map_cons, e1, e3, e4]⟩
  | trans _ _ ih1 ih2 =>
    intro ts e
    obtain ⟨zs, h1, h2⟩ := ih2 ts e
    obtain ⟨ws, h3, h4⟩ := ih1 zs h2.symm
    exact ⟨ws, h3.trans h1, h4⟩
theorem TieV.same {H H' : Hp} {m n : Nat} {v : V} {b : Bool} (e : Same H H') (h : TieV K H m n v b) : TieV K H' m n v b := by
  cases h with
  | no h => exact .no (h.same e)
  | len h h2 => exact .len (Same.sq e h) h2
  | tie h hx hy hl =>
    refine .tie (Same.sq e h) (hx.same e) (hy.same e) ?_
    cases hl with
    | int i => exact .int i
    | odd h h2 => exact .odd (h.same e) h2
def keyL (q : Int × Int) : List Key := [Sum.inl q.1, Sum.inl q.2]
theorem keyL_inj {p q : Int × Int} (h : keyL p = keyL q) : p = q := by
  obtain ⟨h1, h2⟩ := List.cons.inj h
  obtain ⟨h3, _⟩ := List.cons.inj h2
  exact Prod.ext (Sum.inl.inj h1) (Sum.inl.inj h3)
/-- an entry of found -/
def EnT (H : Hp) (e : List Key × V) (t : V × V × Int) : Prop := e.1 = keyL (kt t) ∧ ∃ r, e.2 = .ref r ∧ TieT H r (nrm t)
theorem EnT.same {H H' : Hp} {e : List Key × V} {t : V × V × Int} (s : Same H H') (h : EnT H e t) : EnT H' e t := by
  obtain ⟨h1, r, h2, h3⟩ := h
  exact ⟨h1, r, h2, s _ _ h3⟩
theorem EnT.updF {H : Hp} {F : Addr} {es : List (List Key × V)} {o : HO} {e : List Key × V} {t : V × V × Int} (hF : H F = some (.dT es)) (h : EnT H e t) : EnT (upd H F o) e t := by
  obtain ⟨h1, r, h2, h3⟩ := h
  exact ⟨h1, r, h2, by unfold TieT; rw [upd_ne (fun z => by unfold TieT at h3; rw [z, hF] at h3; cases h3)]; exact h3⟩
theorem ent_keys {H : Hp} : ∀ {es : List (List Key × V)} {ts : List (V × V × Int)}, Paired (EnT H) es ts → es.map (·.1) = (ts.map kt).map (fun p => [Sum.inl p.1, Sum.inl p.2])
  | _, _, .nil => rfl
  | _, _, .cons h t => by rw [List.map_cons, List.map_cons, List.map_cons, ent_keys t, h.1]; rfl
theorem ent_val {H : Hp} (q : Int × Int) : ∀ {es : List (List Key × V)} {ts : List (V × V × Int)}, Paired (EnT H) es ts → (valV es (keyL q)).isSome = decide (q ∈ ts.map kt)
  | _, _, .nil => rfl
  | _, _, .cons (a := e) (b := t) h tl => by
    by_cases c : kt t = q
    · rw [valV_pos (by rw [h.1, c]), decide_eq_true (by rw [List.map_cons, c]; exact List.mem_cons_self)]
      rfl
    · rw [valV_neg (fun z => c (keyL_inj (h.1.symm.trans z))), ent_val q tl]
      refine decide_eq_decide.mpr ⟨fun z => List.mem_cons_of_mem _ z, fun z => ?_⟩
      exact (List.mem_cons.mp z).resolve_left fun z => c z.symm
theorem ent_get {H : Hp} {t : V × V × Int} : ∀ {es : List (List Key × V)} {ts : List (V × V × Int)}, Paired (EnT H) es ts → (ts.map kt).Nodup → t ∈ ts → ∃ r, valV es (keyL (kt t)) = some (.ref r) ∧ TieT H r (nrm t)
  | _, _, .nil, _, ht => by cases ht
  | _, _, .cons (a := e) (b := u) h tl, nd, ht => by
    rw [List.map_cons, List.nodup_cons] at nd
    rcases List.mem_cons.mp ht with rfl | ht
    · obtain ⟨h1, r, h2, h3⟩ := h
      exact ⟨r, by rw [valV_pos h1, h2], h3⟩
    · have c : kt u ≠ kt t := fun z => nd.1 (by rw [z]; exact List.mem_map_of_mem ht)
      obtain ⟨r, h2, h3⟩ := ent_get tl nd.2 ht
      exact ⟨r, by rw [valV_neg (fun z => c (keyL_inj (h.1.symm.trans z)))]; exact h2, h3⟩
theorem take_nodup {α β : Type} {f : α → β} {ts : List α} {i : Nat} {t : α} (h : ts[i]? = some t) (nd : ((ts.take i).map f).Nodup) (c : f t ∉ (ts.take i).map f) : ((ts.take (i + 1)).map f).Nodup := by
  rw [take_at1 h, List.map_append, List.nodup_append]
  refine ⟨nd, by simp, fun a ha b hb => ?_⟩
  rw [List.map_cons, List.map_nil, List.mem_singleton] at hb
  rw [hb]
  exact fun z => c (z ▸ ha)
theorem dup_take {α β : Type} {f : α → β} {ts : List α} {i : Nat} {t : α} (h : ts[i]? = some t) (c : f t ∈ (ts.take i).map f) : ¬ (ts.map f).Nodup := fun nd => by
  have e : ts.map f = (ts.take i).map f ++ f t :: (ts.drop (i + 1)).map f := by
    rw [← List.map_cons, ← drop_at h, ← List.map_append, List.take_append_drop]
  rw [e, List.nodup_append] at nd
  exact nd.2.2 _ c _ List.mem_cons_self rfl
theorem paired_mapR {α β γ : Type} {F : α → γ → Prop} {f : β → γ} : ∀ {l : List α} {m : List β}, Paired (fun a b => F a (f b)) l m → Paired F l (m.map f)
  | _, _, .nil => .nil
  | _, _, .cons h t => .cons h (paired_mapR t)
def spTies (K : PySem.W.Frag) : Sp := fun vs H Q E => ∃ (p : Addr) (v : V) (m : Nat) (z : Str), vs = [.ref p, v] ∧ PcB K H p m z ∧ ((NoSeq K H v ∧ Rz K H E "ties") ∨ ∃ a xs bs, v = .ref a ∧ Sq K H a xs ∧ xs.length ≤ 1000 ∧ Paired (TieV K H m z.length) xs bs ∧
  ((bs.all id = false ∧ Rz K H E "ties") ∨ (bs.all id = true ∧ ∃ ts, Paired (TieAt K H) xs ts ∧ (∀ t ∈ ts, hasP m z.length t.1 = true ∧ hasP m z.length t.2.1 = true) ∧
    ((¬ (ts.map kt).Nodup ∧ Rz K H E "ties") ∨ ((ts.map kt).Nodup ∧ ∀ H' tt rs ys, Same H H' → H tt = none → H' tt = some (.tup (rs.map V.ref)) → Paired (TieT H') rs ys → ys.Perm (ts.map nrm) → ys.Pairwise (fun t u => SrtO.lexB (kt u) (kt t) = false) → Q (.ref tt) H')))))
theorem ok_Piece_checked_ties (T : Top K mg) : FnOk PW w K mg base (L2.CX PW w) 5 (ME_Piece K "checked_ties") (fdOf K (ME_Piece K "checked_ties")) ["self", "ties"] (spTies K) := by
  refine T.F_Piece_checked_ties.okX sc_Piece_checked_ties (fun vs H Q E h => ?_) (fun cdv A outer s H vs Q E hr h => ?_)
  · obtain ⟨p, v, m, z, rfl, _hp, _h⟩ := h
    rfl
  · obtain ⟨p, v, m, z, rfl, hp, h⟩ := h
    have hu := hu_of hr
    have hrE : Room 3 _ := hr.mono (by decide)
    refine ⟨_, (pss_cons (ps_if (PW.pt (pw_or (pt_not (pt_val (pe_call (ok_is_list T) (hr.mono (by decide)) rfl T.g_is_list T.F_is_list.kp T.b_is_list .nil pass0 (pa_cons (pv 1) pa_nil)))) (pw_or1 (pt_not (pt_val (pe_callB (cr_all rfl) (by rfl) T.z_all (by decide +kernel) (pa_cons (pe_lc (own := [("tie", 6)]) (g := gName 6) (by rfl) sc_Piece_checked_ties.nd (pi_or (pi_list (pv 1)) (pi_tup (pv 1))) (blkOk_by (own := [("tie", 6)]) (N := ["self", "ties", "found", "one", "other", "length", "tie", "ranks"]) (sc := (defScope s_Piece_checked_ties)) (by decide +kernel)) (fun _ _ _ _ _ => (pg_name (i := 6) sc_Piece_checked_ties.nd rfl (Or.inl rfl))) (fun _ _ _ _ _ => pts_nil) (fun _ _ _ _ _ => (pe_meth (pv 0) T.cl_Piece T.m_Piece_is_tie (ok_Piece_is_tie T) (hr.mono (by decide)) T.b_Piece_is_tie .nil pass0 (pa_cons (pv 6) pa_nil)))) pa_nil))))))) (pss_one (ps_raise rfl (takes_of rfl rfl rfl rfl) (pmk_err (raises_own T.e_BadPiece.z.hs T.e_BadPiece.t) (per_pos T.e_BadPiece.c T.e_BadPiece.i hrE (by rfl) T.e_BadPiece.g T.e_BadPiece.k (eb_BadPiece_1) (pa_cons pe_str pa_nil))))) pss_nil)
      (pss_cons (ps_set (i := 2) sc_Piece_checked_ties.nd rfl (Or.inr rfl) pe_dnewT)
      (pss_cons (ps_for (passes_of rfl) rfl (pi_or (pi_list (pv 1)) (pi_tup (pv 1))) (pg_seq (by rfl) (pgs_cons (pg_name (i := 3) sc_Piece_checked_ties.nd rfl (Or.inl rfl)) (pgs_cons (pg_name (i := 4) sc_Piece_checked_ties.nd rfl (Or.inl rfl)) (pgs_cons (pg_name (i := 5) sc_Piece_checked_ties.nd rfl (Or.inl rfl)) pgs_nil)))) (pss_cons (ps_if (pt_cmpR op_gt (pe_call (ok_place_rank T) (hr.mono (by decide)) rfl T.g_place_rank T.F_place_rank.kp T.b_place_rank .nil pass0 (pa_cons (pv 3) pa_nil)) (pe_call (ok_place_rank T) (hr.mono (by decide)) rfl T.g_place_rank T.F_place_rank.kp T.b_place_rank .nil pass0 (pa_cons (pv 4) pa_nil)) (nomark _)) (pss_one (ps_par (i := 3) (j := 4) (by rfl) sc_Piece_checked_ties.nd rfl rfl (by decide) rfl rfl (pa_cons (pv 4) (pa_cons (pv 3) pa_nil)) (by rfl))) pss_nil)
      (pss_cons (ps_if (pt_cmp (pc_din hu (pe_tup (pa_cons (pe_call (ok_place_rank T) (hr.mono (by decide)) rfl T.g_place_rank T.F_place_rank.kp T.b_place_rank .nil pass0 (pa_cons (pv 3) pa_nil)) (pa_cons (pe_call (ok_place_rank T) (hr.mono (by decide)) rfl T.g_place_rank T.F_place_rank.kp T.b_place_rank .nil pass0 (pa_cons (pv 4) pa_nil)) pa_nil))) (pv 2))) (pss_one (ps_raise rfl (takes_of rfl rfl rfl rfl) (pmk_err (raises_own T.e_BadPiece.z.hs T.e_BadPiece.t) (per_pos T.e_BadPiece.c T.e_BadPiece.i hrE (by rfl) T.e_BadPiece.g T.e_BadPiece.k (eb_BadPiece_1) (pa_cons pe_str pa_nil))))) pss_nil)
      (pss_one (ps_dput hu (pv 2) (pe_tup (pa_cons (pe_call (ok_place_rank T) (hr.mono (by decide)) rfl T.g_place_rank T.F_place_rank.kp T.b_place_rank .nil pass0 (pa_cons (pv 3) pa_nil)) (pa_cons (pe_call (ok_place_rank T) (hr.mono (by decide)) rfl T.g_place_rank T.F_place_rank.kp T.b_place_rank .nil pass0 (pa_cons (pv 4) pa_nil)) pa_nil))) (pe_tup (pa_cons (pv 3) (pa_cons (pv 4) (pa_cons (pv 5) pa_nil)))) rfl)))))
      (pss_one (ps_ret (pe_callTy call_tuple_of (by rfl) T.z_tuple (by decide +kernel) (pa_cons (pe_lc (own := [("ranks", 7)]) (g := gName 7) (by rfl) sc_Piece_checked_ties.nd (pi_list (pe_callB (call_sortedDT rfl) (by rfl) T.z_sorted (by decide +kernel) (pa_cons (pv 2) pa_nil))) (blkOk_by (own := [("ranks", 7)]) (N := ["self", "ties", "found", "one", "other", "length", "tie", "ranks"]) (sc := (defScope s_Piece_checked_ties)) (by decide +kernel)) (fun _ _ _ _ _ => (pg_name (i := 7) sc_Piece_checked_ties.nd rfl (Or.inl rfl))) (fun _ _ _ _ _ => pts_nil) (fun _ _ _ _ _ => (pe_dget hu (pv 2) (pv 7) (fun _ _ => rfl)))) pa_nil))))))), ?_⟩
    rcases h with ⟨⟨n, ty, h1⟩, k⟩ | ⟨a, xs, bs, rfl, hS, hl, hb, h⟩
    · exact ⟨_, rfl, v, n, false, rfl, ty, h1, fun H1 s1 => ⟨_, rfl, ifT rfl (ifT rfl ⟨rfl, fun dd hdd => k dd _ (s1.trans (same_upd hdd)) upd_same⟩)⟩⟩
    · obtain ⟨n, ty, hn⟩ := hS.ty
      have hbl : xs.length = bs.length := Paired.length hb
      refine ⟨_, rfl, .ref a, n, true, rfl, ty, hn, fun H1 s1 => ⟨_, rfl, ifF rfl ?_⟩⟩
      refine or_var (a := a) rfl (Same.sq s1 hS) fun J gJ => ?_
      refine fun D hD => ?_
      refine lc_any (xs := xs) (fun i H2 => Same H1 H2 ∧ H2 D = some (.lst ((bs.take i).map V.bl))) ⟨same_upd hD, by rw [upd_same]; rfl⟩ (fun i H2 hi ⟨s2, _⟩ => gJ i H2 hi s2) ?_ ?_
      · rintro i x H2 hx ⟨s2, hD2⟩
        obtain ⟨b, hbi, hbv⟩ := pgetL hb hx
        have hil : i < xs.length := (List.getElem?_eq_some_iff.mp hx).1
        have hp2 := hp.same (s1.trans s2)
        obtain ⟨dx, fs, g1, _, _, _, _, g6⟩ := id hp2
        refine ⟨rfl, _, rfl, p, dx, fs, rfl, g1, g6 _ (by decide +kernel), _, rfl, p, x, m, z, b, rfl, hp2, hbv.same (s1.trans s2), fun H3 s3 => ⟨_, s3 _ _ hD2, small1000 (by rw [List.length_map, List.length_take]; omega), same_new hD (s2.trans s3), ?_⟩⟩
        rw [upd_same, take_at1 hbi, List.map_append]
        rfl
      · rintro H2 ⟨s2, hD2⟩
        rw [hbl, List.take_length] at hD2
        refine ⟨D, _, rfl, SqL.of hD2, _, rfl, ?_⟩
        have sB := s1.trans s2
        rcases h with ⟨hf, k⟩ | ⟨hall, ts, hts, hpl, h⟩
        · rw [hf]
          exact ifT rfl ⟨rfl, fun dd hdd => k dd _ (sB.trans (same_upd hdd)) upd_same⟩
        · rw [hall]
          refine ifF rfl fun F hF => ?_
          have uF := same_upd (o := .dT []) hF
          have hxt : xs.length = ts.length := Paired.length hts
          refine or_var2 (a := a) rfl (Same.sq sB hS) uF fun J gJ => ?_
          refine for_any (xs := xs) (fun i σ H3 => Same H2 H3 ∧ ∃ (es : List (List Key × V)) (o3 o4 o5 o6 o7 : Option V), σ = [some (.ref p), some (.ref a), some (.ref F), o3, o4, o5, o6, o7] ∧ H3 F = some (.dT es) ∧ Paired (EnT H3) es (ts.take i) ∧ ((ts.take i).map kt).Nodup)
            ⟨uF, [], _, _, _, _, _, rfl, upd_same, .nil, List.Pairwise.nil⟩ (fun i σ H3 hi ⟨s3, _⟩ => gJ i H3 hi s3) ?_ ?_
          · rintro i x σ H3 hx ⟨s3, es, o3, o4, o5, o6, o7, rfl, hF3, hes, hnd⟩
            obtain ⟨t, hti, aa, rfl, g1⟩ := pgetL hts hx
            have sC := sB.trans s3
            have hil : i < xs.length := (List.getElem?_eq_some_iff.mp hx).1
            obtain ⟨p1, p2⟩ := hpl t (List.mem_of_getElem? hti)
            have q1 := hasP_rank p1
            have q2 := hasP_rank p2
            refine ⟨aa, _, rfl, Same.sq sC g1, rfl, _, _, rfl, _, _, rfl, _, _, rfl, rfl, ?_⟩
            refine ⟨_, rfl, t.1, _, rfl, q1, _, rfl, t.2.1, _, rfl, q2, _, _, rfl, rfl, _, rfl, ?_⟩
            by_cases c : rankV t.2.1 < rankV t.1
            · refine ifT (decide_eq_true c) ⟨_, rfl, _, rfl, _, _, rfl, ?_⟩
              have en : nrm t = (t.2.1, t.1, t.2.2) := by unfold nrm; rw [if_pos c]
              have ek : kt t = (rankV (t.2.1), rankV (t.1)) := by unfold kt; rw [en]
              refine ⟨_, rfl, t.2.1, _, rfl, q2, _, rfl, t.1, _, rfl, q1, Nat.le_of_ble_eq_true rfl, fun tk htk => ⟨_, rfl, F, _, rfl, DGet.t (k := keyL (rankV (t.2.1), rankV (t.1))) (same_upd htk _ _ hF3) upd_same, _, rfl, ?_⟩⟩
              have utk := same_upd (o := .tup [.int (rankV (t.2.1)), .int (rankV (t.1))]) htk
              rw [ent_val _ hes, ← ek]
              by_cases dup : kt t ∈ (ts.take i).map kt
              · have nnd := dup_take hti dup
                rcases h with ⟨_, k⟩ | ⟨nd2, _⟩
                · refine ifT (decide_eq_true dup) ⟨rfl, fun dd hdd => k dd _ ((sC.trans utk).trans (same_upd hdd)) upd_same⟩
                · exact absurd nd2 nnd
              · refine ifF (decide_eq_false dup) ?_
                refine ⟨_, rfl, _, rfl, _, rfl, Nat.le_of_ble_eq_true rfl, fun r hr => ?_⟩
                have ur := same_upd (o := .tup [t.2.1, t.1, .int t.2.2]) hr
                refine ⟨_, rfl, _, rfl, t.2.1, _, rfl, q2, _, rfl, t.1, _, rfl, q1, Nat.le_of_ble_eq_true rfl, fun tj htj => ?_⟩
                have uj := same_upd (o := .tup [.int (rankV (t.2.1)), .int (rankV (t.1))]) htj
                have sD := (utk.trans ur).trans uj
                have hF4 := sD _ _ hF3
                have hel : es.length = i := by rw [Paired.length hes, List.length_take]; omega
                refine ⟨F, _, rfl, DPut.t (k := keyL (rankV (t.2.1), rankV (t.1))) hF4 upd_same (by rw [sizeLine_eq]; omega), ?_⟩
                have hv : valV es (keyL (rankV (t.2.1), rankV (t.1))) = none := by
                  have e1 := ent_val (kt t) hes
                  rw [decide_eq_false dup, ek] at e1
                  exact Option.isSome_eq_false_iff.mp e1 |> Option.isNone_iff_eq_none.mp
                rw [putK_new _ hv]
                refine ⟨same_new hF (s3.trans sD), _, _, _, _, _, _, rfl, upd_same, ?_, take_nodup hti hnd dup⟩
                rw [take_at1 hti]
                refine Paired.append (Paired.mapP hes fun e' t' h' => EnT.updF hF4 (h'.same sD)) (EnT.updF hF4 ⟨by rw [ek], r, rfl, ?_⟩)
                rw [en]
                exact uj _ _ upd_same
            · refine ifF (decide_eq_false c) ?_
              have en : nrm t = (t.1, t.2.1, t.2.2) := by unfold nrm; rw [if_neg c]
              have ek : kt t = (rankV (t.1), rankV (t.2.1)) := by unfold kt; rw [en]
              refine ⟨_, rfl, t.1, _, rfl, q1, _, rfl, t.2.1, _, rfl, q2, Nat.le_of_ble_eq_true rfl, fun tk htk => ⟨_, rfl, F, _, rfl, DGet.t (k := keyL (rankV (t.1), rankV (t.2.1))) (same_upd htk _ _ hF3) upd_same, _, rfl, ?_⟩⟩
              have utk := same_upd (o := .tup [.int (rankV (t.1)), .int (rankV (t.2.1))]) htk
              rw [ent_val _ hes, ← ek]
              by_cases dup : kt t ∈ (ts.take i).map kt
              · have nnd := dup_take hti dup
                rcases h with ⟨_, k⟩ | ⟨nd2, _⟩
                · refine ifT (decide_eq_true dup) ⟨rfl, fun dd hdd => k dd _ ((sC.trans utk).trans (same_upd hdd)) upd_same⟩
                · exact absurd nd2 nnd
              · refine ifF (decide_eq_false dup) ?_
                refine ⟨_, rfl, _, rfl, _, rfl, Nat.le_of_ble_eq_true rfl, fun r hr => ?_⟩
                have ur := same_upd (o := .tup [t.1, t.2.1, .int t.2.2]) hr
                refine ⟨_, rfl, _, rfl, t.1, _, rfl, q1, _, rfl, t.2.1, _, rfl, q2, Nat.le_of_ble_eq_true rfl, fun tj htj => ?_⟩
                have uj := same_upd (o := .tup [.int (rankV (t.1)), .int (rankV (t.2.1))]) htj
                have sD := (utk.trans ur).trans uj
                have hF4 := sD _ _ hF3
                have hel : es.length = i := by rw [Paired.length hes, List.length_take]; omega
                refine ⟨F, _, rfl, DPut.t (k := keyL (rankV (t.1), rankV (t.2.1))) hF4 upd_same (by rw [sizeLine_eq]; omega), ?_⟩
                have hv : valV es (keyL (rankV (t.1), rankV (t.2.1))) = none := by
                  have e1 := ent_val (kt t) hes
                  rw [decide_eq_false dup, ek] at e1
                  exact Option.isSome_eq_false_iff.mp e1 |> Option.isNone_iff_eq_none.mp
                rw [putK_new _ hv]
                refine ⟨same_new hF (s3.trans sD), _, _, _, _, _, _, rfl, upd_same, ?_, take_nodup hti hnd dup⟩
                rw [take_at1 hti]
                refine Paired.append (Paired.mapP hes fun e' t' h' => EnT.updF hF4 (h'.same sD)) (EnT.updF hF4 ⟨by rw [ek], r, rfl, ?_⟩)
                rw [en]
                exact uj _ _ upd_same
          · rintro σ H3 ⟨s3, es, o3, o4, o5, o6, o7, rfl, hF3, hes, hnd⟩
            rw [hxt, List.take_length] at hes hnd
            rcases h with ⟨nnd, _⟩ | ⟨_, k⟩
            · exact absurd hnd nnd
            refine ⟨_, rfl, F, es, ts.map kt, rfl, hF3, ent_keys hes, fun tas ys P hty hperm hsort hP => ?_⟩
            obtain ⟨zs, hzp, hzm⟩ := perm_map_inv hperm ts rfl
            subst hzm
            have uP := same_upd (o := .lst (tas.map V.ref)) hP
            have htl : tas.length = zs.length := by rw [Paired.length hty, List.length_map]
            have hzl : zs.length = xs.length := by rw [hzp.length_eq, hxt]
            refine ⟨P, rfl, ⟨_, SqL.of upd_same⟩, fun D2 hD2 => ?_⟩
            have hPD := upd_same (H := H3) (a := P) (o := .lst (tas.map V.ref))
            generalize upd H3 P (.lst (tas.map V.ref)) = H4 at uP hPD hD2 ⊢
            have hF4 := uP _ _ hF3
            have hes4 : Paired (EnT H4) es ts := Paired.mapP hes fun _ _ h' => h'.same uP
            refine lc_any (xs := tas.map V.ref) (fun i H5 => Same H4 H5 ∧ ∃ rs : List Addr, H5 D2 = some (.lst (rs.map V.ref)) ∧ rs.length = i ∧ Paired (fun r t => TieT H4 r (nrm t)) rs (zs.take i)) ⟨same_upd hD2, [], by rw [upd_same]; rfl, rfl, .nil⟩ (fun i H5 hi ⟨s5, _⟩ => gat_list hi (Same.seq s5 (SqL.of hPD))) ?_ ?_
            · rintro i x H5 hx ⟨s5, rs, hD5, hrl, hrs⟩
              have hil : i < zs.length := by have := (List.getElem?_eq_some_iff.mp hx).1; rw [List.length_map] at this; omega
              rw [List.getElem?_map] at hx
              obtain ⟨ta, hta, rfl⟩ := Option.map_eq_some_iff.mp hx
              obtain ⟨y, hy, hty1⟩ := pgetL hty hta
              rw [List.getElem?_map] at hy
              obtain ⟨t, ht, rfl⟩ := Option.map_eq_some_iff.mp hy
              obtain ⟨r, hv, hr⟩ := ent_get hes4 hnd (hzp.mem_iff.mp (List.mem_of_getElem? ht))
              have g := DGet.t (k := keyL (kt t)) (s5 _ _ hF4) (s5 _ _ (uP _ _ hty1))
              rw [hv] at g
              refine ⟨rfl, _, rfl, _, rfl, F, _, rfl, g, _, hD5, (by rw [List.length_map, sizeLine_eq]; omega), same_new hD2 s5, rs ++ [r], (by rw [upd_same, List.map_append]; rfl), (by rw [List.length_append, hrl]; rfl), ?_⟩
              rw [take_at1 ht]
              exact Paired.append hrs hr
            · rintro H5 ⟨s5, rs, hD5, hrl, hrs⟩
              rw [List.length_map, htl, List.take_length] at hrs
              refine ⟨D2, _, rfl, .inl ⟨SqL.of hD5, fun tt htt => ?_⟩⟩
              have sE := sB.trans (s3.trans (uP.trans s5))
              refine k _ tt rs (zs.map nrm) (sE.trans (same_upd htt)) (fresh_back sE htt) upd_same ?_ (hzp.map _) ?_
              · exact paired_mapR (Paired.mapP hrs fun r t h' => (s5.trans (same_upd htt)) _ _ h')
              · rw [List.pairwise_map]
                rw [List.pairwise_map] at hsort
                exact hsort.imp fun h_ => by rw [kt_nrm, kt_nrm]; exact h_
end
end R4
set_option Elab.async false
set_option linter.all false
set_option maxRecDepth 100000
set_option maxHeartbeats 4000000
set_option pp.maxSteps 700
namespace R4
open PySem L2 PySem.GW LamX SM
section
variable {w : World} {K : PySem.W.Frag} {mg : Str → Option Value} {base : Heap}
/-! ### where the draws come from -/
def penD (c : Addr) (z r : Int) : List (Key × V) := [(Sum.inr "cells", .ref c), (Sum.inr "spot", .int z), (Sum.inr "rest", .int r)]
/-- the pen, at most b cells begun -/
def PenOk (H : Hp) (p c : Addr) (b : Nat) : Prop := ∃ (ns : List Int) (z r : Int), H p = some (.dK (penD c z r)) ∧ H c = some (.lst (ns.map V.int)) ∧ ns.length ≤ 63 ∧ 0 ≤ z ∧ z ≤ b ∧ 0 ≤ r
theorem PenOk.mono {H : Hp} {p c : Addr} {b b' : Nat} (h : PenOk H p c b) (e : b ≤ b') : PenOk H p c b' := by
  obtain ⟨ns, z, r, h1, h2, h3, h4, h5, h6⟩ := h
  exact ⟨ns, z, r, h1, h2, h3, h4, by omega, h6⟩
theorem PenOk.same {H H' : Hp} {p c : Addr} {b : Nat} (e : Same H H') (h : PenOk H p c b) : PenOk H' p c b := by
  obtain ⟨ns, z, r, h1, h2, h3⟩ := h
  exact ⟨ns, z, r, e _ _ h1, e _ _ h2, h3⟩
theorem PenOk.updL {H : Hp} {p c D : Addr} {b : Nat} {o : HO} (h : PenOk H p c b) (hp : D ≠ p) (hc : D ≠ c) : PenOk (upd H D o) p c b := by
  obtain ⟨ns, z, r, h1, h2, h3⟩ := h
  exact ⟨ns, z, r, by rw [upd_ne hp.symm]; exact h1, by rw [upd_ne hc.symm]; exact h2, h3⟩
theorem PenOk.ne {H : Hp} {p c D : Addr} {b : Nat} (h : PenOk H p c b) (hD : H D = none) : D ≠ p ∧ D ≠ c := by
  obtain ⟨ns, z, r, h1, h2, h3⟩ := h
  exact ⟨fun e => (by rw [e, h1] at hD; cases hD), fun e => (by rw [e, h2] at hD; cases hD)⟩
theorem PenOk.dict {H : Hp} {p c : Addr} {b : Nat} (h : PenOk H p c b) : ∃ k, H p = some (.dK k) := by
  obtain ⟨ns, z, r, h1, _⟩ := h
  exact ⟨_, h1⟩
theorem pen_putA (c : Addr) (z r x : Int) : putK (penD c z r) (Sum.inr "spot") (.int x) = penD c x r := by rfl
theorem pen_putR (c : Addr) (z r x : Int) : putK (penD c z r) (Sum.inr "rest") (.int x) = penD c z x := by rfl
def spPen (K : PySem.W.Frag) : Sp := fun vs H Q _ => ∃ (a : Addr) (ns : List Int), vs = [.ref a] ∧ SqL K H a (ns.map V.int) ∧ ns.length ≤ 63 ∧ ∀ p c H', Same H H' → H p = none → H c = none → PenOk H' p c 0 → Q (.ref p) H'
def spDraw : Sp := fun vs H Q _ => ∃ (p c : Addr) (b : Nat) (m : Int), vs = [.ref p, .int m] ∧ PenOk H p c b ∧ b ≤ 1000000000 ∧ Lim m ∧ ∀ (x : Nat) H', (x : Int) < m → SameBut p H H' → PenOk H' p c (b + 1) → Q (.int (x : Int)) H'
theorem modI {i m : Int} (h : 0 < m) : ∃ x : Nat, i % m = (x : Int) ∧ (x : Int) < m := by
  have h0 := Int.emod_nonneg i (show m ≠ 0 by omega)
  have h1 := Int.emod_lt_of_pos i h
  obtain ⟨x, hx⟩ := Int.eq_ofNat_of_zero_le h0
  exact ⟨x, hx, by omega⟩
theorem ok__law_pen (T : Top K mg) : FnOk PW w K mg base CX0 1 (fa K "_law_pen") (fdOf K (fa K "_law_pen")) ["_law_script"] (spPen K) := by
  refine T.F__law_pen.ok sc__law_pen (fun vs H Q E h => ?_) (fun cdv A outer s H vs Q E hr h => ?_)
  · obtain ⟨a, ns, rfl, _hS, _hlen, _k⟩ := h
    rfl
  · obtain ⟨a, ns, rfl, hS, hlen, k⟩ := h
    have hu := hu_of hr
    refine ⟨_, (pss_one (ps_ret (pe_disp (pps_cons pe_str (pe_callTy call_list_of (by rfl) T.z_list (by decide +kernel) (pa_cons (pe_slice sl_list (pv 0) po_none (po_some pe_int)) pa_nil)) (pps_cons pe_str pe_int (pps_cons pe_str pe_int pps_nil))) (by rfl) (by rfl) (fun z => by cases z) (by decide)))), ?_⟩
    intro p hp
    have s1 := same_upd (o := .dK []) hp
    refine ⟨_, rfl, _, rfl, a, _, rfl, s1.seq hS, fun l hl => ?_⟩
    have s2 := same_upd (o := .lst (cutV (ns.map V.int) none (some 63))) hl
    refine ⟨l, _, rfl, .inl (SqL.of upd_same), fun c hc => ?_⟩
    have s3 := s1.trans (s2.trans (same_upd (o := .lst (cutV (ns.map V.int) none (some 63))) hc))
    have hp3 := (s2.trans (same_upd (o := .lst (cutV (ns.map V.int) none (some 63))) hc)) p _ upd_same
    have hpc : c ≠ p := fun e => by rw [e, s2 p _ upd_same] at hc; cases hc
    refine ⟨hp3, penD c 0 0, rfl, (by show 3 ≤ 15; decide), ?_⟩
    refine k p c _ (same_at hp s3) hp (fresh_back (s1.trans s2) hc) ⟨ns, 0, 0, (by rw [upd_same]; rfl), (by rw [upd_ne hpc, upd_same, cut63 ns hlen]), hlen, by omega, by omega, by omega⟩
theorem ok__law_draw (T : Top K mg) : FnOk PW w K mg base CX0 1 (fa K "_law_draw") (fdOf K (fa K "_law_draw")) ["_law_pen_here", "_law_many"] spDraw := by
  refine T.F__law_draw.ok sc__law_draw (fun vs H Q E h => ?_) (fun cdv A outer s H vs Q E hr h => ?_)
  · obtain ⟨p, c, b, m, rfl, _hT, _hb, _hm, _k⟩ := h
    rfl
  · obtain ⟨p, c, b, m, rfl, hT, hb, hm, k⟩ := h
    have hu := hu_of hr
    refine ⟨_, (pss_cons (ps_if (pt_cmpR op_ge (pe_dget hu (pv 0) pe_str (fun _ _ => rfl)) (pv 1) (nomark _)) (pss_cons (ps_set (i := 2) sc__law_draw.nd rfl (Or.inl rfl) (pe_op op_mod (pe_callTy call_int1 (by rfl) T.z_int (by decide +kernel) (pa_cons (pe_dget hu (pv 0) pe_str (fun _ _ => rfl)) pa_nil)) (pv 1)))
      (pss_cons (ps_dput hu (pv 0) pe_str (pe_op op_fdivW (pe_dget hu (pv 0) pe_str (fun _ _ => rfl)) (pv 1)) rfl)
      (pss_one (ps_ret (pv 2))))) pss_nil)
      (pss_cons (ps_set (i := 3) sc__law_draw.nd rfl (Or.inl rfl) (pe_dget hu (pv 0) pe_str (fun _ _ => rfl)))
      (pss_cons (ps_dput hu (pv 0) pe_str (pe_op op_add (pv 3) pe_int) rfl)
      (pss_cons (ps_set (i := 4) sc__law_draw.nd rfl (Or.inl rfl) (pe_op op_add (pe_op op_mul pe_int (pv 3)) pe_int))
      (pss_cons (ps_if (pt_cmpR (op_neNil hr.units0) (pe_dget hu (pv 0) pe_str (fun _ _ => rfl)) (pe_lst pa_nil) (nomark _)) (pss_one (ps_set (i := 4) sc__law_draw.nd rfl (Or.inl rfl) (pe_ix ix_list (pe_dget hu (pv 0) pe_str (fun _ _ => rfl)) (pe_op op_mod (pe_callTy call_int1 (by rfl) T.z_int (by decide +kernel) (pa_cons (pv 3) pa_nil)) (pe_callB call_len_seq (by rfl) T.z_len (by decide +kernel) (pa_cons (pe_dget hu (pv 0) pe_str (fun _ _ => rfl)) pa_nil))) (fun _ _ => rfl)))) pss_nil)
      (pss_cons (ps_if (PW.pt (pw_and (pt_cmpR op_lt (pv 3) (pe_callB call_len_seq (by rfl) T.z_len (by decide +kernel) (pa_cons (pe_dget hu (pv 0) pe_str (fun _ _ => rfl)) pa_nil)) (nomark _)) (pw_and1 (pt_cmpR op_ge (pv 4) (pe_op op_pow pe_int pe_int) (nomark _))))) (pss_cons (ps_dput hu (pv 0) pe_str (pe_op op_fdivW (pe_op op_sub (pv 4) (pe_op op_pow pe_int pe_int)) (pv 1)) rfl)
      (pss_one (ps_ret (pe_op op_mod (pe_callTy call_int1 (by rfl) T.z_int (by decide +kernel) (pa_cons (pe_op op_sub (pv 4) (pe_op op_pow pe_int pe_int)) pa_nil)) (pv 1))))) pss_nil)
      (pss_cons (ps_set (i := 5) sc__law_draw.nd rfl (Or.inl rfl) (pe_op op_mul (pe_op op_mod (pe_callTy call_int1 (by rfl) T.z_int (by decide +kernel) (pa_cons (pv 4) pa_nil)) pe_int) pe_int))
      (pss_cons (ps_set (i := 5) sc__law_draw.nd rfl (Or.inl rfl) (pe_op op_mod (pe_callTy call_int1 (by rfl) T.z_int (by decide +kernel) (pa_cons (pe_op op_add (pe_op op_add (pe_op op_add (pv 5) (pe_op op_mul (pe_op op_mul pe_int (pv 3)) (pv 3))) (pe_op op_mul pe_int (pv 3))) pe_int) pa_nil)) pe_int))
      (pss_cons (ps_set (i := 5) sc__law_draw.nd rfl (Or.inl rfl) (pe_op op_mod (pe_callTy call_int1 (by rfl) T.z_int (by decide +kernel) (pa_cons (pe_op op_mul (pv 5) (pe_op op_add (pv 5) pe_int)) pa_nil)) pe_int))
      (pss_one (ps_ret (pe_op op_mod (pe_callTy call_int1 (by rfl) T.z_int (by decide +kernel) (pa_cons (pe_op op_fdiv (pe_op op_mod (pe_callTy call_int1 (by rfl) T.z_int (by decide +kernel) (pa_cons (pe_op op_add (pe_op op_mul (pv 5) (pv 5)) (pe_op op_mul pe_int (pv 5))) pa_nil)) pe_int) pe_int) pa_nil)) (pv 1))))))))))))), ?_⟩
    obtain ⟨ns, z, r, h1, h2, h4, h5, h6, h7⟩ := hT
    obtain ⟨zn, rfl⟩ := Int.eq_ofNat_of_zero_le h5
    have hm0 : 0 < m := hm.1
    have gR : ∀ {H1 : Hp} {z1 r1 : Int}, H1 p = some (.dK (penD c z1 r1)) → DGet H1 p (.str "rest") (some (.int r1)) := fun e => DGet.k (k := Sum.inr "rest") e
    have gA : ∀ {H1 : Hp} {z1 r1 : Int}, H1 p = some (.dK (penD c z1 r1)) → DGet H1 p (.str "spot") (some (.int z1)) := fun e => DGet.k (k := Sum.inr "spot") e
    have gC : ∀ {H1 : Hp} {z1 r1 : Int}, H1 p = some (.dK (penD c z1 r1)) → DGet H1 p (.str "cells") (some (.ref c)) := fun e => DGet.k (k := Sum.inr "cells") e
    have npc : c ≠ p := by rintro rfl; rw [h1] at h2; cases h2
    refine ⟨_, rfl, p, _, rfl, gR h1, _, rfl, _, _, rfl, rfl, _, rfl, ?_⟩
    by_cases c0 : m ≤ r
    · refine ifT (decide_eq_true c0) ?_
      obtain ⟨x, hx, hxm⟩ := modI (i := r) hm0
      refine ⟨_, rfl, p, _, rfl, gR h1, .inl ⟨_, rfl, _, rfl, iC (by show (0 : Int) < _; omega) (v := .int (x : Int)) (congrArg V.int hx) ?_⟩⟩
      refine ⟨_, rfl, p, _, rfl, gR h1, _, rfl, _, _, rfl, rfl, hm.div, _, rfl, p, _, rfl, DPut.k (k := Sum.inr "rest") h1 (small1000 (by show 3 ≤ 1000; decide)), ?_⟩
      rw [pen_putR]
      refine ⟨_, rfl, k x _ hxm (fun b2 o hne e => by rw [upd_ne hne]; exact e) ⟨ns, _, _, upd_same, (by rw [upd_ne npc]; exact h2), h4, h5, by omega, Int.ediv_nonneg h7 (by omega)⟩⟩
    · refine ifF (decide_eq_false c0) ?_
      refine ⟨_, rfl, p, _, rfl, gA h1, ?_⟩
      refine ⟨_, rfl, tcI (i0 (v := .int ((zn + 1 : Nat) : Int)) (congrArg V.int (by omega)) ⟨_, rfl, p, _, rfl, DPut.k (k := Sum.inr "spot") h1 (small1000 (by show 3 ≤ 1000; decide)), ?_⟩)⟩
      rw [pen_putA]
      have e1 : (upd H p (.dK (penD c ((zn + 1 : Nat) : Int) r))) p = some (.dK (penD c ((zn + 1 : Nat) : Int) r)) := upd_same
      have e2 : (upd H p (.dK (penD c ((zn + 1 : Nat) : Int) r))) c = some (.lst (ns.map V.int)) := by rw [upd_ne npc]; exact h2
      have sb1 : SameBut p H (upd H p (.dK (penD c ((zn + 1 : Nat) : Int) r))) := fun b2 o hne e => by rw [upd_ne hne]; exact e
      generalize upd H p (.dK (penD c ((zn + 1 : Nat) : Int) r)) = H1 at e1 e2 sb1 ⊢
      refine ⟨_, rfl, _, _, rfl, rfl, .inl ⟨by decide, by decide⟩, _, _, rfl, rfl, ?_⟩
      refine ⟨_, rfl, p, _, rfl, gC e1, Nat.le_of_ble_eq_true rfl, fun q hq => ⟨c, q, _, rfl, rfl, SqL.of ((same_upd hq) _ _ e2), SqL.of upd_same, _, rfl, ?_⟩⟩
      have s2 := same_upd (o := .lst []) hq
      have e3 := s2 _ _ e1
      have e4 := s2 _ _ e2
      have sb2 : SameBut p H (upd H1 q (.lst [])) := fun b2 o hne e => s2 _ _ (sb1 _ _ hne e)
      generalize upd H1 q (.lst []) = H2 at e3 e4 sb2 ⊢
      refine joinU (fun σ H3 => H3 = H2 ∧ ∃ cell : Int, σ = [some (.ref p), some (.int m), none, some (.int (zn : Int)), some (.int cell), none]) ?_ ?_ ?_
      · intro hb1 nx hnx
        have hne : 1 ≤ ns.length := by
          cases ns with
          | nil => cases hb1
          | cons y ns => simp
        have hlt : zn % ns.length < ns.length := Nat.mod_lt _ (by omega)
        refine ⟨_, rfl, p, _, rfl, gC e3, _, rfl, .inl ⟨_, rfl, _, rfl, p, _, rfl, gC e3, c, _, rfl, .inl (SqL.of e4), iC (by show (0 : Int) < _; rw [List.length_map]; omega) (v := .int ((zn % ns.length : Nat) : Int)) (by rw [List.length_map]; exact congrArg V.int (mod_nat _ _)) ⟨c, _, _, _, rfl, rfl, SqL.of e4, atI_nat (sqT_at hlt), ?_⟩⟩⟩
        exact hnx _ _ ⟨rfl, _, rfl⟩
      · intro _
        exact ⟨rfl, _, rfl⟩
      · rintro σ H3 ⟨rfl, cell, rfl⟩
        have fin : ∀ (x : Nat) (r1 : Int) (H5 : Hp), (x : Int) < m → 0 ≤ r1 → H5 p = some (.dK (penD c ((zn + 1 : Nat) : Int) r1)) → H5 c = some (.lst (ns.map V.int)) → SameBut p H H5 → Q (.int (x : Int)) H5 := fun x r1 H5 hx hr1 g1 g2 g3 => k x H5 hx g3 ⟨ns, _, r1, g1, g2, h4, by omega, by omega, hr1⟩
        refine ⟨_, rfl, _, rfl, p, _, rfl, gC e3, c, _, rfl, .inl (SqL.of e4), _, _, rfl, rfl, _, rfl, ?_⟩
        refine andW (P := fun H4 => H4 = H3) (R := fun H4 => H4 = H3 ∧ (10 : Int) ^ Int.toNat 18 ≤ cell) (fun _ => rfl) ?_ ?_ ?_
        · intro _ Q5 q5 q6
          refine ⟨_, rfl, _, _, rfl, rfl, ⟨by decide, by decide, by decide⟩, _, _, rfl, rfl, _, rfl, ?_⟩
          by_cases c6 : (10 : Int) ^ Int.toNat 18 ≤ cell
          · rw [decide_eq_true c6]
            exact q6 _ ⟨rfl, c6⟩
          · rw [decide_eq_false c6]
            exact q5 _ rfl
        · rintro H4 rfl
          have md : ∀ (i : Int) (M : Int), 0 < M → ∃ n : Int, i % M = n ∧ 0 ≤ n ∧ n < M := fun i M h => ⟨_, rfl, Int.emod_nonneg i (by omega), Int.emod_lt_of_pos i h⟩
          obtain ⟨n1, hn1⟩ : ∃ n1 : Int, cell % 2147483269 * 40177 = n1 := ⟨_, rfl⟩
          obtain ⟨n2, hn2, lo2, hi2⟩ := md (n1 + 52489 * (zn : Int) * (zn : Int) + 103 * (zn : Int) + 37) 2147483323 (by decide)
          obtain ⟨n3, hn3, lo3, hi3⟩ := md (n2 * (n2 + 70019)) 2147483353 (by decide)
          obtain ⟨x, hx, hxm⟩ := modI (i := (n3 * n3 + 19 * n3) % 2147483399 / 16) hm0
          refine ⟨_, rfl, .inl ⟨_, rfl, _, _, rfl, rfl, (show (0 : Int) < 2147483269 by decide), tcI (iC (.inr ⟨by decide, by decide⟩) (v := .int n1) (congrArg V.int hn1) ?_)⟩⟩
          refine ⟨_, rfl, _, rfl, _, _, rfl, rfl, .inl ⟨by decide, by decide⟩, _, rfl, _, _, rfl, rfl, .inr ⟨by omega, by omega⟩, i0 rfl ⟨_, rfl, _, _, rfl, rfl, .inl ⟨by decide, by decide⟩, i0 rfl (tcI (i0 rfl (.inl ⟨_, rfl, tcI (iC (by show (0 : Int) < _; decide) (v := .int n2) (congrArg V.int hn2) ?_)⟩)))⟩⟩
          refine ⟨_, rfl, _, rfl, tcI (i0 rfl (iC (.inl ⟨by omega, by omega⟩) rfl (.inl ⟨_, rfl, tcI (iC (by show (0 : Int) < _; decide) (v := .int n3) (congrArg V.int hn3) ?_)⟩)))⟩
          refine ⟨_, rfl, _, rfl, iC (.inl ⟨by omega, by omega⟩) rfl ⟨_, rfl, _, _, rfl, rfl, .inl ⟨by decide, by decide⟩, i0 rfl (.inl ⟨_, rfl, tcI (iC (by show (0 : Int) < _; decide) rfl (tcI (iC ⟨by decide, by decide⟩ rfl (.inl ⟨_, rfl, _, rfl, iC (by show (0 : Int) < _; omega) (v := .int (x : Int)) (congrArg V.int hx) ?_⟩))))⟩)⟩⟩
          exact fin x r _ hxm h7 e3 e4 sb2
        · rintro H4 ⟨rfl, c6⟩
          obtain ⟨g, hg⟩ : ∃ g : Int, cell - (10 : Int) ^ Int.toNat 18 = g := ⟨_, rfl⟩
          have hg0 : 0 ≤ g := by omega
          obtain ⟨x, hx, hxm⟩ := modI (i := g) hm0
          refine ⟨_, rfl, _, _, rfl, rfl, ⟨by decide, by decide, by decide⟩, i0 (v := .int g) (congrArg V.int hg) ⟨_, rfl, _, _, rfl, rfl, hm.div, _, rfl, p, _, rfl, DPut.k (k := Sum.inr "rest") e3 (small1000 (by show 3 ≤ 1000; decide)), ?_⟩⟩
          rw [pen_putR]
          refine ⟨_, rfl, _, _, rfl, rfl, ⟨by decide, by decide, by decide⟩, i0 (v := .int g) (congrArg V.int hg) (.inl ⟨_, rfl, _, rfl, iC (by show (0 : Int) < _; omega) (v := .int (x : Int)) (congrArg V.int hx) ?_⟩)⟩
          exact fin x _ _ hxm (Int.ediv_nonneg hg0 (by omega)) upd_same (by rw [upd_ne npc]; exact e4) (fun b2 o hne e => by rw [upd_ne hne]; exact sb2 _ _ hne e)
end
end R4
set_option Elab.async false
set_option linter.all false
set_option maxRecDepth 100000
set_option maxHeartbeats 4000000
set_option pp.maxSteps 700
namespace R4
open PySem L2 PySem.GW LamX SM
section
variable {w : World} {K : PySem.W.Frag} {mg : Str → Option Value} {base : Heap}
open PyProof.Rows (sortedS)
/-! ### what is kept when fields are set: all but instances -/
def Kn (H H' : Hp) : Prop := ∀ b o, H b = some o → (∀ C d f, o ≠ .ins C d f) → H' b = some o
theorem _root_.L2.Same.kn {H H' : Hp} (e : Same H H') : Kn H H' := fun b o h _ => e b o h
theorem Kn.trans {H H1 H2 : Hp} (a : Kn H H1) (b : Kn H1 H2) : Kn H H2 := fun x o h n => b x o (a x o h n) n
theorem Kn.upd {H : Hp} {x C d : Addr} {f : List (Str × V)} {o : HO} (h : H x = some (.ins C d f)) : Kn H (L2.upd H x o) := fun b u e n => by
  rw [upd_ne (fun z => by rw [z, h] at e; cases e; exact n _ _ _ rfl)]
  exact e
variable {H H' : Hp}
theorem Kn.sqL {a : Addr} {xs : List V} (e : Kn H H') (h : SqL K H a xs) : SqL K H' a xs := by
  rcases h with (h | ⟨o, h⟩) | h
  · exact .inl (.inl (e _ _ h fun _ _ _ z => nomatch z))
  · exact .inl (.inr ⟨o, e _ _ h fun _ _ _ z => nomatch z⟩)
  · exact .inr h
theorem Kn.sqT {a : Addr} {xs : List V} (e : Kn H H') (h : SqT K H a xs) : SqT K H' a xs := by
  rcases h with (h | ⟨o, h⟩) | h
  · exact .inl (.inl (e _ _ h fun _ _ _ z => nomatch z))
  · exact .inl (.inr ⟨o, e _ _ h fun _ _ _ z => nomatch z⟩)
  · exact .inr h
theorem Kn.sq {a : Addr} {xs : List V} (e : Kn H H') (h : Sq K H a xs) : Sq K H' a xs := h.imp e.sqL e.sqT
theorem Kn.ty {v : V} {n : String} (e : Kn H H') (h : TyX K H v (.type n)) : TyX K H' v (.type n) := by
  generalize ht : Value.type n = t at h
  cases h with
  | base b =>
    cases b with
    | non => exact .base .non
    | bl x => exact .base (.bl x)
    | int i => exact .base (.int i)
    | str x => exact .base (.str x)
    | flt x => exact .base (.flt x)
    | lst q => exact .base (.lst (e _ _ q fun _ _ _ z => nomatch z))
    | frz q => exact .base (.frz (e _ _ q fun _ _ _ z => nomatch z))
    | tup q => exact .base (.tup (e _ _ q fun _ _ _ z => nomatch z))
    | dK q => exact .base (.dK (e _ _ q fun _ _ _ z => nomatch z))
    | dT q => exact .base (.dT (e _ _ q fun _ _ _ z => nomatch z))
    | ins q cl ha hn htk hm => cases ht
  | byt b => exact .byt b
  | set q => exact .set (e _ _ q fun _ _ _ z => nomatch z)
  | kList q c => exact .kList q c
  | kTuple q c => exact .kTuple q c
  | kDict q c => exact .kDict q c
  | fTuple q => exact .fTuple (e _ _ q fun _ _ _ z => nomatch z)
  | fDict q => exact .fDict (e _ _ q fun _ _ _ z => nomatch z)
theorem NoStr.kn {v : V} (e : Kn H H') (h : NoStr K H v) : NoStr K H' v := by
  obtain ⟨n, h1, h2⟩ := h
  exact ⟨n, e.ty h1, h2⟩
theorem NoInt.kn {v : V} (e : Kn H H') (h : NoInt K H v) : NoInt K H' v := by
  obtain ⟨n, b1, b2, h1, h2⟩ := h
  exact ⟨n, b1, b2, e.ty h1, h2⟩
theorem NoSeq.kn {v : V} (e : Kn H H') (h : NoSeq K H v) : NoSeq K H' v := by
  obtain ⟨n, h1, h2⟩ := h
  exact ⟨n, e.ty h1, h2⟩
theorem PV.kn {v : V} (e : Kn H H') (h : PV K H v) : PV K H' v := by
  cases h with
  | int i => exact .int i
  | str z h => exact .str z h
  | odd h1 h2 h3 => exact .odd (h1.kn e) (h2.kn e) h3
theorem TieV.kn {m n : Nat} {v : V} {b : Bool} (e : Kn H H') (h : TieV K H m n v b) : TieV K H' m n v b := by
  cases h with
  | no h => exact .no (h.kn e)
  | len h h2 => exact .len (e.sq h) h2
  | tie h hx hy hl =>
    refine .tie (e.sq h) (hx.kn e) (hy.kn e) ?_
    cases hl with
    | int i => exact .int i
    | odd h h2 => exact .odd (h.kn e) h2
theorem TieAt.kn {v : V} {t : V × V × Int} (e : Kn H H') (h : TieAt K H v t) : TieAt K H' v t := by
  obtain ⟨a, rfl, h⟩ := h
  exact ⟨a, rfl, e.sq h⟩
theorem BudV.kn {m n : Nat} {v : V} {b : Bool} (e : Kn H H') (h : BudV K H m n v b) : BudV K H' m n v b := by
  cases h with
  | no h => exact .no (h.kn e)
  | len h h2 => exact .len (e.sq h) h2
  | noword h h2 => exact .noword (e.sq h) (h2.imp (fun h => h.kn e) id)
  | norow h hw h2 h3 => exact .norow (e.sq h) hw h2 (h3.kn e)
  | row h hw h2 h3 h4 h5 => exact .row (e.sq h) hw h2 (e.sq h3) (fun x hx => (h4 x hx).kn e) h5
theorem BudAt.kn {v : V} {r : Str × List V} (e : Kn H H') (h : BudAt K H v r) : BudAt K H' v r := by
  obtain ⟨a, q, rfl, h1, h2⟩ := h
  exact ⟨a, q, rfl, e.sq h1, e.sq h2⟩
theorem BudT.kn {t : Addr} {r : Str × List V} (e : Kn H H') (h : BudT K H t r) : BudT K H' t r := by
  obtain ⟨q, h1, h2⟩ := h
  exact ⟨q, e _ _ h1 (fun _ _ _ z => nomatch z), e.sqT h2⟩
/-- BadPiece with the field f, all but x being kept -/
def Rk (K : PySem.W.Frag) (x : Addr) (H : Hp) (E : XK) (f : Str) : Prop := ∀ d H', SameBut x H H' → H' d = some (.xd [("field", .str f)]) → E (.ref (He.ga K "BadPiece")) (some d) H'
theorem Rk.rz {x : Addr} {E : XK} {f : Str} (e : SameBut x H H') (h : Rk K x H E f) : Rz K H' E f := fun d H2 s hd => h d H2 (e.trans (Same.but x s)) hd
/-! ### the arguments of a piece -/
def MouthBad (K : PySem.W.Frag) (H : Hp) (v : V) : Prop := NoInt K H v ∨ ∃ i : Int, v = .int i ∧ ¬ (0 ≤ i ∧ i ≤ 3)
def SignsBad (K : PySem.W.Frag) (H : Hp) (v : V) : Prop := NoStr K H v ∨ ∃ z : Str, v = .str z ∧ z.length ≤ 1000 ∧ signsB z = false
def TiesOk (K : PySem.W.Frag) (H : Hp) (m n : Nat) (v : V) (ts : List (V × V × Int)) : Prop := ∃ a xs bs, v = .ref a ∧ Sq K H a xs ∧ xs.length ≤ 1000 ∧ Paired (TieV K H m n) xs bs ∧ bs.all id = true ∧ Paired (TieAt K H) xs ts ∧ (∀ t ∈ ts, hasP m n t.1 = true ∧ hasP m n t.2.1 = true) ∧ (ts.map kt).Nodup
def TiesBad (K : PySem.W.Frag) (H : Hp) (m n : Nat) (v : V) : Prop := NoSeq K H v ∨ ∃ a xs bs, v = .ref a ∧ Sq K H a xs ∧ xs.length ≤ 1000 ∧ Paired (TieV K H m n) xs bs ∧
  (bs.all id = false ∨ (bs.all id = true ∧ ∃ ts, Paired (TieAt K H) xs ts ∧ (∀ t ∈ ts, hasP m n t.1 = true ∧ hasP m n t.2.1 = true) ∧ ¬ (ts.map kt).Nodup))
def BudsOk (K : PySem.W.Frag) (H : Hp) (m n : Nat) (v : V) (rs : List (Str × List V)) : Prop := ∃ a xs bs, v = .ref a ∧ Sq K H a xs ∧ xs.length ≤ 4 ∧ Paired (BudV K H m n) xs bs ∧ bs.all id = true ∧ Paired (BudAt K H) xs rs
def BudsBad (K : PySem.W.Frag) (H : Hp) (m n : Nat) (v : V) : Prop := NoSeq K H v ∨ ∃ a xs bs, v = .ref a ∧ Sq K H a xs ∧ xs.length ≤ 1000 ∧ Paired (BudV K H m n) xs bs ∧ (4 < xs.length ∨ bs.all id = false)
theorem TiesOk.kn {m n : Nat} {v : V} {ts : List (V × V × Int)} (e : Kn H H') (h : TiesOk K H m n v ts) : TiesOk K H' m n v ts := by
  obtain ⟨a, xs, bs, h1, h2, h3, h4, h5, h6, h7⟩ := h
  exact ⟨a, xs, bs, h1, e.sq h2, h3, Paired.mapP h4 fun _ _ h => h.kn e, h5, Paired.mapP h6 fun _ _ h => h.kn e, h7⟩
theorem TiesBad.kn {m n : Nat} {v : V} (e : Kn H H') (h : TiesBad K H m n v) : TiesBad K H' m n v := by
  rcases h with h | ⟨a, xs, bs, h1, h2, h3, h4, h5⟩
  · exact .inl (h.kn e)
  · refine .inr ⟨a, xs, bs, h1, e.sq h2, h3, Paired.mapP h4 fun _ _ h => h.kn e, h5.imp id ?_⟩
    rintro ⟨g1, ts, g2, g3⟩
    exact ⟨g1, ts, Paired.mapP g2 fun _ _ h => h.kn e, g3⟩
theorem BudsOk.kn {m n : Nat} {v : V} {rs : List (Str × List V)} (e : Kn H H') (h : BudsOk K H m n v rs) : BudsOk K H' m n v rs := by
  obtain ⟨a, xs, bs, h1, h2, h3, h4, h5, h6⟩ := h
  exact ⟨a, xs, bs, h1, e.sq h2, h3, Paired.mapP h4 fun _ _ h => h.kn e, h5, Paired.mapP h6 fun _ _ h => h.kn e⟩
theorem BudsBad.kn {m n : Nat} {v : V} (e : Kn H H') (h : BudsBad K H m n v) : BudsBad K H' m n v := by
  rcases h with h | ⟨a, xs, bs, h1, h2, h3, h4, h5⟩
  · exact .inl (h.kn e)
  · exact .inr ⟨a, xs, bs, h1, e.sq h2, h3, Paired.mapP h4 fun _ _ h => h.kn e, h5⟩
def lexLt (t u : V × V × Int) : Prop := SrtO.lexB (kt u) (kt t) = false
/-- the piece p: its mouth, letters, ties and buds -/
def PieceAt (K : PySem.W.Frag) (H : Hp) (p : Addr) (m : Nat) (z : Str) (ys : List (V × V × Int)) (rs : List (Str × List V)) : Prop := ∃ dx t b tas bas, H p = some (.ins (CL_Piece K) dx [("mouth", .int (m : Int)), ("letters", .str z), ("ties", .ref t), ("buds", .ref b)]) ∧
  H t = some (.tup (tas.map V.ref)) ∧ Paired (TieT H) tas ys ∧ H b = some (.tup (bas.map V.ref)) ∧ Paired (BudT K H) bas rs
theorem PieceAt.same {p : Addr} {m : Nat} {z : Str} {ys : List (V × V × Int)} {rs : List (Str × List V)} (e : Same H H') (h : PieceAt K H p m z ys rs) : PieceAt K H' p m z ys rs := by
  obtain ⟨dx, t, b, tas, bas, h1, h2, h3, h4, h5⟩ := h
  exact ⟨dx, t, b, tas, bas, e _ _ h1, e _ _ h2, Paired.mapP h3 fun _ _ h => e _ _ h, e _ _ h4, Paired.mapP h5 fun _ _ h => h.same e⟩
theorem PieceAt.ty (T : Top K mg) {p : Addr} {m : Nat} {z : Str} {ys : List (V × V × Int)} {rs : List (Str × List V)} (h : PieceAt K H p m z ys rs) : TyX K H (.ref p) (.ref (CL_Piece K)) := by
  obtain ⟨dx, t, b, tas, bas, h1, _⟩ := h
  exact .base (.ins h1 T.cl_Piece T.ic_Piece T.ig_Piece T.it_Piece T.im_Piece)
def spInit (K : PySem.W.Frag) : Sp := fun vs H Q E => ∃ (x dx : Addr) (vm vz vt vb : V), vs = [.ref x, vm, vz, vt, vb] ∧ H x = some (.ins (CL_Piece K) dx []) ∧
  ((MouthBad K H vm ∧ Rk K x H E "mouth") ∨ ∃ m : Nat, vm = .int (m : Int) ∧ m ≤ 3 ∧
  ((SignsBad K H vz ∧ Rk K x H E "letters") ∨ ∃ z : Str, vz = .str z ∧ z.length ≤ 6 ∧ signsB z = true ∧
  ((TiesBad K H m z.length vt ∧ Rk K x H E "ties") ∨ ∃ ts, TiesOk K H m z.length vt ts ∧
  ((BudsBad K H m z.length vb ∧ Rk K x H E "buds") ∨ ∃ rs, BudsOk K H m z.length vb rs ∧
    ∀ H' ys, SameBut x H H' → ys.Perm (ts.map nrm) → ys.Pairwise lexLt → PieceAt K H' x m z ys rs → Q .non H'))))
theorem lk2 (a b : V) : ∀ f ∈ methsP, List.lookup f [(("mouth" : Str), a), ("letters", b)] = none := by
  intro f hf
  have h : ∀ f ∈ methsP, f ≠ "mouth" ∧ f ≠ "letters" ∧ f ≠ "ties" := by decide +kernel
  obtain ⟨h1, h2, h3⟩ := h f hf
  rw [List.lookup_cons, beq_false_of_ne h1, List.lookup_cons, beq_false_of_ne h2]
  rfl
theorem lk3 (a b c : V) : ∀ f ∈ methsP, List.lookup f [(("mouth" : Str), a), ("letters", b), ("ties", c)] = none := by
  intro f hf
  have h : ∀ f ∈ methsP, f ≠ "mouth" ∧ f ≠ "letters" ∧ f ≠ "ties" := by decide +kernel
  obtain ⟨h1, h2, h3⟩ := h f hf
  rw [List.lookup_cons, beq_false_of_ne h1, List.lookup_cons, beq_false_of_ne h2, List.lookup_cons, beq_false_of_ne h3]
  rfl
theorem signs_len6 {z : Str} (h : signsB z = true) : z.length ≤ 6 := by
  unfold signsB at h
  rw [Bool.and_eq_true] at h
  exact of_decide_eq_true h.1
theorem ok_Piece___init__ (T : Top K mg) : FnOk PW w K mg base (L2.CX PW w) 6 (ME_Piece K "__init__") (fdOf K (ME_Piece K "__init__")) ["self", "mouth", "letters", "ties", "buds"] (spInit K) := by
  refine T.D_Piece___init__.ok sc_Piece___init__ (fun vs H Q E h => ?_) (fun cdv A outer s H vs Q E hr h => ?_)
  · obtain ⟨x, dx, vm, vz, vt, vb, rfl, _hx, _h⟩ := h
    rfl
  · obtain ⟨x, dx, vm, vz, vt, vb, rfl, hx, h⟩ := h
    have hu := hu_of hr
    have hrE : Room 3 _ := hr.mono (by decide)
    obtain ⟨t_MOST_MOUTH, c_MOST_MOUTH⟩ := T.c_MOST_MOUTH
    refine ⟨_, (pss_cons (ps_if (PW.pt (pw_or (pt_not (pt_val (pe_call (ok_is_integer T) (hr.mono (by decide)) rfl T.g_is_integer T.F_is_integer.kp T.b_is_integer .nil pass0 (pa_cons (pv 1) pa_nil)))) (pw_or1 (pt_not (pt_chain op_le op_le pe_int (pv 1) (pe_glob (v := .int 3) rfl c_MOST_MOUTH ⟨_, rfl⟩)))))) (pss_one (ps_raise rfl (takes_of rfl rfl rfl rfl) (pmk_err (raises_own T.e_BadPiece.z.hs T.e_BadPiece.t) (per_pos T.e_BadPiece.c T.e_BadPiece.i hrE (by rfl) T.e_BadPiece.g T.e_BadPiece.k (eb_BadPiece_1) (pa_cons pe_str pa_nil))))) pss_nil)
      (pss_cons (ps_if (pt_not (pt_val (pe_call (ok_are_signs T) (hr.mono (by decide)) rfl T.g_are_signs T.F_are_signs.kp T.b_are_signs .nil pass0 (pa_cons (pv 2) pa_nil)))) (pss_one (ps_raise rfl (takes_of rfl rfl rfl rfl) (pmk_err (raises_own T.e_BadPiece.z.hs T.e_BadPiece.t) (per_pos T.e_BadPiece.c T.e_BadPiece.i hrE (by rfl) T.e_BadPiece.g T.e_BadPiece.k (eb_BadPiece_1) (pa_cons pe_str pa_nil))))) pss_nil)
      (pss_cons (ps_fld (pv 0) (pv 1) rfl)
      (pss_cons (ps_fld (pv 0) (pv 2) rfl)
      (pss_cons (ps_fld (pv 0) (pe_meth (pv 0) T.cl_Piece T.m_Piece_checked_ties (ok_Piece_checked_ties T) (hr.mono (by decide)) T.b_Piece_checked_ties .nil (passes_call (takes_of rfl rfl rfl rfl) (fun _ _ _ _ h => h)) (pa_cons (pv 3) pa_nil)) rfl)
      (pss_one (ps_fld (pv 0) (pe_meth (pv 0) T.cl_Piece T.m_Piece_checked_buds (ok_Piece_checked_buds T) (hr.mono (by decide)) T.b_Piece_checked_buds .nil (passes_call (takes_of rfl rfl rfl rfl) (fun _ _ _ _ h => h)) (pa_cons (pv 4) pa_nil)) rfl))))))), ?_⟩
    rcases h with ⟨hb, k⟩ | ⟨m, rfl, hm, h⟩
    · rcases hb with hn | ⟨i, rfl, hi⟩
      · refine ⟨_, rfl, vm, rfl, .inr ⟨hn, _, rfl, ifT rfl (ifT rfl ⟨rfl, fun dd hdd => k dd _ (Same.but x (same_upd hdd)) upd_same⟩)⟩⟩
      · refine ⟨_, rfl, .int i, rfl, .inl ⟨i, rfl, _, rfl, ifF rfl ⟨_, rfl, _, _, rfl, rfl, _, rfl, ?_⟩⟩⟩
        by_cases c1 : 0 ≤ i
        · refine ifT (decide_eq_true c1) (tcI ⟨_, _, rfl, rfl, _, rfl, ?_⟩)
          exact ifT (nn (by omega)) ⟨rfl, fun dd hdd => k dd _ (Same.but x (same_upd hdd)) upd_same⟩
        · exact ifF (decide_eq_false c1) ⟨false, rfl, ifT rfl ⟨rfl, fun dd hdd => k dd _ (Same.but x (same_upd hdd)) upd_same⟩⟩
    · refine ⟨_, rfl, .int (m : Int), rfl, .inl ⟨(m : Int), rfl, _, rfl, ifF rfl ⟨_, rfl, _, _, rfl, rfl, _, rfl, ?_⟩⟩⟩
      refine ifT (decide_eq_true (by omega)) (tcI ⟨_, _, rfl, rfl, _, rfl, ?_⟩)
      refine ifF (nd (show (m : Int) ≤ 3 by omega)) ?_
      rcases h with ⟨hb, k⟩ | ⟨z, rfl, hz, hzb, h⟩
      · rcases hb with hn | ⟨z, rfl, hz, hzb⟩
        · exact ⟨_, rfl, vz, rfl, .inl ⟨hn, _, rfl, ifT rfl ⟨rfl, fun dd hdd => k dd _ (Same.but x (same_upd hdd)) upd_same⟩⟩⟩
        · refine ⟨_, rfl, .str z, rfl, .inr ⟨z, rfl, hz, fun H1 s1 => ⟨_, rfl, ?_⟩⟩⟩
          rw [hzb]
          exact ifT rfl ⟨rfl, fun dd hdd => k dd _ (Same.but x (s1.trans (same_upd hdd))) upd_same⟩
      · refine ⟨_, rfl, .str z, rfl, .inr ⟨z, rfl, by omega, fun H1 s1 => ⟨_, rfl, ?_⟩⟩⟩
        rw [hzb]
        refine ifF rfl ?_
        have hx1 := s1 _ _ hx
        have mk : ∀ {H2 : Hp} {f : List (Str × V)}, H2 x = some (.ins (CL_Piece K) dx f) → ∀ o : HO, Kn H2 (upd H2 x o) := fun h o => Kn.upd h
        refine ⟨_, rfl, _, rfl, x, _, dx, _, rfl, hx1, T.cl_Piece, T.n_Piece_mouth, (by decide), ?_⟩
        have k1 : Kn H (upd H1 x (.ins (CL_Piece K) dx (putF "mouth" (.int (m : Int)) []))) := (Same.kn s1).trans (Kn.upd hx1)
        have b1 : SameBut x H (upd H1 x (.ins (CL_Piece K) dx (putF "mouth" (.int (m : Int)) []))) := fun b o n e => by rw [upd_ne n]; exact s1 _ _ e
        have hx2 : (upd H1 x (.ins (CL_Piece K) dx (putF "mouth" (.int (m : Int)) []))) x = some (.ins (CL_Piece K) dx [("mouth", .int (m : Int))]) := upd_same
        generalize upd H1 x (.ins (CL_Piece K) dx (putF "mouth" (.int (m : Int)) [])) = H2 at k1 b1 hx2 ⊢
        refine ⟨_, rfl, _, rfl, x, _, dx, _, rfl, hx2, T.cl_Piece, T.n_Piece_letters, (by show 1 < 1000; decide), ?_⟩
        have k2 : Kn H (upd H2 x (.ins (CL_Piece K) dx (putF "letters" (.str z) [("mouth", .int (m : Int))]))) := k1.trans (Kn.upd hx2)
        have b2 : SameBut x H (upd H2 x (.ins (CL_Piece K) dx (putF "letters" (.str z) [("mouth", .int (m : Int))]))) := fun b o n e => by rw [upd_ne n]; exact b1 _ _ n e
        have hx3 : (upd H2 x (.ins (CL_Piece K) dx (putF "letters" (.str z) [("mouth", .int (m : Int))]))) x = some (.ins (CL_Piece K) dx [("mouth", .int (m : Int)), ("letters", .str z)]) := upd_same
        generalize upd H2 x (.ins (CL_Piece K) dx (putF "letters" (.str z) [("mouth", .int (m : Int))])) = H3 at k2 b2 hx3 ⊢
        have pc3 : PcB K H3 x m z := ⟨dx, _, hx3, rfl, rfl, hm, hz, lk2 _ _⟩
        refine ⟨_, rfl, x, dx, _, rfl, hx3, (lk2 _ _ _ (by decide +kernel)), _, rfl, x, vt, m, z, rfl, pc3, ?_⟩
        rcases h with ⟨hb, k⟩ | ⟨ts, hok, h⟩
        · rcases hb.kn k2 with hn | ⟨a, xs, bs, g1, g2, g3, g4, g5⟩
          · exact .inl ⟨hn, k.rz b2⟩
          · refine .inr ⟨a, xs, bs, g1, g2, g3, g4, ?_⟩
            rcases g5 with g5 | ⟨g5, ts, g6, g7, g8⟩
            · exact .inl ⟨g5, k.rz b2⟩
            · exact .inr ⟨g5, ts, g6, g7, .inl ⟨g8, k.rz b2⟩⟩
        · obtain ⟨a, xs, bs, g1, g2, g3, g4, g5, g6, g7, g8⟩ := hok.kn k2
          refine .inr ⟨a, xs, bs, g1, g2, g3, g4, .inr ⟨g5, ts, g6, g7, .inr ⟨g8, fun H4 tt tas ys s4 htt htt4 hys hperm hsort => ?_⟩⟩⟩
          have hx4 := s4 _ _ hx3
          refine ⟨_, rfl, x, _, dx, _, rfl, hx4, T.cl_Piece, T.n_Piece_ties, (by show 2 < 1000; decide), ?_⟩
          have k4 := k2.trans (Same.kn s4)
          have k5 : Kn H4 (upd H4 x (.ins (CL_Piece K) dx (putF "ties" (.ref tt) [("mouth", .int (m : Int)), ("letters", .str z)]))) := Kn.upd hx4
          have b5 : SameBut x H (upd H4 x (.ins (CL_Piece K) dx (putF "ties" (.ref tt) [("mouth", .int (m : Int)), ("letters", .str z)]))) := fun b o n e => by rw [upd_ne n]; exact s4 _ _ (b2 _ _ n e)
          have hx5 : (upd H4 x (.ins (CL_Piece K) dx (putF "ties" (.ref tt) [("mouth", .int (m : Int)), ("letters", .str z)]))) x = some (.ins (CL_Piece K) dx [("mouth", .int (m : Int)), ("letters", .str z), ("ties", .ref tt)]) := upd_same
          have ht5 := k5 _ _ htt4 fun _ _ _ z => nomatch z
          have hys5 := Paired.mapP hys fun r t (h' : TieT H4 r t) => k5 _ _ h' fun _ _ _ z => nomatch z
          generalize upd H4 x (.ins (CL_Piece K) dx (putF "ties" (.ref tt) [("mouth", .int (m : Int)), ("letters", .str z)])) = H5 at k5 b5 hx5 ht5 hys5 ⊢
          have pc5 : PcB K H5 x m z := ⟨dx, _, hx5, rfl, rfl, hm, hz, lk3 _ _ _⟩
          have kA := k4.trans k5
          refine ⟨_, rfl, x, dx, _, rfl, hx5, (lk3 _ _ _ _ (by decide +kernel)), _, rfl, x, vb, m, z, rfl, pc5, ?_⟩
          rcases h with ⟨hb, k⟩ | ⟨rs, hok, k⟩
          · rcases hb.kn kA with hn | ⟨a, xs, bs, g1, g2, g3, g4, g5⟩
            · exact .inl ⟨hn, k.rz b5⟩
            · exact .inr ⟨a, xs, bs, g1, g2, g3, g4, .inl ⟨g5, k.rz b5⟩⟩
          · obtain ⟨a, xs, bs, g1, g2, g3, g4, g5, g6⟩ := hok.kn kA
            refine .inr ⟨a, xs, bs, g1, g2, by omega, g4, .inr ⟨g3, g5, rs, g6, fun H6 bt bas s6 hbt hbt6 hrs => ?_⟩⟩
            have hx6 := s6 _ _ hx5
            refine ⟨_, rfl, x, _, dx, _, rfl, hx6, T.cl_Piece, T.n_Piece_buds, (by show 3 < 1000; decide), ?_⟩
            have k7 : Kn H6 (upd H6 x (.ins (CL_Piece K) dx (putF "buds" (.ref bt) [("mouth", .int (m : Int)), ("letters", .str z), ("ties", .ref tt)]))) := Kn.upd hx6
            refine k _ ys (fun b o n e => ?_) hperm hsort ⟨dx, tt, bt, tas, bas, upd_same, k7 _ _ (s6 _ _ ht5) (fun _ _ _ z => nomatch z), Paired.mapP hys5 fun r t h' => k7 _ _ (s6 _ _ h') (fun _ _ _ z => nomatch z), k7 _ _ hbt6 (fun _ _ _ z => nomatch z), Paired.mapP hrs fun r t h' => h'.kn k7⟩
            rw [upd_ne n]
            exact s6 _ _ (b5 _ _ n e)
end
end R4
set_option Elab.async false
set_option linter.all false
set_option maxRecDepth 100000
set_option maxHeartbeats 4000000
set_option pp.maxSteps 700
namespace R4
open PySem L2 PySem.GW LamX SM
section
variable {w : World} {K : PySem.W.Frag} {mg : Str → Option Value} {base : Heap}
/-! ### two pieces -/
variable {H H' : Hp}
def plD : V → PyData
  | .int i => .int i
  | .str z => .str z
  | _ => .none
def tieD (t : V × V × Int) : PyData := .tuple [plD t.1, plD t.2.1, .int t.2.2]
def budD (r : Str × List V) : PyData := .tuple [.str r.1, .tuple (r.2.map plD)]
def plOk (v : V) : Prop := (∃ i, v = .int i) ∨ ∃ z, v = .str z ∧ isLip z
def Lay (ys : List (V × V × Int)) (rs : List (Str × List V)) : Prop := (∀ t ∈ ys, plOk t.1 ∧ plOk t.2.1) ∧ ∀ r ∈ rs, PyData.canLay0 (.str r.1) = true ∧ ∀ x ∈ r.2, plOk x
theorem plOk.dp {v : V} (h : plOk v) : Dp K H v (plD v) := by
  rcases h with ⟨i, rfl⟩ | ⟨z, rfl, _⟩
  · exact .int i
  · exact .str z
theorem plOk.lay {v : V} (h : plOk v) : PyData.canLay0 (plD v) = true ∧ PyData.depth (plD v) = 0 := by
  rcases h with ⟨i, rfl⟩ | ⟨z, rfl, h⟩
  · exact ⟨rfl, rfl⟩
  · rcases h with rfl | rfl | rfl <;> exact ⟨by decide +kernel, rfl⟩
theorem dpAll_map {α : Type} {f : α → V} {g : α → PyData} : ∀ (l : List α), (∀ x ∈ l, Dp K H (f x) (g x)) → DpAll K H (l.map f) (l.map g)
  | [], _ => .nil
  | x :: l, h => .cons (h x List.mem_cons_self) (dpAll_map l fun y hy => h y (List.mem_cons_of_mem _ hy))
theorem dpAll_pair {α : Type} {F : Addr → α → Prop} {g : α → PyData} : ∀ {as : List Addr} {l : List α}, Paired F as l → (∀ a x, x ∈ l → F a x → Dp K H (.ref a) (g x)) → DpAll K H (as.map V.ref) (l.map g)
  | _, _, .nil, _ => .nil
  | _, _, .cons h t, k => .cons (k _ _ List.mem_cons_self h) (dpAll_pair t fun a x hx => k a x (List.mem_cons_of_mem _ hx))
theorem layAll {α : Type} {g : α → PyData} {n : Nat} : ∀ (l : List α), (∀ x ∈ l, PyData.canLay0 (g x) = true ∧ PyData.depth (g x) ≤ n) → PyData.canLayAll0 (l.map g) = true ∧ PyData.depthAll (l.map g) ≤ n
  | [], _ => ⟨rfl, Nat.zero_le _⟩
  | x :: l, h => by
    obtain ⟨h1, h2⟩ := layAll l fun y hy => h y (List.mem_cons_of_mem _ hy)
    obtain ⟨h3, h4⟩ := h x List.mem_cons_self
    constructor
    · show (PyData.canLay0 (g x) && PyData.canLayAll0 (l.map g)) = true
      rw [h3, h1]
      rfl
    · show max (PyData.depth (g x)) (PyData.depthAll (l.map g)) ≤ n
      omega
theorem tieD_dp {r : Addr} {t : V × V × Int} (h : TieT H r t) (h1 : plOk t.1) (h2 : plOk t.2.1) : Dp K H (.ref r) (tieD t) := .tup (SqT.of h) (.cons h1.dp (.cons h2.dp (.cons (.int _) .nil)))
theorem budD_dp {r : Addr} {b : Str × List V} (h : BudT K H r b) (h2 : ∀ x ∈ b.2, plOk x) : Dp K H (.ref r) (budD b) := by
  obtain ⟨q, g1, g2⟩ := h
  refine .tup (SqT.of g1) (.cons (.str _) (.cons (.tup g2 ?_) .nil))
  have := dpAll_map (K := K) (H := H) (f := id) (g := plD) b.2 fun x hx => (h2 x hx).dp
  rwa [List.map_id] at this
theorem tieD_lay {t : V × V × Int} (h1 : plOk t.1) (h2 : plOk t.2.1) : PyData.canLay0 (tieD t) = true ∧ PyData.depth (tieD t) ≤ 2 := by
  obtain ⟨a1, a2⟩ := h1.lay
  obtain ⟨b1, b2⟩ := h2.lay
  constructor
  · show (PyData.canLay0 (plD t.1) && (PyData.canLay0 (plD t.2.1) && true)) = true
    rw [a1, b1]
    rfl
  · show max (PyData.depth (plD t.1)) (max (PyData.depth (plD t.2.1)) 0) + 1 ≤ 2
    omega
theorem budD_lay {b : Str × List V} (h1 : PyData.canLay0 (.str b.1) = true) (h2 : ∀ x ∈ b.2, plOk x) : PyData.canLay0 (budD b) = true ∧ PyData.depth (budD b) ≤ 2 := by
  obtain ⟨c1, c2⟩ := layAll (g := plD) (n := 0) b.2 fun x hx => ⟨(h2 x hx).lay.1, Nat.le_of_eq (h2 x hx).lay.2⟩
  constructor
  · show (PyData.canLay0 (.str b.1) && (PyData.canLayAll0 (b.2.map plD) && true)) = true
    rw [h1, c1]
    rfl
  · show max 0 (max (PyData.depthAll (b.2.map plD) + 1) 0) + 1 ≤ 2
    omega
def tiesD (ys : List (V × V × Int)) : PyData := .tuple (ys.map tieD)
def budsD (rs : List (Str × List V)) : PyData := .tuple (rs.map budD)
theorem Lay.ties {ys : List (V × V × Int)} {rs : List (Str × List V)} (h : Lay ys rs) {t : Addr} {tas : List Addr} (h1 : H t = some (.tup (tas.map V.ref))) (h2 : Paired (TieT H) tas ys) : Dp K H (.ref t) (tiesD ys) :=
  .tup (SqT.of h1) (dpAll_pair h2 fun a x hx hh => tieD_dp hh (h.1 x hx).1 (h.1 x hx).2)
theorem Lay.buds {ys : List (V × V × Int)} {rs : List (Str × List V)} (h : Lay ys rs) {t : Addr} {tas : List Addr} (h1 : H t = some (.tup (tas.map V.ref))) (h2 : Paired (BudT K H) tas rs) : Dp K H (.ref t) (budsD rs) :=
  .tup (SqT.of h1) (dpAll_pair h2 fun a x hx hh => budD_dp hh (h.2 x hx).2)
theorem Lay.tiesL {ys : List (V × V × Int)} {rs : List (Str × List V)} (h : Lay ys rs) : PyData.canLay0 (tiesD ys) = true ∧ PyData.depth (tiesD ys) ≤ 3 := by
  obtain ⟨c1, c2⟩ := layAll (g := tieD) (n := 2) ys fun x hx => tieD_lay (h.1 x hx).1 (h.1 x hx).2
  exact ⟨c1, by show PyData.depthAll (ys.map tieD) + 1 ≤ 3; omega⟩
theorem Lay.budsL {ys : List (V × V × Int)} {rs : List (Str × List V)} (h : Lay ys rs) : PyData.canLay0 (budsD rs) = true ∧ PyData.depth (budsD rs) ≤ 3 := by
  obtain ⟨c1, c2⟩ := layAll (g := budD) (n := 2) rs fun x hx => budD_lay (h.2 x hx).1 (h.2 x hx).2
  exact ⟨c1, by show PyData.depthAll (rs.map budD) + 1 ≤ 3; omega⟩
def spEq (K : PySem.W.Frag) : Sp := fun vs H Q _ => ∃ (p : Addr) (v : V), vs = [.ref p, v] ∧
  ((∃ t, TyX K H v t ∧ PySem.W.kitOne K t (.ref (CL_Piece K)) = some false ∧ Q (.bl false) H) ∨
   (∃ (q : Addr) (m m' : Nat) (z z' : Str) (ys ys' : List (V × V × Int)) (rs rs' : List (Str × List V)), v = .ref q ∧ PieceAt K H p m z ys rs ∧ PieceAt K H q m' z' ys' rs' ∧
     ((m = m' ∧ z = z' ∧ ys = ys' ∧ rs = rs' ∧ Lay ys rs ∧ Q (.bl true) H) ∨ ((m ≠ m' ∨ z ≠ z') ∧ Q (.bl false) H))))
theorem ok_Piece___eq__ (T : Top K mg) : FnOk PW w K mg base CX0 1 (ME_Piece K "__eq__") (fdOf K (ME_Piece K "__eq__")) ["self", "other"] (spEq K) := by
  refine T.F_Piece___eq__.ok sc_Piece___eq__ (fun vs H Q E h => ?_) (fun cdv A outer s H vs Q E hr h => ?_)
  · obtain ⟨p, v, rfl, _h⟩ := h
    rfl
  · obtain ⟨p, v, rfl, h⟩ := h
    have hu := hu_of hr
    refine ⟨_, (pss_cons (ps_if (PW.pt (pw_or (pt_not (pt_val (pe_callB call_isi (by rfl) T.z_isinstance (by decide +kernel) (pa_cons (pv 1) (pa_cons (pe_glob (v := .ref (CL_Piece K)) rfl T.g_Piece rfl) pa_nil))))) (pw_or (pt_cmpR op_ne (pe_fld (pv 0) rfl) (pe_fld (pv 1) rfl) (nomark _)) (pw_or1 (pt_cmpR op_ne (pe_fld (pv 0) rfl) (pe_fld (pv 1) rfl) (nomark _)))))) (pss_one (ps_ret pe_bl)) pss_nil)
      (pss_one (ps_ret (pe_and (pe_cmpR (op_eqD hr.units) (pe_fld (pv 0) rfl) (pe_fld (pv 1) rfl) (nomark _)) (pe_one (pe_cmpR (op_eqD hr.units) (pe_fld (pv 0) rfl) (pe_fld (pv 1) rfl) (nomark _))))))), ?_⟩
    rcases h with ⟨t, ty, h1, k⟩ | ⟨q, m, m', z, z', ys, ys', rs, rs', rfl, hP, hP', h⟩
    · exact ⟨_, rfl, _, _, _, _, false, rfl, .own _, ty, h1, _, rfl, ifT rfl (ifT rfl (tcI k))⟩
    · have ty' := hP'.ty T
      obtain ⟨dx, t, b, tas, bas, g1, g2, g3, g4, g5⟩ := hP
      obtain ⟨dx', t', b', tas', bas', g1', g2', g3', g4', g5'⟩ := hP'
      refine ⟨_, rfl, _, _, _, _, true, rfl, .own _, ty', T.kk_Piece, _, rfl, ifF rfl ?_⟩
      refine ⟨_, rfl, p, _, dx, _, _, rfl, g1, T.cl_Piece, T.n_Piece_mouth, rfl, _, rfl, q, _, dx', _, _, rfl, g1', T.cl_Piece, T.n_Piece_mouth, rfl, rfl, _, rfl, ?_⟩
      rw [dec_int]
      by_cases cm : m = m'
      · subst cm
        refine ifF (nd rfl) ?_
        refine ⟨_, rfl, p, _, dx, _, _, rfl, g1, T.cl_Piece, T.n_Piece_letters, rfl, _, rfl, q, _, dx', _, _, rfl, g1', T.cl_Piece, T.n_Piece_letters, rfl, rfl, _, rfl, ?_⟩
        rw [dec_str]
        by_cases cz : z = z'
        · subst cz
          refine ifF (nd rfl) ?_
          rcases h with ⟨_, _, rfl, rfl, hl, k⟩ | ⟨h, _⟩
          · refine ⟨_, rfl, p, _, dx, _, _, rfl, g1, T.cl_Piece, T.n_Piece_ties, rfl, _, rfl, q, _, dx', _, _, rfl, g1', T.cl_Piece, T.n_Piece_ties, rfl, ?_⟩
            refine eq_same (hl.ties g2 g3) (hl.ties g2' g3') (shaped_of hl.tiesL.1 (by have := hl.tiesL.2; omega)) ⟨_, rfl, ifT rfl ?_⟩
            refine ⟨_, rfl, p, _, dx, _, _, rfl, g1, T.cl_Piece, T.n_Piece_buds, rfl, _, rfl, q, _, dx', _, _, rfl, g1', T.cl_Piece, T.n_Piece_buds, rfl, ?_⟩
            exact eq_same (hl.buds g4 g5) (hl.buds g4' g5') (shaped_of hl.budsL.1 (by have := hl.budsL.2; omega)) k
          · exact absurd rfl (h.resolve_left fun c => c rfl)
        · rcases h with ⟨_, e, _⟩ | ⟨_, k⟩
          · exact absurd e cz
          · exact ifT (nn cz) (tcI k)
      · rcases h with ⟨e, _⟩ | ⟨_, k⟩
        · exact absurd e cm
        · exact ifT (nn cm) (ifT rfl (tcI k))
end
end R4
set_option Elab.async false
set_option linter.all false
set_option maxRecDepth 100000
set_option maxHeartbeats 4000000
set_option pp.maxSteps 700
namespace R4
open PySem L2 PySem.GW LamX SM
section
variable {w : World} {K : PySem.W.Frag} {mg : Str → Option Value} {base : Heap}
abbrev rJoin (K : PySem.W.Frag) : V → List V → Hp → VK → Prop := fun x xs H Q => ∃ a p, ∃ ys : List Str, x = .str a ∧ xs = [.ref p] ∧ (SqL K H p (ys.map V.str) ∨ SqT K H p (ys.map V.str)) ∧ (ys.map (·.length)).sum + ys.length * a.length ≤ 16777216 ∧ Q (.str (Txt.join a ys)) H
def spPick (K : PySem.W.Frag) : Sp := fun vs H Q _ => ∃ (p c l : Addr) (b : Nat) (xs : List V), vs = [.ref p, .ref l] ∧ PenOk H p c b ∧ b ≤ 1000000000 ∧ SqL K H l xs ∧ 1 ≤ xs.length ∧ xs.length ≤ 1000 ∧ ∀ (i : Nat) (x : V) (H' : Hp), xs[i]? = some x → SameBut p H H' → PenOk H' p c (b + 1) → Q x H'
def spPickS : Sp := fun vs H Q _ => ∃ (p c : Addr) (b : Nat) (z : Str), vs = [.ref p, .str z] ∧ PenOk H p c b ∧ b ≤ 1000000000 ∧ 1 ≤ z.length ∧ z.length ≤ 1000 ∧ ∀ (x : Nat) (H' : Hp), x ∈ z.cps.toList → SameBut p H H' → PenOk H' p c (b + 1) → Q (.str ⟨#[x]⟩) H'
def spKinds (K : PySem.W.Frag) : Sp := fun vs H Q _ => ∃ (p c : Addr) (b n : Nat), vs = [.ref p, .int (n : Int)] ∧ PenOk H p c b ∧ b ≤ 100000000 ∧ n ≤ 1000 ∧
  ∀ a (ws : List Str) H', SameBut p H H' → PenOk H' p c (b + 10) → H a = none → H' a = some (.lst (ws.map V.str)) → ws.length = n → (∀ w ∈ ws, wordB w = true) → Q (.ref a) H'
theorem sum_sing (cs : List Nat) : ((cs.map UM.sing).map (·.length)).sum = cs.length := by
  induction cs with
  | nil => rfl
  | cons c cs ih => rw [List.map_cons, List.map_cons, List.sum_cons, ih, List.length_cons]; show 1 + _ = _; omega
theorem word_of {cs : List Nat} {x : Nat} (h : ∀ c ∈ cs, c ∈ lets) (hl : cs.length ≤ 6) (hx : x ∈ lets) : wordB ((⟨cs.toArray⟩ : Str) ++ (⟨#[x]⟩ : Str)) = true := by
  have e : ((⟨cs.toArray⟩ : Str) ++ (⟨#[x]⟩ : Str)).cps.toList = cs ++ [x] := by
    show (cs.toArray ++ #[x]).toList = _
    simp
  have e2 : ((⟨cs.toArray⟩ : Str) ++ (⟨#[x]⟩ : Str)).length = cs.length + 1 := by
    have := congrArg List.length e
    rw [List.length_append, Array.length_toList] at this
    exact this
  unfold wordB
  rw [e, e2, decide_eq_true (by omega), decide_eq_true (by omega), Bool.true_and, Bool.true_and, List.all_eq_true]
  intro c hc
  refine decide_eq_true ?_
  rcases List.mem_append.mp hc with hc | hc
  · exact h c hc
  · rw [List.mem_singleton.mp hc]; exact hx
theorem pen_fresh {H H' : Hp} {p c D : Addr} {b : Nat} (s : SameBut p H H') (t : PenOk H' p c b) (h : H' D = none) : H D = none := by
  obtain ⟨k, hk⟩ := t.dict
  exact but_fresh s hk h
theorem ok__law_pick (T : Top K mg) : FnOk PW w K mg base CX0 2 (fa K "_law_pick") (fdOf K (fa K "_law_pick")) ["_law_pen_here", "_law_items"] (spPick K) := by
  refine T.F__law_pick.ok sc__law_pick (fun vs H Q E h => ?_) (fun cdv A outer s H vs Q E hr h => ?_)
  · obtain ⟨p, c, l, b, xs, rfl, _hT, _hb, _hS, _h1, _h2, _k⟩ := h
    rfl
  · obtain ⟨p, c, l, b, xs, rfl, hT, hb, hS, h1, h2, k⟩ := h
    have hu := hu_of hr
    refine ⟨_, (pss_one (ps_ret (pe_ix ix_list (pv 1) (pe_call (ok__law_draw T) (hr.mono (by decide)) rfl T.g__law_draw T.F__law_draw.kp T.b__law_draw .nil pass0 (pa_cons (pv 0) (pa_cons (pe_callB call_len_seq (by rfl) T.z_len (by decide +kernel) (pa_cons (pv 1) pa_nil)) pa_nil))) (fun _ _ => rfl)))), ?_⟩
    obtain ⟨kd, hd⟩ := hT.dict
    refine ⟨_, rfl, _, rfl, _, rfl, l, _, rfl, .inl hS, p, c, b, _, rfl, hT, hb, lim_small (by omega) (by omega), fun x H1 hx s1 t1 => ?_⟩
    have e1 : xs[x]? = some (xs[x]'(by omega)) := List.getElem?_eq_getElem (by omega)
    exact ⟨l, _, _, _, rfl, rfl, s1.sqL hd hS, atI_nat e1, k _ _ _ e1 s1 t1⟩
theorem okS__law_pick (T : Top K mg) : FnOk PW w K mg base CX0 2 (fa K "_law_pick") (fdOf K (fa K "_law_pick")) ["_law_pen_here", "_law_items"] spPickS := by
  refine T.F__law_pick.ok sc__law_pick (fun vs H Q E h => ?_) (fun cdv A outer s H vs Q E hr h => ?_)
  · obtain ⟨p, c, b, z, rfl, _hT, _hb, _h1, _h2, _k⟩ := h
    rfl
  · obtain ⟨p, c, b, z, rfl, hT, hb, h1, h2, k⟩ := h
    have hu := hu_of hr
    refine ⟨_, (pss_one (ps_ret (pe_ix ix_str (pv 1) (pe_call (ok__law_draw T) (hr.mono (by decide)) rfl T.g__law_draw T.F__law_draw.kp T.b__law_draw .nil pass0 (pa_cons (pv 0) (pa_cons (pe_callB call_len_str (by rfl) T.z_len (by decide +kernel) (pa_cons (pv 1) pa_nil)) pa_nil))) (fun _ _ => rfl)))), ?_⟩
    refine ⟨_, rfl, _, rfl, _, rfl, z, rfl, szS h2, p, c, b, _, rfl, hT, hb, lim_small (by omega) (by omega), fun x H1 hx s1 t1 => ?_⟩
    have hx2 : x < z.cps.toList.length := by rw [Array.length_toList]; show x < z.length; omega
    have e1 : z.cps.toList[x]? = some (z.cps.toList[x]'hx2) := List.getElem?_eq_getElem hx2
    exact ⟨z, _, _, rfl, rfl, szS h2, atI_nat e1, k _ _ (List.mem_of_getElem? e1) s1 t1⟩
theorem ok__law_kinds (T : Top K mg) : FnOk PW w K mg base CX0 3 (fa K "_law_kinds") (fdOf K (fa K "_law_kinds")) ["_law_pen_here", "_law_many"] (spKinds K) := by
  refine T.F__law_kinds.ok sc__law_kinds (fun vs H Q E h => ?_) (fun cdv A outer s H vs Q E hr h => ?_)
  · obtain ⟨p, c, b, n, rfl, _hT, _hb, _hn, _k⟩ := h
    rfl
  · obtain ⟨p, c, b, n, rfl, hT, hb, hn, k⟩ := h
    have hu := hu_of hr
    refine ⟨_, (pss_cons (ps_set (i := 2) sc__law_kinds.nd rfl (Or.inr rfl) (pe_join pe_str (pe_lc (own := [("_law_k", 5)]) (g := gName 5) (by rfl) sc__law_kinds.nd (pi_range1 (by rfl) T.z_range (pa_cons (pe_call (ok__law_draw T) (hr.mono (by decide)) rfl T.g__law_draw T.F__law_draw.kp T.b__law_draw .nil pass0 (pa_cons (pv 0) (pa_cons pe_int pa_nil))) pa_nil)) (blkOk_by (own := [("_law_k", 5)]) (N := ["_law_pen_here", "_law_many", "_law_stem", "_law_front", "_law_step", "_law_k"]) (sc := (defScope s__law_kinds)) (by decide +kernel)) (fun _ _ _ _ _ => (pg_name (i := 5) sc__law_kinds.nd rfl (Or.inl rfl))) (fun _ _ _ _ _ => pts_nil) (fun _ _ _ _ _ => (pe_call (okS__law_pick T) (hr.mono (by decide)) rfl T.g__law_pick T.F__law_pick.kp T.b__law_pick .nil pass0 (pa_cons (pv 0) (pa_cons pe_str pa_nil)))))))
      (pss_cons (ps_asg (pe_tup (pa_cons (pe_call (ok__law_draw T) (hr.mono (by decide)) rfl T.g__law_draw T.F__law_draw.kp T.b__law_draw .nil pass0 (pa_cons (pv 0) (pa_cons pe_int pa_nil))) (pa_cons (pe_call (ok__law_pick T) (hr.mono (by decide)) rfl T.g__law_pick T.F__law_pick.kp T.b__law_pick .nil pass0 (pa_cons (pv 0) (pa_cons (pe_lst (pa_cons pe_int (pa_cons pe_int (pa_cons pe_int (pa_cons pe_int (pa_cons pe_int (pa_cons pe_int pa_nil))))))) pa_nil))) pa_nil))) (pg_tup (by rfl) (pgs_cons (pg_name (i := 3) sc__law_kinds.nd rfl (Or.inr rfl)) (pgs_cons (pg_name (i := 4) sc__law_kinds.nd rfl (Or.inr rfl)) pgs_nil))))
      (pss_one (ps_ret (pe_lc (own := [("_law_k", 5)]) (g := gName 5) (by rfl) sc__law_kinds.nd (pi_range1 (by rfl) T.z_range (pa_cons (pv 1) pa_nil)) (blkOk_by (own := [("_law_k", 5)]) (N := ["_law_pen_here", "_law_many", "_law_stem", "_law_front", "_law_step", "_law_k"]) (sc := (defScope s__law_kinds)) (by decide +kernel)) (fun _ _ _ _ _ => (pg_name (i := 5) sc__law_kinds.nd rfl (Or.inl rfl))) (fun _ _ _ _ _ => pts_nil) (fun _ _ _ _ _ => (pe_op op_add_str (pv 2) (pe_ix ix_str pe_str (pe_op op_mod (pe_callTy call_int1 (by rfl) T.z_int (by decide +kernel) (pa_cons (pe_op op_add (pv 3) (pe_op op_mul (pv 4) (pv 5))) pa_nil)) pe_int) (fun _ _ => rfl))))))))), ?_⟩
    have hAB : ("abcdefghijklmnopqrstuvwxyz" : Str).length = 26 := by decide +kernel
    refine ⟨⟨_, rfl⟩, _, rfl, p, c, b, 7, rfl, hT, by omega, lim_small (by decide) (by decide), fun x1 H1 hx1 s1 t1 => ⟨(x1 : Int), rfl, by omega, by omega, fun D hD => ?_⟩⟩
    obtain ⟨nDp, nDc⟩ := t1.ne hD
    refine lc_range (lo := 0) (n := (x1 : Int).toNat) (fun i H2 => SameBut p H H2 ∧ PenOk H2 p c (b + 1 + i) ∧ ∃ cs : List Nat, H2 D = some (.lst ((cs.map UM.sing).map V.str)) ∧ cs.length = i ∧ ∀ c ∈ cs, c ∈ lets)
      ⟨but_at (pen_fresh s1 t1 hD) s1, t1.updL nDp nDc, [], upd_same, rfl, fun _ h => nomatch h⟩ ?_ ?_
    · rintro i H2 hi ⟨sb2, t2, cs, hD2, hcl, hcs⟩
      refine ⟨rfl, ?_⟩
      refine ⟨_, rfl, p, c, b + 1 + i, _, rfl, t2, by omega, (by rw [hAB]; decide), (by rw [hAB]; decide), fun x H3 hx s3 t3 => ?_⟩
      refine ⟨_, s3 _ _ nDp hD2, (by rw [List.length_map, List.length_map, sizeLine_eq]; omega), but_at (pen_fresh s1 t1 hD) (sb2.trans s3), t3.updL nDp nDc, cs ++ [x], ?_, (by rw [List.length_append, hcl]; rfl), fun c hc => ?_⟩
      · rw [upd_same, List.map_append, List.map_append]; rfl
      · rcases List.mem_append.mp hc with hc | hc
        · exact hcs c hc
        · rw [List.mem_singleton.mp hc]; exact hx
    · rintro H2 ⟨sb2, t2, cs, hD2, hcl, hcs⟩
      have hcl6 : cs.length ≤ 6 := by rw [hcl]; show x1 ≤ 6; omega
      have t2' : PenOk H2 p c (b + 7) := t2.mono (by show b + 1 + x1 ≤ b + 7; omega)
      refine ⟨_, D, cs.map UM.sing, rfl, rfl, .inl (SqL.of hD2), (by rw [sum_sing]; show _ + _ * 0 ≤ _; omega), ?_⟩
      rw [UM.join_sing]
      refine ⟨_, rfl, p, c, b + 7, 26, rfl, t2', by omega, lim_small (by decide) (by decide), fun f H3 hf s3 t3 => ?_⟩
      refine ⟨_, rfl, Nat.le_of_ble_eq_true rfl, fun l hl => ?_⟩
      have ul := same_upd (o := .lst [.int 1, .int 3, .int 5, .int 7, .int 9, .int 11]) hl
      refine ⟨p, c, l, b + 8, _, rfl, t3.same ul, by omega, SqL.of upd_same, by decide, by decide, fun i x H4 hx s4 t4 => ?_⟩
      obtain ⟨sp, rfl, hsp1, hsp2⟩ : ∃ sp : Int, x = .int sp ∧ 0 ≤ sp ∧ sp ≤ 11 := by
        match i, hx with
        | 0, hx => cases hx; exact ⟨1, rfl, by decide, by decide⟩
        | 1, hx => cases hx; exact ⟨3, rfl, by decide, by decide⟩
        | 2, hx => cases hx; exact ⟨5, rfl, by decide, by decide⟩
        | 3, hx => cases hx; exact ⟨7, rfl, by decide, by decide⟩
        | 4, hx => cases hx; exact ⟨9, rfl, by decide, by decide⟩
        | 5, hx => cases hx; exact ⟨11, rfl, by decide, by decide⟩
        | i + 6, hx => simp at hx
      refine ⟨Nat.le_of_ble_eq_true rfl, fun t ht => ⟨t, _, rfl, SqT.of upd_same, rfl, _, _, rfl, _, _, rfl, rfl, ?_⟩⟩
      have ut := same_upd (o := .tup [.int (f : Int), .int sp]) ht
      have sbA : SameBut p H (upd H4 t (.tup [.int (f : Int), .int sp])) := sb2.trans (s3.trans ((Same.but p ul).trans (s4.trans (Same.but p ut))))
      have tA := t4.same ut
      generalize upd H4 t (.tup [.int (f : Int), .int sp]) = H5 at sbA tA ⊢
      refine ⟨_, rfl, (n : Int), rfl, by omega, by omega, fun D2 hD2 => ?_⟩
      have hD20 := pen_fresh sbA tA hD2
      obtain ⟨n2p, n2c⟩ := tA.ne hD2
      refine lc_range (lo := 0) (n := (n : Int).toNat) (fun i H2 => SameBut p H H2 ∧ PenOk H2 p c (b + 10) ∧ ∃ ws : List Str, H2 D2 = some (.lst (ws.map V.str)) ∧ ws.length = i ∧ ∀ w ∈ ws, wordB w = true)
        ⟨but_at hD20 sbA, (tA.updL n2p n2c).mono (by omega), [], upd_same, rfl, fun _ h => nomatch h⟩ ?_ ?_
      · rintro i H2 hi ⟨sb6, t6, ws, hD6, hwl, hws⟩
        refine ⟨rfl, ?_⟩
        obtain ⟨j, hj, hj2⟩ := modI (i := (f : Int) + sp * (0 + (i : Int))) (m := 26) (by decide)
        have hjl : j < lets.length := by show j < 26; omega
        refine ⟨_, rfl, _, rfl, _, rfl, _, rfl, iC (.inl ⟨by omega, by omega⟩) rfl (i0 rfl (.inl ⟨_, rfl, tcI (iC (by show (0:Int) < 26; decide) (v := .int (j : Int)) (congrArg V.int hj) ?_)⟩))⟩
        refine ⟨_, _, _, rfl, rfl, szS (by rw [hAB]; decide), atI_nat (List.getElem?_eq_getElem hjl), ?_⟩
        have hw := word_of (x := lets[j]) hcs hcl6 (List.getElem_mem hjl)
        refine ⟨_, _, rfl, rfl, (by rw [sizeLine_eq]; show cs.toArray.size + 1 ≤ _; rw [List.size_toArray]; omega), _, hD6, (by rw [List.length_map, sizeLine_eq]; omega), but_at hD20 sb6, t6.updL n2p n2c, ws ++ [(⟨cs.toArray⟩ : Str) ++ (⟨#[lets[j]]⟩ : Str)], ?_, (by rw [List.length_append, hwl]; rfl), fun w' hw' => ?_⟩
        · rw [upd_same, List.map_append]; rfl
        · rcases List.mem_append.mp hw' with hc | hc
          · exact hws _ hc
          · rw [List.mem_singleton.mp hc]; exact hw
      · rintro H2 ⟨sb6, t6, ws, hD6, hwl, hws⟩
        exact k D2 ws H2 sb6 t6 hD20 hD6 hwl hws
end
end R4
set_option Elab.async false
set_option linter.all false
set_option maxRecDepth 100000
set_option maxHeartbeats 4000000
set_option pp.maxSteps 700
namespace R4
open PySem L2 PySem.GW LamX SM
section
variable {w : World} {K : PySem.W.Frag} {mg : Str → Option Value} {base : Heap}
/-- a place by its number: the letters of the mouth ahead -/
def plc (m i : Nat) : V := if i < m then .str ⟨#[97 + i]⟩ else .int ((i - m : Nat) : Int)
def plcs (m n : Nat) : List V := (List.range (m + n)).map (plc m)
/-- a tie of the i-th and the j-th place, either way about -/
def TieOf (m i j : Nat) (t : V × V × Int) : Prop := (t.1 = plc m i ∧ t.2.1 = plc m j) ∨ (t.1 = plc m j ∧ t.2.1 = plc m i)
def TieIn (m n : Nat) (t : V × V × Int) : Prop := ∃ i j, i < j ∧ m ≤ j ∧ j < m + n ∧ TieOf m i j t ∧ 1 ≤ t.2.2 ∧ t.2.2 ≤ 10 ^ 100
def Ropes (m n : Nat) (ts : List (V × V × Int)) : Prop := (∀ t ∈ ts, TieIn m n t) ∧ (ts.map kt).Nodup ∧ ts.length ≤ 81
theorem places_eq {m n : Nat} (hm : m ≤ 3) (hn : n ≤ 6) : (SM.signs (cutS "abc" none (some (m : Int)))).map V.str ++ rgV 0 (n : Int) = plcs m n := by
  have h : ∀ m : Nat, m ≤ 3 → ∀ n : Nat, n ≤ 6 → (SM.signs (cutS "abc" none (some (m : Int)))).map V.str ++ rgV 0 (n : Int) = plcs m n := by decide +kernel
  exact h m hm n hn
theorem plcs_at {m n i : Nat} (h : i < m + n) : (plcs m n)[i]? = some (plc m i) := by
  unfold plcs
  rw [List.getElem?_map, List.getElem?_range h]
  rfl
theorem plcs_len (m n : Nat) : (plcs m n).length = m + n := by unfold plcs; rw [List.length_map, List.length_range]
theorem plc_num {m i : Nat} (h : m ≤ i) : plc m i = .int ((i - m : Nat) : Int) := if_neg (by omega)
theorem plc_lip {m i : Nat} (h : i < m) : plc m i = .str ⟨#[97 + i]⟩ := if_pos h
theorem rank_lip {m i : Nat} (hm : m ≤ 3) (h : i < m) : rankV (plc m i) = 6 + (i : Int) := by
  rw [plc_lip h]
  have : ∀ i, i < 3 → rankV (.str ⟨#[97 + i]⟩) = 6 + (i : Int) := by decide +kernel
  exact this i (by omega)
theorem rank_num {m i : Nat} (h : m ≤ i) : rankV (plc m i) = ((i - m : Nat) : Int) := by
  rw [plc_num h]
  rfl
/-- the two ranks of a tie of the i-th and the j-th place -/
def kp (m i j : Nat) : Int × Int := if i < m then (((j - m : Nat) : Int), 6 + (i : Int)) else (((i - m : Nat) : Int), ((j - m : Nat) : Int))
theorem kt_of {m n i j : Nat} {t : V × V × Int} (hm : m ≤ 3) (hn : n ≤ 6) (hij : i < j) (hj : m ≤ j) (hjn : j < m + n) (h : TieOf m i j t) : kt t = kp m i j ∧ ((i < m ∧ nrm t = (plc m j, plc m i, t.2.2)) ∨ (m ≤ i ∧ nrm t = (plc m i, plc m j, t.2.2))) := by
  have rj := rank_num hj
  by_cases hi : i < m
  · have ri := rank_lip hm hi
    have e : nrm t = (plc m j, plc m i, t.2.2) := by
      unfold nrm
      rcases h with ⟨h1, h2⟩ | ⟨h1, h2⟩
      · rw [h1, h2, ri, rj, if_pos (by omega)]
      · rw [h1, h2, ri, rj, if_neg (by omega)]
        rw [← h1, ← h2]
    refine ⟨?_, .inl ⟨hi, e⟩⟩
    unfold kt kp
    rw [e, if_pos hi]
    show (rankV (plc m j), rankV (plc m i)) = _
    rw [ri, rj]
  · have ri := rank_num (m := m) (i := i) (by omega)
    have e : nrm t = (plc m i, plc m j, t.2.2) := by
      unfold nrm
      rcases h with ⟨h1, h2⟩ | ⟨h1, h2⟩
      · rw [h1, h2, ri, rj, if_neg (by omega)]
        rw [← h1, ← h2]
      · rw [h1, h2, ri, rj, if_pos (by omega)]
    refine ⟨?_, .inr ⟨by omega, e⟩⟩
    unfold kt kp
    rw [e, if_neg hi]
    show (rankV (plc m i), rankV (plc m j)) = _
    rw [ri, rj]
theorem kp_inj {m n i j i' j' : Nat} (hm : m ≤ 3) (hn : n ≤ 6) (h1 : i < j) (h2 : m ≤ j) (h3 : j < m + n) (h1' : i' < j') (h2' : m ≤ j') (h3' : j' < m + n) (e : kp m i j = kp m i' j') : i = i' ∧ j = j' := by
  unfold kp at e
  by_cases a : i < m
  · by_cases b : i' < m
    · rw [if_pos a, if_pos b] at e
      have := congrArg Prod.fst e
      have := congrArg Prod.snd e
      dsimp only at *
      omega
    · rw [if_pos a, if_neg b] at e
      have := congrArg Prod.fst e
      have := congrArg Prod.snd e
      dsimp only at *
      omega
  · by_cases b : i' < m
    · rw [if_neg a, if_pos b] at e
      have := congrArg Prod.fst e
      have := congrArg Prod.snd e
      dsimp only at *
      omega
    · rw [if_neg a, if_neg b] at e
      have := congrArg Prod.fst e
      have := congrArg Prod.snd e
      dsimp only at *
      omega
/-- the ties of the pairs ahead of (i, j) -/
def TieK (m n i j : Nat) (t : V × V × Int) : Prop := ∃ i' j', i' < j' ∧ m ≤ j' ∧ j' < m + n ∧ TieOf m i' j' t ∧ 1 ≤ t.2.2 ∧ t.2.2 ≤ 10 ^ 100 ∧ (i' < i ∨ (i' = i ∧ j' < j))
def TieL (H : Hp) (r : Addr) (t : V × V × Int) : Prop := H r = some (.tup [t.1, t.2.1, .int t.2.2])
def TsAt (H : Hp) (f : Addr) (ts : List (V × V × Int)) : Prop := ∃ rs : List Addr, H f = some (.lst (rs.map V.ref)) ∧ Paired (TieL H) rs ts
theorem TsAt.same {H H' : Hp} {f : Addr} {ts : List (V × V × Int)} (e : Same H H') (h : TsAt H f ts) : TsAt H' f ts := by
  obtain ⟨rs, h1, h2⟩ := h
  exact ⟨rs, e _ _ h1, Paired.mapP h2 fun _ _ h => e _ _ h⟩
theorem TsAt.but {H H' : Hp} {p f : Addr} {k : List (Key × V)} {ts : List (V × V × Int)} (hp : H p = some (.dK k)) (e : SameBut p H H') (h : TsAt H f ts) : TsAt H' f ts := by
  obtain ⟨rs, h1, h2⟩ := h
  refine ⟨rs, e _ _ (fun z => by rw [z, hp] at h1; cases h1) h1, Paired.mapP h2 fun r t (h : TieL H r t) => e _ _ (fun z => ?_) h⟩
  unfold TieL at h
  rw [z, hp] at h
  cases h
def spTiesL (K : PySem.W.Frag) : Sp := fun vs H Q _ => ∃ (p c : Addr) (b m n : Nat) (far : Int), vs = [.ref p, .int (m : Int), .int (n : Int), .int far] ∧ PenOk H p c b ∧ b ≤ 100000000 ∧ m ≤ 3 ∧ n ≤ 6 ∧ 1 ≤ far ∧ far ≤ 10 ^ 100 ∧
  ∀ a ts H', SameBut p H H' → PenOk H' p c (b + 300) → H a = none → TsAt H' a ts → Ropes m n ts → Q (.ref a) H'
theorem lim100 {m : Int} (h : 1 ≤ m) (h2 : m ≤ 10 ^ 100) : Lim m := ⟨by omega, by
  have h3 : m.natAbs ≤ 10 ^ 100 := by omega
  have h4 : (10 : Nat) ^ 100 < 2 ^ 8000 := by
    have : (10 : Nat) ^ 100 < 2 ^ 400 := by decide
    exact Nat.lt_of_lt_of_le this (Nat.pow_le_pow_right (by omega) (by omega))
  omega⟩
def spRow (K : PySem.W.Frag) : Sp := fun vs H Q _ => ∃ (p c l : Addr) (b n : Nat) (xs : List V), vs = [.ref p, .ref l, .int (n : Int)] ∧ PenOk H p c b ∧ b ≤ 100000000 ∧ SqL K H l xs ∧ n ≤ xs.length ∧ xs.length ≤ 1000 ∧
  ∀ q ys zs H', SameBut p H H' → PenOk H' p c (b + n) → H q = none → H' q = some (.tup ys) → ys.length = n → (ys ++ zs).Perm xs → Q (.ref q) H'
def spRankL : Sp := fun vs H Q _ => ∃ (v : V) (r : Int), vs = [v] ∧ ((∃ i, v = .int i ∧ r = i) ∨ (∃ z, v = .str z ∧ isLip z ∧ r = 90 + (lipN z : Int))) ∧ Q (.int r) H
theorem ok__law_row (T : Top K mg) : FnOk PW w K mg base CX0 2 (fa K "_law_row") (fdOf K (fa K "_law_row")) ["_law_pen_here", "_law_places", "_law_many"] (spRow K) := by
  refine T.F__law_row.ok sc__law_row (fun vs H Q E h => ?_) (fun cdv A outer s H vs Q E hr h => ?_)
  · obtain ⟨p, c, l, b, n, xs, rfl, _hT, _hb, _hS, _hn, _hx, _k⟩ := h
    rfl
  · obtain ⟨p, c, l, b, n, xs, rfl, hT, hb, hS, hn, hx, k⟩ := h
    have hu := hu_of hr
    refine ⟨_, (pss_cons (ps_par (i := 3) (j := 4) (by rfl) sc__law_row.nd rfl rfl (by decide) rfl rfl (pa_cons (pe_callTy call_list_of (by rfl) T.z_list (by decide +kernel) (pa_cons (pv 1) pa_nil)) (pa_cons (pe_lst pa_nil) pa_nil)) (by rfl))
      (pss_cons (ps_for PassesOwn.never rfl (pi_range1 (by rfl) T.z_range (pa_cons (pv 2) pa_nil)) (pg_name (i := 5) sc__law_row.nd rfl (Or.inl rfl)) (pss_cons (ps_set (i := 6) sc__law_row.nd rfl (Or.inl rfl) (pe_call (ok__law_draw T) (hr.mono (by decide)) rfl T.g__law_draw T.F__law_draw.kp T.b__law_draw .nil pass0 (pa_cons (pv 0) (pa_cons (pe_callB call_len_seq (by rfl) T.z_len (by decide +kernel) (pa_cons (pv 3) pa_nil)) pa_nil))))
      (pss_cons (ps_expr (pe_bm PySem.F.plainAttrs_list PySem.F.slot_list_append PySem.F.type_list_append mt_append (pv 4) (pa_cons (pe_ix ix_list (pv 3) (pv 6) (fun _ _ => rfl)) pa_nil)))
      (pss_one (ps_set (i := 3) sc__law_row.nd rfl (Or.inl rfl) (pe_op op_cat (pe_slice sl_list (pv 3) po_none (po_some (pv 6))) (pe_slice sl_list (pv 3) (po_some (pe_op op_add (pv 6) pe_int)) po_none)))))))
      (pss_one (ps_ret (pe_callTy call_tuple_of (by rfl) T.z_tuple (by decide +kernel) (pa_cons (pv 4) pa_nil)))))), ?_⟩
    refine ⟨_, rfl, l, _, rfl, .inl hS, fun a ha => ?_⟩
    have ua := same_upd (o := .lst xs) ha
    refine ⟨Nat.zero_le _, fun f hf => ⟨_, _, rfl, ?_⟩⟩
    have uf := same_upd (o := .lst []) hf
    have hf0 := fresh_back ua hf
    have ha1 : (upd (upd H a (.lst xs)) f (.lst [])) a = some (.lst xs) := uf _ _ upd_same
    have hf1 : (upd (upd H a (.lst xs)) f (.lst [])) f = some (.lst []) := upd_same
    have u := ua.trans uf
    have naf : a ≠ f := fun e => by rw [← e, upd_same] at hf; cases hf
    have t1 := hT.same u
    generalize upd (upd H a (.lst xs)) f (.lst []) = H1 at ha1 hf1 u t1 ⊢
    obtain ⟨nfp, nfc⟩ := hT.ne hf0
    refine ⟨_, rfl, (n : Int), rfl, by omega, by omega, ?_⟩
    refine for_range (lo := 0) (n := (n : Int).toNat) (fun i σ H2 => ∃ (l : Addr) (ls ys : List V) (o5 o6 : Option V), σ = [some (.ref p), σ.getD 1 none, some (.int (n : Int)), some (.ref l), some (.ref f), o5, o6] ∧ SameBut p H H2 ∧ PenOk H2 p c (b + i) ∧ H2 l = some (.lst ls) ∧ l ≠ f ∧ l ≠ p ∧ H2 f = some (.lst ys) ∧ ys.length = i ∧ (ys ++ ls).Perm xs)
      ⟨a, xs, [], _, _, rfl, Same.but p u, t1, ha1, naf, (hT.ne ha).1, hf1, rfl, List.Perm.refl _⟩ ?_ ?_
    · rintro i σ H2 hi ⟨l2, ls, ys, o5, o6, hσ, sb2, t2, hl2, nlf, nlp, hf2, hyl, hpm⟩
      have hi' : i < n := hi
      have hll : ls.length = xs.length - i := by have := hpm.length_eq; rw [List.length_append] at this; omega
      rw [hσ]
      generalize σ.getD 1 none = o1
      clear hσ
      refine ⟨_, rfl, _, rfl, l2, _, rfl, .inl (SqL.of hl2), p, c, b + i, _, rfl, t2, by omega, lim_small (by omega) (by omega), fun x H3 hx s3 t3 => ?_⟩
      have hx' : x < ls.length := by omega
      have hl3 := s3 _ _ nlp hl2
      have hf3 := s3 _ _ nfp hf2
      have ey := List.getElem?_eq_getElem hx'
      generalize ls[x] = y at ey
      refine ⟨_, rfl, .inl ⟨rfl, _, SqL.of hf3⟩, _, rfl, _, rfl, l2, _, _, _, rfl, rfl, SqL.of hl3, atI_nat ey, f, _, _, rfl, rfl, hf3, (by rw [sizeLine_eq]; omega), ?_⟩
      have hl4 : (upd H3 f (.lst (ys ++ [y]))) l2 = some (.lst ls) := by rw [upd_ne nlf]; exact hl3
      have hf4 : (upd H3 f (.lst (ys ++ [y]))) f = some (.lst (ys ++ [y])) := upd_same
      have t4 := t3.updL (o := .lst (ys ++ [y])) nfp nfc
      have sb4 : SameBut p H (upd H3 f (.lst (ys ++ [y]))) := but_at hf0 (sb2.trans s3)
      generalize upd H3 f (.lst (ys ++ [y])) = H4 at hl4 hf4 t4 sb4 ⊢
      refine ⟨_, rfl, _, rfl, _, rfl, l2, _, rfl, SqL.of hl4, fun l3 h3 => ?_⟩
      rw [cutT]
      have u3 := same_upd (o := .lst (ls.take x)) h3
      refine ⟨_, rfl, _, rfl, tcI (i0 (v := .int ((x + 1 : Nat) : Int)) (congrArg V.int (by omega)) ⟨_, rfl, noPart ⟨l2, _, rfl, SqL.of (u3 _ _ hl4), fun l4 h4 => ?_⟩⟩)⟩
      rw [cutD _ _ (by omega)]
      have u4 := same_upd (o := .lst (ls.drop (x + 1))) h4
      refine ⟨l3, l4, _, _, rfl, rfl, u4 _ _ upd_same, upd_same, (by rw [List.length_take, List.length_drop, sizeLine_eq]; omega), fun l5 h5 => ?_⟩
      have u5 := same_upd (o := .lst (ls.take x ++ ls.drop (x + 1))) h5
      have uA := u3.trans (u4.trans u5)
      have hf5 := uA _ _ hf4
      refine ⟨l5, _, _, _, _, rfl, sb4.trans (Same.but p uA), (t4.same uA), upd_same, (fun e => by rw [e] at h5; have := (u3.trans u4) _ _ hf4; rw [h5] at this; cases this), ((t4.same (u3.trans u4)).ne h5).1, hf5, (by rw [List.length_append, hyl]; rfl), ?_⟩
      refine List.Perm.trans ?_ hpm
      rw [List.append_assoc]
      refine List.Perm.append_left ys ?_
      have e : ls = ls.take x ++ y :: ls.drop (x + 1) := by rw [← drop_at ey, List.take_append_drop]
      conv => rhs; rw [e]
      show (y :: (ls.take x ++ ls.drop (x + 1))).Perm _
      exact List.perm_middle.symm
    · rintro σ H2 ⟨l2, ls, ys, o5, o6, hσ, sb2, t2, hl2, nlf, nlp, hf2, hyl, hpm⟩
      rw [hσ]
      refine ⟨_, rfl, f, _, rfl, .inl ⟨SqL.of hf2, fun q hq => ?_⟩⟩
      have uq := same_upd (o := .tup ys) hq
      exact k q ys ls _ (sb2.trans (Same.but p uq)) (t2.same uq) (pen_fresh sb2 t2 hq) upd_same hyl hpm
theorem ok__law_rank (T : Top K mg) : FnOk PW w K mg base CX0 1 (fa K "_law_rank") (fdOf K (fa K "_law_rank")) ["_law_place"] spRankL := by
  refine T.F__law_rank.ok sc__law_rank (fun vs H Q E h => ?_) (fun cdv A outer s H vs Q E hr h => ?_)
  · obtain ⟨v, r, rfl, _h, _k⟩ := h
    rfl
  · obtain ⟨v, r, rfl, h, k⟩ := h
    have hu := hu_of hr
    refine ⟨_, (pss_one (ps_ret (pe_ifExp (pt_val (pe_callB call_isi (by rfl) T.z_isinstance (by decide +kernel) (pa_cons (pv 0) (pa_cons (pe_bltn (v := .ty "str") (by rfl) T.z_str (by decide +kernel) rfl) pa_nil)))) (pe_op op_add pe_int (pe_m1 PySem.F.slot_str_index PySem.F.type_str_index mt_sindex pe_str (pv 0))) (pe_callTy call_int1 (by rfl) T.z_int (by decide +kernel) (pa_cons (pv 0) pa_nil))))), ?_⟩
    rcases h with ⟨i, rfl, rfl⟩ | ⟨z, rfl, h, rfl⟩
    · exact ⟨_, rfl, _, _, _, _, false, rfl, .ty _, .base (.int _), kit_ty (by decide +kernel), _, rfl, iteF ⟨_, rfl, .inl ⟨_, rfl, k⟩⟩⟩
    · refine ⟨_, rfl, _, _, _, _, true, rfl, .ty _, .base (.str z), kit_ty (by decide +kernel), _, rfl, iteT ?_⟩
      refine ⟨⟨_, rfl⟩, _, rfl, "abc", z, lipN z, [], rfl, rfl, ?_, 90, _, rfl, rfl, k⟩
      rcases h with rfl | rfl | rfl <;> decide +kernel
theorem ok__law_ties (T : Top K mg) : FnOk PW w K mg base CX0 2 (fa K "_law_ties") (fdOf K (fa K "_law_ties")) ["_law_pen_here", "_law_lips", "_law_fresh", "_law_far"] (spTiesL K) := by
  refine T.F__law_ties.ok sc__law_ties (fun vs H Q E h => ?_) (fun cdv A outer s H vs Q E hr h => ?_)
  · obtain ⟨p, c, b, m, n, far, rfl, _hT, _hb, _hm, _hn, _hf1, _hf2, _k⟩ := h
    rfl
  · obtain ⟨p, c, b, m, n, far, rfl, hT, hb, hm, hn, hf1, hf2, k⟩ := h
    have hu := hu_of hr
    refine ⟨_, (pss_cons (ps_par (i := 4) (j := 5) (by rfl) sc__law_ties.nd rfl rfl (by decide) rfl rfl (pa_cons (pe_op op_cat (pe_callTy (cr_listStr rfl) (by rfl) T.z_list (by decide +kernel) (pa_cons (pe_slice sl_str pe_str po_none (po_some (pv 1))) pa_nil)) (pe_listRg rfl (by rfl) T.z_list (prg_1 (by rfl) T.z_range (pv 2)))) (pa_cons (pe_lst pa_nil) pa_nil)) (by rfl))
      (pss_cons (ps_set (i := 6) sc__law_ties.nd rfl (Or.inl rfl) (pe_op op_add pe_int (pe_call (ok__law_draw T) (hr.mono (by decide)) rfl T.g__law_draw T.F__law_draw.kp T.b__law_draw .nil pass0 (pa_cons (pv 0) (pa_cons pe_int pa_nil)))))
      (pss_cons (ps_for PassesOwn.never rfl (pi_range1 (by rfl) T.z_range (pa_cons (pe_callB call_len_seq (by rfl) T.z_len (by decide +kernel) (pa_cons (pv 4) pa_nil)) pa_nil)) (pg_name (i := 7) sc__law_ties.nd rfl (Or.inl rfl)) (pss_one (ps_for PassesOwn.never rfl (pi_range2 (by rfl) T.z_range (pa_cons (pe_op op_add (pv 7) pe_int) (pa_cons (pe_callB call_len_seq (by rfl) T.z_len (by decide +kernel) (pa_cons (pv 4) pa_nil)) pa_nil))) (pg_name (i := 8) sc__law_ties.nd rfl (Or.inl rfl)) (pss_one (ps_if (PW.pt (pw_and (pt_cmpR op_ge (pv 8) (pv 1) (nomark _)) (pw_and1 (pt_cmpR op_lt (pe_call (ok__law_draw T) (hr.mono (by decide)) rfl T.g__law_draw T.F__law_draw.kp T.b__law_draw .nil pass0 (pa_cons (pv 0) (pa_cons pe_int pa_nil))) (pv 6) (nomark _))))) (pss_cons (ps_set (i := 9) sc__law_ties.nd rfl (Or.inl rfl) (pe_op op_add pe_int (pe_call (ok__law_draw T) (hr.mono (by decide)) rfl T.g__law_draw T.F__law_draw.kp T.b__law_draw .nil pass0 (pa_cons (pv 0) (pa_cons (pv 3) pa_nil)))))
      (pss_cons (ps_set (i := 10) sc__law_ties.nd rfl (Or.inl rfl) (pe_ifExp (pt_cmpR op_eq (pe_call (ok__law_draw T) (hr.mono (by decide)) rfl T.g__law_draw T.F__law_draw.kp T.b__law_draw .nil pass0 (pa_cons (pv 0) (pa_cons pe_int pa_nil))) pe_int (nomark _)) (pe_tup (pa_cons (pe_ix ix_list (pv 4) (pv 7) (fun _ _ => rfl)) (pa_cons (pe_ix ix_list (pv 4) (pv 8) (fun _ _ => rfl)) pa_nil))) (pe_tup (pa_cons (pe_ix ix_list (pv 4) (pv 8) (fun _ _ => rfl)) (pa_cons (pe_ix ix_list (pv 4) (pv 7) (fun _ _ => rfl)) pa_nil)))))
      (pss_one (ps_expr (pe_bm PySem.F.plainAttrs_list PySem.F.slot_list_append PySem.F.type_list_append mt_append (pv 5) (pa_cons (pe_tup (pa_cons (pe_ix ix_tup (pv 10) pe_int (fun _ _ => rfl)) (pa_cons (pe_ix ix_tup (pv 10) pe_int (fun _ _ => rfl)) (pa_cons (pv 9) pa_nil)))) pa_nil)))))) pss_nil)))))
      (pss_one (ps_ret (pv 5)))))), ?_⟩
    have hmu : m ≤ 1000 := by omega
    refine ⟨_, rfl, _, rfl, "abc", rfl, by decide, _, rfl, szS (by have : (cutS "abc" none (some (m : Int))).length ≤ 3 := (by rcases m with _ | _ | _ | _ | m <;> first | omega | decide +kernel); omega), fun a1 ha1 => ?_⟩
    have u1 := same_upd (o := .lst ((SM.signs (cutS "abc" none (some (m : Int)))).map V.str)) ha1
    refine ⟨_, rfl, _, rfl, .of_le (by omega) (by omega) (by omega) (by omega), fun a2 ha2 => ?_⟩
    have u2 := same_upd (o := .lst (rgV 0 (n : Int))) ha2
    refine ⟨a1, a2, _, _, rfl, rfl, u2 _ _ upd_same, upd_same, (by rw [← List.length_append, places_eq hm hn, plcs_len, sizeLine_eq]; omega), fun pl hpl => ?_⟩
    rw [places_eq hm hn]
    have u3 := same_upd (o := .lst (plcs m n)) hpl
    refine ⟨Nat.zero_le _, fun f hf => ⟨_, _, rfl, ?_⟩⟩
    have u4 := same_upd (o := .lst []) hf
    have u := u1.trans (u2.trans (u3.trans u4))
    have hf0 := fresh_back (u1.trans (u2.trans u3)) hf
    have hpl0 := fresh_back (u1.trans u2) hpl
    have hp1 := u4 _ _ (upd_same (a := pl) (o := .lst (plcs m n)))
    have hf1' := upd_same (a := f) (o := HO.lst ([] : List V)) (H := upd (upd (upd H a1 (.lst ((SM.signs (cutS "abc" none (some (m : Int)))).map V.str))) a2 (.lst (rgV 0 (n : Int)))) pl (.lst (plcs m n)))
    have t1 := hT.same u
    have npf : pl ≠ f := fun e => by rw [← e, upd_same] at hf; cases hf
    generalize upd (upd (upd (upd H a1 (.lst ((SM.signs (cutS "abc" none (some (m : Int)))).map V.str))) a2 (.lst (rgV 0 (n : Int)))) pl (.lst (plcs m n))) f (.lst []) = H1 at hp1 hf1' u t1 ⊢
    obtain ⟨nfp, nfc⟩ := hT.ne hf0
    have nlp := (hT.ne hpl0).1
    refine ⟨_, rfl, p, c, b, 5, rfl, t1, by omega, lim_small (by decide) (by decide), fun x1 H2 hx1 s1 t2 => ?_⟩
    obtain ⟨sh, hsh⟩ : ∃ sh : Int, 2 + (x1 : Int) = sh := ⟨_, rfl⟩
    refine i0 (v := .int sh) (congrArg V.int hsh) ?_
    have sb2 : SameBut p H H2 := (Same.but p u).trans s1
    have hp2 := s1 _ _ nlp hp1
    have hf2' := s1 _ _ nfp hf1'
    refine ⟨_, rfl, pl, _, rfl, .inl (SqL.of hp2), _, rfl, (by rw [plcs_len]; omega), (by rw [plcs_len]; omega), ?_⟩
    have hl : (((plcs m n).length : Nat) : Int).toNat = m + n := by rw [plcs_len]; rfl
    refine for_range (lo := 0) (n := (((plcs m n).length : Nat) : Int).toNat) (fun i σ H3 => ∃ (ts : List (V × V × Int)) (o7 o8 o9 o10 : Option V), σ = [some (.ref p), some (.int (m : Int)), some (.int (n : Int)), some (.int far), some (.ref pl), some (.ref f), some (.int sh), o7, o8, o9, o10] ∧ SameBut p H H3 ∧ PenOk H3 p c (b + 1 + 30 * i) ∧ H3 pl = some (.lst (plcs m n)) ∧ TsAt H3 f ts ∧ (∀ t ∈ ts, TieK m n i 0 t) ∧ (ts.map kt).Nodup ∧ ts.length ≤ 9 * i)
      ⟨[], _, _, _, _, rfl, sb2, t2, hp2, ⟨[], hf2', .nil⟩, (fun _ h => nomatch h), List.Pairwise.nil, Nat.zero_le _⟩ ?_ ?_
    · rintro i σ H3 hi ⟨ts, o7, o8, o9, o10, rfl, sb3, t3, hp3, hts3, hk3, hnd3, hl3⟩
      rw [hl] at hi
      refine ⟨_, rfl, _, _, rfl, rfl, _, rfl, pl, _, rfl, .inl (SqL.of hp3), _, _, rfl, (by rw [plcs_len]; omega), ?_⟩
      have hd : (((plcs m n).length : Nat) : Int) - (0 + (i : Int) + 1) = ((m + n - (i + 1) : Nat) : Int) := by rw [plcs_len]; omega
      rw [hd]
      refine for_range (lo := 0 + (i : Int) + 1) (n := ((m + n - (i + 1) : Nat) : Int).toNat) (fun q σ H4 => ∃ (ts : List (V × V × Int)) (o8 o9 o10 : Option V), σ = [some (.ref p), some (.int (m : Int)), some (.int (n : Int)), some (.int far), some (.ref pl), some (.ref f), some (.int sh), some (.int (0 + (i : Int))), o8, o9, o10] ∧ SameBut p H H4 ∧ PenOk H4 p c (b + 1 + 30 * i + 3 * q) ∧ H4 pl = some (.lst (plcs m n)) ∧ TsAt H4 f ts ∧ (∀ t ∈ ts, TieK m n i (i + 1 + q) t) ∧ (ts.map kt).Nodup ∧ ts.length ≤ 9 * i + q)
        ⟨ts, _, _, _, rfl, sb3, t3, hp3, hts3, (fun t ht => ?_), hnd3, hl3⟩ ?_ ?_
      · obtain ⟨i', j', h1, h2, h3, h4, h5, h6, h7⟩ := hk3 t ht
        exact ⟨i', j', h1, h2, h3, h4, h5, h6, by omega⟩
      · rintro q σ H4 hq ⟨ts, o8, o9, o10, rfl, sb4, t4, hp4, hts4, hk4, hnd4, hl4⟩
        have hq' : q < m + n - (i + 1) := hq
        have ej : (0 + (i : Int) + 1 + (q : Int)) = ((i + 1 + q : Nat) : Int) := by omega
        have ei : (0 + (i : Int)) = (i : Int) := by omega
        rw [ej, ei]
        generalize hj : i + 1 + q = j at hk4 ⊢
        have hij : i < j := by omega
        have hjn : j < m + n := by omega
        have skip : ∀ {H5 : Hp} {b' : Nat} {o8 o9 o10 : Option V}, b' ≤ b + 1 + 30 * i + 3 * (q + 1) → SameBut p H H5 → PenOk H5 p c b' → H5 pl = some (.lst (plcs m n)) → TsAt H5 f ts → ∃ (ts : List (V × V × Int)) (o8' o9' o10' : Option V), [some (.ref p), some (.int (m : Int)), some (.int (n : Int)), some (.int far), some (.ref pl), some (.ref f), some (.int sh), some (.int (i : Int)), o8, o9, o10] = [some (.ref p), some (.int (m : Int)), some (.int (n : Int)), some (.int far), some (.ref pl), some (.ref f), some (.int sh), some (.int (i : Int)), o8', o9', o10'] ∧ SameBut p H H5 ∧ PenOk H5 p c (b + 1 + 30 * i + 3 * (q + 1)) ∧ H5 pl = some (.lst (plcs m n)) ∧ TsAt H5 f ts ∧ (∀ t ∈ ts, TieK m n i (i + 1 + (q + 1)) t) ∧ (ts.map kt).Nodup ∧ ts.length ≤ 9 * i + (q + 1) := fun hb' a1 a2 a3 a4 => ⟨ts, _, _, _, rfl, a1, a2.mono hb', a3, a4, (fun t ht => by
          obtain ⟨i', j', h1, h2, h3, h4, h5, h6, h7⟩ := hk4 t ht
          exact ⟨i', j', h1, h2, h3, h4, h5, h6, by omega⟩), hnd4, by omega⟩
        refine ⟨_, rfl, _, rfl, _, _, rfl, rfl, _, rfl, ?_⟩
        refine andW (P := fun H5 => SameBut p H H5 ∧ PenOk H5 p c (b + 1 + 30 * i + 3 * q + 1) ∧ H5 pl = some (.lst (plcs m n)) ∧ TsAt H5 f ts) (R := fun H5 => m ≤ j ∧ SameBut p H H5 ∧ PenOk H5 p c (b + 1 + 30 * i + 3 * q + 1) ∧ H5 pl = some (.lst (plcs m n)) ∧ TsAt H5 f ts) (fun _ => ⟨sb4, t4.mono (by omega), hp4, hts4⟩) ?_ ?_ ?_
        · intro hmj Q5 q5 q6
          have hmj' : m ≤ j := by have := of_decide_eq_true hmj; omega
          refine ⟨_, rfl, p, c, _, 7, rfl, t4, by omega, lim_small (by decide) (by decide), fun x2 H5 hx2 s5 t5 => ?_⟩
          obtain ⟨kd, hkd⟩ := t4.dict
          have hp5 := s5 _ _ nlp hp4
          have hts5 := hts4.but hkd s5
          refine ⟨_, rfl, _, _, rfl, rfl, _, rfl, ?_⟩
          by_cases cs : (x2 : Int) < sh
          · rw [decide_eq_true cs]
            exact q6 _ ⟨hmj', sb4.trans s5, t5, hp5, hts5⟩
          · rw [decide_eq_false cs]
            exact q5 _ ⟨sb4.trans s5, t5, hp5, hts5⟩
        · rintro H5 ⟨a1, a2, a3, a4⟩
          exact skip (by omega) a1 a2 a3 a4
        · rintro H5 ⟨hmj, sb5, t5, hp5, hts5⟩
          obtain ⟨kd, hkd⟩ := t5.dict
          refine ⟨_, rfl, _, rfl, p, c, _, far, rfl, t5, by omega, lim100 hf1 hf2, fun xl H6 hxl s6 t6 => ?_⟩
          obtain ⟨ln, hln⟩ : ∃ ln : Int, 1 + (xl : Int) = ln := ⟨_, rfl⟩
          refine i0 (v := .int ln) (congrArg V.int hln) ?_
          have hp6 := s6 _ _ nlp hp5
          have hts6 := hts5.but hkd s6
          have sb6 := sb5.trans s6
          obtain ⟨kd6, hkd6⟩ := t6.dict
          refine ⟨_, rfl, p, c, _, 2, rfl, t6, by omega, lim_small (by decide) (by decide), fun x3 H7 hx3 s7 t7 => ?_⟩
          have hp7 := s7 _ _ nlp hp6
          have hts7 := hts6.but hkd6 s7
          have sb7 := sb6.trans s7
          have ai := plcs_at (m := m) (n := n) (i := i) (by omega)
          have aj := plcs_at (m := m) (n := n) (i := j) (by omega)
          refine tcI ⟨rfl, _, rfl, ?_⟩
          refine joinE (fun v H8 => ∃ q x y, v = .ref q ∧ H8 q = some (.tup [x, y]) ∧ ((x = plc m i ∧ y = plc m j) ∨ (x = plc m j ∧ y = plc m i)) ∧ Same H7 H8) ?_ ?_ ?_
          · intro _ Q' hQ'
            refine ⟨_, rfl, _, rfl, pl, _, _, _, rfl, rfl, SqL.of hp7, atI_nat ai, _, rfl, _, rfl, pl, _, _, _, rfl, rfl, SqL.of hp7, atI_nat aj, Nat.le_of_ble_eq_true rfl, fun tq htq => ?_⟩
            exact hQ' _ _ ⟨tq, _, _, rfl, upd_same, .inl ⟨rfl, rfl⟩, same_upd htq⟩
          · intro _ Q' hQ'
            refine ⟨_, rfl, _, rfl, pl, _, _, _, rfl, rfl, SqL.of hp7, atI_nat aj, _, rfl, _, rfl, pl, _, _, _, rfl, rfl, SqL.of hp7, atI_nat ai, Nat.le_of_ble_eq_true rfl, fun tq htq => ?_⟩
            exact hQ' _ _ ⟨tq, _, _, rfl, upd_same, .inr ⟨rfl, rfl⟩, same_upd htq⟩
          · rintro v H8 ⟨tq, x, y, rfl, htq, hxy, s8⟩
            obtain ⟨rs, hrs, hrp⟩ := hts7.same s8
            refine ⟨_, rfl, .inl ⟨rfl, _, SqL.of hrs⟩, _, rfl, tcI ⟨tq, _, _, _, rfl, rfl, SqT.of htq, rfl, _, rfl, tcI ⟨tq, _, _, _, rfl, rfl, SqT.of htq, rfl, _, rfl, Nat.le_of_ble_eq_true rfl, fun tr htr => ?_⟩⟩⟩
            have ur := same_upd (o := .tup [x, y, .int ln]) htr
            have hrl : rs.length = ts.length := Paired.length hrp
            refine ⟨f, _, _, rfl, rfl, ur _ _ hrs, (by rw [List.length_map, sizeLine_eq]; omega), ?_⟩
            have nt : TieIn m n (x, y, ln) := ⟨i, j, hij, hmj, hjn, hxy, by show 1 ≤ ln; omega, by show ln ≤ 10 ^ 100; omega⟩
            have sF : SameBut p H (upd (upd H8 tr (.tup [x, y, .int ln])) f (.lst (rs.map V.ref ++ [.ref tr]))) := but_at hf0 (sb7.trans (Same.but p (s8.trans ur)))
            have tF : PenOk (upd (upd H8 tr (.tup [x, y, .int ln])) f (.lst (rs.map V.ref ++ [.ref tr]))) p c (b + 1 + 30 * i + 3 * (q + 1)) := ((t7.same (s8.trans ur)).updL nfp nfc).mono (by omega)
            have keep : ∀ r t, TieL H8 r t → TieL (upd (upd H8 tr (.tup [x, y, .int ln])) f (.lst (rs.map V.ref ++ [.ref tr]))) r t := fun r t h => by
              have h2 : (upd H8 tr (.tup [x, y, .int ln])) r = _ := ur _ _ h
              unfold TieL
              rw [upd_ne (fun e => by rw [e, ur _ _ hrs] at h2; cases h2)]
              exact h2
            have nk := kt_of hm hn hij hmj hjn (t := (x, y, ln)) hxy
            refine ⟨ts ++ [(x, y, ln)], _, _, _, rfl, sF, tF, ?_, ⟨rs ++ [tr], (by rw [upd_same, List.map_append]; rfl), ?_⟩, fun t ht => ?_, ?_, (by rw [List.length_append]; show ts.length + 1 ≤ _; omega)⟩
            · rw [upd_ne npf]
              exact (s8.trans ur) _ _ hp7
            · refine Paired.append (Paired.mapP hrp keep) ?_
              unfold TieL
              rw [upd_ne (fun e => by rw [e, hrs] at htr; cases htr)]
              exact upd_same
            · rcases List.mem_append.mp ht with ht | ht
              · obtain ⟨i', j', h1, h2, h3, h4, h5, h6, h7⟩ := hk4 t ht
                exact ⟨i', j', h1, h2, h3, h4, h5, h6, by omega⟩
              · rw [List.mem_singleton.mp ht]
                exact ⟨i, j, hij, hmj, hjn, hxy, by show 1 ≤ ln; omega, by show ln ≤ 10 ^ 100; omega, by omega⟩
            · rw [List.map_append, List.nodup_append]
              refine ⟨hnd4, by simp, fun u hu w hw => ?_⟩
              rw [List.map_cons, List.map_nil, List.mem_singleton] at hw
              rw [hw, nk.1]
              obtain ⟨t, ht, rfl⟩ := List.mem_map.mp hu
              obtain ⟨i', j', h1, h2, h3, h4, h5, h6, h7⟩ := hk4 t ht
              rw [(kt_of hm hn h1 h2 h3 h4).1]
              intro e
              have := kp_inj hm hn h1 h2 h3 hij hmj hjn e
              omega
      · rintro σ H4 ⟨ts, o8, o9, o10, rfl, sb4, t4, hp4, hts4, hk4, hnd4, hl4⟩
        have hq8 : (((m + n - (i + 1) : Nat) : Int).toNat) = m + n - (i + 1) := rfl
        rw [hq8] at t4 hl4
        refine ⟨ts, _, _, _, _, rfl, sb4, t4.mono (by omega), hp4, hts4, (fun t ht => ?_), hnd4, by omega⟩
        obtain ⟨i', j', h1, h2, h3, h4, h5, h6, h7⟩ := hk4 t ht
        exact ⟨i', j', h1, h2, h3, h4, h5, h6, by omega⟩
    · rintro σ H3 ⟨ts, o7, o8, o9, o10, rfl, sb3, t3, hp3, hts3, hk3, hnd3, hl3⟩
      rw [hl] at t3 hl3
      refine ⟨_, rfl, k f ts H3 sb3 (t3.mono (by omega)) hf0 hts3 ⟨fun t ht => ?_, hnd3, by omega⟩⟩
      obtain ⟨i', j', h1, h2, h3, h4, h5, h6, h7⟩ := hk3 t ht
      exact ⟨i', j', h1, h2, h3, h4, h5, h6⟩
end
end R4
set_option Elab.async false
set_option linter.all false
set_option maxRecDepth 100000
set_option maxHeartbeats 4000000
set_option pp.maxSteps 700
namespace R4
open PySem L2 PySem.GW LamX SM
section
variable {w : World} {K : PySem.W.Frag} {mg : Str → Option Value} {base : Heap}
open PyProof.Rows (int_text_len_1921)
/-! ### the order of the texts of the ties -/
def lrV : V → Int
  | .int i => i
  | .str z => 90 + (lipN z : Int)
  | _ => 0
def rowD (t : V × V × Int) : PyData := .tuple [.int (lrV t.1), .int (lrV t.2.1), tieD t]
theorem tup3_cps (a b c : PyData) : (PyData.shown (.tuple [a, b, c])).cps.toList = 40 :: ((PyData.shown a).cps.toList ++ 44 :: 32 :: ((PyData.shown b).cps.toList ++ 44 :: 32 :: ((PyData.shown c).cps.toList ++ [41]))) := by
  show (("(" : Str) ++ (PyData.shown a ++ ", " ++ (PyData.shown b ++ ", " ++ PyData.shown c)) ++ (")" : Str)).cps.toList = _
  have e1 : ("(" : Str).cps.toList = [40] := by decide +kernel
  have e2 : (", " : Str).cps.toList = [44, 32] := by decide +kernel
  have e3 : (")" : Str).cps.toList = [41] := by decide +kernel
  simp only [PySem.Str.cps_append, Array.toList_append, e1, e2, e3, List.append_assoc, List.cons_append, List.nil_append]
theorem tup3_len (a b c : PyData) : (PyData.shown (.tuple [a, b, c])).length = (PyData.shown a).length + (PyData.shown b).length + (PyData.shown c).length + 6 := by
  have h := congrArg List.length (tup3_cps a b c)
  simp only [List.length_append, List.length_cons, Array.length_toList, List.length_nil] at h
  show (PyData.shown (.tuple [a, b, c])).cps.size = (PyData.shown a).cps.size + (PyData.shown b).cps.size + (PyData.shown c).cps.size + 6
  omega
theorem int_cps (n : Nat) : (PyData.shown (.int (n : Int))).cps.toList = TL.numL n := by
  show (Str.ofString (toString ((n : Nat) : Int))).cps.toList = _
  exact TL.tl_num n
theorem int_len {i : Int} (h : i.natAbs.log2 < 1920) : (PyData.shown (.int i)).length ≤ 1921 := int_text_len_1921 h
/-- a tie as it is kept: a number ahead, then a greater number or a letter -/
def NTie (t : V × V × Int) : Prop := ∃ a : Nat, a ≤ 5 ∧ t.1 = .int (a : Int) ∧ kt t = ((a : Int), rankV t.2.1) ∧ nrm t = t ∧ ((∃ b : Nat, b ≤ 5 ∧ t.2.1 = .int (b : Int)) ∨ (∃ b : Nat, b ≤ 2 ∧ t.2.1 = .str ⟨#[97 + b]⟩)) ∧ 1 ≤ t.2.2 ∧ t.2.2 ≤ 10 ^ 100
theorem lip_at {b : Nat} (h : b ≤ 2) : lrV (.str ⟨#[97 + b]⟩) = 90 + (b : Int) ∧ rankV (.str ⟨#[97 + b]⟩) = 6 + (b : Int) ∧ isLip ⟨#[97 + b]⟩ ∧ (PyData.shown (.str ⟨#[97 + b]⟩)).length ≤ 3 := by
  have : ∀ b, b ≤ 2 → lrV (.str ⟨#[97 + b]⟩) = 90 + (b : Int) ∧ rankV (.str ⟨#[97 + b]⟩) = 6 + (b : Int) ∧ ((⟨#[97 + b]⟩ : Str) = "a" ∨ (⟨#[97 + b]⟩ : Str) = "b" ∨ (⟨#[97 + b]⟩ : Str) = "c") ∧ (PyData.shown (.str ⟨#[97 + b]⟩)).length ≤ 3 := by decide +kernel
  exact this b h
/-- the signs of the second rank -/
def snd (t : V × V × Int) : List Nat := TL.numL (lrV t.2.1).toNat
theorem row_cps {t : V × V × Int} {a : Nat} (ha : a ≤ 5) (h1 : t.1 = .int (a : Int)) (h2 : 0 ≤ lrV t.2.1) : ∃ r, (PyData.shown (rowD t)).cps.toList = 40 :: (48 + a) :: 44 :: 32 :: (snd t ++ 44 :: r) := by
  unfold rowD
  rw [tup3_cps, h1]
  have e1 : (PyData.shown (.int (lrV (.int (a : Int))))).cps.toList = [48 + a] := by
    show (PyData.shown (.int (a : Int))).cps.toList = _
    rw [int_cps, TL.numL_lt (by omega)]
  obtain ⟨n, hn⟩ := Int.eq_ofNat_of_zero_le h2
  have e2 : (PyData.shown (.int (lrV t.2.1))).cps.toList = snd t := by
    unfold snd
    rw [hn, int_cps]
    rfl
  rw [e1, e2]
  exact ⟨_, rfl⟩
theorem row_lt {t u : V × V × Int} (ht : NTie t) (hu : NTie u) (h : SrtO.lexB (kt t) (kt u) = true) : ¬ ((PyData.shown (rowD u)).cps.toList ≤ (PyData.shown (rowD t)).cps.toList) := by
  obtain ⟨a, ha, h1, h2, _, h3, _⟩ := ht
  obtain ⟨c, hc, g1, g2, _, g3, _⟩ := hu
  have nn : ∀ {v : V}, ((∃ b : Nat, b ≤ 5 ∧ v = .int (b : Int)) ∨ (∃ b : Nat, b ≤ 2 ∧ v = .str ⟨#[97 + b]⟩)) → 0 ≤ lrV v := by
    rintro v (⟨b, _, rfl⟩ | ⟨b, hb, rfl⟩)
    · show (0 : Int) ≤ (b : Int); omega
    · rw [(lip_at hb).1]; omega
  obtain ⟨r1, e1⟩ := row_cps (t := t) ha h1 (nn h3)
  obtain ⟨r2, e2⟩ := row_cps (t := u) hc g1 (nn g3)
  rw [e1, e2]
  rw [List.not_le]
  rw [h2, g2] at h
  have h' := SrtO.lexB_iff.mp h
  dsimp only at h'
  refine List.cons_lt_cons_iff.mpr (.inr ⟨rfl, ?_⟩)
  rcases h' with h' | ⟨h', h''⟩
  · exact List.cons_lt_cons_iff.mpr (.inl (by omega))
  · refine List.cons_lt_cons_iff.mpr (.inr ⟨by omega, List.cons_lt_cons_iff.mpr (.inr ⟨rfl, List.cons_lt_cons_iff.mpr (.inr ⟨rfl, ?_⟩)⟩)⟩)
    unfold snd
    have nin : ∀ b : Nat, b ≤ 2 → TL.numL (90 + b) = [57, 48 + b] := fun b hb => by
      rw [TL.numL_step (by omega), TL.numL_lt (by omega), show (90 + b) / 10 = 9 by omega, show (90 + b) % 10 = b by omega]
      rfl
    rcases h3 with ⟨b, hb, e3⟩ | ⟨b, hb, e3⟩
    · rw [e3] at h'' ⊢
      have s1 : (lrV (.int (b : Int))).toNat = b := rfl
      rw [s1, TL.numL_lt (by omega)]
      rcases g3 with ⟨d, hd, e4⟩ | ⟨d, hd, e4⟩
      · rw [e4] at h'' ⊢
        have s2 : (lrV (.int (d : Int))).toNat = d := rfl
        rw [s2, TL.numL_lt (by omega)]
        have : (b : Int) < (d : Int) := h''
        exact List.cons_lt_cons_iff.mpr (.inl (by omega))
      · rw [e4]
        have s2 : (lrV (.str ⟨#[97 + d]⟩)).toNat = 90 + d := by rw [(lip_at hd).1]; omega
        rw [s2, nin d hd]
        exact List.cons_lt_cons_iff.mpr (.inl (by omega))
    · rw [e3, (lip_at hb).2.1] at h''
      rw [e3]
      have s1 : (lrV (.str ⟨#[97 + b]⟩)).toNat = 90 + b := by rw [(lip_at hb).1]; omega
      rw [s1, nin b hb]
      rcases g3 with ⟨d, hd, e4⟩ | ⟨d, hd, e4⟩
      · rw [e4] at h''
        have : (6 : Int) + (b : Int) < (d : Int) := h''
        omega
      · rw [e4, (lip_at hd).2.1] at h''
        rw [e4]
        have s2 : (lrV (.str ⟨#[97 + d]⟩)).toNat = 90 + d := by rw [(lip_at hd).1]; omega
        rw [s2, nin d hd]
        exact List.cons_lt_cons_iff.mpr (.inr ⟨rfl, List.cons_lt_cons_iff.mpr (.inl (by omega))⟩)
/-- the order of two rows -/
def rle (x y : Addr × PyData) : Bool := decide ((PyData.shown x.2).cps.toList ≤ (PyData.shown y.2).cps.toList)
theorem rows_sorted {l : List (Addr × V × V × Int)} (hl : ∀ q ∈ l, NTie q.2) : ∃ l' : List (Addr × V × V × Int), l'.Perm l ∧ l'.map (fun q => (q.1, rowD q.2)) = (l.map fun q => (q.1, rowD q.2)).mergeSort rle ∧ (l'.map (·.2)).Pairwise lexLt := by
  obtain ⟨l', h1, h2⟩ := perm_map_inv (f := fun q : Addr × V × V × Int => (q.1, rowD q.2)) (List.mergeSort_perm (l.map fun q => (q.1, rowD q.2)) rle) l rfl
  refine ⟨l', h1, h2, ?_⟩
  have hs := List.pairwise_mergeSort (le := rle) (fun a b c h1 h2 => decide_eq_true (List.le_trans (of_decide_eq_true h1) (of_decide_eq_true h2))) (fun a b => by
    unfold rle
    rw [Bool.or_eq_true, decide_eq_true_eq, decide_eq_true_eq]
    exact List.le_total _ _) (l.map fun q => (q.1, rowD q.2))
  rw [← h2, List.pairwise_map] at hs
  rw [List.pairwise_map]
  have hm : ∀ q ∈ l', NTie q.2 := fun q hq => hl q (h1.mem_iff.mp hq)
  refine (List.Pairwise.and_mem.mp hs).imp fun {x y} hxy => ?_
  obtain ⟨hx, hy, hle⟩ := hxy
  show SrtO.lexB (kt y.2) (kt x.2) = false
  cases hc : SrtO.lexB (kt y.2) (kt x.2) with
  | false => rfl
  | true => exact absurd (of_decide_eq_true hle) (row_lt (hm y hy) (hm x hx) hc)
/-- there is one such order -/
theorem lex_one : ∀ {a b : List (V × V × Int)}, a.Perm b → (a.map kt).Nodup → a.Pairwise lexLt → b.Pairwise lexLt → a = b
  | [], b, h, _, _, _ => List.Perm.nil_eq h
  | x :: r, [], h, _, _, _ => absurd h.length_eq (by simp)
  | x :: r, y :: t, h, nd, ha, hb => by
    have hx : x ∈ y :: t := h.subset List.mem_cons_self
    have hy : y ∈ x :: r := h.symm.subset List.mem_cons_self
    rw [List.map_cons, List.nodup_cons] at nd
    have e : x = y := by
      rcases List.mem_cons.mp hy with e | m1
      · exact e.symm
      rcases List.mem_cons.mp hx with e | m2
      · exact e
      have h1 := (List.pairwise_cons.mp ha).1 y m1
      have h2 := (List.pairwise_cons.mp hb).1 x m2
      have e : kt x = kt y := by
        have h1' := SrtO.lexB_no.mp h1
        have h2' := SrtO.lexB_no.mp h2
        exact Prod.ext (by omega) (by omega)
      exact absurd (by rw [e]; exact List.mem_map_of_mem m1) nd.1
    subst e
    rw [lex_one h.cons_inv nd.2 (List.pairwise_cons.mp ha).2 (List.pairwise_cons.mp hb).2]
theorem ntie {m n : Nat} {t : V × V × Int} (hm : m ≤ 3) (hn : n ≤ 6) (h : TieIn m n t) : NTie (nrm t) := by
  obtain ⟨i, j, h1, h2, h3, h4, h5, h6⟩ := h
  obtain ⟨g1, g2⟩ := kt_of hm hn h1 h2 h3 h4
  have k1 : kt (nrm t) = ((rankV (nrm t).1), rankV (nrm t).2.1) := by
    unfold kt
    rw [nrm_nrm]
  rcases g2 with ⟨a, e⟩ | ⟨a, e⟩
  · refine ⟨j - m, by omega, by rw [e]; exact plc_num h2, ?_, nrm_nrm t, .inr ⟨i, by omega, by rw [e]; exact plc_lip a⟩, by rw [e]; exact h5, by rw [e]; exact h6⟩
    rw [k1]
    rw [show (nrm t).1 = plc m j by rw [e], rank_num h2]
  · refine ⟨i - m, by omega, by rw [e]; exact plc_num a, ?_, nrm_nrm t, .inl ⟨j - m, by omega, by rw [e]; exact plc_num h2⟩, by rw [e]; exact h5, by rw [e]; exact h6⟩
    rw [k1]
    rw [show (nrm t).1 = plc m i by rw [e], rank_num a]
theorem NTie.ok {t : V × V × Int} (h : NTie t) : plOk t.1 ∧ plOk t.2.1 := by
  obtain ⟨a, _, h1, _, _, h3, _⟩ := h
  refine ⟨.inl ⟨_, h1⟩, ?_⟩
  rcases h3 with ⟨b, _, e⟩ | ⟨b, hb, e⟩
  · exact .inl ⟨_, e⟩
  · exact .inr ⟨_, e, (lip_at hb).2.2.1⟩
theorem log_small {i : Int} {k : Nat} (h : i.natAbs < 2 ^ k) (hk : k ≤ 1920) : i.natAbs.log2 < 1920 := by
  by_cases h0 : i.natAbs = 0
  · rw [h0]; decide
  · have := (Nat.log2_lt h0).mpr h
    omega
theorem log100 {i : Int} (h : 0 ≤ i) (h2 : i ≤ 10 ^ 100) : i.natAbs.log2 < 1920 := by
  have h3 : i.natAbs < 16 ^ 100 := by
    have : (10 : Nat) ^ 100 < 16 ^ 100 := Nat.pow_lt_pow_left (by decide) (by decide)
    omega
  have e : (16 : Nat) ^ 100 = 2 ^ (4 * 100) := by rw [Nat.pow_mul]
  rw [e] at h3
  exact log_small h3 (by decide)
theorem NTie.row {t : V × V × Int} (h : NTie t) : PyData.showable (rowD t) = true ∧ PyData.hasDict (rowD t) = false ∧ PyData.depth (rowD t) ≤ 60 ∧ (PyData.shown (rowD t)).length ≤ sizeLine := by
  obtain ⟨x, y, l⟩ := t
  obtain ⟨a, ha, h1, _, _, h3, h4, h5⟩ := h
  dsimp only at h1 h3 h4 h5
  subst h1
  have la : ((a : Nat) : Int).natAbs.log2 < 1920 := log_small (k := 4) (by omega) (by decide)
  have ll := log100 (i := l) (by omega) h5
  have l1 := int_len la
  have l2 := int_len ll
  rcases h3 with ⟨b, hb, rfl⟩ | ⟨b, hb, rfl⟩
  · have lb : ((b : Nat) : Int).natAbs.log2 < 1920 := log_small (k := 4) (by omega) (by decide)
    have l3 := int_len lb
    refine ⟨?_, rfl, (by show max 0 (max 0 (max (max 0 (max 0 (max 0 0)) + 1) 0)) + 1 ≤ 60; decide), ?_⟩
    · show (decide ((a : Int).natAbs.log2 < 1920) && (decide ((b : Int).natAbs.log2 < 1920) && ((decide ((a : Int).natAbs.log2 < 1920) && (decide ((b : Int).natAbs.log2 < 1920) && (decide (l.natAbs.log2 < 1920) && true))) && true))) = true
      rw [decide_eq_true la, decide_eq_true lb, decide_eq_true ll]
      rfl
    · unfold rowD tieD
      rw [tup3_len, tup3_len, sizeLine_eq]
      show (PyData.shown (.int (a : Int))).length + (PyData.shown (.int (b : Int))).length + ((PyData.shown (.int (a : Int))).length + (PyData.shown (.int (b : Int))).length + (PyData.shown (.int l)).length + 6) + 6 ≤ _
      omega
  · obtain ⟨e1, _, _, e4⟩ := lip_at hb
    have lb : ((90 + (b : Int))).natAbs.log2 < 1920 := log_small (k := 8) (by omega) (by decide)
    have l3 := int_len lb
    refine ⟨?_, rfl, (by show max 0 (max 0 (max (max 0 (max 0 (max 0 0)) + 1) 0)) + 1 ≤ 60; decide), ?_⟩
    · show (decide ((a : Int).natAbs.log2 < 1920) && (decide ((lrV (.str ⟨#[97 + b]⟩)).natAbs.log2 < 1920) && ((decide ((a : Int).natAbs.log2 < 1920) && (true && (decide (l.natAbs.log2 < 1920) && true))) && true))) = true
      rw [e1, decide_eq_true la, decide_eq_true lb, decide_eq_true ll]
      rfl
    · unfold rowD tieD
      rw [tup3_len, tup3_len, sizeLine_eq]
      show (PyData.shown (.int (a : Int))).length + (PyData.shown (.int (lrV (.str ⟨#[97 + b]⟩)))).length + ((PyData.shown (.int (a : Int))).length + (PyData.shown (.str ⟨#[97 + b]⟩)).length + (PyData.shown (.int l)).length + 6) + 6 ≤ _
      rw [e1]
      omega
end
end R4
set_option Elab.async false
set_option linter.all false
set_option maxRecDepth 100000
set_option maxHeartbeats 4000000
set_option pp.maxSteps 700
namespace R4
open PySem L2 PySem.GW LamX SM
section
variable {w : World} {K : PySem.W.Frag} {mg : Str → Option Value} {base : Heap}
theorem _root_.L2.Room.u80 {k : Nat} {A : Around} (r : Room k A) : A.units + 80 < cLine := by have := r.un; omega
def RowAt (H : Hp) (r : Addr) (t : V × V × Int) : Prop := ∃ q, H r = some (.tup [.int (lrV t.1), .int (lrV t.2.1), .ref q]) ∧ TieL H q t
theorem RowAt.same {H H' : Hp} {r : Addr} {t : V × V × Int} (e : Same H H') (h : RowAt H r t) : RowAt H' r t := by
  obtain ⟨q, h1, h2⟩ := h
  exact ⟨q, e _ _ h1, e _ _ h2⟩
theorem paired_zip {α β : Type} {F : α → β → Prop} : ∀ {as : List α} {bs : List β}, Paired F as bs → ∃ l : List (α × β), l.map (·.1) = as ∧ l.map (·.2) = bs ∧ ∀ p ∈ l, F p.1 p.2
  | _, _, .nil => ⟨[], rfl, rfl, fun _ h => nomatch h⟩
  | _, _, .cons (a := a) (b := b) h t => by
    obtain ⟨l, h1, h2, h3⟩ := paired_zip t
    exact ⟨(a, b) :: l, by rw [List.map_cons, h1], by rw [List.map_cons, h2], fun p hp => by
      rcases List.mem_cons.mp hp with rfl | hp
      · exact h
      · exact h3 p hp⟩
theorem lr_at {v : V} (h : plOk v) : ∃ r, ((∃ i, v = .int i ∧ r = i) ∨ (∃ z, v = .str z ∧ isLip z ∧ r = 90 + (lipN z : Int))) ∧ r = lrV v := by
  rcases h with ⟨i, rfl⟩ | ⟨z, rfl, h⟩
  · exact ⟨i, .inl ⟨i, rfl, rfl⟩, rfl⟩
  · exact ⟨_, .inr ⟨z, rfl, h, rfl⟩, rfl⟩
theorem lr_rank {v u : V} (hv : plOk v) (hu : plOk u) (h1 : 0 ≤ rankV v ∧ ((∃ i, v = .int i) → rankV v ≤ 5)) (h2 : 0 ≤ rankV u ∧ ((∃ i, u = .int i) → rankV u ≤ 5)) : lrV v < lrV u ↔ rankV v < rankV u := by
  rcases hv with ⟨i, rfl⟩ | ⟨z, rfl, _⟩
  · rcases hu with ⟨j, rfl⟩ | ⟨y, rfl, _⟩
    · exact Iff.rfl
    · have h' : i ≤ 5 := h1.2 ⟨i, rfl⟩
      show i < 90 + (lipN y : Int) ↔ i < 6 + (lipN y : Int)
      omega
  · rcases hu with ⟨j, rfl⟩ | ⟨y, rfl, _⟩
    · have h' : j ≤ 5 := h2.2 ⟨j, rfl⟩
      show 90 + (lipN z : Int) < j ↔ 6 + (lipN z : Int) < j
      omega
    · have b : rankV (.str z) = 6 + (lipN z : Int) := rfl
      have d : lrV (.str z) = 90 + (lipN z : Int) := rfl
      have b2 : rankV (.str y) = 6 + (lipN y : Int) := rfl
      have d2 : lrV (.str y) = 90 + (lipN y : Int) := rfl
      rw [b, d, b2, d2]; omega
theorem plc_ok {m n i : Nat} (hm : m ≤ 3) (hn : n ≤ 6) (h : i < m + n) : plOk (plc m i) ∧ 0 ≤ rankV (plc m i) ∧ ((∃ j, plc m i = .int j) → rankV (plc m i) ≤ 5) := by
  by_cases c : i < m
  · rw [rank_lip hm c, plc_lip c]
    exact ⟨.inr ⟨_, rfl, (lip_at (by omega)).2.2.1⟩, by omega, fun ⟨_, e⟩ => nomatch e⟩
  · rw [rank_num (by omega), plc_num (by omega)]
    exact ⟨.inl ⟨_, rfl⟩, by omega, fun _ => by omega⟩
theorem tie_ok {m n : Nat} {t : V × V × Int} (hm : m ≤ 3) (hn : n ≤ 6) (h : TieIn m n t) : plOk t.1 ∧ plOk t.2.1 ∧ (lrV t.1 < lrV t.2.1 ↔ rankV t.1 < rankV t.2.1) ∧ rankV t.1 ≠ rankV t.2.1 := by
  obtain ⟨i, j, h1, h2, h3, h4, _⟩ := h
  obtain ⟨a1, a2, a3⟩ := plc_ok hm hn (i := i) (by omega)
  obtain ⟨b1, b2, b3⟩ := plc_ok hm hn (i := j) h3
  have rj := rank_num h2
  have ne : rankV (plc m i) ≠ rankV (plc m j) := by
    by_cases c : i < m
    · rw [rank_lip hm c, rj]; omega
    · rw [rank_num (by omega), rj]; omega
  rcases h4 with ⟨e1, e2⟩ | ⟨e1, e2⟩
  · rw [e1, e2]
    exact ⟨a1, b1, lr_rank a1 b1 ⟨a2, a3⟩ ⟨b2, b3⟩, ne⟩
  · rw [e1, e2]
    exact ⟨b1, a1, lr_rank b1 a1 ⟨b2, b3⟩ ⟨a2, a3⟩, ne.symm⟩
def spOrd (K : PySem.W.Frag) : Sp := fun vs H Q _ => ∃ (a : Addr) (m n : Nat) (ts : List (V × V × Int)), vs = [.ref a] ∧ TsAt H a ts ∧ m ≤ 3 ∧ n ≤ 6 ∧ Ropes m n ts ∧
  ∀ q rs ys H', Same H H' → H q = none → H' q = some (.tup (rs.map V.ref)) → Paired (TieL H') rs ys → ys.Perm (ts.map nrm) → ys.Pairwise lexLt → Q (.ref q) H'
theorem ok__law_ordered (T : Top K mg) : FnOkG PW w K mg base CX0 3 (fa K "_law_ordered") (fdOf K (fa K "_law_ordered")) ["_law_ropes"] (spOrd K) := by
  refine T.F__law_ordered.okG sc__law_ordered (fun vs H Q E h => ?_) (fun A outer s H vs Q E hgd hr h => ?_)
  · obtain ⟨a, m, n, ts, rfl, _hts, _hm, _hn, _hR, _k⟩ := h
    rfl
  · obtain ⟨a, m, n, ts, rfl, hts, hm, hn, hR, k⟩ := h
    have hu := hu_of hr
    refine ⟨_, (pss_cons (ps_set (i := 1) sc__law_ordered.nd rfl (Or.inl rfl) (pe_lst pa_nil))
      (pss_cons (ps_for PassesOwn.never rfl (pi_list (pv 0)) (pg_tup (by rfl) (pgs_cons (pg_name (i := 2) sc__law_ordered.nd rfl (Or.inl rfl)) (pgs_cons (pg_name (i := 3) sc__law_ordered.nd rfl (Or.inl rfl)) (pgs_cons (pg_name (i := 4) sc__law_ordered.nd rfl (Or.inl rfl)) pgs_nil)))) (pss_one (ps_expr (pe_bm PySem.F.plainAttrs_list PySem.F.slot_list_append PySem.F.type_list_append mt_append (pv 1) (pa_cons (pe_ifExp (pt_cmpR op_lt (pe_call (ok__law_rank T) (hr.mono (by decide)) rfl T.g__law_rank T.F__law_rank.kp T.b__law_rank .nil pass0 (pa_cons (pv 2) pa_nil)) (pe_call (ok__law_rank T) (hr.mono (by decide)) rfl T.g__law_rank T.F__law_rank.kp T.b__law_rank .nil pass0 (pa_cons (pv 3) pa_nil)) (nomark _)) (pe_tup (pa_cons (pv 2) (pa_cons (pv 3) (pa_cons (pv 4) pa_nil)))) (pe_tup (pa_cons (pv 3) (pa_cons (pv 2) (pa_cons (pv 4) pa_nil))))) pa_nil)))))
      (pss_one (ps_ret (pe_callTy call_tuple_of (by rfl) T.z_tuple (by decide +kernel) (pa_cons (pe_lc (own := [("_law_row_here", 6)]) (te := tOp (rIxT K) (tVar 6) (tC (.int 2))) (g := gName 6) (by rfl) sc__law_ordered.nd (pi_list (pe_callBK (cr_sortedStr (by exact hgd) (Room.u80 hr)) (by rfl) T.z_sorted (by decide +kernel) (pa_cons (pe_lc (own := [("_law_tie", 5)]) (te := tTup (tCons (tCall spRankL [] E0 (tCons (tOp (rIxT K) (tVar 5) (tC (.int 0))) tNil)) (tCons (tCall spRankL [] E0 (tCons (tOp (rIxT K) (tVar 5) (tC (.int 1))) tNil)) (tCons (tVar 5) tNil)))) (g := gName 5) (by rfl) sc__law_ordered.nd (pi_list (pv 1)) (blkOk_by (own := [("_law_tie", 5)]) (N := ["_law_ropes", "_law_found", "_law_one", "_law_other", "_law_length", "_law_tie", "_law_row_here"]) (sc := (defScope s__law_ordered)) (by decide +kernel)) (fun _ _ _ _ _ => (pg_name (i := 5) sc__law_ordered.nd rfl (Or.inl rfl))) (fun _ _ _ _ _ => pts_nil) (fun _ _ _ _ _ => (pe_tup (pa_cons (pe_call (ok__law_rank T) (hr.mono (by decide)) rfl T.g__law_rank T.F__law_rank.kp T.b__law_rank .nil pass0 (pa_cons (pe_ix ix_tup (pv 5) pe_int (fun _ _ => rfl)) pa_nil)) (pa_cons (pe_call (ok__law_rank T) (hr.mono (by decide)) rfl T.g__law_rank T.F__law_rank.kp T.b__law_rank .nil pass0 (pa_cons (pe_ix ix_tup (pv 5) pe_int (fun _ _ => rfl)) pa_nil)) (pa_cons (pv 5) pa_nil)))))) pa_nil) (pk_cons (pe_bltn (v := .ty "str") (by rfl) T.z_str (by decide +kernel) rfl) pk_nil))) (blkOk_by (own := [("_law_row_here", 6)]) (N := ["_law_ropes", "_law_found", "_law_one", "_law_other", "_law_length", "_law_tie", "_law_row_here"]) (sc := (defScope s__law_ordered)) (by decide +kernel)) (fun _ _ _ _ _ => (pg_name (i := 6) sc__law_ordered.nd rfl (Or.inl rfl))) (fun _ _ _ _ _ => pts_nil) (fun _ _ _ _ _ => (pe_ix ix_tup (pv 6) pe_int (fun _ _ => rfl)))) pa_nil)))))), ?_⟩
    refine ⟨Nat.zero_le _, fun f hf => ?_⟩
    obtain ⟨hR1, hR2, hR3⟩ := hR
    obtain ⟨ra, hra, hrp⟩ := hts
    have uf := same_upd (o := .lst []) hf
    have hal : ra.length = ts.length := Paired.length hrp
    refine ⟨_, rfl, a, rfl, ⟨_, SqL.of (uf _ _ hra)⟩, for_list (K := K) (a := a) (xs := ra.map V.ref) (fun i σ H2 => Same H H2 ∧ ∃ (qs : List Addr) (o2 o3 o4 o5 o6 : Option V), σ = [some (.ref a), some (.ref f), o2, o3, o4, o5, o6] ∧ H2 f = some (.lst (qs.map V.ref)) ∧ Paired (TieL H2) qs ((ts.take i).map nrm))
      ⟨uf, [], _, _, _, _, _, rfl, upd_same, .nil⟩ (fun i σ H2 _ ⟨s2, _⟩ => SqL.of (s2 _ _ hra)) ?_ ?_⟩
    · rintro i x σ H2 hx ⟨s2, qs, o2, o3, o4, o5, o6, rfl, hf2, hqs⟩
      rw [List.getElem?_map] at hx
      obtain ⟨r, hr1, rfl⟩ := Option.map_eq_some_iff.mp hx
      obtain ⟨t, ht, htl⟩ := pgetL hrp hr1
      obtain ⟨k1, k2, k3, k4⟩ := tie_ok hm hn (hR1 t (List.mem_of_getElem? ht))
      obtain ⟨r1, l1, e1⟩ := lr_at k1
      obtain ⟨r2, l2, e2⟩ := lr_at k2
      refine ⟨r, _, rfl, SqT.of (s2 _ _ htl), rfl, _, _, rfl, _, _, rfl, _, _, rfl, rfl, ?_⟩
      refine ⟨_, rfl, .inl ⟨rfl, _, SqL.of hf2⟩, _, rfl, t.1, r1, rfl, l1, _, rfl, t.2.1, r2, rfl, l2, _, _, rfl, rfl, _, rfl, ?_⟩
      refine joinE (fun v H3 => ∃ q, v = .ref q ∧ Same H2 H3 ∧ TieL H3 q (nrm t)) ?_ ?_ ?_
      · intro hb Q' hQ'
        have hlt : rankV t.1 < rankV t.2.1 := k3.mp (by rw [← e1, ← e2]; exact of_decide_eq_true hb)
        refine ⟨_, rfl, _, rfl, _, rfl, Nat.le_of_ble_eq_true rfl, fun q hq => hQ' _ _ ⟨q, rfl, same_upd hq, ?_⟩⟩
        unfold nrm TieL
        rw [if_neg (Int.not_lt.mpr (Int.le_of_lt hlt))]
        exact upd_same
      · intro hb Q' hQ'
        have hlt : ¬ rankV t.1 < rankV t.2.1 := fun c => of_decide_eq_false hb (by rw [e1, e2]; exact k3.mpr c)
        refine ⟨_, rfl, _, rfl, _, rfl, Nat.le_of_ble_eq_true rfl, fun q hq => hQ' _ _ ⟨q, rfl, same_upd hq, ?_⟩⟩
        unfold nrm TieL
        rw [if_pos (Int.lt_iff_le_and_ne.mpr ⟨Int.not_lt.mp hlt, k4.symm⟩)]
        exact upd_same
      · rintro v H3 ⟨q, rfl, s3, hq⟩
        have hqsl : qs.length ≤ ts.length := by rw [Paired.length hqs, List.length_map, List.length_take]; omega
        refine ⟨f, _, _, rfl, rfl, s3 _ _ hf2, (by rw [List.length_map, sizeLine_eq]; omega), same_new hf (s2.trans s3), qs ++ [q], _, _, _, _, _, rfl, (by rw [upd_same, List.map_append]; rfl), ?_⟩
        rw [take_at1 ht, List.map_append]
        have keep : ∀ r t, TieL H3 r t → TieL (upd H3 f (.lst (qs.map V.ref ++ [.ref q]))) r t := fun r t h => by
          unfold TieL at h ⊢
          rw [upd_ne (fun e => by rw [e, s3 _ _ hf2] at h; cases h)]
          exact h
        exact Paired.append (Paired.mapP hqs fun r t h => keep r t (s3 _ _ h)) (keep _ _ hq)
    · rintro σ H2 ⟨s2, qs, o2, o3, o4, o5, o6, rfl, hf2, hqs⟩
      rw [List.length_map, hal, List.take_length] at hqs
      have hql : qs.length = ts.length := by rw [Paired.length hqs, List.length_map]
      have hnt : ∀ t ∈ ts.map nrm, NTie t := fun t ht => by
        obtain ⟨u, hu, rfl⟩ := List.mem_map.mp ht
        exact ntie hm hn (hR1 u hu)
      refine ⟨_, rfl, f, rfl, ⟨_, SqL.of hf2⟩, fun D hD => ?_⟩
      refine lc_any (xs := qs.map V.ref) (fun i H3 => Same H2 H3 ∧ ∃ rs : List Addr, H3 D = some (.lst (rs.map V.ref)) ∧ rs.length = i ∧ Paired (RowAt H3) rs ((ts.map nrm).take i)) ⟨same_upd hD, [], by rw [upd_same]; rfl, rfl, .nil⟩ (fun i H3 hi ⟨s3, _⟩ => gat_list hi (SqL.of (s3 _ _ hf2))) ?_ ?_
      · rintro i x H3 hx ⟨s3, rs, hD3, hrl, hrs⟩
        have hil := (List.getElem?_eq_some_iff.mp hx).1
        rw [List.length_map] at hil
        rw [List.getElem?_map] at hx
        obtain ⟨q, hq1, rfl⟩ := Option.map_eq_some_iff.mp hx
        obtain ⟨t, ht, htl⟩ := pgetL hqs hq1
        have hok := (hnt t (List.mem_of_getElem? ht)).ok
        obtain ⟨r1, l1, e1⟩ := lr_at hok.1
        obtain ⟨r2, l2, e2⟩ := lr_at hok.2
        have hq3 : TieL H3 q t := s3 _ _ htl
        subst e1 e2
        refine ⟨rfl, _, rfl, tcI ⟨q, _, _, _, rfl, rfl, SqT.of hq3, rfl, t.1, _, rfl, l1, _, rfl, tcI ⟨q, _, _, _, rfl, rfl, SqT.of hq3, rfl, t.2.1, _, rfl, l2, _, rfl, Nat.le_of_ble_eq_true rfl, fun r hr2 => ?_⟩⟩⟩
        have ur := same_upd (o := .tup [.int (lrV t.1), .int (lrV t.2.1), .ref q]) hr2
        refine ⟨_, ur _ _ hD3, (by rw [List.length_map, sizeLine_eq]; omega), same_new hD (s3.trans ur), rs ++ [r], (by rw [upd_same, List.map_append]; rfl), (by rw [List.length_append, hrl]; rfl), ?_⟩
        have keep : ∀ r t, RowAt (upd H3 r (.tup [.int (lrV t.1), .int (lrV t.2.1), .ref q])) r t → True := fun _ _ _ => trivial
        rw [take_at1 ht]
        have keep2 : ∀ {H4 : Hp} {o : HO} {xs : List V} (r : Addr) (t : V × V × Int), H4 D = some (.lst xs) → RowAt H4 r t → RowAt (upd H4 D o) r t := fun r t hD4 h => by
          obtain ⟨q, h1, h2⟩ := h
          refine ⟨q, ?_, ?_⟩
          · rw [upd_ne (fun e => by rw [e, hD4] at h1; cases h1)]; exact h1
          · unfold TieL at h2 ⊢
            rw [upd_ne (fun e => by rw [e, hD4] at h2; cases h2)]; exact h2
        exact Paired.append (Paired.mapP hrs fun r t h => keep2 r t (ur _ _ hD3) (h.same ur)) (keep2 _ _ (ur _ _ hD3) ⟨q, upd_same, ur _ _ hq3⟩)
      · rintro H3 ⟨s3, rs, hD3, hrl, hrs⟩
        rw [List.length_map, hql, show ts.length = (ts.map nrm).length by rw [List.length_map], List.take_length] at hrs
        obtain ⟨l0, hl1, hl2, hl3⟩ := paired_zip hrs
        have hln : ∀ q ∈ l0, NTie q.2 := fun q hq => hnt _ (by rw [← hl2]; exact List.mem_map_of_mem hq)
        obtain ⟨l', hp', hm', hs'⟩ := rows_sorted hln
        refine ⟨D, l0.map fun q => (q.1, rowD q.2), rfl, rfl, ?_, fun b hb => ?_, fun P hP => ?_⟩
        · rw [List.map_map]
          rw [← hl1, List.map_map] at hD3
          exact SqL.of hD3
        · obtain ⟨q, hq, rfl⟩ := List.mem_map.mp hb
          obtain ⟨q2, h1, h2⟩ := hl3 q hq
          have hk := (hln q hq).ok
          obtain ⟨w1, w2, w3, w4⟩ := (hln q hq).row
          exact ⟨.tup (SqT.of h1) (.cons (.int _) (.cons (.int _) (.cons (tieD_dp h2 hk.1 hk.2) .nil))), w1, w2, w3, w4⟩
        · have eP : ((l0.map fun q => (q.1, rowD q.2)).mergeSort fun x y => decide ((PyData.shown x.2).cps.toList ≤ (PyData.shown y.2).cps.toList)).map (fun b => V.ref b.1) = (l'.map (·.1)).map V.ref := by
            show ((l0.map fun q => (q.1, rowD q.2)).mergeSort rle).map (fun b => V.ref b.1) = _
            rw [← hm', List.map_map, List.map_map]
            rfl
          rw [eP]
          have uP := same_upd (o := .lst ((l'.map (·.1)).map V.ref)) hP
          have hP4 := upd_same (H := H3) (a := P) (o := .lst ((l'.map (·.1)).map V.ref))
          generalize upd H3 P (.lst ((l'.map (·.1)).map V.ref)) = H4 at uP hP4 ⊢
          refine ⟨P, rfl, ⟨_, SqL.of hP4⟩, fun D2 hD2 => ?_⟩
          refine lc_any (xs := (l'.map (·.1)).map V.ref) (fun i H5 => Same H4 H5 ∧ ∃ us : List Addr, H5 D2 = some (.lst (us.map V.ref)) ∧ us.length = i ∧ Paired (TieL H4) us ((l'.map (·.2)).take i)) ⟨same_upd hD2, [], by rw [upd_same]; rfl, rfl, .nil⟩ (fun i H5 hi ⟨s5, _⟩ => gat_list hi (SqL.of (s5 _ _ hP4))) ?_ ?_
          · rintro i x H5 hx ⟨s5, us, hD5, hul, hus⟩
            have hil := (List.getElem?_eq_some_iff.mp hx).1
            rw [List.length_map, List.length_map] at hil
            rw [List.map_map, List.getElem?_map] at hx
            obtain ⟨q, hq, rfl⟩ := Option.map_eq_some_iff.mp hx
            have hq0 := hp'.mem_iff.mp (List.mem_of_getElem? hq)
            obtain ⟨q2, h1, h2⟩ := hl3 q hq0
            have hll : l'.length = ts.length := by rw [hp'.length_eq, ← List.length_map (f := (·.2)), hl2, List.length_map]
            refine ⟨rfl, _, rfl, tcI ⟨q.1, _, _, _, rfl, rfl, SqT.of (s5 _ _ (uP _ _ h1)), rfl, _, hD5, (by rw [List.length_map, sizeLine_eq]; omega), same_new hD2 s5, us ++ [q2], (by rw [upd_same, List.map_append]; rfl), (by rw [List.length_append, hul]; rfl), ?_⟩⟩
            rw [take_at1 (show (l'.map (·.2))[i]? = some q.2 by rw [List.getElem?_map, hq]; rfl)]
            exact Paired.append hus (uP _ _ h2)
          · rintro H5 ⟨s5, us, hD5, hul, hus⟩
            rw [List.length_map, List.length_map, show l'.length = (l'.map (·.2)).length by rw [List.length_map], List.take_length] at hus
            refine ⟨D2, _, rfl, .inl ⟨SqL.of hD5, fun tt htt => ?_⟩⟩
            have sA := s2.trans (s3.trans (uP.trans s5))
            refine k tt us (l'.map (·.2)) _ (sA.trans (same_upd htt)) (fresh_back sA htt) upd_same (Paired.mapP hus fun r t h => (s5.trans (same_upd htt)) _ _ h) ?_ hs'
            rw [← hl2]
            exact hp'.map _
end
end R4
set_option Elab.async false
set_option linter.all false
set_option maxRecDepth 100000
set_option maxHeartbeats 4000000
set_option pp.maxSteps 700
namespace R4
open PySem L2 PySem.GW LamX SM
section
variable {w : World} {K : PySem.W.Frag} {mg : Str → Option Value} {base : Heap}
/-! ### arguments as data -/
variable {H H' : Hp}
mutual
theorem Dp.but {p : Addr} {k : List (Key × V)} (hp : H p = some (.dK k)) (e : SameBut p H H') : ∀ {d : PyData} {v : V}, Dp K H v d → Dp K H' v d
  | _, _, .non => .non
  | _, _, .bl b => .bl b
  | _, _, .int i => .int i
  | _, _, .str x => .str x
  | _, _, .lst h hs => .lst (e.sqL hp h) (DpAll.but hp e hs)
  | _, _, .tup h hs => .tup (e.sqT hp h) (DpAll.but hp e hs)
theorem DpAll.but {p : Addr} {k : List (Key × V)} (hp : H p = some (.dK k)) (e : SameBut p H H') : ∀ {ds : List PyData} {vs : List V}, DpAll K H vs ds → DpAll K H' vs ds
  | _, _, .nil => .nil
  | _, _, .cons h hs => .cons (Dp.but hp e h) (DpAll.but hp e hs)
end
def unD : PyData → V
  | .int i => .int i
  | .str z => .str z
  | _ => .non
def smD : PyData → Bool
  | .str z => decide (z.length ≤ 1000)
  | _ => true
def smT (d : PyData) : Bool := match seqD d with
  | some xs => decide (xs.length ≤ 1000) && xs.all smD
  | none => true
def smB (d : PyData) : Bool := smT d && (match seqD d with
  | some xs => xs.all smT
  | none => true)
def mouthD : PyData → Bool
  | .int i => decide (0 ≤ i) && decide (i ≤ 3)
  | _ => false
def signsD : PyData → Bool
  | .str z => signsB z
  | _ => false
def tieDB (m n : Nat) (d : PyData) : Bool := match seqD d with
  | some [a, b, c] => tieB m n (unD a) (unD b) (unD c)
  | _ => false
def wordD : PyData → Bool
  | .str w => wordB w
  | _ => false
def rowDB (m n : Nat) (r : PyData) : Bool := match seqD r with
  | some ps => budB m n (ps.map unD)
  | none => false
def budDB (m n : Nat) (d : PyData) : Bool := match seqD d with
  | some [k, r] => wordD k && rowDB m n r
  | _ => false
theorem no_int {v : V} (n : String) (h : TyX K H v (.type n)) (b1 b2 : Bool) (h1 : kitB n "int" = some b1 := by decide +kernel) (h2 : kitB n "bool" = some b2 := by decide +kernel) (h3 : (b1 && !b2) = false := by decide) : NoInt K H v := ⟨n, b1, b2, h, h1, h2, h3⟩
theorem no_str {v : V} (n : String) (h : TyX K H v (.type n)) (h2 : kitB n "str" = some false := by decide +kernel) : NoStr K H v := ⟨n, h, h2⟩
theorem noseq_ty {v : V} (n : String) (h : TyX K H v (.type n)) (h1 : kitB n "list" = some false := by decide +kernel) (h2 : kitB n "tuple" = some false := by decide +kernel) : NoSeq K H v :=
  ⟨n, h, kitAny_cons (b := false) (kit_ty h1) (fun _ => kitAny_cons (b := false) (kit_ty h2) (fun _ => rfl) fun e => nomatch e) fun e => nomatch e⟩
theorem dp_seq {v : V} {d : PyData} (h : Dp K H v d) : (seqD d = none ∧ NoSeq K H v) ∨ ∃ a xs ds, v = .ref a ∧ Sq K H a xs ∧ seqD d = some ds ∧ DpAll K H xs ds := by
  cases h with
  | non => exact .inl ⟨rfl, noseq_ty "NoneType" (.base .non)⟩
  | bl b => exact .inl ⟨rfl, noseq_ty "bool" (.base (.bl b))⟩
  | int i => exact .inl ⟨rfl, noseq_ty "int" (.base (.int i))⟩
  | str x => exact .inl ⟨rfl, noseq_ty "str" (.base (.str x))⟩
  | lst h hs => exact .inr ⟨_, _, _, rfl, .inl h, rfl, hs⟩
  | tup h hs => exact .inr ⟨_, _, _, rfl, .inr h, rfl, hs⟩
theorem dpc {xs : List V} {d : PyData} {ds : List PyData} (h : DpAll K H xs (d :: ds)) : ∃ x ys, xs = x :: ys ∧ Dp K H x d ∧ DpAll K H ys ds := by
  cases h with
  | cons h hs => exact ⟨_, _, rfl, h, hs⟩
/-- a value that is asked as a place -/
theorem dp_pv {x : V} {d : PyData} (h : Dp K H x d) (sm : smD d = true) : PV K H x ∧ (∀ m n, hasP m n x = hasP m n (unD d)) ∧ ((∃ m n, hasP m n x = true) → x = unD d) := by
  cases h with
  | non => exact ⟨.odd (no_str "NoneType" (.base .non)) (no_int "NoneType" (.base .non) false false) (fun _ _ => rfl), fun _ _ => rfl, fun ⟨_, _, e⟩ => nomatch e⟩
  | bl b => exact ⟨.odd (no_str "bool" (.base (.bl b))) (no_int "bool" (.base (.bl b)) true true) (fun _ _ => rfl), fun _ _ => rfl, fun ⟨_, _, e⟩ => nomatch e⟩
  | int i => exact ⟨.int i, fun _ _ => rfl, fun _ => rfl⟩
  | str z => exact ⟨.str z (of_decide_eq_true sm), fun _ _ => rfl, fun _ => rfl⟩
  | lst h hs => exact ⟨.odd (no_str "list" (ty_lst h)) (no_int "list" (ty_lst h) false false) (fun _ _ => rfl), fun _ _ => rfl, fun ⟨_, _, e⟩ => nomatch e⟩
  | tup h hs => exact ⟨.odd (no_str "tuple" (ty_tup h)) (no_int "tuple" (ty_tup h) false false) (fun _ _ => rfl), fun _ _ => rfl, fun ⟨_, _, e⟩ => nomatch e⟩
theorem dp_lv {x : V} {d : PyData} (h : Dp K H x d) : LV K H x ∧ lenB x = lenB (unD d) := by
  cases h with
  | non => exact ⟨.odd (no_int "NoneType" (.base .non) false false) rfl, rfl⟩
  | bl b => exact ⟨.odd (no_int "bool" (.base (.bl b)) true true) rfl, rfl⟩
  | int i => exact ⟨.int i, rfl⟩
  | str z => exact ⟨.odd (no_int "str" (.base (.str z)) false false) rfl, rfl⟩
  | lst h hs => exact ⟨.odd (no_int "list" (ty_lst h) false false) rfl, rfl⟩
  | tup h hs => exact ⟨.odd (no_int "tuple" (ty_tup h) false false) rfl, rfl⟩
theorem tieB_un {m n : Nat} {x y l x' y' l' : V} (h1 : hasP m n x = hasP m n x') (h2 : hasP m n x = true → x = x') (h3 : hasP m n y = hasP m n y') (h4 : hasP m n y = true → y = y') (h5 : lenB l = lenB l') : tieB m n x y l = tieB m n x' y' l' := by
  unfold tieB
  rw [← h1, ← h3, ← h5]
  cases c1 : hasP m n x with
  | false => rfl
  | true =>
    cases c2 : hasP m n y with
    | false => rfl
    | true => rw [← h2 c1, ← h4 c2]
theorem dp_tie {v : V} {d : PyData} {m n : Nat} (h : Dp K H v d) (sm : smT d = true) : TieV K H m n v (tieDB m n d) := by
  rcases dp_seq h with ⟨e, h⟩ | ⟨a, xs, ds, rfl, hS, e, hs⟩
  · unfold tieDB
    rw [e]
    exact .no h
  · unfold smT at sm
    unfold tieDB
    rw [e] at sm ⊢
    have hl := DpAll.length hs
    rcases ds with _ | ⟨d1, _ | ⟨d2, _ | ⟨d3, _ | ⟨d4, ds⟩⟩⟩⟩
    · exact .len hS (by rw [hl]; exact Nat.noConfusion)
    · exact .len hS (by rw [hl]; exact fun z => nomatch z)
    · exact .len hS (by rw [hl]; exact fun z => nomatch z)
    · obtain ⟨x, xs1, rfl, ha, h2⟩ := dpc hs
      obtain ⟨y, xs2, rfl, hb, h3⟩ := dpc h2
      obtain ⟨l, xs3, rfl, hc, h4⟩ := dpc h3
      cases h4
      simp only [List.all_cons, Bool.and_eq_true] at sm
      obtain ⟨_, s1, s2, _⟩ := sm
      obtain ⟨p1, p2, p3⟩ := dp_pv ha s1
      obtain ⟨q1, q2, q3⟩ := dp_pv hb s2
      obtain ⟨l1, l2⟩ := dp_lv hc
      show TieV K H m n (.ref a) (tieB m n (unD d1) (unD d2) (unD d3))
      rw [← tieB_un (m := m) (n := n) (p2 m n) (fun z => p3 ⟨m, n, z⟩) (q2 m n) (fun z => q3 ⟨m, n, z⟩) l2]
      exact .tie hS p1 q1 l1
    · exact .len hS (by rw [hl, List.length_cons, List.length_cons, List.length_cons, List.length_cons]; omega)
theorem budB_un {m n : Nat} : ∀ {xs : List V} {ds : List PyData}, DpAll K H xs ds → (∀ d ∈ ds, smD d = true) → xs.all (hasP m n) = (ds.map unD).all (hasP m n) ∧ (xs.all (hasP m n) = true → xs = ds.map unD)
  | _, _, .nil, _ => ⟨rfl, fun _ => rfl⟩
  | _, _, .cons h hs, sm => by
    obtain ⟨p1, p2, p3⟩ := dp_pv h (sm _ List.mem_cons_self)
    obtain ⟨q1, q2⟩ := budB_un (m := m) (n := n) hs fun d hd => sm d (List.mem_cons_of_mem _ hd)
    rw [List.map_cons, List.all_cons, List.all_cons, p2 m n, q1]
    refine ⟨rfl, fun z => ?_⟩
    rw [Bool.and_eq_true] at z
    rw [p3 ⟨m, n, (p2 m n).trans z.1⟩, q2 (q1.trans z.2)]
theorem dp_bud {v : V} {d : PyData} {m n : Nat} (h : Dp K H v d) (sm : smB d = true) : BudV K H m n v (budDB m n d) := by
  unfold smB at sm
  rw [Bool.and_eq_true] at sm
  obtain ⟨sm1, sm2⟩ := sm
  rcases dp_seq h with ⟨e, h⟩ | ⟨a, xs, ds, rfl, hS, e, hs⟩
  · unfold budDB
    rw [e]
    exact .no h
  · unfold smT at sm1
    unfold budDB
    rw [e] at sm1 sm2 ⊢
    dsimp only at sm1 sm2
    have hl := DpAll.length hs
    rcases ds with _ | ⟨d1, _ | ⟨d2, _ | ⟨d3, ds⟩⟩⟩
    · exact .len hS (by rw [hl]; exact fun z => nomatch z)
    · exact .len hS (by rw [hl]; exact fun z => nomatch z)
    · obtain ⟨x, xs1, rfl, h1, h2'⟩ := dpc hs
      obtain ⟨y, xs2, rfl, h2, h3⟩ := dpc h2'
      cases h3
      simp only [List.all_cons, Bool.and_eq_true] at sm1 sm2
      cases h1 with
      | non => exact .noword hS (.inl (no_str "NoneType" (.base .non)))
      | bl b => exact .noword hS (.inl (no_str "bool" (.base (.bl b))))
      | int i => exact .noword hS (.inl (no_str "int" (.base (.int i))))
      | lst g1 g2 => exact .noword hS (.inl (no_str "list" (ty_lst g1)))
      | tup g1 g2 => exact .noword hS (.inl (no_str "tuple" (ty_tup g1)))
      | str w =>
        have hw : w.length ≤ 1000 := of_decide_eq_true sm1.2.1
        show BudV K H m n (.ref a) (wordB w && rowDB m n d2)
        unfold rowDB
        cases cw : wordB w with
        | false => exact .noword hS (.inr ⟨w, rfl, hw, cw⟩)
        | true =>
          rw [Bool.true_and]
          rcases dp_seq h2 with ⟨e2, h⟩ | ⟨r, ps, es, rfl, hR, e2, hps⟩
          · rw [e2]
            exact .norow hS hw cw h
          · have sr := sm2.2.1
            unfold smT at sr
            rw [e2] at sr ⊢
            simp only [Bool.and_eq_true, decide_eq_true_eq, List.all_eq_true] at sr
            obtain ⟨q1, q2⟩ := budB_un (m := m) (n := n) hps sr.2
            have hle := DpAll.length hps
            have eb : budB m n (es.map unD) = budB m n ps := by
              cases ca : ps.all (hasP m n) with
              | true => rw [q2 ca]
              | false =>
                unfold budB
                rw [← q1, ca]
                simp only [Bool.false_and, Bool.and_false]
            show BudV K H m n (.ref a) (budB m n (es.map unD))
            rw [eb]
            refine .row hS hw cw hR (fun x hx => ?_) (by rw [hle]; exact sr.1)
            obtain ⟨i, hi⟩ := List.getElem?_of_mem hx
            obtain ⟨d, hd, hdp⟩ := DpAll.at hps hi
            exact (dp_pv hdp (sr.2 d (List.mem_of_getElem? hd))).1
    · exact .len hS (by rw [hl, List.length_cons, List.length_cons, List.length_cons]; omega)
theorem dp_mouth {v : V} {d : PyData} (h : Dp K H v d) (hb : mouthD d = false) : MouthBad K H v := by
  cases h with
  | non => exact .inl (no_int "NoneType" (.base .non) false false)
  | bl b => exact .inl (no_int "bool" (.base (.bl b)) true true)
  | int i => exact .inr ⟨i, rfl, fun ⟨h1, h2⟩ => by
      have hb' : (decide (0 ≤ i) && decide (i ≤ 3)) = false := hb
      rw [decide_eq_true h1, decide_eq_true h2] at hb'
      cases hb'⟩
  | str z => exact .inl (no_int "str" (.base (.str z)) false false)
  | lst h hs => exact .inl (no_int "list" (ty_lst h) false false)
  | tup h hs => exact .inl (no_int "tuple" (ty_tup h) false false)
theorem dp_signs {v : V} {d : PyData} (h : Dp K H v d) (sm : smD d = true) (hb : signsD d = false) : SignsBad K H v := by
  cases h with
  | non => exact .inl (no_str "NoneType" (.base .non))
  | bl b => exact .inl (no_str "bool" (.base (.bl b)))
  | int i => exact .inl (no_str "int" (.base (.int i)))
  | str z => exact .inr ⟨z, rfl, of_decide_eq_true sm, hb⟩
  | lst h hs => exact .inl (no_str "list" (ty_lst h))
  | tup h hs => exact .inl (no_str "tuple" (ty_tup h))
theorem dpAll_paired {F : V → Bool → Prop} {f : PyData → Bool} : ∀ {xs : List V} {ds : List PyData}, DpAll K H xs ds → (∀ x d, d ∈ ds → Dp K H x d → F x (f d)) → Paired F xs (ds.map f)
  | _, _, .nil, _ => .nil
  | _, _, .cons h hs, k => .cons (k _ _ List.mem_cons_self h) (dpAll_paired hs fun x d hd => k x d (List.mem_cons_of_mem _ hd))
theorem all_map {α : Type} (f : α → Bool) (l : List α) : (l.map f).all id = l.all f := by rw [List.all_map]; rfl
/-- ties told as data, that are none -/
def badR (m n : Nat) (ds : List PyData) : Prop := (∃ d ∈ ds, tieDB m n d = false) ∨ ∃ us : List (V × V × Int), ds = us.map tieD ∧ (∀ u ∈ us, TieIn m n u) ∧ ¬ (us.map kt).Nodup
end
end R4
set_option Elab.async false
set_option linter.all false
set_option maxRecDepth 100000
set_option maxHeartbeats 4000000
namespace R4
open PySem L2 PySem.GW LamX SM
def qL (x : Str) (sc : Scope) : Str := (PyProof.Rows.envOfC x sc 0 0 .none).qual ++ "<lambda>"
def TS (K : PySem.W.Frag) : List (Addr × Str) := [(tbA K (fa K "law"), qL "law" (defScope s_law))]
structure Tb (K : PySem.W.Frag) (mg : Str → Option Value) (base : Heap) : Prop where
  b : TabB base mg (cdA K (fa K "law")) (tbA K (fa K "law"))
theorem Tb.u {K : PySem.W.Frag} {mg : Str → Option Value} {base : Heap} (U : Tb K mg base) : ∀ p ∈ TS K, p.1 = tbA K (fa K "law") → p.2 = qL "law" (defScope s_law) := fun p hp e => by
  rw [List.mem_singleton.mp hp]
theorem Tb.m {K : PySem.W.Frag} : (tbA K (fa K "law"), qL "law" (defScope s_law)) ∈ TS K := List.mem_cons_self
/-- what _law_told makes of the call's reading -/
def TTold (K : PySem.W.Frag) : (XK → Hp → VK → Prop) → Hp → VK → Prop := fun tl H Q =>
  tl (fun cls d H' => cls = .ref (He.ga K "BadPiece") ∧ ∃ dd f, d = some dd ∧ H' dd = some (.xd [("field", .str f)]) ∧ Q (.str f) H') H (fun _ H' => Q .non H')
theorem told_gives {X : Cx} {g : Addr} {cdg : Value} {q : Str} (T : Top X.K X.mg) (hr : Room 2 X.A) :
    Gives X ["_law_ask", "e"] "_law_told" (defScope s__law_told) g cdg (defBody s__law_told) "_law_ask" q (TTold X.K) := by
  intro f c' s H Q tl act hc h
  refine ⟨_, pss_cons (ps_try_manyA (tb := fun W D σ H => ∃ Ech : XK, (∀ cls d H', Ech cls d H' → W cls d σ H') ∧ σ[0]? = some (some (.ref f)) ∧ H c' = some (CodeO c' q) ∧ tl Ech H (fun _ H' => D.nx σ H')) rfl rfl sc__law_told.nd L2.takes0 (fun W pn xe tk _ => ?_)
      (HdsA.consAs (i := 1) rfl rfl ⟨rfl, by decide, .inl T.e_BadPiece.g⟩ (fun a oe cls d pn hz hf => pss_one (ps_ret (pe_xf (ErrG.xf T.e_BadPiece.r) (noAt T.e_BadPiece.i 0 rfl) hz hf (pv 1))))
        (HdsA.consAs (i := 1) rfl rfl ⟨rfl, by decide, .inl T.g_WebError⟩ (fun a oe cls d pn hz hf => pss_one (ps_ret pe_str)) HdsA.nil)))
    (pss_one (ps_ret pe_non)), ?_⟩
  · refine ⟨fun pins s' σ H' D I h' => ?_⟩
    obtain ⟨Ech, hW, h1, h2, h3⟩ := h'
    exact (pss_one (ps_expr (act W pn xe Ech _ _ σ tk hW))).run pins s' σ H' D I ⟨rfl, h1, h2, h3⟩
  · refine ⟨_, fun cls d H' hE => ?_, rfl, hc, h⟩
    obtain ⟨rfl, dd, v, rfl, hd, k⟩ := hE
    refine ⟨true, T.x_BadPiece_BadPiece, fun _ a ha => ?_, fun z => absurd z.symm Bool.false_ne_true⟩
    exact ⟨_, rfl, rfl, rfl, dd, _, _, rfl, hd, rfl, k⟩
/-- _law_told(lambda: body) -/
theorem pe_told {X : Cx} {c P : Addr} {k : Nat} {params : Arguments} {body : Expr} {scope : Scope} {t : XK → TE} {p lpos pos : Pos} {Ts : List (Addr × Str)} (T : Top X.K X.mg) (hg : Gl X "_law_told")
    (TB : TabB X.base X.mg c P) (hcode : X.env.code = .ref c) (hmT : (P, X.env.qual ++ "<lambda>") ∈ Ts) (hu : ∀ p ∈ Ts, p.1 = P → p.2 = X.env.qual ++ "<lambda>") (hr : Room (k + 2) X.A) (L : LamS X.env.scope scope) (hdef : defaultsOf params X.env = ([], []))
    (hbind : ∀ (q : Str) (cl : List (Str × Addr)) (pm cv ctv : Value), bindArgs (PySem.W.kla_fn "<lambda>" q params body scope cl pm cv ctv) ⟨[], []⟩ = pure [])
    (hbody : ∀ (A : Around) (outer : List Env) (s : Shared) (H : Hp) (E : XK) (f c' : Addr), Room k (A.deeper (lamEnv X scope s.heap.objs.size f c')) → PE (lamCx X A outer s H E scope f c') body (t E)) :
    PE X (.Call (.Name "_law_told" p) [.Lambda params body scope lpos] [] pos) (tLam Ts (TTold X.K) t) := by
  obtain ⟨oc, od, kV, doc, pm, an, cdv, ct, osl, e, lk, hcd⟩ := T.F__law_told.ex
  have hb := T.b__law_told
  rw [e] at lk hb
  exact pe_lam hg T.g__law_told T.F__law_told.kp lk hcd hb sc__law_told rfl (.inl rfl) (told_gives T (hr.mono (by omega))) TB hcode hmT hu hr L hdef hbind hbody
section
variable {w : World} {K : PySem.W.Frag} {mg : Str → Option Value} {base : Heap}
def psP : List Str := ["self", "mouth", "letters", "ties", "buds"]
theorem vals_rev {vs : List V} {us : List Value} (r : Vals vs us) : Vals vs.reverse us.reverse := by
  induction r with
  | nil => exact .nil
  | cons h t ih =>
    rw [List.reverse_cons, List.reverse_cons]
    exact ih.append (.cons h .nil)
theorem piece_b5 (T : Top K mg) : ∃ ds, Vals [] ds ∧ Binds K (fdOf K (ME_Piece K "__init__")) ["self", "mouth", "letters", "ties", "buds"] ds :=
  T.D_Piece___init__.binds1 (ps := ["self", "mouth", "letters", "ties", "buds"]) 5 2 (by simp) rfl (by
    intro T1 kV doc pm an cdv ct us its h1 h2
    match us, its, h1, h2 with
    | [_, _, _, _, _], [_, _], _, _ => exact ⟨_, rfl, rfl⟩)
theorem piece_b3 (T : Top K mg) : ∃ ds, Vals [.ref (He.dflAt ("Piece", some "__init__") 0 K), .ref (He.dflAt ("Piece", some "__init__") 1 K)] ds ∧ Binds K (fdOf K (ME_Piece K "__init__")) ["self", "mouth", "letters", "ties", "buds"] ds :=
  T.D_Piece___init__.binds1 (ps := ["self", "mouth", "letters", "ties", "buds"]) 3 0 (by simp) rfl (by
    intro T1 kV doc pm an cdv ct us its h1 h2
    match us, its, h1, h2 with
    | [_, _, _], [_, _], _, _ => exact ⟨_, rfl, rfl⟩)
/-- buds, ties, letters, mouth by name -/
theorem piece_k (T : Top K mg) : ∃ g : List Value → List Value → List Value, KBn K (fdOf K (ME_Piece K "__init__")) ["self", "mouth", "letters", "ties", "buds"] 1 ["buds", "ties", "letters", "mouth"] g (fun vs zs => vs ++ zs.reverse) := by
  obtain ⟨its, h⟩ := T.D_Piece___init__.kbindsD (ps := ["self", "mouth", "letters", "ties", "buds"]) 1 ["buds", "ties", "letters", "mouth"] (fun us _ ws => us ++ ws.reverse) (by simp) (fun r1 _ r3 => r1.append (vals_rev r3)) (by
    intro T1 kV doc pm an cdv ct us its ws h1 h2 h3
    match us, its, ws, h1, h2, h3 with
    | [_], [_, _], [_, _, _, _], _, _, _ => exact ⟨_, rfl, rfl⟩)
  exact ⟨_, h⟩
end
end R4
set_option Elab.async false
set_option linter.all false
set_option maxRecDepth 100000
set_option maxHeartbeats 4000000
set_option pp.maxSteps 700
namespace R4
open PySem L2 PySem.GW LamX SM
section
variable {w : World} {K : PySem.W.Frag} {mg : Str → Option Value} {base : Heap}
variable {H H' : Hp}
def tup2B : PyData → Bool
  | .tuple xs => decide (2 ≤ xs.length)
  | _ => true
def odM : List PyData := [(.int (-1)), (.int 4), (.bool true), .none, (.str "2"), (.list [.int 1]), (.int (10 ^ (9 : Int).toNat))]
def odS : List PyData := [.none, (.int 3), (.str "A"), (.str "a b"), (.str "......."), (.list [.str "a"]), (.str "a1"), (.str "-")]
def odT1 : List PyData := [(.tuple [.str "a", .str "b", .int 1]), (.tuple [.int 0, .int 0, .int 1]), (.tuple [.int 0, .int 99, .int 1]), (.tuple [.int 0, .str "z", .int 1]), (.tuple [.int 0, .int 1]), .none, (.int 7), (.tuple [.int 0, .int 1, .int 0]), (.tuple [.int 0, .int 1, .bool true])]
def odTm : PyData := .tuple [.bool true, .int 1, .int 1]
def odT2 : List PyData := [(.tuple [.int 0, .int 1, .int (10 ^ 100 + 1)]), (.tuple [.int (-1), .int 0, .int 2]), (.tuple [.str "", .int 0, .int 1]), (.tuple [.int 0, .int 1, .str "1"]), (.tuple [.int 0, .int 1, .none]), (.str "01")]
def odB1 (d : PyData) : List PyData := [(.tuple [.str "kindtoolong", .tuple [.int 0]]), (.tuple [.str "", .tuple [.int 0]]), (.tuple [.str "k", .tuple []]), (.tuple [.str "k", .tuple [d, d]]), (.tuple [.str "k", .tuple [.int 99]]), (.tuple [.str "k", .int 0]), (.str "k")]
def odB2 : List PyData := [(.tuple [.str "K", .tuple [.int 0]]), (.tuple [.str "k", .tuple [.str "d"]]), (.tuple [.str "k", .tuple [.bool true]]), .none, (.tuple [.str "k", .tuple [.int 0, .int 1, .int 2, .int 3]]), (.tuple [.int 1, .tuple [.int 0]])]
theorem ge_big {H0 : Hp} {σ : L2.St} : GE K H0 σ (tOp (rI0 fun i j => .int (i + j)) (tOp (rI CMulW fun i j => .int (i * j)) (tOp (rI CPow fun i j => .int (i ^ j.toNat)) (tC (.int 10)) (tC (.int 50))) (tOp (rI CPow fun i j => .int (i ^ j.toNat)) (tC (.int 10)) (tC (.int 50)))) (tC (.int 1))) (.int (10 ^ 100 + 1)) := by
  intro H Q s q
  have h : Q (.int ((10 ^ (50 : Int).toNat) * (10 ^ (50 : Int).toNat) + 1)) H := q (.int (10 ^ 100 + 1)) H (Same.refl _) (.int _) fun _ _ => .int _
  exact ⟨_, _, rfl, rfl, ⟨by decide, by decide, by decide⟩, _, _, rfl, rfl, ⟨by decide, by decide, by decide⟩, _, _, rfl, rfl, (by show _ < 1000000; decide +kernel), _, _, rfl, rfl, h⟩
theorem odM_ok : ∀ d ∈ odM, mouthD d = false := by decide +kernel
theorem odS_ok : ∀ d ∈ odS, signsD d = false ∧ smD d = true := by decide +kernel
theorem odT_ok : ∀ m : Nat, m ≤ 3 → ∀ n : Nat, n ≤ 6 → ∀ d ∈ odT1 ++ [odTm] ++ odT2, tieDB m n d = false ∧ smT d = true ∧ tup2B d = true := by decide +kernel
theorem odB2_ok : ∀ m : Nat, m ≤ 3 → ∀ n : Nat, n ≤ 6 → ∀ d ∈ odB2, budDB m n d = false ∧ smB d = true := by decide +kernel
theorem ded2 (r : Key) : dedK [r, r] = [r] := by
  have h1 : memK [] r = false := rfl
  have h2 : memK [r] r = true := by simp [memK]
  show insK (insK [] r) r = _
  unfold insK
  rw [h1]
  show (if memK [r] r = true then [r] else [r] ++ [r]) = [r]
  rw [h2, if_pos rfl]
theorem odB1_ok (d : PyData) (hd : smD d = true) : ∀ m : Nat, m ≤ 3 → ∀ n : Nat, n ≤ 6 → ∀ e ∈ odB1 d, budDB m n e = false ∧ smB e = true := by
  intro m hm n hn e he
  have h : ∀ m : Nat, m ≤ 3 → ∀ n : Nat, n ≤ 6 → ∀ e ∈ ([(.tuple [.str "kindtoolong", .tuple [.int 0]]), (.tuple [.str "", .tuple [.int 0]]), (.tuple [.str "k", .tuple []]), (.tuple [.str "k", .tuple [.int 99]]), (.tuple [.str "k", .int 0]), (.str "k")] : List PyData), budDB m n e = false ∧ smB e = true := by decide +kernel
  by_cases c : e = .tuple [.str "k", .tuple [d, d]]
  · subst c
    constructor
    · show (wordB "k" && budB m n [unD d, unD d]) = false
      unfold budB
      rw [show ([unD d, unD d].map fun v => (Sum.inl (rankV v) : Key)) = [Sum.inl (rankV (unD d)), Sum.inl (rankV (unD d))] from rfl, ded2]
      simp
    · show ((decide (2 ≤ 1000) && (smD (.str "k") && (true && true))) && (smT (.str "k") && ((decide (2 ≤ 1000) && (smD d && (smD d && true))) && true))) = true
      rw [hd]
      decide +kernel
  · refine h m hm n hn e ?_
    unfold odB1 at he
    simp only [List.mem_cons, List.not_mem_nil, or_false] at he ⊢
    rcases he with h | h | h | h | h | h | h
    · exact .inl h
    · exact .inr (.inl h)
    · exact .inr (.inr (.inl h))
    · exact absurd h c
    · exact .inr (.inr (.inr (.inl h)))
    · exact .inr (.inr (.inr (.inr (.inl h))))
    · exact .inr (.inr (.inr (.inr (.inr h))))
theorem dpcV {v : V} {xs : List V} {ds : List PyData} (h : DpAll K H (v :: xs) ds) : ∃ d es, ds = d :: es ∧ Dp K H v d ∧ DpAll K H xs es := by
  cases h with
  | cons h hs => exact ⟨_, _, rfl, h, hs⟩
theorem dp_tup {v : V} {d : PyData} (h : Dp K H v d) : (∃ a xs es, v = .ref a ∧ d = .tuple es ∧ SqT K H a xs ∧ DpAll K H xs es) ∨ ∃ n, TyX K H v (.type n) ∧ kitB n "tuple" = some false := by
  cases h with
  | non => exact .inr ⟨_, .base .non, by decide +kernel⟩
  | bl b => exact .inr ⟨_, .base (.bl b), by decide +kernel⟩
  | int i => exact .inr ⟨_, .base (.int i), by decide +kernel⟩
  | str x => exact .inr ⟨_, .base (.str x), by decide +kernel⟩
  | lst h hs => exact .inr ⟨_, ty_lst h, by decide +kernel⟩
  | tup h hs => exact .inl ⟨_, _, _, rfl, rfl, h, hs⟩
theorem _root_.L2.DpAll.drop : ∀ {ds : List PyData} {xs : List V} (n : Nat), DpAll K H xs ds → DpAll K H (xs.drop n) (ds.drop n)
  | _, _, 0, h => h
  | _, _, n + 1, .nil => .nil
  | _, _, n + 1, .cons _ t => DpAll.drop n t
def Good (m n : Nat) (ds : List PyData) : Prop := ∃ ts, ds = ts.map tieD ∧ Ropes m n ts
theorem plc_in {m n i : Nat} (hm : m ≤ 3) (hn : n ≤ 6) (h : i < m + n) : hasP m n (plc m i) = true ∧ unD (plD (plc m i)) = plc m i := by
  have h' : ∀ m : Nat, m ≤ 3 → ∀ n : Nat, n ≤ 6 → ∀ i : Nat, i < 9 → i < m + n → hasP m n (plc m i) = true ∧ unD (plD (plc m i)) = plc m i := by decide +kernel
  exact h' m hm n hn i (by omega) h
set_option synthInstance.maxSize 100000 in
set_option synthInstance.maxHeartbeats 0 in
theorem tieD_good {m n : Nat} {t : V × V × Int} (hm : m ≤ 3) (hn : n ≤ 6) (h : TieIn m n t) : tieDB m n (tieD t) = true ∧ hasP m n t.1 = true ∧ hasP m n t.2.1 = true ∧ smT (tieD t) = true := by
  obtain ⟨i, j, h1, h2, h3, h4, h5, h6⟩ := h
  obtain ⟨x, y, l⟩ := t
  dsimp only at h4 h5 h6
  have key : ∀ m : Nat, m ≤ 3 → ∀ n : Nat, n ≤ 6 → ∀ i : Nat, i < 9 → ∀ j : Nat, j < 9 → i < j → m ≤ j → j < m + n → tieB m n (plc m i) (plc m j) (.int 1) = true ∧ tieB m n (plc m j) (plc m i) (.int 1) = true ∧ smD (plD (plc m i)) = true ∧ smD (plD (plc m j)) = true := by decide +kernel
  obtain ⟨a1, a2, a3, a4⟩ := key m hm n hn i (by omega) j (by omega) h1 h2 h3
  obtain ⟨b1, b2⟩ := plc_in hm hn (i := i) (by omega)
  obtain ⟨c1, c2⟩ := plc_in hm hn h3
  have el : lenB (.int l) = true := by
    show (decide (1 ≤ l) && decide (l ≤ 10 ^ 100)) = true
    rw [decide_eq_true h5, decide_eq_true h6]
    rfl
  have sub : ∀ u v : V, tieB m n u v (.int 1) = true → tieB m n u v (.int l) = true := fun u v h => by
    unfold tieB at h ⊢
    rw [el]
    exact h
  have sm : ∀ u v : V, smD (plD u) = true → smD (plD v) = true → smT (tieD (u, v, l)) = true := fun u v h1 h2 => by
    show (decide (3 ≤ 1000) && (smD (plD u) && (smD (plD v) && (true && true)))) = true
    rw [h1, h2]
    decide
  rcases h4 with ⟨e1, e2⟩ | ⟨e1, e2⟩
  · subst e1 e2
    refine ⟨?_, b1, c1, sm _ _ a3 a4⟩
    show tieB m n (unD (plD (plc m i))) (unD (plD (plc m j))) (.int l) = true
    rw [b2, c2]
    exact sub _ _ a1
  · subst e1 e2
    refine ⟨?_, c1, b1, sm _ _ a4 a3⟩
    show tieB m n (unD (plD (plc m j))) (unD (plD (plc m i))) (.int l) = true
    rw [b2, c2]
    exact sub _ _ a2
theorem kt_swap {m n : Nat} {t : V × V × Int} (l : Int) (hm : m ≤ 3) (hn : n ≤ 6) (h : TieIn m n t) : kt (t.2.1, t.1, l) = kt t := by
  obtain ⟨i, j, h1, h2, h3, h4, h5, h6⟩ := h
  rw [(kt_of hm hn h1 h2 h3 h4).1]
  exact (kt_of hm hn h1 h2 h3 (t := (t.2.1, t.1, l)) (h4.elim (fun h => .inr ⟨h.2, h.1⟩) fun h => .inl ⟨h.2, h.1⟩)).1
theorem bad_ins {m n k : Nat} {ds : List PyData} {d : PyData} (hm : m ≤ 3) (hn : n ≤ 6) (h : Good m n ds ∨ badR m n ds) (hd : tieDB m n d = false ∨ ∃ d0 d1 es rest, ds = .tuple (d0 :: d1 :: es) :: rest ∧ d = .tuple [d1, d0, .int 9]) : badR m n (ds.take k ++ [d] ++ ds.drop k) := by
  have mem : ∀ x, x ∈ ds → x ∈ ds.take k ++ [d] ++ ds.drop k := fun x hx => by
    rw [← List.take_append_drop k ds] at hx
    rcases List.mem_append.mp hx with hx | hx
    · exact List.mem_append_left _ (List.mem_append_left _ hx)
    · exact List.mem_append_right _ hx
  have left : (∃ x ∈ ds, tieDB m n x = false) → badR m n (ds.take k ++ [d] ++ ds.drop k) := fun ⟨x, h1, h2⟩ => .inl ⟨x, mem x h1, h2⟩
  rcases hd with hd | ⟨d0, d1, es, rest, e1, e2⟩
  · exact .inl ⟨d, List.mem_append_left _ (List.mem_append_right _ List.mem_cons_self), hd⟩
  · have core : ∀ us : List (V × V × Int), ds = us.map tieD → (∀ u ∈ us, TieIn m n u) → badR m n (ds.take k ++ [d] ++ ds.drop k) := fun us hu hi => by
      rw [hu] at e1
      cases us with
      | nil => cases e1
      | cons u us =>
        obtain ⟨e3, e4⟩ := List.cons.inj e1
        obtain ⟨e5, e6⟩ := List.cons.inj (PyData.tuple.inj e3)
        obtain ⟨e7, e8⟩ := List.cons.inj e6
        have ed : d = tieD (u.2.1, u.1, 9) := by rw [e2, ← e5, ← e7]; rfl
        have hu0 := hi u List.mem_cons_self
        refine .inr ⟨(u :: us).take k ++ [(u.2.1, u.1, 9)] ++ (u :: us).drop k, ?_, fun v hv => ?_, fun nd => ?_⟩
        · rw [hu, ed, List.map_append, List.map_append, List.map_take, List.map_drop]
          rfl
        · have : v ∈ u :: us ∨ v = (u.2.1, u.1, 9) := by
            rcases List.mem_append.mp hv with hv | hv
            · rcases List.mem_append.mp hv with hv | hv
              · exact .inl (List.mem_of_mem_take hv)
              · exact .inr (List.mem_singleton.mp hv)
            · exact .inl (List.mem_of_mem_drop hv)
          rcases this with h | rfl
          · exact hi v h
          · obtain ⟨i, j, h1, h2, h3, h4, h5, h6⟩ := hu0
            exact ⟨i, j, h1, h2, h3, h4.elim (fun h => .inr ⟨h.2, h.1⟩) (fun h => .inl ⟨h.2, h.1⟩), by show (1 : Int) ≤ 9; decide, by show (9 : Int) ≤ 10 ^ 100; decide +kernel⟩
        · have p : ((u :: us).take k ++ [(u.2.1, u.1, 9)] ++ (u :: us).drop k).Perm ((u.2.1, u.1, 9) :: u :: us) := by
            rw [List.append_assoc]
            refine List.perm_middle.trans (List.Perm.cons _ ?_)
            show ((u :: us).take k ++ (u :: us).drop k).Perm _
            rw [List.take_append_drop]
          have nd2 := (p.map kt).nodup_iff.mp nd
          rw [List.map_cons, List.nodup_cons] at nd2
          refine nd2.1 ?_
          rw [kt_swap 9 hm hn hu0]
          exact List.mem_map_of_mem List.mem_cons_self
    rcases h with ⟨ts, h1, h2, _⟩ | h | ⟨us, h1, h2, _⟩
    · exact core ts h1 h2
    · exact left h
    · exact core us h1 h2
def PartsAt (K : PySem.W.Frag) (H : Hp) (P : Addr) (d0 d1 : PyData) (ds sds : List PyData) : Prop := ∃ v0 v1 rl sl rvs svs, H P = some (.tup [v0, v1, .ref rl, .ref sl]) ∧ Dp K H v0 d0 ∧ Dp K H v1 d1 ∧ H rl = some (.lst rvs) ∧ DpAll K H rvs ds ∧ H sl = some (.lst svs) ∧ DpAll K H svs sds
theorem PartsAt.same {P : Addr} {d0 d1 : PyData} {ds sds : List PyData} (e : Same H H') (h : PartsAt K H P d0 d1 ds sds) : PartsAt K H' P d0 d1 ds sds := by
  obtain ⟨v0, v1, rl, sl, rvs, svs, h1, h2, h3, h4, h5, h6, h7⟩ := h
  exact ⟨v0, v1, rl, sl, rvs, svs, e _ _ h1, Dp.same e h2, Dp.same e h3, e _ _ h4, DpAll.same e h5, e _ _ h6, DpAll.same e h7⟩
theorem PartsAt.but {p P : Addr} {k : List (Key × V)} {d0 d1 : PyData} {ds sds : List PyData} (hp : H p = some (.dK k)) (e : SameBut p H H') (h : PartsAt K H P d0 d1 ds sds) : PartsAt K H' P d0 d1 ds sds := by
  obtain ⟨v0, v1, rl, sl, rvs, svs, h1, h2, h3, h4, h5, h6, h7⟩ := h
  exact ⟨v0, v1, rl, sl, rvs, svs, e _ _ (fun z => by rw [z, hp] at h1; cases h1) h1, Dp.but hp e h2, Dp.but hp e h3, e _ _ (fun z => by rw [z, hp] at h4; cases h4) h4, DpAll.but hp e h5, e _ _ (fun z => by rw [z, hp] at h6; cases h6) h6, DpAll.but hp e h7⟩
theorem but_isSome {p W : Addr} (hn : W ≠ p) (e : SameBut p H H') (h : (H W).isSome = true) : (H' W).isSome = true := by
  obtain ⟨o, ho⟩ := Option.isSome_iff_exists.mp h
  rw [e _ _ hn ho]
  rfl
theorem parts_new {W P rl sl : Addr} {v0 v1 : V} {rvs svs : List V} {d0 d1 : PyData} {ds sds : List PyData} (hP : H P = none) (hW : (H W).isSome = true) (h2 : Dp K (del H W) v0 d0) (h3 : Dp K (del H W) v1 d1) (h4 : del H W rl = some (.lst rvs)) (h5 : DpAll K (del H W) rvs ds) (h6 : del H W sl = some (.lst svs)) (h7 : DpAll K (del H W) svs sds) :
    PartsAt K (del (upd H P (.tup [v0, v1, .ref rl, .ref sl])) W) P d0 d1 ds sds := by
  have n := ne_of_isSome hW hP
  rw [del_upd n]
  have u : Same (del H W) (upd (del H W) P (.tup [v0, v1, .ref rl, .ref sl])) := same_upd (by rw [del_at n]; exact hP)
  exact ⟨v0, v1, rl, sl, rvs, svs, upd_same, Dp.same u h2, Dp.same u h3, u _ _ h4, DpAll.same u h5, u _ _ h6, DpAll.same u h7⟩
inductive Bent (m : Nat) (z : Str) (ds sds : List PyData) : Nat → PyData → PyData → List PyData → List PyData → Prop
  | mouth {d0 : PyData} (h : mouthD d0 = false) : Bent m z ds sds 0 d0 (.str z) ds sds
  | signs {d1 : PyData} (h : signsD d1 = false) (h2 : smD d1 = true) : Bent m z ds sds 1 (.int (m : Int)) d1 ds sds
  | ties {ds' : List PyData} (h : badR m z.length ds') (h2 : ∀ d ∈ ds', smT d = true ∧ tup2B d = true) (h3 : ds'.length = ds.length + 1) : Bent m z ds sds 2 (.int (m : Int)) (.str z) ds' sds
  | buds {d : PyData} (h : budDB m z.length d = false) (h2 : smB d = true) : Bent m z ds sds 3 (.int (m : Int)) (.str z) ds (sds ++ [d])
def spBent (K : PySem.W.Frag) : Sp := fun vs H Q _ => ∃ (p c P W : Addr) (b w m : Nat) (z : Str) (ds sds : List PyData), vs = [.ref p, .int (w : Int), .ref P] ∧ (H W).isSome = true ∧ W ≠ p ∧ PenOk H p c b ∧ b ≤ 100000000 ∧ w < 4 ∧ m ≤ 3 ∧ z.length ≤ 6 ∧ PartsAt K (del H W) P (.int (m : Int)) (.str z) ds sds ∧ ds.length ≤ 200 ∧ sds.length ≤ 10 ∧
  (∀ d ∈ ds, smT d = true ∧ tup2B d = true) ∧ (Good m z.length ds ∨ badR m z.length ds) ∧
  ∀ H' P' d0 d1 ds' sds', SameBut p H H' → PenOk H' p c (b + 10) → H P' = none → PartsAt K (del H' W) P' d0 d1 ds' sds' → Bent m z ds sds w d0 d1 ds' sds' → Q (.ref P') H'
theorem ok__law_bent (T : Top K mg) : FnOk PW w K mg base CX0 3 (fa K "_law_bent") (fdOf K (fa K "_law_bent")) ["_law_pen_here", "_law_which", "_law_parts"] (spBent K) := by
  refine T.F__law_bent.ok sc__law_bent (fun vs H Q E h => ?_) (fun cdv A outer s H vs Q E hr h => ?_)
  · obtain ⟨p, c, P, W, b, w0, m, z, ds, sds, rfl, _hW, _hWp, _hT, _hb, _hw, _hm, _hz, _hP, _hdl, _hsl, _hsm, _hgd, _k⟩ := h
    rfl
  · obtain ⟨p, c, P, W, b, w0, m, z, ds, sds, rfl, hW, hWp, hT, hb, hw, hm, hz, hP, hdl, hsl, hsm, hgd, k⟩ := h
    have hu := hu_of hr
    refine ⟨_, (pss_cons (ps_asg (pv 2) (pg_tup (by rfl) (pgs_cons (pg_name (i := 3) sc__law_bent.nd rfl (Or.inl rfl)) (pgs_cons (pg_name (i := 4) sc__law_bent.nd rfl (Or.inl rfl)) (pgs_cons (pg_name (i := 5) sc__law_bent.nd rfl (Or.inl rfl)) (pgs_cons (pg_name (i := 6) sc__law_bent.nd rfl (Or.inl rfl)) pgs_nil))))))
      (pss_cons (ps_set (i := 7) sc__law_bent.nd rfl (Or.inl rfl) (pe_op op_cat (pe_callTy (cr_listStr rfl) (by rfl) T.z_list (by decide +kernel) (pa_cons (pe_slice sl_str pe_str po_none (po_some (pv 3))) pa_nil)) (pe_listRg rfl (by rfl) T.z_list (prg_1 (by rfl) T.z_range (pe_callB call_len_str (by rfl) T.z_len (by decide +kernel) (pa_cons (pv 4) pa_nil))))))
      (pss_cons (ps_if (pt_cmpR op_eq (pv 1) pe_int (nomark _)) (pss_one (ps_set (i := 3) sc__law_bent.nd rfl (Or.inl rfl) (pe_call (ok__law_pick T) (hr.mono (by decide)) rfl T.g__law_pick T.F__law_pick.kp T.b__law_pick .nil pass0 (pa_cons (pv 0) (pa_cons (pe_lst (pa_cons (pe_un un_neg pe_int) (pa_cons pe_int (pa_cons pe_bl (pa_cons pe_non (pa_cons pe_str (pa_cons (pe_lst (pa_cons pe_int pa_nil)) (pa_cons (pe_op op_pow pe_int pe_int) pa_nil)))))))) pa_nil))))) pss_nil)
      (pss_cons (ps_if (pt_cmpR op_eq (pv 1) pe_int (nomark _)) (pss_one (ps_set (i := 4) sc__law_bent.nd rfl (Or.inl rfl) (pe_call (ok__law_pick T) (hr.mono (by decide)) rfl T.g__law_pick T.F__law_pick.kp T.b__law_pick .nil pass0 (pa_cons (pv 0) (pa_cons (pe_lst (pa_cons pe_non (pa_cons pe_int (pa_cons pe_str (pa_cons pe_str (pa_cons pe_str (pa_cons (pe_lst (pa_cons pe_str pa_nil)) (pa_cons pe_str (pa_cons pe_str pa_nil))))))))) pa_nil))))) pss_nil)
      (pss_cons (ps_if (pt_cmpR op_eq (pv 1) pe_int (nomark _)) (pss_cons (ps_set (i := 8) sc__law_bent.nd rfl (Or.inl rfl) (pe_lst (pa_cons (pe_tup (pa_cons pe_str (pa_cons pe_str (pa_cons pe_int pa_nil)))) (pa_cons (pe_tup (pa_cons pe_int (pa_cons pe_int (pa_cons pe_int pa_nil)))) (pa_cons (pe_tup (pa_cons pe_int (pa_cons pe_int (pa_cons pe_int pa_nil)))) (pa_cons (pe_tup (pa_cons pe_int (pa_cons pe_str (pa_cons pe_int pa_nil)))) (pa_cons (pe_tup (pa_cons pe_int (pa_cons pe_int pa_nil))) (pa_cons pe_non (pa_cons pe_int (pa_cons (pe_tup (pa_cons pe_int (pa_cons pe_int (pa_cons pe_int pa_nil)))) (pa_cons (pe_tup (pa_cons pe_int (pa_cons pe_int (pa_cons pe_bl pa_nil)))) pa_nil)))))))))))
      (pss_cons (ps_expr (pe_bm PySem.F.plainAttrs_list PySem.F.slot_list_append PySem.F.type_list_append mt_append (pv 8) (pa_cons (pe_tup (pa_cons pe_bl (pa_cons pe_int (pa_cons pe_int pa_nil)))) pa_nil)))
      (pss_cons (ps_set (i := 8) sc__law_bent.nd rfl (Or.inl rfl) (pe_op op_cat (pv 8) (pe_lst (pa_cons (pe_tup (pa_cons pe_int (pa_cons pe_int (pa_cons (pe_op op_add (pe_op op_mulW (pe_op op_pow pe_int pe_int) (pe_op op_pow pe_int pe_int)) pe_int) pa_nil)))) (pa_cons (pe_tup (pa_cons (pe_un un_neg pe_int) (pa_cons pe_int (pa_cons pe_int pa_nil)))) (pa_cons (pe_tup (pa_cons pe_str (pa_cons pe_int (pa_cons pe_int pa_nil)))) (pa_cons (pe_tup (pa_cons pe_int (pa_cons pe_int (pa_cons pe_str pa_nil)))) (pa_cons (pe_tup (pa_cons pe_int (pa_cons pe_int (pa_cons pe_non pa_nil)))) (pa_cons pe_str pa_nil)))))))))
      (pss_cons (ps_set (i := 9) sc__law_bent.nd rfl (Or.inl rfl) (pe_call (ok__law_pick T) (hr.mono (by decide)) rfl T.g__law_pick T.F__law_pick.kp T.b__law_pick .nil pass0 (pa_cons (pv 0) (pa_cons (pv 8) pa_nil))))
      (pss_cons (ps_set (i := 10) sc__law_bent.nd rfl (Or.inl rfl) (pe_call (ok__law_draw T) (hr.mono (by decide)) rfl T.g__law_draw T.F__law_draw.kp T.b__law_draw .nil pass0 (pa_cons (pv 0) (pa_cons (pe_op op_add (pe_callB call_len_seq (by rfl) T.z_len (by decide +kernel) (pa_cons (pv 5) pa_nil)) pe_int) pa_nil))))
      (pss_cons (ps_set (i := 11) sc__law_bent.nd rfl (Or.inl rfl) (pe_and (pe_cmpR (op_neNil hr.units0) (pv 5) (pe_lst pa_nil) (nomark _)) (pe_one (pe_callB call_isi (by rfl) T.z_isinstance (by decide +kernel) (pa_cons (pe_ix ix_list (pv 5) pe_int (fun _ _ => rfl)) (pa_cons (pe_bltn (v := .ty "tuple") (by rfl) T.z_tuple (by decide +kernel) rfl) pa_nil))))))
      (pss_cons (ps_set (i := 12) sc__law_bent.nd rfl (Or.inl rfl) (pe_ifExp (PW.pt (pw_and (pt_val (pv 11)) (pw_and1 (pt_cmpR op_eq (pe_call (ok__law_draw T) (hr.mono (by decide)) rfl T.g__law_draw T.F__law_draw.kp T.b__law_draw .nil pass0 (pa_cons (pv 0) (pa_cons pe_int pa_nil))) pe_int (nomark _))))) (pe_lst (pa_cons (pe_tup (pa_cons (pe_ix ix_tup (pe_ix ix_list (pv 5) pe_int (fun _ _ => rfl)) pe_int (fun _ _ => rfl)) (pa_cons (pe_ix ix_tup (pe_ix ix_list (pv 5) pe_int (fun _ _ => rfl)) pe_int (fun _ _ => rfl)) (pa_cons pe_int pa_nil)))) pa_nil)) (pe_lst (pa_cons (pv 9) pa_nil))))
      (pss_one (ps_set (i := 5) sc__law_bent.nd rfl (Or.inl rfl) (pe_op op_cat (pe_op op_cat (pe_slice sl_list (pv 5) po_none (po_some (pv 10))) (pv 12)) (pe_slice sl_list (pv 5) (po_some (pv 10)) po_none))))))))))) pss_nil)
      (pss_cons (ps_if (pt_cmpR op_eq (pv 1) pe_int (nomark _)) (pss_cons (ps_set (i := 13) sc__law_bent.nd rfl (Or.inl rfl) (pe_ifExp (pt_cmpR (op_neNil hr.units0) (pv 7) (pe_lst pa_nil) (nomark _)) (pe_call (ok__law_pick T) (hr.mono (by decide)) rfl T.g__law_pick T.F__law_pick.kp T.b__law_pick .nil pass0 (pa_cons (pv 0) (pa_cons (pv 7) pa_nil))) pe_int))
      (pss_cons (ps_set (i := 8) sc__law_bent.nd rfl (Or.inl rfl) (pe_lst (pa_cons (pe_tup (pa_cons pe_str (pa_cons (pe_tup (pa_cons pe_int pa_nil)) pa_nil))) (pa_cons (pe_tup (pa_cons pe_str (pa_cons (pe_tup (pa_cons pe_int pa_nil)) pa_nil))) (pa_cons (pe_tup (pa_cons pe_str (pa_cons (pe_tup pa_nil) pa_nil))) (pa_cons (pe_tup (pa_cons pe_str (pa_cons (pe_tup (pa_cons (pv 13) (pa_cons (pv 13) pa_nil))) pa_nil))) (pa_cons (pe_tup (pa_cons pe_str (pa_cons (pe_tup (pa_cons pe_int pa_nil)) pa_nil))) (pa_cons (pe_tup (pa_cons pe_str (pa_cons pe_int pa_nil))) (pa_cons pe_str pa_nil)))))))))
      (pss_cons (ps_set (i := 8) sc__law_bent.nd rfl (Or.inl rfl) (pe_op op_cat (pv 8) (pe_lst (pa_cons (pe_tup (pa_cons pe_str (pa_cons (pe_tup (pa_cons pe_int pa_nil)) pa_nil))) (pa_cons (pe_tup (pa_cons pe_str (pa_cons (pe_tup (pa_cons pe_str pa_nil)) pa_nil))) (pa_cons (pe_tup (pa_cons pe_str (pa_cons (pe_tup (pa_cons pe_bl pa_nil)) pa_nil))) (pa_cons pe_non (pa_cons (pe_tup (pa_cons pe_str (pa_cons (pe_tup (pa_cons pe_int (pa_cons pe_int (pa_cons pe_int (pa_cons pe_int pa_nil))))) pa_nil))) (pa_cons (pe_tup (pa_cons pe_int (pa_cons (pe_tup (pa_cons pe_int pa_nil)) pa_nil))) pa_nil)))))))))
      (pss_cons (ps_set (i := 9) sc__law_bent.nd rfl (Or.inl rfl) (pe_call (ok__law_pick T) (hr.mono (by decide)) rfl T.g__law_pick T.F__law_pick.kp T.b__law_pick .nil pass0 (pa_cons (pv 0) (pa_cons (pv 8) pa_nil))))
      (pss_one (ps_set (i := 6) sc__law_bent.nd rfl (Or.inl rfl) (pe_op op_cat (pv 6) (pe_lst (pa_cons (pv 9) pa_nil))))))))) pss_nil)
      (pss_one (ps_ret (pe_tup (pa_cons (pv 3) (pa_cons (pv 4) (pa_cons (pv 5) (pa_cons (pv 6) pa_nil))))))))))))), ?_⟩
    obtain ⟨v0, v1, rl, sl, rvs, svs, hP1, hv0, hv1, hrl, hrs, hsl1, hss⟩ := hP
    cases hv0
    cases hv1
    have e0 : Same (del H W) H := del_same
    refine ⟨_, rfl, P, _, rfl, SqT.of (e0 _ _ hP1), rfl, _, _, rfl, _, _, rfl, _, _, rfl, _, _, rfl, rfl, ?_⟩
    have hc3 : (cutS "abc" none (some (m : Int))).length ≤ 3 := by rcases m with _ | _ | _ | _ | m <;> first | omega | decide +kernel
    refine ⟨_, rfl, _, rfl, "abc", rfl, by decide, _, rfl, szS (by omega), fun a1 ha1 => ?_⟩
    have u1 := same_upd (o := .lst ((SM.signs (cutS "abc" none (some (m : Int)))).map V.str)) ha1
    refine ⟨_, rfl, z, rfl, szS (by omega), _, rfl, .of_le (by omega) (by omega) (by omega) (by omega), fun a2 ha2 => ?_⟩
    have u2 := same_upd (o := .lst (rgV 0 (z.length : Int))) ha2
    refine ⟨a1, a2, _, _, rfl, rfl, u2 _ _ upd_same, upd_same, (by rw [← List.length_append, places_eq hm hz, plcs_len, sizeLine_eq]; omega), fun pl hpl => ?_⟩
    rw [places_eq hm hz]
    have u3 := same_upd (o := .lst (plcs m z.length)) hpl
    have u := u1.trans (u2.trans u3)
    have hpl1 := upd_same (a := pl) (o := HO.lst (plcs m z.length)) (H := upd (upd H a1 (.lst ((SM.signs (cutS "abc" none (some (m : Int)))).map V.str))) a2 (.lst (rgV 0 (z.length : Int))))
    generalize upd (upd (upd H a1 (.lst ((SM.signs (cutS "abc" none (some (m : Int)))).map V.str))) a2 (.lst (rgV 0 (z.length : Int)))) pl (.lst (plcs m z.length)) = H1 at u hpl1 ⊢
    have t1 := hT.same u
    have hW1 := Same.isSome u hW
    have hrlD := same_del W u _ _ hrl
    have hslD := same_del W u _ _ hsl1
    have hrl1 := del_same _ _ hrlD
    have hsl11 := del_same _ _ hslD
    have hrs1 := DpAll.same (same_del W u) hrs
    have hss1 := DpAll.same (same_del W u) hss
    obtain ⟨kd1, hkd1⟩ := t1.dict
    have hkD1 : del H1 W p = some (.dK kd1) := by rw [del_at hWp.symm]; exact hkd1
    have nrp : rl ≠ p := fun e => by rw [e, hkd1] at hrl1; cases hrl1
    have nsp : sl ≠ p := fun e => by rw [e, hkd1] at hsl11; cases hsl11
    have npp : pl ≠ p := fun e => by rw [e, hkd1] at hpl1; cases hpl1
    rcases w0 with _ | _ | _ | _ | w0
    · refine ⟨_, rfl, tcI ⟨rfl, _, rfl, ifT (weq rfl) ?_⟩⟩
      refine ⟨_, rfl, ?_⟩
      refine ges_cons (ge_lst (K := K) (H0 := H1) (ds := odM) (ges_cons ge_neg (ges_cons ge_int (ges_cons ge_bl (ges_cons ge_non (ges_cons ge_str (ges_cons (ge_lst (ges_cons ge_int ges_nil)) (ges_cons (ge_pow ⟨by decide, by decide, by decide⟩) ges_nil)))))))) ges_nil _ _ (Same.refl _) ?_
      intro vl H2 s2 _ hdW
      obtain ⟨La, lx, rfl, hLsD, hdl⟩ := dp1L (hdW W hW1)
      have hLs := Same.seq del_same hLsD
      have hW2 := Same.isSome s2 hW1
      have hxl := DpAll.length hdl
      have hol : odM.length = 7 := rfl
      have t2 := t1.same s2
      obtain ⟨kd2, hkd2⟩ := t2.dict
      have hkD2 : del H2 W p = some (.dK kd2) := by rw [del_at hWp.symm]; exact hkd2
      refine ⟨p, c, La, b, lx, rfl, t2, by omega, hLs, by omega, by omega, fun i x H3 hx s3 t3 => ?_⟩
      obtain ⟨d, hd1, hDp⟩ := DpAll.at hdl hx
      have hbad := odM_ok d (List.mem_of_getElem? hd1)
      refine ⟨_, rfl, tcI ⟨rfl, _, rfl, ifF (wne (by decide)) ?_⟩⟩
      refine ⟨_, rfl, tcI ⟨rfl, _, rfl, ifF (wne (by decide)) ?_⟩⟩
      refine ⟨_, rfl, tcI ⟨rfl, _, rfl, ifF (wne (by decide)) ?_⟩⟩
      refine ⟨_, rfl, _, rfl, _, rfl, _, rfl, Nat.le_of_ble_eq_true rfl, fun P' hP' => ?_⟩
      have uP := same_upd (o := .tup [x, .str z, .ref rl, .ref sl]) hP'
      have sb : SameBut p H (upd H3 P' (.tup [x, .str z, .ref rl, .ref sl])) := (Same.but p u).trans ((Same.but p s2).trans (s3.trans (Same.but p uP)))
      have s13 : SameBut p H1 H3 := (Same.but p s2).trans s3
      refine k _ P' d (.str z) ds sds sb ((t3.same uP).mono (by omega)) (pen_fresh ((Same.but p u).trans s13) t3 hP') ?_ (.mouth hbad)
      exact parts_new hP' (but_isSome hWp s13 hW1) (Dp.but hkD2 (but_del W s3) hDp) (.str z) (but_del W s13 _ _ nrp hrlD) (DpAll.but hkD1 (but_del W s13) hrs1) (but_del W s13 _ _ nsp hslD) (DpAll.but hkD1 (but_del W s13) hss1)
    · refine ⟨_, rfl, tcI ⟨rfl, _, rfl, ifF (wne (by decide)) ?_⟩⟩
      refine ⟨_, rfl, tcI ⟨rfl, _, rfl, ifT (weq rfl) ?_⟩⟩
      refine ⟨_, rfl, ?_⟩
      refine ges_cons (ge_lst (K := K) (H0 := H1) (ds := odS) (ges_cons ge_non (ges_cons ge_int (ges_cons ge_str (ges_cons ge_str (ges_cons ge_str (ges_cons (ge_lst (ges_cons ge_str ges_nil)) (ges_cons ge_str (ges_cons ge_str ges_nil))))))))) ges_nil _ _ (Same.refl _) ?_
      intro vl H2 s2 _ hdW
      obtain ⟨La, lx, rfl, hLsD, hdl⟩ := dp1L (hdW W hW1)
      have hLs := Same.seq del_same hLsD
      have hW2 := Same.isSome s2 hW1
      have hxl := DpAll.length hdl
      have hol : odS.length = 8 := rfl
      have t2 := t1.same s2
      obtain ⟨kd2, hkd2⟩ := t2.dict
      have hkD2 : del H2 W p = some (.dK kd2) := by rw [del_at hWp.symm]; exact hkd2
      refine ⟨p, c, La, b, lx, rfl, t2, by omega, hLs, by omega, by omega, fun i x H3 hx s3 t3 => ?_⟩
      obtain ⟨d, hd1, hDp⟩ := DpAll.at hdl hx
      obtain ⟨hbad, hsmd⟩ := odS_ok d (List.mem_of_getElem? hd1)
      refine ⟨_, rfl, tcI ⟨rfl, _, rfl, ifF (wne (by decide)) ?_⟩⟩
      refine ⟨_, rfl, tcI ⟨rfl, _, rfl, ifF (wne (by decide)) ?_⟩⟩
      refine ⟨_, rfl, _, rfl, _, rfl, _, rfl, Nat.le_of_ble_eq_true rfl, fun P' hP' => ?_⟩
      have uP := same_upd (o := .tup [.int (m : Int), x, .ref rl, .ref sl]) hP'
      have sb : SameBut p H (upd H3 P' (.tup [.int (m : Int), x, .ref rl, .ref sl])) := (Same.but p u).trans ((Same.but p s2).trans (s3.trans (Same.but p uP)))
      have s13 : SameBut p H1 H3 := (Same.but p s2).trans s3
      refine k _ P' (.int (m : Int)) d ds sds sb ((t3.same uP).mono (by omega)) (pen_fresh ((Same.but p u).trans s13) t3 hP') ?_ (.signs hbad hsmd)
      exact parts_new hP' (but_isSome hWp s13 hW1) (.int _) (Dp.but hkD2 (but_del W s3) hDp) (but_del W s13 _ _ nrp hrlD) (DpAll.but hkD1 (but_del W s13) hrs1) (but_del W s13 _ _ nsp hslD) (DpAll.but hkD1 (but_del W s13) hss1)
    · refine ⟨_, rfl, tcI ⟨rfl, _, rfl, ifF (wne (by decide)) ?_⟩⟩
      refine ⟨_, rfl, tcI ⟨rfl, _, rfl, ifF (wne (by decide)) ?_⟩⟩
      refine ⟨_, rfl, tcI ⟨rfl, _, rfl, ifT (weq rfl) ?_⟩⟩
      refine seq_lst (K := K) (H0 := H1) (ds := odT1) (ges_cons (ge_tup (ges_cons ge_str (ges_cons ge_str (ges_cons ge_int ges_nil)))) (ges_cons (ge_tup (ges_cons ge_int (ges_cons ge_int (ges_cons ge_int ges_nil)))) (ges_cons (ge_tup (ges_cons ge_int (ges_cons ge_int (ges_cons ge_int ges_nil)))) (ges_cons (ge_tup (ges_cons ge_int (ges_cons ge_str (ges_cons ge_int ges_nil)))) (ges_cons (ge_tup (ges_cons ge_int (ges_cons ge_int ges_nil))) (ges_cons ge_non (ges_cons ge_int (ges_cons (ge_tup (ges_cons ge_int (ges_cons ge_int (ges_cons ge_int ges_nil)))) (ges_cons (ge_tup (ges_cons ge_int (ges_cons ge_int (ges_cons ge_bl ges_nil)))) ges_nil))))))))) (by decide) (Same.refl _) fun l1 vs1 H2 s2 hl1 hd1 hd1W => ?_
      have ul1 := same_upd (o := .lst vs1) hl1
      have hl1v : vs1.length = 9 := DpAll.length hd1
      refine ⟨_, rfl, .inl ⟨rfl, _, SqL.of upd_same⟩, Nat.le_of_ble_eq_true rfl, fun tm htm => ⟨l1, _, _, rfl, rfl, (same_upd htm) _ _ upd_same, (by rw [hl1v]; decide), ?_⟩⟩
      have utm := same_upd (o := .tup [.bl true, .int 1, .int 1]) htm
      have hW2 := Same.isSome s2 hW1
      have ntmW := ne_of_isSome (Same.isSome ul1 hW2) htm
      have nml : tm ≠ l1 := fun e => by rw [e, upd_same] at htm; cases htm
      have s24 : Same H2 (upd (upd (upd H2 l1 (.lst vs1)) tm (.tup [.bl true, .int 1, .int 1])) l1 (.lst (vs1 ++ [.ref tm]))) := same_new hl1 (ul1.trans utm)
      have hl14 : (upd (upd (upd H2 l1 (.lst vs1)) tm (.tup [.bl true, .int 1, .int 1])) l1 (.lst (vs1 ++ [.ref tm]))) l1 = some (.lst (vs1 ++ [.ref tm])) := upd_same
      have htm4 : (upd (upd (upd H2 l1 (.lst vs1)) tm (.tup [.bl true, .int 1, .int 1])) l1 (.lst (vs1 ++ [.ref tm]))) tm = some (.tup [.bl true, .int 1, .int 1]) := by rw [upd_ne nml, upd_same]
      generalize upd (upd (upd H2 l1 (.lst vs1)) tm (.tup [.bl true, .int 1, .int 1])) l1 (.lst (vs1 ++ [.ref tm])) = H4 at s24 hl14 htm4 ⊢
      have htm4D : del H4 W tm = some (.tup [.bl true, .int 1, .int 1]) := by rw [del_at ntmW]; exact htm4
      have hW4 := Same.isSome s24 hW2
      have hd4 : DpAll K (del H4 W) (vs1 ++ [.ref tm]) (odT1 ++ [odTm]) := DpAll.app (DpAll.same (same_del W s24) (hd1W W hW1)) (.cons (.tup (SqT.of htm4D) (.cons (.bl true) (.cons (.int 1) (.cons (.int 1) .nil)))) .nil)
      refine ⟨_, rfl, ?_⟩
      refine lst_new (K := K) (H0 := H4) (ds := odT2) (ges_cons (ge_tup (ges_cons ge_int (ges_cons ge_int (ges_cons ge_big ges_nil)))) (ges_cons (ge_tup (ges_cons ge_neg (ges_cons ge_int (ges_cons ge_int ges_nil)))) (ges_cons (ge_tup (ges_cons ge_str (ges_cons ge_int (ges_cons ge_int ges_nil)))) (ges_cons (ge_tup (ges_cons ge_int (ges_cons ge_int (ges_cons ge_str ges_nil)))) (ges_cons (ge_tup (ges_cons ge_int (ges_cons ge_int (ges_cons ge_non ges_nil)))) (ges_cons ge_str ges_nil)))))) (by decide) (Same.refl _) fun l2 vs2 H5 s5 hl2 hd2 hd2W => ?_
      have hl2v : vs2.length = 6 := DpAll.length hd2
      have ul2 := same_upd (o := .lst vs2) hl2
      refine ⟨l1, l2, _, _, rfl, rfl, ul2 _ _ (s5 _ _ hl14), upd_same, (by rw [List.length_append, hl1v, hl2v, sizeLine_eq]; show 9 + 1 + 6 ≤ _; decide), fun l3 hl3 => ?_⟩
      have ul3 := same_upd (o := .lst (vs1 ++ [.ref tm] ++ vs2)) hl3
      have hl36 := upd_same (a := l3) (o := HO.lst (vs1 ++ [.ref tm] ++ vs2)) (H := upd H5 l2 (.lst vs2))
      generalize hH6 : upd (upd H5 l2 (.lst vs2)) l3 (.lst (vs1 ++ [.ref tm] ++ vs2)) = H6 at ul3 hl36 ⊢
      have s56 : Same H5 H6 := ul2.trans ul3
      have s16 : Same H1 H6 := s2.trans (s24.trans (s5.trans s56))
      have hd6 : DpAll K (del H6 W) (vs1 ++ [.ref tm] ++ vs2) (odT1 ++ [odTm] ++ odT2) := DpAll.app (DpAll.same (same_del W (s5.trans s56)) hd4) (DpAll.same (same_del W s56) (hd2W W hW4))
      have t6 := t1.same s16
      obtain ⟨kd6, hkd6⟩ := t6.dict
      have hkD6 : del H6 W p = some (.dK kd6) := by rw [del_at hWp.symm]; exact hkd6
      refine ⟨_, rfl, _, rfl, p, c, l3, b, _, rfl, t6, by omega, SqL.of hl36, (by rw [List.length_append, List.length_append, hl1v, hl2v]; show 1 ≤ 9 + 1 + 6; decide), (by rw [List.length_append, List.length_append, hl1v, hl2v]; show 9 + 1 + 6 ≤ 1000; decide), fun i x H7 hx s7 t7 => ?_⟩
      obtain ⟨d, hdd, hDp6⟩ := DpAll.at hd6 hx
      obtain ⟨hbad, hsmd, htp⟩ := odT_ok m hm z.length hz d (List.mem_of_getElem? hdd)
      have hDp7 := Dp.but hkD6 (but_del W s7) hDp6
      have s17 : SameBut p H1 H7 := (Same.but p s16).trans s7
      have hrl7 := s17 _ _ nrp hrl1
      have hrvl : rvs.length = ds.length := DpAll.length hrs
      refine ⟨_, rfl, _, rfl, rl, _, rfl, .inl (SqL.of hrl7), tcI (i0 (v := .int ((rvs.length + 1 : Nat) : Int)) (congrArg V.int (by omega)) ⟨p, c, b + 1, _, rfl, t7, by omega, lim_small (by omega) (by omega), fun at1 H8 hat s8 t8 => ?_⟩)⟩
      obtain ⟨kd7, hkd7⟩ := t7.dict
      have hkD7 : del H7 W p = some (.dK kd7) := by rw [del_at hWp.symm]; exact hkd7
      have s18 := s17.trans s8
      have hrl8 := s18 _ _ nrp hrl1
      have hrs8 := DpAll.but hkD1 (but_del W s18) hrs1
      have hDp8 := Dp.but hkD7 (but_del W s8) hDp7
      dsimp only [gName]
      show tSeq _ _ _ [some (.ref p), _, some (.ref P), some (.int (m : Int)), some (.str z), some (.ref rl), some (.ref sl), some (.ref pl), some (.ref l3), some x, some (.int (at1 : Int)), none, none, none] H8
      refine seq_via (fun v H9 => Same H8 H9 ∧ ∃ bw, v = .bl bw ∧ (bw = true → ∃ a0 xs0 rest e0 dr, rvs = .ref a0 :: rest ∧ ds = .tuple e0 :: dr ∧ SqT K (del H9 W) a0 xs0 ∧ DpAll K (del H9 W) xs0 e0)) (fun Q' hQ' => ?_) ?_
      · refine ⟨_, rfl, Nat.le_of_ble_eq_true rfl, fun q hq => ⟨rl, q, _, rfl, rfl, SqL.of ((same_upd hq) _ _ hrl8), SqL.of upd_same, _, rfl, ?_⟩⟩
        have uq := same_upd (o := .lst []) hq
        rcases rvs with _ | ⟨r0, rest⟩
        · exact ifF rfl (hQ' _ _ ⟨uq, false, rfl, fun e => nomatch e⟩)
        · obtain ⟨d0, dr, rfl, hd0, hdr⟩ := dpcV hrs8
          have hd09 := Dp.same (same_del W uq) hd0
          rcases dp_tup hd09 with ⟨a0, xs0, e0, rfl, rfl, h1, h2⟩ | ⟨nty, h1, h2⟩
          · refine ifT rfl ⟨_, rfl, tcI ⟨rl, _, _, _, rfl, rfl, SqL.of (uq _ _ hrl8), atI_nat (j := 0) rfl, _, _, _, _, true, rfl, .ty _, ty_tup (Same.seqT del_same h1), kit_ty (by decide +kernel), ?_⟩⟩
            exact hQ' _ _ ⟨uq, true, rfl, fun _ => ⟨a0, xs0, rest, e0, dr, rfl, rfl, h1, h2⟩⟩
          · refine ifT rfl ⟨_, rfl, tcI ⟨rl, _, _, _, rfl, rfl, SqL.of (uq _ _ hrl8), atI_nat (j := 0) rfl, _, _, _, _, false, rfl, .ty _, TyX.same del_same h1, kit_ty h2, ?_⟩⟩
            exact hQ' _ _ ⟨uq, false, rfl, fun e => nomatch e⟩
      · rintro v H9 ⟨s9, bw, rfl, hbw⟩
        have t9 := t8.same s9
        have hDp9 := Dp.same (same_del W s9) hDp8
        have hW9 := Same.isSome s9 (but_isSome hWp s18 hW1)
        have hrl9 := s9 _ _ hrl8
        dsimp only [gName]
        show tSeq _ _ _ [some (.ref p), _, some (.ref P), some (.int (m : Int)), some (.str z), some (.ref rl), some (.ref sl), some (.ref pl), some (.ref l3), some x, some (.int (at1 : Int)), some (.bl bw), none, none] H9
        refine seq_via (fun v H10 => SameBut p H9 H10 ∧ PenOk H10 p c (b + 3) ∧ ∃ l u d, v = .ref l ∧ H10 l = some (.lst [u]) ∧ l ≠ p ∧ l ≠ W ∧ Dp K (del H10 W) u d ∧ smT d = true ∧ tup2B d = true ∧ (tieDB m z.length d = false ∨ ∃ d0 d1 es rest, ds = .tuple (d0 :: d1 :: es) :: rest ∧ d = .tuple [d1, d0, .int 9])) (fun Q' hQ' => ?_) ?_
        · have els : ∀ (H10 : Hp), SameBut p H9 H10 → PenOk H10 p c (b + 3) → ∀ l, H10 l = none → Q' (.ref l) (upd H10 l (.lst [x])) := fun H10 s10 t10 l hl => by
            obtain ⟨kd9, hkd9⟩ := t9.dict
            have hkD9 : del H9 W p = some (.dK kd9) := by rw [del_at hWp.symm]; exact hkd9
            have ul := same_upd (o := .lst [x]) hl
            exact hQ' _ _ ⟨s10.trans (Same.but p ul), t10.same ul, l, x, d, rfl, upd_same, (t10.ne hl).1, ne_of_isSome (but_isSome hWp s10 hW9) hl, Dp.same (same_del W ul) (Dp.but hkD9 (but_del W s10) hDp9), hsmd, htp, .inl hbad⟩
          refine ⟨_, rfl, bw, rfl, ?_⟩
          cases bw with
          | false => exact iteF (iteF ⟨_, rfl, Nat.le_of_ble_eq_true rfl, fun l hl => els H9 (Same.but p (Same.refl _)) (t9.mono (by omega)) l hl⟩)
          | true =>
            obtain ⟨a0, xs0, rest, e0, dr, rfl, rfl, h1, h2⟩ := hbw rfl
            refine iteT ⟨_, rfl, p, c, b + 2, 4, rfl, t9, by omega, lim_small (by decide) (by decide), fun x4 H10 hx4 s10 t10 => tcI ⟨rfl, _, rfl, ?_⟩⟩
            cases hc4 : decide (V.int (x4 : Int) = V.int 0) with
            | false => exact iteF ⟨_, rfl, Nat.le_of_ble_eq_true rfl, fun l hl => els H10 s10 t10 l hl⟩
            | true =>
              have hh := (hsm _ List.mem_cons_self)
              have h2l : 2 ≤ e0.length := of_decide_eq_true hh.2
              rcases e0 with _ | ⟨d0, _ | ⟨d1, es⟩⟩
              · exact absurd h2l (by decide)
              · exact absurd h2l (by show ¬ 2 ≤ 1; decide)
              · obtain ⟨kd9, hkd9⟩ := t9.dict
                have hkD9 : del H9 W p = some (.dK kd9) := by rw [del_at hWp.symm]; exact hkd9
                obtain ⟨y0, ys, rfl, g0, gs⟩ := dpc h2
                obtain ⟨y1, ys1, rfl, g1, _⟩ := dpc gs
                have hT10 := Same.seqT del_same ((but_del W s10).sqT hkD9 h1)
                have hrl10 := s10 _ _ nrp hrl9
                have g0' := Dp.but hkD9 (but_del W s10) g0
                have g1' := Dp.but hkD9 (but_del W s10) g1
                have hW10 := but_isSome hWp s10 hW9
                refine iteT ⟨_, rfl, tcI ⟨rl, _, _, _, rfl, rfl, SqL.of hrl10, atI_nat (j := 0) rfl, tcI ⟨a0, _, _, _, rfl, rfl, hT10, atI_nat (j := 1) rfl, _, rfl, tcI ⟨rl, _, _, _, rfl, rfl, SqL.of hrl10, atI_nat (j := 0) rfl, tcI ⟨a0, _, _, _, rfl, rfl, hT10, atI_nat (j := 0) rfl, Nat.le_of_ble_eq_true rfl, fun tq htq => ⟨Nat.le_of_ble_eq_true rfl, fun l hl => ?_⟩⟩⟩⟩⟩⟩
                have uq := same_upd (o := .tup [y1, y0, .int 9]) htq
                have ul := same_upd (o := .lst [.ref tq]) hl
                have uu := uq.trans ul
                have hsme : smD d0 = true ∧ smD d1 = true := by
                  have h3 : (decide ((d0 :: d1 :: es).length ≤ 1000) && (smD d0 && (smD d1 && es.all smD))) = true := hh.1
                  simp only [Bool.and_eq_true] at h3
                  exact ⟨h3.2.1, h3.2.2.1⟩
                have ntW := ne_of_isSome hW10 htq
                have nlW := ne_of_isSome (Same.isSome uq hW10) hl
                refine hQ' _ _ ⟨s10.trans (Same.but p uu), t10.same uu, l, .ref tq, .tuple [d1, d0, .int 9], rfl, upd_same, (t10.ne (fresh_back uq hl)).1, nlW, .tup (SqT.of (by rw [del_at ntW]; exact ul _ _ upd_same)) (.cons (Dp.same (same_del W uu) g1') (.cons (Dp.same (same_del W uu) g0') (.cons (.int 9) .nil))), ?_, rfl, .inr ⟨d0, d1, es, dr, rfl, rfl⟩⟩
                show (decide (3 ≤ 1000) && (smD d1 && (smD d0 && (true && true)))) = true
                rw [hsme.1, hsme.2]
                decide
        · rintro v H10 ⟨s10, t10, la, ua, da, rfl, hla, nlap, nlaW, hda, hsa, hta, hor⟩
          have s110 : SameBut p H1 H10 := s18.trans ((Same.but p s9).trans s10)
          have hrl10 := s110 _ _ nrp hrl1
          have hrs10 := DpAll.but hkD1 (but_del W s110) hrs1
          have hslD10 := but_del W s110 _ _ nsp hslD
          have hss10 := DpAll.but hkD1 (but_del W s110) hss1
          have hW10 := but_isSome hWp s110 hW1
          dsimp only [gName]
          show tAsg _ _ _ [some (.ref p), _, some (.ref P), some (.int (m : Int)), some (.str z), some (.ref rl), some (.ref sl), some (.ref pl), some (.ref l3), some x, some (.int (at1 : Int)), some (.bl bw), some (.ref la), none] H10
          refine ⟨_, rfl, _, rfl, _, rfl, rl, _, rfl, SqL.of hrl10, fun l4 h4 => ?_⟩
          rw [cutT]
          have v4 := same_upd (o := .lst (rvs.take at1)) h4
          refine ⟨_, rfl, l4, la, _, _, rfl, rfl, upd_same, v4 _ _ hla, (by rw [List.length_take, sizeLine_eq]; show _ + 1 ≤ _; omega), fun l5 h5 => ?_⟩
          have v5 := same_upd (o := .lst (rvs.take at1 ++ [ua])) h5
          refine ⟨_, rfl, _, rfl, _, rfl, noPart ⟨rl, _, rfl, SqL.of ((v4.trans v5) _ _ hrl10), fun l6 h6 => ?_⟩⟩
          rw [cutD _ _ (by omega)]
          have v6 := same_upd (o := .lst (rvs.drop at1)) h6
          refine ⟨l5, l6, _, _, rfl, rfl, v6 _ _ upd_same, upd_same, (by rw [List.length_append, List.length_take, List.length_drop, sizeLine_eq]; show _ + 1 + _ ≤ _; omega), fun l7 h7 => ?_⟩
          have v7 := same_upd (o := .lst (rvs.take at1 ++ [ua] ++ rvs.drop at1)) h7
          have vv := v4.trans (v5.trans (v6.trans v7))
          have nl7W := ne_of_isSome (Same.isSome (v4.trans (v5.trans v6)) hW10) h7
          have hl7 := upd_same (a := l7) (o := HO.lst (rvs.take at1 ++ [ua] ++ rvs.drop at1)) (H := upd (upd (upd H10 l4 (.lst (rvs.take at1))) l5 (.lst (rvs.take at1 ++ [ua]))) l6 (.lst (rvs.drop at1)))
          generalize upd (upd (upd (upd H10 l4 (.lst (rvs.take at1))) l5 (.lst (rvs.take at1 ++ [ua]))) l6 (.lst (rvs.drop at1))) l7 (.lst (rvs.take at1 ++ [ua] ++ rvs.drop at1)) = H11 at vv hl7 ⊢
          refine ⟨_, rfl, tcI ⟨rfl, _, rfl, ifF (wne (by decide)) ?_⟩⟩
          refine ⟨_, rfl, _, rfl, _, rfl, _, rfl, Nat.le_of_ble_eq_true rfl, fun P' hP' => ?_⟩
          have uP := same_upd (o := .tup [.int (m : Int), .str z, .ref l7, .ref sl]) hP'
          have s111 : SameBut p H1 H11 := s110.trans (Same.but p vv)
          have t11 := t10.same vv
          refine k _ P' (.int (m : Int)) (.str z) (ds.take at1 ++ [da] ++ ds.drop at1) sds ((Same.but p u).trans (s111.trans (Same.but p uP))) ((t11.same uP).mono (by omega)) (pen_fresh ((Same.but p u).trans s111) t11 hP') ?_ (.ties (bad_ins hm hz hgd hor) (fun y hy => ?_) ?_)
          · have hnew : DpAll K (del H11 W) (rvs.take at1 ++ [ua] ++ rvs.drop at1) (ds.take at1 ++ [da] ++ ds.drop at1) := DpAll.same (same_del W vv) (DpAll.app (DpAll.app (DpAll.take at1 hrs10) (.cons hda .nil)) (DpAll.drop at1 hrs10))
            exact parts_new hP' (Same.isSome vv hW10) (.int _) (.str z) (by rw [del_at nl7W]; exact hl7) hnew (same_del W vv _ _ hslD10) (DpAll.same (same_del W vv) hss10)
          · rcases List.mem_append.mp hy with hy | hy
            · rcases List.mem_append.mp hy with hy | hy
              · exact hsm y (List.mem_of_mem_take hy)
              · rw [List.mem_singleton.mp hy]; exact ⟨hsa, hta⟩
            · exact hsm y (List.mem_of_mem_drop hy)
          · rw [List.length_append, List.length_append, List.length_take, List.length_drop]
            show _ + 1 + _ = _
            omega
    · refine ⟨_, rfl, tcI ⟨rfl, _, rfl, ifF (wne (by decide)) ?_⟩⟩
      refine ⟨_, rfl, tcI ⟨rfl, _, rfl, ifF (wne (by decide)) ?_⟩⟩
      refine ⟨_, rfl, tcI ⟨rfl, _, rfl, ifF (wne (by decide)) ?_⟩⟩
      refine ⟨_, rfl, tcI ⟨rfl, _, rfl, ifT (weq rfl) ?_⟩⟩
      show tSeq _ _ _ [some (.ref p), _, some (.ref P), some (.int (m : Int)), some (.str z), some (.ref rl), some (.ref sl), some (.ref pl), none, none, none, none, none, none] H1
      refine seq_via (fun v H2 => SameBut p H1 H2 ∧ PenOk H2 p c (b + 1) ∧ ∃ d, (∀ H, Dp K H v d) ∧ smD d = true) (fun Q' hQ' => ?_) ?_
      · refine ⟨_, rfl, Nat.le_of_ble_eq_true rfl, fun q hq => ⟨pl, q, _, rfl, rfl, SqL.of ((same_upd hq) _ _ hpl1), SqL.of upd_same, _, rfl, ?_⟩⟩
        have uq := same_upd (o := .lst []) hq
        cases hE : (plcs m z.length).isEmpty with
        | true => exact ifF rfl (hQ' _ _ ⟨Same.but p uq, (t1.same uq).mono (by omega), .int 0, fun _ => .int 0, rfl⟩)
        | false =>
          have hne : 1 ≤ (plcs m z.length).length := by
            cases hh : plcs m z.length with
            | nil => rw [hh] at hE; cases hE
            | cons y ys => simp
          have hlen := plcs_len m z.length
          refine ifT rfl ⟨_, rfl, _, rfl, p, c, pl, b, _, rfl, t1.same uq, by omega, SqL.of (uq _ _ hpl1), hne, by omega, fun i x H2 hx s2 t2 => ?_⟩
          have hil : i < m + z.length := by have := (List.getElem?_eq_some_iff.mp hx).1; omega
          rw [plcs_at hil] at hx
          cases hx
          have hok := (plc_ok hm hz hil).1
          refine hQ' _ _ ⟨(Same.but p uq).trans s2, t2, _, fun _ => hok.dp, ?_⟩
          rcases hok with ⟨j, e⟩ | ⟨y, e, hy⟩
          · rw [e]; rfl
          · rw [e]
            rcases hy with rfl | rfl | rfl <;> decide +kernel
      · rintro v H2 ⟨s12, t2, d, hdv, hsd⟩
        dsimp only [gName]
        show tSeq _ _ _ [some (.ref p), _, some (.ref P), some (.int (m : Int)), some (.str z), some (.ref rl), some (.ref sl), some (.ref pl), none, none, none, none, none, some v] H2
        refine seq_lst (K := K) (H0 := H2) (ds := odB1 d) (ges_cons (ge_tup (ges_cons ge_str (ges_cons (ge_tup (ges_cons ge_int ges_nil)) ges_nil))) (ges_cons (ge_tup (ges_cons ge_str (ges_cons (ge_tup (ges_cons ge_int ges_nil)) ges_nil))) (ges_cons (ge_tup (ges_cons ge_str (ges_cons (ge_tup ges_nil) ges_nil))) (ges_cons (ge_tup (ges_cons ge_str (ges_cons (ge_tup (ges_cons (ge_var rfl hdv) (ges_cons (ge_var rfl hdv) ges_nil))) ges_nil))) (ges_cons (ge_tup (ges_cons ge_str (ges_cons (ge_tup (ges_cons ge_int ges_nil)) ges_nil))) (ges_cons (ge_tup (ges_cons ge_str (ges_cons ge_int ges_nil))) (ges_cons ge_str ges_nil))))))) (by show 7 ≤ 1000; decide) (Same.refl _) fun l1 vs1 H3 s3 hl1 hd1 hd1W => ?_
        have ul1 := same_upd (o := .lst vs1) hl1
        have hl1v : vs1.length = 7 := DpAll.length hd1
        have hl13 : (upd H3 l1 (.lst vs1)) l1 = some (.lst vs1) := upd_same
        have hW2 := but_isSome hWp s12 hW1
        have hd3 := DpAll.same (same_del W ul1) (hd1W W hW2)
        have hW4 := Same.isSome (s3.trans ul1) hW2
        generalize upd H3 l1 (.lst vs1) = H4 at ul1 hl13 hd3 hW4 ⊢
        dsimp only [gName]
        show tSeq _ _ _ [some (.ref p), _, some (.ref P), some (.int (m : Int)), some (.str z), some (.ref rl), some (.ref sl), some (.ref pl), some (.ref l1), none, none, none, none, some v] H4
        refine ⟨_, rfl, ?_⟩
        refine lst_new (K := K) (H0 := H4) (ds := odB2) (ges_cons (ge_tup (ges_cons ge_str (ges_cons (ge_tup (ges_cons ge_int ges_nil)) ges_nil))) (ges_cons (ge_tup (ges_cons ge_str (ges_cons (ge_tup (ges_cons ge_str ges_nil)) ges_nil))) (ges_cons (ge_tup (ges_cons ge_str (ges_cons (ge_tup (ges_cons ge_bl ges_nil)) ges_nil))) (ges_cons ge_non (ges_cons (ge_tup (ges_cons ge_str (ges_cons (ge_tup (ges_cons ge_int (ges_cons ge_int (ges_cons ge_int (ges_cons ge_int ges_nil))))) ges_nil))) (ges_cons (ge_tup (ges_cons ge_int (ges_cons (ge_tup (ges_cons ge_int ges_nil)) ges_nil))) ges_nil)))))) (by decide) (Same.refl _) fun l2 vs2 H5 s5 hl2 hd2 hd2W => ?_
        have hl2v : vs2.length = 6 := DpAll.length hd2
        have ul2 := same_upd (o := .lst vs2) hl2
        refine ⟨l1, l2, _, _, rfl, rfl, ul2 _ _ (s5 _ _ hl13), upd_same, (by rw [hl1v, hl2v, sizeLine_eq]; decide), fun l3 hl3 => ?_⟩
        have ul3 := same_upd (o := .lst (vs1 ++ vs2)) hl3
        have hl36 := upd_same (a := l3) (o := HO.lst (vs1 ++ vs2)) (H := upd H5 l2 (.lst vs2))
        generalize upd (upd H5 l2 (.lst vs2)) l3 (.lst (vs1 ++ vs2)) = H6 at ul3 hl36 ⊢
        have s56 : Same H5 H6 := ul2.trans ul3
        have s26 : Same H2 H6 := s3.trans (ul1.trans (s5.trans s56))
        have hd6 : DpAll K (del H6 W) (vs1 ++ vs2) (odB1 d ++ odB2) := DpAll.app (DpAll.same (same_del W (s5.trans s56)) hd3) (DpAll.same (same_del W s56) (hd2W W hW4))
        have t6 := t2.same s26
        obtain ⟨kd6, hkd6⟩ := t6.dict
        have hkD6 : del H6 W p = some (.dK kd6) := by rw [del_at hWp.symm]; exact hkd6
        dsimp only [gName]
        show tSeq _ _ _ [some (.ref p), _, some (.ref P), some (.int (m : Int)), some (.str z), some (.ref rl), some (.ref sl), some (.ref pl), some (.ref l3), none, none, none, none, some v] H6
        refine ⟨_, rfl, _, rfl, p, c, l3, b + 1, _, rfl, t6, by omega, SqL.of hl36, (by rw [List.length_append, hl1v, hl2v]; decide), (by rw [List.length_append, hl1v, hl2v]; decide), fun i x H7 hx s7 t7 => ?_⟩
        obtain ⟨e, hee, hDp6⟩ := DpAll.at hd6 hx
        have hbad : budDB m z.length e = false ∧ smB e = true := by
          rcases List.mem_append.mp (List.mem_of_getElem? hee) with h | h
          · exact odB1_ok d hsd m hm z.length hz e h
          · exact odB2_ok m hm z.length hz e h
        have hDp7 := Dp.but hkD6 (but_del W s7) hDp6
        have s17 : SameBut p H1 H7 := s12.trans ((Same.but p s26).trans s7)
        have hsl7 := s17 _ _ nsp hsl11
        have hss7 := DpAll.but hkD1 (but_del W s17) hss1
        have hW7 := but_isSome hWp s17 hW1
        have hsvl : svs.length = sds.length := DpAll.length hss
        refine ⟨_, rfl, _, rfl, Nat.le_of_ble_eq_true rfl, fun l4 hl4 => ?_⟩
        have ul4 := same_upd (o := .lst [x]) hl4
        refine ⟨sl, l4, _, _, rfl, rfl, ul4 _ _ hsl7, upd_same, (by rw [hsvl, sizeLine_eq]; show _ + 1 ≤ _; omega), fun l5 hl5 => ?_⟩
        have ul5 := same_upd (o := .lst (svs ++ [x])) hl5
        have hl58 := upd_same (a := l5) (o := HO.lst (svs ++ [x])) (H := upd H7 l4 (.lst [x]))
        generalize upd (upd H7 l4 (.lst [x])) l5 (.lst (svs ++ [x])) = H8 at ul5 hl58 ⊢
        have s78 : Same H7 H8 := ul4.trans ul5
        have nl5W := ne_of_isSome (Same.isSome ul4 hW7) hl5
        refine ⟨_, rfl, _, rfl, _, rfl, _, rfl, Nat.le_of_ble_eq_true rfl, fun P' hP' => ?_⟩
        have uP := same_upd (o := .tup [.int (m : Int), .str z, .ref rl, .ref l5]) hP'
        have s18 : SameBut p H1 H8 := s17.trans (Same.but p s78)
        have t8 := t7.same s78
        refine k _ P' (.int (m : Int)) (.str z) ds (sds ++ [e]) ((Same.but p u).trans (s18.trans (Same.but p uP))) ((t8.same uP).mono (by omega)) (pen_fresh ((Same.but p u).trans s18) t8 hP') ?_ (.buds hbad.1 hbad.2)
        exact parts_new hP' (Same.isSome s78 hW7) (.int _) (.str z) (but_del W s18 _ _ nrp hrlD) (DpAll.but hkD1 (but_del W s18) hrs1) (by rw [del_at nl5W]; exact hl58) (DpAll.same (same_del W s78) (DpAll.app hss7 (.cons hDp7 .nil)))
    · omega
end
end R4
set_option Elab.async false
set_option linter.all false
set_option maxRecDepth 100000
set_option maxHeartbeats 4000000
set_option pp.maxSteps 700
namespace R4
open PySem L2 PySem.GW LamX SM
section
variable {w : World} {K : PySem.W.Frag} {mg : Str → Option Value} {base : Heap}
variable {H H' : Hp}
/-! ### right and wrong arguments, from their data -/
def tieL (t : V × V × Int) : List PyData := [plD t.1, plD t.2.1, .int t.2.2]
def RowOk (m n : Nat) (r : Str × List V) : Prop := wordB r.1 = true ∧ 1 ≤ r.2.length ∧ r.2.length ≤ 3 ∧ r.2.Nodup ∧ ∀ v ∈ r.2, v ∈ plcs m n
theorem in_plcs {m n : Nat} {v : V} (h : v ∈ plcs m n) : ∃ i, i < m + n ∧ v = plc m i := by
  unfold plcs at h
  obtain ⟨i, hi, rfl⟩ := List.mem_map.mp h
  exact ⟨i, List.mem_range.mp hi, rfl⟩
theorem rank_inj {m n : Nat} {u v : V} (hm : m ≤ 3) (hn : n ≤ 6) (hu : u ∈ plcs m n) (hv : v ∈ plcs m n) (h : rankV u = rankV v) : u = v := by
  obtain ⟨i, hi, rfl⟩ := in_plcs hu
  obtain ⟨j, hj, rfl⟩ := in_plcs hv
  by_cases a : i < m
  · rw [rank_lip hm a] at h
    by_cases b : j < m
    · rw [rank_lip hm b] at h
      rw [show i = j by omega]
    · rw [rank_num (by omega)] at h
      omega
  · rw [rank_num (by omega)] at h
    by_cases b : j < m
    · rw [rank_lip hm b] at h
      omega
    · rw [rank_num (by omega)] at h
      rw [show i = j by omega]
theorem row_bud {m n : Nat} {r : Str × List V} (hm : m ≤ 3) (hn : n ≤ 6) (h : RowOk m n r) : budB m n r.2 = true ∧ (∀ v ∈ r.2, plOk v ∧ smD (plD v) = true ∧ unD (plD v) = v) := by
  obtain ⟨h1, h2, h3, h4, h5⟩ := h
  constructor
  · unfold budB
    have nd : (r.2.map fun v => (Sum.inl (rankV v) : Key)).Nodup := by
      unfold List.Nodup at h4 ⊢
      rw [List.pairwise_map]
      refine (List.Pairwise.and_mem.mp h4).imp fun {x y} hxy e => ?_
      exact hxy.2.2 (rank_inj hm hn (h5 x hxy.1) (h5 y hxy.2.1) (Sum.inl.inj e))
    rw [dedK_of_nodup nd, List.length_map, decide_eq_true h2, decide_eq_true h3, decide_eq_true rfl, List.all_eq_true.mpr fun v hv => ?_]
    · rfl
    · obtain ⟨i, hi, rfl⟩ := in_plcs (h5 v hv)
      exact (plc_in hm hn hi).1
  · intro v hv
    obtain ⟨i, hi, rfl⟩ := in_plcs (h5 v hv)
    have hok := (plc_ok hm hn hi).1
    refine ⟨hok, ?_, (plc_in hm hn hi).2⟩
    rcases hok with ⟨j, e⟩ | ⟨y, e, hy⟩
    · rw [e]; rfl
    · rw [e]
      rcases hy with rfl | rfl | rfl <;> decide +kernel
theorem tie_sm {m n : Nat} {t : V × V × Int} (hm : m ≤ 3) (hn : n ≤ 6) (h : TieIn m n t) {d : PyData} (e : seqD d = some (tieL t)) : smT d = true ∧ tieDB m n d = true := by
  obtain ⟨h1, _, _, h4⟩ := tieD_good hm hn h
  have e2 : seqD (tieD t) = some (tieL t) := rfl
  unfold smT at h4 ⊢
  unfold tieDB at h1 ⊢
  rw [e]
  rw [e2] at h1 h4
  exact ⟨h4, h1⟩
theorem dp_plok {x v : V} (h : Dp K H x (plD v)) (hv : plOk v) : x = v := by
  rcases hv with ⟨i, rfl⟩ | ⟨z, rfl, _⟩
  · cases h; rfl
  · cases h; rfl
theorem dp_tieAt {x : V} {d : PyData} {t : V × V × Int} (h : Dp K H x d) (e : seqD d = some (tieL t)) (h1 : plOk t.1) (h2 : plOk t.2.1) : TieAt K H x t := by
  rcases dp_seq h with ⟨e2, _⟩ | ⟨a, xs, ds, rfl, hS, e2, hs⟩
  · rw [e2] at e; cases e
  · rw [e2] at e
    cases e
    obtain ⟨x1, ys, rfl, g1, hs⟩ := dpc hs
    obtain ⟨x2, ys, rfl, g2, hs⟩ := dpc hs
    obtain ⟨x3, ys, rfl, g3, hs⟩ := dpc hs
    cases hs
    cases g3
    rw [dp_plok g1 h1, dp_plok g2 h2] at hS
    exact ⟨a, rfl, hS⟩
theorem dp_pairs {α : Type} {F : PyData → α → Prop} {G : V → α → Prop} : ∀ {xs : List V} {ds : List PyData} {l : List α}, DpAll K H xs ds → Paired F ds l → (∀ x d t, t ∈ l → Dp K H x d → F d t → G x t) → Paired G xs l
  | _, _, _, .nil, .nil, _ => .nil
  | _, _, _, .cons h hs, .cons p ps, k => .cons (k _ _ _ List.mem_cons_self h p) (dp_pairs hs ps fun x d t ht => k x d t (List.mem_cons_of_mem _ ht))
theorem pair_all {α β : Type} {F : α → β → Prop} {f : α → Bool} : ∀ {as : List α} {bs : List β}, Paired F as bs → (∀ a b, b ∈ bs → F a b → f a = true) → ∀ a ∈ as, f a = true
  | _, _, .nil, _, _, h => by cases h
  | _, _, .cons p ps, k, a, h => by
    rcases List.mem_cons.mp h with rfl | h
    · exact k _ _ List.mem_cons_self p
    · exact pair_all ps (fun a b hb => k a b (List.mem_cons_of_mem _ hb)) a h
theorem tiesOk_of {m n : Nat} {a : Addr} {xs : List V} {ds : List PyData} {ts : List (V × V × Int)} (hm : m ≤ 3) (hn : n ≤ 6) (hS : Sq K H a xs) (hd : DpAll K H xs ds) (hp : Paired (fun d t => seqD d = some (tieL t)) ds ts) (hin : ∀ t ∈ ts, TieIn m n t) (nd : (ts.map kt).Nodup) (hl : ts.length ≤ 1000) : TiesOk K H m n (.ref a) ts := by
  have hlen : xs.length = ts.length := by rw [DpAll.length hd, Paired.length hp]
  refine ⟨a, xs, ds.map (tieDB m n), rfl, hS, by omega, ?_, ?_, ?_, fun t ht => ?_, nd⟩
  · refine dpAll_paired hd fun x d hdm hx => dp_tie hx ?_
    exact pair_all (f := smT) hp (fun d t ht e => (tie_sm hm hn (hin t ht) e).1) d hdm
  · rw [all_map, List.all_eq_true]
    exact pair_all (f := tieDB m n) hp fun d t ht e => (tie_sm hm hn (hin t ht) e).2
  · refine dp_pairs hd hp fun x d t ht hx e => ?_
    obtain ⟨k1, k2, _⟩ := tie_ok hm hn (hin t ht)
    exact dp_tieAt hx e k1 k2
  · obtain ⟨_, h2, h3, _⟩ := tieD_good hm hn (hin t ht)
    exact ⟨h2, h3⟩
theorem tiesBad_of {m n : Nat} {a : Addr} {xs : List V} {ds : List PyData} (hm : m ≤ 3) (hn : n ≤ 6) (hS : Sq K H a xs) (hd : DpAll K H xs ds) (hsm : ∀ d ∈ ds, smT d = true) (hl : ds.length ≤ 1000) (hb : badR m n ds) : TiesBad K H m n (.ref a) := by
  refine .inr ⟨a, xs, ds.map (tieDB m n), rfl, hS, by rw [DpAll.length hd]; exact hl, dpAll_paired hd fun x d hdm hx => dp_tie hx (hsm d hdm), ?_⟩
  rw [all_map]
  rcases hb with ⟨d, h1, h2⟩ | ⟨us, rfl, h2, h3⟩
  · refine .inl ?_
    cases hc : ds.all (tieDB m n) with
    | false => rfl
    | true => exact absurd (List.all_eq_true.mp hc d h1) (by rw [h2]; exact Bool.false_ne_true)
  · refine .inr ⟨?_, us, ?_, fun t ht => ?_, h3⟩
    · rw [List.all_eq_true]
      intro d hd2
      obtain ⟨t, ht, rfl⟩ := List.mem_map.mp hd2
      exact (tieD_good hm hn (h2 t ht)).1
    · have hp : Paired (fun d t => seqD d = some (tieL t)) (us.map tieD) us := by
        clear hd hsm hl h2 h3
        induction us with
        | nil => exact .nil
        | cons u us ih => exact .cons rfl ih
      refine dp_pairs hd hp fun x d t ht hx e => ?_
      obtain ⟨k1, k2, _⟩ := tie_ok hm hn (h2 t ht)
      exact dp_tieAt hx e k1 k2
    · obtain ⟨_, h2, h3, _⟩ := tieD_good hm hn (h2 t ht)
      exact ⟨h2, h3⟩
/-- a bud as data: a list or a tuple of its kind and its row -/
def BudF (d : PyData) (r : Str × List V) : Prop := ∃ e, seqD d = some [.str r.1, e] ∧ seqD e = some (r.2.map plD)
theorem bud_sm {m n : Nat} {r : Str × List V} (hm : m ≤ 3) (hn : n ≤ 6) (h : RowOk m n r) {d : PyData} (e : BudF d r) : smB d = true ∧ budDB m n d = true := by
  obtain ⟨e, e1, e2⟩ := e
  obtain ⟨b1, b2⟩ := row_bud hm hn h
  have hw : r.1.length ≤ 8 := by
    have := h.1
    unfold wordB at this
    simp only [Bool.and_eq_true, decide_eq_true_eq] at this
    exact this.2.1
  have e3 : (r.2.map plD).map unD = r.2 := by
    rw [List.map_map]
    conv => rhs; rw [← List.map_id r.2]
    exact List.map_congr_left fun v hv => (b2 v hv).2.2
  have e4 : (r.2.map plD).all smD = true := by
    rw [List.all_eq_true]
    intro d hd
    obtain ⟨v, hv, rfl⟩ := List.mem_map.mp hd
    exact (b2 v hv).2.1
  have e5 : smT e = true := by
    unfold smT
    rw [e2]
    show (decide ((r.2.map plD).length ≤ 1000) && (r.2.map plD).all smD) = true
    rw [e4, decide_eq_true (by rw [List.length_map]; have := h.2.2.1; omega)]
    rfl
  constructor
  · unfold smB smT
    rw [e1]
    show ((decide (2 ≤ 1000) && (decide (r.1.length ≤ 1000) && (smD e && true))) && (smT (.str r.1) && (smT e && true))) = true
    rw [e5, decide_eq_true (show r.1.length ≤ 1000 by omega)]
    cases e with
    | str y => cases e2
    | _ => rfl
  · unfold budDB
    rw [e1]
    show (wordB r.1 && rowDB m n e) = true
    unfold rowDB
    rw [e2, h.1]
    show (true && budB m n ((r.2.map plD).map unD)) = true
    rw [e3, b1]
    rfl
theorem dp_budAt {x : V} {d : PyData} {r : Str × List V} (h : Dp K H x d) (e : BudF d r) (hr : ∀ v ∈ r.2, plOk v) : BudAt K H x r := by
  obtain ⟨e, e1, e2⟩ := e
  rcases dp_seq h with ⟨e3, _⟩ | ⟨a, xs, ds, rfl, hS, e3, hs⟩
  · rw [e3] at e1; cases e1
  · rw [e3] at e1
    cases e1
    obtain ⟨x1, ys, rfl, g1, hs⟩ := dpc hs
    obtain ⟨x2, ys, rfl, g2, hs⟩ := dpc hs
    cases hs
    cases g1
    rcases dp_seq g2 with ⟨e4, _⟩ | ⟨q, zs, es, rfl, hR, e4, hz⟩
    · rw [e4] at e2; cases e2
    · rw [e4] at e2
      cases e2
      have hzr : zs = r.2 := by
        have : ∀ {l : List V} {zs : List V}, DpAll K H zs (l.map plD) → (∀ v ∈ l, plOk v) → zs = l := by
          intro l
          induction l with
          | nil => intro zs h _; cases h; rfl
          | cons v l ih =>
            intro zs h hv
            obtain ⟨y, ys, rfl, g, h⟩ := dpc h
            rw [dp_plok g (hv v List.mem_cons_self), ih h fun u hu => hv u (List.mem_cons_of_mem _ hu)]
        exact this hz hr
      rw [hzr] at hR
      exact ⟨a, q, rfl, hS, hR⟩
theorem budsOk_of {m n : Nat} {a : Addr} {xs : List V} {ds : List PyData} {rs : List (Str × List V)} (hm : m ≤ 3) (hn : n ≤ 6) (hS : Sq K H a xs) (hd : DpAll K H xs ds) (hp : Paired BudF ds rs) (hin : ∀ r ∈ rs, RowOk m n r) (hl : rs.length ≤ 4) : BudsOk K H m n (.ref a) rs := by
  have hlen : xs.length = rs.length := by rw [DpAll.length hd, Paired.length hp]
  refine ⟨a, xs, ds.map (budDB m n), rfl, hS, by omega, ?_, ?_, ?_⟩
  · refine dpAll_paired hd fun x d hdm hx => dp_bud hx ?_
    exact pair_all (f := smB) hp (fun d r hr e => (bud_sm hm hn (hin r hr) e).1) d hdm
  · rw [all_map, List.all_eq_true]
    exact pair_all (f := budDB m n) hp fun d r hr e => (bud_sm hm hn (hin r hr) e).2
  · exact dp_pairs hd hp fun x d r hr hx e => dp_budAt hx e fun v hv => ((row_bud hm hn (hin r hr)).2 v hv).1
theorem budsBad_of {m n : Nat} {a : Addr} {xs : List V} {ds : List PyData} (hS : Sq K H a xs) (hd : DpAll K H xs ds) (hsm : ∀ d ∈ ds, smB d = true) (hl : ds.length ≤ 1000) (hb : ∃ d ∈ ds, budDB m n d = false) : BudsBad K H m n (.ref a) := by
  refine .inr ⟨a, xs, ds.map (budDB m n), rfl, hS, by rw [DpAll.length hd]; exact hl, dpAll_paired hd fun x d hdm hx => dp_bud hx (hsm d hdm), .inr ?_⟩
  rw [all_map]
  obtain ⟨d, h1, h2⟩ := hb
  cases hc : ds.all (budDB m n) with
  | false => rfl
  | true => exact absurd (List.all_eq_true.mp hc d h1) (by rw [h2]; exact Bool.false_ne_true)
/-- the arguments, the first wrong one being the f-th -/
inductive Fin (m : Nat) (z : Str) : Nat → PyData → PyData → List PyData → List PyData → Prop
  | mouth {d0 d1 : PyData} {ds sds : List PyData} (h : mouthD d0 = false) : Fin m z 0 d0 d1 ds sds
  | signs {d1 : PyData} {ds sds : List PyData} (h : signsD d1 = false) (h2 : smD d1 = true) : Fin m z 1 (.int (m : Int)) d1 ds sds
  | ties {ds sds : List PyData} (h : badR m z.length ds) (h2 : ∀ d ∈ ds, smT d = true) (h3 : ds.length ≤ 1000) : Fin m z 2 (.int (m : Int)) (.str z) ds sds
  | buds {ds sds : List PyData} (g : Good m z.length ds) (h : ∃ d ∈ sds, budDB m z.length d = false) (h2 : ∀ d ∈ sds, smB d = true) (h3 : sds.length ≤ 1000) : Fin m z 3 (.int (m : Int)) (.str z) ds sds
theorem fin1 {m w : Nat} {z : Str} {ds sds ds' sds' : List PyData} {d0 d1 : PyData} (h : Bent m z ds sds w d0 d1 ds' sds') (g : Good m z.length ds) (hl : ds.length ≤ 200) (hb : ∀ d ∈ sds, smB d = true) (hs : sds.length ≤ 10) : Fin m z w d0 d1 ds' sds' := by
  cases h with
  | mouth h => exact .mouth h
  | signs h h2 => exact .signs h h2
  | ties h h2 h3 => exact .ties h (fun d hd => (h2 d hd).1) (by omega)
  | @buds d h h2 =>
    refine .buds g ⟨d, List.mem_append_right _ List.mem_cons_self, h⟩ (fun e he => ?_) (by rw [List.length_append]; show _ + 1 ≤ _; omega)
    rcases List.mem_append.mp he with he | he
    · exact hb e he
    · rw [List.mem_singleton.mp he]; exact h2
theorem fin2 {m w w2 : Nat} {z : Str} {ds sds ds' sds' ds2 sds2 : List PyData} {d0 d1 : PyData} (h1 : 2 ≤ w) (h : Bent m z ds sds w (.int (m : Int)) (.str z) ds' sds') (g : Good m z.length ds) (hl : ds.length ≤ 200) (hb : ∀ d ∈ sds, smB d = true) (hs : sds.length ≤ 10) (hd : ∀ d ∈ ds, smT d = true)
    (h2 : Bent m z ds' sds' w2 d0 d1 ds2 sds2) : Fin m z (min w w2) d0 d1 ds2 sds2 := by
  cases h with
  | mouth h => omega
  | signs h _ => omega
  | ties a1 a2 a3 =>
    cases h2 with
    | mouth h => exact .mouth h
    | signs h h2 => exact .signs h h2
    | ties h h2 h3 => exact .ties h (fun d hd => (h2 d hd).1) (by omega)
    | buds h h2 => exact .ties a1 (fun d hd => (a2 d hd).1) (by omega)
  | @buds e a1 a2 =>
    have hb' : ∀ d ∈ sds ++ [e], smB d = true := fun d hd => by
      rcases List.mem_append.mp hd with he | he
      · exact hb d he
      · rw [List.mem_singleton.mp he]; exact a2
    cases h2 with
    | mouth h => exact .mouth h
    | signs h h2 => exact .signs h h2
    | ties h h2 h3 => exact .ties h (fun d hd => (h2 d hd).1) (by omega)
    | @buds d h h2 =>
      refine .buds g ⟨d, List.mem_append_right _ List.mem_cons_self, h⟩ (fun y hy => ?_) (by rw [List.length_append, List.length_append]; show _ + 1 + 1 ≤ _; omega)
      rcases List.mem_append.mp hy with he | he
      · exact hb' y he
      · rw [List.mem_singleton.mp he]; exact h2
def fieldOf : Nat → Str
  | 0 => "mouth"
  | 1 => "letters"
  | 2 => "ties"
  | _ => "buds"
theorem pair_map {α β : Type} {F : β → α → Prop} {f : α → β} (h : ∀ a, F (f a) a) : ∀ l : List α, Paired F (l.map f) l
  | [] => .nil
  | a :: l => .cons (h a) (pair_map h l)
/-- a piece with a wrong argument is refused -/
theorem refuse {x dx : Addr} {m f : Nat} {z : Str} {d0 d1 : PyData} {ds sds : List PyData} {v0 v1 : V} {rl sl : Addr} {rvs svs : List V} {Q : VK} {E : XK} (hm : m ≤ 3) (hz : z.length ≤ 6) (hzb : signsB z = true) (hx : H x = none) (hdx : H dx = none) (hne : dx ≠ x)
    (h0 : Dp K H v0 d0) (h1 : Dp K H v1 d1) (h2 : H rl = some (.lst rvs)) (h3 : DpAll K H rvs ds) (h4 : H sl = some (.lst svs)) (h5 : DpAll K H svs sds) (hF : Fin m z f d0 d1 ds sds)
    (k : ∀ d H', H' d = some (.xd [("field", .str (fieldOf f))]) → Same H H' → E (.ref (He.ga K "BadPiece")) (some d) H') :
    spInit K [.ref x, v0, v1, .ref rl, .ref sl] (upd (upd H dx (.own x)) x (.ins (CL_Piece K) dx [])) Q E := by
  have s : Same H (upd (upd H dx (.own x)) x (.ins (CL_Piece K) dx [])) := (same_upd hdx).trans (same_upd (by rw [upd_ne hne.symm]; exact hx))
  refine ⟨x, dx, v0, v1, .ref rl, .ref sl, rfl, upd_same, ?_⟩
  have kk : ∀ H', SameBut x (upd (upd H dx (.own x)) x (.ins (CL_Piece K) dx [])) H' → Same H H' := fun H' sb b o e => sb b o (fun e2 => by rw [e2, hx] at e; cases e) (s b o e)
  have h0' := Dp.same s h0
  have h1' := Dp.same s h1
  have h3' := DpAll.same s h3
  have h5' := DpAll.same s h5
  cases hF with
  | mouth h => exact .inl ⟨dp_mouth h0' h, fun d H' kn hd => k d H' hd (kk H' kn)⟩
  | signs h hs =>
    cases h0
    exact .inr ⟨m, rfl, hm, .inl ⟨dp_signs h1' hs h, fun d H' kn hd => k d H' hd (kk H' kn)⟩⟩
  | ties h hs hl =>
    cases h0
    cases h1
    exact .inr ⟨m, rfl, hm, .inr ⟨z, rfl, hz, hzb, .inl ⟨tiesBad_of hm hz (.inl (SqL.of (s _ _ h2))) h3' hs hl h, fun d H' kn hd => k d H' hd (kk H' kn)⟩⟩⟩
  | buds g h hs hl =>
    cases h0
    cases h1
    obtain ⟨ts, rfl, g1, g2, g3⟩ := g
    exact .inr ⟨m, rfl, hm, .inr ⟨z, rfl, hz, hzb, .inr ⟨ts, tiesOk_of hm hz (.inl (SqL.of (s _ _ h2))) h3' (pair_map (F := fun d t => seqD d = some (tieL t)) (f := tieD) (fun t => rfl) ts) g1 g2 (by omega), .inl ⟨budsBad_of (.inl (SqL.of (s _ _ h4))) h5' hs hl h, fun d H' kn hd => k d H' hd (kk H' kn)⟩⟩⟩⟩
end
end R4
set_option Elab.async false
set_option linter.all false
set_option maxRecDepth 100000
set_option maxHeartbeats 4000000
set_option pp.maxSteps 700
namespace R4
open PySem L2 PySem.GW LamX SM
section
variable {w : World} {K : PySem.W.Frag} {mg : Str → Option Value} {base : Heap}
variable {H H' : Hp}
abbrev rListOf (K : PySem.W.Frag) : List V → Hp → VK → Prop := fun xs H Q => ∃ p ys, xs = [V.ref p] ∧ (SqL K H p ys ∨ SqT K H p ys) ∧ ∀ l, H l = none → Q (.ref l) (upd H l (.lst ys))
theorem mk_piece {x dx : Addr} {m : Nat} {z : Str} {vt vb : V} {ts : List (V × V × Int)} {rs : List (Str × List V)} {R : Hp → Prop} {E : XK} (hx : H x = none) (hdx : H dx = none) (hne : dx ≠ x) (hm : m ≤ 3) (hz : z.length ≤ 6) (hzb : signsB z = true) (ht : TiesOk K H m z.length vt ts) (hb : BudsOk K H m z.length vb rs)
    (k : ∀ H' ys, Same H H' → ys.Perm (ts.map nrm) → ys.Pairwise lexLt → PieceAt K H' x m z ys rs → R H') : spInit K [.ref x, .int (m : Int), .str z, vt, vb] (upd (upd H dx (.own x)) x (.ins (CL_Piece K) dx [])) (fun v H3 => v = .non ∧ R H3) E := by
  have s : Same H (upd (upd H dx (.own x)) x (.ins (CL_Piece K) dx [])) := (same_upd hdx).trans (same_upd (by rw [upd_ne hne.symm]; exact hx))
  refine ⟨x, dx, .int (m : Int), .str z, vt, vb, rfl, upd_same, .inr ⟨m, rfl, hm, .inr ⟨z, rfl, hz, hzb, .inr ⟨ts, ht.kn (Same.kn s), .inr ⟨rs, hb.kn (Same.kn s), fun H' ys sb hp hs hP => ⟨rfl, k H' ys (fun b o e => sb b o (fun e2 => by rw [e2, hx] at e; cases e) (s b o e)) hp hs hP⟩⟩⟩⟩⟩⟩
theorem PieceAt.ins {p : Addr} {m : Nat} {z : Str} {ys : List (V × V × Int)} {rs : List (Str × List V)} (h : PieceAt K H p m z ys rs) : ∃ dx fs, H p = some (.ins (CL_Piece K) dx fs) := by
  obtain ⟨dx, t, b, tas, bas, h1, _⟩ := h
  exact ⟨dx, _, h1⟩
theorem nf_piece : PySem.W.notFirst K (CL_Piece K) (.ref (CL_Piece K)) = true := by unfold PySem.W.notFirst; simp
theorem nf_ty {n : String} (h : PySem.W.subIn K (.type n) (.ref (CL_Piece K)) = some false) : PySem.W.notFirst K (CL_Piece K) (.type n) = true := by unfold PySem.W.notFirst; rw [h]; simp
/-- a bud that is told: a tuple of a kind and a list that is not a -/
def SpAt (a c : Addr) (H : Hp) (s : Addr) (r : Str × List V) : Prop := ∃ q, H s = some (.tup [.str r.1, .ref q]) ∧ H q = some (.lst r.2) ∧ q ≠ a ∧ q ≠ c
def SprAt (c : Addr) (H : Hp) (a : Addr) (rs : List (Str × List V)) : Prop := ∃ ss : List Addr, H a = some (.lst (ss.map V.ref)) ∧ Paired (SpAt a c H) ss rs
theorem SpAt.same {a c s : Addr} {r : Str × List V} (e : Same H H') (h : SpAt a c H s r) : SpAt a c H' s r := by
  obtain ⟨q, h1, h2, h3⟩ := h
  exact ⟨q, e _ _ h1, e _ _ h2, h3⟩
theorem SprAt.same {a c : Addr} {rs : List (Str × List V)} (e : Same H H') (h : SprAt c H a rs) : SprAt c H' a rs := by
  obtain ⟨ss, h1, h2⟩ := h
  exact ⟨ss, e _ _ h1, Paired.mapP h2 fun _ _ h => h.same e⟩
theorem SpAt.but {a c p s : Addr} {r : Str × List V} {k : List (Key × V)} (hp : H p = some (.dK k)) (e : SameBut p H H') (h : SpAt a c H s r) : SpAt a c H' s r := by
  obtain ⟨q, h1, h2, h3⟩ := h
  exact ⟨q, e _ _ (fun z => by rw [z, hp] at h1; cases h1) h1, e _ _ (fun z => by rw [z, hp] at h2; cases h2) h2, h3⟩
theorem SpAt.upd {a c s : Addr} {r : Str × List V} {o : HO} {xs : List V} (ha : H a = some (.lst xs)) (h : SpAt a c H s r) : SpAt a c (L2.upd H a o) s r := by
  obtain ⟨q, h1, h2, h3⟩ := h
  exact ⟨q, by rw [upd_ne (fun e => by rw [e, ha] at h1; cases h1)]; exact h1, by rw [upd_ne h3.1]; exact h2, h3⟩
theorem SprAt.but {p a c : Addr} {rs : List (Str × List V)} {k : List (Key × V)} (hp : H p = some (.dK k)) (e : SameBut p H H') (h : SprAt c H a rs) : SprAt c H' a rs := by
  obtain ⟨ss, h1, h2⟩ := h
  exact ⟨ss, e _ _ (fun z => by rw [z, hp] at h1; cases h1) h1, Paired.mapP h2 fun _ _ h => h.but hp e⟩
theorem PieceAt.but {p x : Addr} {m : Nat} {z : Str} {ys : List (V × V × Int)} {rs : List (Str × List V)} {k : List (Key × V)} (hp : H p = some (.dK k)) (e : SameBut p H H') (h : PieceAt K H x m z ys rs) : PieceAt K H' x m z ys rs := by
  obtain ⟨dx, t, b, tas, bas, h1, h2, h3, h4, h5⟩ := h
  have g : ∀ {a : Addr} {o : HO}, H a = some o → (∀ k, o ≠ .dK k) → H' a = some o := fun {a o} h n => e _ _ (fun z => by rw [z, hp] at h; cases h; exact n _ rfl) h
  refine ⟨dx, t, b, tas, bas, g h1 (fun _ z => nomatch z), g h2 (fun _ z => nomatch z), Paired.mapP h3 fun r t h => g h (fun _ z => nomatch z), g h4 (fun _ z => nomatch z), Paired.mapP h5 fun r t h => ?_⟩
  obtain ⟨q, h1, h2⟩ := h
  exact ⟨q, g h1 (fun _ z => nomatch z), e.sqT hp h2⟩
theorem TsAt.updL {a D : Addr} {ts : List (V × V × Int)} {xs : List V} {o : HO} (h : TsAt H a ts) (hne : a ≠ D) (hD : H D = some (.lst xs)) : TsAt (upd H D o) a ts := by
  obtain ⟨rs, h1, h2⟩ := h
  refine ⟨rs, by rw [upd_ne hne]; exact h1, Paired.mapP h2 fun r t (h : TieL H r t) => ?_⟩
  unfold TieL at h ⊢
  rw [upd_ne (fun e => by rw [e, hD] at h; cases h)]
  exact h
theorem plcs_nodup {m n : Nat} (hm : m ≤ 3) (hn : n ≤ 6) : (plcs m n).Nodup := by
  have h : ∀ m : Nat, m ≤ 3 → ∀ n : Nat, n ≤ 6 → (plcs m n).Nodup := by decide +kernel
  exact h m hm n hn
def budLD (r : Str × List V) : PyData := .tuple [.str r.1, .list (r.2.map plD)]
theorem budLD_dp {a c s : Addr} {r : Str × List V} (h : SpAt a c H s r) (h2 : ∀ x ∈ r.2, plOk x) : Dp K H (.ref s) (budLD r) := by
  obtain ⟨q, g1, g2, _⟩ := h
  refine .tup (SqT.of g1) (.cons (.str _) (.cons (.lst (SqL.of g2) ?_) .nil))
  have := dpAll_map (K := K) (H := H) (f := id) (g := plD) r.2 fun x hx => (h2 x hx).dp
  rwa [List.map_id] at this
theorem word_lay {w : Str} (h : wordB w = true) : PyData.canLay0 (.str w) = true := by
  unfold wordB at h
  simp only [Bool.and_eq_true] at h
  show (w.cps.all fun x => decide (x < 0x110000)) = true
  rw [← Array.all_toList, List.all_eq_true]
  intro x hx
  have h3 : ∀ y ∈ lets, decide (y < 0x110000) = true := by decide +kernel
  exact h3 x (of_decide_eq_true (List.all_eq_true.mp h.2.2 x hx))
theorem lay_of {m n : Nat} {ts ys : List (V × V × Int)} {rs : List (Str × List V)} (hm : m ≤ 3) (hn : n ≤ 6) (h1 : ∀ t ∈ ts, TieIn m n t) (hp : ys.Perm (ts.map nrm)) (hr : ∀ r ∈ rs, RowOk m n r) : Lay ys rs := by
  refine ⟨fun t ht => ?_, fun r hr2 => ⟨word_lay (hr r hr2).1, fun v hv => ((row_bud hm hn (hr r hr2)).2 v hv).1⟩⟩
  obtain ⟨u, hu, rfl⟩ := List.mem_map.mp (hp.mem_iff.mp ht)
  exact (ntie hm hn (h1 u hu)).ok
def DueAt (K : PySem.W.Frag) (H : Hp) (d : Addr) (rs : List (Str × List V)) : Prop := ∃ das : List Addr, H d = some (.lst (das.map V.ref)) ∧ Paired (BudT K H) das rs
theorem DueAt.same {d : Addr} {rs : List (Str × List V)} (e : Same H H') (h : DueAt K H d rs) : DueAt K H' d rs := by
  obtain ⟨das, h1, h2⟩ := h
  exact ⟨das, e _ _ h1, Paired.mapP h2 fun _ _ h => h.same e⟩
/-- the four attributes of the piece x, in a tuple -/
def ShAt (K : PySem.W.Frag) (H : Hp) (sh x : Addr) (m : Nat) (z : Str) : Prop := ∃ dx t b, H x = some (.ins (CL_Piece K) dx [("mouth", .int (m : Int)), ("letters", .str z), ("ties", .ref t), ("buds", .ref b)]) ∧ H sh = some (.tup [.int (m : Int), .str z, .ref t, .ref b])
theorem ShAt.same {sh x : Addr} {m : Nat} {z : Str} (e : Same H H') (h : ShAt K H sh x m z) : ShAt K H' sh x m z := by
  obtain ⟨dx, t, b, h1, h2⟩ := h
  exact ⟨dx, t, b, e _ _ h1, e _ _ h2⟩
def shD (m : Nat) (z : Str) (ys : List (V × V × Int)) (rs : List (Str × List V)) : PyData := .tuple [.int (m : Int), .str z, tiesD ys, budsD rs]
theorem sh_dp {sh x : Addr} {m : Nat} {z : Str} {ys : List (V × V × Int)} {rs : List (Str × List V)} (hP : PieceAt K H x m z ys rs) (hS : ShAt K H sh x m z) (hl : Lay ys rs) : Dp K H (.ref sh) (shD m z ys rs) := by
  obtain ⟨dx, t, b, tas, bas, h1, h2, h3, h4, h5⟩ := hP
  obtain ⟨dx', t', b', g1, g2⟩ := hS
  rw [h1] at g1
  cases g1
  exact .tup (SqT.of g2) (.cons (.int _) (.cons (.str _) (.cons (hl.ties h2 h3) (.cons (hl.buds h4 h5) .nil))))
theorem sh_lay {m : Nat} {z : Str} {ys : List (V × V × Int)} {rs : List (Str × List V)} (hz : ∀ x ∈ z.cps.toList, x ∈ [46, 97, 98, 122]) (hl : Lay ys rs) : SeqAt.shaped (shD m z ys rs) = true := by
  have hzc : PyData.canLay0 (.str z) = true := by
    show (z.cps.all fun x => decide (x < 0x110000)) = true
    rw [← Array.all_toList, List.all_eq_true]
    intro x hx
    have h3 : ∀ y ∈ [46, 97, 98, 122], decide (y < 0x110000) = true := by decide +kernel
    exact h3 x (hz x hx)
  obtain ⟨a1, a2⟩ := hl.tiesL
  obtain ⟨b1, b2⟩ := hl.budsL
  refine shaped_of ?_ ?_
  · show (true && (PyData.canLay0 (.str z) && (PyData.canLay0 (tiesD ys) && (PyData.canLay0 (budsD rs) && true)))) = true
    rw [hzc, a1, b1]
    rfl
  · show max 0 (max 0 (max (PyData.depth (tiesD ys)) (max (PyData.depth (budsD rs)) 0))) + 1 ≤ 11
    omega
/-- the first sign away, a q behind -/
def twist (z : Str) : Str := cutS z (some 1) none ++ "q"
theorem twist_ok {z : Str} (h0 : 0 < z.length) (h6 : z.length ≤ 6) (hz : ∀ x ∈ z.cps.toList, x ∈ [46, 97, 98, 122]) : (twist z).length = z.length ∧ signsB (twist z) = true ∧ z ≠ twist z := by
  have e : (twist z).cps.toList = z.cps.toList.drop 1 ++ [113] := by
    have e1 : (cutS z (some 1) none).cps.toList = z.cps.toList.drop 1 := by
      unfold cutS
      have : HT.sIx z.length 0 (some 1) = 1 := by
        rw [show (some (1 : Int)) = some ((1 : Nat) : Int) from rfl, HT.sIx_nat]
        omega
      rw [this, HT.sIx_none]
      show (z.cps.toList.drop 1).take (z.length - 1) = _
      rw [List.take_of_length_le]
      rw [List.length_drop, Array.length_toList]
      exact Nat.le_refl _
    show ((cutS z (some 1) none).cps ++ ("q" : Str).cps).toList = _
    rw [Array.toList_append, e1]
    rfl
  have hl : (twist z).length = z.length := by
    have := congrArg List.length e
    rw [List.length_append, List.length_drop, Array.length_toList, Array.length_toList] at this
    show (twist z).cps.size = z.cps.size
    have h0' : 0 < z.cps.size := h0
    rw [this]
    show z.cps.size - 1 + 1 = _
    omega
  refine ⟨hl, ?_, fun he => ?_⟩
  · unfold signsB
    rw [hl, decide_eq_true h6, e, List.all_eq_true.mpr fun x hx => ?_]
    · rfl
    · have h3 : ∀ y ∈ [46, 97, 98, 122, 113], (decide (y ∈ lets) || decide (y = 46)) = true := by decide +kernel
      refine h3 x ?_
      rcases List.mem_append.mp hx with hx | hx
      · have := hz x (List.mem_of_mem_drop hx)
        simp only [List.mem_cons, List.not_mem_nil, or_false] at this ⊢
        omega
      · rw [List.mem_singleton.mp hx]; decide
  · have h113 : 113 ∈ z.cps.toList := by
      rw [he, e]
      exact List.mem_append_right _ List.mem_cons_self
    have := hz 113 h113
    revert this
    decide
def tieLD (t : V × V × Int) : PyData := .list (tieL t)
theorem paired_rev {α β : Type} {F : α → β → Prop} : ∀ {as : List α} {bs : List β}, Paired F as bs → Paired F as.reverse bs.reverse
  | _, _, .nil => .nil
  | _, _, .cons h t => by
    rw [List.reverse_cons, List.reverse_cons]
    exact Paired.append (paired_rev t) h
/-- what the laps over the faults have made of the arguments -/
def StW (m : Nat) (z : Str) (D0 S0 : List PyData) : List Nat → PyData → PyData → List PyData → List PyData → Prop
  | [], d0, d1, ds, sds => d0 = .int (m : Int) ∧ d1 = .str z ∧ ds = D0 ∧ sds = S0
  | [w], d0, d1, ds, sds => Bent m z D0 S0 w d0 d1 ds sds
  | [w, w2], d0, d1, ds, sds => (w ≤ 1 ∧ Bent m z D0 S0 w d0 d1 ds sds) ∨ (2 ≤ w ∧ ∃ ds1 sds1, Bent m z D0 S0 w (.int (m : Int)) (.str z) ds1 sds1 ∧ Bent m z ds1 sds1 w2 d0 d1 ds sds)
  | _, _, _, _, _ => False
theorem bent_ok {m w : Nat} {z : Str} {D0 S0 ds sds : List PyData} {d0 d1 : PyData} (h : 2 ≤ w) (hB : Bent m z D0 S0 w d0 d1 ds sds) (g : Good m z.length D0) (hl : D0.length ≤ 199) (hs : S0.length ≤ 9) (hsm : ∀ d ∈ D0, smT d = true ∧ tup2B d = true) :
    .int (m : Int) = d0 ∧ .str z = d1 ∧ (Good m z.length ds ∨ badR m z.length ds) ∧ ds.length ≤ 200 ∧ sds.length ≤ 10 ∧ (∀ d ∈ ds, smT d = true ∧ tup2B d = true) := by
  cases hB with
  | mouth h => omega
  | signs h h2 => omega
  | ties h h2 h3 => exact ⟨rfl, rfl, .inr h, by omega, by omega, h2⟩
  | buds h h2 => exact ⟨rfl, rfl, .inl g, by omega, by rw [List.length_append]; show S0.length + 1 ≤ 10; omega, hsm⟩
theorem PenOk.extN {p c : Addr} {b : Nat} (e : ExtN H H') (h : PenOk H p c b) : PenOk H' p c b := by
  obtain ⟨ns, z, r, h1, h2, h3⟩ := h
  exact ⟨ns, z, r, e _ _ h1 (fun _ z => nomatch z), e _ _ h2 (fun _ z => nomatch z), h3⟩
theorem TsAt.extN {a : Addr} {ts : List (V × V × Int)} (e : ExtN H H') (h : TsAt H a ts) : TsAt H' a ts := by
  obtain ⟨rs, h1, h2⟩ := h
  exact ⟨rs, e _ _ h1 (fun _ z => nomatch z), Paired.mapP h2 fun r t (h : TieL H r t) => e _ _ h (fun _ z => nomatch z)⟩
theorem SprAt.extN {a c : Addr} {rs : List (Str × List V)} (e : ExtN H H') (h : SprAt c H a rs) : SprAt c H' a rs := by
  obtain ⟨ss, h1, h2⟩ := h
  refine ⟨ss, e _ _ h1 (fun _ z => nomatch z), Paired.mapP h2 fun s r h => ?_⟩
  obtain ⟨q, g1, g2, g3⟩ := h
  exact ⟨q, e _ _ g1 (fun _ z => nomatch z), e _ _ g2 (fun _ z => nomatch z), g3⟩
theorem sqT_extN {a : Addr} {xs : List V} (e : ExtN H H') (h : SqT K H a xs) : SqT K H' a xs := by
  rcases h with (h | ⟨o, h⟩) | h
  · exact .inl (.inl (e _ _ h fun _ z => nomatch z))
  · exact .inl (.inr ⟨o, e _ _ h fun _ z => nomatch z⟩)
  · exact .inr h
theorem sqL_extN {a : Addr} {xs : List V} (e : ExtN H H') (h : SqL K H a xs) : SqL K H' a xs := by
  rcases h with (h | ⟨o, h⟩) | h
  · exact .inl (.inl (e _ _ h fun _ z => nomatch z))
  · exact .inl (.inr ⟨o, e _ _ h fun _ z => nomatch z⟩)
  · exact .inr h
mutual
theorem dp_extN (e : ExtN H H') : ∀ {d : PyData} {v : V}, Dp K H v d → Dp K H' v d
  | _, _, .non => .non
  | _, _, .bl b => .bl b
  | _, _, .int i => .int i
  | _, _, .str x => .str x
  | _, _, .lst h hs => .lst (sqL_extN e h) (dpAll_extN e hs)
  | _, _, .tup h hs => .tup (sqT_extN e h) (dpAll_extN e hs)
theorem dpAll_extN (e : ExtN H H') : ∀ {ds : List PyData} {vs : List V}, DpAll K H vs ds → DpAll K H' vs ds
  | _, _, .nil => .nil
  | _, _, .cons h hs => .cons (dp_extN e h) (dpAll_extN e hs)
end
theorem PieceAt.extN {p : Addr} {m : Nat} {z : Str} {ys : List (V × V × Int)} {rs : List (Str × List V)} (e : ExtN H H') (h : PieceAt K H p m z ys rs) : PieceAt K H' p m z ys rs := by
  obtain ⟨dx, t, b, tas, bas, h1, h2, h3, h4, h5⟩ := h
  refine ⟨dx, t, b, tas, bas, e _ _ h1 (fun _ z => nomatch z), e _ _ h2 (fun _ z => nomatch z), Paired.mapP h3 fun r t (h : TieT H r t) => e _ _ h (fun _ z => nomatch z), e _ _ h4 (fun _ z => nomatch z), Paired.mapP h5 fun s r h => ?_⟩
  obtain ⟨q, g1, g2⟩ := h
  exact ⟨q, e _ _ g1 (fun _ z => nomatch z), sqT_extN e g2⟩
theorem ShAt.extN {sh x : Addr} {m : Nat} {z : Str} (e : ExtN H H') (h : ShAt K H sh x m z) : ShAt K H' sh x m z := by
  obtain ⟨dx, t, b, h1, h2⟩ := h
  exact ⟨dx, t, b, e _ _ h1 (fun _ z => nomatch z), e _ _ h2 (fun _ z => nomatch z)⟩
theorem PartsAt.extN {P : Addr} {d0 d1 : PyData} {ds sds : List PyData} (e : ExtN H H') (h : PartsAt K H P d0 d1 ds sds) : PartsAt K H' P d0 d1 ds sds := by
  obtain ⟨v0, v1, rl, sl, rvs, svs, h1, h2, h3, h4, h5, h6, h7⟩ := h
  exact ⟨v0, v1, rl, sl, rvs, svs, e _ _ h1 (fun _ z => nomatch z), dp_extN e h2, dp_extN e h3, e _ _ h4 (fun _ z => nomatch z), dpAll_extN e h5, e _ _ h6 (fun _ z => nomatch z), dpAll_extN e h7⟩
theorem ShAt.but {p sh x : Addr} {m : Nat} {z : Str} {k : List (Key × V)} (hp : H p = some (.dK k)) (e : SameBut p H H') (h : ShAt K H sh x m z) : ShAt K H' sh x m z := by
  obtain ⟨dx, t, b, h1, h2⟩ := h
  exact ⟨dx, t, b, e _ _ (fun z => by rw [z, hp] at h1; cases h1) h1, e _ _ (fun z => by rw [z, hp] at h2; cases h2) h2⟩
theorem tabs_updL {T : List (Addr × Str)} {D : Addr} {ys : List V} {o : HO} (t : Tabs T H) (hD : H D = some (.lst ys)) : Tabs T (upd H D o) := fun q hq => by
  obtain ⟨ps, h1, h2, h3⟩ := t q hq
  refine ⟨ps, by rw [upd_ne (fun e => by rw [e, hD] at h1; cases h1)]; exact h1, h2, fun pos cv hc => ?_⟩
  obtain ⟨c, e1, e2⟩ := h3 pos cv hc
  exact ⟨c, e1, by rw [upd_ne (fun e => by rw [e, hD] at e2; unfold CodeO at e2; cases e2)]; exact e2⟩
theorem PieceAt.updL {p D : Addr} {m : Nat} {z : Str} {ys : List (V × V × Int)} {rs : List (Str × List V)} {xs : List V} {o : HO} (h : PieceAt K H p m z ys rs) (hD : H D = some (.lst xs)) : PieceAt K (upd H D o) p m z ys rs := by
  obtain ⟨dx, t, b, tas, bas, h1, h2, h3, h4, h5⟩ := h
  have g : ∀ {a : Addr} {u : HO}, H a = some u → (∀ l, u ≠ .lst l) → (upd H D o) a = some u := fun {a u} h n => by
    rw [upd_ne (fun e => by rw [e, hD] at h; cases h; exact n _ rfl)]
    exact h
  exact ⟨dx, t, b, tas, bas, g h1 (fun _ z => nomatch z), g h2 (fun _ z => nomatch z), Paired.mapP h3 fun r t (h : TieT H r t) => g h (fun _ z => nomatch z), g h4 (fun _ z => nomatch z), Paired.mapP h5 fun s r h => h.updL hD⟩
theorem ShAt.updL {sh x D : Addr} {m : Nat} {z : Str} {xs : List V} {o : HO} (h : ShAt K H sh x m z) (hD : H D = some (.lst xs)) : ShAt K (upd H D o) sh x m z := by
  obtain ⟨dx, t, b, h1, h2⟩ := h
  exact ⟨dx, t, b, by rw [upd_ne (fun e => by rw [e, hD] at h1; cases h1)]; exact h1, by rw [upd_ne (fun e => by rw [e, hD] at h2; cases h2)]; exact h2⟩
theorem field_at {f : Nat} (h : f < 4) : ([V.str "mouth", .str "letters", .str "ties", .str "buds"] : List V)[f]? = some (.str (fieldOf f)) := by
  rcases f with _ | _ | _ | _ | f
  · rfl
  · rfl
  · rfl
  · rfl
  · omega
structure Lw (K : PySem.W.Frag) (p c ra sl x : Addr) (b m : Nat) (z : Str) (ts : List (V × V × Int)) (rs : List (Str × List V)) (ys : List (V × V × Int)) (H : Hp) : Prop where
  pen : PenOk H p c b
  tab : Tabs (TS K) H
  rop : TsAt H ra ts
  spr : SprAt c H sl rs
  pce : PieceAt K H x m z ys rs
theorem Lw.same {p c ra sl x : Addr} {b m : Nat} {z : Str} {ts : List (V × V × Int)} {rs : List (Str × List V)} {ys : List (V × V × Int)} (e : Same H H') (h : Lw K p c ra sl x b m z ts rs ys H) : Lw K p c ra sl x b m z ts rs ys H' :=
  ⟨h.pen.same e, h.tab.ext e, h.rop.same e, h.spr.same e, h.pce.same e⟩
theorem signs_ok {z : Str} (h : z.length ≤ 6) (h2 : ∀ x ∈ z.cps.toList, x ∈ [46, 97, 98, 122]) : signsB z = true := by
  unfold signsB
  rw [decide_eq_true h, List.all_eq_true.mpr fun x hx => ?_]
  · rfl
  · have : ∀ x ∈ [46, 97, 98, 122], (decide (x ∈ lets) || decide (x = 46)) = true := by decide +kernel
    exact this x (h2 x hx)
theorem Lw.but {p c ra sl x : Addr} {b b' m : Nat} {z : Str} {ts : List (V × V × Int)} {rs : List (Str × List V)} {ys : List (V × V × Int)} (e : SameBut p H H') (h : Lw K p c ra sl x b m z ts rs ys H) (t : PenOk H' p c b') : Lw K p c ra sl x b' m z ts rs ys H' := by
  obtain ⟨k, hk⟩ := h.pen.dict
  exact ⟨t, Tabs.but h.tab e hk, h.rop.but hk e, h.spr.but hk e, h.pce.but hk e⟩
theorem Lw.extN {p c ra sl x : Addr} {b m : Nat} {z : Str} {ts : List (V × V × Int)} {rs : List (Str × List V)} {ys : List (V × V × Int)} (e : ExtN H H') (h : Lw K p c ra sl x b m z ts rs ys H) (t : Tabs (TS K) H') : Lw K p c ra sl x b m z ts rs ys H' :=
  ⟨h.pen.extN e, t, h.rop.extN e, h.spr.extN e, h.pce.extN e⟩
theorem st_fin {m : Nat} {z : Str} {D0 S0 ds sds : List PyData} {d0 d1 : PyData} {w : Nat} (h : StW m z D0 S0 [w] d0 d1 ds sds) (g : Good m z.length D0) (hl : D0.length ≤ 200) (hb : ∀ d ∈ S0, smB d = true) (hs : S0.length ≤ 10) : Fin m z w d0 d1 ds sds := fin1 h g hl hb hs
def spLaw (K : PySem.W.Frag) : Sp := fun vs H Q _ => ∃ (a : Addr) (ns : List Int), vs = [.ref a] ∧ SqL K H a (ns.map V.int) ∧ ns.length ≤ 63 ∧ Tabs (TS K) H ∧ ∀ H', Q (.bl true) H'
theorem ok_law (T : Top K mg) (U : Tb K mg base) : FnOkG PW w K mg base CX0 14 (fa K "law") (fdOf K (fa K "law")) ["_law_script"] (spLaw K) := by
  refine T.F_law.okG sc_law (fun vs H Q E h => ?_) (fun A outer s H vs Q E hgd hr h => ?_)
  · obtain ⟨a, ns, rfl, _hS, _hns, _hTab, _k⟩ := h
    rfl
  · obtain ⟨a, ns, rfl, hS, hns, hTab, k⟩ := h
    have hu := hu_of hr
    obtain ⟨ds5, hv5, hb5⟩ := piece_b5 T
    obtain ⟨ds3, hv3, hb3⟩ := piece_b3 T
    obtain ⟨gkp, hkp⟩ := piece_k T
    refine ⟨_, (pss_cons (ps_set (i := 1) sc_law.nd rfl (Or.inr rfl) (pe_call (ok__law_pen T) (hr.mono (by decide)) rfl T.g__law_pen T.F__law_pen.kp T.b__law_pen .nil pass0 (pa_cons (pv 0) pa_nil)))
      (pss_cons (ps_for PassesOwn.never rfl (pi_range1 (by rfl) T.z_range (pa_cons (pe_op op_add pe_int (pe_callB (call_min2 rfl) (by rfl) T.z_min (by decide +kernel) (pa_cons pe_int (pa_cons (pe_callB call_len_seq (by rfl) T.z_len (by decide +kernel) (pa_cons (pv 0) pa_nil)) pa_nil)))) pa_nil)) (pg_name (i := 2) sc_law.nd rfl (Or.inl rfl)) (pss_cons (ps_par (i := 3) (j := 4) (by rfl) sc_law.nd rfl rfl (by decide) rfl rfl (pa_cons (pe_call (ok__law_draw T) (hr.mono (by decide)) rfl T.g__law_draw T.F__law_draw.kp T.b__law_draw .nil pass0 (pa_cons (pv 1) (pa_cons pe_int pa_nil))) (pa_cons (pe_call (ok__law_draw T) (hr.mono (by decide)) rfl T.g__law_draw T.F__law_draw.kp T.b__law_draw .nil pass0 (pa_cons (pv 1) (pa_cons pe_int pa_nil))) pa_nil)) (by rfl))
      (pss_cons (ps_set (i := 5) sc_law.nd rfl (Or.inl rfl) (pe_join pe_str (pe_lc (own := [("_law_k", 9)]) (g := gName 9) (by rfl) sc_law.nd (pi_range1 (by rfl) T.z_range (pa_cons (pv 4) pa_nil)) (blkOk_by (own := [("_law_k", 9)]) (N := ["_law_script", "_law_pen_here", "_law_lap", "_law_lips", "_law_fresh", "_law_signs", "_law_ropes", "_law_places", "_law_sprouts", "_law_k", "_law_many", "_law_made", "_law_due", "_law_shown", "_law_twin", "_law_parts", "_law_wrong", "_law_first", "_law_told_here", "_law_row_here", "_law_kind", "_law_tie"]) (sc := (defScope s_law)) (by decide +kernel)) (fun _ _ _ _ _ => (pg_name (i := 9) sc_law.nd rfl (Or.inl rfl))) (fun _ _ _ _ _ => pts_nil) (fun _ _ _ _ _ => (pe_call (okS__law_pick T) (hr.mono (by decide)) rfl T.g__law_pick T.F__law_pick.kp T.b__law_pick .nil pass0 (pa_cons (pv 1) (pa_cons pe_str pa_nil)))))))
      (pss_cons (ps_set (i := 6) sc_law.nd rfl (Or.inl rfl) (pe_call (ok__law_ties T) (hr.mono (by decide)) rfl T.g__law_ties T.F__law_ties.kp T.b__law_ties .nil pass0 (pa_cons (pv 1) (pa_cons (pv 3) (pa_cons (pv 4) (pa_cons (pe_call (ok__law_pick T) (hr.mono (by decide)) rfl T.g__law_pick T.F__law_pick.kp T.b__law_pick .nil pass0 (pa_cons (pv 1) (pa_cons (pe_lst (pa_cons pe_int (pa_cons (pe_op op_mulW (pe_op op_pow pe_int pe_int) (pe_op op_pow pe_int pe_int)) pa_nil))) pa_nil))) pa_nil))))))
      (pss_cons (ps_par (i := 7) (j := 8) (by rfl) sc_law.nd rfl rfl (by decide) rfl rfl (pa_cons (pe_op op_cat (pe_callTy (cr_listStr rfl) (by rfl) T.z_list (by decide +kernel) (pa_cons (pe_slice sl_str pe_str po_none (po_some (pv 3))) pa_nil)) (pe_listRg rfl (by rfl) T.z_list (prg_1 (by rfl) T.z_range (pv 4)))) (pa_cons (pe_lst pa_nil) pa_nil)) (by rfl))
      (pss_cons (ps_for PassesOwn.never rfl (pi_range1 (by rfl) T.z_range (pa_cons (pe_call (ok__law_draw T) (hr.mono (by decide)) rfl T.g__law_draw T.F__law_draw.kp T.b__law_draw .nil pass0 (pa_cons (pv 1) (pa_cons pe_int pa_nil))) pa_nil)) (pg_name (i := 9) sc_law.nd rfl (Or.inl rfl)) (pss_cons (ps_set (i := 10) sc_law.nd rfl (Or.inl rfl) (pe_callB (call_min2 rfl) (by rfl) T.z_min (by decide +kernel) (pa_cons (pe_op op_add pe_int (pe_call (ok__law_draw T) (hr.mono (by decide)) rfl T.g__law_draw T.F__law_draw.kp T.b__law_draw .nil pass0 (pa_cons (pv 1) (pa_cons pe_int pa_nil)))) (pa_cons (pe_callTy call_int1 (by rfl) T.z_int (by decide +kernel) (pa_cons (pe_callB call_len_seq (by rfl) T.z_len (by decide +kernel) (pa_cons (pv 7) pa_nil)) pa_nil)) pa_nil))))
      (pss_one (ps_if (pt_cmpR op_gt (pv 10) pe_int (nomark _)) (pss_one (ps_expr (pe_bm PySem.F.plainAttrs_list PySem.F.slot_list_append PySem.F.type_list_append mt_append (pv 8) (pa_cons (pe_tup (pa_cons (pe_ix ix_list (pe_call (ok__law_kinds T) (hr.mono (by decide)) rfl T.g__law_kinds T.F__law_kinds.kp T.b__law_kinds .nil pass0 (pa_cons (pv 1) (pa_cons pe_int pa_nil))) pe_int (fun _ _ => rfl)) (pa_cons (pe_callTy call_list_of (by rfl) T.z_list (by decide +kernel) (pa_cons (pe_call (ok__law_row T) (hr.mono (by decide)) rfl T.g__law_row T.F__law_row.kp T.b__law_row .nil pass0 (pa_cons (pv 1) (pa_cons (pv 7) (pa_cons (pv 10) pa_nil)))) pa_nil)) pa_nil))) pa_nil)))) pss_nil))))
      (pss_cons (ps_set (i := 11) sc_law.nd rfl (Or.inl rfl) (pe_make T.mk_Piece (ok_Piece___init__ T) (hr.mono (by decide)) (by rfl) T.g_Piece hb5 hv5 passE0 (pa_cons (pv 3) (pa_cons (pv 5) (pa_cons (pv 6) (pa_cons (pv 8) pa_nil))))))
      (pss_cons (ps_setLc (i := 12) (own := [("_law_kind", 20), ("_law_row_here", 19)]) (te := tTup (tCons (tVar 20) (tCons (tCB (rTupOf K) (tCons (tVar 19) tNil)) tNil))) (g := gTup K 2 (gCons (gName 20) (gCons (gName 19) gNil))) (by rfl) sc_law.nd rfl rfl (sw_true rfl rfl rfl (by decide +kernel)) (pi_list (pv 8)) (blkOk_by (own := [("_law_kind", 20), ("_law_row_here", 19)]) (N := ["_law_script", "_law_pen_here", "_law_lap", "_law_lips", "_law_fresh", "_law_signs", "_law_ropes", "_law_places", "_law_sprouts", "_law_k", "_law_many", "_law_made", "_law_due", "_law_shown", "_law_twin", "_law_parts", "_law_wrong", "_law_first", "_law_told_here", "_law_row_here", "_law_kind", "_law_tie"]) (sc := (defScope s_law)) (by decide +kernel)) (fun _ _ _ _ _ => (pg_tup (by rfl) (pgs_cons (pg_name (i := 20) sc_law.nd rfl (Or.inl rfl)) (pgs_cons (pg_name (i := 19) sc_law.nd rfl (Or.inl rfl)) pgs_nil)))) (fun _ _ _ _ _ => pts_nil) (fun _ _ _ _ _ => (pe_tup (pa_cons (pv 20) (pa_cons (pe_callTy call_tuple_of (by rfl) T.z_tuple (by decide +kernel) (pa_cons (pv 19) pa_nil)) pa_nil)))))
      (pss_cons (ps_set (i := 13) sc_law.nd rfl (Or.inl rfl) (pe_tup (pa_cons (pe_fld (pv 11) rfl) (pa_cons (pe_fld (pv 11) rfl) (pa_cons (pe_fld (pv 11) rfl) (pa_cons (pe_fld (pv 11) rfl) pa_nil))))))
      (pss_cons (ps_if (pt_cmpR (op_neD hr.units) (pv 13) (pe_tup (pa_cons (pv 3) (pa_cons (pv 5) (pa_cons (pe_callG (by exact hgd) (ok__law_ordered T) (hr.mono (by decide)) rfl T.g__law_ordered T.F__law_ordered.kp T.b__law_ordered .nil pass0 (pa_cons (pv 6) pa_nil)) (pa_cons (pe_callTy call_tuple_of (by rfl) T.z_tuple (by decide +kernel) (pa_cons (pv 12) pa_nil)) pa_nil))))) (nomark _)) (pss_one (ps_ret pe_bl)) pss_nil)
      (pss_cons (ps_set (i := 14) sc_law.nd rfl (Or.inl rfl) (pe_makeK0 T.mk_Piece (ok_Piece___init__ T) (hr.mono (by decide)) (by rfl) T.g_Piece hkp passE0 (pk_cons (pe_callTy call_tuple_of (by rfl) T.z_tuple (by decide +kernel) (pa_cons (pv 12) pa_nil)) (pk_cons (pe_lc (own := [("_law_tie", 21)]) (te := tCB (rListOf K) (tCons (tVar 21) tNil)) (g := gName 21) (by rfl) sc_law.nd (pi_list (pe_revL (pv 6))) (blkOk_by (own := [("_law_tie", 21)]) (N := ["_law_script", "_law_pen_here", "_law_lap", "_law_lips", "_law_fresh", "_law_signs", "_law_ropes", "_law_places", "_law_sprouts", "_law_k", "_law_many", "_law_made", "_law_due", "_law_shown", "_law_twin", "_law_parts", "_law_wrong", "_law_first", "_law_told_here", "_law_row_here", "_law_kind", "_law_tie"]) (sc := (defScope s_law)) (by decide +kernel)) (fun _ _ _ _ _ => (pg_name (i := 21) sc_law.nd rfl (Or.inl rfl))) (fun _ _ _ _ _ => pts_nil) (fun _ _ _ _ _ => (pe_callTy call_list_of (by rfl) T.z_list (by decide +kernel) (pa_cons (pv 21) pa_nil)))) (pk_cons (pv 5) (pk_cons (pv 3) pk_nil))))))
      (pss_cons (ps_if (PW.pt (pw_or (pt_cmpR (op_neV T.ne_Piece T.m_Piece___eq__.at_ T.m_Piece___eq__.fn T.os_Piece (ok_Piece___eq__ T) T.b_Piece___eq__ (hr.mono (by decide))) (pv 14) (pv 11) (nomark _)) (pw_or (pt_cmpR (op_ownV (op := .Eq) (fun _ _ => rfl) T.m_Piece___eq__.at_ T.m_Piece___eq__.fn (ok_Piece___eq__ T) T.b_Piece___eq__ (hr.mono (by decide))) (pv 11) (pv 13) (nomark _)) (pw_or1 (PW.pt (pw_and (pt_cmpR op_gt (pv 4) pe_int (nomark _)) (pw_and1 (pt_cmpR (op_ownV (op := .Eq) (fun _ _ => rfl) T.m_Piece___eq__.at_ T.m_Piece___eq__.fn (ok_Piece___eq__ T) T.b_Piece___eq__ (hr.mono (by decide))) (pv 11) (pe_make T.mk_Piece (ok_Piece___init__ T) (hr.mono (by decide)) (by rfl) T.g_Piece hb5 hv5 passE0 (pa_cons (pv 3) (pa_cons (pe_op op_add_str (pe_slice sl_str (pv 5) (po_some pe_int) po_none) pe_str) (pa_cons (pv 6) (pa_cons (pv 12) pa_nil))))) (nomark _))))))))) (pss_one (ps_ret pe_bl)) pss_nil)
      (pss_cons (ps_asg (pe_tup (pa_cons (pe_tup (pa_cons (pv 3) (pa_cons (pv 5) (pa_cons (pv 6) (pa_cons (pv 8) pa_nil))))) (pa_cons (pe_lst pa_nil) pa_nil))) (pg_tup (by rfl) (pgs_cons (pg_name (i := 15) sc_law.nd rfl (Or.inr rfl)) (pgs_cons (pg_name (i := 16) sc_law.nd rfl (Or.inl rfl)) pgs_nil))))
      (pss_cons (ps_for PassesOwn.never rfl (pi_range1 (by rfl) T.z_range (pa_cons (pe_op op_add pe_int (pe_call (ok__law_draw T) (hr.mono (by decide)) rfl T.g__law_draw T.F__law_draw.kp T.b__law_draw .nil pass0 (pa_cons (pv 1) (pa_cons pe_int pa_nil)))) pa_nil)) (pg_name (i := 9) sc_law.nd rfl (Or.inl rfl)) (pss_cons (ps_expr (pe_bm PySem.F.plainAttrs_list PySem.F.slot_list_append PySem.F.type_list_append mt_append (pv 16) (pa_cons (pe_call (ok__law_draw T) (hr.mono (by decide)) rfl T.g__law_draw T.F__law_draw.kp T.b__law_draw .nil pass0 (pa_cons (pv 1) (pa_cons pe_int pa_nil))) pa_nil)))
      (pss_one (ps_set (i := 15) sc_law.nd rfl (Or.inr rfl) (pe_ifExp (PW.pt (pw_or (pt_cmpR op_eq (pe_callB call_len_seq (by rfl) T.z_len (by decide +kernel) (pa_cons (pv 16) pa_nil)) pe_int (nomark _)) (pw_or1 (pt_cmpR op_gt (pe_ix ix_list (pv 16) pe_int (fun _ _ => rfl)) pe_int (nomark _))))) (pe_call (ok__law_bent T) (hr.mono (by decide)) rfl T.g__law_bent T.F__law_bent.kp T.b__law_bent .nil pass0 (pa_cons (pv 1) (pa_cons (pe_ix ix_list (pv 16) (pe_un un_neg pe_int) (fun _ _ => rfl)) (pa_cons (pv 15) pa_nil)))) (pv 15))))))
      (pss_cons (ps_set (i := 17) sc_law.nd rfl (Or.inl rfl) (pe_ifExp (PW.pt (pw_or (pt_cmpR op_eq (pe_callB call_len_seq (by rfl) T.z_len (by decide +kernel) (pa_cons (pv 16) pa_nil)) pe_int (nomark _)) (pw_or1 (pt_cmpR op_le (pe_ix ix_list (pv 16) pe_int (fun _ _ => rfl)) pe_int (nomark _))))) (pe_ix ix_list (pv 16) pe_int (fun _ _ => rfl)) (pe_callB (call_min2 rfl) (by rfl) T.z_min (by decide +kernel) (pa_cons (pe_callTy call_int1 (by rfl) T.z_int (by decide +kernel) (pa_cons (pe_ix ix_list (pv 16) pe_int (fun _ _ => rfl)) pa_nil)) (pa_cons (pe_callTy call_int1 (by rfl) T.z_int (by decide +kernel) (pa_cons (pe_ix ix_list (pv 16) pe_int (fun _ _ => rfl)) pa_nil)) pa_nil)))))
      (pss_cons (ps_set (i := 18) sc_law.nd rfl (Or.inl rfl) (pe_told (t := fun E => tMake (CL_Piece K) (spInit K) [] E (tCons (tOp (rIxT K) (tVar 15) (tC (.int 0))) (tCons (tOp (rIxT K) (tVar 15) (tC (.int 1))) (tCons (tOp (rIxT K) (tVar 15) (tC (.int 2))) (tCons (tOp (rIxT K) (tVar 15) (tC (.int 3))) tNil))))) (k := 10) (Ts := TS K) T rfl U.b rfl Tb.m U.u (hr.mono (by decide)) (lamS_by (show lamSB (defScope s_law) _ = true by decide +kernel)) rfl (fun _ _ _ _ _ => rfl) (fun A outer s H E f c2 hr2 => (pe_make T.mk_Piece (ok_Piece___init__ T) (hr2.mono (by decide)) (by rfl) T.g_Piece hb5 hv5 (passes_call (takes_of rfl rfl rfl rfl) (fun _ _ _ _ h => h)) (pa_cons (pe_ix ix_tup (pv 15) pe_int (fun _ _ => rfl)) (pa_cons (pe_ix ix_tup (pv 15) pe_int (fun _ _ => rfl)) (pa_cons (pe_ix ix_tup (pv 15) pe_int (fun _ _ => rfl)) (pa_cons (pe_ix ix_tup (pv 15) pe_int (fun _ _ => rfl)) pa_nil))))))))
      (pss_cons (ps_if (pt_cmpR op_ne (pv 18) (pe_ix ix_list (pe_lst (pa_cons pe_str (pa_cons pe_str (pa_cons pe_str (pa_cons pe_str pa_nil))))) (pv 17) (fun _ _ => rfl)) (nomark _)) (pss_one (ps_ret pe_bl)) pss_nil)
      (pss_cons (ps_for PassesOwn.never rfl (pi_list (pv 8)) (pg_name (i := 19) sc_law.nd rfl (Or.inl rfl)) (pss_one (ps_expr (pe_bm PySem.F.plainAttrs_list PySem.F.slot_list_append PySem.F.type_list_append mt_append (pe_ix ix_tup (pv 19) pe_int (fun _ _ => rfl)) (pa_cons pe_str pa_nil)))))
      (pss_one (ps_if (pt_cmpR (op_neD hr.units) (pe_tup (pa_cons (pe_fld (pv 11) rfl) (pa_cons (pe_fld (pv 11) rfl) (pa_cons (pe_fld (pv 11) rfl) (pa_cons (pe_fld (pv 11) rfl) pa_nil))))) (pv 13) (nomark _)) (pss_one (ps_ret pe_bl)) pss_nil))))))))))))))))))))
      (pss_one (ps_ret (pe_and (pe_cmpR (op_ownV (op := .Eq) (fun _ _ => rfl) T.m_Piece___eq__.at_ T.m_Piece___eq__.fn (ok_Piece___eq__ T) T.b_Piece___eq__ (hr.mono (by decide))) (pe_make T.mk_Piece (ok_Piece___init__ T) (hr.mono (by decide)) (by rfl) T.g_Piece hb3 hv3 passE0 (pa_cons pe_int (pa_cons pe_str pa_nil))) (pe_make T.mk_Piece (ok_Piece___init__ T) (hr.mono (by decide)) (by rfl) T.g_Piece hb5 hv5 passE0 (pa_cons pe_int (pa_cons pe_str (pa_cons (pe_lst pa_nil) (pa_cons (pe_tup pa_nil) pa_nil))))) (nomark _)) (pe_one (pe_cmpR (op_eqD hr.units) (pe_fld (pe_make T.mk_Piece (ok_Piece___init__ T) (hr.mono (by decide)) (by rfl) T.g_Piece hb3 hv3 passE0 (pa_cons pe_int (pa_cons pe_str pa_nil))) rfl) (pe_tup pa_nil) (nomark _)))))))), ?_⟩
    refine ⟨_, rfl, a, ns, rfl, hS, hns, fun p c0 H1 s1 _ _ t1 => ?_⟩
    have hTab1 := hTab.ext s1
    refine ⟨_, rfl, a, ns.map V.int, rfl, .inl (s1.seq hS), 6, ((ns.map V.int).length : Int), rfl, 3, _, rfl, rfl, ((3 + min 6 ns.length : Nat) : Int), ?_, by omega, by omega, for_range (lo := 0) (n := 3 + min 6 ns.length) (fun i σ H2 => PenOk H2 p c0 (i * 5000) ∧ Tabs (TS K) H2 ∧ ∃ o2 o3 o4 o5 o6 o7 o8 o9 o10 o11 o12 o13 o14 o15 o16 o17 o18 o19 o20 o21, σ = [some (.ref a), some (.ref p), o2, o3, o4, o5, o6, o7, o8, o9, o10, o11, o12, o13, o14, o15, o16, o17, o18, o19, o20, o21]) ⟨t1.mono (by omega), hTab1, _, _, _, _, _, _, _, _, _, _, _, _, _, _, _, _, _, _, _, _, rfl⟩ ?_ ?_⟩
    · rw [List.length_map]
      exact congrArg (fun t : Int => [V.int t]) (by split <;> omega)
    · rintro i σ H1 hi ⟨t1, tb1, o2, o3, o4, o5, o6, o7, o8, o9, o10, o11, o12, o13, o14, o15, o16, o17, o18, o19, o20, o21, rfl⟩
      have hi6 : i < 9 := by omega
      refine ⟨_, rfl, p, c0, i * 5000, 4, rfl, t1, by omega, lim_small (by decide) (by decide), fun m H2 hm s2 t2 => ⟨_, rfl, p, c0, _, 7, rfl, t2, by omega, lim_small (by decide) (by decide), fun n H3 hn s3 t3 => ⟨_, _, rfl, ?_⟩⟩⟩
      have hm3 : m ≤ 3 := by omega
      have hn6 : n ≤ 6 := by omega
      have sb3 : SameBut p H1 H3 := s2.trans s3
      show tSeq _ _ _ [some (.ref a), some (.ref p), _, some (.int (m : Int)), some (.int (n : Int)), o5, o6, o7, o8, o9, o10, o11, o12, o13, o14, o15, o16, o17, o18, o19, o20, o21] H3
      refine ⟨⟨_, rfl⟩, _, rfl, (n : Int), rfl, by omega, by omega, fun D hD => ?_⟩
      obtain ⟨nDp, nDc⟩ := t3.ne hD
      refine lc_range (lo := 0) (n := (n : Int).toNat) (fun j H4 => SameBut p H3 H4 ∧ PenOk H4 p c0 (i * 5000 + 2 + j) ∧ ∃ cs : List Nat, H4 D = some (.lst ((cs.map UM.sing).map V.str)) ∧ cs.length = j ∧ ∀ c ∈ cs, c ∈ [46, 97, 98, 122])
        ⟨Same.but p (same_upd hD), t3.updL nDp nDc, [], upd_same, rfl, fun _ h => nomatch h⟩ ?_ ?_
      · rintro j H4 hj ⟨sb4, t4, cs, hD4, hcl, hcs⟩
        have hj' : j < n := hj
        refine ⟨rfl, ?_⟩
        refine ⟨_, rfl, p, c0, i * 5000 + 2 + j, ".abz", rfl, t4, by omega, by decide +kernel, by decide +kernel, fun x H5 hx s5 t5 => ?_⟩
        refine ⟨_, s5 _ _ nDp hD4, (by rw [List.length_map, List.length_map, sizeLine_eq]; omega), but_at hD (sb4.trans s5), t5.updL nDp nDc, cs ++ [x], ?_, (by rw [List.length_append, hcl]; rfl), fun c hc => ?_⟩
        · rw [upd_same, List.map_append, List.map_append]; rfl
        · rcases List.mem_append.mp hc with hc | hc
          · exact hcs c hc
          · rw [List.mem_singleton.mp hc]; exact hx
      · rintro H4 ⟨sb4, t4, cs, hD4, hcl, hcs⟩
        have hcl' : cs.length = n := hcl
        refine ⟨_, D, cs.map UM.sing, rfl, rfl, .inl (SqL.of hD4), (by rw [sum_sing]; show _ + _ * 0 ≤ _; omega), ?_⟩
        rw [UM.join_sing]
        have hzl : (⟨cs.toArray⟩ : Str).length = n := by show cs.toArray.size = n; rw [List.size_toArray]; exact hcl'
        have hzc : ∀ x ∈ (⟨cs.toArray⟩ : Str).cps.toList, x ∈ [46, 97, 98, 122] := hcs
        have t4' : PenOk H4 p c0 (i * 5000 + 10) := t4.mono (by show i * 5000 + 2 + n ≤ _; omega)
        have sb14 : SameBut p H1 H4 := sb3.trans sb4
        clear hcs hcl hcl' hD4 t4 sb4 hD
        generalize (⟨cs.toArray⟩ : Str) = z at hzl hzc ⊢
        subst hzl
        have hzb : signsB z = true := signs_ok hn6 hzc
        dsimp only [gName]
        show tSeq _ _ _ [some (.ref a), some (.ref p), _, some (.int (m : Int)), some (.int (z.length : Int)), some (.str z), o6, o7, o8, o9, o10, o11, o12, o13, o14, o15, o16, o17, o18, o19, o20, o21] H4
        refine ⟨_, rfl, _, rfl, _, rfl, _, rfl, _, _, rfl, rfl, ⟨by decide, by decide, by decide⟩, _, _, rfl, rfl, ⟨by decide, by decide, by decide⟩, _, _, rfl, rfl, (by show _ < 1000000; decide +kernel), Nat.le_of_ble_eq_true rfl, fun lf hlf => ?_⟩
        have ulf := same_upd (o := .lst [.int 3, .int ((10 : Int) ^ (50 : Int).toNat * (10 : Int) ^ (50 : Int).toNat)]) hlf
        refine ⟨p, c0, lf, _, _, rfl, t4'.same ulf, by omega, SqL.of upd_same, by decide, by decide, fun jf x H5 hx s5 t5 => ?_⟩
        obtain ⟨far, rfl, hf1, hf2⟩ : ∃ far : Int, x = .int far ∧ 1 ≤ far ∧ far ≤ 10 ^ 100 := by
          rcases jf with _ | _ | jf
          · cases hx; exact ⟨_, rfl, by decide +kernel, by decide +kernel⟩
          · cases hx; exact ⟨_, rfl, by decide +kernel, by decide +kernel⟩
          · cases hx
        have sb15 : SameBut p H1 H5 := sb14.trans ((Same.but p ulf).trans s5)
        refine ⟨p, c0, _, m, z.length, far, rfl, t5, by omega, hm3, hn6, hf1, hf2, fun ra ts H6 s6 t6 hra hts hR => ?_⟩
        obtain ⟨hR1, hR2, hR3⟩ := hR
        have sb16 := sb15.trans s6
        have hra5 := pen_fresh sb15 t5 hra
        clear s6 s5 ulf hlf t5 t4' sb15 sb14
        dsimp only [gName]
        show tSeq _ _ _ [some (.ref a), some (.ref p), _, some (.int (m : Int)), some (.int (z.length : Int)), some (.str z), some (.ref ra), o7, o8, o9, o10, o11, o12, o13, o14, o15, o16, o17, o18, o19, o20, o21] H6
        have hc3 : (cutS "abc" none (some (m : Int))).length ≤ 3 := by rcases m with _ | _ | _ | _ | m <;> first | omega | decide +kernel
        refine ⟨_, rfl, _, rfl, "abc", rfl, by decide, _, rfl, szS (by omega), fun a1 ha1 => ?_⟩
        have u1 := same_upd (o := .lst ((SM.signs (cutS "abc" none (some (m : Int)))).map V.str)) ha1
        refine ⟨_, rfl, _, rfl, .of_le (by omega) (by omega) (by omega) (by omega), fun a2 ha2 => ?_⟩
        have u2 := same_upd (o := .lst (rgV 0 (z.length : Int))) ha2
        refine ⟨a1, a2, _, _, rfl, rfl, u2 _ _ upd_same, upd_same, (by rw [← List.length_append, places_eq hm3 hn6, plcs_len, sizeLine_eq]; omega), fun pl hpl => ?_⟩
        rw [places_eq hm3 hn6]
        have u3 := same_upd (o := .lst (plcs m z.length)) hpl
        refine ⟨Nat.zero_le _, fun sl hsl => ⟨_, _, rfl, ?_⟩⟩
        have u4 := same_upd (o := .lst []) hsl
        have u := u1.trans (u2.trans (u3.trans u4))
        have hsl0 := fresh_back (u1.trans (u2.trans u3)) hsl
        have hpl0 := fresh_back (u1.trans u2) hpl
        have hpl7 := u4 _ _ (upd_same (a := pl) (o := .lst (plcs m z.length)))
        have hsl7 := upd_same (a := sl) (o := HO.lst ([] : List V)) (H := upd (upd (upd H6 a1 (.lst ((SM.signs (cutS "abc" none (some (m : Int)))).map V.str))) a2 (.lst (rgV 0 (z.length : Int)))) pl (.lst (plcs m z.length)))
        have npl : pl ≠ sl := fun e => by rw [← e, upd_same] at hsl; cases hsl
        generalize upd (upd (upd (upd H6 a1 (.lst ((SM.signs (cutS "abc" none (some (m : Int)))).map V.str))) a2 (.lst (rgV 0 (z.length : Int)))) pl (.lst (plcs m z.length))) sl (.lst []) = H7 at u hpl7 hsl7 ⊢
        obtain ⟨nsp, nsc⟩ := t6.ne hsl0
        have nplp := (t6.ne hpl0).1
        have t7 := t6.same u
        have hts7 := hts.same u
        have sb17 := sb16.trans (Same.but p u)
        have hsl1 := pen_fresh sb16 t6 hsl0
        have nras0 : ra ≠ sl := fun e => by
          obtain ⟨_, h1, _⟩ := hts
          rw [e, hsl0] at h1
          cases h1
        clear u u4 u3 u2 u1 hsl hpl ha2 ha1 hts t6 sb16
        show tSeq _ _ _ [some (.ref a), some (.ref p), _, some (.int (m : Int)), some (.int (z.length : Int)), some (.str z), some (.ref ra), some (.ref pl), some (.ref sl), o9, o10, o11, o12, o13, o14, o15, o16, o17, o18, o19, o20, o21] H7
        refine ⟨_, rfl, p, c0, _, 5, rfl, t7, by omega, lim_small (by decide) (by decide), fun cnt H8 hcnt s8 t8 => ⟨(cnt : Int), rfl, by omega, by omega, ?_⟩⟩
        obtain ⟨kd7, hkd7⟩ := t7.dict
        have sb18 := sb17.trans s8
        have hts8 := hts7.but hkd7 s8
        have hpl8 := s8 _ _ nplp hpl7
        have hsl8 := s8 _ _ nsp hsl7
        clear hpl7 hsl7 hts7 s8 sb17 t7 hkd7 kd7
        have nras : ra ≠ sl := nras0
        have hcn : (cnt : Int).toNat = cnt := rfl
        refine for_range (lo := 0) (n := (cnt : Int).toNat) (fun j σ H9 => ∃ (rs : List (Str × List V)) (o9 o10 : Option V), σ = [some (.ref a), some (.ref p), some (.int (0 + (i : Int))), some (.int (m : Int)), some (.int (z.length : Int)), some (.str z), some (.ref ra), some (.ref pl), some (.ref sl), o9, o10, o11, o12, o13, o14, o15, o16, o17, o18, o19, o20, o21] ∧ SameBut p H1 H9 ∧ PenOk H9 p c0 (i * 5000 + 400 + 50 * j) ∧ TsAt H9 ra ts ∧ H9 pl = some (.lst (plcs m z.length)) ∧ SprAt c0 H9 sl rs ∧ (∀ r ∈ rs, RowOk m z.length r) ∧ rs.length ≤ j)
          ⟨[], _, _, rfl, sb18, t8.mono (by omega), hts8, hpl8, ⟨[], hsl8, .nil⟩, (fun _ h => nomatch h), Nat.le_refl _⟩ ?_ ?_
        · rintro j σ H9 hj ⟨rs, o9, o10, rfl, sb9, t9, hts9, hpl9, ⟨ss, hss9, hsp9⟩, hrok, hrl⟩
          have hj5 : j < cnt := hj
          refine ⟨_, rfl, p, c0, _, 3, rfl, t9, by omega, lim_small (by decide) (by decide), fun x H10 hx s10 t10 => ⟨_, _, rfl, rfl, _, rfl, pl, _, rfl, .inl (SqL.of (s10 _ _ nplp hpl9)), .inl ⟨_, rfl, _, _, rfl, ?_⟩⟩⟩
          obtain ⟨kd9, hkd9⟩ := t9.dict
          have hts10 := hts9.but hkd9 s10
          have hpl10 := s10 _ _ nplp hpl9
          have hss10 := s10 _ _ nsp hss9
          have hsp10 : Paired (SpAt sl c0 H10) ss rs := Paired.mapP hsp9 fun _ _ h => h.but hkd9 s10
          have sb10 := sb9.trans s10
          obtain ⟨q, hq, hq1, hq2⟩ : ∃ q : Nat, (if (((plcs m z.length).length : Nat) : Int) < 1 + (x : Int) then (((plcs m z.length).length : Nat) : Int) else 1 + (x : Int)) = (q : Int) ∧ q ≤ m + z.length ∧ q ≤ 3 := by
            rw [plcs_len]
            by_cases c : ((m + z.length : Nat) : Int) < 1 + (x : Int)
            · rw [if_pos c]; exact ⟨m + z.length, rfl, by omega, by omega⟩
            · rw [if_neg c]; exact ⟨1 + x, by omega, by omega, by omega⟩
          rw [hq]
          dsimp only [gName]
          show tIfS _ _ _ _ [some (.ref a), some (.ref p), some (.int (0 + (i : Int))), some (.int (m : Int)), some (.int (z.length : Int)), some (.str z), some (.ref ra), some (.ref pl), some (.ref sl), _, some (.int (q : Int)), o11, o12, o13, o14, o15, o16, o17, o18, o19, o20, o21] H10
          refine ⟨_, rfl, _, _, rfl, rfl, _, rfl, ?_⟩
          by_cases hq0 : 0 < q
          · refine ifT (decide_eq_true (by omega)) ?_
            refine ⟨_, rfl, .inl ⟨rfl, _, SqL.of hss10⟩, _, rfl, p, c0, _, 1, rfl, t10, by omega, by decide, fun ka ws H11 s11 t11 hka hka11 hwl hws => ?_⟩
            obtain ⟨kd10, hkd10⟩ := t10.dict
            obtain ⟨w0, rfl⟩ : ∃ w0, ws = [w0] := by
              rcases ws with _ | ⟨w0, _ | ⟨_, _⟩⟩
              · cases hwl
              · exact ⟨w0, rfl⟩
              · cases hwl
            refine tcI ⟨ka, _, _, _, rfl, rfl, SqL.of hka11, rfl, ?_⟩
            refine ⟨_, rfl, _, rfl, _, rfl, p, c0, pl, _, q, _, rfl, t11, by omega, SqL.of (s11 _ _ nplp hpl10), by rw [plcs_len]; exact hq1, by rw [plcs_len]; omega, fun qr vs zs H12 s12 t12 hqr hqr12 hvl hpm => ?_⟩
            obtain ⟨kd11, hkd11⟩ := t11.dict
            have s1012 := s11.trans s12
            refine ⟨qr, vs, rfl, .inr (SqT.of hqr12), fun lr hlr => ?_⟩
            have ulr := same_upd (o := .lst vs) hlr
            refine ⟨Nat.le_of_ble_eq_true rfl, fun tp htp => ?_⟩
            have utp := same_upd (o := .tup [.str w0, .ref lr]) htp
            have uu := ulr.trans utp
            have hss12 := uu _ _ (s1012 _ _ nsp hss10)
            refine ⟨sl, _, _, rfl, rfl, hss12, ?_, ?_⟩
            · rw [List.length_map, sizeLine_eq, Paired.length hsp10]; omega
            have hlr13 := utp _ _ (upd_same (a := lr) (o := .lst vs) (H := H12))
            have htp13 := upd_same (a := tp) (o := .tup [.str w0, .ref lr]) (H := upd H12 lr (.lst vs))
            have nlr : lr ≠ sl := fun e => by rw [e, s1012 _ _ nsp hss10] at hlr; cases hlr
            have nlrc := (t12.ne hlr).2
            have sA : SameBut p H10 (upd (upd H12 lr (.lst vs)) tp (.tup [.str w0, .ref lr])) := s1012.trans (Same.but p uu)
            have tA := t12.same uu
            generalize upd (upd H12 lr (.lst vs)) tp (.tup [.str w0, .ref lr]) = H13 at hss12 hlr13 htp13 sA tA ⊢
            have hts13 := hts10.but hkd10 sA
            have hsp13 : Paired (SpAt sl c0 H13) ss rs := Paired.mapP hsp10 fun _ _ h => h.but hkd10 sA
            have hpl13 := sA _ _ nplp hpl10
            refine ⟨rs ++ [(w0, vs)], _, _, rfl, but_at hsl1 (sb10.trans sA), (tA.updL nsp nsc).mono (by omega), hts13.updL nras hss12, (by rw [upd_ne npl]; exact hpl13), ⟨ss ++ [tp], (by rw [upd_same, List.map_append]; rfl), ?_⟩, fun r hr => ?_, (by rw [List.length_append]; show rs.length + 1 ≤ _; omega)⟩
            · exact Paired.append (Paired.mapP hsp13 fun s r h => h.upd hss12) (SpAt.upd hss12 ⟨lr, htp13, hlr13, nlr, nlrc⟩)
            · rcases List.mem_append.mp hr with hr | hr
              · exact hrok r hr
              · rw [List.mem_singleton.mp hr]
                refine ⟨hws _ List.mem_cons_self, by show 1 ≤ vs.length; omega, by show vs.length ≤ 3; omega, ?_, fun v hv => hpm.mem_iff.mp (List.mem_append_left _ hv)⟩
                exact (List.nodup_append.mp (hpm.nodup_iff.mpr (plcs_nodup hm3 hn6))).1
          · refine ifF (decide_eq_false (by omega)) ?_
            exact ⟨rs, _, _, rfl, sb10, t10.mono (by omega), hts10, hpl10, ⟨ss, hss10, hsp10⟩, hrok, by omega⟩
        · rintro σ H9 ⟨rs, o9, o10, rfl, sb9, t9, hts9, hpl9, hspr9, hrok, hrl⟩
          rw [hcn] at t9 hrl
          have hr4 : rs.length ≤ 4 := by omega
          have t9' := t9.mono (show i * 5000 + 400 + 50 * cnt ≤ i * 5000 + 700 by omega)
          have tb9 : Tabs (TS K) H9 := by
            obtain ⟨k1, e1⟩ := t1.dict
            exact Tabs.but tb1 sb9 e1
          clear t9 hpl9 sb9 hts8 hsl8 hpl8 sb18 t8 t3 t2
          show tSeq _ _ _ [some (.ref a), some (.ref p), some (.int (0 + (i : Int))), some (.int (m : Int)), some (.int (z.length : Int)), some (.str z), some (.ref ra), some (.ref pl), some (.ref sl), o9, o10, o11, o12, o13, o14, o15, o16, o17, o18, o19, o20, o21] H9
          obtain ⟨rta, hra9, hrt9⟩ := hts9
          obtain ⟨ss, hss9, hsp9⟩ := hspr9
          have hdT9 : DpAll K H9 (rta.map V.ref) (ts.map tieD) := dpAll_pair hrt9 fun a t ht h => by
            obtain ⟨k1, k2, _⟩ := tie_ok hm3 hn6 (hR1 t ht)
            exact tieD_dp h k1 k2
          have hdS9 : DpAll K H9 (ss.map V.ref) (rs.map budLD) := dpAll_pair hsp9 fun a r hr h => budLD_dp h fun v hv => ((row_bud hm3 hn6 (hrok r hr)).2 v hv).1
          have hTO : TiesOk K H9 m z.length (.ref ra) ts := tiesOk_of hm3 hn6 (.inl (SqL.of hra9)) hdT9 (pair_map (F := fun d t => seqD d = some (tieL t)) (f := tieD) (fun t => rfl) ts) hR1 hR2 (by omega)
          have hBO : BudsOk K H9 m z.length (.ref sl) rs := budsOk_of hm3 hn6 (.inl (SqL.of hss9)) hdS9 (pair_map (F := BudF) (f := budLD) (fun r => ⟨_, rfl, rfl⟩) rs) hrok hr4
          refine ⟨_, rfl, _, rfl, _, rfl, _, rfl, fun x dx hx9 hdx9 hne9 => mk_piece hx9 hdx9 hne9 hm3 hn6 hzb hTO hBO fun H10 ys s10 hys hyp hP10 => ?_⟩
          have L10 : Lw K p c0 ra sl x (i * 5000 + 700) m z ts rs ys H10 := ⟨t9'.same s10, tb9.ext s10, TsAt.same s10 ⟨rta, hra9, hrt9⟩, SprAt.same s10 ⟨ss, hss9, hsp9⟩, hP10⟩
          clear hTO hBO hdT9 hdS9 hrt9 hra9 hss9 hsp9 t9' tb9
          have hLay : Lay ys rs := lay_of hm3 hn6 hR1 hys hrok
          dsimp only [gName]
          show tSeq _ _ _ [some (.ref a), some (.ref p), some (.int (0 + (i : Int))), some (.int (m : Int)), some (.int (z.length : Int)), some (.str z), some (.ref ra), some (.ref pl), some (.ref sl), o9, o10, some (.ref x), o12, o13, o14, o15, o16, o17, o18, o19, o20, o21] H10
          refine ⟨_, rfl, sl, rfl, ?_⟩
          obtain ⟨ss, hss10, hsp10⟩ := L10.spr
          have hssl : ss.length = rs.length := Paired.length hsp10
          refine ⟨⟨_, SqL.of hss10⟩, fun D2 hD2 => ?_⟩
          refine lc_any (xs := ss.map V.ref) (fun j H11 => Same H10 H11 ∧ ∃ das : List Addr, H11 D2 = some (.lst (das.map V.ref)) ∧ das.length = j ∧ Paired (BudT K H11) das (rs.take j)) ⟨same_upd hD2, [], by rw [upd_same]; rfl, rfl, .nil⟩ (fun j H11 hj ⟨s11, _⟩ => gat_list hj (SqL.of (s11 _ _ hss10))) ?_ ?_
          · rintro j xx H11 hx ⟨s11, das, hD11, hdl, hdp⟩
            have hjl := (List.getElem?_eq_some_iff.mp hx).1
            rw [List.length_map] at hjl
            rw [List.getElem?_map] at hx
            obtain ⟨s0, hs0, rfl⟩ := Option.map_eq_some_iff.mp hx
            obtain ⟨r, hr, q, g1, g2, _⟩ := pgetL hsp10 hs0
            refine ⟨s0, _, rfl, SqT.of (s11 _ _ g1), rfl, _, _, rfl, _, _, rfl, rfl, rfl, ?_⟩
            refine ⟨_, rfl, _, rfl, q, r.2, rfl, .inl ⟨SqL.of (s11 _ _ g2), fun l hl => ?_⟩⟩
            have ul := same_upd (o := .tup r.2) hl
            have hl2 := upd_same (H := H11) (a := l) (o := .tup r.2)
            generalize upd H11 l (.tup r.2) = H12 at ul hl2 ⊢
            refine ⟨Nat.le_of_ble_eq_true rfl, fun t ht => ?_⟩
            have ut := same_upd (o := .tup [.str r.1, .ref l]) ht
            have hD12 := ut _ _ (ul _ _ hD11)
            refine ⟨_, hD12, (by rw [List.length_map, sizeLine_eq]; omega), same_new hD2 (s11.trans (ul.trans ut)), das ++ [t], (by rw [upd_same, List.map_append]; rfl), (by rw [List.length_append, hdl]; rfl), ?_⟩
            rw [take_at1 hr]
            exact Paired.append (Paired.mapP hdp fun t' r' h' => BudT.updL hD12 (h'.same (ul.trans ut))) (BudT.updL hD12 ⟨l, upd_same, Same.seqT ut (SqT.of hl2)⟩)
          · rintro H11 ⟨s11, das, hD11, hdl, hdp⟩
            rw [List.length_map, hssl, List.take_length] at hdp
            have L11 := L10.same s11
            have hDu : DueAt K H11 D2 rs := ⟨das, hD11, hdp⟩
            clear hdp hD11 hsp10 hss10 s11 L10 hD2
            dsimp only [gName]
            show tSeq _ _ _ [some (.ref a), some (.ref p), some (.int (0 + (i : Int))), some (.int (m : Int)), some (.int (z.length : Int)), some (.str z), some (.ref ra), some (.ref pl), some (.ref sl), o9, o10, some (.ref x), some (.ref D2), o13, o14, o15, o16, o17, o18, o19, o20, o21] H11
            obtain ⟨dx1, t1', b1', tas, bas, g1, g2, g3, g4, g5⟩ := L11.pce
            refine ⟨_, rfl, x, _, dx1, _, _, rfl, g1, T.cl_Piece, T.n_Piece_mouth, rfl, _, rfl, x, _, dx1, _, _, rfl, g1, T.cl_Piece, T.n_Piece_letters, rfl, _, rfl, x, _, dx1, _, _, rfl, g1, T.cl_Piece, T.n_Piece_ties, rfl, _, rfl, x, _, dx1, _, _, rfl, g1, T.cl_Piece, T.n_Piece_buds, rfl, Nat.le_of_ble_eq_true rfl, fun sh hsh => ?_⟩
            have ush := same_upd (o := .tup [.int (m : Int), .str z, .ref t1', .ref b1']) hsh
            have hS12 : ShAt K (upd H11 sh (.tup [.int (m : Int), .str z, .ref t1', .ref b1'])) sh x m z := ⟨dx1, t1', b1', ush _ _ g1, upd_same⟩
            have L12 := L11.same ush
            have hDu12 := hDu.same ush
            clear L11 hDu g1 g2 g3 g4 g5
            generalize upd H11 sh (.tup [.int (m : Int), .str z, .ref t1', .ref b1']) = H12 at ush hS12 L12 hDu12 ⊢
            dsimp only [gName]
            show tSeq _ _ _ [some (.ref a), some (.ref p), some (.int (0 + (i : Int))), some (.int (m : Int)), some (.int (z.length : Int)), some (.str z), some (.ref ra), some (.ref pl), some (.ref sl), o9, o10, some (.ref x), some (.ref D2), some (.ref sh), o14, o15, o16, o17, o18, o19, o20, o21] H12
            have hndy : (ys.map kt).Nodup := by
              have p1 := (hys.map kt).nodup_iff
              rw [List.map_map, show (kt ∘ nrm) = kt from funext kt_nrm] at p1
              exact p1.mpr hR2
            have hshp := sh_lay (m := m) hzc hLay
            refine if_noS (fun H13 => Lw K p c0 ra sl x (i * 5000 + 700) m z ts rs ys H13 ∧ DueAt K H13 D2 rs ∧ ShAt K H13 sh x m z) (fun Q1 k1 => ?_) (fun H13 ⟨L13, hDu13, hS13⟩ => ?_)
            · refine ⟨_, rfl, _, rfl, _, rfl, _, rfl, ra, m, z.length, ts, rfl, L12.rop, hm3, hn6, ⟨hR1, hR2, hR3⟩, fun oq ors oys H13 s13 hoq hoq13 hop hoperm hosort => ?_⟩
              have L13 := L12.same s13
              have hDu13 := hDu12.same s13
              have hS13 := hS12.same s13
              have eys : oys = ys := by
                refine lex_one (hoperm.trans hys.symm) ?_ hosort hyp
                have p1 := (hoperm.map kt).nodup_iff
                rw [List.map_map, show (kt ∘ nrm) = kt from funext kt_nrm] at p1
                exact p1.mpr hR2
              subst eys
              obtain ⟨das, hd13, hdp13⟩ := hDu13
              refine ⟨_, rfl, D2, _, rfl, .inl ⟨SqL.of hd13, fun tq htq => ?_⟩⟩
              have utq := same_upd (o := .tup (das.map V.ref)) htq
              have htq14 := upd_same (H := H13) (a := tq) (o := .tup (das.map V.ref))
              generalize upd H13 tq (.tup (das.map V.ref)) = H14 at utq htq14 ⊢
              refine ⟨Nat.le_of_ble_eq_true rfl, fun t4 ht4 => ?_⟩
              have ut4 := same_upd (o := .tup [.int (m : Int), .str z, .ref oq, .ref tq]) ht4
              have uA := utq.trans ut4
              have d1 := sh_dp (L13.same uA).pce (hS13.same uA) hLay
              have d2 : Dp K (upd H14 t4 (.tup [.int (m : Int), .str z, .ref oq, .ref tq])) (.ref t4) (shD m z oys rs) := .tup (SqT.of upd_same) (.cons (.int _) (.cons (.str _) (.cons (hLay.ties (uA _ _ hoq13) (Paired.mapP hop fun _ _ h => uA _ _ h)) (.cons (hLay.buds (ut4 _ _ htq14) (Paired.mapP hdp13 fun _ _ h => h.same uA)) .nil))))
              refine ne_same d1 d2 hshp ⟨_, rfl, k1 _ ⟨L13.same uA, DueAt.same uA ⟨das, hd13, hdp13⟩, hS13.same uA⟩⟩
            · obtain ⟨das, hd13, hdp13⟩ := hDu13
              refine ⟨_, rfl, D2, _, rfl, .inl ⟨SqL.of hd13, fun tq htq => ?_⟩⟩
              have utq := same_upd (o := .tup (das.map V.ref)) htq
              have htq14 := upd_same (H := H13) (a := tq) (o := .tup (das.map V.ref))
              generalize upd H13 tq (.tup (das.map V.ref)) = H14 at utq htq14 ⊢
              have L14 := L13.same utq
              have hDu14 : DueAt K H14 D2 rs := DueAt.same utq ⟨das, hd13, hdp13⟩
              have hdp14 : Paired (BudT K H14) das rs := Paired.mapP hdp13 fun _ _ h => h.same utq
              have hS14 := hS13.same utq
              clear L13 L12 hDu12 hS12 ush hsh hS13 hd13 hdp13 utq htq
              obtain ⟨rta, hra14, hrt14⟩ := L14.rop
              have hrl14 : rta.length = ts.length := Paired.length hrt14
              refine ⟨_, rfl, ra, _, rfl, SqL.of hra14, fun rv hrv => ?_⟩
              have urv := same_upd (o := .lst (rta.map V.ref).reverse) hrv
              have hrv15 : (upd H14 rv (.lst (rta.map V.ref).reverse)) rv = some (.lst (rta.reverse.map V.ref)) := by rw [upd_same, List.map_reverse]
              generalize upd H14 rv (.lst (rta.map V.ref).reverse) = H15 at urv hrv15 ⊢
              have hrt15 : Paired (TieL H15) rta.reverse ts.reverse := paired_rev (Paired.mapP hrt14 fun _ _ h => urv _ _ h)
              refine ⟨rv, rfl, ⟨_, SqL.of hrv15⟩, fun D3 hD3 => ?_⟩
              refine lc_any (xs := rta.reverse.map V.ref) (fun j H16 => Same H15 H16 ∧ ∃ las : List Addr, H16 D3 = some (.lst (las.map V.ref)) ∧ las.length = j ∧ Paired (fun l t => H16 l = some (.lst [t.1, t.2.1, .int t.2.2]) ∧ l ≠ D3) las (ts.reverse.take j)) ⟨same_upd hD3, [], by rw [upd_same]; rfl, rfl, .nil⟩ (fun j H16 hj ⟨s16, _⟩ => gat_list hj (SqL.of (s16 _ _ hrv15))) ?_ ?_
              · rintro j xx H16 hx ⟨s16, las, hD16, hll, hlp⟩
                have hjl := (List.getElem?_eq_some_iff.mp hx).1
                rw [List.length_map, List.length_reverse] at hjl
                rw [List.getElem?_map] at hx
                obtain ⟨r0, hr0, rfl⟩ := Option.map_eq_some_iff.mp hx
                obtain ⟨t, ht, htl⟩ := pgetL hrt15 hr0
                refine ⟨rfl, _, rfl, r0, _, rfl, .inr (SqT.of (s16 _ _ htl)), fun l hl => ?_⟩
                have ul := same_upd (o := .lst [t.1, t.2.1, .int t.2.2]) hl
                have hD17 := ul _ _ hD16
                have nlD : l ≠ D3 := fun e => by rw [e, hD16] at hl; cases hl
                refine ⟨_, hD17, (by rw [List.length_map, sizeLine_eq]; omega), same_new hD3 (s16.trans ul), las ++ [l], (by rw [upd_same, List.map_append]; rfl), (by rw [List.length_append, hll]; rfl), ?_⟩
                rw [take_at1 ht]
                refine Paired.append (Paired.mapP hlp fun l' t' h' => ⟨?_, h'.2⟩) ⟨?_, nlD⟩
                · rw [upd_ne h'.2]; exact ul _ _ h'.1
                · rw [upd_ne nlD]; exact upd_same
              · rintro H16 ⟨s16, las, hD16, hll, hlp⟩
                rw [List.length_map, List.length_reverse, hrl14, ← List.length_reverse (as := ts), List.take_length] at hlp
                have s1416 := urv.trans s16
                have L16 := L14.same s1416
                have hDu16 := hDu14.same s1416
                have hS16 := hS14.same s1416
                have hdT16 : DpAll K H16 (las.map V.ref) (ts.reverse.map tieLD) := dpAll_pair hlp fun a t ht h => by
                  obtain ⟨k1, k2, _⟩ := tie_ok hm3 hn6 (hR1 t (List.mem_reverse.mp ht))
                  exact .lst (SqL.of h.1) (.cons k1.dp (.cons k2.dp (.cons (.int _) .nil)))
                have hdB16 : DpAll K H16 (das.map V.ref) (rs.map budD) := dpAll_pair (Paired.mapP hdp14 fun _ _ h => BudT.same s1416 h) fun a r hr h => budD_dp h fun v hv => ((row_bud hm3 hn6 (hrok r hr)).2 v hv).1
                have hTO : TiesOk K H16 m z.length (.ref D3) ts.reverse := tiesOk_of hm3 hn6 (.inl (SqL.of hD16)) hdT16 (pair_map (F := fun d t => seqD d = some (tieL t)) (f := tieLD) (fun t => rfl) _) (fun t ht => hR1 t (List.mem_reverse.mp ht)) (by rw [List.map_reverse]; exact (List.reverse_perm _).nodup_iff.mpr hR2) (by rw [List.length_reverse]; omega)
                have hBO : BudsOk K H16 m z.length (.ref tq) rs := budsOk_of hm3 hn6 (.inr (SqT.of (s1416 _ _ htq14))) hdB16 (pair_map (F := BudF) (f := budD) (fun r => ⟨_, rfl, rfl⟩) rs) hrok hr4
                refine ⟨_, rfl, _, rfl, rfl, rfl, fun x2 dx2 hx2 hdx2 hne2 => mk_piece hx2 hdx2 hne2 hm3 hn6 hzb hTO hBO fun H17 ys2 s17 hys2 hyp2 hP17 => ?_⟩
                have eys : ys2 = ys := by
                  refine lex_one (hys2.trans (((List.reverse_perm ts).map nrm).trans hys.symm)) ?_ hyp2 hyp
                  exact ((hys2.trans (((List.reverse_perm ts).map nrm).trans hys.symm)).map kt).nodup_iff.mpr hndy
                subst eys
                have L17 := L16.same s17
                have hDu17 := hDu16.same s17
                have hS17 := hS16.same s17
                clear hTO hBO hdT16 hdB16 L16 hDu16 hS16 s17 s1416 hlp hD16 s16 hrt15 hrv15 urv hrt14 hra14 hdp14 hDu14 hS14 L14 htq14 hD3 hrv
                dsimp only [gName]
                show tSeq _ _ _ [some (.ref a), some (.ref p), some (.int (0 + (i : Int))), some (.int (m : Int)), some (.int (z.length : Int)), some (.str z), some (.ref ra), some (.ref pl), some (.ref sl), o9, o10, some (.ref x), some (.ref D2), some (.ref sh), some (.ref x2), o15, o16, o17, o18, o19, o20, o21] H17
                refine if_noS (fun H18 => Lw K p c0 ra sl x (i * 5000 + 700) m z ts rs ys2 H18 ∧ ShAt K H18 sh x m z) (fun Q1 k1 => ?_) (fun H18 ⟨L18, hS18⟩ => ?_)
                · obtain ⟨dxa, fsa, hins2⟩ := hP17.ins
                  obtain ⟨dxb, fsb, hins⟩ := L17.pce.ins
                  obtain ⟨dxs, tts, bbs, hsx, hsh17⟩ := id hS17
                  refine ⟨_, rfl, _, rfl, x2, dxa, fsa, _, rfl, hins2, L17.pce.ty T, nf_piece, x2, _, rfl, .inr ⟨x, m, m, z, z, ys2, ys2, rs, rs, rfl, hP17, L17.pce, .inl ⟨rfl, rfl, rfl, rfl, hLay, _, rfl, _, rfl, ifF rfl ?_⟩⟩⟩
                  refine ⟨_, rfl, _, rfl, x, dxb, fsb, _, rfl, hins, ty_tup (SqT.of hsh17), nf_ty T.t1_Piece_tuple, x, _, rfl, .inl ⟨_, ty_tup (SqT.of hsh17), T.k_Piece_tuple, _, rfl, ifF rfl ?_⟩⟩
                  refine ⟨_, rfl, _, _, rfl, rfl, _, rfl, ?_⟩
                  by_cases hz0 : 0 < z.length
                  · refine ifT (decide_eq_true (by omega)) ?_
                    obtain ⟨w1, w2, w3⟩ := twist_ok hz0 hn6 hzc
                    obtain ⟨das, hd17, hdp17⟩ := hDu17
                    obtain ⟨rta, hra17, hrt17⟩ := L17.rop
                    have hdT17 : DpAll K H17 (rta.map V.ref) (ts.map tieD) := dpAll_pair hrt17 fun a t ht h => by
                      obtain ⟨k1, k2, _⟩ := tie_ok hm3 hn6 (hR1 t ht)
                      exact tieD_dp h k1 k2
                    have hdB17 : DpAll K H17 (das.map V.ref) (rs.map budD) := dpAll_pair hdp17 fun a r hr h => budD_dp h fun v hv => ((row_bud hm3 hn6 (hrok r hr)).2 v hv).1
                    have hTO : TiesOk K H17 m (twist z).length (.ref ra) ts := by
                      rw [w1]
                      exact tiesOk_of hm3 hn6 (.inl (SqL.of hra17)) hdT17 (pair_map (F := fun d t => seqD d = some (tieL t)) (f := tieD) (fun t => rfl) _) hR1 hR2 (by omega)
                    have hBO : BudsOk K H17 m (twist z).length (.ref D2) rs := by
                      rw [w1]
                      exact budsOk_of hm3 hn6 (.inl (SqL.of hd17)) hdB17 (pair_map (F := BudF) (f := budD) (fun r => ⟨_, rfl, rfl⟩) rs) hrok hr4
                    refine ⟨_, rfl, _, rfl, _, rfl, 1, rfl, noPart ⟨z, rfl, szS (by omega), _, _, rfl, rfl, (by
                      have := cutS_length z (some 1) none
                      have e1 : ("q" : Str).length = 1 := by decide +kernel
                      rw [sizeLine_eq, e1]
                      omega), _, rfl, _, rfl, fun x3 dx3 hx3 hdx3 hne3 => mk_piece (z := twist z) hx3 hdx3 hne3 hm3 (by omega) w2 hTO hBO fun H18 ys3 s18 hys3 hyp3 hP18 => ?_⟩⟩
                    have L18 := L17.same s18
                    obtain ⟨dxc, fsc, hins18⟩ := L18.pce.ins
                    exact ⟨x, dxc, fsc, _, rfl, hins18, hP18.ty T, nf_piece, x, _, rfl, .inr ⟨x3, m, m, z, twist z, ys2, ys3, rs, rs, rfl, L18.pce, hP18, .inr ⟨.inr w3, _, rfl, k1 _ ⟨L18, hS17.same s18⟩⟩⟩⟩
                  · refine ifF (decide_eq_false (by omega)) ?_
                    exact k1 _ ⟨L17, hS17⟩
                · clear L17 hDu17 hS17 hP17 hys2 hyp2
                  refine ⟨_, rfl, _, rfl, _, rfl, _, rfl, Nat.le_of_ble_eq_true rfl, fun P0 hP0 => ?_⟩
                  have uP0 := same_upd (o := .tup [.int (m : Int), .str z, .ref ra, .ref sl]) hP0
                  have hP019 := upd_same (H := H18) (a := P0) (o := .tup [.int (m : Int), .str z, .ref ra, .ref sl])
                  generalize upd H18 P0 (.tup [.int (m : Int), .str z, .ref ra, .ref sl]) = H19 at uP0 hP019 ⊢
                  have L19 := L18.same uP0
                  have hS19 := hS18.same uP0
                  refine ⟨Nat.zero_le _, fun Wl hWl => ⟨Nat.le_of_ble_eq_true rfl, fun T0 hT0 => ?_⟩⟩
                  have uW := same_upd (o := .lst []) hWl
                  have uT := same_upd (o := .tup [.ref P0, .ref Wl]) hT0
                  have hW20 := uT _ _ (upd_same (H := H19) (a := Wl) (o := .lst []))
                  refine ⟨T0, _, rfl, SqT.of upd_same, rfl, _, _, rfl, _, _, rfl, rfl, ?_⟩
                  have s1920 := uW.trans uT
                  generalize upd (upd H19 Wl (.lst [])) T0 (.tup [.ref P0, .ref Wl]) = H20 at hW20 s1920 ⊢
                  obtain ⟨rta, hra19, hrt19⟩ := L19.rop
                  obtain ⟨ss, hss19, hsp19⟩ := L19.spr
                  have hdT19 : DpAll K H19 (rta.map V.ref) (ts.map tieD) := dpAll_pair hrt19 fun a t ht h => by
                    obtain ⟨k1, k2, _⟩ := tie_ok hm3 hn6 (hR1 t ht)
                    exact tieD_dp h k1 k2
                  have hdS19 : DpAll K H19 (ss.map V.ref) (rs.map budLD) := dpAll_pair hsp19 fun a r hr h => budLD_dp h fun v hv => ((row_bud hm3 hn6 (hrok r hr)).2 v hv).1
                  have PA19 : PartsAt K H19 P0 (.int (m : Int)) (.str z) (ts.map tieD) (rs.map budLD) := ⟨_, _, ra, sl, _, _, hP019, .int _, .str z, hra19, hdT19, hss19, hdS19⟩
                  have hWp := (L19.pen.ne hWl).1
                  have hGood : Good m z.length (ts.map tieD) := ⟨ts, rfl, hR1, hR2, hR3⟩
                  have hsmT : ∀ d ∈ ts.map tieD, smT d = true ∧ tup2B d = true := fun d hd => by
                    obtain ⟨t, ht, rfl⟩ := List.mem_map.mp hd
                    exact ⟨(tieD_good hm3 hn6 (hR1 t ht)).2.2.2, rfl⟩
                  have hsmB : ∀ d ∈ rs.map budLD, smB d = true := fun d hd => by
                    obtain ⟨r, hr, rfl⟩ := List.mem_map.mp hd
                    exact (bud_sm hm3 hn6 (hrok r hr) ⟨_, rfl, rfl⟩).1
                  clear hdT19 hdS19 hrt19 hsp19 hT0 uT uW hP019 uP0 hP0 L18 hS18
                  have L20 := L19.same s1920
                  show tSeq _ _ _ [some (.ref a), some (.ref p), some (.int (0 + (i : Int))), some (.int (m : Int)), some (.int (z.length : Int)), some (.str z), some (.ref ra), some (.ref pl), some (.ref sl), o9, o10, some (.ref x), some (.ref D2), some (.ref sh), some (.ref x2), some (.ref P0), some (.ref Wl), o17, o18, o19, o20, o21] H20
                  refine ⟨_, rfl, p, c0, _, 2, rfl, L20.pen, by omega, lim_small (by decide) (by decide), fun e2 H21 he2 s21 t21 => i0 (v := .int ((1 + e2 : Nat) : Int)) (congrArg V.int (by omega)) ⟨((1 + e2 : Nat) : Int), rfl, by omega, by omega, ?_⟩⟩
                  have hW21 := s21 _ _ hWp hW20
                  have sb21 : SameBut p H19 H21 := (Same.but p s1920).trans s21
                  refine for_range (lo := 0) (n := ((1 + e2 : Nat) : Int).toNat) (fun j σ H22 => ∃ (ws : List Nat) (P1 : Addr) (d0 d1 : PyData) (ds sds : List PyData) (o9 : Option V), σ = [some (.ref a), some (.ref p), some (.int (0 + (i : Int))), some (.int (m : Int)), some (.int (z.length : Int)), some (.str z), some (.ref ra), some (.ref pl), some (.ref sl), o9, o10, some (.ref x), some (.ref D2), some (.ref sh), some (.ref x2), some (.ref P1), some (.ref Wl), o17, o18, o19, o20, o21] ∧ SameBut p H19 H22 ∧ PenOk H22 p c0 (i * 5000 + 710 + 20 * j) ∧ H22 Wl = some (.lst (ws.map fun w : Nat => V.int (w : Int))) ∧ ws.length = j ∧ (∀ w ∈ ws, w < 4) ∧ PartsAt K (del H22 Wl) P1 d0 d1 ds sds ∧ StW m z (ts.map tieD) (rs.map budLD) ws d0 d1 ds sds)
                    ⟨[], P0, _, _, _, _, _, rfl, sb21, t21.mono (by omega), hW21, rfl, (fun _ h => nomatch h), ?_, ⟨rfl, rfl, rfl, rfl⟩⟩ ?_ ?_
                  · obtain ⟨k19, hk19⟩ := L19.pen.dict
                    have := PartsAt.but (p := p) (k := k19) (by rw [del_at hWp.symm]; exact hk19) (but_del Wl sb21) (by rw [del_none hWl]; exact PA19)
                    exact this
                  · rintro j σ H22 hj ⟨ws, P1, d0, d1, ds, sds, o9, rfl, sb22, t22, hW22, hwl, hw4, PA22, hst⟩
                    have hj2 : j < 1 + e2 := hj
                    obtain ⟨kd22, hkd22⟩ := t22.dict
                    refine ⟨_, rfl, .inl ⟨rfl, _, SqL.of hW22⟩, _, rfl, p, c0, _, 4, rfl, t22, by omega, lim_small (by decide) (by decide), fun w H23 hw s23 t23 => ⟨Wl, _, _, rfl, rfl, s23 _ _ hWp hW22, (by rw [List.length_map, sizeLine_eq]; omega), ?_⟩⟩
                    have hWc : Wl ≠ c0 := (L19.pen.ne hWl).2
                    have sb24 : SameBut p H19 (upd H23 Wl (.lst (ws.map (fun w : Nat => V.int (w : Int)) ++ [.int (w : Int)]))) := but_at hWl (sb22.trans s23)
                    have t24 := t23.updL (o := .lst (ws.map (fun w : Nat => V.int (w : Int)) ++ [.int (w : Int)])) hWp hWc
                    have PA24 : PartsAt K (del (upd H23 Wl (.lst (ws.map (fun w : Nat => V.int (w : Int)) ++ [.int (w : Int)]))) Wl) P1 d0 d1 ds sds := by
                      rw [del_updW]
                      exact PA22.but (p := p) (k := kd22) (by rw [del_at hWp.symm]; exact hkd22) (but_del Wl s23)
                    have hW24 := upd_same (H := H23) (a := Wl) (o := HO.lst (ws.map (fun w : Nat => V.int (w : Int)) ++ [.int (w : Int)]))
                    generalize upd H23 Wl (.lst (ws.map (fun w : Nat => V.int (w : Int)) ++ [.int (w : Int)])) = H24 at sb24 t24 PA24 hW24 ⊢
                    have hi24 : (H24 Wl).isSome = true := by rw [hW24]; rfl
                    have hrs10 : (rs.map budLD).length ≤ 10 := by rw [List.length_map]; omega
                    have hts200 : (ts.map tieD).length ≤ 200 := by rw [List.length_map]; omega
                    rcases ws with _ | ⟨w1, _ | ⟨w2, ws⟩⟩
                    · obtain ⟨rfl, rfl, rfl, rfl⟩ := hst
                      have hj0 : j = 0 := hwl.symm
                      subst hj0
                      refine ⟨_, rfl, Wl, _, rfl, .inl (SqL.of hW24), tcI ⟨rfl, _, rfl, ifT (weq rfl) (ifT rfl ?_)⟩⟩
                      refine ⟨_, rfl, _, rfl, 1, rfl, Wl, _, _, _, rfl, rfl, SqL.of hW24, rfl, _, rfl, p, c0, P1, Wl, _, w, m, z, _, _, rfl, hi24, hWp, t24, by omega, by omega, hm3, hn6, PA24, hts200, hrs10, hsmT, .inl hGood, fun H25 P' d0 d1 ds' sds' s25 t25 hP' PA25 hB => ?_⟩
                      exact ⟨[w], P', d0, d1, ds', sds', _, rfl, sb24.trans s25, t25.mono (by omega), s25 _ _ hWp hW24, rfl, (fun v hv => by rw [List.mem_singleton.mp hv]; omega), PA25, hB⟩
                    · have hj1 : j = 1 := hwl.symm
                      subst hj1
                      have hB1 : Bent m z (ts.map tieD) (rs.map budLD) w1 d0 d1 ds sds := hst
                      have hw1 := hw4 w1 List.mem_cons_self
                      have hall : ∀ v ∈ [w1, w], v < 4 := fun v hv => by
                        rcases List.mem_cons.mp hv with rfl | hv
                        · exact hw1
                        · rw [List.mem_singleton.mp hv]; omega
                      refine ⟨_, rfl, Wl, _, rfl, .inl (SqL.of hW24), tcI ⟨rfl, _, rfl, ifF (wne (show (2 : Int) ≠ 1 by decide)) ?_⟩⟩
                      refine ⟨_, rfl, tcI ⟨Wl, _, _, _, rfl, rfl, SqL.of hW24, rfl, _, _, rfl, rfl, _, rfl, ?_⟩⟩
                      by_cases hgt : 1 < w1
                      · refine ifT (decide_eq_true (by omega)) ?_
                        obtain ⟨e0, e1, hg2, hl2, hs2, hsm2⟩ := bent_ok (show 2 ≤ w1 from hgt) hB1 hGood (by rw [List.length_map]; omega) (by rw [List.length_map]; omega) hsmT
                        subst e0 e1
                        refine ⟨_, rfl, _, rfl, 1, rfl, Wl, _, _, _, rfl, rfl, SqL.of hW24, rfl, _, rfl, p, c0, P1, Wl, _, w, m, z, _, _, rfl, hi24, hWp, t24, by omega, by omega, hm3, hn6, PA24, hl2, hs2, hsm2, hg2, fun H25 P' d0 d1 ds' sds' s25 t25 hP' PA25 hB => ?_⟩
                        exact ⟨[w1, w], P', d0, d1, ds', sds', _, rfl, sb24.trans s25, t25.mono (by omega), s25 _ _ hWp hW24, rfl, hall, PA25, .inr ⟨hgt, ds, sds, hB1, hB⟩⟩
                      · refine ifF (decide_eq_false (by omega)) ?_
                        exact ⟨_, rfl, [w1, w], P1, d0, d1, ds, sds, _, rfl, sb24, t24.mono (by omega), hW24, rfl, hall, PA24, .inl ⟨by omega, hB1⟩⟩
                    · have : ws.length + 1 + 1 = j := hwl
                      omega
                  · rintro σ H22 ⟨ws, P1, d0, d1, ds, sds, o9, rfl, sb22, t22, hW22, hwl, hw4, PA22, hst⟩
                    have hwl' : ws.length = 1 + e2 := hwl
                    have t22' : PenOk H22 p c0 (i * 5000 + 800) := t22.mono (by show i * 5000 + 710 + 20 * (1 + e2) ≤ _; omega)
                    have hrs10 : (rs.map budLD).length ≤ 10 := by rw [List.length_map]; omega
                    have hts200 : (ts.map tieD).length ≤ 200 := by rw [List.length_map]; omega
                    dsimp only
                    show tSeq (tAsg _ _) _ _ [some (.ref a), some (.ref p), some (.int (0 + (i : Int))), some (.int (m : Int)), some (.int (z.length : Int)), some (.str z), some (.ref ra), some (.ref pl), some (.ref sl), o9, o10, some (.ref x), some (.ref D2), some (.ref sh), some (.ref x2), some (.ref P1), some (.ref Wl), o17, o18, o19, o20, o21] H22
                    refine seq_via (fun v H' => H' = H22 ∧ ∃ f : Nat, v = .int (f : Int) ∧ f < 4 ∧ Fin m z f d0 d1 ds sds) (fun Q' hQ' => ?_) ?_
                    · rcases ws with _ | ⟨w1, _ | ⟨w2, _ | ⟨w3, ws⟩⟩⟩
                      · have : 0 = 1 + e2 := hwl'
                        omega
                      · refine ⟨_, rfl, Wl, _, rfl, .inl (SqL.of hW22), tcI ⟨rfl, _, rfl, ifT (weq rfl) (ifT rfl ⟨_, rfl, tcI ⟨Wl, _, _, _, rfl, rfl, SqL.of hW22, rfl, ?_⟩⟩)⟩⟩
                        exact hQ' _ _ ⟨rfl, w1, rfl, hw4 w1 List.mem_cons_self, fin1 hst hGood hts200 hsmB hrs10⟩
                      · refine ⟨_, rfl, Wl, _, rfl, .inl (SqL.of hW22), tcI ⟨rfl, _, rfl, ifF (wne (show (2 : Int) ≠ 1 by decide)) ?_⟩⟩
                        refine ⟨_, rfl, tcI ⟨Wl, _, _, _, rfl, rfl, SqL.of hW22, rfl, _, _, rfl, rfl, _, rfl, ?_⟩⟩
                        have hw1 := hw4 w1 List.mem_cons_self
                        have hw2 := hw4 w2 (List.mem_cons_of_mem _ List.mem_cons_self)
                        by_cases h1 : w1 ≤ 1
                        · refine ifT (decide_eq_true (by omega)) ⟨_, rfl, tcI ⟨Wl, _, _, _, rfl, rfl, SqL.of hW22, rfl, ?_⟩⟩
                          rcases hst with ⟨_, hB⟩ | ⟨h2, _⟩
                          · exact hQ' _ _ ⟨rfl, w1, rfl, hw1, fin1 hB hGood hts200 hsmB hrs10⟩
                          · omega
                        · refine ifF (decide_eq_false (by omega)) ?_
                          refine ⟨_, rfl, tcI ⟨Wl, _, _, _, rfl, rfl, SqL.of hW22, rfl, .inl ⟨_, rfl, _, rfl, tcI ⟨Wl, _, _, _, rfl, rfl, SqL.of hW22, rfl, .inl ⟨_, rfl, _, _, rfl, ?_⟩⟩⟩⟩⟩
                          rcases hst with ⟨h2, _⟩ | ⟨h2, ds1, sds1, hB1, hB2⟩
                          · omega
                          · rw [min_cast]
                            exact hQ' _ _ ⟨rfl, min w1 w2, rfl, by omega, fin2 h2 hB1 hGood hts200 hsmB hrs10 (fun d hd => (hsmT d hd).1) hB2⟩
                      · have : ws.length + 1 + 1 + 1 = 1 + e2 := hwl'
                        omega
                    · rintro v H' ⟨rfl, f, rfl, hf4, hFin⟩
                      obtain ⟨kd19, hkd19⟩ := L19.pen.dict
                      have L22 : Lw K p c0 ra sl x (i * 5000 + 800) m z ts rs ys2 H' := L19.but sb22 t22'
                      have hS22 := hS19.but hkd19 sb22
                      have PB22 : PartsAt K H' P1 d0 d1 ds sds := PA22.same del_same
                      clear PA22 hst hsmT hsmB hGood hts200 hrs10 hW22 hwl hwl' t22 t22' hw4 sb22 sb21 s21 t21 hW21 L20 s1920 hW20 L19 hS19 PA19 hra19 hss19
                      dsimp only [gName]
                      show tSeq _ _ _ [some (.ref a), some (.ref p), some (.int (0 + (i : Int))), some (.int (m : Int)), some (.int (z.length : Int)), some (.str z), some (.ref ra), some (.ref pl), some (.ref sl), o9, o10, some (.ref x), some (.ref D2), some (.ref sh), some (.ref x2), some (.ref P1), some (.ref Wl), some (.int (f : Int)), o18, o19, o20, o21] H'
                      refine ⟨L22.tab, fun H23 x23 tb23 => ?_⟩
                      have L23 := L22.extN x23 tb23
                      have hS23 := hS22.extN x23
                      obtain ⟨v0, v1, rl', sl', rvs, svs, g1, g2, g3, g4, g5, g6, g7⟩ := PB22.extN x23
                      clear L22 hS22 PB22
                      refine ⟨_, rfl, tcI ⟨P1, _, _, _, rfl, rfl, SqT.of g1, rfl, _, rfl, tcI ⟨P1, _, _, _, rfl, rfl, SqT.of g1, rfl, _, rfl, tcI ⟨P1, _, _, _, rfl, rfl, SqT.of g1, rfl, _, rfl, tcI ⟨P1, _, _, _, rfl, rfl, SqT.of g1, rfl, fun x5 dx5 hx5 hdx5 hne5 => ?_⟩⟩⟩⟩⟩
                      refine refuse hm3 hn6 hzb hx5 hdx5 hne5 g2 g3 g4 g5 g6 g7 hFin fun dd H24 hdd s24 => ⟨rfl, dd, fieldOf f, rfl, hdd, ?_⟩
                      have L24 := L23.same s24
                      have hS24 := hS23.same s24
                      clear L23 hS23 g1 g2 g3 g4 g5 g6 g7 s24
                      dsimp only [gName]
                      show tSeq _ _ _ [some (.ref a), some (.ref p), some (.int (0 + (i : Int))), some (.int (m : Int)), some (.int (z.length : Int)), some (.str z), some (.ref ra), some (.ref pl), some (.ref sl), o9, o10, some (.ref x), some (.ref D2), some (.ref sh), some (.ref x2), some (.ref P1), some (.ref Wl), some (.int (f : Int)), some (.str (fieldOf f)), o19, o20, o21] H24
                      refine if_noS (fun H25 => Lw K p c0 ra sl x (i * 5000 + 800) m z ts rs ys2 H25 ∧ ShAt K H25 sh x m z) (fun Q1 k1 => ?_) (fun H25 ⟨L25, hS25⟩ => ?_)
                      · refine ⟨_, rfl, Nat.le_of_ble_eq_true rfl, fun l hl => ⟨_, rfl, l, _, _, _, rfl, rfl, SqL.of upd_same, atI_nat (field_at hf4), rfl, _, rfl, ?_⟩⟩
                        rw [decide_eq_true rfl]
                        exact k1 _ ⟨L24.same (same_upd hl), hS24.same (same_upd hl)⟩
                      · clear L24 hS24
                        obtain ⟨ss, hss25, hsp25⟩ := L25.spr
                        refine ⟨_, rfl, sl, rfl, ⟨_, SqL.of hss25⟩, for_list (K := K) (a := sl) (xs := ss.map V.ref) (fun j σ H26 => ∃ o19, σ = [some (.ref a), some (.ref p), some (.int (0 + (i : Int))), some (.int (m : Int)), some (.int (z.length : Int)), some (.str z), some (.ref ra), some (.ref pl), some (.ref sl), o9, o10, some (.ref x), some (.ref D2), some (.ref sh), some (.ref x2), some (.ref P1), some (.ref Wl), some (.int (f : Int)), some (.str (fieldOf f)), o19, o20, o21] ∧ PenOk H26 p c0 (i * 5000 + 800) ∧ Tabs (TS K) H26 ∧ PieceAt K H26 x m z ys2 rs ∧ ShAt K H26 sh x m z ∧ H26 sl = some (.lst (ss.map V.ref)) ∧ ∀ s ∈ ss, ∃ w q xs, H26 s = some (.tup [.str w, .ref q]) ∧ H26 q = some (.lst xs) ∧ xs.length ≤ 10 + j ∧ q ≠ sl ∧ q ≠ c0)
                          ⟨_, rfl, L25.pen, L25.tab, L25.pce, hS25, hss25, fun s hs => ?_⟩ (fun j σ H26 _ ⟨_, _, _, _, _, _, h, _⟩ => SqL.of h) ?_ ?_⟩
                        · obtain ⟨j, hj⟩ := List.getElem?_of_mem hs
                          obtain ⟨r, hr, q, g1, g2, g3, g4⟩ := pgetL hsp25 hj
                          exact ⟨r.1, q, r.2, g1, g2, by have := (hrok r (List.mem_of_getElem? hr)).2.2.1; omega, g3, g4⟩
                        · rintro j xx σ H26 hx ⟨o19, rfl, t26, tb26, P26, S26, hss26, hall⟩
                          have hjl := (List.getElem?_eq_some_iff.mp hx).1
                          rw [List.length_map] at hjl
                          have hssl : ss.length ≤ 4 := by rw [Paired.length hsp25]; exact hr4
                          rw [List.getElem?_map] at hx
                          obtain ⟨s0, hs0, rfl⟩ := Option.map_eq_some_iff.mp hx
                          obtain ⟨w, q, xs, g1, g2, g3, g4, g5⟩ := hall s0 (List.mem_of_getElem? hs0)
                          obtain ⟨kd26, hkd26⟩ := t26.dict
                          have nqp : q ≠ p := fun e => by rw [e, hkd26] at g2; cases g2
                          refine ⟨_, rfl, tcI ⟨s0, _, _, _, rfl, rfl, SqT.of g1, rfl, .inl ⟨rfl, _, SqL.of g2⟩, q, _, _, rfl, rfl, g2, (by rw [sizeLine_eq]; omega), ?_⟩⟩
                          refine ⟨_, rfl, t26.updL nqp g5, tabs_updL tb26 g2, P26.updL g2, S26.updL g2, (by rw [upd_ne g4.symm]; exact hss26), fun s hs => ?_⟩
                          obtain ⟨w', q', xs', g1', g2', g3', g4', g5'⟩ := hall s hs
                          by_cases c : q' = q
                          · subst c
                            rw [g2] at g2'
                            cases g2'
                            exact ⟨w', q', _, by rw [upd_ne (fun e => by rw [e, g2] at g1'; cases g1')]; exact g1', upd_same, by rw [List.length_append]; show _ + 1 ≤ _; omega, g4', g5'⟩
                          · exact ⟨w', q', xs', by rw [upd_ne (fun e => by rw [e, g2] at g1'; cases g1')]; exact g1', by rw [upd_ne c]; exact g2', by omega, g4', g5'⟩
                        · rintro σ H26 ⟨o19, rfl, t26, tb26, P26, S26, hss26, hall⟩
                          clear L25 hS25 hss25 hsp25 hall hss26
                          dsimp only
                          refine if_no (fun H27 => PenOk H27 p c0 (i * 5000 + 800) ∧ Tabs (TS K) H27) (fun Q1 k1 => ?_) (fun H27 ⟨t27, tb27⟩ => ?_)
                          · obtain ⟨dx1, t1', b1', tas, bas, g1, g2, g3, g4, g5⟩ := id P26
                            refine ⟨_, rfl, x, _, dx1, _, _, rfl, g1, T.cl_Piece, T.n_Piece_mouth, rfl, _, rfl, x, _, dx1, _, _, rfl, g1, T.cl_Piece, T.n_Piece_letters, rfl, _, rfl, x, _, dx1, _, _, rfl, g1, T.cl_Piece, T.n_Piece_ties, rfl, _, rfl, x, _, dx1, _, _, rfl, g1, T.cl_Piece, T.n_Piece_buds, rfl, Nat.le_of_ble_eq_true rfl, fun t4 ht4 => ?_⟩
                            have u4 := same_upd (o := .tup [.int (m : Int), .str z, .ref t1', .ref b1']) ht4
                            have d1 : Dp K (upd H26 t4 (.tup [.int (m : Int), .str z, .ref t1', .ref b1'])) (.ref t4) (shD m z ys2 rs) := sh_dp (P26.same u4) ⟨dx1, t1', b1', u4 _ _ g1, upd_same⟩ hLay
                            refine ⟨_, rfl, ne_same d1 (sh_dp (P26.same u4) (S26.same u4) hLay) hshp ⟨_, rfl, k1 _ ⟨t26.same u4, tb26.ext u4⟩⟩⟩
                          · exact ⟨t27.mono (by omega), tb27, _, _, _, _, _, _, _, _, _, _, _, _, _, _, _, _, _, _, _, _, rfl⟩
    · rintro σ H2 ⟨t2, tb2, o2, o3, o4, o5, o6, o7, o8, o9, o10, o11, o12, o13, o14, o15, o16, o17, o18, o19, o20, o21, rfl⟩
      have tok : ∀ (H : Hp) (m : Nat) (v : Addr), Sq K H v [] → TiesOk K H m 0 (.ref v) [] := fun H m v h => ⟨v, [], [], rfl, h, by decide, .nil, rfl, .nil, (fun _ z => nomatch z), List.Pairwise.nil⟩
      have bok : ∀ (H : Hp) (m : Nat) (v : Addr), Sq K H v [] → BudsOk K H m 0 (.ref v) [] := fun H m v h => ⟨v, [], [], rfl, h, by decide, .nil, rfl, .nil⟩
      have n0 : ∀ H : Hp, Sq K H (He.dflAt ("Piece", some "__init__") 0 K) [] := fun H => .inr (T.nil0 H)
      have n1 : ∀ H : Hp, Sq K H (He.dflAt ("Piece", some "__init__") 1 K) [] := fun H => .inr (T.nil1 H)
      have hlay0 : Lay [] [] := ⟨(fun _ z => nomatch z), (fun _ z => nomatch z)⟩
      refine fun x dx hx hdx hne => mk_piece (m := 0) (z := "") hx hdx hne (by decide) (by decide) (by decide +kernel) (tok _ _ _ (n0 _)) (bok _ _ _ (n1 _)) fun H3 ys s3 hys _ hP3 => ?_
      refine ⟨Nat.zero_le _, fun l hl => ⟨Nat.zero_le _, fun t ht => ?_⟩⟩
      have ul := same_upd (o := .lst []) hl
      have ut := same_upd (o := .tup []) ht
      have hl4 := ut _ _ (upd_same (H := H3) (a := l) (o := .lst []))
      have ht4 := upd_same (H := upd H3 l (.lst [])) (a := t) (o := .tup [])
      generalize upd (upd H3 l (.lst [])) t (.tup []) = H4 at ut hl4 ht4 ⊢
      have hP4 := hP3.same (ul.trans ut)
      refine fun x2 dx2 hx2 hdx2 hne2 => mk_piece (m := 0) (z := "") hx2 hdx2 hne2 (by decide) (by decide) (by decide +kernel) (tok _ _ _ (.inl (SqL.of hl4))) (bok _ _ _ (.inr (SqT.of ht4))) fun H5 ys2 s5 hys2 _ hQ5 => ?_
      have hP5 := hP4.same s5
      have e1 : ys = [] := List.Perm.eq_nil hys
      have e2 : ys2 = [] := List.Perm.eq_nil hys2
      subst e1 e2
      obtain ⟨dxa, fsa, hins⟩ := hP5.ins
      refine ⟨x, dxa, fsa, _, rfl, hins, hQ5.ty T, nf_piece, x, _, rfl, .inr ⟨x2, 0, 0, "", "", [], [], [], [], rfl, hP5, hQ5, .inl ⟨rfl, rfl, rfl, rfl, hlay0, _, rfl, ifT rfl ?_⟩⟩⟩
      refine fun x3 dx3 hx3 hdx3 hne3 => mk_piece (m := 3) (z := "") hx3 hdx3 hne3 (by decide) (by decide) (by decide +kernel) (tok _ _ _ (n0 _)) (bok _ _ _ (n1 _)) fun H6 ys3 s6 hys3 _ hP6 => ?_
      have e3 : ys3 = [] := List.Perm.eq_nil hys3
      subst e3
      obtain ⟨dx1, t1', b1', tas, bas, g1, g2, g3, g4, g5⟩ := hP6
      refine ⟨x3, _, dx1, _, _, rfl, g1, T.cl_Piece, T.n_Piece_ties, rfl, Nat.zero_le _, fun t7 ht7 => ?_⟩
      have u7 := same_upd (o := .tup []) ht7
      refine eq_same (hlay0.ties (u7 _ _ g2) (Paired.mapP g3 fun _ _ h => u7 _ _ h)) (d := tiesD []) (.tup (SqT.of upd_same) .nil) (shaped_of hlay0.tiesL.1 (by have := hlay0.tiesL.2; omega)) (k _)
end
end R4
set_option Elab.async false
set_option linter.all false
set_option maxRecDepth 100000
set_option maxHeartbeats 0
namespace R4
open PySem L2 PySem.GW
def dfs : List He.FnD := ([⟨("is_integer", none), "is_integer", "is_integer", defArgs s_is_integer, defBody s_is_integer, defScope s_is_integer⟩, ⟨("is_whole", none), "is_whole", "is_whole", defArgs s_is_whole, defBody s_is_whole, defScope s_is_whole⟩, ⟨("is_list", none), "is_list", "is_list", defArgs s_is_list, defBody s_is_list, defScope s_is_list⟩, ⟨("is_word", none), "is_word", "is_word", defArgs s_is_word, defBody s_is_word, defScope s_is_word⟩, ⟨("place_rank", none), "place_rank", "place_rank", defArgs s_place_rank, defBody s_place_rank, defScope s_place_rank⟩, ⟨("are_signs", none), "are_signs", "are_signs", defArgs s_are_signs, defBody s_are_signs, defScope s_are_signs⟩, ⟨("_law_pen", none), "_law_pen", "_law_pen", defArgs s__law_pen, defBody s__law_pen, defScope s__law_pen⟩, ⟨("_law_draw", none), "_law_draw", "_law_draw", defArgs s__law_draw, defBody s__law_draw, defScope s__law_draw⟩, ⟨("_law_pick", none), "_law_pick", "_law_pick", defArgs s__law_pick, defBody s__law_pick, defScope s__law_pick⟩, ⟨("_law_kinds", none), "_law_kinds", "_law_kinds", defArgs s__law_kinds, defBody s__law_kinds, defScope s__law_kinds⟩, ⟨("_law_ties", none), "_law_ties", "_law_ties", defArgs s__law_ties, defBody s__law_ties, defScope s__law_ties⟩, ⟨("_law_row", none), "_law_row", "_law_row", defArgs s__law_row, defBody s__law_row, defScope s__law_row⟩, ⟨("_law_rank", none), "_law_rank", "_law_rank", defArgs s__law_rank, defBody s__law_rank, defScope s__law_rank⟩, ⟨("_law_ordered", none), "_law_ordered", "_law_ordered", defArgs s__law_ordered, defBody s__law_ordered, defScope s__law_ordered⟩, ⟨("_law_told", none), "_law_told", "_law_told", defArgs s__law_told, defBody s__law_told, defScope s__law_told⟩, ⟨("_law_bent", none), "_law_bent", "_law_bent", defArgs s__law_bent, defBody s__law_bent, defScope s__law_bent⟩, ⟨("law", none), "law", "law", defArgs s_law, defBody s_law, defScope s_law⟩, ⟨("Piece", some "__eq__"), "__eq__", "Piece.__eq__", defArgs s_Piece___eq__, defBody s_Piece___eq__, defScope s_Piece___eq__⟩, ⟨("Piece", some "has_place"), "has_place", "Piece.has_place", defArgs s_Piece_has_place, defBody s_Piece_has_place, defScope s_Piece_has_place⟩, ⟨("Piece", some "checked_ties"), "checked_ties", "Piece.checked_ties", defArgs s_Piece_checked_ties, defBody s_Piece_checked_ties, defScope s_Piece_checked_ties⟩] : List He.FnD) ++ ([⟨("Piece", some "is_tie"), "is_tie", "Piece.is_tie", defArgs s_Piece_is_tie, defBody s_Piece_is_tie, defScope s_Piece_is_tie⟩, ⟨("Piece", some "checked_buds"), "checked_buds", "Piece.checked_buds", defArgs s_Piece_checked_buds, defBody s_Piece_checked_buds, defScope s_Piece_checked_buds⟩, ⟨("Piece", some "is_bud"), "is_bud", "Piece.is_bud", defArgs s_Piece_is_bud, defBody s_Piece_is_bud, defScope s_Piece_is_bud⟩] : List He.FnD)
def fws : List He.DefD := ([⟨("Piece", some "__init__"), "__init__", "Piece.__init__", defArgs s_Piece___init__, defBody s_Piece___init__, defScope s_Piece___init__, [.adr ((He.dflAt ("Piece", some "__init__") 0)), .adr ((He.dflAt ("Piece", some "__init__") 1))], []⟩] : List He.DefD)
def xsL : List Str := (["BadPiece"] : List Str)
def ysL : List IniV := ([iniVal (inClass (top 3) 0)] : List IniV)
def tfs : List He.Defn := ([("law", none)] : List He.Defn)
def fileN : Str := PW.main.file
def gB (K : PySem.W.Frag) (x : Str) : Bool := He.eqO (PySem.W.nsIn K mainGlobals x) (some (some (.ref (He.ga K x)))) && PySem.W.keepIn K (.ref (He.ga K x))
def fns : List Str := (["is_integer", "is_whole", "is_list", "is_word", "place_rank", "are_signs", "_law_pen", "_law_draw", "_law_pick", "_law_kinds", "_law_ties", "_law_row", "_law_rank", "_law_ordered", "_law_told", "_law_bent", "law"] : List Str)
def frees : List Str := (["isinstance", "int", "bool", "list", "tuple", "len", "min", "all", "range", "super", "str", "sorted"] : List Str)
def fas : List He.Fa := ([.int "MOST_LETTERS" (8), .int "MOST_MOUTH" (3), .int "MOST_NEW" (6), .int "MOST_BUDS" (4), .int "MOST_LENGTH" (10000000000000000000000000000000000000000000000000000000000000000000000000000000000000000000000000000), .str "LETTERS" "abcdefghijklmnopqrstuvwxyz", .str "MOUTH" "abc", .cls "Piece", .noat "Piece" "mouth", .noat "Piece" "letters", .noat "Piece" "ties", .noat "Piece" "buds", .mkr "Piece", .meth "Piece" "__init__", .meth "Piece" "__eq__", .meth "Piece" "has_place", .meth "Piece" "checked_ties", .meth "Piece" "is_tie", .meth "Piece" "checked_buds", .meth "Piece" "is_bud"] : List He.Fa)
def xfs : List (Str × List Str) := ([("BadPiece", ["field"])] : List (Str × List Str))
def clss : List Str := (["Piece"] : List Str)
def exs0 (K : PySem.W.Frag) : Bool := (He.eqO (PySem.W.findIn K (.ref (CL_Piece K)) "__class__") (some (some (.builtin "object.__class__"))) && (He.eqO (PySem.W.specialIn K (.builtin "object.__class__") "__get__") (some (some (.builtin "getset_descriptor.__get__"))) && (decide (PySem.W.takesIn K (.builtin "object.__class__") = some true) && (decide (PySem.W.mroIn K (CL_Piece K) (.type "object") = some true) && (decide (PySem.W.kitOne K (.ref (CL_Piece K)) (.ref (CL_Piece K)) = some true) && (decide (PySem.W.kitOne K (.type "tuple") (.ref (CL_Piece K)) = some false) && (decide (PySem.W.kitOne K (.type "list") (.ref (CL_Piece K)) = some false) && (decide (PySem.W.kitOne K (.type "int") (.ref (CL_Piece K)) = some false) && (decide (PySem.W.kitOne K (.type "str") (.ref (CL_Piece K)) = some false) && (decide (PySem.W.kitOne K (.type "bool") (.ref (CL_Piece K)) = some false) && (decide (PySem.W.kitOne K (.type "NoneType") (.ref (CL_Piece K)) = some false) && (decide (PySem.W.kitOne K (.type "float") (.ref (CL_Piece K)) = some false) && (decide (PySem.W.kitOne K (.type "dict") (.ref (CL_Piece K)) = some false) && ((PySem.W.selfFirst K (CL_Piece K) == true) && (He.eqO (PySem.W.findIn K (.ref (CL_Piece K)) "__ne__") (some (some (.builtin "object.__ne__"))) && (decide (PySem.W.subIn K (.ref (CL_Piece K)) (.type "object") = some true) && (decide (PySem.W.subIn K (.type "tuple") (.ref (CL_Piece K)) = some false) && (decide (PySem.W.subIn K (.ref (CL_Piece K)) (.type "tuple") = some false) && (decide (PySem.W.subIn K (.type "list") (.ref (CL_Piece K)) = some false) && (decide (PySem.W.subIn K (.ref (CL_Piece K)) (.type "list") = some false) && (decide (PySem.W.subIn K (.type "str") (.ref (CL_Piece K)) = some false) && (decide (PySem.W.subIn K (.ref (CL_Piece K)) (.type "str") = some false) && (decide (PySem.W.subIn K (.type "dict") (.ref (CL_Piece K)) = some false) && (decide (PySem.W.subIn K (.ref (CL_Piece K)) (.type "dict") = some false) && decide (PySem.W.subIn K (.type "NoneType") (.ref (CL_Piece K)) = some false)))))))))))))))))))))))))
def exs1 (K : PySem.W.Frag) : Bool := (decide (PySem.W.subIn K (.ref (CL_Piece K)) (.type "NoneType") = some false) && decide (PySem.W.exmOne K (.ref (He.ga K "BadPiece")) (.ref (He.ga K "BadPiece")) = some true))
def tup0B (K : PySem.W.Frag) (a : Addr) : Bool := match K.lookup a with
  | some o => decide (o.cls = .type "tuple") && (match o.data with
    | .seq its _ => its.isEmpty
    | _ => false)
  | none => false
def fb (K : PySem.W.Frag) : Bool := ((fns.all fun x => gB K x) && ((frees.all fun x => He.eqO (PySem.W.nsIn K mainGlobals x) (some none)) && (gB K "WebError" && ((clss.all fun x => gB K x) && (He.eqO (PySem.W.nsIn K cStatics "thirdparty.any") (some none) && ((xfs.all fun p => xB fileN K p.1 p.2) && ((fas.all fun f => f.ok K) && (exs0 K && (exs1 K && (tup0B K ((He.dflAt ("Piece", some "__init__") 0) K) && tup0B K ((He.dflAt ("Piece", some "__init__") 1) K)))))))))))
abbrev RW : PySem.W.OpenRow := PySem.W.OpenLaw.row PySem.Challenge.rw_growwebs_k01_pieces_made_and_refused
def hk : PySem.W.Hook := hook3 6 fb dfs xsL ysL fws tfs
def ob (s : PySem.W.SharedT) : Al3 × Bool := obs3G 6 fb dfs xsL fws tfs (HandSHeadRun.getT s)
theorem ob_eq (s : PySem.W.SharedT) : ob s = hk.obs s.abs := obs3G_eq (HandSHeadRun.getT_eq s)
def loose : List Str := (["_wall", "WebError", "BadPiece", "MOST_LETTERS", "MOST_MOUTH", "MOST_NEW", "MOST_BUDS", "MOST_LENGTH", "LETTERS", "is_integer", "is_whole", "is_list", "is_word", "MOUTH", "place_rank", "Piece", "are_signs", "_law_pen", "_law_draw", "_law_pick"] : List Str) ++ (["_law_kinds", "_law_ties", "_law_row", "_law_rank", "_law_ordered", "_law_told", "_law_bent"] : List Str)
theorem run (w : World) : HandSHeadRun.RunEq RW (PySem.W.view RW.prog [31]) hk ob 20000 loose w := by
  intro os
  kernel_rfl
end R4
set_option Elab.async false
set_option linter.all false
set_option maxRecDepth 100000
set_option maxHeartbeats 0
namespace R4
open PySem L2 PySem.GW LamX
theorem ptop : (PW.main.scope.names.lookup (Str.ofString "super")).isSome = false := by decide +kernel
section
variable {K : PySem.W.Frag}
theorem fun_at {x qual : Str} {st : Stmt} {f : Addr} (h : ∃ oc od osl kV doc pm an cdv ct, K.lookup f = some ⟨oc, od, .func (PySem.W.fnOf x qual (defArgs st) (defBody st) (defScope st) .none kV doc pm an cdv ct), osl⟩ ∧ PySem.W.codeIn K cdv qual = true) (kp : PySem.W.keepIn K (.ref f) = true) : Fun K x qual st f (fdOf K f) := by
  obtain ⟨oc, od, osl, kV, doc, pm, an, cdv, ct, lk, cd⟩ := h
  have e : fdOf K f = PySem.W.fnOf x qual (defArgs st) (defBody st) (defScope st) .none kV doc pm an cdv ct := by
    unfold fdOf
    rw [lk]
  rw [e]
  exact fun_mk lk cd kp
theorem tup0_ok {a : Addr} (h : tup0B K a = true) (H : Hp) : SqT K H a [] := by
  unfold tup0B at h
  cases hl : K.lookup a with
  | none => rw [hl] at h; cases h
  | some o =>
    rw [hl] at h
    simp only [Bool.and_eq_true] at h
    obtain ⟨h1, h2⟩ := h
    obtain ⟨cls, dd, data, sl⟩ := o
    cases data with
    | seq its n =>
      have e : its = #[] := Array.isEmpty_iff.mp h2
      subst e
      exact .inr ⟨_, #[], n, hl, of_decide_eq_true h1, rfl, Nat.zero_le _, .nil⟩
    | _ => cases h2
theorem funD_at {x qual : Str} {params : Arguments} {body : List Stmt} {scope : Scope} {dvs : List V} {kws : List (Str × V)} {f : Addr} (h : ∃ fd, FunD K x qual params body scope dvs kws f fd) : FunD K x qual params body scope dvs kws f (fdOf K f) := by
  obtain ⟨fd, F⟩ := h
  obtain ⟨oc, od, dV, kV, doc, pm, an, cdv, ct, osl, e, lk, r⟩ := F.ex
  have e2 : fdOf K f = fd := by
    unfold fdOf
    rw [lk]
  rw [e2]
  exact F
end
theorem top_of {K : PySem.W.Frag} {h : Heap} {mg : Str → Option Value} (X : K.In h) (G : h.Ns mainGlobals mg) (c : Says3 fb dfs xsL ysL fws tfs h K) : Top K mg ∧ (True) := by
  have a := c.all
  unfold fb at a
  simp only [Bool.and_eq_true] at a
  obtain ⟨aF, aN, aW, aC, aO, aX, aA, aE0, aE1, a00, a01⟩ := a
  refine ⟨?_, trivial⟩
  have gl : ∀ {x : Str}, gB K x = true → mg x = some (.ref (He.ga K x)) ∧ PySem.W.keepIn K (.ref (He.ga K x)) = true := fun {x} q => by
    unfold gB at q
    simp only [Bool.and_eq_true] at q
    exact ⟨PySem.W.mg_of X G (He.eqO_ok q.1), q.2⟩
  have fr : ∀ (i : Nat) {x : Str}, frees[i]? = some x → mg x = none := fun i {x} q => PySem.W.mg_none_of X G (He.eqO_ok (all_at aN i q))
  have opq := He.eqO_ok aO
  have fa_ : ∀ (i : Nat) {f : He.Fa}, fas[i]? = some f → f.ok K = true := fun i {f} q => all_at aA i q
  unfold exs0 at aE0
  try simp only [Bool.and_eq_true] at aE0
  obtain ⟨e0_0, e0_1, e0_2, e0_3, e0_4, e0_5, e0_6, e0_7, e0_8, e0_9, e0_10, e0_11, e0_12, e0_13, e0_14, e0_15, e0_16, e0_17, e0_18, e0_19, e0_20, e0_21, e0_22, e0_23, e0_24⟩ := aE0
  unfold exs1 at aE1
  try simp only [Bool.and_eq_true] at aE1
  obtain ⟨e1_0, e1_1⟩ := aE1
  have hm_Piece___init__ := He.meth_ok (fa_ 13 (f := .meth "Piece" "__init__") rfl)
  have hm_Piece___eq__ := He.meth_ok (fa_ 14 (f := .meth "Piece" "__eq__") rfl)
  have hm_Piece_has_place := He.meth_ok (fa_ 15 (f := .meth "Piece" "has_place") rfl)
  have hm_Piece_checked_ties := He.meth_ok (fa_ 16 (f := .meth "Piece" "checked_ties") rfl)
  have hm_Piece_is_tie := He.meth_ok (fa_ 17 (f := .meth "Piece" "is_tie") rfl)
  have hm_Piece_checked_buds := He.meth_ok (fa_ 18 (f := .meth "Piece" "checked_buds") rfl)
  have hm_Piece_is_bud := He.meth_ok (fa_ 19 (f := .meth "Piece" "is_bud") rfl)
  have F_is_integer := fun_at (st := s_is_integer) (c.def_ 0 (d := ⟨("is_integer", none), "is_integer", "is_integer", defArgs s_is_integer, defBody s_is_integer, defScope s_is_integer⟩) rfl) ((gl (all_at aF 0 (x := "is_integer") rfl)).2)
  have F_is_whole := fun_at (st := s_is_whole) (c.def_ 1 (d := ⟨("is_whole", none), "is_whole", "is_whole", defArgs s_is_whole, defBody s_is_whole, defScope s_is_whole⟩) rfl) ((gl (all_at aF 1 (x := "is_whole") rfl)).2)
  have F_is_list := fun_at (st := s_is_list) (c.def_ 2 (d := ⟨("is_list", none), "is_list", "is_list", defArgs s_is_list, defBody s_is_list, defScope s_is_list⟩) rfl) ((gl (all_at aF 2 (x := "is_list") rfl)).2)
  have F_is_word := fun_at (st := s_is_word) (c.def_ 3 (d := ⟨("is_word", none), "is_word", "is_word", defArgs s_is_word, defBody s_is_word, defScope s_is_word⟩) rfl) ((gl (all_at aF 3 (x := "is_word") rfl)).2)
  have F_place_rank := fun_at (st := s_place_rank) (c.def_ 4 (d := ⟨("place_rank", none), "place_rank", "place_rank", defArgs s_place_rank, defBody s_place_rank, defScope s_place_rank⟩) rfl) ((gl (all_at aF 4 (x := "place_rank") rfl)).2)
  have F_are_signs := fun_at (st := s_are_signs) (c.def_ 5 (d := ⟨("are_signs", none), "are_signs", "are_signs", defArgs s_are_signs, defBody s_are_signs, defScope s_are_signs⟩) rfl) ((gl (all_at aF 5 (x := "are_signs") rfl)).2)
  have F__law_pen := fun_at (st := s__law_pen) (c.def_ 6 (d := ⟨("_law_pen", none), "_law_pen", "_law_pen", defArgs s__law_pen, defBody s__law_pen, defScope s__law_pen⟩) rfl) ((gl (all_at aF 6 (x := "_law_pen") rfl)).2)
  have F__law_draw := fun_at (st := s__law_draw) (c.def_ 7 (d := ⟨("_law_draw", none), "_law_draw", "_law_draw", defArgs s__law_draw, defBody s__law_draw, defScope s__law_draw⟩) rfl) ((gl (all_at aF 7 (x := "_law_draw") rfl)).2)
  have F__law_pick := fun_at (st := s__law_pick) (c.def_ 8 (d := ⟨("_law_pick", none), "_law_pick", "_law_pick", defArgs s__law_pick, defBody s__law_pick, defScope s__law_pick⟩) rfl) ((gl (all_at aF 8 (x := "_law_pick") rfl)).2)
  have F__law_kinds := fun_at (st := s__law_kinds) (c.def_ 9 (d := ⟨("_law_kinds", none), "_law_kinds", "_law_kinds", defArgs s__law_kinds, defBody s__law_kinds, defScope s__law_kinds⟩) rfl) ((gl (all_at aF 9 (x := "_law_kinds") rfl)).2)
  have F__law_ties := fun_at (st := s__law_ties) (c.def_ 10 (d := ⟨("_law_ties", none), "_law_ties", "_law_ties", defArgs s__law_ties, defBody s__law_ties, defScope s__law_ties⟩) rfl) ((gl (all_at aF 10 (x := "_law_ties") rfl)).2)
  have F__law_row := fun_at (st := s__law_row) (c.def_ 11 (d := ⟨("_law_row", none), "_law_row", "_law_row", defArgs s__law_row, defBody s__law_row, defScope s__law_row⟩) rfl) ((gl (all_at aF 11 (x := "_law_row") rfl)).2)
  have F__law_rank := fun_at (st := s__law_rank) (c.def_ 12 (d := ⟨("_law_rank", none), "_law_rank", "_law_rank", defArgs s__law_rank, defBody s__law_rank, defScope s__law_rank⟩) rfl) ((gl (all_at aF 12 (x := "_law_rank") rfl)).2)
  have F__law_ordered := fun_at (st := s__law_ordered) (c.def_ 13 (d := ⟨("_law_ordered", none), "_law_ordered", "_law_ordered", defArgs s__law_ordered, defBody s__law_ordered, defScope s__law_ordered⟩) rfl) ((gl (all_at aF 13 (x := "_law_ordered") rfl)).2)
  have F__law_told := fun_at (st := s__law_told) (c.def_ 14 (d := ⟨("_law_told", none), "_law_told", "_law_told", defArgs s__law_told, defBody s__law_told, defScope s__law_told⟩) rfl) ((gl (all_at aF 14 (x := "_law_told") rfl)).2)
  have F__law_bent := fun_at (st := s__law_bent) (c.def_ 15 (d := ⟨("_law_bent", none), "_law_bent", "_law_bent", defArgs s__law_bent, defBody s__law_bent, defScope s__law_bent⟩) rfl) ((gl (all_at aF 15 (x := "_law_bent") rfl)).2)
  have F_law := fun_at (st := s_law) (c.def_ 16 (d := ⟨("law", none), "law", "law", defArgs s_law, defBody s_law, defScope s_law⟩) rfl) ((gl (all_at aF 16 (x := "law") rfl)).2)
  have F_Piece___eq__ := fun_at (st := s_Piece___eq__) (c.def_ 17 (d := ⟨("Piece", some "__eq__"), "__eq__", "Piece.__eq__", defArgs s_Piece___eq__, defBody s_Piece___eq__, defScope s_Piece___eq__⟩) rfl) (hm_Piece___eq__.kp)
  have F_Piece_has_place := fun_at (st := s_Piece_has_place) (c.def_ 18 (d := ⟨("Piece", some "has_place"), "has_place", "Piece.has_place", defArgs s_Piece_has_place, defBody s_Piece_has_place, defScope s_Piece_has_place⟩) rfl) (hm_Piece_has_place.kp)
  have F_Piece_checked_ties := fun_at (st := s_Piece_checked_ties) (c.def_ 19 (d := ⟨("Piece", some "checked_ties"), "checked_ties", "Piece.checked_ties", defArgs s_Piece_checked_ties, defBody s_Piece_checked_ties, defScope s_Piece_checked_ties⟩) rfl) (hm_Piece_checked_ties.kp)
  have F_Piece_is_tie := fun_at (st := s_Piece_is_tie) (c.def_ 20 (d := ⟨("Piece", some "is_tie"), "is_tie", "Piece.is_tie", defArgs s_Piece_is_tie, defBody s_Piece_is_tie, defScope s_Piece_is_tie⟩) rfl) (hm_Piece_is_tie.kp)
  have F_Piece_checked_buds := fun_at (st := s_Piece_checked_buds) (c.def_ 21 (d := ⟨("Piece", some "checked_buds"), "checked_buds", "Piece.checked_buds", defArgs s_Piece_checked_buds, defBody s_Piece_checked_buds, defScope s_Piece_checked_buds⟩) rfl) (hm_Piece_checked_buds.kp)
  have F_Piece_is_bud := fun_at (st := s_Piece_is_bud) (c.def_ 22 (d := ⟨("Piece", some "is_bud"), "is_bud", "Piece.is_bud", defArgs s_Piece_is_bud, defBody s_Piece_is_bud, defScope s_Piece_is_bud⟩) rfl) (hm_Piece_is_bud.kp)
  exact {
    z_isinstance := fr 0 rfl,
    z_int := fr 1 rfl,
    z_bool := fr 2 rfl,
    z_list := fr 3 rfl,
    z_tuple := fr 4 rfl,
    z_len := fr 5 rfl,
    z_min := fr 6 rfl,
    z_all := fr 7 rfl,
    z_range := fr 8 rfl,
    z_super := fr 9 rfl,
    z_str := fr 10 rfl,
    z_sorted := fr 11 rfl,
    c_MOST_LETTERS := He.int_ok X G (fa_ 0 rfl),
    c_MOST_MOUTH := He.int_ok X G (fa_ 1 rfl),
    c_MOST_NEW := He.int_ok X G (fa_ 2 rfl),
    c_MOST_BUDS := He.int_ok X G (fa_ 3 rfl),
    c_MOST_LENGTH := He.int_ok X G (fa_ 4 rfl),
    c_LETTERS := He.str_ok X G (fa_ 5 rfl),
    c_MOUTH := He.str_ok X G (fa_ 6 rfl),
    g_is_integer := (gl (all_at aF 0 (x := "is_integer") rfl)).1,
    F_is_integer := F_is_integer,
    b_is_integer := F_is_integer.binds (ps := ["value"]) fun _ _ _ _ _ _ us hl => match us, hl with | [_], _ => rfl,
    g_is_whole := (gl (all_at aF 1 (x := "is_whole") rfl)).1,
    F_is_whole := F_is_whole,
    b_is_whole := F_is_whole.binds (ps := ["value", "least"]) fun _ _ _ _ _ _ us hl => match us, hl with | [_, _], _ => rfl,
    g_is_list := (gl (all_at aF 2 (x := "is_list") rfl)).1,
    F_is_list := F_is_list,
    b_is_list := F_is_list.binds (ps := ["value"]) fun _ _ _ _ _ _ us hl => match us, hl with | [_], _ => rfl,
    g_is_word := (gl (all_at aF 3 (x := "is_word") rfl)).1,
    F_is_word := F_is_word,
    b_is_word := F_is_word.binds (ps := ["value"]) fun _ _ _ _ _ _ us hl => match us, hl with | [_], _ => rfl,
    g_place_rank := (gl (all_at aF 4 (x := "place_rank") rfl)).1,
    F_place_rank := F_place_rank,
    b_place_rank := F_place_rank.binds (ps := ["place"]) fun _ _ _ _ _ _ us hl => match us, hl with | [_], _ => rfl,
    g_are_signs := (gl (all_at aF 5 (x := "are_signs") rfl)).1,
    F_are_signs := F_are_signs,
    b_are_signs := F_are_signs.binds (ps := ["value"]) fun _ _ _ _ _ _ us hl => match us, hl with | [_], _ => rfl,
    g__law_pen := (gl (all_at aF 6 (x := "_law_pen") rfl)).1,
    F__law_pen := F__law_pen,
    b__law_pen := F__law_pen.binds (ps := ["_law_script"]) fun _ _ _ _ _ _ us hl => match us, hl with | [_], _ => rfl,
    g__law_draw := (gl (all_at aF 7 (x := "_law_draw") rfl)).1,
    F__law_draw := F__law_draw,
    b__law_draw := F__law_draw.binds (ps := ["_law_pen_here", "_law_many"]) fun _ _ _ _ _ _ us hl => match us, hl with | [_, _], _ => rfl,
    g__law_pick := (gl (all_at aF 8 (x := "_law_pick") rfl)).1,
    F__law_pick := F__law_pick,
    b__law_pick := F__law_pick.binds (ps := ["_law_pen_here", "_law_items"]) fun _ _ _ _ _ _ us hl => match us, hl with | [_, _], _ => rfl,
    g__law_kinds := (gl (all_at aF 9 (x := "_law_kinds") rfl)).1,
    F__law_kinds := F__law_kinds,
    b__law_kinds := F__law_kinds.binds (ps := ["_law_pen_here", "_law_many"]) fun _ _ _ _ _ _ us hl => match us, hl with | [_, _], _ => rfl,
    g__law_ties := (gl (all_at aF 10 (x := "_law_ties") rfl)).1,
    F__law_ties := F__law_ties,
    b__law_ties := F__law_ties.binds (ps := ["_law_pen_here", "_law_lips", "_law_fresh", "_law_far"]) fun _ _ _ _ _ _ us hl => match us, hl with | [_, _, _, _], _ => rfl,
    g__law_row := (gl (all_at aF 11 (x := "_law_row") rfl)).1,
    F__law_row := F__law_row,
    b__law_row := F__law_row.binds (ps := ["_law_pen_here", "_law_places", "_law_many"]) fun _ _ _ _ _ _ us hl => match us, hl with | [_, _, _], _ => rfl,
    g__law_rank := (gl (all_at aF 12 (x := "_law_rank") rfl)).1,
    F__law_rank := F__law_rank,
    b__law_rank := F__law_rank.binds (ps := ["_law_place"]) fun _ _ _ _ _ _ us hl => match us, hl with | [_], _ => rfl,
    g__law_ordered := (gl (all_at aF 13 (x := "_law_ordered") rfl)).1,
    F__law_ordered := F__law_ordered,
    b__law_ordered := F__law_ordered.binds (ps := ["_law_ropes"]) fun _ _ _ _ _ _ us hl => match us, hl with | [_], _ => rfl,
    g__law_told := (gl (all_at aF 14 (x := "_law_told") rfl)).1,
    F__law_told := F__law_told,
    b__law_told := F__law_told.binds (ps := ["_law_ask"]) fun _ _ _ _ _ _ us hl => match us, hl with | [_], _ => rfl,
    g__law_bent := (gl (all_at aF 15 (x := "_law_bent") rfl)).1,
    F__law_bent := F__law_bent,
    b__law_bent := F__law_bent.binds (ps := ["_law_pen_here", "_law_which", "_law_parts"]) fun _ _ _ _ _ _ us hl => match us, hl with | [_, _, _], _ => rfl,
    g_law := (gl (all_at aF 16 (x := "law") rfl)).1,
    F_law := F_law,
    b_law := F_law.binds (ps := ["_law_script"]) fun _ _ _ _ _ _ us hl => match us, hl with | [_], _ => rfl,
    g_Piece := (gl (all_at aC 0 (x := "Piece") rfl)).1,
    cl_Piece := He.cls_ok (fa_ 7 rfl),
    mk_Piece := He.mkr_ok (fa_ 12 rfl),
    n_Piece_mouth := He.noat_ok (fa_ 8 rfl),
    n_Piece_letters := He.noat_ok (fa_ 9 rfl),
    n_Piece_ties := He.noat_ok (fa_ 10 rfl),
    n_Piece_buds := He.noat_ok (fa_ 11 rfl),
    m_Piece___init__ := hm_Piece___init__,
    D_Piece___init__ := funD_at (c.defD 0 rfl),
    m_Piece___eq__ := hm_Piece___eq__,
    F_Piece___eq__ := F_Piece___eq__,
    b_Piece___eq__ := F_Piece___eq__.binds (ps := ["self", "other"]) fun _ _ _ _ _ _ us hl => match us, hl with | [_, _], _ => rfl,
    m_Piece_has_place := hm_Piece_has_place,
    F_Piece_has_place := F_Piece_has_place,
    b_Piece_has_place := F_Piece_has_place.binds (ps := ["self", "value"]) fun _ _ _ _ _ _ us hl => match us, hl with | [_, _], _ => rfl,
    m_Piece_checked_ties := hm_Piece_checked_ties,
    F_Piece_checked_ties := F_Piece_checked_ties,
    b_Piece_checked_ties := F_Piece_checked_ties.binds (ps := ["self", "ties"]) fun _ _ _ _ _ _ us hl => match us, hl with | [_, _], _ => rfl,
    m_Piece_is_tie := hm_Piece_is_tie,
    F_Piece_is_tie := F_Piece_is_tie,
    b_Piece_is_tie := F_Piece_is_tie.binds (ps := ["self", "value"]) fun _ _ _ _ _ _ us hl => match us, hl with | [_, _], _ => rfl,
    m_Piece_checked_buds := hm_Piece_checked_buds,
    F_Piece_checked_buds := F_Piece_checked_buds,
    b_Piece_checked_buds := F_Piece_checked_buds.binds (ps := ["self", "buds"]) fun _ _ _ _ _ _ us hl => match us, hl with | [_, _], _ => rfl,
    m_Piece_is_bud := hm_Piece_is_bud,
    F_Piece_is_bud := F_Piece_is_bud,
    b_Piece_is_bud := F_Piece_is_bud.binds (ps := ["self", "value"]) fun _ _ _ _ _ _ us hl => match us, hl with | [_, _], _ => rfl,
    ic_Piece := He.eqO_ok e0_0,
    ig_Piece := He.eqO_ok e0_1,
    it_Piece := of_decide_eq_true e0_2,
    im_Piece := of_decide_eq_true e0_3,
    kk_Piece := of_decide_eq_true e0_4,
    k_Piece_tuple := of_decide_eq_true e0_5,
    k_Piece_list := of_decide_eq_true e0_6,
    k_Piece_int := of_decide_eq_true e0_7,
    k_Piece_str := of_decide_eq_true e0_8,
    k_Piece_bool := of_decide_eq_true e0_9,
    k_Piece_NoneType := of_decide_eq_true e0_10,
    k_Piece_float := of_decide_eq_true e0_11,
    k_Piece_dict := of_decide_eq_true e0_12,
    sf_Piece := beq_iff_eq.mp e0_13,
    ne_Piece := He.eqO_ok e0_14,
    os_Piece := of_decide_eq_true e0_15,
    t1_Piece_tuple := of_decide_eq_true e0_16,
    t2_Piece_tuple := of_decide_eq_true e0_17,
    t1_Piece_list := of_decide_eq_true e0_18,
    t2_Piece_list := of_decide_eq_true e0_19,
    t1_Piece_str := of_decide_eq_true e0_20,
    t2_Piece_str := of_decide_eq_true e0_21,
    t1_Piece_dict := of_decide_eq_true e0_22,
    t2_Piece_dict := of_decide_eq_true e0_23,
    t1_Piece_NoneType := of_decide_eq_true e0_24,
    t2_Piece_NoneType := of_decide_eq_true e1_0,
    x_BadPiece_BadPiece := of_decide_eq_true e1_1,
    g_WebError := (gl aW).1,
    e_BadPiece := xB_ok (P := PW) (l := fl_BadPiece) X G (all_at aX 0 (x := ("BadPiece", ["field"])) rfl) (c.ini 0 rfl rfl) ini_BadPiece (fr 9 rfl) opq ptop,
    nil0 := tup0_ok a00,
    nil1 := tup0_ok a01 }
theorem bl_law {K : PySem.W.Frag} {mg : Str → Option Value} (T : Top K mg) : ∀ (s : Shared) (u : Value), BindsTo s (fdOf K (fa K "law")) ⟨[u], []⟩ [("_law_script", u)] := fun s u => by
  obtain ⟨oc, od, kV, doc, pm, an, cdv, ct, osl, e, lk, hcd⟩ := T.F_law.ex
  rw [e]
  exact .of_eq rfl
end R4
open PySem PySem.W PySem.Calls PyProof.Rows
set_option maxRecDepth 100000 in
set_option maxHeartbeats 0 in
theorem PySem.Challenge.cw_growwebs_k01_pieces_made_and_refused_holds : PySem.Challenge.rw_growwebs_k01_pieces_made_and_refused.Holds := by
  w_on; o_law
  refine HandSHeadRun.head_any (r := OpenLaw.row PySem.Challenge.rw_growwebs_k01_pieces_made_and_refused) (q := view (OpenLaw.row PySem.Challenge.rw_growwebs_k01_pieces_made_and_refused).prog [31]) (H := R4.hk) (ob := R4.ob) (M := 20000) (loose := R4.loose) (d := HandSHeadRun.topDef (OpenLaw.row PySem.Challenge.rw_growwebs_k01_pieces_made_and_refused).prog 31) (kwd := []) R4.ob_eq
    (by kernel_rfl) (fun s => by kernel_rfl) R4.run (by kernel_rfl) (by kernel_rfl) (by kernel_rfl) (by rfl) (by first | assumption | decide +kernel) (by decide +kernel) ⟨rfl, rfl, rfl, rfl, rfl, by decide +kernel⟩ ?hw ?hc
  case hw => w_witness2
  case hc =>
    refine LamX.walk_ofTsG (l := PySem.Challenge.rw_growwebs_k01_pieces_made_and_refused) (n := 63) (k := 14) (x := "_law_script") (CX := fun _ => L2.CX0) rfl (by decide) (by kernel_rfl) ⟨rfl, by decide, by decide⟩ ?F (fun _ _ _ _ _ z => z)
    intro w mg fa h Y G hmg0
    obtain ⟨K, KX, c⟩ := Y
    have hmg : mg ("law" : PySem.Str) = some (.ref fa) := by
      have e : (HandSHeadRun.topDef (OpenLaw.row PySem.Challenge.rw_growwebs_k01_pieces_made_and_refused).prog 31).name = ("law" : PySem.Str) := by kernel_rfl
      rw [← e]
      exact hmg0
    obtain ⟨T, hne⟩ := R4.top_of KX G c
    have ef := hmg.symm.trans T.g_law
    cases ef
    refine ⟨K, KX, R4.fdOf K (R4.fa K "law"), R4.tfs.map (He.cT K), R4.spLaw K, fun p hp => ?_, fun p hp => ?_, fun p hp => ?_, R4.bl_law T, fun H a ns hl hH hS => ?_, fun base KB GB TB => ?_⟩
    · obtain ⟨d, hd, rfl⟩ := List.mem_map.mp hp
      exact c.empty d hd
    · obtain ⟨d, hd, rfl⟩ := List.mem_map.mp hp
      exact c.out d hd
    · obtain ⟨d, hd, rfl⟩ := List.mem_map.mp hp
      exact PySem.W.codeHd_of_K KX (c.hd d hd)
    · refine ⟨a, ns, rfl, hS, hl, fun p hp => ?_, fun _ => rfl⟩
      rw [List.mem_singleton.mp hp]
      exact LamX.TabS.nil (hH (He.cT K ("law", none)) List.mem_cons_self)
    · exact R4.ok_law T ⟨TB (He.cT K ("law", none)) List.mem_cons_self⟩
