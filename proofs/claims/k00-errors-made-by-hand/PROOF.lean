import PyProof.Rows.All
import Wide.All
import OpenK.AllK
import Wide.FinOn
import KE.KExcSuper
import HandS.ForMost
import HandS.ForExc
import HandS.ExcInit
import HandS.ExcIs
import HandS.IsInst
import HandS.ExcSuper
import HandS.Wide
import HandS.ExcValue
import HandS.Head0
import HandS.Head1
import HandS.Head2
import HandS.HeadEnd
import HandS.HeadHook1
import HandS.HeadHook2
import HandS.DictComp
import PySem.Challenge.RW_growwebs_k00_errors_made_by_hand
set_option Elab.async false
set_option linter.all false
set_option maxRecDepth 100000
set_option maxHeartbeats 2000000
/-! Errors of one's own over WebError: made by position and by name, held, read, raised. -/
namespace PySem
namespace GW
open PySem.W PySem.Calls PyProof.Rows PySem.HandSPX
section
variable {M : Model} {A : Around} {E : Value → Shared → Prop} {h : Heap} {g : Array GenState} {d : Drawn} {t : Nat} {os : OsState}
variable {nm q : Str} {C N : Addr} {bs bm bmB : List Value} {hdct : Bool} {sn : List Str} {sub : List Value} {ab : Bool} {col : Option Bool} {dd : Option Addr} {k0 k1 k2 k3 k5 : Option Value} {B newId initId : String}
theorem chk_kw (Fb : ExcBaseFacts B newId initId bmB) (hT : ∀ X : String, bm.contains (.type X) = bmB.contains (.type X)) {ps : List Value} {kw : List (Str × Value)} {Q : Unit → Shared → Prop}
    (hC : h.get? C = some (excClassObj nm q C N bs bm hdct sn sub ab col dd k0 k1 k2 k3 k5 newId)) (hq : Q () ⟨h, g, d, t, os⟩) : wpAny M A (checkBuiltinCall newId ⟨.ref C :: ps, kw⟩) Q E ⟨h, g, d, t, os⟩ := by
  have hc1 : (Value.ref C :: bm).contains (.type B) = true := by rw [List.contains_cons, hT, Fb.hasB, Bool.or_true]
  have hs1 := Fb.noStar
  simp only [checkBuiltinCall, Fb.newKind, Fb.newSplit, Fb.newRow]
  repeat (first | refine wpAny_loadPart_at hC ?_ | (refine wpAny_isSubtype_exc hC ?_; rw [hc1]) | refine wpAny_staticBase_exc hC ?_ | refine wpAny_madeBy_exc hC ?_ | simp only [bne_self_eq_false, Bool.false_eq_true, if_false] | wp_step)
  exact hq
end
section
variable {prog : Program} {w : World} {A : Around} {E : Value → Shared → Prop} {R : Result → Shared → Prop} {h : Heap} {g : Array GenState} {d : Drawn} {t : Nat} {os : OsState}
variable {nm q : Str} {C N : Addr} {bs bm bmB : List Value} {hdct : Bool} {sn : List Str} {sub : List Value} {ab : Bool} {col : Option Bool} {dd : Option Addr} {k0 k1 k2 k3 k5 : Option Value} {B newId initId : String}
theorem new_kw (Fb : ExcBaseFacts B newId initId bmB) (hT : ∀ X : String, bm.contains (.type X) = bmB.contains (.type X)) {ps : List Value} {kw : List (Str × Value)}
    (hC : h.get? C = some (excClassObj nm q C N bs bm hdct sn sub ab col dd k0 k1 k2 k3 k5 newId))
    (hq : R (.ok (.ret (.ref (h.objs.size + 1)))) ⟨(h.push { cls := .type "tuple", data := .seq ps.toArray }).push
      { cls := .ref C, data := .fields #[.ref h.objs.size, .none, .none, .none, .bool false, .none] }, g, d, t, os⟩) (hz : ps.length ≤ sizeLine) :
    codeAny (model prog w) A (.builtin newId ⟨.ref C :: ps, kw⟩) R ⟨h, g, d, t, os⟩ := by
  have he1 := Fb.ends
  have hc1 : (Value.ref C :: bm).contains (.type B) = true := by rw [List.contains_cons, hT, Fb.hasB, Bool.or_true]
  have hc2 : (Value.ref C :: bm).contains (.type "AttributeError") = false := by rw [List.contains_cons, hT, Fb.noAttr]; rfl
  have hc3 : (Value.ref C :: bm).contains (.type "NameError") = false := by rw [List.contains_cons, hT, Fb.noName]; rfl
  refine codeAny_builtinAt Fb.entry ?_
  unfold Builtin.«BaseException.__new__»
  refine wpAt_bind ?_
  show wpAt _ _ _ (stack >>= _) _ _ _
  refine wpAt_bind (wpAt_stack fun p below => wpAt_of_wpAny ?_)
  wp_walk
  refine wpAt_of_wpAny ?_
  rw [Fb.owner]
  repeat (first | with_reducible refine wpAny_madeHere_exc Fb.canon hC ?_ | with_reducible refine wpAny_loadPart_at hC ?_ | (with_reducible refine wpAny_isSubtype_exc hC ?_; first | rw [hc1] | rw [hc2] | rw [hc3]) | wp_step)
  show R _ _
  rw [Heap.size_push]
  exact hq
theorem tcall_kw (Fb : ExcBaseFacts B newId initId bmB) (hT : ∀ X : String, bm.contains (.type X) = bmB.contains (.type X)) {ps : List Value} {kw : List (Str × Value)} {fI : Addr} {Q : Fin → Shared → Prop}
    (hC : h.get? C = some (excClassObj nm q C N bs bm hdct sn sub ab col dd k0 k1 k2 k3 k5 newId))
    (hi : W.Looks (model prog w) h (typeLookup (.ref C) "__init__") (some (.ref fI))) (hb : ∀ self, W.Looks (model prog w) h (bindSpecial (.ref fI) self) (.ref fI, [self])) (hz : ps.length ≤ sizeLine)
    (hq : codeAny (model prog w) A (.call (.ref fI) ⟨.ref (h.objs.size + 1) :: ps, kw⟩)
      (fun r s' => match r with | .ok (.ret v) => v = .none ∧ Q (.done (.ret (.ref (h.objs.size + 1)))) s' | .ok _ => False | .error e => E e s')
      ⟨(h.push (W.kdv_tup ps)).push (excO C h.objs.size), g, d, t, os⟩) :
    wpAny (model prog w) A (Builtin.«type.__call__» ⟨.ref C :: ps, kw⟩) Q E ⟨h, g, d, t, os⟩ := by
  repeat (first | with_reducible refine wpAny_loadPart_at hC ?_ | with_reducible refine wpAny_madeBy_exc hC ?_ | wp_step)
  refine codeAny_call_builtin_code (Code.quiet_builtin _ Fb.quiet) (chk_kw Fb hT hC ?_)
  refine new_kw Fb hT hC ?_ hz
  show wpAny _ _ _ _ _ _
  have kk : ∀ b o, h.get? b = some o → ((h.push (W.kdv_tup ps)).push (excO C h.objs.size)).get? b = some o := fun b o e => Heap.get?_push_of_some _ (Heap.get?_push_of_some _ e)
  have hC1 := kk _ _ hC
  have hg1 : ((h.push (W.kdv_tup ps)).push (excO C h.objs.size)).get? (h.objs.size + 1) = some (excO C h.objs.size) := by heap_get
  have hcC : (Value.ref C :: bm).contains (.ref C) = true := by simp
  have i1 := hi.keeps kk
  have b1 := (hb (.ref (h.objs.size + 1))).keeps kk
  unfold isInstance
  repeat (first | with_reducible refine wpAny_loadPart_at hg1 ?_ | (with_reducible refine wpAny_isSubtype_exc hC1 ?_; rw [hcC]) | wp_step)
  show wpAny _ _ (typeLookup (.ref C) _) _ _ _
  refine i1.at ?_
  refine wpAny_holding (wpAny_bind (b1.at ?_))
  refine wpAny_bind (wpAny_call (codeAny_mono hq fun r s' z => ?_))
  rcases r with e | (v | _ | _ | _) <;> first | exact z | exact z.elim | skip
  obtain ⟨rfl, z⟩ := z
  first
    | exact wpAny_pure (wpAny_pure z)
    | (wp_walk; exact z)
theorem call_kw (Fb : ExcBaseFacts B newId initId bmB) (hT : ∀ X : String, bm.contains (.type X) = bmB.contains (.type X)) {ps : List Value} {kw : List (Str × Value)} {fI : Addr}
    (hC : h.get? C = some (excClassObj nm q C N bs bm hdct sn sub ab col dd k0 k1 k2 k3 k5 newId))
    (hi : W.Looks (model prog w) h (typeLookup (.ref C) "__init__") (some (.ref fI))) (hb : ∀ self, W.Looks (model prog w) h (bindSpecial (.ref fI) self) (.ref fI, [self])) (hz : ps.length ≤ sizeLine)
    (hq : codeAny (model prog w) (A.under (.builtin "type.__call__" ⟨.ref C :: ps, kw⟩)) (.call (.ref fI) ⟨.ref (h.objs.size + 1) :: ps, kw⟩) (W.InitBack (h.objs.size + 1) R)
      ⟨(h.push (W.kdv_tup ps)).push (excO C h.objs.size), g, d, t, os⟩) :
    codeAny (model prog w) A (.call (.ref C) ⟨ps, kw⟩) R ⟨h, g, d, t, os⟩ := by
  have f1 := tc_lookup
  have f2 := tc_bind (.ref C)
  have hTy : (⟨h, g, d, t, os⟩ : Shared).TypeIs (.ref C) "type" := ⟨_, hC, rfl⟩
  refine codeAny_of_tree ?_
  show wpAny _ _ (callAny (.ref C) _) _ _ _
  repeat (any_goals (first | assumption | with_reducible refine wpAny_loadPart_at hC ?_ | wp_step))
  refine ⟨rfl, ?_⟩
  refine codeAny_call_builtin_at (Code.quiet_builtin _ (by decide +kernel)) entry_typeCall (wpAny_check_type_call_sub hC (tcall_kw Fb hT hC hi hb hz ?_))
  refine codeAny_mono hq fun r s' z => ?_
  rcases r with e | (v | _ | _ | _) <;> exact z
end
end GW
end PySem
set_option Elab.async false
set_option linter.all false
set_option maxRecDepth 100000
set_option maxHeartbeats 4000000
namespace PySem
namespace GW
open PySem.W PySem.Calls PyProof.Rows PySem.HandSPX
/-- a field of an error: its name and the places in the text -/
structure Fl where
  f : Str
  a : Pos
  q1 : Pos
  q2 : Pos
  q3 : Pos
  q4 : Pos
def eStores (l : List Fl) : List Stmt := l.map fun p => .Assign [.Attribute (.Name "self" p.q1) p.f p.q2] (.Name p.f p.q3) p.q4
def eNames (l : List Fl) : List Expr := l.map fun p => .Name p.f p.a
def eBody (r0 r1 r2 r3 r4 : Pos) (l : List Fl) : List Stmt := .Expr (.Call (.Attribute (.Call (.Name "super" r0) [] [] r1) "__init__" r2) (eNames l) [] r3) r4 :: eStores l
/-- the class of an error, as the top has made it -/
structure ErrC (K : Frag) (C : Addr) : Prop where
  cls : ∃ nm q N bs bm sn sub ab col dd k0 k1 k2 k3 k5, K.lookup C = some (excClassObj nm q C N bs bm true sn sub ab col dd k0 k1 k2 k3 k5 "ValueError.__new__") ∧ refsVE bm = true
  sa : findIn K (.ref C) "__setattr__" = some (some (.builtin "object.__setattr__"))
  sup : ks_superIn K C C "__init__" = some (some (.builtin "ValueError.__init__"))
  opq : nsIn K cStatics "thirdparty.any" = some none
  subB : subIn K (.ref C) (.type "ValueError") = some true
  subC : mroIn K C (.ref C) = some true
/-- its __init__ -/
structure ErrI (prog : Program) (K : Frag) (mg : Str → Option Value) (C fI : Addr) (params : Arguments) (scope : Scope) (l : List Fl) : Prop where
  ini : findIn K (.ref C) "__init__" = some (some (.ref fI))
  tI : typeIn K (.ref fI) = some (.type "function")
  no : ∀ p ∈ l, findIn K (.ref C) p.f = some none
  nd : (("self" : Str) :: l.map (·.f)).Nodup
  ne : l ≠ []
  few : l.length ≤ 10
  hd : ∃ p, params.posonlyargs ++ params.args = { arg := "self", annotation := none, pos := p } :: (params.posonlyargs ++ params.args).tail
  sk : scope.kind = .function
  sco : scope.isCoroutine = false
  sge : scope.isGenerator = false
  ss : scope.names.lookup ("super" : Str) = some .globalImplicit
  sc : scope.names.lookup ("__class__" : Str) = some .free
  sl : ∀ y ∈ (("self" : Str) :: l.map (·.f)), scope.names.lookup y = some .local
  scell : ∀ x ∈ scope.names, x.2 ≠ .cell
  nodeb : ∀ p ∈ l, (p.f == ("__debug__" : Str)) = false
  msup : mg "super" = none
  ptop : (prog.main.scope.names.lookup ("super" : Str)).isSome = false
  fn : ∃ (oc : Value) (od : Option Addr) (qual : Str) (r0 r1 r2 r3 r4 : Pos) (doc pm : Value) (an : Option Addr) (cda : Addr) (ct : Value) (cc : Addr) (osl : Array (Option Value)),
    K.lookup fI = some ⟨oc, od, .func (ksFn "__init__" qual params (eBody r0 r1 r2 r3 r4 l) scope .none .none doc pm an (.ref cda) ct cc), osl⟩ ∧ codeIn K (.ref cda) qual = true ∧ (r2.endLine == r3.line) = true ∧
    (∃ cl cld csl, K.lookup cc = some ⟨cl, cld, .cell (some (.ref C)), csl⟩) ∧
    ∃ ccl cdd vs ccs file tf, K.lookup cda = some ⟨ccl, cdd, .fields vs, ccs⟩ ∧ vs[2]? = some (.str file tf) ∧ ((prog.main.file : Str) == file) = true
theorem lookup_zip_rev : ∀ (xs : List Str) (vs : List Value), xs.Nodup → xs.length = vs.length → ∀ y, ((xs.zip vs).reverse).lookup y = (xs.zip vs).lookup y
  | [], _, _, _, _ => by simp
  | x :: xs, [], _, h, _ => by simp at h
  | x :: xs, v :: vs, nd, h, y => by
    have nd' := List.nodup_cons.mp nd
    have ih := lookup_zip_rev xs vs nd'.2 (by simpa using h) y
    rw [List.zip_cons_cons, List.reverse_cons, List.lookup_append, ih]
    by_cases e : y = x
    · subst e
      have q : (xs.zip vs).lookup y = none := by
        rw [List.lookup_eq_none_iff]
        intro p hp
        have := (List.of_mem_zip (a := p.1) (b := p.2) hp).1
        simp
        intro e
        exact nd'.1 (e ▸ this)
      rw [q]
      simp [List.lookup]
    · have e' : (y == x) = false := by simpa using e
      cases q : (xs.zip vs).lookup y <;> simp [List.lookup, e', q]
/-- a made error at x -/
structure Made (h h' : Heap) (x C : Addr) (m : Str → Option Value) : Prop where
  keep : ∀ b o, b ≠ x → h.get? b = some o → h'.get? b = some o
  obj : ∃ dx t1, h'.get? x = some { cls := .ref C, dict := some dx, data := .fields #[.ref t1, .none, .none, .none, .bool false, .none] } ∧ h.objs.size ≤ dx ∧ dx ≠ x ∧ h'.Ns1 dx m
section
variable {prog : Program} {w : World} {A : Around} {E : Value → Shared → Prop} {R : Result → Shared → Prop} {s : Shared} {K : Frag} {mg : Str → Option Value} {C fI : Addr}
theorem mw_call {hp : Heap} {g : Array GenState} {d : Drawn} {t : Nat} {os : OsState} {nm q : Str} {N : Addr} {bs bm : List Value} {hdct : Bool} {sn : List Str} {sub : List Value} {ab : Bool} {col : Option Bool} {dd : Option Addr} {k0 k1 k2 k3 k5 : Option Value}
    {u e t0 : Addr} {rest : List Value} {Q : Value → Shared → Prop}
    (hC : hp.get? C = some (excClassObj nm q C N bs bm hdct sn sub ab col dd k0 k1 k2 k3 k5 "ValueError.__new__")) (he : hp.get? e = some (excO C t0)) (hu : hp.get? u = some (kxs_mw "ValueError.__init__" e)) (hz : rest.length ≤ sizeLine)
    (hq : ∀ h' t1, (∀ b o, b ≠ e → hp.get? b = some o → h'.get? b = some o) → h'.get? e = some (excO C t1) → Q .none ⟨h', g, d, t, os⟩) :
    wpAny (model prog w) A (call (.ref u) rest) Q E ⟨hp, g, d, t, os⟩ := by
  refine wpAny_call (codeAny_of_tree ?_)
  show wpAny _ A.in1 (callAny (.ref u) ⟨rest, []⟩) _ _ _
  simp only [callAny]
  refine wpAny_bind (wpAny_load hu ?_)
  simp only [kxs_mw, show (Value.type "method-wrapper" == Value.type "method" || Value.type "method-wrapper" == Value.type "builtin_function_or_method" || Value.type "method-wrapper" == Value.type "method-wrapper") = true by decide, if_true]
  refine W.KFB.if_so (by decide) ?_
  refine wpAny_bind (ESX.check_bound F.excBase_ValueError hC he rfl ?_)
  refine wpAny_bind (wpAny_pure (wpAny_pure ?_))
  refine ⟨Code.quiet_builtin _ (by decide +kernel), codeAny_builtin F.excBase_ValueError.initEntry ?_⟩
  rw [Around.under_plainId F.excBase_ValueError.init.plain _]
  wp_walk
  refine hq _ hp.objs.size (fun b o hb ho => ?_) ?_
  · rw [Heap.get?_update_other _ _ (Ne.symm hb)]
    exact Heap.get?_push_of_some _ ho
  · rw [Heap.get?_update_self _ (Heap.get?_push_of_some _ he) rfl]
    rfl
/-- the names of the fields, evaluated in a row -/
theorem names_at {env : Env} {m : Str → Option Value} {pos : Pos} (hk : env.scope.kind = .function) : ∀ (l : List Fl) (vs : List Value) (s : Shared) (Q : List Value → Shared → Prop), s.heap.Ns env.locals m →
    (∀ p ∈ l, env.kindOf p.f = some .local) → (∀ p ∈ l, (p.f == ("__debug__" : Str)) = false) → l.map (fun p => m p.f) = vs.map some → Q vs s → wpAny (model prog w) A (spliced (backTo pos (starEach (eNames l) env))) Q E s
  | [], [], s, Q, _, _, _, _, h => PyProof.Rows.spliced_none h
  | [], _ :: _, s, Q, _, _, _, e, h => by simp at e
  | _ :: _, [], s, Q, _, _, _, e, h => by simp at e
  | p :: l, v :: vs, s, Q, hn, hl, hd, e, h => by
    simp only [List.map_cons, List.cons.injEq] at e
    show wpAny _ _ (spliced (backTo pos (starEach (Expr.Name p.f p.a :: eNames l) env))) _ _ _
    refine PyProof.Rows.spliced_more ?_
    refine wpAny_Name (wpAny_loadName_local hk (hl p List.mem_cons_self) hn e.1 ?_) (hd p List.mem_cons_self)
    exact names_at hk l vs s _ hn (fun q hq => hl q (List.mem_cons_of_mem _ hq)) (fun q hq => hd q (List.mem_cons_of_mem _ hq)) e.2 h
theorem names_plain {env : Env} {pos : Pos} : ∀ (l : List Fl), (backTo pos (starEach (eNames l) env)).any (·.1) = false
  | [] => rfl
  | p :: l => by
    have ih := names_plain (env := env) (pos := pos) l
    cases l with
    | nil => rfl
    | cons q l => exact ih
theorem names_form {env : Env} {pos : Pos} : ∀ (l : List Fl), (backTo pos (starEach (eNames l) env)).all (!·.1) = true
  | [] => rfl
  | p :: l => by
    have ih := names_form (env := env) (pos := pos) l
    cases l with
    | nil => rfl
    | cons q l => exact ih
theorem names_args {M : Model} {A : Around} {E : Value → Shared → Prop} {s : Shared} {env : Env} {pos : Pos} {f : Value} {Q : Args → Shared → Prop} : ∀ {l : List Fl}, l ≠ [] →
    wpAny M A (spliced (backTo pos (starEach (eNames l) env))) (fun vs s₁ => Q ⟨vs, []⟩ s₁) E s → wpAny M A (evalArgs f true (backTo pos (starEach (eNames l) env)) []) Q E s
  | [], ne, _ => absurd rfl ne
  | p :: l, _, h => by
    have he : starEach (eNames (p :: l)) env = (false, eval (.Name p.f p.a) env) :: starEach (eNames l) env := rfl
    rw [he] at h ⊢
    exact evalArgs_plain h
/-- super().__init__(f, ..) as the evaluator takes it -/
theorem super_eval {env : Env} {r0 r1 r2 r3 : Pos} {l : List Fl} (few : l.length ≤ 10) (ln : (r2.endLine == r3.line) = true) :
    eval (.Call (.Attribute (.Call (.Name "super" r0) [] [] r1) "__init__" r2) (eNames l) [] r3) env = (do
      let ov ← attributeBase (.Call (.Name "super" r0) [] [] r1) "__init__" env (eval (.Call (.Name "super" r0) [] [] r1) env)
      standAt r2.atName
      let (f, first) ← holding [ov] (getMethod ov "__init__" (do return (← importBound (.Call (.Name "super" r0) [] [] r1) env).getD true))
      callWith r3 f first (backTo r3 (starEach (eNames l) env)) []) := by
  have e1 : methodCallForm ((eNames l).length + 0) (backTo r3 (starEach (eNames l) env)) [] = true := by
    unfold methodCallForm
    rw [names_form]
    have : (eNames l).length = l.length := by unfold eNames; simp
    simp [this]
    omega
  rw [arm_eval_Call]
  congr 1
  funext ov
  congr 1
  funext _
  show methodCall _ _ _ _ _ _ ((eNames l).length + 0) _ [] = _
  unfold methodCall
  rw [e1]
  unfold calleeOf methodCallPos
  simp only [if_true, Bool.not_true, Bool.false_or, ln]
  rfl
end
end GW
end PySem
set_option Elab.async false
set_option linter.all false
set_option maxRecDepth 100000
set_option maxHeartbeats 4000000
namespace PySem
namespace GW
open PySem.W PySem.Calls PyProof.Rows PySem.HandSPX
theorem within_lookup (done : List (Str × Value)) : Within (fun y => done.lookup y) (done.map (·.1)) := fun y hy => by
  cases q : done.lookup y with
  | none => exact absurd q hy
  | some v =>
    obtain ⟨l1, l2, e, _⟩ := List.lookup_eq_some_iff.mp q
    rw [e]
    simp
theorem ns1_eq {h : Heap} {a : Addr} {m m' : Str → Option Value} (x : h.Ns1 a m) (e : ∀ y, m y = m' y) : h.Ns1 a m' := by
  have : m = m' := funext e
  rw [← this]
  exact x
theorem lookup_put (done : List (Str × Value)) (f : Str) (v : Value) (y : Str) : (if y = f then some v else done.lookup y) = ((f, v) :: done).lookup y := by
  by_cases e : y = f
  · subst e
    rw [if_pos rfl]
    simp [List.lookup]
  · have e' : (y == f) = false := by simpa using e
    rw [if_neg e]
    simp [List.lookup, e']
section
variable {prog : Program} {w : World} {A : Around} {E : Value → Shared → Prop} {R : Result → Shared → Prop} {s : Shared} {K : Frag} {mg : Str → Option Value} {C fI : Addr}
/-- self.f = f, for every further field: the error at x has its dict at dx -/
theorem stores_more {env : Env} {m : Str → Option Value} {x dx t1 : Addr} (T : ErrC K C) (hk : env.scope.kind = .function) (hx : K.lookup x = none) (hself : env.kindOf "self" = some .local) (ms : m "self" = some (.ref x)) :
    ∀ (l : List Fl) (vs : List Value) (done : List (Str × Value)) (s : Shared) (Q : Flow → Shared → Prop), K.In s.heap → K.lookup dx = none → dx ≠ env.locals → dx ≠ x → s.heap.Ns env.locals m →
    s.heap.get? x = some { cls := .ref C, dict := some dx, data := .fields #[.ref t1, .none, .none, .none, .bool false, .none] } → s.heap.Ns1 dx (fun y => done.lookup y) → done.length + l.length ≤ 100 →
    (∀ p ∈ l, env.kindOf p.f = some .local) → (∀ p ∈ l, (p.f == ("__debug__" : Str)) = false) → (∀ p ∈ l, findIn K (.ref C) p.f = some none) → l.map (fun p => m p.f) = vs.map some →
    (∀ h' tk, (∀ b o, b ≠ dx → s.heap.get? b = some o → h'.get? b = some o) → h'.Ns1 dx (fun y => (((l.map (·.f)).zip vs).reverse ++ done).lookup y) → Q .next { s with heap := h', toks := tk }) →
    wpAny (model prog w) A (execs (eStores l) env) Q E s
  | [], vs, done, s, Q, X, hdx, hL, hdne, hn, ho, hns, few, hl, hd, hno, e, h => by
    refine wpAny_execs_nil ?_
    exact h s.heap s.toks (fun _ _ _ q => q) (by simpa using hns)
  | p :: l, [], done, s, Q, X, hdx, hL, hdne, hn, ho, hns, few, hl, hd, hno, e, h => by simp at e
  | p :: l, v :: vs, done, s, Q, X, hdx, hL, hdne, hn, ho, hns, few, hl, hd, hno, e, h => by
    simp only [List.map_cons, List.cons.injEq] at e
    obtain ⟨nm, q, N, bs, bm, sn, sub, ab, col, dd, k0, k1, k2, k3, k5, hC, hbm⟩ := T.cls
    have hcl : clsIn K C = some { name := nm, bases := bs, mro := .ref C :: bm, ns := N, qualname := q, hasDict := true, slotNames := sn, subclasses := sub, abstract := ab, collection := col, hasDel := false } := by unfold clsIn; rw [hC] <;> rfl
    show wpAny _ _ (execs (Stmt.Assign [.Attribute (.Name "self" p.q1) p.f p.q2] (.Name p.f p.q3) p.q4 :: eStores l) env) _ _ _
    refine wpAny_execs_cons (plainObj_wpAny_Assign_Attribute ?_)
    refine wpAny_Name (wpAny_loadName_local hk (hl p List.mem_cons_self) hn e.1 ?_) (hd p List.mem_cons_self)
    refine wpAny_Name (wpAny_loadName_local hk hself hn ms ?_) (by decide)
    obtain ⟨oD, esD, epD, hoD, hdD, _⟩ := hns.count (within_lookup done)
    refine set_plain X (ox := { cls := .ref C, dict := some dx, data := .fields #[.ref t1, .none, .none, .none, .bool false, .none] }) (od := some oD) ⟨ho, rfl, rfl, hoD⟩ T.sa ?_
    obtain ⟨hp, g, d, t, os⟩ := s
    refine OEX.osa_old X ho hns (within_lookup done) (by rw [List.length_map]; simp at few; omega) hcl (show refsVE (.ref C :: bm) = true from hbm) rfl (hno p List.mem_cons_self) (fun h' tk k' ns' => ?_)
    show wpAny _ _ (execs _ _) _ _ _
    have X' : K.In h' := fun a o q => k' a o (fun z => by rw [z, hdx] at q; cases q) (X a o q)
    refine stores_more (x := x) (t1 := t1) T hk hx hself ms l vs ((p.f, v) :: done) ⟨h', g, d, tk, os⟩ Q X' hdx hL hdne (hn.at fun o q => k' _ o hL.symm q) (k' _ _ hdne.symm ho) (ns1_eq ns' fun y => lookup_put done p.f v y) (by simp at few ⊢; omega)
      (fun q hq => hl q (List.mem_cons_of_mem _ hq)) (fun q hq => hd q (List.mem_cons_of_mem _ hq)) (fun q hq => hno q (List.mem_cons_of_mem _ hq)) e.2 fun h2 tk2 k2 n2 => ?_
    refine h h2 tk2 (fun b o hb q => k2 b o hb (k' b o hb q)) (ns1_eq n2 fun y => ?_)
    simp
def mm (x : Addr) (l : List Fl) (vs : List Value) (y : Str) : Option Value := List.lookup y (((Str.ofString "self") :: l.map (fun p => p.f)).zip (Value.ref x :: vs))
theorem mm_self {x : Addr} {l : List Fl} {vs : List Value} : mm x l vs (Str.ofString "self") = some (Value.ref x) := by
  unfold mm
  simp [List.lookup]
theorem map_lookup : ∀ (xs : List Str) (ws : List Value), xs.Nodup → xs.length = ws.length → xs.map (fun y => (xs.zip ws).lookup y) = ws.map some
  | [], [], _, _ => rfl
  | [], _ :: _, _, e => by simp at e
  | _ :: _, [], _, e => by simp at e
  | y :: ys, v :: ws, nd, e => by
    have nd' := List.nodup_cons.mp nd
    have r := map_lookup ys ws nd'.2 (by simpa using e)
    simp only [List.map_cons, List.zip_cons_cons]
    congr 1
    · simp [List.lookup]
    · rw [← r]
      refine List.map_congr_left fun z hz => ?_
      have e' : (z == y) = false := by
        simp
        intro e
        exact nd'.1 (e ▸ hz)
      simp [List.lookup, e']
theorem mm_fields {x : Addr} {l : List Fl} {vs : List Value} (nd0 : ((Str.ofString "self") :: l.map (fun p => p.f)).Nodup) (hlen : l.length = vs.length) : l.map (fun p => mm x l vs p.f) = vs.map some := by
  have nd := List.nodup_cons.mp nd0
  have r := map_lookup (l.map (fun p => p.f)) vs nd.2 (by simpa using hlen)
  rw [List.map_map] at r
  rw [← r]
  refine List.map_congr_left fun p hp => ?_
  have e' : (p.f == (Str.ofString "self")) = false := by
    simp
    intro e
    exact nd.1 (e ▸ List.mem_map_of_mem hp)
  unfold mm
  simp [List.lookup, e']
theorem err_init {params : Arguments} {scope : Scope} {l : List Fl} (T : ErrC K C) (I : ErrI prog K mg C fI params scope l) {x t0 : Addr} {vs : List Value} {args : Args} (Md : L2.Mod K mg s.heap) (hx : s.heap.get? x = some (excO C t0)) (hnx : K.lookup x = none)
    (hroom : A.depth < recursionLimit) (hlen : l.length = vs.length)
    (hbind : ∀ (qual : Str) (body : List Stmt) (doc pm : Value) (an : Option Addr) (cda : Value) (ct : Value) (cc : Addr), BindsTo s (ksFn "__init__" qual params body scope .none .none doc pm an cda ct cc) args (((Str.ofString "self") :: l.map (fun p => p.f)).zip (Value.ref x :: vs)))
    (hq : ∀ h' tk, Made s.heap h' x C (fun y => List.lookup y ((l.map (fun p => p.f)).zip vs)) → R (.ok (.ret .none)) { s with heap := h', toks := tk }) :
    codeAny (model prog w) A (.call (.ref fI) args) R s := by
  obtain ⟨oc, od, qual, r0, r1, r2, r3, r4, doc, pm, an, cda, ct, cc, osl, ho, hcd, hln, ⟨cl, cld, csl, hcell⟩, ccl, cdd, fvs, ccs, file, tf, hcode, hvs, hfile⟩ := I.fn
  obtain ⟨nm, q, N, bs, bm, sn, sub, ab, col, dd, k0, k1, k2, k3, k5, hC, hbm⟩ := T.cls
  have hcl : clsIn K C = some { name := nm, bases := bs, mro := .ref C :: bm, ns := N, qualname := q, hasDict := true, slotNames := sn, subclasses := sub, abstract := ab, collection := col, hasDel := false } := by unfold clsIn; rw [hC] <;> rfl
  obtain ⟨mb, hmb, hbo⟩ := Md.blt
  have X := Md.kin
  have hlen' : ((Str.ofString "self") :: l.map (fun p => p.f)).length = (Value.ref x :: vs).length := by simp [hlen]
  refine ks_codeAny_call_defAt (fd := ksFn "__init__" qual params (eBody r0 r1 r2 r3 r4 l) scope .none .none doc pm an (.ref cda) ct cc) (body := eBody r0 r1 r2 r3 r4 l) (binds := ((Str.ofString "self") :: l.map (fun p => p.f)).zip (Value.ref x :: vs))
    hroom (X _ _ ho) rfl Md.nolimit (codeRec_of X hcd) rfl (hbind _ _ _ _ _ _ _ _) I.scell (fun y hy => I.sl _ (List.of_mem_zip (a := y.1) (b := y.2) hy).1) (fun h₁ hns kk => ?_) I.sco I.sge I.sk
  obtain ⟨hp, g, d, t, os⟩ := s
  have hxL : hp.objs.size ≠ x := Nat.ne_of_gt (Heap.lt_size hx)
  have X₁ : K.In h₁ := X.keeps kk
  have hx₁ := kk _ _ hx
  have env_eq : callEnv (ksFn "__init__" qual params (eBody r0 r1 r2 r3 r4 l) scope .none .none doc pm an (.ref cda) ct cc) hp.objs.size fI = ksEnv qual scope hp.objs.size fI (.ref cda) cc := rfl
  rw [env_eq]
  have hns' : h₁.Ns hp.objs.size (mm x l vs) := by
    have e : mm x l vs = fun y => List.lookup y (((Str.ofString "self") :: l.map (fun p => p.f)).zip (Value.ref x :: vs)).reverse := funext fun y => (lookup_zip_rev _ _ I.nd hlen' y).symm
    rw [e]
    exact hns
  have mf : l.map (fun p => mm x l vs p.f) = vs.map some := mm_fields I.nd hlen
  have kself : (ksEnv qual scope hp.objs.size fI (.ref cda) cc).kindOf "self" = some .local := I.sl _ List.mem_cons_self
  have kf : ∀ p ∈ l, (ksEnv qual scope hp.objs.size fI (.ref cda) cc).kindOf p.f = some .local := fun p hp => I.sl _ (List.mem_cons_of_mem _ (List.mem_map_of_mem hp))
  have hi : interactive (ksEnv qual scope hp.objs.size fI (.ref cda) cc) = false := by
    unfold interactive
    rw [show (ksEnv qual scope hp.objs.size fI (.ref cda) cc).scope.kind = .function from I.sk]
    rfl
  refine ks_wpAt_execs_cons (ks_wpAt_Expr_any (ks_wpAt_MethodCall ?_ (super_eval I.few hln)) hi (by cases l <;> rfl))
  obtain ⟨ap, hap⟩ := I.hd
  obtain ⟨oD, hD1, hD2⟩ : ∃ oD, h₁.get? C = some oD ∧ oD.data = .cls { name := nm, bases := bs, mro := .ref C :: bm, ns := N, qualname := q, hasDict := true, slotNames := sn, subclasses := sub, abstract := ab, collection := col, hasDel := false } := ⟨_, X₁ _ _ hC, rfl⟩
  refine ks_wpAt_super_base (env := ksEnv qual scope hp.objs.size fI (.ref cda) cc) (ar := { arg := "self", annotation := none, pos := ap }) I.ss I.sc (by decide) rfl (X₁ _ _ ho) rfl (by show (params.posonlyargs ++ params.args).head? = _; rw [hap]; rfl) rfl (X₁ _ _ hcode) rfl hvs hfile I.ptop ?_
  refine ks_loadName_global I.sk I.ss (loadGlobal_builtin (env := ksEnv qual scope hp.objs.size fI (.ref cda) cc) (Md.glob.keeps kk) I.msup (hmb.keeps kk) ((hbo _ (by decide +kernel)).trans (by decide +kernel)) ⟨rfl, ?_⟩)
  refine wpAny_loadName_free I.sk I.sc rfl ⟨_, X₁ _ _ hcell, rfl⟩ ?_
  refine wpAny_loadName_local I.sk kself hns' mm_self ?_
  refine ks_wpAny_isType_cls hD1 hD2 ⟨rfl, ?_⟩
  have IA : InstAt h₁ x (excO C t0) C none := ⟨hx₁, rfl, rfl, trivial⟩
  refine ks_wpAny_call_super hD1 hD2 hx₁ rfl (fun c e => by cases e) (looks_mroIn X₁ T.subC) (fun h₂ e₂ kk₂ => ?_)
  have X₂ : K.In h₂ := X₁.keeps kk₂
  have IA₂ : InstAt h₂ x (excO C t0) C none := ⟨kk₂ _ _ hx₁, rfl, rfl, trivial⟩
  have hm := T.sup
  unfold ks_superIn at hm
  rw [hcl] at hm
  refine kxs_getMethod kxs_ValueError e₂ (looks_opaque X₂ T.opq) (l₀ := .ref C :: bm) ?_ rfl X₂ hm (IA₂.type.andThen (looks_subIn X₂ T.subB)) (ks_ne X₂ IA₂ hcl) (by decide) ?_
  · exact fun A Q E s k q => wpAny_bind ((looks_clsIn X₂ hcl) A _ E s k (wpAny_pure q))
  have kk₃ : ∀ b o, h₂.get? b = some o → (h₂.push (kxs_mw "ValueError.__init__" x)).get? b = some o := fun b o e => Heap.get?_push_of_some _ e
  have k13 : ∀ b o, h₁.get? b = some o → (h₂.push (kxs_mw "ValueError.__init__" x)).get? b = some o := fun b o e => kk₃ b o (kk₂ b o e)
  refine kxs_callWith (i := "ValueError.__init__") (x := x) (names_plain l) ?_
  refine names_args I.ne ?_
  refine names_at I.sk l vs _ _ (hns'.keeps k13) kf I.nodeb mf ?_
  have hmw : (h₂.push (kxs_mw "ValueError.__init__" x)).get? h₂.objs.size = some (kxs_mw "ValueError.__init__" x) := Heap.get?_push_at rfl rfl
  refine ⟨hmw, ?_⟩
  have hvl : vs.length ≤ sizeLine := by
    have := I.few
    rw [sizeLine_eq]
    omega
  refine mw_call (rest := vs) (t0 := t0) (k13 _ _ (X₁ _ _ hC)) (k13 _ _ hx₁) hmw hvl (fun h₄ t1 kk₄ hx₄ => ?_)
  refine wpAt_of_wpAny ?_
  have nxC : ∀ a o, K.lookup a = some o → a ≠ x := fun a o e z => by rw [z, hnx] at e; cases e
  have X₄ : K.In h₄ := fun a o e => kk₄ a o (nxC a o e) (k13 _ _ (X₁ a o e))
  have hL₄ : h₄.Ns hp.objs.size (mm x l vs) := (hns'.keeps k13).at fun o e => kk₄ _ o hxL e
  have old₄ : ∀ b o, b ≠ x → hp.get? b = some o → h₄.get? b = some o := fun b o hb e => kk₄ b o hb (k13 b o (kk b o e))
  have hne := I.ne
  have hno := I.no
  have hdb := I.nodeb
  have hfew := I.few
  have hnd := (List.nodup_cons.mp I.nd).2
  cases l with
  | nil => exact absurd rfl hne
  | cons p l =>
    cases vs with
    | nil => simp at hlen
    | cons v vs =>
      simp only [List.map_cons, List.cons.injEq] at mf
      show wpAny _ _ (execs (Stmt.Assign [.Attribute (.Name "self" p.q1) p.f p.q2] (.Name p.f p.q3) p.q4 :: eStores l) _) _ _ _
      refine wpAny_execs_cons (plainObj_wpAny_Assign_Attribute ?_)
      refine wpAny_Name (wpAny_loadName_local I.sk (kf p List.mem_cons_self) hL₄ mf.1 ?_) (hdb p List.mem_cons_self)
      refine wpAny_Name (wpAny_loadName_local I.sk kself hL₄ mm_self ?_) (by decide)
      refine set_plain X₄ (ox := excO C t1) (od := none) ⟨hx₄, rfl, rfl, trivial⟩ T.sa ?_
      refine exc_osa X₄ hx₄ hcl (show refsVE (.ref C :: bm) = true from hbm) rfl (hno p List.mem_cons_self) (fun h₅ tk₅ dx k₅ dn dne hx₅ hn₅ => ?_)
      show wpAny _ _ (execs _ _) _ _ _
      have z4 : hp.objs.size < h₄.objs.size := hL₄.lt
      have nKd : K.lookup dx = none := by
        cases e : K.lookup dx with
        | none => rfl
        | some o => exact absurd (Heap.lt_size (X₄ _ _ e)) (Nat.not_lt.mpr dn)
      have X₅ : K.In h₅ := fun a o e => k₅ a o (nxC a o e) (X₄ a o e)
      have dL : dx ≠ hp.objs.size := Nat.ne_of_gt (Nat.lt_of_lt_of_le z4 dn)
      refine stores_more (x := x) (dx := dx) (t1 := t1) T I.sk hnx kself mm_self l vs [(p.f, v)] _ _ X₅ nKd dL dne (hL₄.at fun o e => k₅ _ o hxL e) hx₅ (ns1_eq hn₅ fun y => lookup_put [] p.f v y) (by simp at hfew ⊢; omega)
        (fun q hq => kf q (List.mem_cons_of_mem _ hq)) (fun q hq => hdb q (List.mem_cons_of_mem _ hq)) (fun q hq => hno q (List.mem_cons_of_mem _ hq)) mf.2 fun h₆ tk₆ k₆ n₆ => ?_
      refine hq h₆ tk₆ ⟨fun b o hb e => ?_, dx, t1, k₆ _ _ dne.symm hx₅, Nat.le_trans (Nat.le_of_lt z4) dn, dne, ns1_eq n₆ fun y => ?_⟩
      · refine k₆ b o ?_ (k₅ b o hb (old₄ b o hb e))
        exact Nat.ne_of_lt (Nat.lt_of_lt_of_le (Nat.lt_trans (Heap.lt_size e) z4) dn)
      · have e1 : (((l.map (fun p => p.f)).zip vs).reverse ++ [(p.f, v)]) = (((p :: l).map (fun p => p.f)).zip (v :: vs)).reverse := by simp
        rw [e1]
        exact lookup_zip_rev _ _ hnd (by simpa using hlen) y
end
end GW
end PySem
set_option Elab.async false
set_option linter.all false
set_option maxRecDepth 100000
set_option maxHeartbeats 4000000
namespace PySem
namespace GW
open PySem.W PySem.Calls PyProof.Rows PySem.HandSPX
/-- a new error at e, its own dict at d -/
structure NewErr (h h' : Heap) (e C d : Addr) (m : Str → Option Value) : Prop where
  keep : ∀ b o, h.get? b = some o → h'.get? b = some o
  new : h.objs.size ≤ e
  dnew : h.objs.size ≤ d
  dne : d ≠ e
  obj : ∃ t1, h'.get? e = some { cls := .ref C, dict := some d, data := .fields #[.ref t1, .none, .none, .none, .bool false, .none] }
  ns : h'.Ns1 d m
theorem mod_keeps {K : Frag} {mg : Str → Option Value} {h h' : Heap} (M : L2.Mod K mg h) (k : ∀ b o, h.get? b = some o → h'.get? b = some o) : L2.Mod K mg h' :=
  ⟨M.kin.keeps k, M.glob.keeps k, let ⟨mb, e, q⟩ := M.blt; ⟨mb, e.keeps k, q⟩, M.nolimit.keeps k⟩
section
variable {prog : Program} {w : World} {A : Around} {E : Value → Shared → Prop} {R : Result → Shared → Prop} {s : Shared} {K : Frag} {mg : Str → Option Value} {C fI : Addr}
theorem err_made {params : Arguments} {scope : Scope} {l : List Fl} (T : ErrC K C) (I : ErrI prog K mg C fI params scope l) {ps vs : List Value} {kw : List (Str × Value)} (Md : L2.Mod K mg s.heap)
    (hroom : A.depth + 1 < recursionLimit) (hlen : l.length = vs.length) (hz : ps.length ≤ sizeLine)
    (hbind : ∀ (s' : Shared) (e : Addr) (qual : Str) (body : List Stmt) (doc pm : Value) (an : Option Addr) (cda : Value) (ct : Value) (cc : Addr), BindsTo s' (ksFn "__init__" qual params body scope .none .none doc pm an cda ct cc) ⟨.ref e :: ps, kw⟩ (((Str.ofString "self") :: l.map (fun p => p.f)).zip (Value.ref e :: vs)))
    (hq : ∀ h' tk e d, NewErr s.heap h' e C d (fun y => List.lookup y ((l.map (fun p => p.f)).zip vs)) → R (.ok (.ret (.ref e))) { s with heap := h', toks := tk }) :
    codeAny (model prog w) A (.call (.ref C) ⟨ps, kw⟩) R s := by
  obtain ⟨nm, q, N, bs, bm, sn, sub, ab, col, dd, k0, k1, k2, k3, k5, hC, hbm⟩ := T.cls
  obtain ⟨hp, g, d, t, os⟩ := s
  have X := Md.kin
  have kk : ∀ b o, hp.get? b = some o → ((hp.push (kdv_tup ps)).push (excO C hp.objs.size)).get? b = some o := fun b o e => Heap.get?_push_of_some _ (Heap.get?_push_of_some _ e)
  have hget : ((hp.push (kdv_tup ps)).push (excO C hp.objs.size)).get? (hp.objs.size + 1) = some (excO C hp.objs.size) := by heap_get
  have hnx : K.lookup (hp.objs.size + 1) = none := by
    cases e : K.lookup (hp.objs.size + 1) with
    | none => rfl
    | some o =>
      have z : hp.get? (hp.objs.size + 1) = some o := X _ _ e
      exact absurd (Nat.lt_of_succ_lt (Heap.lt_size z)) (Nat.lt_irrefl _)
  refine call_kw F.excBase_ValueError (fun X => refsVE_contains X bm hbm) (X _ _ hC) (looks_findIn X I.ini) (fun self => bind_fn X self I.tI) hz ?_
  refine err_init (s := ⟨(hp.push (kdv_tup ps)).push (excO C hp.objs.size), g, d, t, os⟩) T I (mod_keeps Md kk) hget hnx ?_ hlen (fun qual body doc pm an cda ct cc => hbind _ _ _ _ _ _ _ _ _ _) fun h' tk' M => ?_
  · show A.depth + 1 < recursionLimit
    exact hroom
  · obtain ⟨dx, t1, hx, dn, dne, hns⟩ := M.obj
    have old : ∀ b o, hp.get? b = some o → h'.get? b = some o := fun b o e => M.keep b o (Nat.ne_of_lt (Nat.lt_succ_of_lt (Heap.lt_size e))) (kk b o e)
    have z : hp.objs.size ≤ dx := by
      have q : ((hp.push (kdv_tup ps)).push (excO C hp.objs.size)).objs.size ≤ dx := dn
      rw [Heap.size_push, Heap.size_push] at q
      omega
    exact ⟨rfl, hq h' tk' (hp.objs.size + 1) dx ⟨old, Nat.le_succ _, z, dne, ⟨t1, hx⟩, hns⟩⟩
end
end GW
end PySem
namespace L2
open PySem PySem.Spec PyProof.Rows PySem.GW
/-- the module's facts at the state at hand -/
theorem Inv.modNow {X : Cx} {pins : List (Addr × Obj)} {σ : St} {H : Hp} {s : Shared} (I : Inv X pins σ H s) : Mod X.K X.mg s.heap := mod_keeps I.ok.mod I.bk
/-- how the values and the keywords of a call come to the fields of an error -/
def EBind (params : Arguments) (scope : Scope) (l : List Fl) (n : Nat) (ks : List Str) : Prop :=
  ∀ (us ws : List Value), us.length = n → ws.length = ks.length → ∀ (s' : Shared) (e : Addr) (qual : Str) (body : List Stmt) (doc pm : Value) (an : Option Addr) (cda : Value) (ct : Value) (cc : Addr),
    BindsTo s' (PySem.W.ksFn "__init__" qual params body scope .none .none doc pm an cda ct cc) ⟨.ref e :: us, ks.zip ws⟩ (((Str.ofString "self") :: l.map (fun p => p.f)).zip (Value.ref e :: (us ++ ws)))
/-- e makes a new error of the class at C, whose fields fs hold the values that t tells -/
def PEr (X : Cx) (e : Expr) (C : Addr) (fs : List Str) (t : TA) : Prop :=
  ∀ (pins : List (Addr × Obj)) (s : Shared) (σ : St) (H : Hp) (Q : List V → Hp → Prop), Inv X pins σ H s → t σ H Q → wpAny (model X.prog X.w) X.A (eval e X.env)
    (fun u s' => ∃ (a d : Addr) (vs : List V) (us : List Value) (H' : Hp) (s1 : Shared) (h' : Heap) (tk : Nat), u = .ref a ∧ Inv X pins σ H' s1 ∧ s' = { s1 with heap := h', toks := tk } ∧ NewErr s1.heap h' a C d (fun y => List.lookup y (fs.zip us)) ∧ Vals vs us ∧ fs.length = us.length ∧ Q vs H') X.xe s
section
variable {X : Cx} {C fI : Addr} {x : Str} {p pos : Pos} {e : Expr} {es : List Expr} {kws : List Keyword} {t tk : TA} {params : Arguments} {scope : Scope} {l : List Fl} {n k : Nat} {ks : List Str}
def tApp (n m : Nat) (t tk : TA) : TA := fun σ H Q => t σ H fun vs H1 => tk σ H1 fun zs H2 => vs.length = n ∧ zs.length = m ∧ Q (vs ++ zs) H2
def tLen (n : Nat) (t : TA) : TA := fun σ H Q => t σ H fun vs H1 => vs.length = n ∧ Q vs H1
theorem err_run (T : ErrC X.K C) (I : ErrI X.prog X.K X.mg C fI params scope l) (hr : Room k X.A) (hb : EBind params scope l n ks) (hn : n + ks.length = l.length) {pins : List (Addr × Obj)} {σ : St} {H : Hp} {s : Shared} {Q : List V → Hp → Prop} {us ws : List Value} {vs zs : List V}
    (J : Inv X pins σ H s) (r : Vals vs us) (rz : Vals zs ws) (l1 : vs.length = n) (l2 : zs.length = ks.length) (h : Q (vs ++ zs) H) :
    wpAny (model X.prog X.w) X.A (call (.ref C) us (ks.zip ws)) (fun u s' => ∃ (a d : Addr) (vs : List V) (us : List Value) (H' : Hp) (s1 : Shared) (h' : Heap) (tk : Nat), u = .ref a ∧ Inv X pins σ H' s1 ∧ s' = { s1 with heap := h', toks := tk } ∧ NewErr s1.heap h' a C d (fun y => List.lookup y ((l.map (fun p => p.f)).zip us)) ∧ Vals vs us ∧ (l.map (fun p => p.f)).length = us.length ∧ Q vs H') X.xe s := by
  have e1 : us.length = n := r.length.symm.trans l1
  have e2 : ws.length = ks.length := rz.length.symm.trans l2
  have few := I.few
  have hl : l.length = (us ++ ws).length := by rw [List.length_append]; omega
  refine wpAny_call (err_made T I J.modNow (by have := hr.dp; omega) hl (by rw [sizeLine_eq]; omega) (hb us ws e1 e2) fun h' tk a d M => ?_)
  exact ⟨a, d, vs ++ zs, us ++ ws, H, s, h', tk, rfl, J, rfl, M, Vals.append r rz, by rw [List.length_map]; exact hl, h⟩
theorem per_pos (T : ErrC X.K C) (I : ErrI X.prog X.K X.mg C fI params scope l) (hr : Room k X.A) (hg : Gl X x) (gC : X.mg x = some (.ref C)) (kC : PySem.W.keepIn X.K (.ref C) = true) (hb : EBind params scope l l.length [])
    (ha : PA X (e :: es) t) (hdb : (x == ("__debug__" : Str)) = false := by decide) (he : starEach (e :: es) X.env = (false, eval e X.env) :: starEach es X.env := by rfl) (hpl : (backTo pos (starEach es X.env)).any (·.1) = false := by rfl) :
    PEr X (.Call (.Name x p) (e :: es) [] pos) C (l.map (fun p => p.f)) (tLen l.length t) := by
  intro pins s σ H Q J h
  refine wpAny_Call_Name_kw (ld_glob J hg gC ?_ hdb)
  refine PySem.W.callWith_K (h₀ := X.base) J.ok.mod.kin kC (thn (ha.run pos pins s σ H _ J h) fun us s1 hh => ?_) he hpl
  obtain ⟨vs, H1, J1, r, q1, q2⟩ := hh
  refine ⟨J1.kIn, ?_⟩
  have := err_run (zs := []) (ws := []) T I hr hb (by simp) J1 r .nil q1 rfl (Q := Q) (by simpa using q2)
  simpa using this
theorem per_mix (T : ErrC X.K C) (I : ErrI X.prog X.K X.mg C fI params scope l) (hr : Room k X.A) (hg : Gl X x) (gC : X.mg x = some (.ref C)) (kC : PySem.W.keepIn X.K (.ref C) = true) (hb : EBind params scope l n ks) (hn : n + ks.length = l.length)
    (ha : PA X (e :: es) t) (hkw : PK X kws tk) (hall : (backToKw pos (keywordEach kws X.env)).all (·.1.isSome) = true := by rfl) (hks : (backToKw pos (keywordEach kws X.env)).filterMap (·.1) = ks := by rfl)
    (hdb : (x == ("__debug__" : Str)) = false := by decide) (he : starEach (e :: es) X.env = (false, eval e X.env) :: starEach es X.env := by rfl)
    (hpl : ((backTo pos (starEach (e :: es) X.env)).any (·.1) || (backToKw pos (keywordEach kws X.env)).any (·.1.isNone)) = false := by rfl) :
    PEr X (.Call (.Name x p) (e :: es) kws pos) C (l.map (fun p => p.f)) (tApp n ks.length t tk) := by
  intro pins s σ H Q J h
  refine wpAny_Call_Name_kw (ld_glob J hg gC ?_ hdb)
  refine PySem.W.callWith_KW (h₀ := X.base) J.ok.mod.kin kC hall (thn (ha.run pos pins s σ H _ J h) fun us s1 ⟨vs, H1, J1, r, q⟩ => ?_) hpl he
  refine thn (hkw.run pos pins s1 σ H1 _ J1 q) fun ws s2 ⟨zs, H2, J2, rz, l1, l2, q2⟩ => ⟨J2.kIn, ?_⟩
  rw [hks]
  exact err_run T I hr hb hn J2 r rz l1 l2 q2
theorem per_kw (T : ErrC X.K C) (I : ErrI X.prog X.K X.mg C fI params scope l) (hr : Room k X.A) (hg : Gl X x) (gC : X.mg x = some (.ref C)) (kC : PySem.W.keepIn X.K (.ref C) = true) (hb : EBind params scope l 0 ks) (hn : ks.length = l.length)
    (hkw : PK X kws tk) (hall : (backToKw pos (keywordEach kws X.env)).all (·.1.isSome) = true := by rfl) (hks : (backToKw pos (keywordEach kws X.env)).filterMap (·.1) = ks := by rfl)
    (hdb : (x == ("__debug__" : Str)) = false := by decide)
    (hpl : ((backTo pos (starEach [] X.env)).any (·.1) || (backToKw pos (keywordEach kws X.env)).any (·.1.isNone)) = false := by rfl) :
    PEr X (.Call (.Name x p) [] kws pos) C (l.map (fun p => p.f)) (tLen ks.length tk) := by
  intro pins s σ H Q J h
  refine wpAny_Call_Name_kw (ld_glob J hg gC ?_ hdb)
  refine PySem.W.callWith_KW0 (h₀ := X.base) J.ok.mod.kin kC hall (thn (hkw.run pos pins s σ H _ J h) fun ws s2 ⟨zs, H2, J2, rz, l2, q2⟩ => ⟨J2.kIn, ?_⟩) hpl
  rw [hks]
  exact err_run (vs := []) T I hr hb (by omega) J2 .nil rz rfl l2 q2
end
end L2
set_option Elab.async false
set_option linter.all false
set_option maxRecDepth 100000
set_option maxHeartbeats 4000000
namespace PySem
namespace GW
open PySem PySem.W PySem.Spec PySem.Calls PyProof.Rows PySem.HandSPX
section
variable {prog : Program} {w : World} {A : Around} {E : Value → Shared → Prop} {s : Shared} {K : Frag} {x D : Addr} {ox : Obj} {od : Option Obj}
theorem findObj_any {C : Addr} {name : Str} {a g : Value} (hc : (clsIn K C).isSome = true) (ha : findIn K (.ref C) name = some (some a)) (hg : specialIn K a "__get__" = some (some g)) (ht : takesIn K a = some true) : findObj K C od name = some (.bind g a) := by
  obtain ⟨cd, hcd⟩ := Option.isSome_iff_exists.mp hc
  unfold findObj
  rw [hcd, Option.bind_some, ha, Option.bind_some]
  simp [hg, ht]
theorem class_of {Q : Option Value → Shared → Prop} (Z : L2.ExcC K D) (X : K.In s.heap) (I : InstAt s.heap x ox D od) (h : Q (some (.ref D)) { s with toks := s.toks + 1 }) : wpAny (model prog w) A (getAttr? (.ref x) "__class__") Q E s := by
  have hf : findObj K D od "__class__" = some (.bind (.builtin "getset_descriptor.__get__") (.builtin "object.__class__")) := findObj_any (by obtain ⟨cd, hc, _⟩ := any_some Z.hd; rw [hc]; rfl) Z.ha Z.hn Z.ht
  obtain ⟨hp, g, d, t, os⟩ := s
  have g0 := I.type (M := model prog w)
  have g1 := looks_findIn (M := model prog w) X Z.hg
  have g2 := looks_findIn (M := model prog w) X Z.hk
  have g3 := looks_find (M := model prog w) X I hf
  have su : Looks (model prog w) hp (isInstance (.ref x) (.type "BaseException")) true := g0.andThen (looks_subIn X Z.hs)
  have b0 : (false && onTheHeap (Value.builtin "BaseException.__getattribute__")) = false := rfl
  have b2 : (Value.builtin "BaseException.__getattribute__" == Value.builtin "object.__getattribute__") = false := by decide +kernel
  have b1 : (onTheHeap (Value.ref D) && Value.builtin "BaseException.__getattribute__" == Value.builtin "object.__getattribute__") = false := by rw [b2]; rfl
  unfold getAttr? getAttrBy? getAttrBy
  refine wpAny_bind (wpAny_mkText (wpAny_bind (wpAny_attempt (wpAny_holding (wpAny_bind (g0.at (wpAny_bind (g1.at ?_))))))))
  show wpAny _ _ (if (onTheHeap (Value.ref D) && Value.builtin "BaseException.__getattribute__" == Value.builtin "object.__getattribute__") = true then _ else _) _ _ _
  rw [b1, if_neg Bool.false_ne_true]
  unfold getAttrByItsOwn hookBefore
  refine wpAny_bind ?_
  rw [if_pos (show onTheHeap (Value.ref D) = true from rfl)]
  refine g2.at ?_
  refine wpAny_bind (wpAny_attempt (wpAny_holding ?_))
  unfold callGetattribute
  rw [b0, if_neg Bool.false_ne_true]
  unfold boundAndCalled
  rw [PySem.F.excAttr_ValueError.ga.bind (.ref x)]
  refine wpAny_bind (wpAny_pure ?_)
  show wpAny _ _ (call (.builtin "BaseException.__getattribute__") [.ref x, .str "__class__" t]) _ _ _
  refine wpAny_call (codeAny_call_builtin PySem.F.excAttr_ValueError.ga.plain PySem.F.entry_bexc_ga ?_)
  refine @check_slot (model prog w) _ _ ⟨hp, g, d, t + 1, os⟩ "BaseException.__getattribute__" "BaseException" "__getattribute__" (.ref x) [.str "__class__" t] [] _ (by decide +kernel) (by decide +kernel) su (PySem.F.args_bexc_ga (.ref x) (.str "__class__" t)) ?_
  unfold Builtin.«object.__getattribute__»
  refine wpAny_bind (wpAny_of_eq (a := ((Value.ref x : Value), [Value.str "__class__" t])) (by first | rfl | (simp only [slotArgs]; rfl)) ?_)
  refine wpAny_bind (wpAny_pure (wpAny_bind (g0.at (wpAny_bind (g3.at ?_)))))
  show wpAny _ _ (holding [Value.builtin "object.__class__"] (call (.builtin "getset_descriptor.__get__") [.builtin "object.__class__", .ref x, .ref D]) >>= ret) _ _ _
  refine wpAny_bind (wpAny_holding (wpAny_call (class_get (s := ⟨hp, g, d, t + 1, os⟩) (ox := ox) (od := od) X I Z.hm ?_)))
  refine wpAny_pure ?_
  show wpAny _ _ (handedOut (.ref D)) _ _ _
  rw [handedOut_of (v := .ref D) rfl]
  first
    | exact wpAny_pure (wpAny_pure h)
    | exact wpAny_pure h
    | exact wpAny_pure (wpAny_bind (wpAny_pure (wpAny_pure h)))
theorem kit_err (Z : L2.ExcC K D) : KitX K (.ref x) (.ref D) (fun h => ∃ ox od, InstAt h x ox D od) where
  ty := fun _ _ _ ⟨_, _, I⟩ => I.type
  it := fun _ _ X _ => by
    obtain ⟨cdD, hcD, _⟩ := any_some Z.hd
    unfold clsIn at hcD
    split at hcD
    · rename_i c' d' cd' sl' ho
      intro A' Q' E' s' k q
      unfold isType loadHead
      exact wpAny_bind (wpAny_loadPart (k _ _ (X _ _ ho)) (wpAny_pure q))
    · cases hcD
  ne := fun h tp dd its n sl X htp => by
    obtain ⟨cdD, hcD, _⟩ := any_some Z.hd
    refine Bool.eq_false_iff.mpr fun q => ?_
    have e : D = tp := Value.ref.inj (beq_iff_eq.mp q)
    subst e
    unfold clsIn at hcD
    split at hcD
    · rename_i c' d' cd' sl' ho
      have z := (X _ _ ho).symm.trans htp
      cases z
    · cases hcD
  ca := fun X ⟨_, _, I⟩ k => class_of Z X I k
end
end GW
end PySem
namespace L2
open PySem PySem.Spec PyProof.Rows PySem.GW
/-- an error of the class at C that is held: with its own dict, or without one -/
def errO (a C : Addr) (d : Option Addr) : HO := .ext fun h => ∃ (oe : Obj) (vs : Array Value), h.get? a = some oe ∧ oe.cls = .ref C ∧ oe.dict = d ∧ oe.data = .fields vs
theorem errO_ok {P : Program} {w : World} {H : Hp} {h : Heap} {a C : Addr} {d : Option Addr} {oe : Obj} {vs : Array Value} (e : h.get? a = some oe) (c : oe.cls = .ref C) (q : oe.dict = d) (dt : oe.data = .fields vs) : ObjOk P w H h a (errO a C d) :=
  ⟨⟨oe, vs, e, c, q, dt⟩, ⟨oe, e⟩, fun h1 h2 ⟨o1, v1, e1, c1, q1, d1⟩ k => ⟨o1, v1, k _ e1, c1, q1, d1⟩⟩
theorem errO_at {P : Program} {w : World} {H : Hp} {h : Heap} {a C : Addr} {d : Option Addr} (ok : HOk P w H h) (e : H a = some (errO a C d)) : ∃ (oe : Obj) (vs : Array Value), h.get? a = some oe ∧ oe.cls = .ref C ∧ oe.dict = d ∧ oe.data = .fields vs := (ok a _ e).1
theorem relO_zip : ∀ {fs : List Str} {vs : List V} {us : List Value}, Vals vs us → ∀ f : Str, RelO (List.lookup f (fs.zip vs)) (List.lookup f (fs.zip us))
  | [], _, _, _, f => by simp [List.lookup, RelO]
  | g :: fs, [], [], _, f => by simp [List.lookup, RelO]
  | g :: fs, v :: vs, u :: us, .cons r rs, f => by
    by_cases e : f = g
    · subst e
      simp [List.lookup, RelO]
      exact r
    · have e' : (f == g) = false := by simpa using e
      simp only [List.zip_cons_cons, List.lookup, e']
      exact relO_zip rs f
section
variable {X : Cx} {C : Addr} {fs : List Str} {e : Expr} {t : TA} {pos pos2 : Pos} {f : Str}
/-- the class as a reader of its fields -/
structure ErrG (K : PySem.W.Frag) (C : Addr) : Prop where
  ga : PySem.W.findIn K (.ref C) "__getattribute__" = some (some (.builtin "BaseException.__getattribute__"))
  gg : PySem.W.findIn K (.ref C) "__getattr__" = some none
  ex : PySem.W.subIn K (.ref C) (.type "BaseException") = some true
  hd : PySem.W.hasDictIn K C = true
/-- C(..).f -/
theorem pe_errF (G : ErrG X.K C) (no : PySem.W.findIn X.K (.ref C) f = some none) (hE : PEr X e C fs t) (hb : attributeBase e f X.env (eval e X.env) = eval e X.env := by rfl) :
    PE X (.Attribute e f pos) (fun σ H Q => t σ H fun vs H1 => ∃ v, List.lookup f (fs.zip vs) = some v ∧ Q v H1) := by
  refine ⟨fun pins s σ H Q I h => ?_⟩
  refine attr_of hb (thn (hE pins s σ H _ I h) fun u s1 hh => ?_)
  obtain ⟨a, d, vs, us, H', s0, h', tk, rfl, J, rfl, M, r, hl, v, hv, q⟩ := hh
  obtain ⟨t1, ho⟩ := M.obj
  obtain ⟨od, hod, hlk⟩ := lookIn_ns M.ns
  obtain ⟨u, hu, ru⟩ := RelO.some_of (v := v) (o := List.lookup f (fs.zip us)) (by rw [← hv]; exact relO_zip r f)
  have J2 : Inv X pins σ H' { s0 with heap := h', toks := tk } := J.kept M.keep
  have K2 : PySem.W.InstAt h' a { cls := .ref C, dict := some d, data := .fields #[.ref t1, .none, .none, .none, .bool false, .none] } C (some od) := ⟨ho, rfl, rfl, hod⟩
  exact HandSPX.exc_get J2.kIn K2 G.ga G.gg G.ex (PySem.W.findObj_own G.hd no rfl (by rw [hlk, hu])) (handed_of ru) ⟨v, H', J2.tok _, ru, q⟩
/-- C(..) as a value that is held -/
theorem pe_err (hE : PEr X e C fs t) : PE X e (fun σ H Q => t σ H fun vs H1 => ∀ a d, H1 a = none → H1 d = none → d ≠ a → Q (.ref a) (upd (upd H1 d (.xd (fs.zip vs))) a (errO a C (some d)))) := by
  refine ⟨fun pins s σ H Q I h => wpAny_mono (hE pins s σ H _ I h) (fun u s1 hh => ?_) fun _ _ z => z⟩
  obtain ⟨a, d, vs, us, H', s0, h', tk, rfl, J, rfl, M, r, hl, q⟩ := hh
  obtain ⟨t1, ho⟩ := M.obj
  obtain ⟨G', g1, g2⟩ := restrict h' fun b => decide (b ≠ a)
  have gk : ∀ b, b ≠ a → G'.get? b = h'.get? b := fun b hb => g1 b (decide_eq_true hb)
  have ge : G'.get? a = none := g2 a (by simp)
  have old : ∀ b o, s0.heap.get? b = some o → G'.get? b = some o := fun b o q => (gk b (Nat.ne_of_lt (Nat.lt_of_lt_of_le (Heap.lt_size q) M.new))).trans (M.keep b o q)
  have ob : ObjOk X.prog X.w (upd H' d (.xd (fs.zip vs))) G' d (.xd (fs.zip vs)) := ⟨_, M.ns.at (fun o q => (gk d M.dne).trans q), fun f => relO_zip r f⟩
  have J1 : Inv X pins σ (upd H' d (.xd (fs.zip vs))) { s0 with heap := G', toks := tk } := J.laid (t' := tk) old M.dnew ob
  have na : H' a = none := J.hok.fresh M.new
  have nd : H' d = none := J.hok.fresh M.dnew
  have up : ∀ b o, G'.get? b = some o → h'.get? b = some o := fun b o q => by
    by_cases hb : b = a
    · rw [hb, ge] at q; cases q
    · exact (gk b hb).symm.trans q
  have na2 : (upd H' d (.xd (fs.zip vs))) a = none := by rw [upd_ne M.dne.symm]; exact na
  have J2 := J1.laidN (t' := tk) (h' := h') (a := a) (o := errO a C (some d)) up ge na2 (errO_ok ho rfl rfl rfl)
  exact ⟨.ref a, _, J2, rfl, q a d na nd M.dne⟩
/-- raise C(..) -/
theorem pmk_err (R : Raises X (.ref C)) (hE : PEr X e C fs t) : PMk X e (fun σ H Q => t σ H fun vs H1 => ∀ d, H1 d = none → Q (.ref C) (some d) (upd H1 d (.xd (fs.zip vs)))) := by
  intro pins s σ H Q I h
  refine wpAny_mono (hE pins s σ H _ I h) (fun u s1 hh => ?_) fun _ _ z => z
  obtain ⟨a, d, vs, us, H', s0, h', tk, rfl, J, rfl, M, r, hl, q⟩ := hh
  obtain ⟨t1, ho⟩ := M.obj
  obtain ⟨G', g1, g2⟩ := restrict h' fun b => decide (b ≠ a)
  have gk : ∀ b, b ≠ a → G'.get? b = h'.get? b := fun b hb => g1 b (decide_eq_true hb)
  have ge : G'.get? a = none := g2 a (by simp)
  have old : ∀ b o, s0.heap.get? b = some o → G'.get? b = some o := fun b o q => (gk b (Nat.ne_of_lt (Nat.lt_of_lt_of_le (Heap.lt_size q) M.new))).trans (M.keep b o q)
  have ob : ObjOk X.prog X.w (upd H' d (.xd (fs.zip vs))) G' d (.xd (fs.zip vs)) := ⟨_, M.ns.at (fun o q => (gk d M.dne).trans q), fun f => relO_zip r f⟩
  have J1 : Inv X pins σ (upd H' d (.xd (fs.zip vs))) { s0 with heap := G', toks := tk } := J.laid (t' := tk) old M.dnew ob
  refine ⟨a, _, _, { s0 with heap := G', toks := tk }, _, .ref C, some d, rfl, J1, fun b o q => ?_, ge, ho, ⟨rfl, rfl⟩, rfl, rfl, ?_, rfl, J.bare, R, q d (J.hok.fresh M.dnew)⟩
  · by_cases hb : b = a
    · have q' : G'.get? b = some o := q
      rw [hb, ge] at q'; cases q'
    · exact (gk b hb).symm.trans q
  · rw [upd_ne (Ne.symm M.dne)]
    exact J.hok.fresh M.new
end
section
variable {X : Cx}
theorem err_inst {P : Program} {w : World} {H : Hp} {h : Heap} {a C : Addr} {d : Option Addr} (ok : HOk P w H h) (e : H a = some (errO a C d)) (hd : ∀ dd, d = some dd → ∃ fs, H dd = some (.xd fs)) : ∃ ox od, PySem.W.InstAt h a ox C od := by
  obtain ⟨oe, vs, h1, h2, h3, h4⟩ := errO_at ok e
  have nc : PySem.W.notCls oe = true := by unfold PySem.W.notCls; rw [h4]
  cases d with
  | none => exact ⟨oe, none, h1, h2, nc, by rw [h3]; trivial⟩
  | some dd =>
    obtain ⟨fs, hx⟩ := hd dd rfl
    obtain ⟨mA, hns, _⟩ := (show ObjOk P w H h dd (.xd fs) from ok dd _ hx)
    obtain ⟨od, ho, _⟩ := lookIn_ns hns
    exact ⟨oe, some od, h1, h2, nc, by rw [h3]; exact ho⟩
/-- isinstance(e, c), e an error that is held -/
def rIsErr (K : PySem.W.Frag) : List V → Hp → VK → Prop := fun xs H Q => ∃ (a C : Addr) (d : Option Addr) (c : V) (cv : Value) (b : Bool), xs = [.ref a, c] ∧ H a = some (errO a C d) ∧ (∀ dd, d = some dd → ∃ fs, H dd = some (.xd fs)) ∧ ExcC K C ∧ ClsV c cv ∧ PySem.W.kitOne K (.ref C) cv = some b ∧ Q (.bl b) H
theorem call_isErr : CallR X (.builtin "isinstance") (rIsErr X.K) := by
  intro pins s σ H xs us Q I r h
  obtain ⟨a, C, d, c, cv, b, rfl, ha, hd, Z, k, e, q⟩ := h
  obtain ⟨u1, u2, rfl, r1, r2⟩ := vals2 r
  have e2 := k.eq r2
  subst e2
  cases (show u1 = Value.ref a from r1)
  exact PySem.W.kia_one (kit_err Z) I.kIn (err_inst I.hok ha hd) e (fun z => nomatch z) fun tk => ⟨.bl b, H, I.tok tk, rfl, q⟩
def rIsErrT (K : PySem.W.Frag) : List V → Hp → VK → Prop := fun xs H Q => ∃ (a C : Addr) (d : Option Addr) (tp : Addr) (cs : List V) (us : List Value) (b : Bool), xs = [.ref a, .ref tp] ∧ H a = some (errO a C d) ∧ (∀ dd, d = some dd → ∃ fs, H dd = some (.xd fs)) ∧ ExcC K C ∧ H tp = some (.tup cs) ∧ Paired ClsV cs us ∧ PySem.W.kitAny K (.ref C) us = some b ∧ Q (.bl b) H
theorem call_isErrT : CallR X (.builtin "isinstance") (rIsErrT X.K) := by
  intro pins s σ H xs us Q I r h
  obtain ⟨a, C, d, tp, cs, ws, b, rfl, ha, hd, Z, hT, k, e, q⟩ := h
  obtain ⟨u1, u2, rfl, r1, r2⟩ := vals2 r
  cases (show u1 = Value.ref a from r1)
  cases (show u2 = Value.ref tp from r2)
  obtain ⟨_, its, rv, o, h1, h2, n, h3⟩ := (show ObjOk X.prog X.w H s.heap tp (.tup cs) from I.hok tp _ hT)
  have e3 := ClsV.all k rv
  subst e3
  obtain ⟨oc, od, dt, sl⟩ := o
  simp only at h2 h3
  subst h2 h3
  exact PySem.W.kia_tup (kit_err Z) I.kIn (err_inst I.hok ha hd) h1 e (fun z => nomatch z) fun tk => ⟨.bl b, H, I.tok tk, rfl, q⟩
/-- raise C(), C without an __init__ of its own -/
theorem pmk_err0 {C : Addr} {bmB : List Value} {B newId initId : String} {x : Str} {p pos : Pos} (F : ExcBaseFacts B newId initId bmB) (q : PySem.W.excIn X.K C bmB newId = true) (gC : X.mg x = some (.ref C)) (kC : PySem.W.keepIn X.K (.ref C) = true) (R : Raises X (.ref C)) (hg : Gl X x)
    (hdb : (x == ("__debug__" : Str)) = false := by decide) : PMk X (.Call (.Name x p) [] [] pos) (fun _ H Q => Q (.ref C) none H) := by
  intro pins s σ H Q I h
  refine wpAny_Call_Name_kw (ld_glob I hg gC ?_ hdb)
  refine PySem.W.callWith_K0 I.kIn kC ?_
  show wpAny _ _ (call (.ref C) []) _ _ _
  obtain ⟨bm, N, nm, qn, bs, hdct, sn, sub, ab, col, dd, k0, k1, k2, k3, k5, mN, hC, hN, hni, T⟩ := exc_obj I.kIn q
  refine wpAny_call_exc_subT F T hC hN hni (fun h' a hm => ?_) (by show 0 ≤ sizeLine; omega)
  have hn : H a = none := I.hok.gone hm.new
  obtain ⟨t, ht, _, _⟩ := hm.there
  exact ⟨a, _, _, s, H, .ref C, none, rfl, I, hm.keeps, hm.new, ht, ⟨rfl, rfl⟩, rfl, rfl, hn, rfl, I.bare, R, h⟩
/-- C(): an error without an __init__ of its own -/
theorem pe_err0 {C : Addr} {bmB : List Value} {B newId initId : String} {x : Str} {p pos : Pos} (F : ExcBaseFacts B newId initId bmB) (q : PySem.W.excIn X.K C bmB newId = true) (gC : X.mg x = some (.ref C)) (kC : PySem.W.keepIn X.K (.ref C) = true) (hg : Gl X x)
    (hdb : (x == ("__debug__" : Str)) = false := by decide) :
    PE X (.Call (.Name x p) [] [] pos) (fun _ H Q => ∀ a, H a = none → Q (.ref a) (upd H a (errO a C none))) := by
  refine ⟨fun pins s σ H Q I h => ?_⟩
  refine wpAny_Call_Name_kw (ld_glob I hg gC ?_ hdb)
  refine PySem.W.callWith_K0 I.kIn kC ?_
  show wpAny _ _ (call (.ref C) []) _ _ _
  obtain ⟨bm, N, nm, qn, bs, hdct, sn, sub, ab, col, dd, k0, k1, k2, k3, k5, mN, hC, hN, hni, T⟩ := exc_obj I.kIn q
  refine wpAny_call_exc_subT F T hC hN hni (fun h' a hm => ?_) (by show 0 ≤ sizeLine; omega)
  have hn : H a = none := I.hok.gone hm.new
  obtain ⟨t, ht, _, _⟩ := hm.there
  exact ⟨.ref a, upd H a (errO a C none), I.laidN hm.keeps hm.new hn (errO_ok ht rfl rfl rfl), rfl, h a hn⟩
end
end L2
set_option Elab.async false
set_option linter.all false
set_option maxRecDepth 100000
set_option maxHeartbeats 4000000
/-! what the head tells of the errors: one Bool an error, and the text of its __init__ -/
namespace PySem
namespace GW
open PySem PySem.W PySem.Spec PySem.Calls PyProof.Rows PySem.HandSPX L2 He
structure ErrX (P : Program) (K : PySem.W.Frag) (mg : Str → Option Value) (W : Addr) (x : Str) (C fI : Addr) (params : Arguments) (scope : Scope) (l : List Fl) : Prop where
  c : ErrC K C
  i : ErrI P K mg C fI params scope l
  g : mg x = some (.ref C)
  k : PySem.W.keepIn K (.ref C) = true
  r : ErrG K C
  z : ExcC K C
  t : PySem.W.typeIn K (.ref C) = some (.type "type")
  kw : PySem.W.kitOne K (.ref C) (.ref W) = some true
  kv : PySem.W.kitOne K (.ref C) (.type "ValueError") = some true
  xw : PySem.W.exmOne K (.ref C) (.ref W) = some true
structure ErrZ (K : PySem.W.Frag) (mg : Str → Option Value) (W : Addr) (x : Str) (C : Addr) : Prop where
  q : PySem.W.excIn K C [.type "ValueError", .type "Exception", .type "BaseException", .type "object"] "ValueError.__new__" = true
  g : mg x = some (.ref C)
  k : PySem.W.keepIn K (.ref C) = true
  z : ExcC K C
  t : PySem.W.typeIn K (.ref C) = some (.type "type")
  kw : PySem.W.kitOne K (.ref C) (.ref W) = some true
  kv : PySem.W.kitOne K (.ref C) (.type "ValueError") = some true
  xw : PySem.W.exmOne K (.ref C) (.ref W) = some true
def veB : List Value := [.type "ValueError", .type "Exception", .type "BaseException", .type "object"]
def eqB (a : Option Bool) (b : Bool) : Bool := decide (a = some b)
/-- of a class: what isinstance, except and a reader ask -/
def clsB (K : Frag) (C W : Addr) : Bool :=
  keepIn K (.ref C) && (decide (typeIn K (.ref C) = some (.type "type")) && (eqO (findIn K (.ref C) "__getattribute__") (some (some (.builtin "BaseException.__getattribute__"))) && (eqO (findIn K (.ref C) "__getattr__") (some none) &&
    (eqB (subIn K (.ref C) (.type "BaseException")) true && (hasDictIn K C && (eqO (findIn K (.ref C) "__class__") (some (some (.builtin "object.__class__"))) && (eqO (specialIn K (.builtin "object.__class__") "__get__") (some (some (.builtin "getset_descriptor.__get__"))) &&
      (eqB (takesIn K (.builtin "object.__class__")) true && (eqB (mroIn K C (.type "object")) true && (eqB (kitOne K (.ref C) (.ref W)) true && (eqB (kitOne K (.ref C) (.type "ValueError")) true && eqB (exmOne K (.ref C) (.ref W)) true)))))))))))
theorem clsB_ok {K : Frag} {C W : Addr} (h : clsB K C W = true) : keepIn K (.ref C) = true ∧ typeIn K (.ref C) = some (.type "type") ∧ ErrG K C ∧ ExcC K C ∧ kitOne K (.ref C) (.ref W) = some true ∧ kitOne K (.ref C) (.type "ValueError") = some true ∧ exmOne K (.ref C) (.ref W) = some true := by
  unfold clsB eqB at h
  simp only [Bool.and_eq_true, decide_eq_true_eq] at h
  obtain ⟨h1, h2, h3, h4, h5, h6, h7, h8, h9, h10, h11, h12, h13⟩ := h
  exact ⟨h1, h2, ⟨eqO_ok h3, eqO_ok h4, h5, h6⟩, ⟨eqO_ok h3, eqO_ok h4, h5, h6, eqO_ok h7, eqO_ok h8, h9, h10⟩, h11, h12, h13⟩
def zB (K : Frag) (x : Str) : Bool := eqO (nsIn K mainGlobals x) (some (some (.ref (ga K x)))) && (excIn K (ga K x) veB "ValueError.__new__" && clsB K (ga K x) (ga K "WebError"))
theorem zB_ok {K : Frag} {h : Heap} {mg : Str → Option Value} {x : Str} (X : K.In h) (G : h.Ns mainGlobals mg) (c : zB K x = true) : ErrZ K mg (ga K "WebError") x (ga K x) := by
  unfold zB at c
  simp only [Bool.and_eq_true] at c
  obtain ⟨c1, c2, c3⟩ := c
  obtain ⟨d1, d2, d3, d4, d5, d6, d7⟩ := clsB_ok c3
  exact ⟨c2, mg_of X G (eqO_ok c1), d1, d4, d2, d5, d6, d7⟩
def fileB (file : Str) (vs : Array Value) : Bool := match vs[2]? with
  | some (Value.str f _) => f == file
  | _ => false
theorem fileB_ok {file : Str} {vs : Array Value} (h : fileB file vs = true) : ∃ f tk, vs[2]? = some (Value.str f tk) ∧ (file == f) = true := by
  unfold fileB at h
  split at h
  · rename_i f tk e
    exact ⟨f, tk, e, by have q : f = file := beq_iff_eq.mp h; rw [q]; exact beq_self_eq_true _⟩
  · cases h
def cellB (file : Str) (K : Frag) (C fI : Addr) : Bool := match K.lookup fI with
  | some ⟨_, _, .func fd, _⟩ => (match fd.closure, fd.code with
    | [(_, cc)], .ref cda => (match K.lookup cc, K.lookup cda with
      | some ⟨_, _, .cell (some (.ref D)), _⟩, some ⟨_, _, .fields vs, _⟩ => decide (D = C) && (fileB file vs && codeIn K (.ref cda) fd.qualname)
      | _, _ => false)
    | _, _ => false)
  | _ => false
abbrev IniV : Type := Option (Str × Arguments × FuncBody × Scope × Addr × List Str × Value × Value × Addr)
def iniObs (K : Frag) (x : Str) : IniV := match K.lookup (ma K (ga K x) "__init__") with
  | some ⟨_, _, .func fd, _⟩ => some (fd.name, fd.params, fd.body, fd.scope, fd.globals, fd.closure.map (fun p => p.1), fd.defaults, fd.kwdefaults, fd.builtins)
  | _ => none
def iniVal (st : Stmt) : IniV := some ("__init__", defArgs st, .stmts (defBody st), defScope st, mainGlobals, ["__class__"], .none, .none, builtinsNs)
def xB (file : Str) (K : Frag) (x : Str) (fs : List Str) : Bool :=
  eqO (nsIn K mainGlobals x) (some (some (.ref (ga K x)))) && (excInitIn K (ga K x) veB "ValueError.__new__" && (clsB K (ga K x) (ga K "WebError") && (eqO (findIn K (.ref (ga K x)) "__setattr__") (some (some (.builtin "object.__setattr__"))) &&
    (decide (ks_superIn K (ga K x) (ga K x) "__init__" = some (some (.builtin "ValueError.__init__"))) && (eqB (subIn K (.ref (ga K x)) (.type "ValueError")) true && (eqB (mroIn K (ga K x) (.ref (ga K x))) true &&
      (eqO (findIn K (.ref (ga K x)) "__init__") (some (some (.ref (ma K (ga K x) "__init__")))) && (decide (typeIn K (.ref (ma K (ga K x) "__init__")) = some (.type "function")) && ((fs.all fun f => eqO (findIn K (.ref (ga K x)) f) (some none)) && cellB file K (ga K x) (ma K (ga K x) "__init__"))))))))))
theorem refsVE_of : ∀ l : List Value, excTail veB l = true → refsVE l = true := by
  intro l
  induction l with
  | nil => intro h; exact absurd h (by decide)
  | cons v r ih =>
    intro h
    rcases excTail_cases (v :: r) h with ⟨c, r', e, h'⟩ | e
    · obtain ⟨rfl, rfl⟩ := List.cons.inj e
      exact ih h'
    · rw [e]
      decide
theorem cls_of {K : Frag} {C : Addr} (q : excInitIn K C veB "ValueError.__new__" = true) (hd : hasDictIn K C = true) :
    ∃ nm q N bs bm sn sub ab col dd k0 k1 k2 k3 k5, K.lookup C = some (excClassObj nm q C N bs bm true sn sub ab col dd k0 k1 k2 k3 k5 "ValueError.__new__") ∧ refsVE bm = true := by
  unfold excInitIn at q
  split at q
  · rename_i dd cd sl ho
    split at q
    · rename_i C' bm k0 k1 k2 k3 n k5 hm hs
      simp only [Bool.and_eq_true, beq_iff_eq, Bool.not_eq_true'] at q
      obtain ⟨⟨⟨rfl, rfl⟩, hdel⟩, ht⟩ := q
      have hdc : cd.hasDict = true := by
        obtain ⟨cd', hc, hh⟩ := any_some hd
        unfold clsIn at hc
        rw [ho] at hc
        cases hc
        exact hh
      obtain ⟨nm, bs, mro, ns, qn, hdd, sn, sub, ab, col, del⟩ := cd
      dsimp only at hm hdel hdc
      subst hm hdel hdc
      have hsl : sl = #[k0, k1, k2, k3, some (.builtin "ValueError.__new__"), k5] := by
        obtain ⟨l⟩ := sl
        simp only at hs
        rw [hs]
      subst hsl
      exact ⟨nm, qn, ns, bs, bm, sn, sub, ab, col, dd, k0, k1, k2, k3, k5, ho, refsVE_of bm ht⟩
    · cases q
  · cases q
/-- the text of an __init__ that only keeps its values -/
structure IniOk (st : Stmt) (l : List Fl) : Prop where
  body : ∃ r0 r1 r2 r3 r4 : Pos, defBody st = eBody r0 r1 r2 r3 r4 l ∧ (r2.endLine == r3.line) = true
  nd : ((Str.ofString "self") :: l.map (fun p => p.f)).Nodup
  ne : l ≠ []
  few : l.length ≤ 10
  hd : ∃ p, (defArgs st).posonlyargs ++ (defArgs st).args = { arg := "self", annotation := none, pos := p } :: ((defArgs st).posonlyargs ++ (defArgs st).args).tail
  sk : (defScope st).kind = .function
  sco : (defScope st).isCoroutine = false
  sge : (defScope st).isGenerator = false
  ss : (defScope st).names.lookup (Str.ofString "super") = some .globalImplicit
  sc : (defScope st).names.lookup (Str.ofString "__class__") = some .free
  sl : ∀ y ∈ ((Str.ofString "self") :: l.map (fun p => p.f)), (defScope st).names.lookup y = some .local
  scell : ∀ x ∈ (defScope st).names, x.2 ≠ .cell
  nodeb : ∀ p ∈ l, (p.f == (Str.ofString "__debug__")) = false
theorem xB_ok {P : Program} {K : Frag} {h : Heap} {mg : Str → Option Value} {x : Str} {st : Stmt} {l : List Fl} (X : K.In h) (G : h.Ns mainGlobals mg) (c : xB P.main.file K x (l.map (fun p => p.f)) = true) (o : iniObs K x = iniVal st) (T : IniOk st l)
    (sup : mg "super" = none) (opq : nsIn K cStatics "thirdparty.any" = some none) (ptop : (P.main.scope.names.lookup (Str.ofString "super")).isSome = false) :
    ErrX P K mg (ga K "WebError") x (ga K x) (ma K (ga K x) "__init__") (defArgs st) (defScope st) l := by
  unfold xB eqB at c
  simp only [Bool.and_eq_true, decide_eq_true_eq] at c
  obtain ⟨c1, c2, c3, c4, c5, c6, c7, c8, c9, c10, c11⟩ := c
  obtain ⟨d1, d2, d3, d4, d5, d6, d7⟩ := clsB_ok c3
  refine ⟨⟨cls_of c2 d3.hd, eqO_ok c4, c5, opq, c6, c7⟩, ⟨eqO_ok c8, c9, fun p hp => ?_, T.nd, T.ne, T.few, T.hd, T.sk, T.sco, T.sge, T.ss, T.sc, T.sl, T.scell, T.nodeb, sup, ptop, ?_⟩, mg_of X G (eqO_ok c1), d1, d3, d4, d2, d5, d6, d7⟩
  · exact eqO_ok (List.all_eq_true.mp c10 _ (List.mem_map_of_mem hp))
  · obtain ⟨r0, r1, r2, r3, r4, hb, hln⟩ := T.body
    unfold iniObs at o
    unfold cellB at c11
    cases e : K.lookup (ma K (ga K x) "__init__") with
    | none => rw [e] at o; cases o
    | some ob =>
      rw [e] at o c11
      obtain ⟨oc, od, dt, sl⟩ := ob
      cases dt with
      | func fd =>
        obtain ⟨n1, n2, n3, n4, n5, n6, n7, n8, n9, n10, n11, n12, n13, n14, n15⟩ := fd
        unfold iniVal at o
        simp only [Option.some.injEq, Prod.mk.injEq] at o
        obtain ⟨rfl, rfl, rfl, rfl, rfl, o6, rfl, rfl, rfl⟩ := o
        dsimp only at c11
        split at c11
        · rename_i nm cc cda
          split at c11
          · rename_i _ _ D _ _ _ _ vs _ ecc ecd
            simp only [Bool.and_eq_true, decide_eq_true_eq] at c11
            obtain ⟨rfl, cf, cq⟩ := c11
            obtain ⟨f, tk, ef, eq⟩ := fileB_ok cf
            have o7 : nm = Str.ofString "__class__" := by simpa using o6
            subst o7
            refine ⟨oc, od, n2, r0, r1, r2, r3, r4, n10, n11, n12, cda, n14, cc, sl, ?_, cq, hln, ⟨_, _, _, ecc⟩, _, _, vs, _, f, tk, ecd, ef, eq⟩
            first
              | (rw [← hb]; done)
              | (rw [← hb]; exact e)
          · cases c11
        · cases c11
      | _ => cases o
/-! ### the part of the heap that is looked at, the Hook -/
def refs2 (o : Obj) : List Addr := He.refsD o ++ (match o.data with
  | .func fd => fd.closure.map (fun p => p.2)
  | _ => [])
def grow2 (g : Addr → Option Obj) (as : List Addr) : List Addr := (as ++ as.flatMap fun a => match g a with
  | some o => refs2 o
  | none => []).eraseDups
def as2 (g : Addr → Option Obj) : Nat → List Addr
  | 0 => [mainGlobals, cStatics]
  | n + 1 => grow2 g (as2 g n)
abbrev Al2 : Type := Bool × List He.FnV × List IniV
def obs2 (fb : Frag → Bool) (fn : List He.FnD) (xs : List Str) (K : Frag) : Al2 := (fb K && fn.all fun d => (He.Fa.code d.at_ d.qual).ok K, fn.map fun d => He.fnObs K d.at_, xs.map fun x => iniObs K x)
def val2 (fn : List He.FnD) (ys : List IniV) : Al2 := (true, fn.map He.FnD.val, ys)
def Says2 (fb : Frag → Bool) (fn : List He.FnD) (xs : List Str) (ys : List IniV) (K : Frag) : Prop := obs2 fb fn xs K = val2 fn ys
def obs2G (n : Nat) (fb : Frag → Bool) (fn : List He.FnD) (xs : List Str) (g : Addr → Option Obj) : Al2 := obs2 fb fn xs (He.frG g (as2 g n))
def hook2 (n : Nat) (fb : Frag → Bool) (fn : List He.FnD) (xs : List Str) (ys : List IniV) : PySem.W.Hook where
  α := Al2
  obs := fun s => obs2G n fb fn xs s.heap.get?
  val := fun _ => val2 fn ys
  says := fun _ h => ∃ K : PySem.W.Frag, K.In h ∧ Says2 fb fn xs ys K
  of := fun _ _ e => ⟨_, He.frG_in, e⟩
  keeps := fun _ _ _ ⟨K, hK, c⟩ k => ⟨K, PySem.W.Frag.In.keeps hK k, c⟩
theorem obs2G_eq {n : Nat} {fb : Frag → Bool} {fn : List He.FnD} {xs : List Str} {ys : List IniV} {g : Addr → Option Obj} {s : Shared} (h : ∀ a, g a = s.heap.get? a) : obs2G n fb fn xs g = (hook2 n fb fn xs ys).obs s := by
  have e : g = s.heap.get? := funext h
  show obs2G n fb fn xs g = obs2G n fb fn xs s.heap.get?
  rw [e]
theorem Says2.all {fb : Frag → Bool} {fn : List He.FnD} {xs : List Str} {ys : List IniV} {K : Frag} (c : Says2 fb fn xs ys K) : fb K = true := by
  have e := congrArg Prod.fst c
  exact (Bool.and_eq_true_iff.mp e).1
theorem map_at {α β : Type} {f : α → β} {xs : List α} {ys : List β} (e : xs.map f = ys) (i : Nat) {x : α} {y : β} (hx : xs[i]? = some x) (hy : ys[i]? = some y) : f x = y := by
  rw [← e, List.getElem?_map, hx] at hy
  exact Option.some.inj hy
theorem Says2.ini {fb : Frag → Bool} {fn : List He.FnD} {xs : List Str} {ys : List IniV} {K : Frag} (c : Says2 fb fn xs ys K) (i : Nat) {x : Str} {y : IniV} (hx : xs[i]? = some x) (hy : ys[i]? = some y) : iniObs K x = y :=
  map_at (f := fun x => iniObs K x) (congrArg (fun p => p.2.2) c) i hx hy
theorem Says2.def_ {fb : Frag → Bool} {fn : List He.FnD} {xs : List Str} {ys : List IniV} {K : Frag} (c : Says2 fb fn xs ys K) (i : Nat) {d : He.FnD} (h : fn[i]? = some d) :
    ∃ oc od osl kV doc pm an cdv ct, K.lookup (He.fAd K d.at_) = some ⟨oc, od, .func (PySem.W.fnOf d.name d.qual d.params d.body d.scope .none kV doc pm an cdv ct), osl⟩ ∧ PySem.W.codeIn K cdv d.qual = true := by
  have e1 := congrArg Prod.fst c
  have e2 := (Bool.and_eq_true_iff.mp e1).2
  refine He.fn_ok ?_ (List.all_eq_true.mp e2 d (List.mem_of_getElem? h))
  exact map_at (f := fun d => He.fnObs K d.at_) (congrArg (fun p => p.2.1) c) i h (y := d.val) (by show (fn.map He.FnD.val)[i]? = some d.val; rw [List.getElem?_map, h]; rfl)
end GW
end PySem
set_option Elab.async false
set_option linter.all false
set_option maxRecDepth 100000
set_option maxHeartbeats 4000000
namespace K00
open PySem L2
def top (i : Nat) : Stmt := PySem.Challenge.pw_growwebs_k00_errors_made_by_hand.main.body.getD i (.Pass ⟨0, 0, 0, 0⟩)
abbrev sPen : Stmt := top 37
abbrev sDraw : Stmt := top 38
abbrev sPick : Stmt := top 39
theorem scPen : FnScope ["_law_script"] ["_law_script"] (defScope sPen) := ⟨rfl, rfl, rfl, by decide +kernel, rfl, by decide +kernel, by decide +kernel⟩
theorem scDraw : FnScope ["_law_pen_here", "_law_many", "_law_digit", "_law_spot", "_law_cell", "_law_mixed"] ["_law_pen_here", "_law_many"] (defScope sDraw) := ⟨rfl, rfl, rfl, by decide +kernel, rfl, by decide +kernel, by decide +kernel⟩
theorem scPick : FnScope ["_law_pen_here", "_law_items"] ["_law_pen_here", "_law_items"] (defScope sPick) := ⟨rfl, rfl, rfl, by decide +kernel, rfl, by decide +kernel, by decide +kernel⟩
/-- the pen: its three entries -/
def penD (c : Addr) (spot rest : Int) : List (Key × V) := [(Sum.inr "cells", .ref c), (Sum.inr "spot", .int spot), (Sum.inr "rest", .int rest)]
structure PenAt (H : Hp) (p c : Addr) (ns : List Int) (spot rest : Int) : Prop where
  pd : H p = some (.dK (penD c spot rest))
  cl : H c = some (.lst (ns.map V.int))
theorem PenAt.ne {H : Hp} {p c : Addr} {ns : List Int} {spot rest : Int} (P : PenAt H p c ns spot rest) : p ≠ c := ne_of P.pd P.cl (by intro z; cases z)
def spPen (K : PySem.W.Frag) : Sp := fun vs H Q _ => ∃ (a : Addr) (ns : List Int), vs = [.ref a] ∧ SqL K H a (ns.map V.int) ∧ ns.length ≤ 63 ∧
  ∀ (p c : Addr) (H' : Hp), H p = none → H c = none → Same H H' → PenAt H' p c ns 0 0 → Q (.ref p) H'
def spDraw : Sp := fun vs H Q _ => ∃ (p c : Addr) (ns : List Int) (spot rest many : Int), vs = [.ref p, .int many] ∧ PenAt H p c ns spot rest ∧ ns.length ≤ 63 ∧ 0 ≤ spot ∧ spot ≤ 1000000 ∧ 0 < many ∧ many < 1000000 ∧
  ∀ (r spot' rest' : Int) (H' : Hp), 0 ≤ r → r < many → spot ≤ spot' → spot' ≤ spot + 1 → PenAt H' p c ns spot' rest' → (∀ b o, b ≠ p → H b = some o → H' b = some o) → Q (.int r) H'
structure TxtA (mg : Str → Option Value) : Prop where
  list : mg "list" = none
  len : mg "len" = none
  int : mg "int" = none
theorem pen_cells (c : Addr) (s r : Int) : valV (penD c s r) (Sum.inr "cells") = some (.ref c) := by rfl
theorem pen_spot (c : Addr) (s r : Int) : valV (penD c s r) (Sum.inr "spot") = some (.int s) := by rfl
theorem pen_rest (c : Addr) (s r : Int) : valV (penD c s r) (Sum.inr "rest") = some (.int r) := by rfl
theorem pen_merge (c : Addr) (s r : Int) : mergeK [] (penD c s r) = penD c s r := by rfl
theorem pen_putS (c : Addr) (s r z : Int) : putK (penD c s r) (Sum.inr "spot") (.int z) = penD c z r := by rfl
theorem pen_putR (c : Addr) (s r z : Int) : putK (penD c s r) (Sum.inr "rest") (.int z) = penD c s z := by rfl
theorem dpInts {K : PySem.W.Frag} {H : Hp} : ∀ ns : List Int, DpAll K H (ns.map V.int) (ns.map PyData.int)
  | [] => .nil
  | n :: ns => .cons (.int n) (dpInts ns)
theorem canInts : ∀ ns : List Int, PyData.canLayAll0 (ns.map PyData.int) = true
  | [] => rfl
  | n :: ns => by
    show (PyData.canLay0 (.int n) && PyData.canLayAll0 (ns.map PyData.int)) = true
    rw [canInts ns]
    rfl
theorem depInts : ∀ ns : List Int, PyData.depthAll (ns.map PyData.int) = 0
  | [] => rfl
  | n :: ns => by
    show max (PyData.depth (.int n)) (PyData.depthAll (ns.map PyData.int)) = 0
    rw [depInts ns]
    rfl
theorem shInts (ns : List Int) : SeqAt.shaped (.list (ns.map PyData.int)) = true := by
  have e1 : PyData.canLay0 (.list (ns.map PyData.int)) = true := canInts ns
  have e2 : PyData.depth (.list (ns.map PyData.int)) = 1 := by
    show PyData.depthAll (ns.map PyData.int) + 1 = 1
    rw [depInts ns]
  unfold SeqAt.shaped
  rw [e1, e2]
  rfl
theorem eqv_nil (ns : List Int) : PyData.eqv (.list (ns.map PyData.int)) (.list []) = decide (ns = []) := by
  cases ns <;> rfl
theorem modB (x : Int) {m : Int} (h1 : 0 < m) (h2 : m < 2 ^ 63) : -(2 ^ 64) < x % m ∧ x % m < 2 ^ 64 := by
  have a := Int.emod_nonneg x (show m ≠ 0 by omega)
  have b := Int.emod_lt_of_pos x h1
  omega
theorem cut63 (ns : List Int) (h : ns.length ≤ 63) : cutV (ns.map V.int) none (some 63) = ns.map V.int := by
  unfold cutV
  have e1 : HT.sIx (ns.map V.int).length 0 none = 0 := rfl
  have e2 : (ns.map V.int).length ≤ HT.sIx (ns.map V.int).length (ns.map V.int).length (some 63) := by
    unfold HT.sIx
    simp
    omega
  rw [e1, List.drop_zero, Nat.sub_zero, List.take_of_length_le e2]
section
variable {P : Program} {w : World} {K : PySem.W.Frag} {mg : Str → Option Value} {base : Heap}
theorem ok_pen {f : Addr} {fd : FuncData} (F : Fun K "_law_pen" "_law_pen" sPen f fd) (T : TxtA mg) : FnOk P w K mg base CX0 1 f fd ["_law_script"] (spPen K) := by
  refine F.ok scPen (fun vs H Q E h => ?_) (fun cdv A outer s H vs Q E hr h => ?_)
  · obtain ⟨a, ns, rfl, _⟩ := h
    rfl
  · obtain ⟨a, ns, rfl, hS, hlen, k⟩ := h
    refine ⟨_, pss_one (ps_ret (pe_disp (pps_cons pe_str (pe_callTy call_list_of (by rfl) T.list (by decide +kernel) (pa_cons (pe_slice sl_list (pv 0) po_none (po_some pe_int)) pa_nil))
      (pps_cons pe_str pe_int (pps_cons pe_str pe_int pps_nil))) (by rfl) (by rfl) (fun z => by cases z) (by decide))), ?_⟩
    intro p hp
    have s1 : Same H (upd H p (.dK [])) := fun b o e => by rw [upd_ne (ne_of_none e hp)]; exact e
    refine ⟨_, rfl, _, rfl, a, _, rfl, s1.seq hS, fun l hl => ?_⟩
    refine ⟨l, _, rfl, .inl (SqL.of upd_same), fun c hc => ?_⟩
    have npl : p ≠ l := ne_of_none (upd_same (H := H) (o := .dK [])) hl
    have hpc : p ≠ c := ne_of_none (show (upd (upd H p (.dK [])) l _) p = some (.dK []) by rw [upd_ne npl, upd_same]) hc
    refine ⟨by rw [upd_ne hpc, upd_ne npl, upd_same], penD c 0 0, rfl, (by show 3 ≤ 15; decide), ?_⟩
    have s2 : Same H (upd (upd (upd H p (.dK [])) l (.lst (cutV (List.map V.int ns) none (some 63)))) c (.lst (cutV (List.map V.int ns) none (some 63)))) := fun b o e => by
      have h1 := s1 b o e
      have n1 := ne_of_none h1 hl
      rw [upd_ne (ne_of_none (show (upd (upd H p (.dK [])) l _) b = some o by rw [upd_ne n1]; exact h1) hc), upd_ne n1]
      exact h1
    have hc0 : H c = none := by
      cases e : H c with
      | none => rfl
      | some o =>
        have n1 := ne_of_none (s1 c o e) hl
        rw [upd_ne n1, s1 c o e] at hc
        cases hc
    refine k p c _ hp hc0 (fun b o e => ?_) ⟨by rw [upd_same, pen_merge], ?_⟩
    · rw [upd_ne (ne_of_none e hp)]
      exact s2 b o e
    · rw [upd_ne hpc.symm, upd_same, cut63 ns hlen]
theorem ok_draw {f : Addr} {fd : FuncData} (F : Fun K "_law_draw" "_law_draw" sDraw f fd) (T : TxtA mg) : FnOk P w K mg base CX0 1 f fd ["_law_pen_here", "_law_many"] spDraw := by
  refine F.ok scDraw (fun vs H Q E h => ?_) (fun cdv A outer s H vs Q E hr h => ?_)
  · obtain ⟨p, c, ns, spot, rest, many, rfl, _⟩ := h
    rfl
  · obtain ⟨p, c, ns, spot, rest, many, rfl, PA, hlen, h0, h1, m0, m1, k⟩ := h
    have hu := hu_of hr
    refine ⟨_, (pss_cons (ps_if (pt_cmpR op_ge (pe_dget hu (pv 0) pe_str (fun _ _ => rfl)) (pv 1) (nomark _)) (pss_cons (ps_set (i := 2) scDraw.nd rfl (Or.inl rfl) (pe_op op_mod (pe_callTy call_int1 (by rfl) T.int (by decide +kernel) (pa_cons (pe_dget hu (pv 0) pe_str (fun _ _ => rfl)) pa_nil)) (pv 1)))
      (pss_cons (ps_dput hu (pv 0) pe_str (pe_op op_fdiv (pe_dget hu (pv 0) pe_str (fun _ _ => rfl)) (pv 1)) rfl)
      (pss_one (ps_ret (pv 2))))) pss_nil)
      (pss_cons (ps_set (i := 3) scDraw.nd rfl (Or.inl rfl) (pe_dget hu (pv 0) pe_str (fun _ _ => rfl)))
      (pss_cons (ps_dput hu (pv 0) pe_str (pe_op op_add (pv 3) pe_int) rfl)
      (pss_cons (ps_set (i := 4) scDraw.nd rfl (Or.inl rfl) (pe_op op_add (pe_op op_mul pe_int (pv 3)) pe_int))
      (pss_cons (ps_if (pt_cmpR (op_neD hr.units) (pe_dget hu (pv 0) pe_str (fun _ _ => rfl)) (pe_lst pa_nil) (nomark _)) (pss_one (ps_set (i := 4) scDraw.nd rfl (Or.inl rfl) (pe_ix ix_list (pe_dget hu (pv 0) pe_str (fun _ _ => rfl)) (pe_op op_mod (pe_callTy call_int1 (by rfl) T.int (by decide +kernel) (pa_cons (pv 3) pa_nil)) (pe_callB call_len_seq (by rfl) T.len PySem.boot_len (pa_cons (pe_dget hu (pv 0) pe_str (fun _ _ => rfl)) pa_nil))) (fun _ _ => rfl)))) pss_nil)
      (pss_cons (ps_if (PW.pt (pw_and (pt_cmpR op_lt (pv 3) (pe_callB call_len_seq (by rfl) T.len PySem.boot_len (pa_cons (pe_dget hu (pv 0) pe_str (fun _ _ => rfl)) pa_nil)) (nomark _)) (pw_and1 (pt_cmpR op_ge (pv 4) (pe_op op_pow pe_int pe_int) (nomark _))))) (pss_cons (ps_dput hu (pv 0) pe_str (pe_op op_fdiv (pe_op op_sub (pv 4) (pe_op op_pow pe_int pe_int)) (pv 1)) rfl)
      (pss_one (ps_ret (pe_op op_mod (pe_callTy call_int1 (by rfl) T.int (by decide +kernel) (pa_cons (pe_op op_sub (pv 4) (pe_op op_pow pe_int pe_int)) pa_nil)) (pv 1))))) pss_nil)
      (pss_cons (ps_set (i := 5) scDraw.nd rfl (Or.inl rfl) (pe_op op_mul (pe_op op_mod (pe_callTy call_int1 (by rfl) T.int (by decide +kernel) (pa_cons (pv 4) pa_nil)) pe_int) pe_int))
      (pss_cons (ps_set (i := 5) scDraw.nd rfl (Or.inl rfl) (pe_op op_mod (pe_callTy call_int1 (by rfl) T.int (by decide +kernel) (pa_cons (pe_op op_add (pe_op op_add (pe_op op_add (pv 5) (pe_op op_mul (pe_op op_mul pe_int (pv 3)) (pv 3))) (pe_op op_mul pe_int (pv 3))) pe_int) pa_nil)) pe_int))
      (pss_cons (ps_set (i := 5) scDraw.nd rfl (Or.inl rfl) (pe_op op_mod (pe_callTy call_int1 (by rfl) T.int (by decide +kernel) (pa_cons (pe_op op_mul (pv 5) (pe_op op_add (pv 5) pe_int)) pa_nil)) pe_int))
      (pss_one (ps_ret (pe_op op_mod (pe_callTy call_int1 (by rfl) T.int (by decide +kernel) (pa_cons (pe_op op_fdiv (pe_op op_mod (pe_callTy call_int1 (by rfl) T.int (by decide +kernel) (pa_cons (pe_op op_add (pe_op op_mul (pv 5) (pv 5)) (pe_op op_mul pe_int (pv 5))) pa_nil)) pe_int) pe_int) pa_nil)) (pv 1))))))))))))), ?_⟩
    have gR : ∀ {H1 : Hp} {s1 r1 : Int}, H1 p = some (.dK (penD c s1 r1)) → DGet H1 p (.str "rest") (some (.int r1)) := fun e => DGet.k (k := Sum.inr "rest") e
    have gS : ∀ {H1 : Hp} {s1 r1 : Int}, H1 p = some (.dK (penD c s1 r1)) → DGet H1 p (.str "spot") (some (.int s1)) := fun e => DGet.k (k := Sum.inr "spot") e
    have gC : ∀ {H1 : Hp} {s1 r1 : Int}, H1 p = some (.dK (penD c s1 r1)) → DGet H1 p (.str "cells") (some (.ref c)) := fun e => DGet.k (k := Sum.inr "cells") e
    refine ⟨_, rfl, p, _, rfl, gR PA.pd, _, rfl, _, _, rfl, rfl, _, rfl, ?_⟩
    have npc := PA.ne
    refine ite2 (fun _ => ?_) (fun _ => ?_)
    · refine ⟨_, rfl, p, _, rfl, gR PA.pd, .inl ⟨_, rfl, _, rfl, _, _, rfl, rfl, m0, ?_⟩⟩
      refine ⟨_, rfl, p, _, rfl, gR PA.pd, _, rfl, _, _, rfl, rfl, ⟨m0, by omega⟩, _, rfl, p, _, rfl, DPut.k (k := Sum.inr "rest") PA.pd (small1000 (by show 3 ≤ 1000; decide)), ?_⟩
      refine ⟨_, rfl, ?_⟩
      refine k _ spot _ _ (Int.emod_nonneg _ (by omega)) (Int.emod_lt_of_pos _ m0) (Int.le_refl _) (by omega) ⟨upd_same, by rw [upd_ne npc.symm]; exact PA.cl⟩ fun b o hb e => by rw [upd_ne hb]; exact e
    · refine ⟨_, rfl, p, _, rfl, gS PA.pd, ?_⟩
      refine ⟨_, rfl, _, _, rfl, rfl, _, rfl, p, _, rfl, DPut.k (k := Sum.inr "spot") PA.pd (small1000 (by show 3 ≤ 1000; decide)), ?_⟩
      have P1 : PenAt (upd H p (.dK (penD c (spot + 1) rest))) p c ns (spot + 1) rest := ⟨upd_same, by rw [upd_ne npc.symm]; exact PA.cl⟩
      refine ⟨_, rfl, _, _, rfl, rfl, .inl ⟨by decide, by decide⟩, _, _, rfl, rfl, ?_⟩
      refine ⟨_, rfl, p, _, rfl, gC P1.pd, (by show 0 ≤ sizeLine; omega), fun l hl => ?_⟩
      have P2 : PenAt (upd (upd H p (.dK (penD c (spot + 1) rest))) l (.lst [])) p c ns (spot + 1) rest := ⟨by rw [upd_ne (ne_of_none P1.pd hl)]; exact P1.pd, by rw [upd_ne (ne_of_none P1.cl hl)]; exact P1.cl⟩
      have keep2 : ∀ b o, b ≠ p → H b = some o → (upd (upd H p (.dK (penD c (spot + 1) rest))) l (.lst [])) b = some o := fun b o hb e => by
        have e1 : (upd H p (.dK (penD c (spot + 1) rest))) b = some o := by rw [upd_ne hb]; exact e
        rw [upd_ne (ne_of_none e1 hl)]
        exact e1
      refine ⟨.list (ns.map PyData.int), .list [], .lst (SqL.of P2.cl) (dpInts ns), .lst (SqL.of upd_same) .nil, shInts ns, rfl, _, rfl, ?_⟩
      refine ite2 (fun hne => ?_) (fun hne => ?_)
      · have hpos : 0 < ns.length := by
          rw [eqv_nil] at hne
          cases ns with
          | nil => exact absurd hne (by decide)
          | cons _ _ => exact Nat.succ_pos _
        have hlp : (0 : Int) < ((ns.map V.int).length : Int) := by rw [List.length_map]; omega
        obtain ⟨j, hj⟩ : ∃ j : Nat, spot % ((ns.map V.int).length : Int) = (j : Int) := ⟨(spot % ((ns.map V.int).length : Int)).toNat, (Int.toNat_of_nonneg (Int.emod_nonneg _ (by omega))).symm⟩
        have hjl : j < ns.length := by
          have := Int.emod_lt_of_pos spot hlp
          rw [List.length_map] at this hj
          omega
        refine ⟨_, rfl, p, _, rfl, gC P2.pd, _, rfl, .inl ⟨_, rfl, _, rfl, p, _, rfl, gC P2.pd, c, _, rfl, .inl (SqL.of P2.cl), _, _, rfl, rfl, hlp, c, _, _, V.int ns[j], rfl, rfl, SqL.of P2.cl, ?_, ?_⟩⟩
        · show atI (ns.map V.int) (spot % ((ns.map V.int).length : Int)) = _
          rw [hj]
          exact atI_nat (by rw [List.getElem?_map, List.getElem?_eq_getElem hjl]; rfl)
        · refine ⟨_, rfl, _, rfl, p, _, rfl, gC P2.pd, c, _, rfl, .inl (SqL.of P2.cl), _, _, rfl, rfl, _, rfl, ?_⟩
          refine ite2 (fun _ => ?_) (fun _ => ?_)
          · refine ⟨_, rfl, _, _, rfl, rfl, ⟨by decide, by decide, by decide⟩, _, _, rfl, rfl, _, rfl, ?_⟩
            refine ite2 (fun _ => ?_) (fun _ => ?_)
            · refine ⟨_, rfl, _, _, rfl, rfl, ⟨by decide, by decide, by decide⟩, _, _, rfl, rfl, _, rfl, _, _, rfl, rfl, ⟨m0, by omega⟩, _, rfl, p, _, rfl, DPut.k (k := Sum.inr "rest") P2.pd (small1000 (by show 3 ≤ 1000; decide)), ?_⟩
              refine ⟨_, rfl, _, _, rfl, rfl, ⟨by decide, by decide, by decide⟩, _, _, rfl, rfl, .inl ⟨_, rfl, _, rfl, _, _, rfl, rfl, m0, ?_⟩⟩
              refine k _ (spot + 1) _ _ (Int.emod_nonneg _ (by omega)) (Int.emod_lt_of_pos _ m0) (by omega) (by omega) ⟨upd_same, by rw [upd_ne npc.symm]; exact P2.cl⟩ fun b o hb e => by rw [upd_ne hb]; exact keep2 b o hb e
            · refine ⟨_, rfl, .inl ⟨_, rfl, _, _, rfl, rfl, (by show (0 : Int) < _; decide), _, _, rfl, rfl, .inr ⟨by decide, by decide⟩, ?_⟩⟩
              refine ⟨_, rfl, _, rfl, _, _, rfl, rfl, .inl ⟨by decide, by decide⟩, _, rfl, _, _, rfl, rfl, .inr ⟨by omega, by omega⟩, _, _, rfl, rfl, _, rfl, _, _, rfl, rfl, .inl ⟨by decide, by decide⟩, _, _, rfl, rfl, _, _, rfl, rfl, .inl ⟨_, rfl, _, _, rfl, rfl, (by show (0 : Int) < _; decide), ?_⟩⟩
              refine ⟨_, rfl, _, rfl, _, _, rfl, rfl, _, _, rfl, rfl, .inl (modB _ (by decide) (by decide)), .inl ⟨_, rfl, _, _, rfl, rfl, (by show (0 : Int) < _; decide), ?_⟩⟩
              refine ⟨_, rfl, _, rfl, _, _, rfl, rfl, .inl (modB _ (by decide) (by decide)), _, rfl, _, _, rfl, rfl, .inl ⟨by decide, by decide⟩, _, _, rfl, rfl, .inl ⟨_, rfl, _, _, rfl, rfl, (by show (0 : Int) < _; decide), _, _, rfl, rfl, ⟨by decide, by decide⟩, .inl ⟨_, rfl, _, rfl, _, _, rfl, rfl, m0, ?_⟩⟩⟩
              exact k _ (spot + 1) rest _ (Int.emod_nonneg _ (by omega)) (Int.emod_lt_of_pos _ m0) (by omega) (by omega) P2 keep2
          · refine ⟨_, rfl, .inl ⟨_, rfl, _, _, rfl, rfl, (by show (0 : Int) < _; decide), _, _, rfl, rfl, .inr ⟨by decide, by decide⟩, ?_⟩⟩
            refine ⟨_, rfl, _, rfl, _, _, rfl, rfl, .inl ⟨by decide, by decide⟩, _, rfl, _, _, rfl, rfl, .inr ⟨by omega, by omega⟩, _, _, rfl, rfl, _, rfl, _, _, rfl, rfl, .inl ⟨by decide, by decide⟩, _, _, rfl, rfl, _, _, rfl, rfl, .inl ⟨_, rfl, _, _, rfl, rfl, (by show (0 : Int) < _; decide), ?_⟩⟩
            refine ⟨_, rfl, _, rfl, _, _, rfl, rfl, _, _, rfl, rfl, .inl (modB _ (by decide) (by decide)), .inl ⟨_, rfl, _, _, rfl, rfl, (by show (0 : Int) < _; decide), ?_⟩⟩
            refine ⟨_, rfl, _, rfl, _, _, rfl, rfl, .inl (modB _ (by decide) (by decide)), _, rfl, _, _, rfl, rfl, .inl ⟨by decide, by decide⟩, _, _, rfl, rfl, .inl ⟨_, rfl, _, _, rfl, rfl, (by show (0 : Int) < _; decide), _, _, rfl, rfl, ⟨by decide, by decide⟩, .inl ⟨_, rfl, _, rfl, _, _, rfl, rfl, m0, ?_⟩⟩⟩
            exact k _ (spot + 1) rest _ (Int.emod_nonneg _ (by omega)) (Int.emod_lt_of_pos _ m0) (by omega) (by omega) P2 keep2
      · refine ⟨_, rfl, _, rfl, p, _, rfl, gC P2.pd, c, _, rfl, .inl (SqL.of P2.cl), _, _, rfl, rfl, _, rfl, ?_⟩
        refine ite2 (fun _ => ?_) (fun _ => ?_)
        · refine ⟨_, rfl, _, _, rfl, rfl, ⟨by decide, by decide, by decide⟩, _, _, rfl, rfl, _, rfl, ?_⟩
          refine ite2 (fun _ => ?_) (fun _ => ?_)
          · refine ⟨_, rfl, _, _, rfl, rfl, ⟨by decide, by decide, by decide⟩, _, _, rfl, rfl, _, rfl, _, _, rfl, rfl, ⟨m0, by omega⟩, _, rfl, p, _, rfl, DPut.k (k := Sum.inr "rest") P2.pd (small1000 (by show 3 ≤ 1000; decide)), ?_⟩
            refine ⟨_, rfl, _, _, rfl, rfl, ⟨by decide, by decide, by decide⟩, _, _, rfl, rfl, .inl ⟨_, rfl, _, rfl, _, _, rfl, rfl, m0, ?_⟩⟩
            refine k _ (spot + 1) _ _ (Int.emod_nonneg _ (by omega)) (Int.emod_lt_of_pos _ m0) (by omega) (by omega) ⟨upd_same, by rw [upd_ne npc.symm]; exact P2.cl⟩ fun b o hb e => by rw [upd_ne hb]; exact keep2 b o hb e
          · refine ⟨_, rfl, .inl ⟨_, rfl, _, _, rfl, rfl, (by show (0 : Int) < _; decide), _, _, rfl, rfl, .inr ⟨by decide, by decide⟩, ?_⟩⟩
            refine ⟨_, rfl, _, rfl, _, _, rfl, rfl, .inl ⟨by decide, by decide⟩, _, rfl, _, _, rfl, rfl, .inr ⟨by omega, by omega⟩, _, _, rfl, rfl, _, rfl, _, _, rfl, rfl, .inl ⟨by decide, by decide⟩, _, _, rfl, rfl, _, _, rfl, rfl, .inl ⟨_, rfl, _, _, rfl, rfl, (by show (0 : Int) < _; decide), ?_⟩⟩
            refine ⟨_, rfl, _, rfl, _, _, rfl, rfl, _, _, rfl, rfl, .inl (modB _ (by decide) (by decide)), .inl ⟨_, rfl, _, _, rfl, rfl, (by show (0 : Int) < _; decide), ?_⟩⟩
            refine ⟨_, rfl, _, rfl, _, _, rfl, rfl, .inl (modB _ (by decide) (by decide)), _, rfl, _, _, rfl, rfl, .inl ⟨by decide, by decide⟩, _, _, rfl, rfl, .inl ⟨_, rfl, _, _, rfl, rfl, (by show (0 : Int) < _; decide), _, _, rfl, rfl, ⟨by decide, by decide⟩, .inl ⟨_, rfl, _, rfl, _, _, rfl, rfl, m0, ?_⟩⟩⟩
            exact k _ (spot + 1) rest _ (Int.emod_nonneg _ (by omega)) (Int.emod_lt_of_pos _ m0) (by omega) (by omega) P2 keep2
        · refine ⟨_, rfl, .inl ⟨_, rfl, _, _, rfl, rfl, (by show (0 : Int) < _; decide), _, _, rfl, rfl, .inr ⟨by decide, by decide⟩, ?_⟩⟩
          refine ⟨_, rfl, _, rfl, _, _, rfl, rfl, .inl ⟨by decide, by decide⟩, _, rfl, _, _, rfl, rfl, .inr ⟨by omega, by omega⟩, _, _, rfl, rfl, _, rfl, _, _, rfl, rfl, .inl ⟨by decide, by decide⟩, _, _, rfl, rfl, _, _, rfl, rfl, .inl ⟨_, rfl, _, _, rfl, rfl, (by show (0 : Int) < _; decide), ?_⟩⟩
          refine ⟨_, rfl, _, rfl, _, _, rfl, rfl, _, _, rfl, rfl, .inl (modB _ (by decide) (by decide)), .inl ⟨_, rfl, _, _, rfl, rfl, (by show (0 : Int) < _; decide), ?_⟩⟩
          refine ⟨_, rfl, _, rfl, _, _, rfl, rfl, .inl (modB _ (by decide) (by decide)), _, rfl, _, _, rfl, rfl, .inl ⟨by decide, by decide⟩, _, _, rfl, rfl, .inl ⟨_, rfl, _, _, rfl, rfl, (by show (0 : Int) < _; decide), _, _, rfl, rfl, ⟨by decide, by decide⟩, .inl ⟨_, rfl, _, rfl, _, _, rfl, rfl, m0, ?_⟩⟩⟩
          exact k _ (spot + 1) rest _ (Int.emod_nonneg _ (by omega)) (Int.emod_lt_of_pos _ m0) (by omega) (by omega) P2 keep2
end
end K00
set_option Elab.async false
set_option linter.all false
set_option maxRecDepth 100000
set_option maxHeartbeats 4000000
namespace K00
open PySem L2 PySem.GW
theorem noAt {P : Program} {K : PySem.W.Frag} {mg : Str → Option Value} {C fI : Addr} {params : Arguments} {scope : Scope} {l : List Fl} (I : ErrI P K mg C fI params scope l) (k : Nat) {f : Str} (h : (l.map (fun p => p.f))[k]? = some f) : PySem.W.findIn K (.ref C) f = some none := by
  rw [List.getElem?_map] at h
  cases e : l[k]? with
  | none => rw [e] at h; cases h
  | some p =>
    rw [e] at h
    cases h
    exact I.no p (List.mem_of_getElem? e)
def fl2 : List Fl := [⟨"field", ⟨7, 25, 7, 30⟩, ⟨8, 8, 8, 12⟩, ⟨8, 8, 8, 18⟩, ⟨8, 21, 8, 26⟩, ⟨8, 8, 8, 26⟩⟩]
theorem ini2 : IniOk (inClass (top 2) 0) fl2 := ⟨⟨⟨7, 8, 7, 13⟩, ⟨7, 8, 7, 15⟩, ⟨7, 8, 7, 24⟩, ⟨7, 8, 7, 31⟩, ⟨7, 8, 7, 31⟩, rfl, rfl⟩, by decide +kernel, by decide +kernel, by decide +kernel, ⟨_, rfl⟩, rfl, rfl, rfl, by decide +kernel, by decide +kernel, by decide +kernel, by decide +kernel, by decide +kernel⟩
theorem eb_BadPiece_0 : EBind (defArgs (inClass (top 2) 0)) (defScope (inClass (top 2) 0)) fl2 0 ["field"] := by
  intro us ws h1 h2 s e qual body doc pm an cda ct cc
  match us, ws, h1, h2 with
  | [], [_], _, _ => exact .of_eq rfl
theorem eb_BadPiece_1 : EBind (defArgs (inClass (top 2) 0)) (defScope (inClass (top 2) 0)) fl2 fl2.length [] := by
  intro us ws h1 h2 s e qual body doc pm an cda ct cc
  match us, ws, h1, h2 with
  | [_], [], _, _ => exact .of_eq rfl
def fl3 : List Fl := [⟨"kind", ⟨12, 25, 12, 29⟩, ⟨13, 8, 13, 12⟩, ⟨13, 8, 13, 17⟩, ⟨13, 20, 13, 24⟩, ⟨13, 8, 13, 24⟩⟩]
theorem ini3 : IniOk (inClass (top 3) 0) fl3 := ⟨⟨⟨12, 8, 12, 13⟩, ⟨12, 8, 12, 15⟩, ⟨12, 8, 12, 24⟩, ⟨12, 8, 12, 30⟩, ⟨12, 8, 12, 30⟩, rfl, rfl⟩, by decide +kernel, by decide +kernel, by decide +kernel, ⟨_, rfl⟩, rfl, rfl, rfl, by decide +kernel, by decide +kernel, by decide +kernel, by decide +kernel, by decide +kernel⟩
theorem eb_BadBook_0 : EBind (defArgs (inClass (top 3) 0)) (defScope (inClass (top 3) 0)) fl3 0 ["kind"] := by
  intro us ws h1 h2 s e qual body doc pm an cda ct cc
  match us, ws, h1, h2 with
  | [], [_], _, _ => exact .of_eq rfl
theorem eb_BadBook_1 : EBind (defArgs (inClass (top 3) 0)) (defScope (inClass (top 3) 0)) fl3 fl3.length [] := by
  intro us ws h1 h2 s e qual body doc pm an cda ct cc
  match us, ws, h1, h2 with
  | [_], [], _, _ => exact .of_eq rfl
def fl4 : List Fl := [⟨"kind", ⟨17, 25, 17, 29⟩, ⟨18, 8, 18, 12⟩, ⟨18, 8, 18, 17⟩, ⟨18, 20, 18, 24⟩, ⟨18, 8, 18, 24⟩⟩, ⟨"number", ⟨17, 31, 17, 37⟩, ⟨19, 8, 19, 12⟩, ⟨19, 8, 19, 19⟩, ⟨19, 22, 19, 28⟩, ⟨19, 8, 19, 28⟩⟩]
theorem ini4 : IniOk (inClass (top 4) 0) fl4 := ⟨⟨⟨17, 8, 17, 13⟩, ⟨17, 8, 17, 15⟩, ⟨17, 8, 17, 24⟩, ⟨17, 8, 17, 38⟩, ⟨17, 8, 17, 38⟩, rfl, rfl⟩, by decide +kernel, by decide +kernel, by decide +kernel, ⟨_, rfl⟩, rfl, rfl, rfl, by decide +kernel, by decide +kernel, by decide +kernel, by decide +kernel, by decide +kernel⟩
theorem eb_BadBud_1 : EBind (defArgs (inClass (top 4) 0)) (defScope (inClass (top 4) 0)) fl4 1 ["number"] := by
  intro us ws h1 h2 s e qual body doc pm an cda ct cc
  match us, ws, h1, h2 with
  | [_], [_], _, _ => exact .of_eq rfl
theorem eb_BadBud_2 : EBind (defArgs (inClass (top 4) 0)) (defScope (inClass (top 4) 0)) fl4 fl4.length [] := by
  intro us ws h1 h2 s e qual body doc pm an cda ct cc
  match us, ws, h1, h2 with
  | [_, _], [], _, _ => exact .of_eq rfl
def fl5 : List Fl := [⟨"ring", ⟨23, 25, 23, 29⟩, ⟨24, 8, 24, 12⟩, ⟨24, 8, 24, 17⟩, ⟨24, 20, 24, 24⟩, ⟨24, 8, 24, 24⟩⟩]
theorem ini5 : IniOk (inClass (top 5) 0) fl5 := ⟨⟨⟨23, 8, 23, 13⟩, ⟨23, 8, 23, 15⟩, ⟨23, 8, 23, 24⟩, ⟨23, 8, 23, 30⟩, ⟨23, 8, 23, 30⟩, rfl, rfl⟩, by decide +kernel, by decide +kernel, by decide +kernel, ⟨_, rfl⟩, rfl, rfl, rfl, by decide +kernel, by decide +kernel, by decide +kernel, by decide +kernel, by decide +kernel⟩
theorem eb_HandedOn_0 : EBind (defArgs (inClass (top 5) 0)) (defScope (inClass (top 5) 0)) fl5 0 ["ring"] := by
  intro us ws h1 h2 s e qual body doc pm an cda ct cc
  match us, ws, h1, h2 with
  | [], [_], _, _ => exact .of_eq rfl
theorem eb_HandedOn_1 : EBind (defArgs (inClass (top 5) 0)) (defScope (inClass (top 5) 0)) fl5 fl5.length [] := by
  intro us ws h1 h2 s e qual body doc pm an cda ct cc
  match us, ws, h1, h2 with
  | [_], [], _, _ => exact .of_eq rfl
def fl6 : List Fl := [⟨"kind", ⟨28, 25, 28, 29⟩, ⟨29, 8, 29, 12⟩, ⟨29, 8, 29, 17⟩, ⟨29, 20, 29, 24⟩, ⟨29, 8, 29, 24⟩⟩]
theorem ini6 : IniOk (inClass (top 6) 0) fl6 := ⟨⟨⟨28, 8, 28, 13⟩, ⟨28, 8, 28, 15⟩, ⟨28, 8, 28, 24⟩, ⟨28, 8, 28, 30⟩, ⟨28, 8, 28, 30⟩, rfl, rfl⟩, by decide +kernel, by decide +kernel, by decide +kernel, ⟨_, rfl⟩, rfl, rfl, rfl, by decide +kernel, by decide +kernel, by decide +kernel, by decide +kernel, by decide +kernel⟩
theorem eb_NoKind_0 : EBind (defArgs (inClass (top 6) 0)) (defScope (inClass (top 6) 0)) fl6 0 ["kind"] := by
  intro us ws h1 h2 s e qual body doc pm an cda ct cc
  match us, ws, h1, h2 with
  | [], [_], _, _ => exact .of_eq rfl
theorem eb_NoKind_1 : EBind (defArgs (inClass (top 6) 0)) (defScope (inClass (top 6) 0)) fl6 fl6.length [] := by
  intro us ws h1 h2 s e qual body doc pm an cda ct cc
  match us, ws, h1, h2 with
  | [_], [], _, _ => exact .of_eq rfl
def fl7 : List Fl := [⟨"kind", ⟨33, 25, 33, 29⟩, ⟨34, 8, 34, 12⟩, ⟨34, 8, 34, 17⟩, ⟨34, 20, 34, 24⟩, ⟨34, 8, 34, 24⟩⟩, ⟨"letter", ⟨33, 31, 33, 37⟩, ⟨35, 8, 35, 12⟩, ⟨35, 8, 35, 19⟩, ⟨35, 22, 35, 28⟩, ⟨35, 8, 35, 28⟩⟩]
theorem ini7 : IniOk (inClass (top 7) 0) fl7 := ⟨⟨⟨33, 8, 33, 13⟩, ⟨33, 8, 33, 15⟩, ⟨33, 8, 33, 24⟩, ⟨33, 8, 33, 38⟩, ⟨33, 8, 33, 38⟩, rfl, rfl⟩, by decide +kernel, by decide +kernel, by decide +kernel, ⟨_, rfl⟩, rfl, rfl, rfl, by decide +kernel, by decide +kernel, by decide +kernel, by decide +kernel, by decide +kernel⟩
theorem eb_NoMouth_2 : EBind (defArgs (inClass (top 7) 0)) (defScope (inClass (top 7) 0)) fl7 fl7.length [] := by
  intro us ws h1 h2 s e qual body doc pm an cda ct cc
  match us, ws, h1, h2 with
  | [_, _], [], _, _ => exact .of_eq rfl
def fl8 : List Fl := [⟨"kind", ⟨39, 25, 39, 29⟩, ⟨40, 8, 40, 12⟩, ⟨40, 8, 40, 17⟩, ⟨40, 20, 40, 24⟩, ⟨40, 8, 40, 24⟩⟩, ⟨"part", ⟨39, 31, 39, 35⟩, ⟨41, 8, 41, 12⟩, ⟨41, 8, 41, 17⟩, ⟨41, 20, 41, 24⟩, ⟨41, 8, 41, 24⟩⟩]
theorem ini8 : IniOk (inClass (top 8) 0) fl8 := ⟨⟨⟨39, 8, 39, 13⟩, ⟨39, 8, 39, 15⟩, ⟨39, 8, 39, 24⟩, ⟨39, 8, 39, 36⟩, ⟨39, 8, 39, 36⟩, rfl, rfl⟩, by decide +kernel, by decide +kernel, by decide +kernel, ⟨_, rfl⟩, rfl, rfl, rfl, by decide +kernel, by decide +kernel, by decide +kernel, by decide +kernel, by decide +kernel⟩
theorem eb_NoPart_0 : EBind (defArgs (inClass (top 8) 0)) (defScope (inClass (top 8) 0)) fl8 0 ["kind", "part"] := by
  intro us ws h1 h2 s e qual body doc pm an cda ct cc
  match us, ws, h1, h2 with
  | [], [_, _], _, _ => exact .of_eq rfl
theorem eb_NoPart_2 : EBind (defArgs (inClass (top 8) 0)) (defScope (inClass (top 8) 0)) fl8 fl8.length [] := by
  intro us ws h1 h2 s e qual body doc pm an cda ct cc
  match us, ws, h1, h2 with
  | [_, _], [], _, _ => exact .of_eq rfl
def fl9 : List Fl := [⟨"row", ⟨45, 25, 45, 28⟩, ⟨46, 8, 46, 12⟩, ⟨46, 8, 46, 16⟩, ⟨46, 19, 46, 22⟩, ⟨46, 8, 46, 22⟩⟩]
theorem ini9 : IniOk (inClass (top 9) 0) fl9 := ⟨⟨⟨45, 8, 45, 13⟩, ⟨45, 8, 45, 15⟩, ⟨45, 8, 45, 24⟩, ⟨45, 8, 45, 29⟩, ⟨45, 8, 45, 29⟩, rfl, rfl⟩, by decide +kernel, by decide +kernel, by decide +kernel, ⟨_, rfl⟩, rfl, rfl, rfl, by decide +kernel, by decide +kernel, by decide +kernel, by decide +kernel, by decide +kernel⟩
theorem eb_NoPiece_0 : EBind (defArgs (inClass (top 9) 0)) (defScope (inClass (top 9) 0)) fl9 0 ["row"] := by
  intro us ws h1 h2 s e qual body doc pm an cda ct cc
  match us, ws, h1, h2 with
  | [], [_], _, _ => exact .of_eq rfl
theorem eb_NoPiece_1 : EBind (defArgs (inClass (top 9) 0)) (defScope (inClass (top 9) 0)) fl9 fl9.length [] := by
  intro us ws h1 h2 s e qual body doc pm an cda ct cc
  match us, ws, h1, h2 with
  | [_], [], _, _ => exact .of_eq rfl
def fl10 : List Fl := [⟨"told", ⟨50, 25, 50, 29⟩, ⟨51, 8, 51, 12⟩, ⟨51, 8, 51, 17⟩, ⟨51, 20, 51, 24⟩, ⟨51, 8, 51, 24⟩⟩]
theorem ini10 : IniOk (inClass (top 10) 0) fl10 := ⟨⟨⟨50, 8, 50, 13⟩, ⟨50, 8, 50, 15⟩, ⟨50, 8, 50, 24⟩, ⟨50, 8, 50, 30⟩, ⟨50, 8, 50, 30⟩, rfl, rfl⟩, by decide +kernel, by decide +kernel, by decide +kernel, ⟨_, rfl⟩, rfl, rfl, rfl, by decide +kernel, by decide +kernel, by decide +kernel, by decide +kernel, by decide +kernel⟩
theorem eb_NoPlace_0 : EBind (defArgs (inClass (top 10) 0)) (defScope (inClass (top 10) 0)) fl10 0 ["told"] := by
  intro us ws h1 h2 s e qual body doc pm an cda ct cc
  match us, ws, h1, h2 with
  | [], [_], _, _ => exact .of_eq rfl
theorem eb_NoPlace_1 : EBind (defArgs (inClass (top 10) 0)) (defScope (inClass (top 10) 0)) fl10 fl10.length [] := by
  intro us ws h1 h2 s e qual body doc pm an cda ct cc
  match us, ws, h1, h2 with
  | [_], [], _, _ => exact .of_eq rfl
def fl11 : List Fl := [⟨"kind", ⟨55, 25, 55, 29⟩, ⟨56, 8, 56, 12⟩, ⟨56, 8, 56, 17⟩, ⟨56, 20, 56, 24⟩, ⟨56, 8, 56, 24⟩⟩, ⟨"number", ⟨55, 31, 55, 37⟩, ⟨57, 8, 57, 12⟩, ⟨57, 8, 57, 19⟩, ⟨57, 22, 57, 28⟩, ⟨57, 8, 57, 28⟩⟩]
theorem ini11 : IniOk (inClass (top 11) 0) fl11 := ⟨⟨⟨55, 8, 55, 13⟩, ⟨55, 8, 55, 15⟩, ⟨55, 8, 55, 24⟩, ⟨55, 8, 55, 38⟩, ⟨55, 8, 55, 38⟩, rfl, rfl⟩, by decide +kernel, by decide +kernel, by decide +kernel, ⟨_, rfl⟩, rfl, rfl, rfl, by decide +kernel, by decide +kernel, by decide +kernel, by decide +kernel, by decide +kernel⟩
theorem eb_NoBud_1 : EBind (defArgs (inClass (top 11) 0)) (defScope (inClass (top 11) 0)) fl11 1 ["number"] := by
  intro us ws h1 h2 s e qual body doc pm an cda ct cc
  match us, ws, h1, h2 with
  | [_], [_], _, _ => exact .of_eq rfl
theorem eb_NoBud_2 : EBind (defArgs (inClass (top 11) 0)) (defScope (inClass (top 11) 0)) fl11 fl11.length [] := by
  intro us ws h1 h2 s e qual body doc pm an cda ct cc
  match us, ws, h1, h2 with
  | [_, _], [], _, _ => exact .of_eq rfl
def fl12 : List Fl := [⟨"kind", ⟨61, 25, 61, 29⟩, ⟨62, 8, 62, 12⟩, ⟨62, 8, 62, 17⟩, ⟨62, 20, 62, 24⟩, ⟨62, 8, 62, 24⟩⟩, ⟨"one", ⟨61, 31, 61, 34⟩, ⟨63, 8, 63, 12⟩, ⟨63, 8, 63, 16⟩, ⟨63, 19, 63, 22⟩, ⟨63, 8, 63, 22⟩⟩, ⟨"other", ⟨61, 36, 61, 41⟩, ⟨64, 8, 64, 12⟩, ⟨64, 8, 64, 18⟩, ⟨64, 21, 64, 26⟩, ⟨64, 8, 64, 26⟩⟩]
theorem ini12 : IniOk (inClass (top 12) 0) fl12 := ⟨⟨⟨61, 8, 61, 13⟩, ⟨61, 8, 61, 15⟩, ⟨61, 8, 61, 24⟩, ⟨61, 8, 61, 42⟩, ⟨61, 8, 61, 42⟩, rfl, rfl⟩, by decide +kernel, by decide +kernel, by decide +kernel, ⟨_, rfl⟩, rfl, rfl, rfl, by decide +kernel, by decide +kernel, by decide +kernel, by decide +kernel, by decide +kernel⟩
theorem eb_NoTie_1 : EBind (defArgs (inClass (top 12) 0)) (defScope (inClass (top 12) 0)) fl12 1 ["one", "other"] := by
  intro us ws h1 h2 s e qual body doc pm an cda ct cc
  match us, ws, h1, h2 with
  | [_], [_, _], _, _ => exact .of_eq rfl
theorem eb_NoTie_2 : EBind (defArgs (inClass (top 12) 0)) (defScope (inClass (top 12) 0)) fl12 2 ["other"] := by
  intro us ws h1 h2 s e qual body doc pm an cda ct cc
  match us, ws, h1, h2 with
  | [_, _], [_], _, _ => exact .of_eq rfl
theorem eb_NoTie_3 : EBind (defArgs (inClass (top 12) 0)) (defScope (inClass (top 12) 0)) fl12 fl12.length [] := by
  intro us ws h1 h2 s e qual body doc pm an cda ct cc
  match us, ws, h1, h2 with
  | [_, _, _], [], _, _ => exact .of_eq rfl
def fl14 : List Fl := [⟨"most", ⟨70, 25, 70, 29⟩, ⟨71, 8, 71, 12⟩, ⟨71, 8, 71, 17⟩, ⟨71, 20, 71, 24⟩, ⟨71, 8, 71, 24⟩⟩]
theorem ini14 : IniOk (inClass (top 14) 0) fl14 := ⟨⟨⟨70, 8, 70, 13⟩, ⟨70, 8, 70, 15⟩, ⟨70, 8, 70, 24⟩, ⟨70, 8, 70, 30⟩, ⟨70, 8, 70, 30⟩, rfl, rfl⟩, by decide +kernel, by decide +kernel, by decide +kernel, ⟨_, rfl⟩, rfl, rfl, rfl, by decide +kernel, by decide +kernel, by decide +kernel, by decide +kernel, by decide +kernel⟩
theorem eb_TooMany_0 : EBind (defArgs (inClass (top 14) 0)) (defScope (inClass (top 14) 0)) fl14 0 ["most"] := by
  intro us ws h1 h2 s e qual body doc pm an cda ct cc
  match us, ws, h1, h2 with
  | [], [_], _, _ => exact .of_eq rfl
theorem eb_TooMany_1 : EBind (defArgs (inClass (top 14) 0)) (defScope (inClass (top 14) 0)) fl14 fl14.length [] := by
  intro us ws h1 h2 s e qual body doc pm an cda ct cc
  match us, ws, h1, h2 with
  | [_], [], _, _ => exact .of_eq rfl
def fl15 : List Fl := [⟨"number", ⟨75, 25, 75, 31⟩, ⟨76, 8, 76, 12⟩, ⟨76, 8, 76, 19⟩, ⟨76, 22, 76, 28⟩, ⟨76, 8, 76, 28⟩⟩]
theorem ini15 : IniOk (inClass (top 15) 0) fl15 := ⟨⟨⟨75, 8, 75, 13⟩, ⟨75, 8, 75, 15⟩, ⟨75, 8, 75, 24⟩, ⟨75, 8, 75, 32⟩, ⟨75, 8, 75, 32⟩, rfl, rfl⟩, by decide +kernel, by decide +kernel, by decide +kernel, ⟨_, rfl⟩, rfl, rfl, rfl, by decide +kernel, by decide +kernel, by decide +kernel, by decide +kernel, by decide +kernel⟩
theorem eb_TooFar_0 : EBind (defArgs (inClass (top 15) 0)) (defScope (inClass (top 15) 0)) fl15 0 ["number"] := by
  intro us ws h1 h2 s e qual body doc pm an cda ct cc
  match us, ws, h1, h2 with
  | [], [_], _, _ => exact .of_eq rfl
theorem eb_TooFar_1 : EBind (defArgs (inClass (top 15) 0)) (defScope (inClass (top 15) 0)) fl15 fl15.length [] := by
  intro us ws h1 h2 s e qual body doc pm an cda ct cc
  match us, ws, h1, h2 with
  | [_], [], _, _ => exact .of_eq rfl
def fl16 : List Fl := [⟨"length", ⟨80, 25, 80, 31⟩, ⟨81, 8, 81, 12⟩, ⟨81, 8, 81, 19⟩, ⟨81, 22, 81, 28⟩, ⟨81, 8, 81, 28⟩⟩]
theorem ini16 : IniOk (inClass (top 16) 0) fl16 := ⟨⟨⟨80, 8, 80, 13⟩, ⟨80, 8, 80, 15⟩, ⟨80, 8, 80, 24⟩, ⟨80, 8, 80, 32⟩, ⟨80, 8, 80, 32⟩, rfl, rfl⟩, by decide +kernel, by decide +kernel, by decide +kernel, ⟨_, rfl⟩, rfl, rfl, rfl, by decide +kernel, by decide +kernel, by decide +kernel, by decide +kernel, by decide +kernel⟩
theorem eb_TooLong_0 : EBind (defArgs (inClass (top 16) 0)) (defScope (inClass (top 16) 0)) fl16 0 ["length"] := by
  intro us ws h1 h2 s e qual body doc pm an cda ct cc
  match us, ws, h1, h2 with
  | [], [_], _, _ => exact .of_eq rfl
theorem eb_TooLong_1 : EBind (defArgs (inClass (top 16) 0)) (defScope (inClass (top 16) 0)) fl16 fl16.length [] := by
  intro us ws h1 h2 s e qual body doc pm an cda ct cc
  match us, ws, h1, h2 with
  | [_], [], _, _ => exact .of_eq rfl
def fl18 : List Fl := [⟨"value", ⟨87, 25, 87, 30⟩, ⟨88, 8, 88, 12⟩, ⟨88, 8, 88, 18⟩, ⟨88, 21, 88, 26⟩, ⟨88, 8, 88, 26⟩⟩]
theorem ini18 : IniOk (inClass (top 18) 0) fl18 := ⟨⟨⟨87, 8, 87, 13⟩, ⟨87, 8, 87, 15⟩, ⟨87, 8, 87, 24⟩, ⟨87, 8, 87, 31⟩, ⟨87, 8, 87, 31⟩, rfl, rfl⟩, by decide +kernel, by decide +kernel, by decide +kernel, ⟨_, rfl⟩, rfl, rfl, rfl, by decide +kernel, by decide +kernel, by decide +kernel, by decide +kernel, by decide +kernel⟩
theorem eb_BadNumber_0 : EBind (defArgs (inClass (top 18) 0)) (defScope (inClass (top 18) 0)) fl18 0 ["value"] := by
  intro us ws h1 h2 s e qual body doc pm an cda ct cc
  match us, ws, h1, h2 with
  | [], [_], _, _ => exact .of_eq rfl
theorem eb_BadNumber_1 : EBind (defArgs (inClass (top 18) 0)) (defScope (inClass (top 18) 0)) fl18 fl18.length [] := by
  intro us ws h1 h2 s e qual body doc pm an cda ct cc
  match us, ws, h1, h2 with
  | [_], [], _, _ => exact .of_eq rfl
def fl19 : List Fl := [⟨"value", ⟨92, 25, 92, 30⟩, ⟨93, 8, 93, 12⟩, ⟨93, 8, 93, 18⟩, ⟨93, 21, 93, 26⟩, ⟨93, 8, 93, 26⟩⟩]
theorem ini19 : IniOk (inClass (top 19) 0) fl19 := ⟨⟨⟨92, 8, 92, 13⟩, ⟨92, 8, 92, 15⟩, ⟨92, 8, 92, 24⟩, ⟨92, 8, 92, 31⟩, ⟨92, 8, 92, 31⟩, rfl, rfl⟩, by decide +kernel, by decide +kernel, by decide +kernel, ⟨_, rfl⟩, rfl, rfl, rfl, by decide +kernel, by decide +kernel, by decide +kernel, by decide +kernel, by decide +kernel⟩
theorem eb_BadWord_0 : EBind (defArgs (inClass (top 19) 0)) (defScope (inClass (top 19) 0)) fl19 0 ["value"] := by
  intro us ws h1 h2 s e qual body doc pm an cda ct cc
  match us, ws, h1, h2 with
  | [], [_], _, _ => exact .of_eq rfl
theorem eb_BadWord_1 : EBind (defArgs (inClass (top 19) 0)) (defScope (inClass (top 19) 0)) fl19 fl19.length [] := by
  intro us ws h1 h2 s e qual body doc pm an cda ct cc
  match us, ws, h1, h2 with
  | [_], [], _, _ => exact .of_eq rfl
def fl20 : List Fl := [⟨"index", ⟨97, 25, 97, 30⟩, ⟨98, 8, 98, 12⟩, ⟨98, 8, 98, 18⟩, ⟨98, 21, 98, 26⟩, ⟨98, 8, 98, 26⟩⟩]
theorem ini20 : IniOk (inClass (top 20) 0) fl20 := ⟨⟨⟨97, 8, 97, 13⟩, ⟨97, 8, 97, 15⟩, ⟨97, 8, 97, 24⟩, ⟨97, 8, 97, 31⟩, ⟨97, 8, 97, 31⟩, rfl, rfl⟩, by decide +kernel, by decide +kernel, by decide +kernel, ⟨_, rfl⟩, rfl, rfl, rfl, by decide +kernel, by decide +kernel, by decide +kernel, by decide +kernel, by decide +kernel⟩
theorem eb_BadRow_0 : EBind (defArgs (inClass (top 20) 0)) (defScope (inClass (top 20) 0)) fl20 0 ["index"] := by
  intro us ws h1 h2 s e qual body doc pm an cda ct cc
  match us, ws, h1, h2 with
  | [], [_], _, _ => exact .of_eq rfl
theorem eb_BadRow_1 : EBind (defArgs (inClass (top 20) 0)) (defScope (inClass (top 20) 0)) fl20 fl20.length [] := by
  intro us ws h1 h2 s e qual body doc pm an cda ct cc
  match us, ws, h1, h2 with
  | [_], [], _, _ => exact .of_eq rfl
def fl21 : List Fl := [⟨"number", ⟨102, 25, 102, 31⟩, ⟨103, 8, 103, 12⟩, ⟨103, 8, 103, 19⟩, ⟨103, 22, 103, 28⟩, ⟨103, 8, 103, 28⟩⟩]
theorem ini21 : IniOk (inClass (top 21) 0) fl21 := ⟨⟨⟨102, 8, 102, 13⟩, ⟨102, 8, 102, 15⟩, ⟨102, 8, 102, 24⟩, ⟨102, 8, 102, 32⟩, ⟨102, 8, 102, 32⟩, rfl, rfl⟩, by decide +kernel, by decide +kernel, by decide +kernel, ⟨_, rfl⟩, rfl, rfl, rfl, by decide +kernel, by decide +kernel, by decide +kernel, by decide +kernel, by decide +kernel⟩
theorem eb_OutsideRow_0 : EBind (defArgs (inClass (top 21) 0)) (defScope (inClass (top 21) 0)) fl21 0 ["number"] := by
  intro us ws h1 h2 s e qual body doc pm an cda ct cc
  match us, ws, h1, h2 with
  | [], [_], _, _ => exact .of_eq rfl
theorem eb_OutsideRow_1 : EBind (defArgs (inClass (top 21) 0)) (defScope (inClass (top 21) 0)) fl21 fl21.length [] := by
  intro us ws h1 h2 s e qual body doc pm an cda ct cc
  match us, ws, h1, h2 with
  | [_], [], _, _ => exact .of_eq rfl
def fl22 : List Fl := [⟨"field", ⟨107, 25, 107, 30⟩, ⟨108, 8, 108, 12⟩, ⟨108, 8, 108, 18⟩, ⟨108, 21, 108, 26⟩, ⟨108, 8, 108, 26⟩⟩]
theorem ini22 : IniOk (inClass (top 22) 0) fl22 := ⟨⟨⟨107, 8, 107, 13⟩, ⟨107, 8, 107, 15⟩, ⟨107, 8, 107, 24⟩, ⟨107, 8, 107, 31⟩, ⟨107, 8, 107, 31⟩, rfl, rfl⟩, by decide +kernel, by decide +kernel, by decide +kernel, ⟨_, rfl⟩, rfl, rfl, rfl, by decide +kernel, by decide +kernel, by decide +kernel, by decide +kernel, by decide +kernel⟩
theorem eb_BadLoop_0 : EBind (defArgs (inClass (top 22) 0)) (defScope (inClass (top 22) 0)) fl22 0 ["field"] := by
  intro us ws h1 h2 s e qual body doc pm an cda ct cc
  match us, ws, h1, h2 with
  | [], [_], _, _ => exact .of_eq rfl
theorem eb_BadLoop_1 : EBind (defArgs (inClass (top 22) 0)) (defScope (inClass (top 22) 0)) fl22 fl22.length [] := by
  intro us ws h1 h2 s e qual body doc pm an cda ct cc
  match us, ws, h1, h2 with
  | [_], [], _, _ => exact .of_eq rfl
def fl23 : List Fl := [⟨"kind", ⟨112, 25, 112, 29⟩, ⟨113, 8, 113, 12⟩, ⟨113, 8, 113, 17⟩, ⟨113, 20, 113, 24⟩, ⟨113, 8, 113, 24⟩⟩, ⟨"other", ⟨112, 31, 112, 36⟩, ⟨114, 8, 114, 12⟩, ⟨114, 8, 114, 18⟩, ⟨114, 21, 114, 26⟩, ⟨114, 8, 114, 26⟩⟩]
theorem ini23 : IniOk (inClass (top 23) 0) fl23 := ⟨⟨⟨112, 8, 112, 13⟩, ⟨112, 8, 112, 15⟩, ⟨112, 8, 112, 24⟩, ⟨112, 8, 112, 37⟩, ⟨112, 8, 112, 37⟩, rfl, rfl⟩, by decide +kernel, by decide +kernel, by decide +kernel, ⟨_, rfl⟩, rfl, rfl, rfl, by decide +kernel, by decide +kernel, by decide +kernel, by decide +kernel, by decide +kernel⟩
theorem eb_NotBack_0 : EBind (defArgs (inClass (top 23) 0)) (defScope (inClass (top 23) 0)) fl23 0 ["kind", "other"] := by
  intro us ws h1 h2 s e qual body doc pm an cda ct cc
  match us, ws, h1, h2 with
  | [], [_, _], _, _ => exact .of_eq rfl
theorem eb_NotBack_2 : EBind (defArgs (inClass (top 23) 0)) (defScope (inClass (top 23) 0)) fl23 fl23.length [] := by
  intro us ws h1 h2 s e qual body doc pm an cda ct cc
  match us, ws, h1, h2 with
  | [_, _], [], _, _ => exact .of_eq rfl
def fl24 : List Fl := [⟨"field", ⟨118, 25, 118, 30⟩, ⟨119, 8, 119, 12⟩, ⟨119, 8, 119, 18⟩, ⟨119, 21, 119, 26⟩, ⟨119, 8, 119, 26⟩⟩]
theorem ini24 : IniOk (inClass (top 24) 0) fl24 := ⟨⟨⟨118, 8, 118, 13⟩, ⟨118, 8, 118, 15⟩, ⟨118, 8, 118, 24⟩, ⟨118, 8, 118, 31⟩, ⟨118, 8, 118, 31⟩, rfl, rfl⟩, by decide +kernel, by decide +kernel, by decide +kernel, ⟨_, rfl⟩, rfl, rfl, rfl, by decide +kernel, by decide +kernel, by decide +kernel, by decide +kernel, by decide +kernel⟩
theorem eb_BadTimes_0 : EBind (defArgs (inClass (top 24) 0)) (defScope (inClass (top 24) 0)) fl24 0 ["field"] := by
  intro us ws h1 h2 s e qual body doc pm an cda ct cc
  match us, ws, h1, h2 with
  | [], [_], _, _ => exact .of_eq rfl
theorem eb_BadTimes_1 : EBind (defArgs (inClass (top 24) 0)) (defScope (inClass (top 24) 0)) fl24 fl24.length [] := by
  intro us ws h1 h2 s e qual body doc pm an cda ct cc
  match us, ws, h1, h2 with
  | [_], [], _, _ => exact .of_eq rfl
def fl25 : List Fl := [⟨"field", ⟨123, 25, 123, 30⟩, ⟨124, 8, 124, 12⟩, ⟨124, 8, 124, 18⟩, ⟨124, 21, 124, 26⟩, ⟨124, 8, 124, 26⟩⟩]
theorem ini25 : IniOk (inClass (top 25) 0) fl25 := ⟨⟨⟨123, 8, 123, 13⟩, ⟨123, 8, 123, 15⟩, ⟨123, 8, 123, 24⟩, ⟨123, 8, 123, 31⟩, ⟨123, 8, 123, 31⟩, rfl, rfl⟩, by decide +kernel, by decide +kernel, by decide +kernel, ⟨_, rfl⟩, rfl, rfl, rfl, by decide +kernel, by decide +kernel, by decide +kernel, by decide +kernel, by decide +kernel⟩
theorem eb_BadTale_0 : EBind (defArgs (inClass (top 25) 0)) (defScope (inClass (top 25) 0)) fl25 0 ["field"] := by
  intro us ws h1 h2 s e qual body doc pm an cda ct cc
  match us, ws, h1, h2 with
  | [], [_], _, _ => exact .of_eq rfl
theorem eb_BadTale_1 : EBind (defArgs (inClass (top 25) 0)) (defScope (inClass (top 25) 0)) fl25 fl25.length [] := by
  intro us ws h1 h2 s e qual body doc pm an cda ct cc
  match us, ws, h1, h2 with
  | [_], [], _, _ => exact .of_eq rfl
def fl27 : List Fl := [⟨"number", ⟨130, 25, 130, 31⟩, ⟨131, 8, 131, 12⟩, ⟨131, 8, 131, 19⟩, ⟨131, 22, 131, 28⟩, ⟨131, 8, 131, 28⟩⟩]
theorem ini27 : IniOk (inClass (top 27) 0) fl27 := ⟨⟨⟨130, 8, 130, 13⟩, ⟨130, 8, 130, 15⟩, ⟨130, 8, 130, 24⟩, ⟨130, 8, 130, 32⟩, ⟨130, 8, 130, 32⟩, rfl, rfl⟩, by decide +kernel, by decide +kernel, by decide +kernel, ⟨_, rfl⟩, rfl, rfl, rfl, by decide +kernel, by decide +kernel, by decide +kernel, by decide +kernel, by decide +kernel⟩
theorem eb_NoSuch_0 : EBind (defArgs (inClass (top 27) 0)) (defScope (inClass (top 27) 0)) fl27 0 ["number"] := by
  intro us ws h1 h2 s e qual body doc pm an cda ct cc
  match us, ws, h1, h2 with
  | [], [_], _, _ => exact .of_eq rfl
theorem eb_NoSuch_1 : EBind (defArgs (inClass (top 27) 0)) (defScope (inClass (top 27) 0)) fl27 fl27.length [] := by
  intro us ws h1 h2 s e qual body doc pm an cda ct cc
  match us, ws, h1, h2 with
  | [_], [], _, _ => exact .of_eq rfl
def fl28 : List Fl := [⟨"way", ⟨135, 25, 135, 28⟩, ⟨136, 8, 136, 12⟩, ⟨136, 8, 136, 16⟩, ⟨136, 19, 136, 22⟩, ⟨136, 8, 136, 22⟩⟩]
theorem ini28 : IniOk (inClass (top 28) 0) fl28 := ⟨⟨⟨135, 8, 135, 13⟩, ⟨135, 8, 135, 15⟩, ⟨135, 8, 135, 24⟩, ⟨135, 8, 135, 29⟩, ⟨135, 8, 135, 29⟩, rfl, rfl⟩, by decide +kernel, by decide +kernel, by decide +kernel, ⟨_, rfl⟩, rfl, rfl, rfl, by decide +kernel, by decide +kernel, by decide +kernel, by decide +kernel, by decide +kernel⟩
theorem eb_NotShortest_0 : EBind (defArgs (inClass (top 28) 0)) (defScope (inClass (top 28) 0)) fl28 0 ["way"] := by
  intro us ws h1 h2 s e qual body doc pm an cda ct cc
  match us, ws, h1, h2 with
  | [], [_], _, _ => exact .of_eq rfl
theorem eb_NotShortest_1 : EBind (defArgs (inClass (top 28) 0)) (defScope (inClass (top 28) 0)) fl28 fl28.length [] := by
  intro us ws h1 h2 s e qual body doc pm an cda ct cc
  match us, ws, h1, h2 with
  | [_], [], _, _ => exact .of_eq rfl
def fl29 : List Fl := [⟨"value", ⟨140, 25, 140, 30⟩, ⟨141, 8, 141, 12⟩, ⟨141, 8, 141, 18⟩, ⟨141, 21, 141, 26⟩, ⟨141, 8, 141, 26⟩⟩]
theorem ini29 : IniOk (inClass (top 29) 0) fl29 := ⟨⟨⟨140, 8, 140, 13⟩, ⟨140, 8, 140, 15⟩, ⟨140, 8, 140, 24⟩, ⟨140, 8, 140, 31⟩, ⟨140, 8, 140, 31⟩, rfl, rfl⟩, by decide +kernel, by decide +kernel, by decide +kernel, ⟨_, rfl⟩, rfl, rfl, rfl, by decide +kernel, by decide +kernel, by decide +kernel, by decide +kernel, by decide +kernel⟩
theorem eb_NotOnAll_0 : EBind (defArgs (inClass (top 29) 0)) (defScope (inClass (top 29) 0)) fl29 0 ["value"] := by
  intro us ws h1 h2 s e qual body doc pm an cda ct cc
  match us, ws, h1, h2 with
  | [], [_], _, _ => exact .of_eq rfl
theorem eb_NotOnAll_1 : EBind (defArgs (inClass (top 29) 0)) (defScope (inClass (top 29) 0)) fl29 fl29.length [] := by
  intro us ws h1 h2 s e qual body doc pm an cda ct cc
  match us, ws, h1, h2 with
  | [_], [], _, _ => exact .of_eq rfl
def fl30 : List Fl := [⟨"value", ⟨145, 25, 145, 30⟩, ⟨146, 8, 146, 12⟩, ⟨146, 8, 146, 18⟩, ⟨146, 21, 146, 26⟩, ⟨146, 8, 146, 26⟩⟩]
theorem ini30 : IniOk (inClass (top 30) 0) fl30 := ⟨⟨⟨145, 8, 145, 13⟩, ⟨145, 8, 145, 15⟩, ⟨145, 8, 145, 24⟩, ⟨145, 8, 145, 31⟩, ⟨145, 8, 145, 31⟩, rfl, rfl⟩, by decide +kernel, by decide +kernel, by decide +kernel, ⟨_, rfl⟩, rfl, rfl, rfl, by decide +kernel, by decide +kernel, by decide +kernel, by decide +kernel, by decide +kernel⟩
theorem eb_BadRule_0 : EBind (defArgs (inClass (top 30) 0)) (defScope (inClass (top 30) 0)) fl30 0 ["value"] := by
  intro us ws h1 h2 s e qual body doc pm an cda ct cc
  match us, ws, h1, h2 with
  | [], [_], _, _ => exact .of_eq rfl
theorem eb_BadRule_1 : EBind (defArgs (inClass (top 30) 0)) (defScope (inClass (top 30) 0)) fl30 fl30.length [] := by
  intro us ws h1 h2 s e qual body doc pm an cda ct cc
  match us, ws, h1, h2 with
  | [_], [], _, _ => exact .of_eq rfl
def fl31 : List Fl := [⟨"key", ⟨150, 25, 150, 28⟩, ⟨151, 8, 151, 12⟩, ⟨151, 8, 151, 16⟩, ⟨151, 19, 151, 22⟩, ⟨151, 8, 151, 22⟩⟩]
theorem ini31 : IniOk (inClass (top 31) 0) fl31 := ⟨⟨⟨150, 8, 150, 13⟩, ⟨150, 8, 150, 15⟩, ⟨150, 8, 150, 24⟩, ⟨150, 8, 150, 29⟩, ⟨150, 8, 150, 29⟩, rfl, rfl⟩, by decide +kernel, by decide +kernel, by decide +kernel, ⟨_, rfl⟩, rfl, rfl, rfl, by decide +kernel, by decide +kernel, by decide +kernel, by decide +kernel, by decide +kernel⟩
theorem eb_BadTable_0 : EBind (defArgs (inClass (top 31) 0)) (defScope (inClass (top 31) 0)) fl31 0 ["key"] := by
  intro us ws h1 h2 s e qual body doc pm an cda ct cc
  match us, ws, h1, h2 with
  | [], [_], _, _ => exact .of_eq rfl
theorem eb_BadTable_1 : EBind (defArgs (inClass (top 31) 0)) (defScope (inClass (top 31) 0)) fl31 fl31.length [] := by
  intro us ws h1 h2 s e qual body doc pm an cda ct cc
  match us, ws, h1, h2 with
  | [_], [], _, _ => exact .of_eq rfl
def fl33 : List Fl := [⟨"value", ⟨157, 25, 157, 30⟩, ⟨158, 8, 158, 12⟩, ⟨158, 8, 158, 18⟩, ⟨158, 21, 158, 26⟩, ⟨158, 8, 158, 26⟩⟩]
theorem ini33 : IniOk (inClass (top 33) 0) fl33 := ⟨⟨⟨157, 8, 157, 13⟩, ⟨157, 8, 157, 15⟩, ⟨157, 8, 157, 24⟩, ⟨157, 8, 157, 31⟩, ⟨157, 8, 157, 31⟩, rfl, rfl⟩, by decide +kernel, by decide +kernel, by decide +kernel, ⟨_, rfl⟩, rfl, rfl, rfl, by decide +kernel, by decide +kernel, by decide +kernel, by decide +kernel, by decide +kernel⟩
theorem eb_BadGuard_0 : EBind (defArgs (inClass (top 33) 0)) (defScope (inClass (top 33) 0)) fl33 0 ["value"] := by
  intro us ws h1 h2 s e qual body doc pm an cda ct cc
  match us, ws, h1, h2 with
  | [], [_], _, _ => exact .of_eq rfl
theorem eb_BadGuard_1 : EBind (defArgs (inClass (top 33) 0)) (defScope (inClass (top 33) 0)) fl33 fl33.length [] := by
  intro us ws h1 h2 s e qual body doc pm an cda ct cc
  match us, ws, h1, h2 with
  | [_], [], _, _ => exact .of_eq rfl
def fl34 : List Fl := [⟨"guard", ⟨162, 25, 162, 30⟩, ⟨163, 8, 163, 12⟩, ⟨163, 8, 163, 18⟩, ⟨163, 21, 163, 26⟩, ⟨163, 8, 163, 26⟩⟩]
theorem ini34 : IniOk (inClass (top 34) 0) fl34 := ⟨⟨⟨162, 8, 162, 13⟩, ⟨162, 8, 162, 15⟩, ⟨162, 8, 162, 24⟩, ⟨162, 8, 162, 31⟩, ⟨162, 8, 162, 31⟩, rfl, rfl⟩, by decide +kernel, by decide +kernel, by decide +kernel, ⟨_, rfl⟩, rfl, rfl, rfl, by decide +kernel, by decide +kernel, by decide +kernel, by decide +kernel, by decide +kernel⟩
theorem eb_Refused_0 : EBind (defArgs (inClass (top 34) 0)) (defScope (inClass (top 34) 0)) fl34 0 ["guard"] := by
  intro us ws h1 h2 s e qual body doc pm an cda ct cc
  match us, ws, h1, h2 with
  | [], [_], _, _ => exact .of_eq rfl
theorem eb_Refused_1 : EBind (defArgs (inClass (top 34) 0)) (defScope (inClass (top 34) 0)) fl34 fl34.length [] := by
  intro us ws h1 h2 s e qual body doc pm an cda ct cc
  match us, ws, h1, h2 with
  | [_], [], _, _ => exact .of_eq rfl
/-- what the top has made of the errors -/
structure Errs (P : Program) (K : PySem.W.Frag) (mg : Str → Option Value) (W : Addr) (C fI : Nat → Addr) : Prop where
  gw : mg "WebError" = some (.ref W)
  e2 : ErrX P K mg W "BadPiece" (C 2) (fI 2) (defArgs (inClass (top 2) 0)) (defScope (inClass (top 2) 0)) fl2
  e3 : ErrX P K mg W "BadBook" (C 3) (fI 3) (defArgs (inClass (top 3) 0)) (defScope (inClass (top 3) 0)) fl3
  e4 : ErrX P K mg W "BadBud" (C 4) (fI 4) (defArgs (inClass (top 4) 0)) (defScope (inClass (top 4) 0)) fl4
  e5 : ErrX P K mg W "HandedOn" (C 5) (fI 5) (defArgs (inClass (top 5) 0)) (defScope (inClass (top 5) 0)) fl5
  e6 : ErrX P K mg W "NoKind" (C 6) (fI 6) (defArgs (inClass (top 6) 0)) (defScope (inClass (top 6) 0)) fl6
  e7 : ErrX P K mg W "NoMouth" (C 7) (fI 7) (defArgs (inClass (top 7) 0)) (defScope (inClass (top 7) 0)) fl7
  e8 : ErrX P K mg W "NoPart" (C 8) (fI 8) (defArgs (inClass (top 8) 0)) (defScope (inClass (top 8) 0)) fl8
  e9 : ErrX P K mg W "NoPiece" (C 9) (fI 9) (defArgs (inClass (top 9) 0)) (defScope (inClass (top 9) 0)) fl9
  e10 : ErrX P K mg W "NoPlace" (C 10) (fI 10) (defArgs (inClass (top 10) 0)) (defScope (inClass (top 10) 0)) fl10
  e11 : ErrX P K mg W "NoBud" (C 11) (fI 11) (defArgs (inClass (top 11) 0)) (defScope (inClass (top 11) 0)) fl11
  e12 : ErrX P K mg W "NoTie" (C 12) (fI 12) (defArgs (inClass (top 12) 0)) (defScope (inClass (top 12) 0)) fl12
  e13 : ErrZ K mg W "OtherBook" (C 13)
  e14 : ErrX P K mg W "TooMany" (C 14) (fI 14) (defArgs (inClass (top 14) 0)) (defScope (inClass (top 14) 0)) fl14
  e15 : ErrX P K mg W "TooFar" (C 15) (fI 15) (defArgs (inClass (top 15) 0)) (defScope (inClass (top 15) 0)) fl15
  e16 : ErrX P K mg W "TooLong" (C 16) (fI 16) (defArgs (inClass (top 16) 0)) (defScope (inClass (top 16) 0)) fl16
  e17 : ErrZ K mg W "TooGreat" (C 17)
  e18 : ErrX P K mg W "BadNumber" (C 18) (fI 18) (defArgs (inClass (top 18) 0)) (defScope (inClass (top 18) 0)) fl18
  e19 : ErrX P K mg W "BadWord" (C 19) (fI 19) (defArgs (inClass (top 19) 0)) (defScope (inClass (top 19) 0)) fl19
  e20 : ErrX P K mg W "BadRow" (C 20) (fI 20) (defArgs (inClass (top 20) 0)) (defScope (inClass (top 20) 0)) fl20
  e21 : ErrX P K mg W "OutsideRow" (C 21) (fI 21) (defArgs (inClass (top 21) 0)) (defScope (inClass (top 21) 0)) fl21
  e22 : ErrX P K mg W "BadLoop" (C 22) (fI 22) (defArgs (inClass (top 22) 0)) (defScope (inClass (top 22) 0)) fl22
  e23 : ErrX P K mg W "NotBack" (C 23) (fI 23) (defArgs (inClass (top 23) 0)) (defScope (inClass (top 23) 0)) fl23
  e24 : ErrX P K mg W "BadTimes" (C 24) (fI 24) (defArgs (inClass (top 24) 0)) (defScope (inClass (top 24) 0)) fl24
  e25 : ErrX P K mg W "BadTale" (C 25) (fI 25) (defArgs (inClass (top 25) 0)) (defScope (inClass (top 25) 0)) fl25
  e26 : ErrZ K mg W "NotJoined" (C 26)
  e27 : ErrX P K mg W "NoSuch" (C 27) (fI 27) (defArgs (inClass (top 27) 0)) (defScope (inClass (top 27) 0)) fl27
  e28 : ErrX P K mg W "NotShortest" (C 28) (fI 28) (defArgs (inClass (top 28) 0)) (defScope (inClass (top 28) 0)) fl28
  e29 : ErrX P K mg W "NotOnAll" (C 29) (fI 29) (defArgs (inClass (top 29) 0)) (defScope (inClass (top 29) 0)) fl29
  e30 : ErrX P K mg W "BadRule" (C 30) (fI 30) (defArgs (inClass (top 30) 0)) (defScope (inClass (top 30) 0)) fl30
  e31 : ErrX P K mg W "BadTable" (C 31) (fI 31) (defArgs (inClass (top 31) 0)) (defScope (inClass (top 31) 0)) fl31
  e32 : ErrZ K mg W "Endless" (C 32)
  e33 : ErrX P K mg W "BadGuard" (C 33) (fI 33) (defArgs (inClass (top 33) 0)) (defScope (inClass (top 33) 0)) fl33
  e34 : ErrX P K mg W "Refused" (C 34) (fI 34) (defArgs (inClass (top 34) 0)) (defScope (inClass (top 34) 0)) fl34
  e35 : ErrZ K mg W "NothingToUndo" (C 35)
  a13 : PySem.W.kitAny K (.ref (C 13)) [.ref (C 13), .ref (C 2), .ref (C 12), .ref (C 26)] = some true
  a17 : PySem.W.kitAny K (.ref (C 17)) [.ref (C 13), .ref (C 2), .ref (C 12), .ref (C 26)] = some false
  a26 : PySem.W.kitAny K (.ref (C 26)) [.ref (C 13), .ref (C 2), .ref (C 12), .ref (C 26)] = some true
  a32 : PySem.W.kitAny K (.ref (C 32)) [.ref (C 13), .ref (C 2), .ref (C 12), .ref (C 26)] = some false
  a35 : PySem.W.kitAny K (.ref (C 35)) [.ref (C 13), .ref (C 2), .ref (C 12), .ref (C 26)] = some false
  a2 : PySem.W.kitAny K (.ref (C 2)) [.ref (C 13), .ref (C 2), .ref (C 12), .ref (C 26)] = some true
  a12 : PySem.W.kitAny K (.ref (C 12)) [.ref (C 13), .ref (C 2), .ref (C 12), .ref (C 26)] = some true
  a6 : PySem.W.kitAny K (.ref (C 6)) [.ref (C 13), .ref (C 2), .ref (C 12), .ref (C 26)] = some false
end K00
set_option Elab.async false
set_option linter.all false
set_option maxRecDepth 100000
set_option maxHeartbeats 4000000
namespace K00
open PySem L2 PySem.GW
/-- what was laid so far, the newest first -/
structure Acc (H0 H : Hp) (L : List (Addr × HO)) : Prop where
  same : Same H0 H
  all : ∀ x ∈ L, H x.1 = some x.2
theorem Acc.nil {H : Hp} : Acc H H [] := ⟨Same.refl H, fun _ h => nomatch h⟩
theorem Acc.push {H0 H : Hp} {L : List (Addr × HO)} {a : Addr} {o : HO} (A : Acc H0 H L) (h : H a = none) : Acc H0 (upd H a o) ((a, o) :: L) := by
  have up : ∀ b u, H b = some u → (upd H a o) b = some u := fun b u e => by rw [upd_ne (ne_of_none e h)]; exact e
  refine ⟨fun b u e => up b u (A.same b u e), fun x hx => ?_⟩
  rcases List.mem_cons.mp hx with rfl | hx
  · exact upd_same
  · exact up _ _ (A.all x hx)
theorem Acc.nth {H0 H : Hp} {L : List (Addr × HO)} (A : Acc H0 H L) (i : Nat) {a : Addr} {o : HO} (h : L[i]? = some (a, o)) : H a = some o := A.all _ (List.mem_of_getElem? h)
def RowsAt (H : Hp) (p : Addr) (ds : List V) : Prop := ∃ ts : List Addr, H p = some (.lst (ts.map V.ref)) ∧ ∀ t ∈ ts, ∃ d ∈ ds, H t = some (.tup [d, d])
def spAlone : Sp := fun vs H Q _ => ∃ a, vs = [a] ∧ ∀ (H' : Hp) (p : Addr), Same H H' → RowsAt H' p [a] → Q (.ref p) H'
def spMore : Sp := fun vs H Q _ => ∃ a b, vs = [a, b] ∧ ∀ (H' : Hp) (p : Addr), Same H H' → RowsAt H' p [a, b, .int 7] → Q (.ref p) H'
def spPick : Sp := fun vs H Q _ => ∃ (p c l : Addr) (ns : List Int) (spot rest : Int) (items : List V), vs = [.ref p, .ref l] ∧ PenAt H p c ns spot rest ∧ ns.length ≤ 63 ∧ 0 ≤ spot ∧ spot ≤ 1000000 ∧ H l = some (.lst items) ∧ 0 < items.length ∧ items.length < 1000 ∧
  ∀ (v : V) (spot' rest' : Int) (H' : Hp), v ∈ items → spot ≤ spot' → spot' ≤ spot + 1 → PenAt H' p c ns spot' rest' → (∀ b o, b ≠ p → H b = some o → H' b = some o) → Q v H'
abbrev sAlone : Stmt := top 40
abbrev sMore : Stmt := top 41
theorem scAlone : FnScope ["_law_a"] ["_law_a"] (defScope sAlone) := ⟨rfl, rfl, rfl, by decide +kernel, rfl, by decide +kernel, by decide +kernel⟩
theorem scMore : FnScope ["_law_a", "_law_b", "_law_rows"] ["_law_a", "_law_b"] (defScope sMore) := ⟨rfl, rfl, rfl, by decide +kernel, rfl, by decide +kernel, by decide +kernel⟩
section
variable {P : Program} {w : World} {K : PySem.W.Frag} {mg : Str → Option Value} {base : Heap} {W : Addr} {C fI : Nat → Addr}
theorem ok_pick {f fD : Addr} {fd fdD : FuncData} (F : Fun K "_law_pick" "_law_pick" sPick f fd) (T : TxtA mg) (GD : FnOk P w K mg base CX0 1 fD fdD ["_law_pen_here", "_law_many"] spDraw) (mgD : mg "_law_draw" = some (.ref fD)) (kpD : PySem.W.keepIn K (.ref fD) = true)
    (bD : Binds K fdD ["_law_pen_here", "_law_many"] []) : FnOk P w K mg base CX0 2 f fd ["_law_pen_here", "_law_items"] spPick := by
  refine F.ok scPick (fun vs H Q E h => ?_) (fun cdv A outer s H vs Q E hr h => ?_)
  · obtain ⟨p, c, l, ns, spot, rest, items, rfl, _⟩ := h
    rfl
  · obtain ⟨p, c, l, ns, spot, rest, items, rfl, PA, hlen, h0, h1, hl, i0, i1, k⟩ := h
    refine ⟨_, (pss_one (ps_ret (pe_ix ix_list (pv 1) (pe_call GD hr rfl mgD kpD bD .nil pass0 (pa_cons (pv 0) (pa_cons (pe_callB call_len_seq (by rfl) T.len PySem.boot_len (pa_cons (pv 1) pa_nil)) pa_nil))) (fun _ _ => rfl)))), ?_⟩
    have npl : l ≠ p := ne_of hl PA.pd (by intro z; cases z)
    refine ⟨_, rfl, _, rfl, _, rfl, l, _, rfl, .inl (SqL.of hl), p, c, ns, spot, rest, (items.length : Int), rfl, PA, hlen, h0, h1, by omega, by omega, fun r spot' rest' H' r0 r1 q0 q1 PA' kp => ?_⟩
    obtain ⟨j, rfl⟩ : ∃ j : Nat, r = (j : Int) := ⟨r.toNat, (Int.toNat_of_nonneg r0).symm⟩
    have hj : j < items.length := by omega
    refine ⟨l, _, _, items[j], rfl, rfl, SqL.of (kp l _ npl hl), atI_nat (List.getElem?_eq_getElem hj), ?_⟩
    exact k _ spot' rest' H' (List.getElem_mem hj) q0 q1 PA' kp
theorem ok_alone {f : Addr} {fd : FuncData} (F : Fun K "_law_alone" "_law_alone" sAlone f fd) (E : Errs P K mg W C fI) : FnOk P w K mg base CX0 4 f fd ["_law_a"] spAlone := by
  refine F.ok scAlone (fun vs H Q X h => ?_) (fun cdv A outer s H vs Q X hr h => ?_)
  · obtain ⟨a, rfl, _⟩ := h
    rfl
  · obtain ⟨a, rfl, k⟩ := h
    have hrE := hr
    refine ⟨_, (pss_one (ps_ret (pe_lst (pa_cons (pe_tup (pa_cons (pe_errF E.e2.r (noAt E.e2.i 0 rfl) (per_pos E.e2.c E.e2.i hrE (by rfl) E.e2.g E.e2.k (eb_BadPiece_1) (pa_cons (pv 0) pa_nil))) (pa_cons (pe_errF E.e2.r (noAt E.e2.i 0 rfl) (per_kw E.e2.c E.e2.i hrE (by rfl) E.e2.g E.e2.k (eb_BadPiece_0) rfl (pk_cons (pv 0) pk_nil))) pa_nil))) (pa_cons (pe_tup (pa_cons (pe_errF E.e3.r (noAt E.e3.i 0 rfl) (per_pos E.e3.c E.e3.i hrE (by rfl) E.e3.g E.e3.k (eb_BadBook_1) (pa_cons (pv 0) pa_nil))) (pa_cons (pe_errF E.e3.r (noAt E.e3.i 0 rfl) (per_kw E.e3.c E.e3.i hrE (by rfl) E.e3.g E.e3.k (eb_BadBook_0) rfl (pk_cons (pv 0) pk_nil))) pa_nil))) (pa_cons (pe_tup (pa_cons (pe_errF E.e5.r (noAt E.e5.i 0 rfl) (per_pos E.e5.c E.e5.i hrE (by rfl) E.e5.g E.e5.k (eb_HandedOn_1) (pa_cons (pv 0) pa_nil))) (pa_cons (pe_errF E.e5.r (noAt E.e5.i 0 rfl) (per_kw E.e5.c E.e5.i hrE (by rfl) E.e5.g E.e5.k (eb_HandedOn_0) rfl (pk_cons (pv 0) pk_nil))) pa_nil))) (pa_cons (pe_tup (pa_cons (pe_errF E.e6.r (noAt E.e6.i 0 rfl) (per_pos E.e6.c E.e6.i hrE (by rfl) E.e6.g E.e6.k (eb_NoKind_1) (pa_cons (pv 0) pa_nil))) (pa_cons (pe_errF E.e6.r (noAt E.e6.i 0 rfl) (per_kw E.e6.c E.e6.i hrE (by rfl) E.e6.g E.e6.k (eb_NoKind_0) rfl (pk_cons (pv 0) pk_nil))) pa_nil))) (pa_cons (pe_tup (pa_cons (pe_errF E.e9.r (noAt E.e9.i 0 rfl) (per_pos E.e9.c E.e9.i hrE (by rfl) E.e9.g E.e9.k (eb_NoPiece_1) (pa_cons (pv 0) pa_nil))) (pa_cons (pe_errF E.e9.r (noAt E.e9.i 0 rfl) (per_kw E.e9.c E.e9.i hrE (by rfl) E.e9.g E.e9.k (eb_NoPiece_0) rfl (pk_cons (pv 0) pk_nil))) pa_nil))) (pa_cons (pe_tup (pa_cons (pe_errF E.e10.r (noAt E.e10.i 0 rfl) (per_pos E.e10.c E.e10.i hrE (by rfl) E.e10.g E.e10.k (eb_NoPlace_1) (pa_cons (pv 0) pa_nil))) (pa_cons (pe_errF E.e10.r (noAt E.e10.i 0 rfl) (per_kw E.e10.c E.e10.i hrE (by rfl) E.e10.g E.e10.k (eb_NoPlace_0) rfl (pk_cons (pv 0) pk_nil))) pa_nil))) (pa_cons (pe_tup (pa_cons (pe_errF E.e14.r (noAt E.e14.i 0 rfl) (per_pos E.e14.c E.e14.i hrE (by rfl) E.e14.g E.e14.k (eb_TooMany_1) (pa_cons (pv 0) pa_nil))) (pa_cons (pe_errF E.e14.r (noAt E.e14.i 0 rfl) (per_kw E.e14.c E.e14.i hrE (by rfl) E.e14.g E.e14.k (eb_TooMany_0) rfl (pk_cons (pv 0) pk_nil))) pa_nil))) (pa_cons (pe_tup (pa_cons (pe_errF E.e15.r (noAt E.e15.i 0 rfl) (per_pos E.e15.c E.e15.i hrE (by rfl) E.e15.g E.e15.k (eb_TooFar_1) (pa_cons (pv 0) pa_nil))) (pa_cons (pe_errF E.e15.r (noAt E.e15.i 0 rfl) (per_kw E.e15.c E.e15.i hrE (by rfl) E.e15.g E.e15.k (eb_TooFar_0) rfl (pk_cons (pv 0) pk_nil))) pa_nil))) (pa_cons (pe_tup (pa_cons (pe_errF E.e16.r (noAt E.e16.i 0 rfl) (per_pos E.e16.c E.e16.i hrE (by rfl) E.e16.g E.e16.k (eb_TooLong_1) (pa_cons (pv 0) pa_nil))) (pa_cons (pe_errF E.e16.r (noAt E.e16.i 0 rfl) (per_kw E.e16.c E.e16.i hrE (by rfl) E.e16.g E.e16.k (eb_TooLong_0) rfl (pk_cons (pv 0) pk_nil))) pa_nil))) (pa_cons (pe_tup (pa_cons (pe_errF E.e18.r (noAt E.e18.i 0 rfl) (per_pos E.e18.c E.e18.i hrE (by rfl) E.e18.g E.e18.k (eb_BadNumber_1) (pa_cons (pv 0) pa_nil))) (pa_cons (pe_errF E.e18.r (noAt E.e18.i 0 rfl) (per_kw E.e18.c E.e18.i hrE (by rfl) E.e18.g E.e18.k (eb_BadNumber_0) rfl (pk_cons (pv 0) pk_nil))) pa_nil))) (pa_cons (pe_tup (pa_cons (pe_errF E.e19.r (noAt E.e19.i 0 rfl) (per_pos E.e19.c E.e19.i hrE (by rfl) E.e19.g E.e19.k (eb_BadWord_1) (pa_cons (pv 0) pa_nil))) (pa_cons (pe_errF E.e19.r (noAt E.e19.i 0 rfl) (per_kw E.e19.c E.e19.i hrE (by rfl) E.e19.g E.e19.k (eb_BadWord_0) rfl (pk_cons (pv 0) pk_nil))) pa_nil))) (pa_cons (pe_tup (pa_cons (pe_errF E.e20.r (noAt E.e20.i 0 rfl) (per_pos E.e20.c E.e20.i hrE (by rfl) E.e20.g E.e20.k (eb_BadRow_1) (pa_cons (pv 0) pa_nil))) (pa_cons (pe_errF E.e20.r (noAt E.e20.i 0 rfl) (per_kw E.e20.c E.e20.i hrE (by rfl) E.e20.g E.e20.k (eb_BadRow_0) rfl (pk_cons (pv 0) pk_nil))) pa_nil))) (pa_cons (pe_tup (pa_cons (pe_errF E.e21.r (noAt E.e21.i 0 rfl) (per_pos E.e21.c E.e21.i hrE (by rfl) E.e21.g E.e21.k (eb_OutsideRow_1) (pa_cons (pv 0) pa_nil))) (pa_cons (pe_errF E.e21.r (noAt E.e21.i 0 rfl) (per_kw E.e21.c E.e21.i hrE (by rfl) E.e21.g E.e21.k (eb_OutsideRow_0) rfl (pk_cons (pv 0) pk_nil))) pa_nil))) (pa_cons (pe_tup (pa_cons (pe_errF E.e22.r (noAt E.e22.i 0 rfl) (per_pos E.e22.c E.e22.i hrE (by rfl) E.e22.g E.e22.k (eb_BadLoop_1) (pa_cons (pv 0) pa_nil))) (pa_cons (pe_errF E.e22.r (noAt E.e22.i 0 rfl) (per_kw E.e22.c E.e22.i hrE (by rfl) E.e22.g E.e22.k (eb_BadLoop_0) rfl (pk_cons (pv 0) pk_nil))) pa_nil))) (pa_cons (pe_tup (pa_cons (pe_errF E.e24.r (noAt E.e24.i 0 rfl) (per_pos E.e24.c E.e24.i hrE (by rfl) E.e24.g E.e24.k (eb_BadTimes_1) (pa_cons (pv 0) pa_nil))) (pa_cons (pe_errF E.e24.r (noAt E.e24.i 0 rfl) (per_kw E.e24.c E.e24.i hrE (by rfl) E.e24.g E.e24.k (eb_BadTimes_0) rfl (pk_cons (pv 0) pk_nil))) pa_nil))) (pa_cons (pe_tup (pa_cons (pe_errF E.e25.r (noAt E.e25.i 0 rfl) (per_pos E.e25.c E.e25.i hrE (by rfl) E.e25.g E.e25.k (eb_BadTale_1) (pa_cons (pv 0) pa_nil))) (pa_cons (pe_errF E.e25.r (noAt E.e25.i 0 rfl) (per_kw E.e25.c E.e25.i hrE (by rfl) E.e25.g E.e25.k (eb_BadTale_0) rfl (pk_cons (pv 0) pk_nil))) pa_nil))) (pa_cons (pe_tup (pa_cons (pe_errF E.e27.r (noAt E.e27.i 0 rfl) (per_pos E.e27.c E.e27.i hrE (by rfl) E.e27.g E.e27.k (eb_NoSuch_1) (pa_cons (pv 0) pa_nil))) (pa_cons (pe_errF E.e27.r (noAt E.e27.i 0 rfl) (per_kw E.e27.c E.e27.i hrE (by rfl) E.e27.g E.e27.k (eb_NoSuch_0) rfl (pk_cons (pv 0) pk_nil))) pa_nil))) (pa_cons (pe_tup (pa_cons (pe_errF E.e28.r (noAt E.e28.i 0 rfl) (per_pos E.e28.c E.e28.i hrE (by rfl) E.e28.g E.e28.k (eb_NotShortest_1) (pa_cons (pv 0) pa_nil))) (pa_cons (pe_errF E.e28.r (noAt E.e28.i 0 rfl) (per_kw E.e28.c E.e28.i hrE (by rfl) E.e28.g E.e28.k (eb_NotShortest_0) rfl (pk_cons (pv 0) pk_nil))) pa_nil))) (pa_cons (pe_tup (pa_cons (pe_errF E.e29.r (noAt E.e29.i 0 rfl) (per_pos E.e29.c E.e29.i hrE (by rfl) E.e29.g E.e29.k (eb_NotOnAll_1) (pa_cons (pv 0) pa_nil))) (pa_cons (pe_errF E.e29.r (noAt E.e29.i 0 rfl) (per_kw E.e29.c E.e29.i hrE (by rfl) E.e29.g E.e29.k (eb_NotOnAll_0) rfl (pk_cons (pv 0) pk_nil))) pa_nil))) (pa_cons (pe_tup (pa_cons (pe_errF E.e30.r (noAt E.e30.i 0 rfl) (per_pos E.e30.c E.e30.i hrE (by rfl) E.e30.g E.e30.k (eb_BadRule_1) (pa_cons (pv 0) pa_nil))) (pa_cons (pe_errF E.e30.r (noAt E.e30.i 0 rfl) (per_kw E.e30.c E.e30.i hrE (by rfl) E.e30.g E.e30.k (eb_BadRule_0) rfl (pk_cons (pv 0) pk_nil))) pa_nil))) (pa_cons (pe_tup (pa_cons (pe_errF E.e31.r (noAt E.e31.i 0 rfl) (per_pos E.e31.c E.e31.i hrE (by rfl) E.e31.g E.e31.k (eb_BadTable_1) (pa_cons (pv 0) pa_nil))) (pa_cons (pe_errF E.e31.r (noAt E.e31.i 0 rfl) (per_kw E.e31.c E.e31.i hrE (by rfl) E.e31.g E.e31.k (eb_BadTable_0) rfl (pk_cons (pv 0) pk_nil))) pa_nil))) (pa_cons (pe_tup (pa_cons (pe_errF E.e33.r (noAt E.e33.i 0 rfl) (per_pos E.e33.c E.e33.i hrE (by rfl) E.e33.g E.e33.k (eb_BadGuard_1) (pa_cons (pv 0) pa_nil))) (pa_cons (pe_errF E.e33.r (noAt E.e33.i 0 rfl) (per_kw E.e33.c E.e33.i hrE (by rfl) E.e33.g E.e33.k (eb_BadGuard_0) rfl (pk_cons (pv 0) pk_nil))) pa_nil))) (pa_cons (pe_tup (pa_cons (pe_errF E.e34.r (noAt E.e34.i 0 rfl) (per_pos E.e34.c E.e34.i hrE (by rfl) E.e34.g E.e34.k (eb_Refused_1) (pa_cons (pv 0) pa_nil))) (pa_cons (pe_errF E.e34.r (noAt E.e34.i 0 rfl) (per_kw E.e34.c E.e34.i hrE (by rfl) E.e34.g E.e34.k (eb_Refused_0) rfl (pk_cons (pv 0) pk_nil))) pa_nil))) pa_nil)))))))))))))))))))))))))), ?_⟩
    have A0 := Acc.nil (H := H)
    refine ⟨_, rfl, rfl, _, rfl, _, rfl, rfl, _, rfl, (by show 2 ≤ sizeLine; decide), fun t1 h1 => ?_⟩
    have A1 := A0.push (o := .tup [a, a]) h1
    refine ⟨_, rfl, rfl, _, rfl, _, rfl, rfl, _, rfl, (by show 2 ≤ sizeLine; decide), fun t2 h2 => ?_⟩
    have A2 := A1.push (o := .tup [a, a]) h2
    refine ⟨_, rfl, rfl, _, rfl, _, rfl, rfl, _, rfl, (by show 2 ≤ sizeLine; decide), fun t3 h3 => ?_⟩
    have A3 := A2.push (o := .tup [a, a]) h3
    refine ⟨_, rfl, rfl, _, rfl, _, rfl, rfl, _, rfl, (by show 2 ≤ sizeLine; decide), fun t4 h4 => ?_⟩
    have A4 := A3.push (o := .tup [a, a]) h4
    refine ⟨_, rfl, rfl, _, rfl, _, rfl, rfl, _, rfl, (by show 2 ≤ sizeLine; decide), fun t5 h5 => ?_⟩
    have A5 := A4.push (o := .tup [a, a]) h5
    refine ⟨_, rfl, rfl, _, rfl, _, rfl, rfl, _, rfl, (by show 2 ≤ sizeLine; decide), fun t6 h6 => ?_⟩
    have A6 := A5.push (o := .tup [a, a]) h6
    refine ⟨_, rfl, rfl, _, rfl, _, rfl, rfl, _, rfl, (by show 2 ≤ sizeLine; decide), fun t7 h7 => ?_⟩
    have A7 := A6.push (o := .tup [a, a]) h7
    refine ⟨_, rfl, rfl, _, rfl, _, rfl, rfl, _, rfl, (by show 2 ≤ sizeLine; decide), fun t8 h8 => ?_⟩
    have A8 := A7.push (o := .tup [a, a]) h8
    refine ⟨_, rfl, rfl, _, rfl, _, rfl, rfl, _, rfl, (by show 2 ≤ sizeLine; decide), fun t9 h9 => ?_⟩
    have A9 := A8.push (o := .tup [a, a]) h9
    refine ⟨_, rfl, rfl, _, rfl, _, rfl, rfl, _, rfl, (by show 2 ≤ sizeLine; decide), fun t10 h10 => ?_⟩
    have A10 := A9.push (o := .tup [a, a]) h10
    refine ⟨_, rfl, rfl, _, rfl, _, rfl, rfl, _, rfl, (by show 2 ≤ sizeLine; decide), fun t11 h11 => ?_⟩
    have A11 := A10.push (o := .tup [a, a]) h11
    refine ⟨_, rfl, rfl, _, rfl, _, rfl, rfl, _, rfl, (by show 2 ≤ sizeLine; decide), fun t12 h12 => ?_⟩
    have A12 := A11.push (o := .tup [a, a]) h12
    refine ⟨_, rfl, rfl, _, rfl, _, rfl, rfl, _, rfl, (by show 2 ≤ sizeLine; decide), fun t13 h13 => ?_⟩
    have A13 := A12.push (o := .tup [a, a]) h13
    refine ⟨_, rfl, rfl, _, rfl, _, rfl, rfl, _, rfl, (by show 2 ≤ sizeLine; decide), fun t14 h14 => ?_⟩
    have A14 := A13.push (o := .tup [a, a]) h14
    refine ⟨_, rfl, rfl, _, rfl, _, rfl, rfl, _, rfl, (by show 2 ≤ sizeLine; decide), fun t15 h15 => ?_⟩
    have A15 := A14.push (o := .tup [a, a]) h15
    refine ⟨_, rfl, rfl, _, rfl, _, rfl, rfl, _, rfl, (by show 2 ≤ sizeLine; decide), fun t16 h16 => ?_⟩
    have A16 := A15.push (o := .tup [a, a]) h16
    refine ⟨_, rfl, rfl, _, rfl, _, rfl, rfl, _, rfl, (by show 2 ≤ sizeLine; decide), fun t17 h17 => ?_⟩
    have A17 := A16.push (o := .tup [a, a]) h17
    refine ⟨_, rfl, rfl, _, rfl, _, rfl, rfl, _, rfl, (by show 2 ≤ sizeLine; decide), fun t18 h18 => ?_⟩
    have A18 := A17.push (o := .tup [a, a]) h18
    refine ⟨_, rfl, rfl, _, rfl, _, rfl, rfl, _, rfl, (by show 2 ≤ sizeLine; decide), fun t19 h19 => ?_⟩
    have A19 := A18.push (o := .tup [a, a]) h19
    refine ⟨_, rfl, rfl, _, rfl, _, rfl, rfl, _, rfl, (by show 2 ≤ sizeLine; decide), fun t20 h20 => ?_⟩
    have A20 := A19.push (o := .tup [a, a]) h20
    refine ⟨_, rfl, rfl, _, rfl, _, rfl, rfl, _, rfl, (by show 2 ≤ sizeLine; decide), fun t21 h21 => ?_⟩
    have A21 := A20.push (o := .tup [a, a]) h21
    refine ⟨_, rfl, rfl, _, rfl, _, rfl, rfl, _, rfl, (by show 2 ≤ sizeLine; decide), fun t22 h22 => ?_⟩
    have A22 := A21.push (o := .tup [a, a]) h22
    refine ⟨_, rfl, rfl, _, rfl, _, rfl, rfl, _, rfl, (by show 2 ≤ sizeLine; decide), fun t23 h23 => ?_⟩
    have A23 := A22.push (o := .tup [a, a]) h23
    refine ⟨(by show 23 ≤ sizeLine; decide), fun l m => ?_⟩
    have A24 := A23.push (o := .lst [V.ref t1, V.ref t2, V.ref t3, V.ref t4, V.ref t5, V.ref t6, V.ref t7, V.ref t8, V.ref t9, V.ref t10, V.ref t11, V.ref t12, V.ref t13, V.ref t14, V.ref t15, V.ref t16, V.ref t17, V.ref t18, V.ref t19, V.ref t20, V.ref t21, V.ref t22, V.ref t23]) m
    refine k _ _ A24.same ⟨[t1, t2, t3, t4, t5, t6, t7, t8, t9, t10, t11, t12, t13, t14, t15, t16, t17, t18, t19, t20, t21, t22, t23], A24.nth 0 rfl, fun t ht => ?_⟩
    simp only [List.mem_cons, List.not_mem_nil, or_false] at ht
    rcases ht with rfl | rfl | rfl | rfl | rfl | rfl | rfl | rfl | rfl | rfl | rfl | rfl | rfl | rfl | rfl | rfl | rfl | rfl | rfl | rfl | rfl | rfl | rfl
    · exact ⟨_, by simp, A24.nth 23 rfl⟩
    · exact ⟨_, by simp, A24.nth 22 rfl⟩
    · exact ⟨_, by simp, A24.nth 21 rfl⟩
    · exact ⟨_, by simp, A24.nth 20 rfl⟩
    · exact ⟨_, by simp, A24.nth 19 rfl⟩
    · exact ⟨_, by simp, A24.nth 18 rfl⟩
    · exact ⟨_, by simp, A24.nth 17 rfl⟩
    · exact ⟨_, by simp, A24.nth 16 rfl⟩
    · exact ⟨_, by simp, A24.nth 15 rfl⟩
    · exact ⟨_, by simp, A24.nth 14 rfl⟩
    · exact ⟨_, by simp, A24.nth 13 rfl⟩
    · exact ⟨_, by simp, A24.nth 12 rfl⟩
    · exact ⟨_, by simp, A24.nth 11 rfl⟩
    · exact ⟨_, by simp, A24.nth 10 rfl⟩
    · exact ⟨_, by simp, A24.nth 9 rfl⟩
    · exact ⟨_, by simp, A24.nth 8 rfl⟩
    · exact ⟨_, by simp, A24.nth 7 rfl⟩
    · exact ⟨_, by simp, A24.nth 6 rfl⟩
    · exact ⟨_, by simp, A24.nth 5 rfl⟩
    · exact ⟨_, by simp, A24.nth 4 rfl⟩
    · exact ⟨_, by simp, A24.nth 3 rfl⟩
    · exact ⟨_, by simp, A24.nth 2 rfl⟩
    · exact ⟨_, by simp, A24.nth 1 rfl⟩
theorem ok_more {f : Addr} {fd : FuncData} (F : Fun K "_law_more" "_law_more" sMore f fd) (E : Errs P K mg W C fI) : FnOk P w K mg base CX0 4 f fd ["_law_a", "_law_b"] spMore := by
  refine F.ok scMore (fun vs H Q X h => ?_) (fun cdv A outer s H vs Q X hr h => ?_)
  · obtain ⟨a, b, rfl, _⟩ := h
    rfl
  · obtain ⟨a, b, rfl, k⟩ := h
    have hrE := hr
    refine ⟨_, (pss_cons (ps_set (i := 2) scMore.nd rfl (Or.inl rfl) (pe_lst (pa_cons (pe_tup (pa_cons (pe_errF E.e4.r (noAt E.e4.i 0 rfl) (per_pos E.e4.c E.e4.i hrE (by rfl) E.e4.g E.e4.k (eb_BadBud_2) (pa_cons (pv 0) (pa_cons (pv 1) pa_nil)))) (pa_cons (pv 0) pa_nil))) (pa_cons (pe_tup (pa_cons (pe_errF E.e4.r (noAt E.e4.i 1 rfl) (per_mix E.e4.c E.e4.i hrE (by rfl) E.e4.g E.e4.k (eb_BadBud_1) rfl (pa_cons (pv 0) pa_nil) (pk_cons (pv 1) pk_nil))) (pa_cons (pv 1) pa_nil))) (pa_cons (pe_tup (pa_cons (pe_errF E.e7.r (noAt E.e7.i 0 rfl) (per_pos E.e7.c E.e7.i hrE (by rfl) E.e7.g E.e7.k (eb_NoMouth_2) (pa_cons (pv 0) (pa_cons (pv 1) pa_nil)))) (pa_cons (pv 0) pa_nil))) (pa_cons (pe_tup (pa_cons (pe_errF E.e7.r (noAt E.e7.i 1 rfl) (per_pos E.e7.c E.e7.i hrE (by rfl) E.e7.g E.e7.k (eb_NoMouth_2) (pa_cons (pv 0) (pa_cons (pv 1) pa_nil)))) (pa_cons (pv 1) pa_nil))) pa_nil))))))
      (pss_cons (ps_set (i := 2) scMore.nd rfl (Or.inl rfl) (pe_op op_cat (pv 2) (pe_lst (pa_cons (pe_tup (pa_cons (pe_errF E.e8.r (noAt E.e8.i 0 rfl) (per_kw E.e8.c E.e8.i hrE (by rfl) E.e8.g E.e8.k (eb_NoPart_0) rfl (pk_cons (pv 0) (pk_cons (pv 1) pk_nil)))) (pa_cons (pv 0) pa_nil))) (pa_cons (pe_tup (pa_cons (pe_errF E.e8.r (noAt E.e8.i 1 rfl) (per_pos E.e8.c E.e8.i hrE (by rfl) E.e8.g E.e8.k (eb_NoPart_2) (pa_cons (pv 0) (pa_cons (pv 1) pa_nil)))) (pa_cons (pv 1) pa_nil))) (pa_cons (pe_tup (pa_cons (pe_errF E.e11.r (noAt E.e11.i 0 rfl) (per_pos E.e11.c E.e11.i hrE (by rfl) E.e11.g E.e11.k (eb_NoBud_2) (pa_cons (pv 0) (pa_cons (pv 1) pa_nil)))) (pa_cons (pv 0) pa_nil))) pa_nil))))))
      (pss_cons (ps_set (i := 2) scMore.nd rfl (Or.inl rfl) (pe_op op_cat (pv 2) (pe_lst (pa_cons (pe_tup (pa_cons (pe_errF E.e11.r (noAt E.e11.i 1 rfl) (per_mix E.e11.c E.e11.i hrE (by rfl) E.e11.g E.e11.k (eb_NoBud_1) rfl (pa_cons (pv 0) pa_nil) (pk_cons (pv 1) pk_nil))) (pa_cons (pv 1) pa_nil))) (pa_cons (pe_tup (pa_cons (pe_errF E.e12.r (noAt E.e12.i 0 rfl) (per_pos E.e12.c E.e12.i hrE (by rfl) E.e12.g E.e12.k (eb_NoTie_3) (pa_cons (pv 0) (pa_cons (pv 1) (pa_cons pe_int pa_nil))))) (pa_cons (pv 0) pa_nil))) (pa_cons (pe_tup (pa_cons (pe_errF E.e12.r (noAt E.e12.i 1 rfl) (per_mix E.e12.c E.e12.i hrE (by rfl) E.e12.g E.e12.k (eb_NoTie_2) rfl (pa_cons (pv 0) (pa_cons (pv 1) pa_nil)) (pk_cons pe_int pk_nil))) (pa_cons (pv 1) pa_nil))) pa_nil))))))
      (pss_cons (ps_set (i := 2) scMore.nd rfl (Or.inl rfl) (pe_op op_cat (pv 2) (pe_lst (pa_cons (pe_tup (pa_cons (pe_errF E.e12.r (noAt E.e12.i 2 rfl) (per_mix E.e12.c E.e12.i hrE (by rfl) E.e12.g E.e12.k (eb_NoTie_1) rfl (pa_cons (pv 0) pa_nil) (pk_cons (pv 1) (pk_cons pe_int pk_nil)))) (pa_cons pe_int pa_nil))) pa_nil))))
      (pss_one (ps_ret (pe_op op_cat (pv 2) (pe_lst (pa_cons (pe_tup (pa_cons (pe_errF E.e23.r (noAt E.e23.i 0 rfl) (per_kw E.e23.c E.e23.i hrE (by rfl) E.e23.g E.e23.k (eb_NotBack_0) rfl (pk_cons (pv 0) (pk_cons (pv 1) pk_nil)))) (pa_cons (pv 0) pa_nil))) (pa_cons (pe_tup (pa_cons (pe_errF E.e23.r (noAt E.e23.i 1 rfl) (per_pos E.e23.c E.e23.i hrE (by rfl) E.e23.g E.e23.k (eb_NotBack_2) (pa_cons (pv 0) (pa_cons (pv 1) pa_nil)))) (pa_cons (pv 1) pa_nil))) pa_nil)))))))))), ?_⟩
    have A0 := Acc.nil (H := H)
    refine ⟨_, rfl, _, rfl, rfl, _, rfl, _, rfl, (by show 2 ≤ sizeLine; decide), fun t1 h1 => ?_⟩
    have A1 := A0.push (o := .tup [a, a]) h1
    refine ⟨_, rfl, _, rfl, rfl, rfl, _, rfl, _, rfl, (by show 2 ≤ sizeLine; decide), fun t2 h2 => ?_⟩
    have A2 := A1.push (o := .tup [b, b]) h2
    refine ⟨_, rfl, _, rfl, rfl, _, rfl, _, rfl, (by show 2 ≤ sizeLine; decide), fun t3 h3 => ?_⟩
    have A3 := A2.push (o := .tup [a, a]) h3
    refine ⟨_, rfl, _, rfl, rfl, _, rfl, _, rfl, (by show 2 ≤ sizeLine; decide), fun t4 h4 => ?_⟩
    have A4 := A3.push (o := .tup [b, b]) h4
    refine ⟨(by show 4 ≤ sizeLine; decide), fun l0 m0 => ?_⟩
    have A5 := A4.push (o := .lst [V.ref t1, V.ref t2, V.ref t3, V.ref t4]) m0
    refine ⟨_, rfl, _, rfl, _, rfl, rfl, _, rfl, _, rfl, (by show 2 ≤ sizeLine; decide), fun t5 h5 => ?_⟩
    have A6 := A5.push (o := .tup [a, a]) h5
    refine ⟨_, rfl, _, rfl, rfl, _, rfl, _, rfl, (by show 2 ≤ sizeLine; decide), fun t6 h6 => ?_⟩
    have A7 := A6.push (o := .tup [b, b]) h6
    refine ⟨_, rfl, _, rfl, rfl, _, rfl, _, rfl, (by show 2 ≤ sizeLine; decide), fun t7 h7 => ?_⟩
    have A8 := A7.push (o := .tup [a, a]) h7
    refine ⟨(by show 3 ≤ sizeLine; decide), fun l1 m1 => ?_⟩
    have A9 := A8.push (o := .lst [V.ref t5, V.ref t6, V.ref t7]) m1
    refine ⟨_, _, _, _, rfl, rfl, (A9.nth 4 rfl), (A9.nth 0 rfl), (by rw [sizeLine_eq]; simp), fun p1 n1 => ?_⟩
    have A10 := A9.push (o := .lst [V.ref t1, V.ref t2, V.ref t3, V.ref t4, V.ref t5, V.ref t6, V.ref t7]) n1
    refine ⟨_, rfl, _, rfl, _, rfl, rfl, rfl, _, rfl, _, rfl, (by show 2 ≤ sizeLine; decide), fun t8 h8 => ?_⟩
    have A11 := A10.push (o := .tup [b, b]) h8
    refine ⟨_, rfl, _, rfl, rfl, _, rfl, _, rfl, (by show 2 ≤ sizeLine; decide), fun t9 h9 => ?_⟩
    have A12 := A11.push (o := .tup [a, a]) h9
    refine ⟨_, rfl, _, rfl, rfl, rfl, _, rfl, _, rfl, (by show 2 ≤ sizeLine; decide), fun t10 h10 => ?_⟩
    have A13 := A12.push (o := .tup [b, b]) h10
    refine ⟨(by show 3 ≤ sizeLine; decide), fun l2 m2 => ?_⟩
    have A14 := A13.push (o := .lst [V.ref t8, V.ref t9, V.ref t10]) m2
    refine ⟨_, _, _, _, rfl, rfl, (A14.nth 4 rfl), (A14.nth 0 rfl), (by rw [sizeLine_eq]; simp), fun p2 n2 => ?_⟩
    have A15 := A14.push (o := .lst [V.ref t1, V.ref t2, V.ref t3, V.ref t4, V.ref t5, V.ref t6, V.ref t7, V.ref t8, V.ref t9, V.ref t10]) n2
    refine ⟨_, rfl, _, rfl, _, rfl, rfl, rfl, _, rfl, (by show 2 ≤ sizeLine; decide), fun t11 h11 => ?_⟩
    have A16 := A15.push (o := .tup [V.int 7, V.int 7]) h11
    refine ⟨(by show 1 ≤ sizeLine; decide), fun l3 m3 => ?_⟩
    have A17 := A16.push (o := .lst [V.ref t11]) m3
    refine ⟨_, _, _, _, rfl, rfl, (A17.nth 2 rfl), (A17.nth 0 rfl), (by rw [sizeLine_eq]; simp), fun p3 n3 => ?_⟩
    have A18 := A17.push (o := .lst [V.ref t1, V.ref t2, V.ref t3, V.ref t4, V.ref t5, V.ref t6, V.ref t7, V.ref t8, V.ref t9, V.ref t10, V.ref t11]) n3
    refine ⟨_, rfl, _, rfl, _, rfl, rfl, _, rfl, _, rfl, (by show 2 ≤ sizeLine; decide), fun t12 h12 => ?_⟩
    have A19 := A18.push (o := .tup [a, a]) h12
    refine ⟨_, rfl, _, rfl, rfl, _, rfl, _, rfl, (by show 2 ≤ sizeLine; decide), fun t13 h13 => ?_⟩
    have A20 := A19.push (o := .tup [b, b]) h13
    refine ⟨(by show 2 ≤ sizeLine; decide), fun l4 m4 => ?_⟩
    have A21 := A20.push (o := .lst [V.ref t12, V.ref t13]) m4
    refine ⟨_, _, _, _, rfl, rfl, (A21.nth 3 rfl), (A21.nth 0 rfl), (by rw [sizeLine_eq]; simp), fun p4 n4 => ?_⟩
    have A22 := A21.push (o := .lst [V.ref t1, V.ref t2, V.ref t3, V.ref t4, V.ref t5, V.ref t6, V.ref t7, V.ref t8, V.ref t9, V.ref t10, V.ref t11, V.ref t12, V.ref t13]) n4
    refine k _ _ A22.same ⟨[t1, t2, t3, t4, t5, t6, t7, t8, t9, t10, t11, t12, t13], A22.nth 0 rfl, fun t ht => ?_⟩
    simp only [List.mem_cons, List.not_mem_nil, or_false] at ht
    rcases ht with rfl | rfl | rfl | rfl | rfl | rfl | rfl | rfl | rfl | rfl | rfl | rfl | rfl
    · exact ⟨_, by simp, A22.nth 21 rfl⟩
    · exact ⟨_, by simp, A22.nth 20 rfl⟩
    · exact ⟨_, by simp, A22.nth 19 rfl⟩
    · exact ⟨_, by simp, A22.nth 18 rfl⟩
    · exact ⟨_, by simp, A22.nth 16 rfl⟩
    · exact ⟨_, by simp, A22.nth 15 rfl⟩
    · exact ⟨_, by simp, A22.nth 14 rfl⟩
    · exact ⟨_, by simp, A22.nth 11 rfl⟩
    · exact ⟨_, by simp, A22.nth 10 rfl⟩
    · exact ⟨_, by simp, A22.nth 9 rfl⟩
    · exact ⟨_, by simp, A22.nth 6 rfl⟩
    · exact ⟨_, by simp, A22.nth 3 rfl⟩
    · exact ⟨_, by simp, A22.nth 2 rfl⟩
end
end K00
set_option Elab.async false
set_option linter.all false
set_option maxRecDepth 100000
set_option maxHeartbeats 4000000
namespace K00
open PySem L2 PySem.GW
abbrev sRaise : Stmt := top 42
abbrev sCaught : Stmt := top 43
theorem scRaise : FnScope ["_law_which", "_law_a"] ["_law_which", "_law_a"] (defScope sRaise) := ⟨rfl, rfl, rfl, by decide +kernel, rfl, by decide +kernel, by decide +kernel⟩
theorem scCaught : FnScope ["_law_which", "_law_a", "e"] ["_law_which", "_law_a"] (defScope sCaught) := ⟨rfl, rfl, rfl, by decide +kernel, rfl, by decide +kernel, by decide +kernel⟩
def spRaise (K : PySem.W.Frag) (W : Addr) : Sp := fun vs H Q E => ∃ (i : Int) (a : V), vs = [.int i, a] ∧ ∀ (C : Addr) (d : Option Addr) (H' : Hp), PySem.W.exmOne K (.ref C) (.ref W) = some true → Same H H' → E (.ref C) d H'
def spCaught : Sp := fun vs H Q _ => ∃ (i : Int) (a : V), vs = [.int i, a] ∧ ∀ (H' : Hp), Same H H' → Q (.bl true) H'
section
variable {P : Program} {w : World} {K : PySem.W.Frag} {mg : Str → Option Value} {base : Heap} {W : Addr} {C fI : Nat → Addr}
theorem ok_raise {f : Addr} {fd : FuncData} (F : Fun K "_law_raise" "_law_raise" sRaise f fd) (E : Errs P K mg W C fI) : FnOk P w K mg base (L2.CX P w) 4 f fd ["_law_which", "_law_a"] (spRaise K W) := by
  refine F.okX scRaise (fun vs H Q X h => ?_) (fun cdv A outer s H vs Q X hr h => ?_)
  · obtain ⟨i, a, rfl, _⟩ := h
    rfl
  · obtain ⟨i, a, rfl, k⟩ := h
    have hrE := hr
    refine ⟨_, (pss_cons (ps_if (pt_cmpR op_eq (pv 0) pe_int (nomark _)) (pss_one (ps_raise rfl (takes_of rfl rfl rfl rfl) (pmk_err0 PySem.F.excBase_ValueError E.e13.q E.e13.g E.e13.k (raises_own E.e13.z.hs E.e13.t) (by rfl)))) pss_nil)
      (pss_cons (ps_if (pt_cmpR op_eq (pv 0) pe_int (nomark _)) (pss_one (ps_raise rfl (takes_of rfl rfl rfl rfl) (pmk_err (raises_own E.e14.z.hs E.e14.t) (per_pos E.e14.c E.e14.i hrE (by rfl) E.e14.g E.e14.k (eb_TooMany_1) (pa_cons pe_int pa_nil))))) pss_nil)
      (pss_cons (ps_if (pt_cmpR op_eq (pv 0) pe_int (nomark _)) (pss_one (ps_raise rfl (takes_of rfl rfl rfl rfl) (pmk_err (raises_own E.e5.z.hs E.e5.t) (per_kw E.e5.c E.e5.i hrE (by rfl) E.e5.g E.e5.k (eb_HandedOn_0) rfl (pk_cons (pv 1) pk_nil))))) pss_nil)
      (pss_cons (ps_if (pt_cmpR op_eq (pv 0) pe_int (nomark _)) (pss_one (ps_raise rfl (takes_of rfl rfl rfl rfl) (pmk_err (raises_own E.e12.z.hs E.e12.t) (per_pos E.e12.c E.e12.i hrE (by rfl) E.e12.g E.e12.k (eb_NoTie_3) (pa_cons (pv 1) (pa_cons pe_int (pa_cons pe_int pa_nil))))))) pss_nil)
      (pss_one (ps_raise rfl (takes_of rfl rfl rfl rfl) (pmk_err0 PySem.F.excBase_ValueError E.e32.q E.e32.g E.e32.k (raises_own E.e32.z.hs E.e32.t) (by rfl)))))))), ?_⟩
    have up : ∀ (d : Addr) (o : HO), H d = none → Same H (upd H d o) := fun d o hd b u e => by rw [upd_ne (ne_of_none e hd)]; exact e
    refine ⟨_, rfl, rfl, _, rfl, ite2 (fun _ => ?_) fun _ => ?_⟩
    · exact k (C 13) none H E.e13.xw (Same.refl H)
    refine ⟨_, rfl, rfl, _, rfl, ite2 (fun _ => ?_) fun _ => ?_⟩
    · exact ⟨rfl, fun d hd => k (C 14) _ _ E.e14.xw (up d _ hd)⟩
    refine ⟨_, rfl, rfl, _, rfl, ite2 (fun _ => ?_) fun _ => ?_⟩
    · exact ⟨_, rfl, rfl, fun d hd => k (C 5) _ _ E.e5.xw (up d _ hd)⟩
    refine ⟨_, rfl, rfl, _, rfl, ite2 (fun _ => ?_) fun _ => ?_⟩
    · exact ⟨_, rfl, rfl, fun d hd => k (C 12) _ _ E.e12.xw (up d _ hd)⟩
    exact k (C 32) none H E.e32.xw (Same.refl H)
theorem ok_caught {f fR : Addr} {fd fdR : FuncData} (F : Fun K "_law_caught" "_law_caught" sCaught f fd) (E : Errs P K mg W C fI) (GR : FnOk P w K mg base (L2.CX P w) 4 fR fdR ["_law_which", "_law_a"] (spRaise K W)) (mgR : mg "_law_raise" = some (.ref fR)) (kpR : PySem.W.keepIn K (.ref fR) = true)
    (bR : Binds K fdR ["_law_which", "_law_a"] []) : FnOk P w K mg base CX0 6 f fd ["_law_which", "_law_a"] spCaught := by
  refine F.ok scCaught (fun vs H Q X h => ?_) (fun cdv A outer s H vs Q X hr h => ?_)
  · obtain ⟨i, a, rfl, _⟩ := h
    rfl
  · obtain ⟨i, a, rfl, k⟩ := h
    have hr1 : Room 4 _ := hr.mono (by decide)
    refine ⟨_, (pss_cons (ps_try_as (i := 2) (Wout := fun _ _ _ _ => False) rfl rfl scCaught.nd rfl rfl ⟨rfl, by decide, Or.inl E.gw⟩ takes0
          (fun W pn xe tk _ => pss_one (ps_expr (pe_callS GR hr1 rfl mgR kpR bR (fun σ => passAt tk σ) (pa_cons (pv 0) (pa_cons (pv 1) pa_nil)))))
          (fun a oe cls d pn hz hf => pss_one (ps_ret pe_bl))) (pss_one (ps_ret pe_bl))), ?_⟩
    exact ⟨_, rfl, _, rfl, i, a, rfl, fun C d H' xw sm => ⟨true, xw, fun _ a0 _ => k H' sm, fun q => Bool.noConfusion q⟩⟩
end
end K00
set_option Elab.async false
set_option linter.all false
set_option maxRecDepth 100000
set_option maxHeartbeats 4000000
namespace K00
open PySem L2 PySem.GW
abbrev sLaw : Stmt := top 44
theorem scLaw : FnScope ["_law_script", "_law_pen_here", "_law_values", "_law_lap", "_law_a", "_law_b", "_law_kept", "_law_twice", "_law_due", "_law_lots", "_law_error", "_law_found", "_law_seen", "_law_which"] ["_law_script"] (defScope sLaw) := ⟨rfl, rfl, rfl, by decide +kernel, rfl, by decide +kernel, by decide +kernel⟩
structure TxtL (mg : Str → Option Value) : Prop where
  list : mg "list" = none
  len : mg "len" = none
  int : mg "int" = none
  range : mg "range" = none
  min : mg "min" = none
  sum : mg "sum" = none
  all : mg "all" = none
  isi : mg "isinstance" = none
  bool : mg "bool" = none
  ve : mg "ValueError" = none
structure Defs (K : PySem.W.Frag) (mg : Str → Option Value) (fP fD fK fA fO fC : Addr) (fdP fdD fdK fdA fdO fdC : FuncData) : Prop where
  mP : mg "_law_pen" = some (.ref fP)
  mD : mg "_law_draw" = some (.ref fD)
  mK : mg "_law_pick" = some (.ref fK)
  mA : mg "_law_alone" = some (.ref fA)
  mO : mg "_law_more" = some (.ref fO)
  mC : mg "_law_caught" = some (.ref fC)
  kP : PySem.W.keepIn K (.ref fP) = true
  kD : PySem.W.keepIn K (.ref fD) = true
  kK : PySem.W.keepIn K (.ref fK) = true
  kA : PySem.W.keepIn K (.ref fA) = true
  kO : PySem.W.keepIn K (.ref fO) = true
  kC : PySem.W.keepIn K (.ref fC) = true
  bP : Binds K fdP ["_law_script"] []
  bD : Binds K fdD ["_law_pen_here", "_law_many"] []
  bK : Binds K fdK ["_law_pen_here", "_law_items"] []
  bA : Binds K fdA ["_law_a"] []
  bO : Binds K fdO ["_law_a", "_law_b"] []
  bC : Binds K fdC ["_law_which", "_law_a"] []
theorem vals_len {t1 l1 d1 t3 : Addr} : True := trivial
theorem op_orR {X : Cx} {f : Value → Value → Sem Value} {r1 r2 : R2} (h1 : OpR X f r1) (h2 : OpR X f r2) : OpR X f (fun x y H Q => r1 x y H Q ∨ r2 x y H Q) := by
  intro pins s σ H x y v u Q I rx ry h
  rcases h with h | h
  · exact h1 pins s σ H x y v u Q I rx ry h
  · exact h2 pins s σ H x y v u Q I rx ry h
/-- a value that is equal to itself, and of a known type -/
def Good (K : PySem.W.Frag) (H : Hp) (v : V) : Prop := ((∃ d, Dp K H v d ∧ SeqAt.shaped d = true) ∨ ∃ p, v = .ref p ∧ H p = some (.dK [])) ∧ ∃ t b, TyX K H v t ∧ PySem.W.kitOne K t (.type "bool") = some b
theorem good_ne {K : PySem.W.Frag} {H : Hp} {v : V} (g : Good K H v) {Q : VK} (q : Q (.bl false) H) : rNeD K v v H Q ∨ rNeDA v v H Q := by
  rcases g.1 with ⟨d, hd, sd⟩ | ⟨p, rfl, hp⟩
  · refine .inl ⟨d, d, hd, hd, sd, sd, ?_⟩
    rw [SeqAt.eqv_refl d (SeqAt.canLay_of_shaped sd)]
    exact q
  · exact .inr ⟨p, p, [], [], rfl, rfl, hp, hp, rfl, (by intro _ h; cases h), q⟩
/-- the values that are tried, where they stand -/
def vals (t1 l1 d1 t3 : Addr) : List V := [.non, .bl true, .int 0, .int (-3), .str "", .str "x y", .ref t1, .ref l1, .ref d1, .int (10 ^ 9), .str "a", .ref t3]
structure ValsAt (H : Hp) (l t1 l1 d1 t2 t3 : Addr) : Prop where
  hl : H l = some (.lst (vals t1 l1 d1 t3))
  h1 : H t1 = some (.tup [.int 1, .int 2])
  h2 : H l1 = some (.lst [.str "x"])
  h3 : H d1 = some (.dK [])
  h4 : H t2 = some (.tup [.str "k", .str "a"])
  h5 : H t3 = some (.tup [.ref t2])
theorem ValsAt.keep {H H' : Hp} {l t1 l1 d1 t2 t3 : Addr} (Z : ValsAt H l t1 l1 d1 t2 t3) {p : Addr} {kvs : List (Key × V)} (hp : H p = some (.dK kvs)) (ne : d1 ≠ p) (k : ∀ b o, b ≠ p → H b = some o → H' b = some o) : ValsAt H' l t1 l1 d1 t2 t3 :=
  ⟨k _ _ (ne_of Z.hl hp (by intro z; cases z)) Z.hl, k _ _ (ne_of Z.h1 hp (by intro z; cases z)) Z.h1, k _ _ (ne_of Z.h2 hp (by intro z; cases z)) Z.h2, k _ _ ne Z.h3, k _ _ (ne_of Z.h4 hp (by intro z; cases z)) Z.h4, k _ _ (ne_of Z.h5 hp (by intro z; cases z)) Z.h5⟩
theorem ValsAt.same {H H' : Hp} {l t1 l1 d1 t2 t3 : Addr} (V : ValsAt H l t1 l1 d1 t2 t3) (s : Same H H') : ValsAt H' l t1 l1 d1 t2 t3 := ⟨s _ _ V.hl, s _ _ V.h1, s _ _ V.h2, s _ _ V.h3, s _ _ V.h4, s _ _ V.h5⟩
theorem ValsAt.good {K : PySem.W.Frag} {H : Hp} {l t1 l1 d1 t2 t3 : Addr} (W : ValsAt H l t1 l1 d1 t2 t3) {v : V} (hv : v ∈ vals t1 l1 d1 t3) : Good K H v := by
  simp only [vals, List.mem_cons, List.not_mem_nil, or_false] at hv
  rcases hv with rfl | rfl | rfl | rfl | rfl | rfl | rfl | rfl | rfl | rfl | rfl | rfl
  · exact ⟨.inl ⟨_, .non, rfl⟩, _, _, .base .non, kit_ty (r := false) (by decide +kernel)⟩
  · exact ⟨.inl ⟨_, .bl _, rfl⟩, _, _, .base (.bl _), kit_ty (r := true) (by decide +kernel)⟩
  · exact ⟨.inl ⟨_, .int _, rfl⟩, _, _, .base (.int _), kit_ty (r := false) (by decide +kernel)⟩
  · exact ⟨.inl ⟨_, .int _, rfl⟩, _, _, .base (.int _), kit_ty (r := false) (by decide +kernel)⟩
  · exact ⟨.inl ⟨_, .str _, by decide +kernel⟩, _, _, .base (.str _), kit_ty (r := false) (by decide +kernel)⟩
  · exact ⟨.inl ⟨_, .str _, by decide +kernel⟩, _, _, .base (.str _), kit_ty (r := false) (by decide +kernel)⟩
  · exact ⟨.inl ⟨_, .tup (SqT.of W.h1) (.cons (.int 1) (.cons (.int 2) .nil)), by decide +kernel⟩, _, _, .base (.tup W.h1), kit_ty (r := false) (by decide +kernel)⟩
  · exact ⟨.inl ⟨_, .lst (SqL.of W.h2) (.cons (.str _) .nil), by decide +kernel⟩, _, _, .base (.lst W.h2), kit_ty (r := false) (by decide +kernel)⟩
  · exact ⟨.inr ⟨_, rfl, W.h3⟩, _, _, .base (.dK W.h3), kit_ty (r := false) (by decide +kernel)⟩
  · exact ⟨.inl ⟨_, .int _, rfl⟩, _, _, .base (.int _), kit_ty (r := false) (by decide +kernel)⟩
  · exact ⟨.inl ⟨_, .str _, by decide +kernel⟩, _, _, .base (.str _), kit_ty (r := false) (by decide +kernel)⟩
  · exact ⟨.inl ⟨_, .tup (SqT.of W.h5) (.cons (.tup (SqT.of W.h4) (.cons (.str _) (.cons (.str _) .nil))) .nil), by decide +kernel⟩, _, _, .base (.tup W.h5), kit_ty (r := false) (by decide +kernel)⟩
theorem good7 {K : PySem.W.Frag} {H : Hp} : Good K H (.int 7) := ⟨.inl ⟨_, .int _, rfl⟩, _, _, .base (.int _), kit_ty (r := false) (by decide +kernel)⟩
/-- a made error, and what isinstance tells of it -/
def ErrAt (K : PySem.W.Frag) (W : Addr) (four : List Value) (H : Hp) (x : V) (b : Bool) : Prop := ∃ (a C : Addr) (d : Option Addr), x = .ref a ∧ H a = some (errO a C d) ∧ (∀ dd, d = some dd → ∃ fs, H dd = some (.xd fs)) ∧ ExcC K C ∧ PySem.W.kitOne K (.ref C) (.ref W) = some true ∧ PySem.W.kitOne K (.ref C) (.type "ValueError") = some true ∧ PySem.W.kitAny K (.ref C) four = some b
theorem ErrAt.keep {K : PySem.W.Frag} {W : Addr} {four : List Value} {H H' : Hp} {x : V} {b : Bool} {lo : Addr} {xs : List V} (hlo : H lo = some (.lst xs)) (k : ∀ b o, b ≠ lo → H b = some o → H' b = some o) (h : ErrAt K W four H x b) : ErrAt K W four H' x b := by
  obtain ⟨a, C, d, rfl, ha, hd, Z, k1, k2, k3⟩ := h
  refine ⟨a, C, d, rfl, k _ _ (ne_of ha hlo (by intro z; cases z)) ha, fun dd e => ?_, Z, k1, k2, k3⟩
  obtain ⟨fs, hf⟩ := hd dd e
  exact ⟨fs, k _ _ (ne_of hf hlo (by intro z; cases z)) hf⟩
theorem ErrAt.same {K : PySem.W.Frag} {W : Addr} {four : List Value} {H H' : Hp} {x : V} {b : Bool} (s : Same H H') (h : ErrAt K W four H x b) : ErrAt K W four H' x b := by
  obtain ⟨a, C, d, rfl, ha, hd, Z, k1, k2, k3⟩ := h
  exact ⟨a, C, d, rfl, s _ _ ha, fun dd e => let ⟨fs, hf⟩ := hd dd e; ⟨fs, s _ _ hf⟩, Z, k1, k2, k3⟩
def hpOf {H0 H : Hp} {L : List (Addr × HO)} (_ : Acc H0 H L) : Hp := H
/- Acc.hp -/
theorem up_none {H : Hp} {a d : Addr} {o : HO} (h : H a = none) (n : d ≠ a) : (upd H d o) a = none := by rw [upd_ne n.symm]; exact h
def bs8 : List Bool := [true, false, true, false, false, true, true, false]
theorem paired_at {α β : Type} {R : α → β → Prop} : ∀ {xs : List α} {ys : List β} {i : Nat} {x : α}, Paired R xs ys → xs[i]? = some x → ∃ y, ys[i]? = some y ∧ R x y
  | _, _, _, _, .nil, e => by simp at e
  | _, _, 0, _, .cons r _, e => by simp at e; subst e; exact ⟨_, rfl, r⟩
  | _, _, i + 1, x, .cons _ t, e => by
    obtain ⟨u, h1, h2⟩ := paired_at (i := i) (x := x) t (by simpa using e)
    exact ⟨u, by simpa using h1, h2⟩
theorem take_snoc {α : Type} {xs : List α} {i : Nat} {y : α} (h : xs[i]? = some y) : xs.take i ++ [y] = xs.take (i + 1) := by
  rw [List.take_add_one, h]
  rfl
def spLaw (K : PySem.W.Frag) : Sp := fun vs H Q _ => ∃ (a : Addr) (ns : List Int), vs = [.ref a] ∧ SqL K H a (ns.map V.int) ∧ ns.length ≤ 63 ∧ ∀ H', Q (.bl true) H'
section
variable {P : Program} {w : World} {K : PySem.W.Frag} {mg : Str → Option Value} {base : Heap} {W : Addr} {C fI : Nat → Addr}
theorem ok_law {f fP fD fK fA fO fC : Addr} {fd fdP fdD fdK fdA fdO fdC : FuncData} (F : Fun K "law" "law" sLaw f fd) (T : TxtL mg) (E : Errs P K mg W C fI) (M : Defs K mg fP fD fK fA fO fC fdP fdD fdK fdA fdO fdC)
    (GP : FnOk P w K mg base CX0 1 fP fdP ["_law_script"] (spPen K)) (GK : FnOk P w K mg base CX0 2 fK fdK ["_law_pen_here", "_law_items"] spPick) (GA : FnOk P w K mg base CX0 4 fA fdA ["_law_a"] spAlone)
    (GO : FnOk P w K mg base CX0 4 fO fdO ["_law_a", "_law_b"] spMore) (GC : FnOk P w K mg base CX0 6 fC fdC ["_law_which", "_law_a"] spCaught) : FnOk P w K mg base CX0 8 f fd ["_law_script"] (spLaw K) := by
  refine F.ok scLaw (fun vs H Q X h => ?_) (fun cdv A outer s H vs Q X hr h => ?_)
  · obtain ⟨a, ns, rfl, _⟩ := h
    rfl
  · obtain ⟨sa, ns, rfl, hS, hlen, k⟩ := h
    have hrE := hr
    have hrP : Room 1 _ := hr.mono (by decide)
    have hrK : Room 2 _ := hr.mono (by decide)
    have hrA : Room 4 _ := hr.mono (by decide)
    have hrO : Room 4 _ := hr.mono (by decide)
    have hrC : Room 6 _ := hr.mono (by decide)
    have hu := hu_of hr
    have hu0 : (A.deeper (PyProof.Rows.envOfC "law" (defScope sLaw) s.heap.objs.size f cdv)).units < cLine := by omega
    refine ⟨_, (pss_cons (ps_set (i := 1) scLaw.nd rfl (Or.inl rfl) (pe_call GP hrP rfl M.mP M.kP M.bP .nil pass0 (pa_cons (pv 0) pa_nil)))
      (pss_cons (ps_set (i := 2) scLaw.nd rfl (Or.inl rfl) (pe_lst (pa_cons pe_non (pa_cons pe_bl (pa_cons pe_int (pa_cons (pe_un un_neg pe_int) (pa_cons pe_str (pa_cons pe_str (pa_cons (pe_tup (pa_cons pe_int (pa_cons pe_int pa_nil))) (pa_cons (pe_lst (pa_cons pe_str pa_nil)) (pa_cons pe_dnewK (pa_cons (pe_op op_pow pe_int pe_int) (pa_cons pe_str (pa_cons (pe_tup (pa_cons (pe_tup (pa_cons pe_str (pa_cons pe_str pa_nil))) pa_nil)) pa_nil))))))))))))))
      (pss_cons (ps_for PassesOwn.never rfl (pi_range1 (by rfl) T.range (pa_cons (pe_op op_add pe_int (pe_callB (call_min2 rfl) (by rfl) T.min (by decide +kernel) (pa_cons pe_int (pa_cons (pe_callB call_len_seq (by rfl) T.len PySem.boot_len (pa_cons (pv 0) pa_nil)) pa_nil)))) pa_nil)) (pg_name (i := 3) scLaw.nd rfl (Or.inl rfl)) (pss_cons (ps_asg (pe_tup (pa_cons (pe_call GK hrK rfl M.mK M.kK M.bK .nil pass0 (pa_cons (pv 1) (pa_cons (pv 2) pa_nil))) (pa_cons (pe_call GK hrK rfl M.mK M.kK M.bK .nil pass0 (pa_cons (pv 1) (pa_cons (pv 2) pa_nil))) pa_nil))) (pg_tup (by rfl) (pgs_cons (pg_name (i := 4) scLaw.nd rfl (Or.inr rfl)) (pgs_cons (pg_name (i := 5) scLaw.nd rfl (Or.inl rfl)) pgs_nil))))
      (pss_cons (ps_for PassesOwn.never rfl (pi_list (pe_call GA hrA rfl M.mA M.kA M.bA .nil pass0 (pa_cons (pv 4) pa_nil))) (pg_tup (by rfl) (pgs_cons (pg_name (i := 6) scLaw.nd rfl (Or.inl rfl)) (pgs_cons (pg_name (i := 7) scLaw.nd rfl (Or.inl rfl)) pgs_nil))) (pss_one (ps_if (PW.pt (pw_or (pt_cmpR (op_orR (op_neD hr.units) (op_ne_dictA hu0)) (pv 6) (pv 4) (nomark _)) (pw_or (pt_cmpR (op_orR (op_neD hr.units) (op_ne_dictA hu0)) (pv 7) (pv 4) (nomark _)) (pw_or1 (pt_cmpR op_ne (pe_callB call_isi (by rfl) T.isi (by decide +kernel) (pa_cons (pv 6) (pa_cons (pe_bltn (v := .ty "bool") (by rfl) T.bool (by decide +kernel) rfl) pa_nil))) (pe_callB call_isi (by rfl) T.isi (by decide +kernel) (pa_cons (pv 4) (pa_cons (pe_bltn (v := .ty "bool") (by rfl) T.bool (by decide +kernel) rfl) pa_nil))) (nomark _)))))) (pss_one (ps_ret pe_bl)) pss_nil)))
      (pss_cons (ps_for PassesOwn.never rfl (pi_list (pe_call GO hrO rfl M.mO M.kO M.bO .nil pass0 (pa_cons (pv 4) (pa_cons (pv 5) pa_nil)))) (pg_tup (by rfl) (pgs_cons (pg_name (i := 6) scLaw.nd rfl (Or.inl rfl)) (pgs_cons (pg_name (i := 8) scLaw.nd rfl (Or.inl rfl)) pgs_nil))) (pss_one (ps_if (PW.pt (pw_or (pt_cmpR (op_orR (op_neD hr.units) (op_ne_dictA hu0)) (pv 6) (pv 8) (nomark _)) (pw_or1 (pt_cmpR op_ne (pe_callB call_isi (by rfl) T.isi (by decide +kernel) (pa_cons (pv 6) (pa_cons (pe_bltn (v := .ty "bool") (by rfl) T.bool (by decide +kernel) rfl) pa_nil))) (pe_callB call_isi (by rfl) T.isi (by decide +kernel) (pa_cons (pv 8) (pa_cons (pe_bltn (v := .ty "bool") (by rfl) T.bool (by decide +kernel) rfl) pa_nil))) (nomark _))))) (pss_one (ps_ret pe_bl)) pss_nil)))
      (pss_cons (ps_set (i := 9) scLaw.nd rfl (Or.inl rfl) (pe_lst (pa_cons (pe_err0 PySem.F.excBase_ValueError E.e13.q E.e13.g E.e13.k (by rfl)) (pa_cons (pe_err0 PySem.F.excBase_ValueError E.e17.q E.e17.g E.e17.k (by rfl)) (pa_cons (pe_err0 PySem.F.excBase_ValueError E.e26.q E.e26.g E.e26.k (by rfl)) (pa_cons (pe_err0 PySem.F.excBase_ValueError E.e32.q E.e32.g E.e32.k (by rfl)) (pa_cons (pe_err0 PySem.F.excBase_ValueError E.e35.q E.e35.g E.e35.k (by rfl)) (pa_cons (pe_err (per_pos E.e2.c E.e2.i hrE (by rfl) E.e2.g E.e2.k (eb_BadPiece_1) (pa_cons (pv 4) pa_nil))) (pa_cons (pe_err (per_pos E.e12.c E.e12.i hrE (by rfl) E.e12.g E.e12.k (eb_NoTie_3) (pa_cons (pv 4) (pa_cons (pv 5) (pa_cons pe_int pa_nil))))) pa_nil)))))))))
      (pss_cons (ps_expr (pe_bm PySem.F.plainAttrs_list PySem.F.slot_list_append PySem.F.type_list_append mt_append (pv 9) (pa_cons (pe_err (per_pos E.e6.c E.e6.i hrE (by rfl) E.e6.g E.e6.k (eb_NoKind_1) (pa_cons (pv 5) pa_nil))) pa_nil)))
      (pss_cons (ps_for PassesOwn.never rfl (pi_list (pv 9)) (pg_name (i := 10) scLaw.nd rfl (Or.inl rfl)) (pss_one (ps_if (PW.pt (pw_or (pt_not (pt_val (pe_callB call_isErr (by rfl) T.isi (by decide +kernel) (pa_cons (pv 10) (pa_cons (pe_glob (v := .ref W) (by rfl) E.gw rfl) pa_nil))))) (pw_or1 (pt_not (pt_val (pe_callB call_isErr (by rfl) T.isi (by decide +kernel) (pa_cons (pv 10) (pa_cons (pe_bltn (v := .ty "ValueError") (by rfl) T.ve (by decide +kernel) rfl) pa_nil)))))))) (pss_one (ps_ret pe_bl)) pss_nil)))
      (pss_cons (ps_setLc (te := tCB (rIsErrT K) (tCons (tVar 10) (tCons (tTup (tCons (tC (V.ref (C 13))) (tCons (tC (V.ref (C 2))) (tCons (tC (V.ref (C 12))) (tCons (tC (V.ref (C 26))) tNil))))) tNil))) (i := 11) (own := [("_law_error", 10)]) (g := gName 10) (by rfl) scLaw.nd rfl rfl (sw_true rfl rfl rfl (by decide +kernel)) (pi_list (pv 9)) (blkOk_by (own := [("_law_error", 10)]) (N := ["_law_script", "_law_pen_here", "_law_values", "_law_lap", "_law_a", "_law_b", "_law_kept", "_law_twice", "_law_due", "_law_lots", "_law_error", "_law_found", "_law_seen", "_law_which"]) (sc := (defScope sLaw)) (by decide +kernel)) (fun _ _ _ _ _ => pg_name (i := 10) scLaw.nd rfl (Or.inl rfl)) (fun _ _ _ _ _ => pts_nil) (fun _ _ _ _ _ => (pe_callB call_isErrT (by rfl) T.isi (by decide +kernel) (pa_cons (pv 10) (pa_cons (pe_tup (pa_cons (pe_glob (v := .ref (C 13)) (by rfl) E.e13.g rfl) (pa_cons (pe_glob (v := .ref (C 2)) (by rfl) E.e2.g rfl) (pa_cons (pe_glob (v := .ref (C 12)) (by rfl) E.e12.g rfl) (pa_cons (pe_glob (v := .ref (C 26)) (by rfl) E.e26.g rfl) pa_nil))))) pa_nil)))))
      (pss_one (ps_if (PW.pt (pw_or (pt_cmpR op_ne (pe_callB (cr_sum rfl) (by rfl) T.sum (by decide +kernel) (pa_cons (pe_lc (own := [("_law_seen", 12)]) (g := gName 12) (by rfl) scLaw.nd (pi_list (pv 11)) (blkOk_by (own := [("_law_seen", 12)]) (N := ["_law_script", "_law_pen_here", "_law_values", "_law_lap", "_law_a", "_law_b", "_law_kept", "_law_twice", "_law_due", "_law_lots", "_law_error", "_law_found", "_law_seen", "_law_which"]) (sc := (defScope sLaw)) (by decide +kernel)) (fun _ _ _ _ _ => pg_name (i := 12) scLaw.nd rfl (Or.inl rfl)) (fun _ _ _ _ _ => pts_nil) (fun _ _ _ _ _ => (pe_callTy call_int1 (by rfl) T.int (by decide +kernel) (pa_cons (pv 12) pa_nil)))) pa_nil)) pe_int (nomark _)) (pw_or1 (pt_not (pt_val (pe_callB (cr_all rfl) (by rfl) T.all (by decide +kernel) (pa_cons (pe_lc (own := [("_law_which", 13)]) (g := gName 13) (by rfl) scLaw.nd (pi_range1 (by rfl) T.range (pa_cons pe_int pa_nil)) (blkOk_by (own := [("_law_which", 13)]) (N := ["_law_script", "_law_pen_here", "_law_values", "_law_lap", "_law_a", "_law_b", "_law_kept", "_law_twice", "_law_due", "_law_lots", "_law_error", "_law_found", "_law_seen", "_law_which"]) (sc := (defScope sLaw)) (by decide +kernel)) (fun _ _ _ _ _ => pg_name (i := 13) scLaw.nd rfl (Or.inl rfl)) (fun _ _ _ _ _ => pts_nil) (fun _ _ _ _ _ => (pe_call GC hrC rfl M.mC M.kC M.bC .nil pass0 (pa_cons (pv 13) (pa_cons (pv 4) pa_nil))))) pa_nil))))))) (pss_one (ps_ret pe_bl)) pss_nil))))))))))
      (pss_one (ps_ret pe_bl))))), ?_⟩
    refine ⟨_, rfl, sa, ns, rfl, hS, hlen, fun p c H1 hp hc sm1 PA => ?_⟩
    have A0 := Acc.nil (H := H1)
    refine ⟨_, rfl, (by show 2 ≤ sizeLine; decide), fun t1 h1 => ?_⟩
    have A1 := A0.push (o := .tup [.int 1, .int 2]) h1
    refine ⟨(by show 1 ≤ sizeLine; decide), fun l1 h2 => ?_⟩
    have A2 := A1.push (o := .lst [.str "x"]) h2
    intro d1 h3
    have A3 := A2.push (o := .dK []) h3
    refine ⟨_, _, rfl, rfl, ⟨by decide, by decide, by decide⟩, (by show 2 ≤ sizeLine; decide), fun t2 h4 => ?_⟩
    have A4 := A3.push (o := .tup [.str "k", .str "a"]) h4
    refine ⟨(by show 1 ≤ sizeLine; decide), fun t3 h5 => ?_⟩
    have A5 := A4.push (o := .tup [.ref t2]) h5
    refine ⟨(by show 12 ≤ sizeLine; decide), fun l h6 => ?_⟩
    have A6 := A5.push (o := .lst (vals t1 l1 d1 t3)) h6
    have V0 : ValsAt _ l t1 l1 d1 t2 t3 := ⟨A6.nth 0 rfl, A6.nth 5 rfl, A6.nth 4 rfl, A6.nth 3 rfl, A6.nth 2 rfl, A6.nth 1 rfl⟩
    have P0 : PenAt _ p c ns 0 0 := ⟨A6.same _ _ PA.pd, A6.same _ _ PA.cl⟩
    have hS6 := A6.same.seq (sm1.seq hS)
    have npd : d1 ≠ p := (ne_of_none (A2.same _ _ PA.pd) h3).symm
    refine ⟨_, rfl, sa, _, rfl, .inl hS6, _, _, rfl, _, _, rfl, rfl, _, rfl, ?_, ?_, ?_⟩
    · split <;> omega
    · rw [List.length_map]; split <;> omega
    refine for_range (lo := 0) (fun i σ H' => ∃ (spot rest : Int) (o3 o4 o5 o6 o7 o8 o9 o10 o11 : Option V), σ = [some (.ref sa), some (.ref p), some (.ref l), o3, o4, o5, o6, o7, o8, o9, o10, o11, none, none] ∧ PenAt H' p c ns spot rest ∧ 0 ≤ spot ∧ spot ≤ 2 * (i : Int) ∧ ValsAt H' l t1 l1 d1 t2 t3)
      ⟨0, 0, none, none, none, none, none, none, none, none, none, rfl, P0, by omega, by omega, V0⟩ ?_ ?_
    · rintro i0 σ H2 hi ⟨spot, rest, o3, o4, o5, o6, o7, o8, o9, o10, o11, rfl, P2, q0, q1, V2⟩
      have hi6 : (i0 : Int) < 100 := by
        have : i0 < 7 := by
          refine Nat.lt_of_lt_of_le hi ?_
          rw [List.length_map]
          split <;> omega
        omega
      refine ⟨_, rfl, _, rfl, p, c, l, ns, spot, rest, _, rfl, P2, hlen, q0, by omega, V2.hl, (by show 0 < 12; decide), (by show 12 < 1000; decide), fun a s3 r3 H3 ha u0 u1 P3 k3 => ?_⟩
      have V3 := V2.keep P2.pd npd k3
      refine ⟨_, rfl, _, rfl, p, c, l, ns, s3, r3, _, rfl, P3, hlen, by omega, by omega, V3.hl, (by show 0 < 12; decide), (by show 12 < 1000; decide), fun b s4 r4 H4 hb v0 v1 P4 k4 => ?_⟩
      have V4 := V3.keep P3.pd npd k4
      refine ⟨(by show 2 ≤ sizeLine; decide), fun tt htt => ?_⟩
      have B0 := (Acc.nil (H := H4)).push (o := .tup [a, b]) htt
      refine ⟨tt, _, rfl, SqT.of upd_same, rfl, _, _, rfl, _, _, rfl, rfl, ?_⟩
      have V5 := V4.same B0.same
      have P5 : PenAt _ p c ns s4 r4 := ⟨B0.same _ _ P4.pd, B0.same _ _ P4.cl⟩
      refine ⟨_, rfl, a, rfl, fun H6 q6 sm6 R6 => ?_⟩
      have V6 := V5.same sm6
      have P6 : PenAt H6 p c ns s4 r4 := ⟨sm6 _ _ P5.pd, sm6 _ _ P5.cl⟩
      obtain ⟨ts, hts, hrow⟩ := R6
      refine ⟨q6, rfl, ⟨_, SqL.of hts⟩, for_list (K := K) (a := q6) (xs := ts.map V.ref) (fun i σ H' => H' = H6 ∧ ∃ (o6 o7 : Option V), σ = [some (.ref sa), some (.ref p), some (.ref l), some (.int (0 + (i0 : Int))), some a, some b, o6, o7, o8, o9, o10, o11, none, none])
        ⟨rfl, o6, o7, rfl⟩ (fun i σ H' _ ⟨e, _⟩ => by rw [e]; exact SqL.of hts) ?_ ?_⟩
      · rintro j y σ H' hj ⟨rfl, w6, w7, rfl⟩
        obtain ⟨t, ht, rfl⟩ : ∃ t, t ∈ ts ∧ y = V.ref t := by
          have := List.mem_of_getElem? hj
          obtain ⟨t, h1, h2⟩ := List.mem_map.mp this
          exact ⟨t, h1, h2.symm⟩
        obtain ⟨d, hd, htup⟩ := hrow t ht
        simp only [List.mem_cons, List.not_mem_nil, or_false] at hd
        subst hd
        have g : Good K H' d := V6.good ha
        obtain ⟨ty, bb, ht1, ht2⟩ := g.2
        refine ⟨t, _, rfl, SqT.of htup, rfl, _, _, rfl, _, _, rfl, rfl, ?_⟩
        refine ⟨_, rfl, _, rfl, good_ne g ⟨_, rfl, iteF ?_⟩⟩
        refine ⟨_, rfl, _, rfl, good_ne g ⟨_, rfl, iteF ?_⟩⟩
        refine ⟨_, rfl, _, _, _, _, bb, rfl, .ty _, ht1, ht2, _, rfl, _, _, _, _, bb, rfl, .ty _, ht1, ht2, rfl, _, rfl, ?_⟩
        refine iteNS rfl ?_
        exact ⟨rfl, _, _, rfl⟩
      · rintro σ H' ⟨rfl, w6, w7, rfl⟩
        refine ⟨_, rfl, _, rfl, a, b, rfl, fun H7 q7 sm7 R7 => ?_⟩
        have V7 := V6.same sm7
        have P7 : PenAt H7 p c ns s4 r4 := ⟨sm7 _ _ P6.pd, sm7 _ _ P6.cl⟩
        obtain ⟨us, hus, hrow7⟩ := R7
        refine ⟨q7, rfl, ⟨_, SqL.of hus⟩, for_list (K := K) (a := q7) (xs := us.map V.ref) (fun i σ H' => H' = H7 ∧ ∃ (o6 o8 : Option V), σ = [some (.ref sa), some (.ref p), some (.ref l), some (.int (0 + (i0 : Int))), some a, some b, o6, w7, o8, o9, o10, o11, none, none])
          ⟨rfl, w6, o8, rfl⟩ (fun i σ H' _ ⟨e, _⟩ => by rw [e]; exact SqL.of hus) ?_ ?_⟩
        · rintro j y σ H' hj ⟨rfl, x6, x8, rfl⟩
          obtain ⟨t, ht, rfl⟩ : ∃ t, t ∈ us ∧ y = V.ref t := by
            have := List.mem_of_getElem? hj
            obtain ⟨t, h1, h2⟩ := List.mem_map.mp this
            exact ⟨t, h1, h2.symm⟩
          obtain ⟨d, hd, htup⟩ := hrow7 t ht
          have g : Good K H' d := by
            simp only [List.mem_cons, List.not_mem_nil, or_false] at hd
            rcases hd with rfl | rfl | rfl
            · exact V7.good ha
            · exact V7.good hb
            · exact good7
          obtain ⟨ty, bb, ht1, ht2⟩ := g.2
          refine ⟨t, _, rfl, SqT.of htup, rfl, _, _, rfl, _, _, rfl, rfl, ?_⟩
          refine ⟨_, rfl, _, rfl, good_ne g ⟨_, rfl, iteF ?_⟩⟩
          refine ⟨_, rfl, _, _, _, _, bb, rfl, .ty _, ht1, ht2, _, rfl, _, _, _, _, bb, rfl, .ty _, ht1, ht2, rfl, _, rfl, ?_⟩
          refine iteNS rfl ?_
          exact ⟨rfl, _, _, rfl⟩
        · rintro σ H' ⟨rfl, x6, x8, rfl⟩
          intro e1 n1
          have B1 := Acc.nil.push (o := errO e1 (C 13) none) n1
          intro e2 n2
          have B2 := B1.push (o := errO e2 (C 17) none) n2
          intro e3 n3
          have B3 := B2.push (o := errO e3 (C 26) none) n3
          intro e4 n4
          have B4 := B3.push (o := errO e4 (C 32) none) n4
          intro e5 n5
          have B5 := B4.push (o := errO e5 (C 35) none) n5
          refine ⟨_, rfl, rfl, fun e6 d6 n6 m6 y6 => ?_⟩
          have B6 := B5.push (o := .xd [("field", a)]) m6
          have B7 := B6.push (o := errO e6 (C 2) (some d6)) (up_none n6 y6)
          refine ⟨_, rfl, _, rfl, rfl, fun e7 d7 n7 m7 y7 => ?_⟩
          have B8 := B7.push (o := .xd [("kind", a), ("one", b), ("other", .int 1)]) m7
          have B9 := B8.push (o := errO e7 (C 12) (some d7)) (up_none n7 y7)
          refine ⟨(by show 7 ≤ sizeLine; decide), fun lo hlo => ?_⟩
          have B10 := B9.push (o := .lst [.ref e1, .ref e2, .ref e3, .ref e4, .ref e5, .ref e6, .ref e7]) hlo
          refine ⟨_, rfl, .inl ⟨rfl, _, SqL.of (B10.nth 0 rfl)⟩, _, rfl, rfl, fun e8 d8 n8 m8 y8 => ?_⟩
          have B11 := B10.push (o := .xd [("kind", b)]) m8
          have B12 := B11.push (o := errO e8 (C 6) (some d8)) (up_none n8 y8)
          refine ⟨lo, _, _, rfl, rfl, B12.nth 2 rfl, (by rw [sizeLine_eq]; simp), ?_⟩
          have E8 : Paired (ErrAt K W [.ref (C 13), .ref (C 2), .ref (C 12), .ref (C 26)] _) [.ref e1, .ref e2, .ref e3, .ref e4, .ref e5, .ref e6, .ref e7, .ref e8] bs8 := .cons ⟨e1, C 13, none, rfl, B12.nth 11 rfl, (fun _ z => nomatch z), E.e13.z, E.e13.kw, E.e13.kv, E.a13⟩ (.cons ⟨e2, C 17, none, rfl, B12.nth 10 rfl, (fun _ z => nomatch z), E.e17.z, E.e17.kw, E.e17.kv, E.a17⟩ (.cons ⟨e3, C 26, none, rfl, B12.nth 9 rfl, (fun _ z => nomatch z), E.e26.z, E.e26.kw, E.e26.kv, E.a26⟩ (.cons ⟨e4, C 32, none, rfl, B12.nth 8 rfl, (fun _ z => nomatch z), E.e32.z, E.e32.kw, E.e32.kv, E.a32⟩ (.cons ⟨e5, C 35, none, rfl, B12.nth 7 rfl, (fun _ z => nomatch z), E.e35.z, E.e35.kw, E.e35.kv, E.a35⟩ (.cons ⟨e6, C 2, some d6, rfl, B12.nth 5 rfl, (fun dd z => by cases z; exact ⟨_, B12.nth 6 rfl⟩), E.e2.z, E.e2.kw, E.e2.kv, E.a2⟩ (.cons ⟨e7, C 12, some d7, rfl, B12.nth 3 rfl, (fun dd z => by cases z; exact ⟨_, B12.nth 4 rfl⟩), E.e12.z, E.e12.kw, E.e12.kv, E.a12⟩ (.cons ⟨e8, C 6, some d8, rfl, B12.nth 0 rfl, (fun dd z => by cases z; exact ⟨_, B12.nth 1 rfl⟩), E.e6.z, E.e6.kw, E.e6.kv, E.a6⟩ .nil)))))))
          have E9 := Paired.mapP E8 (fun x y h => ErrAt.keep (H' := (upd (hpOf B12) lo (.lst [.ref e1, .ref e2, .ref e3, .ref e4, .ref e5, .ref e6, .ref e7, .ref e8]))) (B12.nth 2 rfl) (fun b o hb e => by rw [upd_ne hb]; exact e) h)
          have sm9 : Same H' (upd (hpOf B12) lo (.lst [.ref e1, .ref e2, .ref e3, .ref e4, .ref e5, .ref e6, .ref e7, .ref e8])) := fun b o e => by
            rw [upd_ne (ne_of_none (B9.same b o e) hlo)]
            exact B12.same b o e
          have lo9 : (upd (hpOf B12) lo (.lst [.ref e1, .ref e2, .ref e3, .ref e4, .ref e5, .ref e6, .ref e7, .ref e8])) lo = some (.lst [.ref e1, .ref e2, .ref e3, .ref e4, .ref e5, .ref e6, .ref e7, .ref e8]) := upd_same
          have V9 := V7.same sm9
          have P9 : PenAt (upd (hpOf B12) lo (.lst [.ref e1, .ref e2, .ref e3, .ref e4, .ref e5, .ref e6, .ref e7, .ref e8])) p c ns s4 r4 := ⟨sm9 _ _ P7.pd, sm9 _ _ P7.cl⟩
          refine ⟨_, rfl, lo, rfl, ⟨_, SqL.of lo9⟩, for_list (K := K) (a := lo) (xs := [.ref e1, .ref e2, .ref e3, .ref e4, .ref e5, .ref e6, .ref e7, .ref e8]) (fun i σ H'' => H'' = (upd (hpOf B12) lo (.lst [.ref e1, .ref e2, .ref e3, .ref e4, .ref e5, .ref e6, .ref e7, .ref e8])) ∧ ∃ (o10 : Option V), σ = [some (.ref sa), some (.ref p), some (.ref l), some (.int (0 + (i0 : Int))), some a, some b, x6, w7, x8, some (.ref lo), o10, o11, none, none])
            ⟨rfl, o10, rfl⟩ (fun i σ H'' _ ⟨e, _⟩ => by rw [e]; exact SqL.of lo9) ?_ ?_⟩
          · rintro j y σ H'' hj ⟨e9, z10, rfl⟩
            subst e9
            obtain ⟨bj, hbj, a0, C0, d0, rfl, ha0, hd0, Z0, k1, k2, k3⟩ := paired_at E9 hj
            refine ⟨_, rfl, a0, C0, d0, .ref W, _, true, rfl, ha0, hd0, Z0, .own _, k1, _, rfl, iteF ?_⟩
            refine ⟨_, rfl, a0, C0, d0, .ty "ValueError", _, true, rfl, ha0, hd0, Z0, .ty _, k2, _, rfl, iteF ?_⟩
            exact ⟨rfl, _, rfl⟩
          · rintro σ H9 ⟨e9, z10, rfl⟩
            rw [← e9] at E9 lo9 V9 P9
            -- _law_found
            refine ⟨_, rfl, lo, rfl, ⟨_, SqL.of lo9⟩, fun D hD => ?_⟩
            have nlo : lo ≠ D := ne_of_none lo9 hD
            refine lc_list (K := K) (a := lo) (xs := [.ref e1, .ref e2, .ref e3, .ref e4, .ref e5, .ref e6, .ref e7, .ref e8]) (fun i H' => (∀ b o, H9 b = some o → H' b = some o) ∧ H' D = some (.lst ((bs8.take i).map V.bl)))
              ⟨fun b o e => by rw [upd_ne (ne_of_none e hD)]; exact e, upd_same⟩ (fun i H' _ ⟨kp, _⟩ => SqL.of (kp _ _ lo9)) ?_ ?_
            · rintro j x H' hj ⟨kp, hD'⟩
              obtain ⟨bj, hbj, er⟩ := paired_at E9 hj
              obtain ⟨a0, C0, d0, rfl, ha0, hd0, Z0, k1, k2, k3⟩ := er.same (H' := H') kp
              refine ⟨rfl, ?_⟩
              refine ⟨_, rfl, (by show 4 ≤ sizeLine; decide), fun tp htp => ?_⟩
              have up : ∀ (b : Addr) (o u : HO), H' b = some o → (upd H' tp u) b = some o := fun b o u e => by rw [upd_ne (ne_of_none e htp)]; exact e
              refine ⟨a0, C0, d0, tp, _, _, bj, rfl, up _ _ _ ha0, fun dd e => ?_, Z0, upd_same, .cons (.own _) (.cons (.own _) (.cons (.own _) (.cons (.own _) .nil))), k3, _, up _ _ _ hD', ?_, ?_, ?_⟩
              · obtain ⟨fs, hf⟩ := hd0 dd e
                exact ⟨fs, up _ _ _ hf⟩
              · rw [List.length_map, sizeLine_eq]
                have q1 : (bs8.take j).length ≤ bs8.length := by rw [List.length_take]; exact Nat.min_le_right _ _
                have q2 : bs8.length = 8 := rfl
                omega
              · intro b o e
                have nb : b ≠ D := ne_of_none e hD
                rw [upd_ne nb]
                exact up _ _ _ (kp b o e)
              · rw [upd_same, ← take_snoc hbj, List.map_append]
                rfl
            · rintro H' ⟨kp, hD'⟩
              have hD1 : H' D = some (.lst (bs8.map V.bl)) := hD'
              have V10 := V9.same kp
              have P10 : PenAt H' p c ns s4 r4 := ⟨kp _ _ P9.pd, kp _ _ P9.cl⟩
              -- sum
              refine ⟨_, rfl, D, rfl, ⟨_, SqL.of hD1⟩, fun D2 hD2 => ?_⟩
              refine lc_list (K := K) (a := D) (xs := bs8.map V.bl) (fun i H'' => (∀ b o, H' b = some o → H'' b = some o) ∧ H'' D2 = some (.lst (((bs8.map fun b => if b = true then (1 : Int) else 0).take i).map V.int)))
                ⟨fun b o e => by rw [upd_ne (ne_of_none e hD2)]; exact e, upd_same⟩ (fun i H'' _ ⟨kp2, _⟩ => SqL.of (kp2 _ _ hD1)) ?_ ?_
              · rintro j x H'' hj ⟨kp2, hD2'⟩
                rw [List.getElem?_map] at hj
                obtain ⟨bj, hbj, rfl⟩ := Option.map_eq_some_iff.mp hj
                refine ⟨rfl, ?_⟩
                refine ⟨_, rfl, .inr ⟨bj, rfl, _, hD2', ?_, ?_, ?_⟩⟩
                · rw [List.length_map, sizeLine_eq]
                  have q1 : ((bs8.map fun b => if b = true then (1 : Int) else 0).take j).length ≤ (bs8.map fun b => if b = true then (1 : Int) else 0).length := by rw [List.length_take]; exact Nat.min_le_right _ _
                  have e8 : (bs8.map fun b => if b = true then (1 : Int) else 0).length = 8 := rfl
                  omega
                · intro b o e
                  have nb : b ≠ D2 := ne_of_none e hD2
                  rw [upd_ne nb]
                  exact kp2 b o e
                · rw [upd_same, ← take_snoc (xs := bs8.map fun b => if b = true then (1 : Int) else 0) (by rw [List.getElem?_map, hbj]; rfl), List.map_append]
                  rfl
              · rintro H'' ⟨kp2, hD2'⟩
                have hD3 : H'' D2 = some (.lst ((bs8.map fun b => if b = true then (1 : Int) else 0).map V.int)) := hD2'
                refine ⟨D2, _, rfl, SqL.of hD3, rfl, _, rfl, ?_⟩
                refine iteNS rfl ?_
                refine ⟨5, rfl, by decide, by decide, fun D3 hD3' => ?_⟩
                refine lc_range (lo := 0) (n := 5) (fun i H3 => (∀ b o, H'' b = some o → H3 b = some o) ∧ H3 D3 = some (.lst ((List.replicate i true).map V.bl)))
                  ⟨fun b o e => by rw [upd_ne (ne_of_none e hD3')]; exact e, upd_same⟩ ?_ ?_
                · rintro j H3 hj ⟨kp3, hL3⟩
                  refine ⟨rfl, ?_⟩
                  refine ⟨_, rfl, _, rfl, _, _, rfl, fun H4 sm4 => ?_⟩
                  refine ⟨_, sm4 _ _ hL3, ?_, ?_, ?_⟩
                  · rw [List.length_map, List.length_replicate, sizeLine_eq]
                    omega
                  · intro b o e
                    have nb : b ≠ D3 := ne_of_none e hD3'
                    rw [upd_ne nb]
                    exact sm4 _ _ (kp3 b o e)
                  · rw [upd_same, List.replicate_succ', List.map_append]
                    rfl
                · rintro H3 ⟨kp3, hL3⟩
                  refine ⟨D3, _, rfl, SqL.of hL3, _, rfl, iteF ?_⟩
                  refine ⟨s4, r4, _, _, _, _, _, _, _, _, _, rfl, ⟨kp3 _ _ (kp2 _ _ P10.pd), kp3 _ _ (kp2 _ _ P10.cl)⟩, by omega, by omega, ?_⟩
                  exact (V10.same kp2).same kp3
    · rintro σ H2 ⟨spot, rest, o3, o4, o5, o6, o7, o8, o9, o10, o11, rfl, P2, q0, q1, V2⟩
      exact k H2
end
end K00

set_option Elab.async false
set_option linter.all false
set_option maxRecDepth 100000
set_option maxHeartbeats 0
namespace K00
open PySem L2 PySem.GW
def dfs : List He.FnD := [⟨("_law_pen", none), "_law_pen", "_law_pen", defArgs sPen, defBody sPen, defScope sPen⟩, ⟨("_law_draw", none), "_law_draw", "_law_draw", defArgs sDraw, defBody sDraw, defScope sDraw⟩, ⟨("_law_pick", none), "_law_pick", "_law_pick", defArgs sPick, defBody sPick, defScope sPick⟩, ⟨("_law_alone", none), "_law_alone", "_law_alone", defArgs sAlone, defBody sAlone, defScope sAlone⟩, ⟨("_law_more", none), "_law_more", "_law_more", defArgs sMore, defBody sMore, defScope sMore⟩, ⟨("_law_raise", none), "_law_raise", "_law_raise", defArgs sRaise, defBody sRaise, defScope sRaise⟩, ⟨("_law_caught", none), "_law_caught", "_law_caught", defArgs sCaught, defBody sCaught, defScope sCaught⟩, ⟨("law", none), "law", "law", defArgs sLaw, defBody sLaw, defScope sLaw⟩]
def xsL : List Str := (["BadPiece", "BadBook", "BadBud", "HandedOn", "NoKind", "NoMouth", "NoPart", "NoPiece", "NoPlace", "NoBud", "NoTie", "TooMany", "TooFar", "TooLong", "BadNumber", "BadWord", "BadRow", "OutsideRow", "BadLoop", "NotBack"] : List Str) ++ (["BadTimes", "BadTale", "NoSuch", "NotShortest", "NotOnAll", "BadRule", "BadTable", "BadGuard", "Refused"] : List Str)
def ysL : List IniV := ([iniVal (inClass (top 2) 0), iniVal (inClass (top 3) 0), iniVal (inClass (top 4) 0), iniVal (inClass (top 5) 0), iniVal (inClass (top 6) 0), iniVal (inClass (top 7) 0), iniVal (inClass (top 8) 0), iniVal (inClass (top 9) 0), iniVal (inClass (top 10) 0), iniVal (inClass (top 11) 0), iniVal (inClass (top 12) 0), iniVal (inClass (top 14) 0), iniVal (inClass (top 15) 0), iniVal (inClass (top 16) 0), iniVal (inClass (top 18) 0), iniVal (inClass (top 19) 0), iniVal (inClass (top 20) 0), iniVal (inClass (top 21) 0), iniVal (inClass (top 22) 0), iniVal (inClass (top 23) 0)] : List IniV) ++ ([iniVal (inClass (top 24) 0), iniVal (inClass (top 25) 0), iniVal (inClass (top 27) 0), iniVal (inClass (top 28) 0), iniVal (inClass (top 29) 0), iniVal (inClass (top 30) 0), iniVal (inClass (top 31) 0), iniVal (inClass (top 33) 0), iniVal (inClass (top 34) 0)] : List IniV)
def fileN : Str := PySem.Challenge.pw_growwebs_k00_errors_made_by_hand.main.file
def gB (K : PySem.W.Frag) (x : Str) : Bool := He.eqO (PySem.W.nsIn K mainGlobals x) (some (some (.ref (He.ga K x)))) && PySem.W.keepIn K (.ref (He.ga K x))
def nB (K : PySem.W.Frag) (x : Str) : Bool := He.eqO (PySem.W.nsIn K mainGlobals x) (some none)
def fns : List Str := ["_law_pen", "_law_draw", "_law_pick", "_law_alone", "_law_more", "_law_raise", "_law_caught", "law"]
def frees : List Str := ["list", "len", "int", "range", "min", "sum", "all", "isinstance", "bool", "ValueError", "super"]
def xfs : List (Str × List Str) := ([("BadPiece", ["field"]), ("BadBook", ["kind"]), ("BadBud", ["kind", "number"]), ("HandedOn", ["ring"]), ("NoKind", ["kind"]), ("NoMouth", ["kind", "letter"]), ("NoPart", ["kind", "part"]), ("NoPiece", ["row"]), ("NoPlace", ["told"]), ("NoBud", ["kind", "number"]), ("NoTie", ["kind", "one", "other"]), ("TooMany", ["most"]), ("TooFar", ["number"]), ("TooLong", ["length"]), ("BadNumber", ["value"]), ("BadWord", ["value"]), ("BadRow", ["index"]), ("OutsideRow", ["number"]), ("BadLoop", ["field"]), ("NotBack", ["kind", "other"])] : List (Str × List Str)) ++ ([("BadTimes", ["field"]), ("BadTale", ["field"]), ("NoSuch", ["number"]), ("NotShortest", ["way"]), ("NotOnAll", ["value"]), ("BadRule", ["value"]), ("BadTable", ["key"]), ("BadGuard", ["value"]), ("Refused", ["guard"])] : List (Str × List Str))
def zs : List Str := ["OtherBook", "TooGreat", "NotJoined", "Endless", "NothingToUndo"]
def kas : List (Str × Bool) := [("OtherBook", true), ("TooGreat", false), ("NotJoined", true), ("Endless", false), ("NothingToUndo", false), ("BadPiece", true), ("NoTie", true), ("NoKind", false)]
def fb (K : PySem.W.Frag) : Bool := (fns.all fun x => gB K x) && ((frees.all fun x => nB K x) && (gB K "WebError" && (He.eqO (PySem.W.nsIn K cStatics "thirdparty.any") (some none) && ((xfs.all fun p => xB fileN K p.1 p.2) && ((zs.all fun x => zB K x) && (kas.all fun p => decide (PySem.W.kitAny K (.ref (He.ga K p.1)) [.ref (He.ga K "OtherBook"), .ref (He.ga K "BadPiece"), .ref (He.ga K "NoTie"), .ref (He.ga K "NotJoined")] = some p.2)))))))
abbrev R : PySem.W.OpenRow := PySem.W.OpenLaw.row PySem.Challenge.rw_growwebs_k00_errors_made_by_hand
def hk : PySem.W.Hook := hook2 4 fb dfs xsL ysL
def ob (s : PySem.W.SharedT) : Al2 := obs2G 4 fb dfs xsL (HandSHeadRun.getT s)
theorem ob_eq (s : PySem.W.SharedT) : ob s = hk.obs s.abs := obs2G_eq (HandSHeadRun.getT_eq s)
def loose : List Str := (["WebError", "BadPiece", "BadBook", "BadBud", "HandedOn", "NoKind", "NoMouth", "NoPart", "NoPiece", "NoPlace", "NoBud", "NoTie", "OtherBook", "TooMany", "TooFar", "TooLong", "TooGreat", "BadNumber", "BadWord", "BadRow"] : List Str) ++ (["OutsideRow", "BadLoop", "NotBack", "BadTimes", "BadTale", "NotJoined", "NoSuch", "NotShortest", "NotOnAll", "BadRule", "BadTable", "Endless", "BadGuard", "Refused", "NothingToUndo", "_law_pen", "_law_draw", "_law_pick", "_law_alone", "_law_more"] : List Str) ++ (["_law_raise", "_law_caught"] : List Str)
theorem run (w : World) : HandSHeadRun.RunEq R (PySem.W.view R.prog [44]) hk ob 20000 loose w := by
  intro os
  kernel_rfl
end K00
set_option Elab.async false
set_option linter.all false
set_option maxRecDepth 100000
set_option maxHeartbeats 0
namespace K00
open PySem L2 PySem.GW
theorem ptop : (PySem.Challenge.pw_growwebs_k00_errors_made_by_hand.main.scope.names.lookup (Str.ofString "super")).isSome = false := by decide +kernel
theorem all_at {α : Type} {p : α → Bool} {xs : List α} (h : xs.all p = true) (i : Nat) {x : α} (hx : xs[i]? = some x) : p x = true := List.all_eq_true.mp h x (List.mem_of_getElem? hx)
/-- where the classes and their __init__ stand -/
def cN : List Str := (["", "WebError", "BadPiece", "BadBook", "BadBud", "HandedOn", "NoKind", "NoMouth", "NoPart", "NoPiece", "NoPlace", "NoBud", "NoTie", "OtherBook", "TooMany", "TooFar", "TooLong", "TooGreat", "BadNumber", "BadWord"] : List Str) ++ (["BadRow", "OutsideRow", "BadLoop", "NotBack", "BadTimes", "BadTale", "NotJoined", "NoSuch", "NotShortest", "NotOnAll", "BadRule", "BadTable", "Endless", "BadGuard", "Refused", "NothingToUndo"] : List Str)
theorem facts {w : World} {K : PySem.W.Frag} {h : Heap} {mg : Str → Option Value} {f : Addr} (X : K.In h) (G : h.Ns mainGlobals mg) (hfa : mg ("law" : Str) = some (.ref f)) (c : Says2 fb dfs xsL ysL K) :
    ∃ fd : FuncData, (∀ (s : Shared) (v : Value), BindsTo s fd ⟨[v], []⟩ [("_law_script", v)]) ∧ ∀ base : Heap, K.In base → base.Ns mainGlobals mg → FnOk PySem.Challenge.pw_growwebs_k00_errors_made_by_hand w K mg base CX0 8 f fd ["_law_script"] (spLaw K) := by
  have a := c.all
  unfold fb at a
  simp only [Bool.and_eq_true] at a
  obtain ⟨aF, aN, aW, aO, aX, aZ, aK⟩ := a
  have gl : ∀ {x : Str}, gB K x = true → mg x = some (.ref (He.ga K x)) ∧ PySem.W.keepIn K (.ref (He.ga K x)) = true := fun {x} q => by
    unfold gB at q
    simp only [Bool.and_eq_true] at q
    exact ⟨PySem.W.mg_of X G (He.eqO_ok q.1), q.2⟩
  have fr : ∀ (i : Nat) {x : Str}, frees[i]? = some x → mg x = none := fun i {x} q => PySem.W.mg_none_of X G (He.eqO_ok (all_at aN i q))
  have opq := He.eqO_ok aO
  obtain ⟨oc0, od0, osl0, kV0, doc0, pm0, an0, cdv0, ct0, lk0, cd0⟩ := c.def_ 0 (d := ⟨("_law_pen", none), "_law_pen", "_law_pen", defArgs sPen, defBody sPen, defScope sPen⟩) rfl
  have g0 := gl (all_at aF 0 (x := "_law_pen") rfl)
  have F0 := fun_mk (st := sPen) lk0 cd0 g0.2
  obtain ⟨oc1, od1, osl1, kV1, doc1, pm1, an1, cdv1, ct1, lk1, cd1⟩ := c.def_ 1 (d := ⟨("_law_draw", none), "_law_draw", "_law_draw", defArgs sDraw, defBody sDraw, defScope sDraw⟩) rfl
  have g1 := gl (all_at aF 1 (x := "_law_draw") rfl)
  have F1 := fun_mk (st := sDraw) lk1 cd1 g1.2
  obtain ⟨oc2, od2, osl2, kV2, doc2, pm2, an2, cdv2, ct2, lk2, cd2⟩ := c.def_ 2 (d := ⟨("_law_pick", none), "_law_pick", "_law_pick", defArgs sPick, defBody sPick, defScope sPick⟩) rfl
  have g2 := gl (all_at aF 2 (x := "_law_pick") rfl)
  have F2 := fun_mk (st := sPick) lk2 cd2 g2.2
  obtain ⟨oc3, od3, osl3, kV3, doc3, pm3, an3, cdv3, ct3, lk3, cd3⟩ := c.def_ 3 (d := ⟨("_law_alone", none), "_law_alone", "_law_alone", defArgs sAlone, defBody sAlone, defScope sAlone⟩) rfl
  have g3 := gl (all_at aF 3 (x := "_law_alone") rfl)
  have F3 := fun_mk (st := sAlone) lk3 cd3 g3.2
  obtain ⟨oc4, od4, osl4, kV4, doc4, pm4, an4, cdv4, ct4, lk4, cd4⟩ := c.def_ 4 (d := ⟨("_law_more", none), "_law_more", "_law_more", defArgs sMore, defBody sMore, defScope sMore⟩) rfl
  have g4 := gl (all_at aF 4 (x := "_law_more") rfl)
  have F4 := fun_mk (st := sMore) lk4 cd4 g4.2
  obtain ⟨oc5, od5, osl5, kV5, doc5, pm5, an5, cdv5, ct5, lk5, cd5⟩ := c.def_ 5 (d := ⟨("_law_raise", none), "_law_raise", "_law_raise", defArgs sRaise, defBody sRaise, defScope sRaise⟩) rfl
  have g5 := gl (all_at aF 5 (x := "_law_raise") rfl)
  have F5 := fun_mk (st := sRaise) lk5 cd5 g5.2
  obtain ⟨oc6, od6, osl6, kV6, doc6, pm6, an6, cdv6, ct6, lk6, cd6⟩ := c.def_ 6 (d := ⟨("_law_caught", none), "_law_caught", "_law_caught", defArgs sCaught, defBody sCaught, defScope sCaught⟩) rfl
  have g6 := gl (all_at aF 6 (x := "_law_caught") rfl)
  have F6 := fun_mk (st := sCaught) lk6 cd6 g6.2
  obtain ⟨oc7, od7, osl7, kV7, doc7, pm7, an7, cdv7, ct7, lk7, cd7⟩ := c.def_ 7 (d := ⟨("law", none), "law", "law", defArgs sLaw, defBody sLaw, defScope sLaw⟩) rfl
  have g7 := gl (all_at aF 7 (x := "law") rfl)
  have F7 := fun_mk (st := sLaw) lk7 cd7 g7.2
  have T : TxtL mg := ⟨fr 0 rfl, fr 1 rfl, fr 2 rfl, fr 3 rfl, fr 4 rfl, fr 5 rfl, fr 6 rfl, fr 7 rfl, fr 8 rfl, fr 9 rfl⟩
  have TA : TxtA mg := ⟨fr 0 rfl, fr 1 rfl, fr 2 rfl⟩
  have E : Errs PySem.Challenge.pw_growwebs_k00_errors_made_by_hand K mg (He.ga K "WebError") (fun i => He.ga K (cN.getD i "")) (fun i => He.ma K (He.ga K (cN.getD i "")) "__init__") := {
    gw := (gl aW).1,
    e2 := xB_ok (P := PySem.Challenge.pw_growwebs_k00_errors_made_by_hand) (l := fl2) X G (all_at aX 0 (x := ("BadPiece", ["field"])) rfl) (c.ini 0 rfl rfl) ini2 (fr 10 rfl) opq ptop,
    e3 := xB_ok (P := PySem.Challenge.pw_growwebs_k00_errors_made_by_hand) (l := fl3) X G (all_at aX 1 (x := ("BadBook", ["kind"])) rfl) (c.ini 1 rfl rfl) ini3 (fr 10 rfl) opq ptop,
    e4 := xB_ok (P := PySem.Challenge.pw_growwebs_k00_errors_made_by_hand) (l := fl4) X G (all_at aX 2 (x := ("BadBud", ["kind", "number"])) rfl) (c.ini 2 rfl rfl) ini4 (fr 10 rfl) opq ptop,
    e5 := xB_ok (P := PySem.Challenge.pw_growwebs_k00_errors_made_by_hand) (l := fl5) X G (all_at aX 3 (x := ("HandedOn", ["ring"])) rfl) (c.ini 3 rfl rfl) ini5 (fr 10 rfl) opq ptop,
    e6 := xB_ok (P := PySem.Challenge.pw_growwebs_k00_errors_made_by_hand) (l := fl6) X G (all_at aX 4 (x := ("NoKind", ["kind"])) rfl) (c.ini 4 rfl rfl) ini6 (fr 10 rfl) opq ptop,
    e7 := xB_ok (P := PySem.Challenge.pw_growwebs_k00_errors_made_by_hand) (l := fl7) X G (all_at aX 5 (x := ("NoMouth", ["kind", "letter"])) rfl) (c.ini 5 rfl rfl) ini7 (fr 10 rfl) opq ptop,
    e8 := xB_ok (P := PySem.Challenge.pw_growwebs_k00_errors_made_by_hand) (l := fl8) X G (all_at aX 6 (x := ("NoPart", ["kind", "part"])) rfl) (c.ini 6 rfl rfl) ini8 (fr 10 rfl) opq ptop,
    e9 := xB_ok (P := PySem.Challenge.pw_growwebs_k00_errors_made_by_hand) (l := fl9) X G (all_at aX 7 (x := ("NoPiece", ["row"])) rfl) (c.ini 7 rfl rfl) ini9 (fr 10 rfl) opq ptop,
    e10 := xB_ok (P := PySem.Challenge.pw_growwebs_k00_errors_made_by_hand) (l := fl10) X G (all_at aX 8 (x := ("NoPlace", ["told"])) rfl) (c.ini 8 rfl rfl) ini10 (fr 10 rfl) opq ptop,
    e11 := xB_ok (P := PySem.Challenge.pw_growwebs_k00_errors_made_by_hand) (l := fl11) X G (all_at aX 9 (x := ("NoBud", ["kind", "number"])) rfl) (c.ini 9 rfl rfl) ini11 (fr 10 rfl) opq ptop,
    e12 := xB_ok (P := PySem.Challenge.pw_growwebs_k00_errors_made_by_hand) (l := fl12) X G (all_at aX 10 (x := ("NoTie", ["kind", "one", "other"])) rfl) (c.ini 10 rfl rfl) ini12 (fr 10 rfl) opq ptop,
    e13 := zB_ok X G (all_at aZ 0 rfl),
    e14 := xB_ok (P := PySem.Challenge.pw_growwebs_k00_errors_made_by_hand) (l := fl14) X G (all_at aX 11 (x := ("TooMany", ["most"])) rfl) (c.ini 11 rfl rfl) ini14 (fr 10 rfl) opq ptop,
    e15 := xB_ok (P := PySem.Challenge.pw_growwebs_k00_errors_made_by_hand) (l := fl15) X G (all_at aX 12 (x := ("TooFar", ["number"])) rfl) (c.ini 12 rfl rfl) ini15 (fr 10 rfl) opq ptop,
    e16 := xB_ok (P := PySem.Challenge.pw_growwebs_k00_errors_made_by_hand) (l := fl16) X G (all_at aX 13 (x := ("TooLong", ["length"])) rfl) (c.ini 13 rfl rfl) ini16 (fr 10 rfl) opq ptop,
    e17 := zB_ok X G (all_at aZ 1 rfl),
    e18 := xB_ok (P := PySem.Challenge.pw_growwebs_k00_errors_made_by_hand) (l := fl18) X G (all_at aX 14 (x := ("BadNumber", ["value"])) rfl) (c.ini 14 rfl rfl) ini18 (fr 10 rfl) opq ptop,
    e19 := xB_ok (P := PySem.Challenge.pw_growwebs_k00_errors_made_by_hand) (l := fl19) X G (all_at aX 15 (x := ("BadWord", ["value"])) rfl) (c.ini 15 rfl rfl) ini19 (fr 10 rfl) opq ptop,
    e20 := xB_ok (P := PySem.Challenge.pw_growwebs_k00_errors_made_by_hand) (l := fl20) X G (all_at aX 16 (x := ("BadRow", ["index"])) rfl) (c.ini 16 rfl rfl) ini20 (fr 10 rfl) opq ptop,
    e21 := xB_ok (P := PySem.Challenge.pw_growwebs_k00_errors_made_by_hand) (l := fl21) X G (all_at aX 17 (x := ("OutsideRow", ["number"])) rfl) (c.ini 17 rfl rfl) ini21 (fr 10 rfl) opq ptop,
    e22 := xB_ok (P := PySem.Challenge.pw_growwebs_k00_errors_made_by_hand) (l := fl22) X G (all_at aX 18 (x := ("BadLoop", ["field"])) rfl) (c.ini 18 rfl rfl) ini22 (fr 10 rfl) opq ptop,
    e23 := xB_ok (P := PySem.Challenge.pw_growwebs_k00_errors_made_by_hand) (l := fl23) X G (all_at aX 19 (x := ("NotBack", ["kind", "other"])) rfl) (c.ini 19 rfl rfl) ini23 (fr 10 rfl) opq ptop,
    e24 := xB_ok (P := PySem.Challenge.pw_growwebs_k00_errors_made_by_hand) (l := fl24) X G (all_at aX 20 (x := ("BadTimes", ["field"])) rfl) (c.ini 20 rfl rfl) ini24 (fr 10 rfl) opq ptop,
    e25 := xB_ok (P := PySem.Challenge.pw_growwebs_k00_errors_made_by_hand) (l := fl25) X G (all_at aX 21 (x := ("BadTale", ["field"])) rfl) (c.ini 21 rfl rfl) ini25 (fr 10 rfl) opq ptop,
    e26 := zB_ok X G (all_at aZ 2 rfl),
    e27 := xB_ok (P := PySem.Challenge.pw_growwebs_k00_errors_made_by_hand) (l := fl27) X G (all_at aX 22 (x := ("NoSuch", ["number"])) rfl) (c.ini 22 rfl rfl) ini27 (fr 10 rfl) opq ptop,
    e28 := xB_ok (P := PySem.Challenge.pw_growwebs_k00_errors_made_by_hand) (l := fl28) X G (all_at aX 23 (x := ("NotShortest", ["way"])) rfl) (c.ini 23 rfl rfl) ini28 (fr 10 rfl) opq ptop,
    e29 := xB_ok (P := PySem.Challenge.pw_growwebs_k00_errors_made_by_hand) (l := fl29) X G (all_at aX 24 (x := ("NotOnAll", ["value"])) rfl) (c.ini 24 rfl rfl) ini29 (fr 10 rfl) opq ptop,
    e30 := xB_ok (P := PySem.Challenge.pw_growwebs_k00_errors_made_by_hand) (l := fl30) X G (all_at aX 25 (x := ("BadRule", ["value"])) rfl) (c.ini 25 rfl rfl) ini30 (fr 10 rfl) opq ptop,
    e31 := xB_ok (P := PySem.Challenge.pw_growwebs_k00_errors_made_by_hand) (l := fl31) X G (all_at aX 26 (x := ("BadTable", ["key"])) rfl) (c.ini 26 rfl rfl) ini31 (fr 10 rfl) opq ptop,
    e32 := zB_ok X G (all_at aZ 3 rfl),
    e33 := xB_ok (P := PySem.Challenge.pw_growwebs_k00_errors_made_by_hand) (l := fl33) X G (all_at aX 27 (x := ("BadGuard", ["value"])) rfl) (c.ini 27 rfl rfl) ini33 (fr 10 rfl) opq ptop,
    e34 := xB_ok (P := PySem.Challenge.pw_growwebs_k00_errors_made_by_hand) (l := fl34) X G (all_at aX 28 (x := ("Refused", ["guard"])) rfl) (c.ini 28 rfl rfl) ini34 (fr 10 rfl) opq ptop,
    e35 := zB_ok X G (all_at aZ 4 rfl),
    a13 := of_decide_eq_true (all_at aK 0 rfl),
    a17 := of_decide_eq_true (all_at aK 1 rfl),
    a26 := of_decide_eq_true (all_at aK 2 rfl),
    a32 := of_decide_eq_true (all_at aK 3 rfl),
    a35 := of_decide_eq_true (all_at aK 4 rfl),
    a2 := of_decide_eq_true (all_at aK 5 rfl),
    a12 := of_decide_eq_true (all_at aK 6 rfl),
    a6 := of_decide_eq_true (all_at aK 7 rfl) }
  have b0 := F0.binds (ps := ["_law_script"]) fun _ _ _ _ _ _ us hl => match us, hl with | [_], _ => rfl
  have b1 := F1.binds (ps := ["_law_pen_here", "_law_many"]) fun _ _ _ _ _ _ us hl => match us, hl with | [_, _], _ => rfl
  have b2 := F2.binds (ps := ["_law_pen_here", "_law_items"]) fun _ _ _ _ _ _ us hl => match us, hl with | [_, _], _ => rfl
  have b3 := F3.binds (ps := ["_law_a"]) fun _ _ _ _ _ _ us hl => match us, hl with | [_], _ => rfl
  have b4 := F4.binds (ps := ["_law_a", "_law_b"]) fun _ _ _ _ _ _ us hl => match us, hl with | [_, _], _ => rfl
  have b5 := F5.binds (ps := ["_law_which", "_law_a"]) fun _ _ _ _ _ _ us hl => match us, hl with | [_, _], _ => rfl
  have b6 := F6.binds (ps := ["_law_which", "_law_a"]) fun _ _ _ _ _ _ us hl => match us, hl with | [_, _], _ => rfl
  have b7 := F7.binds (ps := ["_law_script"]) fun _ _ _ _ _ _ us hl => match us, hl with | [_], _ => rfl
  have e := hfa.symm.trans g7.1
  cases e
  refine ⟨PySem.W.fnOf "law" "law" (defArgs sLaw) (defBody sLaw) (defScope sLaw) .none kV7 doc7 pm7 an7 cdv7 ct7, fun s v => .of_eq rfl, fun base _ _ => ?_⟩
  have G0 := ok_pen (P := PySem.Challenge.pw_growwebs_k00_errors_made_by_hand) (w := w) (base := base) F0 TA
  have G1 := ok_draw (P := PySem.Challenge.pw_growwebs_k00_errors_made_by_hand) (w := w) (base := base) F1 TA
  have G2 := ok_pick F2 TA G1 g1.1 g1.2 b1
  have G3 := ok_alone (w := w) (base := base) F3 E
  have G4 := ok_more (w := w) (base := base) F4 E
  have G5 := ok_raise (w := w) (base := base) F5 E
  have G6 := ok_caught F6 E G5 g5.1 g5.2 b5
  exact ok_law F7 T E ⟨g0.1, g1.1, g2.1, g3.1, g4.1, g6.1, g0.2, g1.2, g2.2, g3.2, g4.2, g6.2, b0, b1, b2, b3, b4, b6⟩ G0 G2 G3 G4 G6
end K00
open PySem PySem.W PySem.Calls PyProof.Rows
set_option maxRecDepth 100000 in
set_option maxHeartbeats 0 in
theorem PySem.Challenge.cw_growwebs_k00_errors_made_by_hand_holds : PySem.Challenge.rw_growwebs_k00_errors_made_by_hand.Holds := by
  w_on; o_law
  refine HandSHeadRun.head_any (r := OpenLaw.row PySem.Challenge.rw_growwebs_k00_errors_made_by_hand) (q := view (OpenLaw.row PySem.Challenge.rw_growwebs_k00_errors_made_by_hand).prog [44]) (H := K00.hk) (ob := K00.ob) (M := 20000) (loose := K00.loose) (d := HandSHeadRun.topDef (OpenLaw.row PySem.Challenge.rw_growwebs_k00_errors_made_by_hand).prog 44) (kwd := []) K00.ob_eq
    (by kernel_rfl) (fun s => by kernel_rfl) K00.run (by kernel_rfl) (by kernel_rfl) (by kernel_rfl) (by rfl) (by first | assumption | decide +kernel) (by decide +kernel) ⟨rfl, rfl, rfl, rfl, rfl, by decide +kernel⟩ ?hw ?hc
  case hw => w_witness2
  case hc =>
    refine L2.walk_ofE (l := PySem.Challenge.rw_growwebs_k00_errors_made_by_hand) (n := 63) (k := 8) (x := "_law_script") (CX := L2.CX0) rfl (by decide) (by kernel_rfl) ⟨rfl, by decide, by decide⟩ ?F (fun _ _ _ _ z => z)
    intro w mg fa h Y G hmg0
    obtain ⟨K, KX, c⟩ := Y
    have hmg : mg ("law" : PySem.Str) = some (.ref fa) := by
      have e : (HandSHeadRun.topDef (OpenLaw.row PySem.Challenge.rw_growwebs_k00_errors_made_by_hand).prog 44).name = ("law" : PySem.Str) := by kernel_rfl
      rw [← e]
      exact hmg0
    obtain ⟨fd, hb, hF⟩ := K00.facts (w := w) KX G hmg c
    exact ⟨K, fd, K00.spLaw K, KX, hb, fun H a ns hl _ hS => ⟨a, ns, rfl, hS, hl, fun _ => rfl⟩, hF⟩
