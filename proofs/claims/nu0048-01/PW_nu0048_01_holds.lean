import PyProof.Rows.All
import Wide.All
import OpenK.AllK
import Wide.FinOn
import Lean
import PySem.Challenge.RW_nu0048_01
set_option Elab.async false

section
open PySem PySem.W PyProof.Rows
namespace Mine
set_option maxRecDepth 100000 in
set_option maxHeartbeats 8000000 in
open_top hd for PySem.Challenge.rw_nu0048_01
end Mine
end

section
open PySem PySem.W PySem.Calls PyProof.Rows
namespace Mine

/-- what a call needs of the place where it is made; n: how many calls deep it may still go -/
structure Cal (w : World) (A : Around) (base : Heap) (outer : List Env) (g : Heap) (n : Nat) : Prop where
  below : Below A base outer g
  XB : (hd.heap_39 w.params).In base
  T : ∃ loose mean mg mb, Top topProg loose mean mg mb base
  D : KtsDicts (outer.filterMap (·.frame)) g
  depth : A.depth + n ≤ 900
  units : A.units + 3 * n ≤ 9000
  handled : A.handled = none

theorem Cal.X {w : World} {A : Around} {base g : Heap} {outer : List Env} {n : Nat} (C : Cal w A base outer g n) : (hd.heap_39 w.params).In g := C.XB.keeps C.below.stays
theorem dicts_push {g h : Heap} {outer : List Env} {L : Addr} {m : Str → Option Value} {env : Env} (D : KtsDicts (outer.filterMap (·.frame)) g) (hL : h.Ns L m) (k : ∀ b o, g.get? b = some o → h.get? b = some o) (hf : env.frame = some L) :
    KtsDicts ((env :: outer).filterMap (·.frame)) h := by
  intro b hb
  rw [List.filterMap_cons_some hf] at hb
  rcases List.mem_cons.mp hb with rfl | hb
  · obtain ⟨o, es, ep, ho, hd, _⟩ := hL
    exact ⟨o, es, ep, ho, hd⟩
  · obtain ⟨o, es, n, ho, hd⟩ := D b hb
    exact ⟨o, es, n, k _ _ ho, hd⟩
theorem Cal.grow {w : World} {A : Around} {base g g' : Heap} {outer : List Env} {n : Nat} (C : Cal w A base outer g n) (k : ∀ b o, g.get? b = some o → g'.get? b = some o) : Cal w A base outer g' n := by
  obtain ⟨B, X, T, D, hd, hu, hh⟩ := C
  refine ⟨⟨B.stack, fun b o e => k _ _ (B.stays b o e), B.frames.of_keeps fun b o e _ => ⟨o, k _ _ e, rfl⟩⟩, X, T, fun b hb => ?_, hd, hu, hh⟩
  obtain ⟨o, es, n, ho, hd⟩ := D b hb
  exact ⟨o, es, n, k _ _ ho, hd⟩
theorem Cal.le {w : World} {A : Around} {base g : Heap} {outer : List Env} {n n' : Nat} (C : Cal w A base outer g n) (h : n' ≤ n) : Cal w A base outer g n' := by
  obtain ⟨B, X, T, D, hd, hu, hh⟩ := C
  exact ⟨B, X, T, D, by omega, by omega, hh⟩
/-- within the making of an object -/
theorem Cal.make {w : World} {A : Around} {base g : Heap} {outer : List Env} {n : Nat} {C : Addr} {vs : List Value} (K : Cal w A base outer g (n + 1)) : Cal w (A.under (.builtin "type.__call__" ⟨.ref C :: vs, []⟩)) base outer g n := by
  obtain ⟨B, X, T, D, hd, hu, hh⟩ := K
  refine ⟨⟨B.stack, B.stays, B.frames⟩, X, T, D, ?_, ?_, hh⟩
  · show A.depth + 1 + n ≤ 900; omega
  · show A.units + 1 + 3 * n ≤ 9000; omega
theorem Cal.deeper {w : World} {A : Around} {base g h : Heap} {outer : List Env} {n : Nat} {L : Addr} {m : Str → Option Value} {env : Env} (C : Cal w A base outer g (n + 1)) (F : Fr g L h m)
    (hf : env.frame = some L) (hk : env.scope.kind = .function) : Cal w (A.deeper env) base (env :: outer) h n := by
  obtain ⟨B, X, T, D, hd, hu, hh⟩ := C
  refine ⟨pushX B F hf hk, X, T, dicts_push D F.ns F.keep hf, ?_, ?_, hh⟩
  · show A.depth + 1 + n ≤ 900; omega
  · show A.units + 3 + 3 * n ≤ 9000; omega

/-- the same, one object of the maker's hidden -/
theorem Cal.hid {w : World} {A : Around} {base g : Heap} {s : Shared} {outer : List Env} {n : Nat} {L l : Addr} {m : Str → Option Value} {env : Env} {o : Obj} {news : List (Addr × Obj)} (C : Cal w A base outer g (n + 1)) (F : Fr g L s.heap m)
    (N : News g L s.heap news) (hl : (l, o) ∈ news) (hf : env.frame = some L) (hk : env.scope.kind = .function) : Cal w (A.deeper env) base (env :: outer) (hideAll s.heap [l]) n := by
  obtain ⟨B, X, T, D, hd, hu, hh⟩ := C
  have N1 : News g L s.heap [(l, o)] := fun p hp => by cases hp with | head => exact N _ hl | tail _ h => cases h
  obtain ⟨FG, BG, st, _⟩ := groundX (A := A.deeper env) (R := fun _ _ => True) B F N1 (Around.frames_deeper B.stack) hf hk
  refine ⟨BG, X, T, dicts_push D FG.ns st hf, ?_, ?_, hh⟩
  · show A.depth + 1 + n ≤ 900; omega
  · show A.units + 3 + 3 * n ≤ 9000; omega

/-- a call of a plain def, its base the whole heap as it stands -/
theorem open_def {prog : Program} {w : World} {A : Around} {base : Heap} {outer : List Env} {s : Shared} {n : Nat}
    {R : Result → Shared → Prop} {name qual : Str} {params : Arguments} {body : List Stmt} {scope : Scope} {dV kV doc pm cdv ct oc : Value} {an od : Option Addr} {osl : Array (Option Value)} {f : Addr} {args : Args} {binds : List (Str × Value)}
    (C : Cal w A base outer s.heap (n + 1))
    (ho : (hd.heap_39 w.params).lookup f = some ⟨oc, od, .func (fnOf name qual params body scope dV kV doc pm an cdv ct), osl⟩) (hcd : codeIn (hd.heap_39 w.params) cdv qual = true)
    (hbind : BindsTo s (fnOf name qual params body scope dV kV doc pm an cdv ct) args binds) (hloc : ∀ y ∈ binds, scope.names.lookup y.1 = some .local)
    (h : ∀ L' h₁, Fr s.heap L' h₁ (fun y => binds.reverse.lookup y) → News s.heap L' h₁ [] →
      wpAny (model prog w) (A.deeper (envOf qual scope L' f cdv)) (execs body (envOf qual scope L' f cdv))
        (fun fl s' => R (.ok (.ret (match fl with | .ret v => v | _ => .none))) s')
        (fun e s' => wpAny (model prog w) (A.deeper (envOf qual scope L' f cdv)) (leaving (envOf qual scope L' f cdv) e) (fun _ s'' => R (.error e) s'') (fun e' s'' => R (.error e') s'') s')
        { s with heap := h₁, toks := s.toks + binds.length })
    (hco : scope.isCoroutine = false) (hgen : scope.isGenerator = false) (hk : scope.kind = .function)
    (hcell : ∀ x ∈ scope.names, x.2 ≠ .cell) : codeAny (model prog w) A (.call (.ref f) args) R s := by
  have X := C.X
  obtain ⟨B, _, ⟨_, _, _, _, T⟩, _, hd, _, _⟩ := C
  have T := T.keeps B.stays
  refine codeAny_call_def (fd := fnOf name qual params body scope dV kV doc pm an cdv ct) (body := body) (binds := binds) (by show A.depth < 1000; omega) (X _ _ ho) rfl T.nolimit (codeRec_of X hcd) rfl hbind hcell hloc (fun h₁ hns hk₁ => ?_) hco hgen hk
  exact h _ h₁ ⟨hns, hk₁, Nat.le_refl _⟩ News.nil

/-- the same, one object of the maker's hidden: the one that the call may change -/
theorem open_hid {prog : Program} {w : World} {A : Around} {base : Heap} {outer : List Env} {s : Shared} {n : Nat} {l : Addr} {o : Obj}
    {R : Result → Shared → Prop} {name qual : Str} {params : Arguments} {body : List Stmt} {scope : Scope} {dV kV doc pm cdv ct oc : Value} {an od : Option Addr} {osl : Array (Option Value)} {f : Addr} {args : Args} {binds : List (Str × Value)}
    (C : Cal w A base outer (hideAll s.heap [l]) (n + 1)) (hh : s.heap.get? l = some o)
    (ho : (hd.heap_39 w.params).lookup f = some ⟨oc, od, .func (fnOf name qual params body scope dV kV doc pm an cdv ct), osl⟩) (hcd : codeIn (hd.heap_39 w.params) cdv qual = true)
    (hbind : BindsTo s (fnOf name qual params body scope dV kV doc pm an cdv ct) args binds) (hloc : ∀ y ∈ binds, scope.names.lookup y.1 = some .local)
    (h : ∀ L' h₁, Fr (hideAll s.heap [l]) L' h₁ (fun y => binds.reverse.lookup y) → News (hideAll s.heap [l]) L' h₁ [(l, o)] → 
      wpAny (model prog w) (A.deeper (envOf qual scope L' f cdv)) (execs body (envOf qual scope L' f cdv))
        (fun fl s' => R (.ok (.ret (match fl with | .ret v => v | _ => .none))) s')
        (fun e s' => wpAny (model prog w) (A.deeper (envOf qual scope L' f cdv)) (leaving (envOf qual scope L' f cdv) e) (fun _ s'' => R (.error e) s'') (fun e' s'' => R (.error e') s'') s')
        { s with heap := h₁, toks := s.toks + binds.length })
    (hco : scope.isCoroutine = false) (hgen : scope.isGenerator = false) (hk : scope.kind = .function)
    (hcell : ∀ x ∈ scope.names, x.2 ≠ .cell) : codeAny (model prog w) A (.call (.ref f) args) R s := by
  have X := C.X
  obtain ⟨B, _, ⟨_, _, _, _, T⟩, _, hd, _, _⟩ := C
  have T := T.keeps B.stays
  have up : ∀ b o, (hideAll s.heap [l]).get? b = some o → s.heap.get? b = some o := fun b o e => of_hideAll _ e
  refine codeAny_call_def (fd := fnOf name qual params body scope dV kV doc pm an cdv ct) (body := body) (binds := binds) (by show A.depth < 1000; omega) (up _ _ (X _ _ ho)) rfl (T.nolimit.keeps up) (codeRec_of (X.keeps up) hcd) rfl hbind hcell hloc (fun h₁ hns hk₁ => ?_) hco hgen hk
  refine h _ h₁ ⟨hns, fun b o e => hk₁ b o (up b o e), Nat.le_of_eq (hideAll_size _ _)⟩ (fun p hp => ?_)
  cases hp with
  | head => exact ⟨hk₁ _ _ hh, Nat.ne_of_lt (Heap.lt_size hh), hideAll_none _ (.head _)⟩
  | tail _ h => cases h

/-- names' values written into the frame's map -/
theorem pinE {m m₀ : Str → Option Value} (hm : m = m₀) {x : Str} {v : Value} (e : m₀ x = some v) : (fun y => if y = x then some v else m y) = m₀ := by
  funext y
  by_cases hy : y = x
  · subst hy; simp [e]
  · simp [hy, hm]
theorem pinF {h₀ h : Heap} {L : Addr} {m m₀ : Str → Option Value} (F : Fr h₀ L h m₀) (e : m = m₀) : Fr h₀ L h m := by rw [e]; exact F
/-- what is kept: all but the one hidden -/
theorem kept_hid {h h' : Heap} {L l : Addr} {m : Str → Option Value} (F : Fr (hideAll h [l]) L h' m) : ∀ p o, p ≠ l → h.get? p = some o → h'.get? p = some o :=
  fun p o hp e => F.keep p o (hideAll_get _ e (by simpa using hp))
/-- a frame behind a call that kept all -/
theorem fr_after {g h h' : Heap} {L : Addr} {m : Str → Option Value} (F : Fr g L h m) (k : ∀ p o, h.get? p = some o → h'.get? p = some o) : Fr g L h' m :=
  ⟨F.ns.keeps k, fun b o e => k _ _ (F.keep b o e), F.above⟩
theorem news_after {g h h' : Heap} {L : Addr} {news : List (Addr × Obj)} (N : News g L h news) (k : ∀ p o, h.get? p = some o → h'.get? p = some o) : News g L h' news :=
  fun p hp => ⟨k _ _ (N p hp).1, (N p hp).2⟩
/-- new objects of a callee's onto the ledger -/
theorem news_more {g h h' : Heap} {L : Addr} {m : Str → Option Value} {news nw : List (Addr × Obj)} (F : Fr g L h m) (N : News g L h' news) (hn : ∀ p ∈ nw, h'.get? p.1 = some p.2 ∧ h.get? p.1 = none) : News g L h' (nw ++ news) := by
  intro p hp
  rcases List.mem_append.mp hp with hp | hp
  · refine ⟨(hn p hp).1, fun q => ?_, ?_⟩
    · obtain ⟨o, _, _, e, _⟩ := F.ns
      have := (hn p hp).2
      rw [q, e] at this; cases this
    · cases q : g.get? p.1 with
      | none => rfl
      | some o => have := F.keep _ _ q; rw [(hn p hp).2] at this; cases this
  · exact N p hp
/-- a frame behind a call that changed the one hidden -/
theorem fr_hid {g h h' : Heap} {L l : Addr} {o : Obj} {m : Str → Option Value} {news : List (Addr × Obj)} (F : Fr g L h m) (N : News g L h news) (hl : (l, o) ∈ news) (k : ∀ p o, p ≠ l → h.get? p = some o → h'.get? p = some o) : Fr g L h' m := by
  have z := N _ hl
  refine ⟨?_, fun b ob e => k _ _ (fun q => ?_) (F.keep b ob e), F.above⟩
  · obtain ⟨oL, es, ep, e, r⟩ := F.ns
    exact ⟨oL, es, ep, k _ _ (fun q => z.2.1 q.symm) e, r⟩
  · have q2 := z.2.2
    rw [← q, e] at q2; cases q2
theorem news_hid {g h h' : Heap} {L l : Addr} {o o' : Obj} {news : List (Addr × Obj)} {gf : Obj → List (Addr × Obj)} (N : News g L h news) (U : UpdF l o news gf) (k : ∀ p o, p ≠ l → h.get? p = some o → h'.get? p = some o) (hl : h'.get? l = some o') :
    News g L h' (gf o') := by
  obtain ⟨pre, post, rfl, hg, h1, h2⟩ := U.split
  intro p hp
  rw [hg] at hp
  rcases List.mem_append.mp hp with hp | hp
  · have z := N p (List.mem_append_left _ hp)
    exact ⟨k _ _ (h1 p hp) z.1, z.2⟩
  · rcases List.mem_cons.mp hp with rfl | hp
    · exact ⟨hl, (N (l, o) (List.mem_append_right _ (.head _))).2⟩
    · have z := N p (List.mem_append_right _ (.tail _ hp))
      exact ⟨k _ _ (h2 p hp) z.1, z.2⟩
end Mine
end

section
open PySem PySem.W PySem.Calls PyProof.Rows
open Sem (wp)
set_option maxRecDepth 100000
namespace Mine
section
variable {prog : Program} {w : World} {A : Around} {E : Value → Shared → Prop} {h : Heap} {g : Array GenState} {d : Drawn} {t : Nat} {os : OsState}
variable {nm q : Str} {C N : Addr} {bs bm : List Value} {hdct : Bool} {sn : List Str} {sub : List Value} {ab : Bool} {col : Option Bool} {dd : Option Addr} {k0 k1 k2 k3 k5 : Option Value}

/-- an own class below Exception, however far: what the class chain says -/
structure Chain (C : Addr) (bm : List Value) : Prop where
  e : (Value.ref C :: bm).contains (.type "Exception") = true
  a : (Value.ref C :: bm).contains (.type "AttributeError") = false
  n : (Value.ref C :: bm).contains (.type "NameError") = false

theorem chain_check (K : Chain C bm) {M : Model} {rest : List Value} {Q : Unit → Shared → Prop} (hC : h.get? C = some (excClassObj nm q C N bs bm hdct sn sub ab col dd k0 k1 k2 k3 k5 "Exception.__new__"))
    (hq : Q () ⟨h, g, d, t, os⟩) : wpAny M A (checkBuiltinCall "Exception.__new__" ⟨.ref C :: rest, []⟩) Q E ⟨h, g, d, t, os⟩ := by
  have F := PySem.F.excBase_Exception
  have hs := F.noStar
  have he := K.e
  simp only [checkBuiltinCall, F.newKind, F.newSplit, F.newRow]
  repeat (first | refine wpAny_loadPart_at hC ?_ | (refine wpAny_isSubtype_exc hC ?_; rw [he]) | refine wpAny_staticBase_exc hC ?_ | refine wpAny_madeBy_exc hC ?_ | simp only [bne_self_eq_false, Bool.false_eq_true, if_false] | wp_step)
  exact hq

theorem chain_new (K : Chain C bm) {R : Result → Shared → Prop} {rest : List Value} (hC : h.get? C = some (excClassObj nm q C N bs bm hdct sn sub ab col dd k0 k1 k2 k3 k5 "Exception.__new__"))
    (hq : R (.ok (.ret (.ref (h.objs.size + 1)))) ⟨(h.push { cls := .type "tuple", data := .seq rest.toArray }).push
      { cls := .ref C, data := .fields #[.ref h.objs.size, .none, .none, .none, .bool false, .none] }, g, d, t, os⟩) (hrest : rest.length ≤ sizeLine) :
    codeAny (model prog w) A (.builtin "Exception.__new__" ⟨.ref C :: rest, []⟩) R ⟨h, g, d, t, os⟩ := by
  have F := PySem.F.excBase_Exception
  have hends := F.ends
  refine codeAny_builtinAt F.entry ?_
  unfold Builtin.«BaseException.__new__»
  refine PySem.wpAt_bind ?_
  show PySem.wpAt _ _ _ (stack >>= _) _ _ _
  refine PySem.wpAt_bind (PySem.wpAt_stack fun p below => PySem.wpAt_of_wpAny ?_)
  wp_walk
  refine PySem.wpAt_of_wpAny ?_
  rw [F.owner]
  repeat (first | with_reducible refine wpAny_madeHere_exc F.canon hC ?_ | with_reducible refine wpAny_loadPart_at hC ?_ | (with_reducible refine wpAny_isSubtype_exc hC ?_; first | rw [K.e] | rw [K.a] | rw [K.n]) | wp_step)
  show R _ _
  rw [Heap.size_push]
  exact hq

/-- the maker's look for __init__: not in the class's own namespace, then in the next class's -/
theorem chain_init {D : Addr} {c0 : Value} {ddD : Option Addr} {cd : ClassData} {sl : Array (Option Value)} {r : List Value} {mN mD : Str → Option Value} {v : Value} {Q : Option Value → Shared → Prop}
    (hC : h.get? C = some (excClassObj nm q C N bs (.ref D :: r) hdct sn sub ab col dd k0 k1 k2 k3 k5 "Exception.__new__")) (hn : h.Ns N mN) (hni : mN "__init__" = none)
    (hD : h.get? D = some { cls := c0, dict := ddD, data := .cls cd, slots := sl }) (hnd : h.Ns cd.ns mD) (hi : mD "__init__" = some v) (hq : Q (some v) ⟨h, g, d, t, os⟩) :
    wpAny (model prog w) A (typeLookup (.ref C) "__init__") Q E ⟨h, g, d, t, os⟩ := by
  rw [typeLookup_eq]
  refine wpAny_bind (wpAny_mroOf_exc hC ?_)
  rw [lookupAlong_cons]
  refine wpAny_bind (wpAny_classOwn_exc hC hn ?_)
  rw [hni]
  dsimp only
  rw [lookupAlong_cons]
  refine wpAny_bind (wpAny_classOwn_cls hD hnd ?_)
  rw [hi]
  exact wpAny_pure hq

/-- a call of such a class -/
theorem chain_call {D : Addr} {c0 : Value} {ddD : Option Addr} {cd : ClassData} {sl : Array (Option Value)} {r : List Value} {mN mD : Str → Option Value} {fI : Addr} {oI : Obj} {rest : List Value} {Q : Value → Shared → Prop}
    (K : Chain C (.ref D :: r)) (hC : h.get? C = some (excClassObj nm q C N bs (.ref D :: r) hdct sn sub ab col dd k0 k1 k2 k3 k5 "Exception.__new__")) (hn : h.Ns N mN) (hni : mN "__init__" = none)
    (hD : h.get? D = some { cls := c0, dict := ddD, data := .cls cd, slots := sl }) (hnd : h.Ns cd.ns mD) (hi : mD "__init__" = some (.ref fI)) (hfI : h.get? fI = some oI) (hfc : oI.cls = .type "function") (hrest : rest.length ≤ sizeLine)
    (hq : ∀ h' e, Heap.MadeExcOf h h' e (.ref C) rest →
      wpAny (model prog w) (A.under (.builtin "type.__call__" ⟨.ref C :: rest, []⟩)) (call (.ref fI) (.ref e :: rest)) (fun r s' => r = .none ∧ Q (.ref e) s') E ⟨h', g, d, t, os⟩) :
    wpAny (model prog w) A (call (.ref C) rest) Q E ⟨h, g, d, t, os⟩ := by
  have F := PySem.F.excBase_Exception
  have f1 := tc_lookup
  have f2 := tc_bind (.ref C)
  have hT : (⟨h, g, d, t, os⟩ : Shared).TypeIs (.ref C) "type" := ⟨_, hC, rfl⟩
  refine wpAny_call (codeAny_of_tree ?_)
  show wpAny _ _ (callAny (.ref C) _) _ _ _
  repeat (any_goals (first | assumption | with_reducible refine wpAny_loadPart_at hC ?_ | wp_step))
  refine ⟨rfl, ?_⟩
  refine codeAny_call_builtin_at (Code.quiet_builtin _ (by decide +kernel)) entry_typeCall (wpAny_check_type_call_sub hC ?_)
  repeat (first | with_reducible refine wpAny_loadPart_at hC ?_ | with_reducible refine wpAny_madeBy_exc hC ?_ | wp_step)
  refine codeAny_call_builtin_code (Code.quiet_builtin _ F.quiet) (chain_check K hC ?_)
  refine chain_new (rest := rest) K hC ?_ hrest
  show wpAny _ _ _ _ _ _
  have up : ∀ b o, h.get? b = some o → ((h.push { cls := .type "tuple", data := .seq rest.toArray }).push { cls := .ref C, data := .fields #[.ref h.objs.size, .none, .none, .none, .bool false, .none] }).get? b = some o :=
    fun b o e => Heap.get?_push_of_some _ (Heap.get?_push_of_some _ e)
  have hC₁ := up _ _ hC
  have hget : ((h.push { cls := .type "tuple", data := .seq rest.toArray }).push
      { cls := .ref C, data := .fields #[.ref h.objs.size, .none, .none, .none, .bool false, .none] }).get? (h.objs.size + 1) = some
      { cls := .ref C, data := .fields #[.ref h.objs.size, .none, .none, .none, .bool false, .none] } := by heap_get
  have hcC : (Value.ref C :: .ref D :: r).contains (.ref C) = true := by simp
  unfold isInstance
  repeat (first | with_reducible refine wpAny_loadPart_at hget ?_ | (with_reducible refine wpAny_isSubtype_exc hC₁ ?_; rw [hcC]) | wp_step)
  show wpAny _ _ (typeLookup (.ref C) _) _ _ _
  refine chain_init hC₁ (hn.keeps up) hni (up _ _ hD) (hnd.keeps up) hi ?_
  refine wpAny_holding (wpAny_bind ?_)
  unfold bindSpecial
  refine wpAny_bind (wpAny_typeOf (T := "function") ⟨_, up _ _ hfI, hfc⟩ ?_)
  rw [if_pos (by decide)]
  refine wpAny_pure (wpAny_bind (wpAny_mono (hq _ (h.objs.size + 1) ⟨up, Heap.get?_none_of_le (Nat.le_succ _), h.objs.size, hget, Heap.get?_none_of_le (Nat.le_refl _), ?_⟩) (fun r s' hr => ?_) fun _ _ x => x))
  · exact Heap.get?_push_of_some _ (Heap.get?_push_at rfl rfl)
  · obtain ⟨rfl, hQ⟩ := hr
    wp_walk
    exact hQ

theorem chain_check_init (K : Chain C bm) {M : Model} {e : Addr} {oe : Obj} {rest : List Value} {Q : Unit → Shared → Prop}
    (hC : h.get? C = some (excClassObj nm q C N bs bm hdct sn sub ab col dd k0 k1 k2 k3 k5 "Exception.__new__")) (he : h.get? e = some oe) (hcls : oe.cls = .ref C) (hq : Q () ⟨h, g, d, t, os⟩) :
    wpAny M A (checkBuiltinCall "Exception.__init__" ⟨.ref e :: rest, []⟩) Q E ⟨h, g, d, t, os⟩ := by
  have F := PySem.F.excBase_Exception
  have hs := F.noStar
  have hcB := K.e
  simp only [checkBuiltinCall, F.initKind, F.initSplit, F.initRow]
  repeat (first | (with_reducible refine wpAny_loadPart_at he ?_; rw [hcls]) | with_reducible refine wpAny_loadPart_at hC ?_ | (with_reducible refine wpAny_isSubtype_exc hC ?_; rw [hcB]) | wp_step)
  refine wpAny_onRaise ?_
  have z : ∀ (a b : String) (n : Nat), Bind.check ⟨.positional, "*", "Exception", .self, [⟨"args", .varPos, false⟩]⟩ a b n (List.map (fun x => x.fst) ({ pos := Value.ref e :: rest } : Args).kw) = pure () := fun a b n => check_star_args _ _ _ _ _ _
  rw [z]
  exact wpAny_pure hq

/-- Exception.__init__ on an object of such a class: the texts anew -/
theorem chain_init_call (K : Chain C bm) {e t0 : Addr} {oe : Obj} {rest : List Value} {Q : Value → Shared → Prop}
    (hC : h.get? C = some (excClassObj nm q C N bs bm hdct sn sub ab col dd k0 k1 k2 k3 k5 "Exception.__new__")) (he : h.get? e = some oe) (hcls : oe.cls = .ref C) (hdt : oe.data = .fields #[.ref t0, .none, .none, .none, .bool false, .none]) (hrest : rest.length ≤ sizeLine)
    (hq : Q .none ⟨(h.push { cls := .type "tuple", data := .seq rest.toArray }).update e (Obj.mapFields (·.setIfInBounds 0 (.ref h.objs.size))), g, d, t, os⟩) :
    wpAny (model prog w) A (call (.builtin "Exception.__init__") (.ref e :: rest)) Q E ⟨h, g, d, t, os⟩ := by
  have F := PySem.F.excBase_Exception
  refine wpAny_call (codeAny_call_builtin F.init.plain F.initEntry (chain_check_init K hC he hcls ?_))
  obtain ⟨oc, od, odt, osl⟩ := oe
  dsimp only at hdt hcls
  subst hdt
  unfold Builtin.«BaseException.__init__»
  wp_walk
  exact hq
end
end Mine
end

section
open PySem PySem.W PySem.Calls PyProof.Rows
namespace Mine
local macro_rules | `(tactic| k_room) => `(tactic| (simp only [Around.deeper] at *; omega))
local macro_rules | `(tactic| walk_at "MY hid") => `(tactic| (refine' open_hid ?C ?hh ?o ?c ?b ?lo ?_ ?c2 ?c3 ?c4 ?c5; (case C => assumption); (case hh => assumption); (case o => k_is); (case c => k_is); (case b => exact BindsTo.of_eq rfl); (case lo => exact locs rfl); (case c2 => exact rfl); (case c3 => exact rfl); (case c4 => exact rfl); (case c5 => decide)))
theorem meta_exc : typeOf (.type "Exception") = pure (.type "type") := by with_unfolding_all rfl
local macro_rules | `(tactic| walk_at "getMethod type:Exception") => `(tactic| (k_here; refine' method_type ?F ?X ?m (by decide +kernel) ?e ?h ?_; (case F => k_asm); (case X => k_asm); (case m => exact meta_exc); (case e => k_dflt k_is); (case h => k_handed)))
abbrev excObj (dd : Option Addr) (t : Addr) : Obj := { cls := .ref 44, dict := dd, data := .fields #[.ref t, .none, .none, .none, .bool false, .none] }
abbrev tupObj (vs : List Value) : Obj := { cls := .type "tuple", data := .seq vs.toArray }
theorem clsSheet {w : World} {h : Heap} (X : (hd.heap_39 w.params).In h) : h.get? 44 = some (excClassObj "SheetFault" "SheetFault" 44 43 [.ref 31] [.ref 31, .type "Exception", .type "BaseException", .type "object"] true [] [] false none none
   (some (.ref 35)) none (some (.str "SheetFault" 218)) (some (.str "SheetFault" 226)) (some (.bool true)) "Exception.__new__") := X 44 _ (by rfl)
theorem chainSheet : Chain 44 [.ref 31, .type "Exception", .type "BaseException", .type "object"] := ⟨by decide +kernel, by decide +kernel, by decide +kernel⟩
theorem init_N {w : World} {A : Around} {E : Value → Shared → Prop} {s : Shared} {g : Heap} {L e t : Addr} {m : Str → Option Value} {news : List (Addr × Obj)} {vs : List Value} {Q : Value → Shared → Prop}
    (X : (hd.heap_39 w.params).In g) (F : Fr g L s.heap m) (N : News g L s.heap ((e, excObj none t) :: news)) (hoff : ∀ p ∈ news, p.1 ≠ e) (hrest : vs.length ≤ sizeLine)
    (h : ∀ h' t2, Fr g L h' m → News g L h' ((e, excObj none t2) :: (t2, tupObj vs) :: news) → t2 ≠ e → Q .none { s with heap := h' }) :
    wpAny (model PySem.Challenge.rw_nu0048_01.row.prog w) A (call (.builtin "Exception.__init__") (.ref e :: vs)) Q E s := by
  obtain ⟨hp, g', d, tk, os⟩ := s
  have he := (N _ (.head _)).1
  refine chain_init_call (t0 := t) chainSheet (clsSheet (X.keeps F.keep)) he rfl rfl hrest ?_
  have F1 := F.push (tupObj vs)
  have N1 := N.push F (tupObj vs) rfl
  have hne : hp.objs.size ≠ e := Nat.ne_of_gt (Heap.lt_size he)
  obtain ⟨F2, N2⟩ := news_upd (d := e) (o' := excObj none hp.objs.size) (f := Obj.mapFields (·.setIfInBounds 0 (.ref hp.objs.size))) (pre := [(hp.objs.size, tupObj vs)]) (post := news) F1 N1 (by intro p hp; cases hp with | head => exact hne | tail _ h => cases h) hoff rfl rfl
  exact h _ _ F2 (fun p hp => N2 p (by simp only [List.cons_append, List.nil_append, List.mem_cons] at hp ⊢; rcases hp with q | q | q <;> simp [q])) hne
set_option maxRecDepth 100000 in
theorem osa_exc {prog : Program} {w : World} {A : Around} {s : Shared} {x t : Addr} {v : Value} {tk : Tok} {R : Result → Shared → Prop} (X : (hd.heap_39 w.params).In s.heap) (hx : s.heap.get? x = some (excObj none t))
    (h : ∀ od h' tk, h'.get? x = some (excObj (some s.heap.objs.size) t) → h'.get? s.heap.objs.size = some od → od.isFreed = false → (∀ p o, p ≠ x → s.heap.get? p = some o → h'.get? p = some o) → R (.ok (.ret .none)) { s with heap := h', toks := tk }) :
    codeAny (model prog w) A (.call (.builtin "object.__setattr__") ⟨[.ref x, .str "message" tk, v], []⟩) R s := by
  have I : InstAt s.heap x (excObj none t) 44 none := ⟨hx, rfl, rfl, trivial⟩
  have SF := PySem.F.store_object
  have hme : findIn (hd.heap_39 w.params) (.ref 44) "message" = some none := by rfl
  have hmo : mroIn (hd.heap_39 w.params) 44 (.type "object") = some true := by rfl
  have hcl : ∃ cd, clsIn (hd.heap_39 w.params) 44 = some cd ∧ cd.mro = [.ref 44, .ref 31, .type "Exception", .type "BaseException", .type "object"] ∧ cd.hasDict = true := ⟨_, rfl, rfl, rfl⟩
  obtain ⟨cd, hcd, hmr, hdi⟩ := hcl
  have sub : Looks (model prog w) s.heap (isInstance (.ref x) (.type "object")) true := I.type.andThen (looks_mroIn X hmo)
  have hm : Looks (model prog w) s.heap (mroOf (.ref 44)) cd.mro := (looks_clsIn X hcd).andThen .now
  refine codeAny_call_builtin SF.slot.plain SF.entry (@check_slot (model prog w) _ _ s "object.__setattr__" "object" "__setattr__" (.ref x) [.str "message" tk, v] [] _ SF.kind SF.split sub (SF.args (.ref x) (.str "message" tk) v) ?_)
  rw [osa_eq, refuse_eq]
  refine wpAny_bind (wpAny_bind (I.type.here (wpAny_bind (hm.here ?_))))
  rw [hmr, refuseLoop_ref, refuseLoop_ref, PySem.F.store_Exception.passes]
  refine wpAny_pure (wpAny_bind (I.type.here (wpAny_bind ((looks_findIn X hme).here (wpAny_bind ?_)))))
  refine wpAny_pure ?_
  dsimp only
  obtain ⟨hp, g, d, tk0, os⟩ := s
  have hx₁ : (hp.push { cls := .type "dict", data := .dict #[] }).get? x = some (excObj none t) := Heap.get?_push_of_some _ hx
  have hxs : x ≠ hp.objs.size := Nat.ne_of_lt (Heap.lt_size hx)
  unfold Builtin.ObjectAttr.storeInOwnDict
  refine wpAny_bind (wpAny_pure ?_)
  rw [if_neg (by decide)]
  unfold Builtin.ObjectAttr.ownDictForStores instanceDict
  refine wpAny_bind (wpAny_bind (wpAny_loadPart hx ?_))
  dsimp only
  refine wpAny_bind ((looks_clsIn X hcd).here ?_)
  rw [hdi]
  simp only [Bool.not_true, Bool.false_eq_true, if_false, Bool.or_self, typeHasDict]
  refine wpAny_bind (wpAny_alloc' ?_)
  refine wpAny_bind (wpAny_update' hx₁ ?_)
  refine wpAny_pure ?_
  have hgd : ((hp.push { cls := .type "dict", data := .dict #[] }).update x fun o => { cls := o.cls, dict := some hp.objs.size, data := o.data, slots := o.slots }).get? hp.objs.size
      = some { cls := .type "dict", data := .dict #[] } :=
    (Heap.get?_update_ne _ _ _ _ hxs.symm).trans (Heap.get?_push_at rfl rfl)
  have hnd : ((hp.push { cls := .type "dict", data := .dict #[] }).update x fun o => { cls := o.cls, dict := some hp.objs.size, data := o.data, slots := o.slots }).Ns hp.objs.size (fun _ => none) :=
    ⟨_, #[], _, hgd, rfl, fun e he => absurd he (by simp), fun _ => rfl⟩
  show wpAny _ _ (Builtin.ObjectAttr.storeInDict hp.objs.size (.str "message" tk) "message" v) _ _ _
  unfold Builtin.ObjectAttr.storeInDict Builtin.ObjectAttr.newKeyGuard
  refine wpAny_bind (wpAny_pure (wpAny_bind (wpAny_nsSet1 (Heap.Ns1.of_empty hnd) fun h' hn' hs => ?_)))
  obtain ⟨oD, esD, epD, hoD, hdD, hcD⟩ := hn'.count (Within.cons "message" v Within.nil)
  refine wpAny_bind (wpAny_lookBehind hoD (by rw [hdD]; exact pastItsLine_dict (Nat.le_trans hcD (by rw [List.length_cons, List.length_nil, sizeLine_eq]; omega))) ?_)
  refine wpAny_pure ?_
  refine h oD h' _ ((hs.2 x hxs).trans (Heap.get?_update_self _ hx₁ rfl)) hoD (Heap.get?_some_iff.mp hoD).2 fun p o hpx e => ?_
  exact (hs.2 p (Nat.ne_of_lt (Heap.lt_size e))).trans ((Heap.get?_update_ne _ _ _ _ hpx).trans (Heap.get?_push_of_some _ e))
set_option maxRecDepth 100000 in
theorem set_exc {prog : Program} {w : World} {A : Around} {E : Value → Shared → Prop} {s : Shared} {x t : Addr} {v : Value} {Q : Unit → Shared → Prop} (X : (hd.heap_39 w.params).In s.heap) (hx : s.heap.get? x = some (excObj none t))
    (h : ∀ od h' tk, h'.get? x = some (excObj (some s.heap.objs.size) t) → h'.get? s.heap.objs.size = some od → od.isFreed = false → (∀ p o, p ≠ x → s.heap.get? p = some o → h'.get? p = some o) → Q () { s with heap := h', toks := tk }) :
    wpAny (model prog w) A (setAttr (.ref x) "message" v) Q E s := by
  have I : InstAt s.heap x (excObj none t) 44 none := ⟨hx, rfl, rfl, trivial⟩
  have hsa : findIn (hd.heap_39 w.params) (.ref 44) "__setattr__" = some (some (.builtin "object.__setattr__")) := by rfl
  exact set_plain X I hsa (osa_exc (s := { s with toks := s.toks + 1 }) X hx h)
set_option maxRecDepth 100000 in
set_option maxHeartbeats 8000000 in
theorem init28 {w : World} {A : Around} {base : Heap} {outer : List Env} {s : Shared} {n : Nat} {e t : Addr} {x : Str} {tx : Tok} {R : Result → Shared → Prop}
    (C : Cal w A base outer (hideAll s.heap [e]) (n + 1))
    (he : s.heap.get? e = some (excObj none t))
    (h : ∀ h' tk dd t2, (∀ p o, p ≠ e → s.heap.get? p = some o → h'.get? p = some o) → h'.get? e = some (excObj (some dd) t2) → h'.get? t2 = some (tupObj [.str x tx]) → s.heap.get? t2 = none →
      R (.ok (.ret .none)) { s with heap := h', toks := tk }) :
    codeAny (model PySem.Challenge.rw_nu0048_01.row.prog w) A (.call (.ref 28) ⟨[.ref e, .str x tx], []⟩) R s := by
  have X9 := C.X
  revert X9
  k_fill
  intro X9
  walk_at "MY hid"
  intro L' h₁ F N
  have C0 := C
  obtain ⟨B, _, ⟨loose, mean, mg, mb, T⟩, _, hd, hu, hh⟩ := C
  have X := X9
  replace T := T.keeps B.stays
  w_on
  (try k_fold)
  iterate 11 walk1
  refine init_N X F N (by simp) (by show 1 ≤ sizeLine; decide) ?_
  clear F N
  intro h2 t2 F N hne
  k_steps
  refine set_exc (t := t2) (X.keeps F.keep) (N.get (.head _)) ?_
  intro od h3 tk3 a b _ d
  have nt : s.heap.get? t2 = none := by
    have z := (N (t2, tupObj [.str x tx]) (.tail _ (.head _))).2.2
    cases q : s.heap.get? t2 with
    | none => rfl
    | some o => have q2 := hideAll_get [e] q (by simpa using hne); rw [z] at q2; cases q2
  refine wpAny_execs_nil ?_
  exact h _ _ _ _ (fun p o hp e => d p o hp (kept_hid F p o hp e)) a (d _ _ hne (N.get (.tail _ (.head _)))) nt

/-- a SheetFault made: what stands behind it -/
structure MadeX (h h' : Heap) (e t : Addr) (vs : List Value) : Prop where
  keeps : ∀ b o, h.get? b = some o → h'.get? b = some o
  new : h.get? e = none
  newT : h.get? t = none
  there : ∃ dd, h'.get? e = some (excObj (some dd) t)
  tup : h'.get? t = some (tupObj vs)

set_option maxRecDepth 100000 in
theorem sheet_call {w : World} {A : Around} {base : Heap} {outer : List Env} {E : Value → Shared → Prop} {s : Shared} {n : Nat} {x : Str} {tx : Tok} {Q : Value → Shared → Prop}
    (C : Cal w A base outer s.heap (n + 2)) (h : ∀ h' tk e t, MadeX s.heap h' e t [.str x tx] → Q (.ref e) { s with heap := h', toks := tk }) :
    wpAny (model PySem.Challenge.rw_nu0048_01.row.prog w) A (call (.ref 44) [.str x tx]) Q E s := by
  obtain ⟨hp, g, d, tk, os⟩ := s
  have X := C.X
  have hN : hp.Ns 43 (hp.nsMap 43) := .of_isNs (isNs_of_in X (by kernel_rfl))
  have hN2 : hp.Ns 30 (hp.nsMap 30) := .of_isNs (isNs_of_in X (by kernel_rfl))
  have hni : hp.nsMap 43 "__init__" = none := nsMap_none_of_in X (by kernel_rfl) (by rfl)
  have hi : hp.nsMap 30 "__init__" = some (.ref 28) := by
    obtain ⟨o, es, ep, ho, hd, _, hf⟩ := hN2
    have e := X 30 _ (by rfl)
    rw [ho] at e; cases e; cases hd
    rw [← hf]; rfl
  refine chain_call (fI := 28) chainSheet (clsSheet X) hN hni (X 31 _ (by rfl)) hN2 hi (X 28 _ (by rfl)) rfl (by show 1 ≤ sizeLine; decide) ?_
  intro h' e M
  obtain ⟨t, he, htn, ht⟩ := M.there
  have C2 : Cal w (A.under (.builtin "type.__call__" ⟨.ref 44 :: [.str x tx], []⟩)) base outer (hideAll h' [e]) (n + 1) :=
    C.make.grow fun b o q => hideAll_get [e] (M.keeps b o q) (by simp only [List.mem_singleton]; rintro rfl; have z := M.new; dsimp only at q; rw [z] at q; cases q)
  refine wpAny_call (init28 (n := n) (t := t) C2 he ?_)
  intro h2 tk2 dd t2 k1 k2 k3 k4
  have kk : ∀ b o, hp.get? b = some o → h2.get? b = some o := fun b o q => k1 b o (by rintro rfl; have z := M.new; rw [z] at q; cases q) (M.keeps b o q)
  refine ⟨rfl, h h2 tk2 e t2 ⟨kk, M.new, ?_, ⟨dd, k2⟩, k3⟩⟩
  cases q : hp.get? t2 with
  | none => rfl
  | some o => have z := M.keeps _ _ q; dsimp only at k4; rw [z] at k4; cases k4

theorem raise_sheet {M : Model} {A : Around} {E : Value → Shared → Prop} {s : Shared} {w : World} {env : Env} {ex : Expr} {pos : Pos} {Q : Flow → Shared → Prop} (hh : A.handled = none)
    (h : wpAny M A (eval ex env) (fun v s₁ => ∃ e t dd, v = .ref e ∧ (hd.heap_39 w.params).In s₁.heap ∧ s₁.heap.get? e = some (excObj (some dd) t) ∧ E (.ref e) s₁) E s) :
    wpAny M A (exec (.Raise (some ex) none pos) env) Q E s := by
  have hcB : (Value.ref 44 :: [.ref 31, .type "Exception", .type "BaseException", .type "object"]).contains (.type "BaseException") = true := by decide +kernel
  rw [arm_exec_Raise]
  refine wpAny_bind (wpAny_standAt ?_)
  unfold raiseStmt
  refine wpAny_bind (wpAny_bind (wpAny_mono h (fun v s₁ h₁ => wpAny_bind (wpAny_standAt (wpAny_pure ?_))) fun _ _ x => x))
  obtain ⟨e, t, dd, rfl, X, he, hE⟩ := h₁
  have hC := clsSheet X
  obtain ⟨hp, g, d, tk, os⟩ := s₁
  repeat (first | with_reducible refine wpAny_loadPart_at he ?_ | with_reducible refine wpAny_loadPart_at hC ?_ | (with_reducible refine wpAny_isSubtype_exc hC ?_; rw [hcB]) | wp_step)
  exact wpAny_raiseNew_none hh hE
end Mine
end

section
open PySem PySem.W PySem.Calls PyProof.Rows
namespace Mine
/-- such an exception leaves the frame that made it -/
theorem leave_x {M : Model} {A : Around} {E : Value → Shared → Prop} {s' : Shared} {base g h : Heap} {outer : List Env} {L a e t : Addr} {m : Str → Option Value} {name : Str} {scope : Scope} {cd : Value} {vs : List Value} {Q : Unit → Shared → Prop}
    (K : Below A base outer g) (hx : MadeX h s'.heap e t vs) (F : Fr g L h m) (hk : scope.kind = .function)
    (hQ : ∀ h' t', RaisedS base g outer e (.ref 44) t' vs [] h' → g.UpToSlots h' → Q () { s' with heap := h' }) :
    wpAny M (A.deeper (envOf name scope L a cd)) (leaving (envOf name scope L a cd) (.ref e)) Q E s' := by
  have K' := K.push (name := name) (a := a) (cd := cd) F hk
  obtain ⟨dd, he⟩ := hx.there
  have fl : ∀ b, b ∈ (envOf name scope L a cd :: outer).filterMap (·.frame) → base.get? b = none := fun b hm => (K'.frames.mem hm).1
  -- the part that is told: all but the frames
  let B := hideAll h ((envOf name scope L a cd :: outer).filterMap (·.frame))
  have st : base.StaysIn B := fun b o q => hideAll_get _ (K'.stays b o q) fun hm => by rw [fl b hm] at q; cases q
  have sg : ∀ b o, g.get? b = some o → b ∉ outer.filterMap (·.frame) → B.get? b = some o := fun b o q nm => hideAll_get _ (F.keep b o q) fun hm => by
    rcases kts_mem hm with z | z
    · rw [z, kts_self F] at q; cases q
    · exact nm z
  have hin : ∀ env ∈ (envOf name scope L a cd :: outer), ∀ b, env.frame = some b → b ∈ (envOf name scope L a cd :: outer).filterMap (·.frame) := fun env he b hb => List.mem_filterMap.mpr ⟨env, he, hb⟩
  have old : ∀ b, h.get? b = none → B.get? b = none := fun b hb => by
    cases q : B.get? b with
    | none => rfl
    | some o => rw [of_hideAll _ q] at hb; cases hb
  have FF : s'.heap.FunFrames B (envOf name scope L a cd :: outer) := by
    have z := funFrames_hide K'.frames hin
    exact (z).of_keeps fun b o q _ => ⟨o, hx.keeps _ _ q, rfl⟩
  refine wpAny_leaving_firstW (base := B) (a0 := .ref t) K'.stack FF rfl he (fun b o q => hx.keeps _ _ (of_hideAll _ q)) (old e hx.new) rfl rfl rfl fun h' hL => ?_
  obtain ⟨k1, ⟨_, _, k2⟩, k3, k4⟩ := hL
  refine hQ h' t ⟨⟨B, st, sg, fun q hq => (nomatch hq), ⟨k1, old e hx.new, k2, k3⟩, old t hx.newT⟩, Heap.TupAt.of_slots ⟨_, _, hx.tup, rfl, rfl⟩ k4⟩ ?_
  exact ((Heap.UpToSlots.of_keeps F.keep).trans (Heap.UpToSlots.of_keeps hx.keeps)).trans k4
end Mine
end

section
/-! The plain law: what split_avt, the template, the joining compute, with no program in sight. -/
namespace Mine
/-- how many signs lie ahead of the brace that ends an expression; o: the quote that is open -/
def eend : Option Nat → List Nat → Option Nat
  | _, [] => none
  | some q, c :: r => (eend (if c = q then none else some q) r).map (· + 1)
  | none, c :: r => if c = 39 ∨ c = 34 then (eend (some c) r).map (· + 1) else if c = 125 then some 0 else if c = 123 then none else (eend none r).map (· + 1)

def flush (pl : List Nat) : List (Bool × List Nat) := if pl = [] then [] else [(false, pl)]

def splitC : Nat → List Nat → List Nat → Option (List (Bool × List Nat))
  | 0, _, _ => none
  | _ + 1, [], pl => some (flush pl)
  | n + 1, c :: r, pl =>
    if (c = 123 ∨ c = 125) ∧ r.head? = some c then splitC n r.tail (pl ++ [c])
    else if c = 123 then (match eend none r with
      | none => none
      | some k => (splitC n (r.drop (k + 1)) []).map fun q => flush pl ++ (true, r.take k) :: q)
    else if c = 125 then none
    else splitC n r (pl ++ [c])
def splitX (l pl : List Nat) : Option (List (Bool × List Nat)) := splitC (l.length + 1) l pl

theorem splitC_more : ∀ (n m : Nat) (l pl : List Nat), l.length < n → l.length < m → splitC n l pl = splitC m l pl
  | 0, _, _, _, h, _ => absurd h (Nat.not_lt_zero _)
  | _, 0, _, _, _, h => absurd h (Nat.not_lt_zero _)
  | n + 1, m + 1, [], pl, _, _ => rfl
  | n + 1, m + 1, c :: r, pl, h1, h2 => by
    rw [List.length_cons] at h1 h2
    have e1 : splitC n r.tail (pl ++ [c]) = splitC m r.tail (pl ++ [c]) := splitC_more n m _ _ (by rw [List.length_tail]; omega) (by rw [List.length_tail]; omega)
    have e2 : splitC n r (pl ++ [c]) = splitC m r (pl ++ [c]) := splitC_more n m _ _ (by omega) (by omega)
    have e3 : ∀ k, splitC n (r.drop (k + 1)) [] = splitC m (r.drop (k + 1)) [] := fun k => splitC_more n m _ _ (by rw [List.length_drop]; omega) (by rw [List.length_drop]; omega)
    simp only [splitC, e1, e2, e3]

theorem splitX_nil (pl : List Nat) : splitX [] pl = some (flush pl) := rfl
theorem splitX_two {c : Nat} {r pl : List Nat} (hc : c = 123 ∨ c = 125) (h : r.head? = some c) : splitX (c :: r) pl = splitX r.tail (pl ++ [c]) := by
  show splitC (r.length + 1 + 1) (c :: r) pl = _
  rw [splitC, if_pos ⟨hc, h⟩]
  exact splitC_more _ _ _ _ (by rw [List.length_tail]; omega) (by omega)
theorem splitX_open {r pl : List Nat} (h : r.head? ≠ some 123) : splitX (123 :: r) pl = (match eend none r with
      | none => none
      | some k => (splitX (r.drop (k + 1)) []).map fun q => flush pl ++ (true, r.take k) :: q) := by
  show splitC (r.length + 1 + 1) (123 :: r) pl = _
  rw [splitC, if_neg (fun q => h q.2), if_pos rfl]
  cases eend none r with
  | none => rfl
  | some k =>
    dsimp only
    rw [splitX, splitC_more (r.length + 1) ((r.drop (k + 1)).length + 1) _ _ (by rw [List.length_drop]; omega) (by omega)]
theorem splitX_close {r pl : List Nat} (h : r.head? ≠ some 125) : splitX (125 :: r) pl = none := by
  show splitC (r.length + 1 + 1) (125 :: r) pl = _
  rw [splitC, if_neg (fun q => h q.2), if_neg (by decide), if_pos rfl]
theorem splitX_sign {c : Nat} {r pl : List Nat} (h1 : c ≠ 123) (h2 : c ≠ 125) : splitX (c :: r) pl = splitX r (pl ++ [c]) := by
  show splitC (r.length + 1 + 1) (c :: r) pl = _
  rw [splitC, if_neg (fun q => q.1.elim h1 h2), if_neg h1, if_neg h2]
  rfl

/-- each brace doubled -/
def dbl : List Nat → List Nat
  | [] => []
  | c :: r => if c = 123 ∨ c = 125 then c :: c :: dbl r else c :: dbl r
def tmplOne (p : Bool × List Nat) : List Nat := if p.1 then 123 :: (p.2 ++ [125]) else dbl p.2
def tmpl : List (Bool × List Nat) → List Nat
  | [] => []
  | p :: ps => tmplOne p ++ tmpl ps
/-- neighbours joined; pl: the text that is open -/
def jn : List Nat → List (Bool × List Nat) → List (Bool × List Nat)
  | pl, [] => flush pl
  | pl, (true, t) :: ps => flush pl ++ (true, t) :: jn [] ps
  | pl, (false, t) :: ps => jn (pl ++ t) ps
/-- what a path must be: its end is the brace behind it, it does not begin with a brace -/
structure PathOk (t : List Nat) : Prop where
  ends : ∀ r, eend none (t ++ 125 :: r) = some t.length
  head : t.head? ≠ some 123
def PieceOk (p : Bool × List Nat) : Prop := (p.1 = true → PathOk p.2) ∧ (p.1 = false → p.2 ≠ [])

theorem splitX_dbl : ∀ (t r pl : List Nat), splitX (dbl t ++ r) pl = splitX r (pl ++ t)
  | [], r, pl => by simp [dbl]
  | c :: t, r, pl => by
    unfold dbl
    by_cases hc : c = 123 ∨ c = 125
    · rw [if_pos hc, List.cons_append, splitX_two hc rfl]
      show splitX (dbl t ++ r) (pl ++ [c]) = _
      rw [splitX_dbl t, List.append_assoc]; rfl
    · rw [if_neg hc, List.cons_append, splitX_sign (fun q => hc (.inl q)) (fun q => hc (.inr q)), splitX_dbl t, List.append_assoc]; rfl
theorem splitX_path {t r pl : List Nat} (h : PathOk t) : splitX (123 :: (t ++ [125]) ++ r) pl = (splitX r []).map fun q => flush pl ++ (true, t) :: q := by
  have e : 123 :: (t ++ [125]) ++ r = 123 :: (t ++ 125 :: r) := by simp
  have hh : (t ++ 125 :: r).head? ≠ some 123 := by
    cases t with
    | nil => simp
    | cons c t => exact h.head
  rw [e, splitX_open hh, h.ends]
  dsimp only
  have e1 : (t ++ 125 :: r).drop (t.length + 1) = r := by simp [List.drop_append]
  have e2 : (t ++ 125 :: r).take t.length = t := by simp
  rw [e1, e2]
theorem split_tmpl : ∀ (ps : List (Bool × List Nat)) (pl : List Nat), (∀ p ∈ ps, PieceOk p) → splitX (tmpl ps) pl = some (jn pl ps)
  | [], pl, _ => rfl
  | (true, t) :: ps, pl, h => by
    show splitX ((123 :: (t ++ [125])) ++ tmpl ps) pl = _
    rw [splitX_path ((h _ (.head _)).1 rfl), split_tmpl ps [] fun p hp => h p (.tail _ hp)]
    rfl
  | (false, t) :: ps, pl, h => by
    show splitX (dbl t ++ tmpl ps) pl = _
    rw [splitX_dbl, split_tmpl ps _ fun p hp => h p (.tail _ hp)]
    rfl
/-- the law's own joining, piece by piece -/
def jstep (acc : List (Bool × List Nat)) (p : Bool × List Nat) : List (Bool × List Nat) :=
  match p.1, acc.getLast? with
  | false, some (false, u) => acc.dropLast ++ [(false, u ++ p.2)]
  | _, _ => acc ++ [p]
def NoTextLast (acc : List (Bool × List Nat)) : Prop := ∀ u, acc.getLast? ≠ some (false, u)
theorem jstep_path (acc : List (Bool × List Nat)) (t : List Nat) : jstep acc (true, t) = acc ++ [(true, t)] := rfl
theorem jstep_more (acc : List (Bool × List Nat)) (u t : List Nat) : jstep (acc ++ [(false, u)]) (false, t) = acc ++ [(false, u ++ t)] := by
  simp [jstep]
theorem jstep_new {acc : List (Bool × List Nat)} (h : NoTextLast acc) (t : List Nat) : jstep acc (false, t) = acc ++ [(false, t)] := by
  unfold jstep
  split
  · rename_i u _ e
    exact absurd e (h u)
  · rfl
theorem fold_jn : ∀ (ps acc : List (Bool × List Nat)) (pl : List Nat), NoTextLast acc → (∀ p ∈ ps, PieceOk p) → ps.foldl jstep (acc ++ flush pl) = acc ++ jn pl ps
  | [], acc, pl, _, _ => rfl
  | (true, t) :: ps, acc, pl, ha, h => by
    rw [List.foldl_cons, jstep_path]
    have e := fold_jn ps (acc ++ flush pl ++ [(true, t)]) [] (fun u q => by simp at q) fun p hp => h p (.tail _ hp)
    rw [show flush [] = [] from rfl, List.append_nil] at e
    rw [e]
    simp [jn]
  | (false, t) :: ps, acc, pl, ha, h => by
    rw [List.foldl_cons]
    have ht : t ≠ [] := (h _ (.head _)).2 rfl
    have e : jstep (acc ++ flush pl) (false, t) = acc ++ flush (pl ++ t) := by
      by_cases hp : pl = []
      · subst hp
        rw [show flush [] = [] from rfl, List.append_nil, List.nil_append, jstep_new ha]
        simp [flush, ht]
      · have e1 : flush pl = [(false, pl)] := by simp [flush, hp]
        have e2 : flush (pl ++ t) = [(false, pl ++ t)] := by simp [flush, hp]
        rw [e1, e2, jstep_more]
    rw [e, fold_jn ps acc (pl ++ t) ha fun p hp => h p (.tail _ hp)]
    rfl
theorem joined_eq (ps : List (Bool × List Nat)) (h : ∀ p ∈ ps, PieceOk p) : ps.foldl jstep [] = jn [] ps := by
  have e := fold_jn ps [] [] (fun u q => by simp at q) h
  simpa [flush] using e

/-- what is told of each expression in its place -/
def dueOne (p : Bool × List Nat) : List Nat := if p.1 then 60 :: (p.2 ++ [62]) else p.2
def due (ps : List (Bool × List Nat)) : List Nat := ps.flatMap dueOne
theorem due_flush (pl : List Nat) : due (flush pl) = pl := by
  by_cases h : pl = []
  · subst h; rfl
  · simp [flush, h, due, dueOne]
theorem due_jn : ∀ (ps : List (Bool × List Nat)) (pl : List Nat), due (jn pl ps) = pl ++ due ps
  | [], pl => by rw [jn, due_flush]; simp [due]
  | (true, t) :: ps, pl => by
    have e := due_jn ps []
    have f := due_flush pl
    unfold due at e f ⊢
    simp only [jn, List.flatMap_append, List.flatMap_cons, e, f, List.nil_append]
  | (false, t) :: ps, pl => by
    rw [jn, due_jn ps (pl ++ t)]
    unfold due
    simp [dueOne]

/-- the templates that are to be refused -/
theorem split_plain : ∀ (ps : List (Bool × List Nat)) (r pl : List Nat), (∀ p ∈ ps, p.1 = false) → ∃ pl', splitX (tmpl ps ++ r) pl = splitX r pl'
  | [], r, pl, _ => ⟨pl, rfl⟩
  | (true, t) :: ps, _, _, h => absurd (h _ (.head _)) (by simp)
  | (false, t) :: ps, r, pl, h => by
    obtain ⟨pl', e⟩ := split_plain ps r (pl ++ t) fun p hp => h p (.tail _ hp)
    refine ⟨pl', ?_⟩
    show splitX (dbl t ++ tmpl ps ++ r) pl = _
    rw [List.append_assoc, splitX_dbl, e]
def odds : List (List Nat) := [[125], [123, 97], [123, 97, 39, 125], [123, 97, 123, 98, 125], [123, 39], [120, 125, 121], [123, 34, 125]]
theorem odd_refused : ∀ o ∈ odds, ∀ pl, splitX (120 :: o) pl = none := by
  intro o ho pl
  rw [splitX_sign (by decide) (by decide)]
  simp only [odds, List.mem_cons, List.not_mem_nil, or_false] at ho
  rcases ho with rfl | rfl | rfl | rfl | rfl | rfl | rfl
  · exact splitX_close (by simp)
  · rw [splitX_open (by simp)]; rfl
  · rw [splitX_open (by simp)]; rfl
  · rw [splitX_open (by simp)]; rfl
  · rw [splitX_open (by simp)]; rfl
  · rw [splitX_sign (by decide) (by decide)]; exact splitX_close (by simp)
  · rw [splitX_open (by simp)]; rfl
theorem refused (ps : List (Bool × List Nat)) (o : List Nat) (hp : ∀ p ∈ ps, p.1 = false) (ho : o ∈ odds) : splitX (tmpl ps ++ 120 :: o) [] = none := by
  obtain ⟨pl', e⟩ := split_plain ps (120 :: o) [] hp
  rw [e, odd_refused o ho]

def paths : List (List Nat) := [[97], [64, 98], [39, 125, 39], [99, 111, 110, 99, 97, 116, 40, 39, 123, 39, 44, 32, 34, 125, 39, 34, 41], [34, 39, 34], [97, 91, 98, 61, 39, 125, 123, 39, 93], []]
def texts : List (List Nat) := [[120], [123], [125], [123, 125], [97, 32, 98], [125, 125, 123], [39], [34]]
theorem paths_ok : ∀ t ∈ paths, PathOk t := by
  intro t ht
  simp only [paths, List.mem_cons, List.not_mem_nil, or_false] at ht
  rcases ht with rfl | rfl | rfl | rfl | rfl | rfl | rfl <;> exact ⟨fun r => rfl, by simp⟩
theorem texts_ok : ∀ t ∈ texts, t ≠ [] := by decide
end Mine
end

section
open PySem PySem.W PySem.Calls PyProof.Rows
namespace Mine
/-- a text by its signs' numbers -/
abbrev mk (l : List Nat) : Str := ⟨l.toArray⟩
def qs : Option Nat → Str
  | none => ""
  | some c => mk [c]
theorem mk_inj {a b : List Nat} : mk a = mk b ↔ a = b := by
  constructor
  · intro h
    have := congrArg (fun s : Str => s.cps.toList) h
    simpa using this
  · rintro rfl; rfl
theorem mk_beq (a b : List Nat) : (mk a == mk b) = decide (a = b) := by
  by_cases h : a = b
  · subst h; simp
  · rw [decide_eq_false h]
    exact beq_eq_false_iff_ne.mpr fun e => h (mk_inj.mp e)
theorem mk_toList (x : Str) : mk x.cps.toList = x := by cases x; simp
theorem mk_len (l : List Nat) : (mk l).length = l.length := by simp [Str.length]
theorem mk_app (a b : List Nat) : mk a ++ mk b = mk (a ++ b) := by
  apply Str.ext'
  simp [Str.cps_append]
theorem lit_empty : ("" : Str) = mk [] := by decide +kernel
theorem lit_cb : ("}" : Str) = mk [125] := by decide +kernel
theorem lit_ob : ("{" : Str) = mk [123] := by decide +kernel
theorem lit_qq : ("'\"" : Str) = mk [39, 34] := by decide +kernel
theorem lit_bb : ("{}" : Str) = mk [123, 125] := by decide +kernel
theorem qs_empty (o : Option Nat) : (qs o != ("" : Str)) = o.isSome := by
  cases o with
  | none => simp [qs]
  | some c =>
    rw [lit_empty]
    show (!(mk [c] == mk [])) = true
    rw [mk_beq]; simp
theorem drop_at {l : List Nat} {j : Nat} (h : j < l.length) : l.drop j = l.getD j 0 :: l.drop (j + 1) := by
  rw [List.drop_eq_getElem_cons h]
  simp [h]
theorem item_mk {x : Str} {j : Nat} (h : (j : Int) < (x.length : Int)) : Txt.item x (j : Int) = mk [x.cps.toList.getD j 0] := by
  rw [item_meets ⟨Int.natCast_nonneg j, h⟩]
  simp
theorem in_qq (c : Nat) : (Builtin.Str.occurrences ("'\"" : Str) (mk [c]) 0 ("'\"" : Str).length 1).isEmpty = !decide (c = 39 ∨ c = 34) := by
  have e := StrLaws.found_one ("'\"" : Str) c
  have e2 : ("'\"" : Str).cps.toList = [39, 34] := by decide +kernel
  rw [e2] at e
  have e3 : decide (c ∈ [39, 34]) = decide (c = 39 ∨ c = 34) := by simp
  rw [e3] at e
  rw [← e, Bool.not_not]
theorem in_bb (c : Nat) : (Builtin.Str.occurrences ("{}" : Str) (mk [c]) 0 ("{}" : Str).length 1).isEmpty = !decide (c = 123 ∨ c = 125) := by
  have e := StrLaws.found_one ("{}" : Str) c
  have e2 : ("{}" : Str).cps.toList = [123, 125] := by decide +kernel
  rw [e2] at e
  have e3 : decide (c ∈ [123, 125]) = decide (c = 123 ∨ c = 125) := by simp
  rw [e3] at e
  rw [← e, Bool.not_not]

theorem slice_clip (x : Str) (a b : Nat) : Txt.slice x (some (a : Int)) (some (b : Int)) = Txt.slice x (some ((min a x.length : Nat) : Int)) (some ((min b x.length : Nat) : Int)) := by
  have e : Builtin.Str.strSliceIndices (some (a : Int)) (some (b : Int)) 1 x.length = Builtin.Str.strSliceIndices (some ((min a x.length : Nat) : Int)) (some ((min b x.length : Nat) : Int)) 1 x.length := by
    unfold Builtin.Str.strSliceIndices
    simp only [show (1 : Int) > 0 by decide, if_true]
    rw [if_neg (by omega), if_neg (by omega), if_neg (by omega), if_neg (by omega)]
    congr 1 <;> omega
  unfold Txt.slice
  rw [e]
theorem slice_mk (x : Str) (a b : Nat) (h : a ≤ b) : Txt.slice x (some (a : Int)) (some (b : Int)) = mk ((x.cps.toList.drop a).take (b - a)) := by
  have hl : x.cps.toList.length = x.length := by simp [Str.length]
  rw [slice_clip, eq_of_beq (slice_closesL (x := x) (i := ((min a x.length : Nat) : Int)) (j := ((min b x.length : Nat) : Int)) (by omega) (by omega) (by omega))]
  have e1 : (((min a x.length : Nat) : Int)).toNat = min a x.length := by omega
  have e2 : (((min b x.length : Nat) : Int) - ((min a x.length : Nat) : Int)).toNat = min b x.length - min a x.length := by omega
  rw [e1, e2, ← hl]
  show mk _ = mk _
  congr 1
  apply List.ext_getElem?
  intro i
  simp only [List.getElem?_take, List.getElem?_drop]
  by_cases h1 : a ≤ x.cps.toList.length
  · by_cases h2 : b ≤ x.cps.toList.length
    · rw [Nat.min_eq_left h1, Nat.min_eq_left h2]
    · rw [Nat.min_eq_left h1, Nat.min_eq_right (by omega)]
      by_cases h3 : i < x.cps.toList.length - a
      · rw [if_pos h3, if_pos (by omega)]
      · rw [if_neg h3]
        split
        · rw [List.getElem?_eq_none (by omega)]
        · rfl
  · rw [Nat.min_eq_right (by omega), Nat.min_eq_right (by omega)]
    rw [if_neg (by omega)]
    split
    · rw [List.getElem?_eq_none (by omega)]
    · rfl
theorem take_one {l : List Nat} {c : Nat} : (l.take 1 = [c]) ↔ l.head? = some c := by
  cases l with
  | nil => simp
  | cons a l => simp
end Mine
end

section
open PySem PySem.W PySem.Calls PyProof.Rows
namespace Mine
local macro_rules | `(tactic| k_room) => `(tactic| (simp only [Around.deeper] at *; omega))
local macro_rules | `(tactic| walk_at "MY def") => `(tactic| (refine' open_def ?C ?o ?c ?b ?lo ?_ ?c2 ?c3 ?c4 ?c5; (case C => assumption); (case o => k_is); (case c => k_is); (case b => exact BindsTo.of_eq rfl); (case lo => exact locs rfl); (case c2 => exact rfl); (case c3 => exact rfl); (case c4 => exact rfl); (case c5 => decide)))

/-- what an exception's way out says -/
abbrev Flown (base g : Heap) (outer : List Env) (R : Result → Shared → Prop) (s : Shared) : Prop :=
  ∀ h' tk e t vs, RaisedS base g outer e (.ref 44) t vs [] h' → g.UpToSlots h' → R (.error (.ref e)) { s with heap := h', toks := tk }

theorem sheet_out {w : World} {A : Around} {base g : Heap} {outer : List Env} {E E2 : Value → Shared → Prop} {s : Shared} {n : Nat} {L a : Addr} {m : Str → Option Value} {name : Str} {scope : Scope} {cd : Value} {y : Str} {ty : Tok} {R : Result → Shared → Prop}
    (C : Cal w A base outer g (n + 3)) (F : Fr g L s.heap m) (hn : Flown base g outer R s) (hk : scope.kind = .function) :
    wpAny (model PySem.Challenge.rw_nu0048_01.row.prog w) (A.deeper (envOf name scope L a cd)) (call (.ref 44) [.str y ty])
      (fun v s₁ => ∃ e t dd, v = .ref e ∧ (hd.heap_39 w.params).In s₁.heap ∧ s₁.heap.get? e = some (excObj (some dd) t) ∧
        wpAny (model PySem.Challenge.rw_nu0048_01.row.prog w) (A.deeper (envOf name scope L a cd)) (leaving (envOf name scope L a cd) (.ref e)) (fun _ s'' => R (.error (.ref e)) s'') E2 s₁) E s := by
  have C2 := C.deeper (env := envOf name scope L a cd) F rfl hk
  refine sheet_call C2 ?_
  intro h' tk' e t M
  obtain ⟨dd, he⟩ := M.there
  refine ⟨e, t, dd, rfl, C2.X.keeps M.keeps, he, ?_⟩
  refine leave_x C.below M F hk ?_
  intro h2 t2 RS U
  exact hn _ _ _ _ _ RS U

theorem ee_next {x : Str} {i j : Nat} {o : Option Nat} (he : (eend o (x.cps.toList.drop j)).map (j + ·) = (eend none (x.cps.toList.drop i)).map (i + ·))
   {o' : Option Nat} (h : eend o (x.cps.toList.drop j) = (eend o' (x.cps.toList.drop (j + 1))).map (· + 1)) :
   (eend o' (x.cps.toList.drop (j + 1))).map (j + 1 + ·) = (eend none (x.cps.toList.drop i)).map (i + ·) := by
  rw [← he, h, Option.map_map]
  congr 1
  funext k
  simp only [Function.comp]
  omega


section
variable {x : Str} {j : Nat} {o : Option Nat}
theorem ee_c (hlt : (j : Int) < (x.length : Int)) : x.cps.toList.drop j = x.cps.toList.getD j 0 :: x.cps.toList.drop (j + 1) := drop_at (by
  have : x.cps.toList.length = x.length := by simp [Str.length]
  omega)
theorem ee_1 (hlt : (j : Int) < (x.length : Int)) (h1 : (qs o != ("" : Str)) = true) (h2 : (Txt.item x (j : Int) == qs o) = true) : eend o (x.cps.toList.drop j) = (eend none (x.cps.toList.drop (j + 1))).map (· + 1) := by
  rw [qs_empty] at h1
  cases o with
  | none => cases h1
  | some c =>
    rw [item_mk hlt, qs, mk_beq, decide_eq_true_eq] at h2
    rw [ee_c hlt, eend, if_pos (List.cons.inj h2).1]
theorem ee_2 (hlt : (j : Int) < (x.length : Int)) (h1 : (qs o != ("" : Str)) = true) (h2 : (Txt.item x (j : Int) == qs o) = false) : eend o (x.cps.toList.drop j) = (eend o (x.cps.toList.drop (j + 1))).map (· + 1) := by
  rw [qs_empty] at h1
  cases o with
  | none => cases h1
  | some c =>
    rw [item_mk hlt, qs, mk_beq, decide_eq_false_iff_not] at h2
    rw [ee_c hlt, eend, if_neg (fun q => h2 (by rw [q]))]
theorem ee_q {b : Bool} (hlt : (j : Int) < (x.length : Int)) (h : (Builtin.Str.occurrences ("'\"" : Str) (Txt.item x (j : Int)) 0 ("'\"" : Str).length 1).isEmpty = b) :
    decide (x.cps.toList.getD j 0 = 39 ∨ x.cps.toList.getD j 0 = 34) = !b := by
  rw [item_mk hlt, in_qq] at h
  rw [← h, Bool.not_not]
theorem ee_none (h1 : (qs o != ("" : Str)) = false) : o = none := by
  rw [qs_empty] at h1
  cases o with
  | none => rfl
  | some c => cases h1
theorem ee_b {b : Bool} {c : Nat} {y : Str} (hlt : (j : Int) < (x.length : Int)) (hy : y = mk [c]) (h : (Txt.item x (j : Int) == y) = b) : decide (x.cps.toList.getD j 0 = c) = b := by
  rw [item_mk hlt, hy, mk_beq] at h
  rw [← h]
  simp
theorem ee_3 (hlt : (j : Int) < (x.length : Int)) (h1 : (qs o != ("" : Str)) = false) (h2 : (Builtin.Str.occurrences ("'\"" : Str) (Txt.item x (j : Int)) 0 ("'\"" : Str).length 1).isEmpty = true) (h3 : (Txt.item x (j : Int) == ("}" : Str)) = true) :
    eend o (x.cps.toList.drop j) = some 0 := by
  obtain rfl := ee_none h1
  have a := of_decide_eq_false (ee_q hlt h2)
  have b := of_decide_eq_true (ee_b hlt lit_cb h3)
  rw [ee_c hlt, eend, if_neg a, if_pos b]
theorem ee_4 (hlt : (j : Int) < (x.length : Int)) (h1 : (qs o != ("" : Str)) = false) (h2 : (Builtin.Str.occurrences ("'\"" : Str) (Txt.item x (j : Int)) 0 ("'\"" : Str).length 1).isEmpty = true) (h3 : (Txt.item x (j : Int) == ("}" : Str)) = false) (h4 : (Txt.item x (j : Int) == ("{" : Str)) = true) :
    eend o (x.cps.toList.drop j) = none := by
  obtain rfl := ee_none h1
  have a := of_decide_eq_false (ee_q hlt h2)
  have b := of_decide_eq_false (ee_b hlt lit_cb h3)
  have c := of_decide_eq_true (ee_b hlt lit_ob h4)
  rw [ee_c hlt, eend, if_neg a, if_neg b, if_pos c]
theorem ee_5 (hlt : (j : Int) < (x.length : Int)) (h1 : (qs o != ("" : Str)) = false) (h2 : (Builtin.Str.occurrences ("'\"" : Str) (Txt.item x (j : Int)) 0 ("'\"" : Str).length 1).isEmpty = true) (h3 : (Txt.item x (j : Int) == ("}" : Str)) = false) (h4 : (Txt.item x (j : Int) == ("{" : Str)) = false) :
    eend o (x.cps.toList.drop j) = (eend o (x.cps.toList.drop (j + 1))).map (· + 1) := by
  obtain rfl := ee_none h1
  have a := of_decide_eq_false (ee_q hlt h2)
  have b := of_decide_eq_false (ee_b hlt lit_cb h3)
  have c := of_decide_eq_false (ee_b hlt lit_ob h4)
  rw [ee_c hlt, eend, if_neg a, if_neg b, if_neg c]
theorem ee_6 (hlt : (j : Int) < (x.length : Int)) (h1 : (qs o != ("" : Str)) = false) (h2 : (Builtin.Str.occurrences ("'\"" : Str) (Txt.item x (j : Int)) 0 ("'\"" : Str).length 1).isEmpty = false) :
    eend o (x.cps.toList.drop j) = (eend (some (x.cps.toList.getD j 0)) (x.cps.toList.drop (j + 1))).map (· + 1) := by
  obtain rfl := ee_none h1
  have a := of_decide_eq_true (ee_q hlt h2)
  rw [ee_c hlt, eend, if_pos a]
theorem ee_7 (hlt : ¬ (j : Int) < (x.length : Int)) : eend o (x.cps.toList.drop j) = none := by
  have : x.cps.toList.length = x.length := by simp [Str.length]
  rw [List.drop_eq_nil_of_le (by omega)]
  cases o <;> rfl
theorem ee_len (hlt : (j : Int) < (x.length : Int)) : ((x.length : Int) - ((j + 1 : Nat) : Int)).toNat < ((x.length : Int) - (j : Int)).toNat := by omega
theorem ee_none_of {i : Nat} (he : (eend o (x.cps.toList.drop j)).map (j + ·) = (eend none (x.cps.toList.drop i)).map (i + ·)) (h : eend o (x.cps.toList.drop j) = none) : eend none (x.cps.toList.drop i) = none := by
  rw [h] at he
  cases q : eend none (x.cps.toList.drop i) with
  | none => rfl
  | some k => rw [q] at he; cases he
theorem ee_some_of {i : Nat} (he : (eend o (x.cps.toList.drop j)).map (j + ·) = (eend none (x.cps.toList.drop i)).map (i + ·)) (h : eend o (x.cps.toList.drop j) = some 0) : ∃ k, eend none (x.cps.toList.drop i) = some k ∧ i + k = j := by
  rw [h] at he
  cases q : eend none (x.cps.toList.drop i) with
  | none => rw [q] at he; cases he
  | some k => rw [q] at he; exact ⟨k, rfl, by simpa using he.symm⟩
end
set_option maxRecDepth 100000 in
set_option maxHeartbeats 8000000 in
theorem ee_call {w : World} {A : Around} {base : Heap} {outer : List Env} {s : Shared} {n : Nat} {x : Str} {i : Nat} {tx ti : Tok} {R : Result → Shared → Prop}
    (C : Cal w A base outer s.heap (n + 3)) (hx : x.length ≤ 1000000)
    (h : ∀ h' tk td k, eend none (x.cps.toList.drop i) = some k → (∀ p o, s.heap.get? p = some o → h'.get? p = some o) → R (.ok (.ret (.int ((i + k : Nat) : Int) td))) { s with heap := h', toks := tk })
    (hE : eend none (x.cps.toList.drop i) = none → Flown base s.heap outer R s) :
    codeAny (model PySem.Challenge.rw_nu0048_01.row.prog w) A (.call (.ref 53) ⟨[.str x tx, .int (i : Int) ti], []⟩) R s := by
  have X9 := C.X
  revert X9
  k_fill
  intro X9
  walk_at "MY def"
  intro L' h₁ F N
  have C0 := C
  obtain ⟨B, _, ⟨loose, mean, mg, mb, T⟩, _, hd, hu, hh⟩ := C
  have X := X9
  replace T := T.keeps B.stays
  w_on
  walk1
  walk1
  walk1
  walk1
  rename_i h2 F2 N2
  walk1
  refine While_inv2 (fun n m nx => ∃ (o : Option Nat) (j : Nat) (tq tj : Tok), nx = [] ∧ m "text" = some (.str x tx) ∧ m "quote" = some (.str (qs o) tq) ∧ m "at" = some (.int (j : Int) tj) ∧ (eend o (x.cps.toList.drop j)).map (j + ·) = (eend none (x.cps.toList.drop i)).map (i + ·) ∧ n = ((x.length : Int) - j).toNat) (n₀ := ((x.length : Int) - i).toNat) F2 N2 ?j ?t ?e
  case j => exact ⟨none, i, _, _, rfl, rfl, rfl, rfl, rfl, rfl⟩
  case t =>
    rintro n1 m1 nx1 h1 tk1 F1 N1 ⟨o, j, tq, tj, rfl, hm1, hm2, hm3, hj, rfl⟩
    replace F1 := pinF F1 (pinE (pinE (pinE rfl hm1) hm2) hm3)
    clear hm1 hm2 hm3
    k_steps
    all_goals (try dsimp only)
    all_goals first | (rename ((j : Int) < _) => hlt) | (rename (¬ (j : Int) < _) => hlt)
    · rename ((qs o != _) = true) => q1
      rename ((Txt.item x _ == qs o) = true) => q2
      exact ⟨_, _, _, _, _, rfl, by assumption, by assumption, ee_len hlt, none, j + 1, _, _, rfl, rfl, rfl, rfl, ee_next hj (ee_1 hlt q1 q2), rfl⟩
    · rename ((qs o != _) = true) => q1
      rename ((Txt.item x _ == qs o) = false) => q2
      exact ⟨_, _, _, _, _, rfl, by assumption, by assumption, ee_len hlt, o, j + 1, _, _, rfl, rfl, rfl, rfl, ee_next hj (ee_2 hlt q1 q2), rfl⟩
    · rename ((qs o != _) = false) => q1
      rename (List.isEmpty _ = true) => q2
      rename ((Txt.item x _ == "}") = true) => q3
      obtain ⟨k, hk, hik⟩ := ee_some_of hj (ee_3 hlt q1 q2 q3)
      subst hik
      exact h _ _ _ k hk (Fr.keep (by assumption))
    · rename ((qs o != _) = false) => q1
      rename (List.isEmpty _ = true) => q2
      rename ((Txt.item x _ == "}") = false) => q3
      rename ((Txt.item x _ == "{") = true) => q4
      have hn := hE (ee_none_of hj (ee_4 hlt q1 q2 q3 q4))
      refine raise_sheet (w := w) hh ?_
      k_steps
      exact sheet_out C0 (by assumption) hn rfl
    · rename ((qs o != _) = false) => q1
      rename (List.isEmpty _ = true) => q2
      rename ((Txt.item x _ == "}") = false) => q3
      rename ((Txt.item x _ == "{") = false) => q4
      exact ⟨_, _, _, _, _, rfl, by assumption, by assumption, ee_len hlt, o, j + 1, _, _, rfl, rfl, rfl, rfl, ee_next hj (ee_5 hlt q1 q2 q3 q4), rfl⟩
    · rename ((qs o != _) = false) => q1
      rename (List.isEmpty _ = false) => q2
      have e6 := ee_6 hlt q1 q2
      rw [item_mk hlt] at *
      exact ⟨_, _, _, _, _, rfl, by assumption, by assumption, ee_len hlt, some (x.cps.toList.getD j 0), j + 1, _, _, rfl, rfl, rfl, rfl, ee_next hj e6, rfl⟩
    · have hn := hE (ee_none_of hj (ee_7 hlt))
      refine raise_sheet (w := w) hh ?_
      k_steps
      exact sheet_out C0 (by assumption) hn rfl
  case e => passes_own
end Mine
end

section
open PySem PySem.W PySem.Calls PyProof.Rows
namespace Mine
local macro_rules | `(tactic| k_room) => `(tactic| (simp only [Around.deeper] at *; omega))
local macro_rules | `(tactic| walk_at "MY def") => `(tactic| (refine' open_def ?C ?o ?c ?b ?lo ?_ ?c2 ?c3 ?c4 ?c5; (case C => assumption); (case o => k_is); (case c => k_is); (case b => exact BindsTo.of_eq rfl); (case lo => exact locs rfl); (case c2 => exact rfl); (case c3 => exact rfl); (case c4 => exact rfl); (case c5 => decide)))

local macro_rules | `(tactic| k_all) => `(tactic| assumption)

def kindS (b : Bool) : Str := if b then "path" else "text"
/-- made pairs: a ledger bears them -/
inductive PairsIn (tl : List (Addr × Obj)) : List Value → List (Bool × List Nat) → Prop
  | nil : PairsIn tl [] []
  | cons {a : Addr} {b : Bool} {t : List Nat} {t1 t2 : Tok} {vs : List Value} {ps : List (Bool × List Nat)} : (a, tupObj [.str (kindS b) t1, .str (mk t) t2]) ∈ tl → PairsIn tl vs ps → PairsIn tl (.ref a :: vs) ((b, t) :: ps)
theorem PairsIn.mono {tl tl' : List (Addr × Obj)} (k : ∀ p ∈ tl, p ∈ tl') {vs : List Value} {ps : List (Bool × List Nat)} (h : PairsIn tl vs ps) : PairsIn tl' vs ps := by
  induction h with
  | nil => exact .nil
  | cons hm _ ih => exact .cons (k _ hm) ih
theorem PairsIn.length {tl : List (Addr × Obj)} {vs : List Value} {ps : List (Bool × List Nat)} (h : PairsIn tl vs ps) : vs.length = ps.length := by
  induction h with
  | nil => rfl
  | cons _ _ ih => simp [ih]
theorem PairsIn.append {tl : List (Addr × Obj)} {vs ws : List Value} {ps qs : List (Bool × List Nat)} (h : PairsIn tl vs ps) (k : PairsIn tl ws qs) : PairsIn tl (vs ++ ws) (ps ++ qs) := by
  induction h with
  | nil => exact k
  | cons hm _ ih => exact .cons hm ih
theorem PairsIn.snoc {tl : List (Addr × Obj)} {vs : List Value} {ps : List (Bool × List Nat)} {a : Addr} {b : Bool} {t : List Nat} {t1 t2 : Tok} (h : PairsIn tl vs ps) :
    PairsIn ((a, tupObj [.str (kindS b) t1, .str (mk t) t2]) :: tl) (vs ++ [.ref a]) (ps ++ [(b, t)]) :=
  (h.mono fun _ hp => .tail _ hp).append (.cons (.head _) .nil)

theorem news_rot3 {g h : Heap} {L : Addr} {a b c : Addr × Obj} {tl : List (Addr × Obj)} (N : News g L h (a :: b :: c :: tl)) : News g L h (c :: a :: b :: tl) := by
  intro p hp
  refine N p ?_
  simp only [List.mem_cons] at hp ⊢
  rcases hp with q | q | q | q <;> simp [q]
theorem news_rot2 {g h : Heap} {L : Addr} {a b : Addr × Obj} {tl : List (Addr × Obj)} (N : News g L h (a :: b :: tl)) : News g L h (b :: a :: tl) := by
  intro p hp
  refine N p ?_
  simp only [List.mem_cons] at hp ⊢
  rcases hp with q | q | q <;> simp [q]

theorem ee_wp {w : World} {A : Around} {base g : Heap} {outer : List Env} {E2 : Value → Shared → Prop} {s : Shared} {n : Nat} {L a : Addr} {m : Str → Option Value} {name : Str} {scope : Scope} {cd : Value} {news : List (Addr × Obj)}
    {x : Str} {i : Nat} {v : Int} {tx ti : Tok} {R : Result → Shared → Prop} {Q : Value → Shared → Prop}
    (C : Cal w A base outer g (n + 4)) (F : Fr g L s.heap m) (N : News g L s.heap news) (hk : scope.kind = .function) (hx : x.length ≤ 1000000) (hv : v = (i : Int))
    (h : ∀ h' tk td k, eend none (x.cps.toList.drop i) = some k → Fr g L h' m → News g L h' news → Q (.int ((i + k : Nat) : Int) td) { s with heap := h', toks := tk })
    (hE : eend none (x.cps.toList.drop i) = none → Flown base g outer R s) :
    wpAny (model PySem.Challenge.rw_nu0048_01.row.prog w) (A.deeper (envOf name scope L a cd)) (call (.ref 53) [.str x tx, .int v ti]) Q
      (fun e s' => wpAny (model PySem.Challenge.rw_nu0048_01.row.prog w) (A.deeper (envOf name scope L a cd)) (leaving (envOf name scope L a cd) e) (fun _ s'' => R (.error e) s'') E2 s') s := by
  subst hv
  have C2 := C.deeper (env := envOf name scope L a cd) F rfl hk
  refine wpAny_call (ee_call C2 hx (fun h' tk td k hk' kp => h h' tk td k hk' (fr_after F kp) (news_after N kp)) fun hn => ?_)
  intro h' tk e t vs RS U
  refine leave_onS C.below F RS U ?_
  intro h2 RS2 _ U2
  exact hE hn _ _ _ _ _ RS2 U2

section
variable {x : Str} {j : Nat} {pl : List Nat} {ps : List (Bool × List Nat)} {RES : Option (List (Bool × List Nat))}
theorem sp_in {b : Bool} (hlt : (j : Int) < (x.length : Int)) (h : (Builtin.Str.occurrences ("{}" : Str) (Txt.item x (j : Int)) 0 ("{}" : Str).length 1).isEmpty = b) :
    decide (x.cps.toList.getD j 0 = 123 ∨ x.cps.toList.getD j 0 = 125) = !b := by
  rw [item_mk hlt, in_bb] at h
  rw [← h, Bool.not_not]
theorem sp_two {b : Bool} (hlt : (j : Int) < (x.length : Int)) (h : (Txt.slice x (some ((j : Int) + 1)) (some ((j : Int) + 2)) == Txt.item x (j : Int)) = b) :
    decide ((x.cps.toList.drop (j + 1)).head? = some (x.cps.toList.getD j 0)) = b := by
  rw [item_mk hlt, show (j : Int) + 1 = ((j + 1 : Nat) : Int) from rfl, show (j : Int) + 2 = ((j + 2 : Nat) : Int) from rfl, slice_mk _ _ _ (by omega), show j + 2 - (j + 1) = 1 by omega, mk_beq] at h
  rw [← h]
  simp only [take_one]
theorem sp_3 (hj : (splitX (x.cps.toList.drop j) pl).map (ps ++ ·) = RES) (hlt : (j : Int) < (x.length : Int)) (h2 : (Builtin.Str.occurrences ("{}" : Str) (Txt.item x (j : Int)) 0 ("{}" : Str).length 1).isEmpty = true) :
    (splitX (x.cps.toList.drop (j + 1)) (pl ++ [x.cps.toList.getD j 0])).map (ps ++ ·) = RES := by
  have a := of_decide_eq_false (sp_in hlt h2)
  rw [ee_c hlt, splitX_sign (fun q => a (.inl q)) (fun q => a (.inr q))] at hj
  exact hj
theorem sp_4 (hj : (splitX (x.cps.toList.drop j) pl).map (ps ++ ·) = RES) (hlt : (j : Int) < (x.length : Int)) (h2 : (Builtin.Str.occurrences ("{}" : Str) (Txt.item x (j : Int)) 0 ("{}" : Str).length 1).isEmpty = false)
    (h3 : (Txt.slice x (some ((j : Int) + 1)) (some ((j : Int) + 2)) == Txt.item x (j : Int)) = true) :
    (splitX (x.cps.toList.drop (j + 2)) (pl ++ [x.cps.toList.getD j 0])).map (ps ++ ·) = RES ∧ j + 2 ≤ x.length := by
  have a := of_decide_eq_true (sp_in hlt h2)
  have b := of_decide_eq_true (sp_two hlt h3)
  rw [ee_c hlt, splitX_two a b, List.tail_drop] at hj
  refine ⟨hj, ?_⟩
  have hl : x.cps.toList.length = x.length := by simp [Str.length]
  rcases Nat.lt_or_ge (j + 1) x.length with q | q
  · exact q
  · rw [List.drop_eq_nil_of_le (by omega)] at b; cases b
theorem sp_6 (hj : (splitX (x.cps.toList.drop j) pl).map (ps ++ ·) = RES) (hlt : (j : Int) < (x.length : Int)) (h3 : (Txt.slice x (some ((j : Int) + 1)) (some ((j : Int) + 2)) == Txt.item x (j : Int)) = false) (h4 : (Txt.item x (j : Int) == ("}" : Str)) = true) : RES = none := by
  have a := of_decide_eq_true (ee_b hlt lit_cb h4)
  have b := of_decide_eq_false (sp_two hlt h3)
  rw [a] at b
  rw [ee_c hlt, a, splitX_close b] at hj
  exact hj.symm
theorem sp_5 (hj : (splitX (x.cps.toList.drop j) pl).map (ps ++ ·) = RES) (hlt : (j : Int) < (x.length : Int)) (h3 : (Txt.slice x (some ((j : Int) + 1)) (some ((j : Int) + 2)) == Txt.item x (j : Int)) = false) (h4 : (Txt.item x (j : Int) == ("{" : Str)) = true) :
    (eend none (x.cps.toList.drop (j + 1)) = none → RES = none) ∧
    ∀ k, eend none (x.cps.toList.drop (j + 1)) = some k → (splitX (x.cps.toList.drop (j + 1 + k + 1)) []).map ((ps ++ flush pl ++ [(true, (x.cps.toList.drop (j + 1)).take k)]) ++ ·) = RES := by
  have a := of_decide_eq_true (ee_b hlt lit_ob h4)
  have b := of_decide_eq_false (sp_two hlt h3)
  rw [a] at b
  rw [ee_c hlt, a, splitX_open b] at hj
  constructor
  · intro q
    rw [q] at hj
    exact hj.symm
  · intro k q
    rw [q] at hj
    dsimp only at hj
    rw [List.drop_drop, Option.map_map] at hj
    rw [← hj, show j + 1 + (k + 1) = j + 1 + k + 1 by omega]
    congr 1
    funext r
    simp
theorem sp_len {k : Nat} (hlt : (j : Int) < (x.length : Int)) (h : eend none (x.cps.toList.drop (j + 1)) = some k) : j + 1 + k + 1 ≤ x.length := by
  have go : ∀ (l : List Nat) (o : Option Nat) (k : Nat), eend o l = some k → k < l.length := by
    intro l
    induction l with
    | nil => intro o k h; cases o <;> cases h
    | cons c r ih =>
      intro o k h
      rw [List.length_cons]
      cases o with
      | some q =>
        rw [eend] at h
        cases e : eend (if c = q then none else some q) r with
        | none => rw [e] at h; cases h
        | some n => rw [e] at h; have := ih _ _ e; simp at h; omega
      | none =>
        rw [eend] at h
        split at h
        · cases e : eend (some c) r with
          | none => rw [e] at h; cases h
          | some n => rw [e] at h; have := ih _ _ e; simp at h; omega
        · split at h
          · simp at h; omega
          · split at h
            · cases h
            · cases e : eend none r with
              | none => rw [e] at h; cases h
              | some n => rw [e] at h; have := ih _ _ e; simp at h; omega
  have q := go _ _ _ h
  have hl : x.cps.toList.length = x.length := by simp [Str.length]
  rw [List.length_drop, hl] at q
  omega
theorem sp_end (hj : (splitX (x.cps.toList.drop j) pl).map (ps ++ ·) = RES) (hlt : ¬ (j : Int) < (x.length : Int)) : RES = some (ps ++ flush pl) := by
  have hl : x.cps.toList.length = x.length := by simp [Str.length]
  rw [List.drop_eq_nil_of_le (by omega), splitX_nil] at hj
  exact hj.symm
theorem sp_slice {k : Nat} : Txt.slice x (some ((j : Int) + 1)) (some ((j + 1 + k : Nat) : Int)) = mk ((x.cps.toList.drop (j + 1)).take k) := by
  rw [show (j : Int) + 1 = ((j + 1 : Nat) : Int) from rfl, slice_mk _ _ _ (by omega), show j + 1 + k - (j + 1) = k by omega]
theorem flush_some (h : (mk pl != ("" : Str)) = true) : flush pl = [(false, pl)] := by
  rw [lit_empty] at h
  have : pl ≠ [] := by
    rintro rfl
    simp at h
  simp [flush, this]
theorem flush_none (h : (mk pl != ("" : Str)) = false) : flush pl = [] := by
  rw [lit_empty] at h
  have : pl = [] := mk_inj.mp (by simpa using h)
  simp [flush, this]
theorem mk_empty : (mk pl != ("" : Str)) = !decide (pl = []) := by
  rw [lit_empty]
  show (!(mk pl == mk [])) = _
  rw [mk_beq]
end
set_option maxRecDepth 100000 in
set_option maxHeartbeats 8000000 in
theorem split_call {w : World} {A : Around} {base : Heap} {outer : List Env} {s : Shared} {n : Nat} {x : Str} {tx : Tok} {R : Result → Shared → Prop}
    (C : Cal w A base outer s.heap (n + 4)) (hx : x.length ≤ 100000)
    (h : ∀ h' tk l vs ps nl tl, splitX x.cps.toList [] = some ps → (∀ p o, s.heap.get? p = some o → h'.get? p = some o) → (∀ p ∈ (l, listOf vs.toArray nl) :: tl, h'.get? p.1 = some p.2 ∧ s.heap.get? p.1 = none) → PairsIn tl vs ps →
      R (.ok (.ret (.ref l))) { s with heap := h', toks := tk })
    (hE : splitX x.cps.toList [] = none → Flown base s.heap outer R s) :
    codeAny (model PySem.Challenge.rw_nu0048_01.row.prog w) A (.call (.ref 60) ⟨[.str x tx], []⟩) R s := by
  have X9 := C.X
  revert X9
  k_fill
  intro X9
  walk_at "MY def"
  intro L' h₁ F N
  have C0 := C
  obtain ⟨B, _, ⟨loose, mean, mg, mb, T⟩, _, hd, hu, hh⟩ := C
  have X := X9
  replace T := T.keeps B.stays
  w_on
  iterate 16 walk1
  rename Fr _ _ _ _ => F2
  rename News _ _ _ _ => N2
  rename_i lp _ _ _ _ _
  refine While_inv2 (fun n m nx => ∃ (ps : List (Bool × List Nat)) (pl : List Nat) (j : Nat) (vs : List Value) (nl : Nat) (tl : List (Addr × Obj)) (tp tj : Tok), nx = (lp, listOf vs.toArray nl) :: tl ∧ (∀ p ∈ tl, p.1 ≠ lp) ∧ PairsIn tl vs ps ∧
      m "text" = some (.str x tx) ∧ m "parts" = some (.ref lp) ∧ m "plain" = some (.str (mk pl) tp) ∧ m "at" = some (.int (j : Int) tj) ∧
      (splitX (x.cps.toList.drop j) pl).map (ps ++ ·) = splitX x.cps.toList [] ∧ j ≤ x.length ∧ pl.length ≤ j ∧ vs.length ≤ 2 * j ∧ n = x.length - j) (n₀ := x.length) F2 N2 ?j ?t ?e
  case j => exact ⟨[], [], 0, [], _, [], _, _, rfl, by simp, .nil, rfl, rfl, rfl, rfl, by simp, by omega, by simp, by simp, by simp⟩
  case t =>
    rintro n1 m1 nx1 h1 tk1 F1 N1 ⟨ps, pl, j, vs, nl, tl, tp, tj, rfl, hoff, hps, hm1, hm2, hm3, hm4, hj, hjl, hpl, hvs, rfl⟩
    replace F1 := pinF F1 (pinE (pinE (pinE (pinE rfl hm1) hm2) hm3) hm4)
    clear hm1 hm2 hm3 hm4
    have hps' : (mk pl).length ≤ x.length := by rw [mk_len]; omega
    k_steps
    all_goals (try dsimp only)
    all_goals first | (rename ((j : Int) < _) => hlt) | (rename (¬ (j : Int) < _) => hlt)
    · rename (List.isEmpty _ = true) => q2
      rename ((Txt.item x _ == "{") = true) => q3
      exact absurd (Or.inl (of_decide_eq_true (ee_b hlt lit_ob q3))) (of_decide_eq_false (sp_in hlt q2))
    · rename (List.isEmpty _ = true) => q2
      rename ((Txt.item x _ == "}") = true) => q3
      exact absurd (Or.inr (of_decide_eq_true (ee_b hlt lit_cb q3))) (of_decide_eq_false (sp_in hlt q2))
    · rename (List.isEmpty _ = true) => q2
      rename Fr _ _ _ _ => F9
      rw [item_mk hlt, mk_app] at F9
      exact ⟨_, _, _, _, _, rfl, F9, by assumption, (by omega : x.length - (j + 1) < _), ps, pl ++ [x.cps.toList.getD j 0], j + 1, vs, nl, tl, _, _, rfl, hoff, hps, rfl, rfl, rfl, rfl, sp_3 hj hlt q2, by omega, by simp; omega, by omega, rfl⟩
    · rename (List.isEmpty _ = false) => q2
      rename ((_ == Txt.item x _) = true) => q3
      have e4 := sp_4 hj hlt q2 q3
      rename Fr _ _ _ _ => F9
      rw [item_mk hlt, mk_app] at F9
      exact ⟨_, _, _, _, _, rfl, F9, by assumption, (by omega : x.length - (j + 2) < _), ps, pl ++ [x.cps.toList.getD j 0], j + 2, vs, nl, tl, _, _, rfl, hoff, hps, rfl, rfl, rfl, rfl, e4.1, e4.2, by simp; omega, by omega, rfl⟩
    · rename ((_ == Txt.item x _) = false) => q3
      rename ((Txt.item x _ == "{") = true) => q4
      have e5 := sp_5 hj hlt q3 q4
      refine ee_wp C0 (by assumption) (by assumption) rfl (by omega) (i := j + 1) rfl ?_ fun q => hE (e5.1 q)
      intro h9 tk9 td9 k hk F9 N9
      have e6 := e5.2 k hk
      have e7 := sp_len hlt hk
      k_steps
      · rename ((mk pl != "") = true) => hne
        rename Fr _ _ _ _ => F8
        rename News _ _ _ _ => N8
        rw [lit_empty] at F8
        simp only [sp_slice, List.push_toArray] at N8
        rw [flush_some hne] at e6
        rename (_ ∧ lp < _ ∧ AllLt _ tl) => l2
        rename (lp < _ ∧ AllLt _ tl) => l1
        refine ⟨_, _, _, _, _, rfl, F8, news_rot3 N8, (by omega : x.length - (j + 1 + k + 1) < _), _, [], j + 1 + k + 1, _, _, _, _, _, rfl, ?oo, (hps.snoc (b := false) (t := pl)).snoc (b := true), rfl, rfl, rfl, rfl, e6, e7, by simp, ?vv, rfl⟩
        case oo =>
          intro p hp
          simp only [List.mem_cons] at hp
          rcases hp with rfl | rfl | q
          · exact Nat.ne_of_gt l2.2.1
          · exact Nat.ne_of_gt l1.1
          · exact hoff p q
        case vv => simp; omega
      · rename ((mk pl != "") = false) => hne
        rename Fr _ _ _ _ => F8
        rename News _ _ _ _ => N8
        rw [lit_empty] at F8
        simp only [sp_slice, List.push_toArray] at N8
        rw [flush_none hne, List.append_nil] at e6
        rename (lp < _ ∧ AllLt _ tl) => l1
        refine ⟨_, _, _, _, _, rfl, F8, news_rot2 N8, (by omega : x.length - (j + 1 + k + 1) < _), _, [], j + 1 + k + 1, _, _, _, _, _, rfl, ?oo, hps.snoc (b := true), rfl, rfl, rfl, rfl, e6, e7, by simp, ?vv, rfl⟩
        case oo =>
          intro p hp
          simp only [List.mem_cons] at hp
          rcases hp with rfl | q
          · exact Nat.ne_of_gt l1.1
          · exact hoff p q
        case vv => simp; omega
    · rename ((_ == Txt.item x _) = false) => q3
      rename ((Txt.item x _ == "}") = true) => q4
      have hn := hE (sp_6 hj hlt q3 q4)
      refine raise_sheet (w := w) hh ?_
      k_steps
      exact sheet_out (C0.le (n' := n + 3) (by omega)) (by assumption) hn rfl
    · rename (List.isEmpty _ = false) => q2
      rename ((Txt.item x _ == "{") = false) => q3
      rename ((Txt.item x _ == "}") = false) => q4
      have a := of_decide_eq_true (sp_in hlt q2)
      exact absurd a (by rintro (q | q); exact of_decide_eq_false (ee_b hlt lit_ob q3) q; exact of_decide_eq_false (ee_b hlt lit_cb q4) q)
    · rename ((mk pl != "") = true) => hne
      have he := sp_end hj hlt
      rw [flush_some hne] at he
      rename Fr _ _ _ _ => F8
      rename News _ _ _ _ => N8
      simp only [List.push_toArray] at N8
      rename (lp < _ ∧ AllLt _ tl) => l1
      have N8' := news_rot2 N8
      exact h _ _ _ _ _ _ _ he F8.keep (fun p hp => ⟨(N8' p hp).1, (N8' p hp).2.2⟩) (hps.snoc (b := false) (t := pl))
    · rename ((mk pl != "") = false) => hne
      have he := sp_end hj hlt
      rw [flush_none hne, List.append_nil] at he
      exact h _ _ lp vs _ nl tl he (Fr.keep (by assumption)) (fun p hp => ⟨(N1 p hp).1, (N1 p hp).2.2⟩) hps
  case e => passes_own
end Mine
end

section
open PySem PySem.W PySem.Calls PyProof.Rows
namespace Mine
section
variable {prog : Program} {w : World} {A : Around} {E : Value → Shared → Prop} {s : Shared} {env : Env} {h₀ : Heap} {x : Str} {body : List Stmt} {Q : Flow → Shared → Prop}
/-- a loop over range(k), its state told by J -/
theorem range_loop {r : Addr} {k : Int} {t₀ u₀ v₀ : Tok} {m₀ : Str → Option Value} {news : List (Addr × Obj)} (J : Nat → (Str → Option Value) → List (Addr × Obj) → Prop)
    (hh : A.handled = none) (hr : IsRange s.heap r 0 k 1 t₀ u₀ v₀) (hk : 0 ≤ k) (hk2 : k < 100000) (F : Fr h₀ env.locals s.heap m₀) (N : News h₀ env.locals s.heap news) (hj : J 0 m₀ news)
    (turn : ∀ i t m₁ nx h tk own, i < k.toNat → OwnOff own (nx.map (·.1)) → J i m₁ nx → Fr h₀ env.locals h (fun y => if y = x then some (.int i t) else m₁ y) → News h₀ env.locals h (nx ++ own) →
      wpAny (model prog w) A (execs body env) (InvPostG h₀ env.locals (J (i + 1)) own { s with heap := h, toks := tk } Q) E { s with heap := h, toks := tk })
    (done : ∀ m₁ nx h tk, J k.toNat m₁ nx → Fr h₀ env.locals h m₁ → News h₀ env.locals h nx → Q .next { s with heap := h, toks := tk }) :
    wpAny (model prog w) A (pyIter (.ref r)) (fun it s₂ => LoopAtV prog w A h₀ env x body Q E it s₂) E s := by
  have hsmall : Builtin.Range.small 0 k 1 = true := small_one (by decide) (by decide) (by omega) (by omega)
  have hsz : Builtin.Range.rangeSize 0 k 1 = ((k.toNat : Nat) : Int) := by
    unfold Builtin.Range.rangeSize
    rw [if_pos (by decide)]
    by_cases h : 0 < k
    · rw [if_pos h]; omega
    · rw [if_neg h]; omega
  refine wpAny_pyIter_range hr hsmall ?_
  have W : Walks prog w A s.heap.objs.size [s.heap.objs.size] [s.heap.objs.size] k.toNat (fun i v => i < k.toNat ∧ ∃ t, v = .int (0 + i * 1) t)
      (fun i h => IsRangeIter h s.heap.objs.size (0 + (i : Nat) * 1) ((k.toNat : Int) - (i : Nat)) 1) := (Walks.range hh _ 0 1 k.toNat).bound
  refine kdr_loop J W (fun _ h => h) (fun _ h => h) ?_ ?_ ?_ ?_ (by show IsRangeIter _ _ _ _ _; rw [hsz]; simpa using Heap.get?_push_size _ rfl) (F.push _) (fun p hp => ⟨Heap.get?_push_of_some _ (N p hp).1, (N p hp).2⟩) hj ?_ done
  · intro i h hi b hb
    rw [List.mem_singleton.mp hb]
    exact ⟨_, hi⟩
  · intro hm
    exact absurd F.ns.lt ((List.mem_singleton.mp hm) ▸ Nat.lt_irrefl _)
  · intro b hb
    rw [List.mem_singleton.mp hb]
    exact next_is_new F
  · intro p hp hI
    exact absurd (Heap.lt_size (N p hp).1) ((List.mem_singleton.mp hI) ▸ Nat.lt_irrefl _)
  · rintro i v m₁ nx h tk own hi ⟨_, t, rfl⟩ hoff hj F₁ N₁
    have e1 : (0 : Int) + (i : Int) * 1 = (i : Int) := by omega
    rw [e1] at F₁
    exact turn i t m₁ nx h tk own hi hoff hj F₁ N₁
/-- a loop over a list of the base, whose items are taken apart -/
theorem base_turns {target : Expr} {l : Addr} {vs : List Value} {m₀ : Str → Option Value} {news : List (Addr × Obj)} (J : Nat → (Str → Option Value) → List (Addr × Obj) → Prop)
    (hh : A.handled = none) (hl : h₀.IsList l vs.toArray) (F : Fr h₀ env.locals s.heap m₀) (N : News h₀ env.locals s.heap news) (hj : J 0 m₀ news)
    (turn : ∀ i v m₁ nx h tk own, vs[i]? = some v → OwnOff own (nx.map (·.1)) → J i m₁ nx → Fr h₀ env.locals h m₁ → News h₀ env.locals h (nx ++ own) →
      wpAny (model prog w) A (assign target env v) (fun _ s₂ => wpAny (model prog w) A (execs body env) (InvPostG h₀ env.locals (J (i + 1)) own { s with heap := h, toks := tk } Q) E s₂) E { s with heap := h, toks := tk })
    (done : ∀ m₁ nx h tk, J vs.length m₁ nx → Fr h₀ env.locals h m₁ → News h₀ env.locals h nx → Q .next { s with heap := h, toks := tk }) :
    wpAny (model prog w) A (pyIter (.ref l)) (fun it s₂ => TurnsAt prog w A h₀ env target body Q E it s₂) E s := by
  have hls : s.heap.IsList l vs.toArray := hl.at fun o e => F.keep l o e
  obtain ⟨ol, hol, _⟩ := id hl
  have hlt : l < h₀.objs.size := Heap.lt_size hol
  have hne : l ≠ s.heap.objs.size := Nat.ne_of_lt (Nat.lt_trans (Nat.lt_of_lt_of_le hlt F.above) F.ns.lt)
  refine wpAny_pyIter_list hls ?_
  have W := KTurns.ofWalks (target := target) (Walks.list (prog := prog) (w := w) hh s.heap.objs.size l hne vs.toArray) fun i v s Q E st q => letGo_listiter st.1 q
  refine ⟨_, _, _, _, _, _, _, m₀, news, J, rfl, W, ?_, ?_, ?_, ⟨⟨_, Heap.get?_push_size _ rfl, rfl, rfl⟩, hls.at fun o e => Heap.get?_push_of_some _ e⟩, F.push _, (fun p hp => ⟨Heap.get?_push_of_some _ (N p hp).1, (N p hp).2⟩), hj, ?_, ?_⟩
  · intro hm
    rcases List.mem_cons.mp hm with e | hm
    · exact absurd F.ns.lt (e ▸ Nat.lt_irrefl _)
    · exact absurd (Nat.lt_of_lt_of_le hlt F.above) ((List.mem_singleton.mp hm) ▸ Nat.lt_irrefl _)
  · intro b hb
    rw [List.mem_singleton.mp hb]
    exact next_is_new F
  · intro p hp hI
    exact absurd (Heap.lt_size (N p hp).1) ((List.mem_singleton.mp hI) ▸ Nat.lt_irrefl _)
  · rintro i v m₁ news₁ hh' tk' own hin hP hJ hoff hown _ hfp hst F₁ N₁
    have hI0 : h₀.get? s.heap.objs.size = none := next_is_new F
    obtain ⟨⟨oI, hoI, _⟩, _⟩ := id hst
    have hIown : (s.heap.objs.size, oI) ∈ own := hfp _ (List.mem_cons.mpr (.inl rfl)) hI0 _ hoI
    have hsep : OwnOff own (news₁.map (·.1)) := by
      intro p hp b hb e
      obtain ⟨q, hq, rfl⟩ := List.mem_map.mp hb
      rcases List.mem_cons.mp (hown p hp) with h1 | h1
      · exact hoff q hq (List.mem_singleton.mpr (e ▸ h1))
      · have h2 := List.mem_singleton.mp h1
        have h3 := (N₁ q (List.mem_append.mpr (.inr hq))).2.2
        rw [← e, h2, hol] at h3
        cases h3
    have N₂ : News h₀ env.locals hh' (news₁ ++ own) := fun p hp => N₁ p ((List.mem_append.mp hp).elim (fun h => List.mem_append.mpr (.inr h)) fun h => List.mem_append.mpr (.inl h))
    have hv : vs[i]? = some v := by simpa using hP
    refine wpAny_mono (turn i v m₁ news₁ hh' tk' own hv hsep hJ F₁ N₂) (fun _ s₁ p => wpAny_mono p (fun f s₂ p => ?_) fun _ _ e => e) fun _ _ e => e
    have fin : InvEndG h₀ env.locals (J (i + 1)) own { s with heap := hh', toks := tk' } s₂ → LoopStepU h₀ env.locals [s.heap.objs.size] own (J (i + 1)) { s with heap := hh', toks := tk' } .next s₂ := by
      rintro ⟨h', tk, m', news', nx, e, F', N', hn, ho, ha, hm⟩
      refine ⟨rfl, h', tk, m', nx, e, F', fun p hp => N' p ((List.mem_append.mp hp).elim (ho p) (hn p)), fun p hp hq => ?_, hm⟩
      exact ha _ hIown p.1 (List.mem_map.mpr ⟨p, hp, rfl⟩) (List.mem_singleton.mp hq).symm
    cases f with
    | ret v => exact .ret p
    | brk => exact .brk p
    | next => exact .next (fin p)
    | cont => exact .cont (fin p)
  · rintro h' tk m' news' F' N' _ hJ
    have e : vs.toArray.size = vs.length := by simp
    exact done m' news' h' tk (e ▸ hJ) F' N'
end
theorem off_cons {own tl : List (Addr × Obj)} {a : Addr} {o : Obj} (h : OwnOff own (((a, o) :: tl).map (·.1))) : (∀ p ∈ own, p.1 ≠ a) ∧ OwnOff own (tl.map (·.1)) :=
  ⟨fun p hp => h p hp _ (.head _), fun p hp b hb => h p hp b (.tail _ hb)⟩
theorem off_more {own tl : List (Addr × Obj)} {a : Addr} {o : Obj} (h : ∀ p ∈ own, p.1 ≠ a) (k : OwnOff own (tl.map (·.1))) : OwnOff own (((a, o) :: tl).map (·.1)) := by
  intro p hp b hb
  rcases List.mem_cons.mp hb with rfl | hb
  · exact h p hp
  · exact k p hp b hb
theorem all_app {P : Addr × Obj → Prop} {tl own : List (Addr × Obj)} (h : ∀ p ∈ tl, P p) (k : ∀ p ∈ own, P p) : ∀ p ∈ tl ++ own, P p := fun p hp => (List.mem_append.mp hp).elim (h p) (k p)
end Mine
end

section
open PySem PySem.Calls PyProof.Rows
namespace Mine
/-- what comes behind a tree may know that no token was taken back -/
theorem wpAny_toks {α : Type} {M : Model} {A : Around} {t : Sem α} {Q : α → Shared → Prop} {E : Value → Shared → Prop} {s : Shared}
    (h : wpAny M A t (fun a s' => s.toks ≤ s'.toks → Q a s') (fun e s' => s.toks ≤ s'.toks → E e s') s) : wpAny M A t Q E s :=
  wpAny_mono (wpAny_toks_of (Nat.le_refl _) h) (fun _ _ x => x.2 x.1) fun _ _ x => x.2 x.1
/-- a state's tokens told by a bound alone -/
theorem wpAny_low {α : Type} {M : Model} {A : Around} {t : Sem α} {Q : α → Shared → Prop} {E : Value → Shared → Prop} {s : Shared}
    (h : ∀ tk, s.toks ≤ tk → wpAny M A t Q E { s with toks := tk }) : wpAny M A t Q E s := h s.toks (Nat.le_refl _)
end Mine
end

section
open PySem PySem.W PySem.Calls PyProof.Rows
namespace Mine
local macro_rules | `(tactic| k_room) => `(tactic| (simp only [Around.deeper] at *; omega))
local macro_rules | `(tactic| walk_at "MY hid") => `(tactic| (refine' open_hid ?C ?hh ?o ?c ?b ?lo ?_ ?c2 ?c3 ?c4 ?c5; (case C => assumption); (case hh => assumption); (case o => k_is); (case c => k_is); (case b => exact BindsTo.of_eq rfl); (case lo => exact locs rfl); (case c2 => exact rfl); (case c3 => exact rfl); (case c4 => exact rfl); (case c5 => decide)))
theorem fm1 (a : Int) : a.fmod 2147483647 = a % 2147483647 := Int.fmod_eq_emod_of_nonneg _ (by decide)
theorem fm2 (a : Int) : a.fmod 2147483629 = a % 2147483629 := Int.fmod_eq_emod_of_nonneg _ (by decide)
theorem gd0 (a b : Int) : [a, b].getD (Int.toNat 0) 0 = a := rfl
theorem gd1 (a b : Int) : [a, b].getD (Int.toNat 1) 0 = b := rfl
local macro_rules | `(tactic| mul_fits) => `(tactic| (refine IntMulOk.of_right (PySem.intBits_le_64 ?_ ?_) <;> (simp only [gd0, gd1, fm1, fm2] at *; omega)))
theorem fd_le {a t : Int} (ha : 0 ≤ a) (ht : 0 < t) : 0 ≤ a.fdiv t ∧ a.fdiv t ≤ a := by
  rw [Int.fdiv_eq_ediv_of_nonneg _ (Int.le_of_lt ht)]
  exact ⟨Int.ediv_nonneg ha (Int.le_of_lt ht), Int.ediv_le_self _ ha⟩
theorem fm_lt {a t : Int} (ht : 0 < t) : 0 ≤ a.fmod t ∧ a.fmod t < t := by
  rw [Int.fmod_eq_emod_of_nonneg _ (Int.le_of_lt ht)]
  exact ⟨Int.emod_nonneg _ (by omega), Int.emod_lt_of_pos _ ht⟩
/-- the drawing object: two ints -/
def srcObj (a b : Int) (ta tb : Tok) (nn : Nat) : Obj := listOf #[.int a ta, .int b tb] nn
set_option maxRecDepth 100000 in
set_option maxHeartbeats 8000000 in
theorem take_call {w : World} {A : Around} {base : Heap} {outer : List Env} {s : Shared} {n : Nat} {l : Addr} {a b top : Int} {ta tb tt : Tok} {nn : Nat} {R : Result → Shared → Prop}
    (C : Cal w A base outer (hideAll s.heap [l]) (n + 1))
    (hl : s.heap.get? l = some (listOf #[.int a ta, .int b tb] nn)) (ha : 0 ≤ a) (hb : 0 ≤ b) (hb2 : b < 2147483647) (ht : 0 < top) (ht2 : top < 100)
    (h : ∀ h' tk d a' b' ta' tb' td, (∀ p o, p ≠ l → s.heap.get? p = some o → h'.get? p = some o) → h'.get? l = some (listOf #[.int a' ta', .int b' tb'] nn) → 0 ≤ a' → 0 ≤ b' → b' < 2147483647 → a' ≤ a → 0 ≤ d → d < top →
      R (.ok (.ret (.int d td))) { s with heap := h', toks := tk }) :
    codeAny (model PySem.Challenge.rw_nu0048_01.row.prog w) A (.call (.ref 81) ⟨[.ref l, .int top tt], []⟩) R s := by
  have X9 := C.X
  revert X9
  k_fill
  intro X9
  walk_at "MY hid"
  intro L' h₁ F N
  have C0 := C
  obtain ⟨B, _, ⟨loose, mean, mg, mb, T⟩, _, hd, hu, hh⟩ := C
  have X := X9
  replace T := T.keeps B.stays
  w_on
  (try k_fold)
  k_steps
  · (try dsimp only); (try k_unfold); (try dsimp only); simp only [gd0, gd1] at *
    refine h _ _ _ _ _ _ _ _ (kept_hid (by assumption)) (News.get (by assumption) (.head _)) ?_ ?_ ?_ ?_ ?_ ?_
    · exact (fd_le ha ht).1
    · exact hb
    · exact hb2
    · exact (fd_le ha ht).2
    · exact (fm_lt ht).1
    · exact (fm_lt ht).2
  · (try dsimp only); (try k_unfold); (try dsimp only); simp only [gd0, gd1] at *
    refine h _ _ _ _ _ _ _ _ (kept_hid (by assumption)) (News.get (by assumption) (.head _)) ?_ ?_ ?_ ?_ ?_ ?_
    · exact ha
    · exact (fm_lt (by decide)).1
    · exact (fm_lt (by decide)).2
    · omega
    · exact (fm_lt ht).1
    · exact (fm_lt ht).2

theorem updf_mem {d : Addr} {o : Obj} {l : List (Addr × Obj)} {g : Obj → List (Addr × Obj)} (U : UpdF d o l g) : (d, o) ∈ l := by
  obtain ⟨pre, post, rfl, _⟩ := U.split
  simp
theorem take_wp {w : World} {A : Around} {base g : Heap} {outer : List Env} {E2 : Value → Shared → Prop} {s : Shared} {n : Nat} {L c l : Addr} {m : Str → Option Value} {name : Str} {scope : Scope} {cd : Value} {news : List (Addr × Obj)} {gf : Obj → List (Addr × Obj)}
    {a b top : Int} {ta tb tt : Tok} {nn : Nat} {Q : Value → Shared → Prop}
    (C : Cal w A base outer g (n + 2)) (F : Fr g L s.heap m) (N : News g L s.heap news) (U : UpdF l (listOf #[.int a ta, .int b tb] nn) news gf) (hk : scope.kind = .function)
    (ha : 0 ≤ a) (hb : 0 ≤ b) (hb2 : b < 2147483647) (ht : 0 < top) (ht2 : top < 100)
    (h : ∀ h' tk d a' b' ta' tb' td, (∀ p o, p ≠ l → s.heap.get? p = some o → h'.get? p = some o) → Fr g L h' m → News g L h' (gf (listOf #[.int a' ta', .int b' tb'] nn)) → 0 ≤ a' → 0 ≤ b' → b' < 2147483647 → 0 ≤ d → d < top →
      Q (.int d td) { s with heap := h', toks := tk }) :
    wpAny (model PySem.Challenge.rw_nu0048_01.row.prog w) (A.deeper (envOf name scope L c cd)) (call (.ref 81) [.ref l, .int top tt]) Q E2 s := by
  have hl := updf_mem U
  have C2 := C.hid (env := envOf name scope L c cd) F N hl rfl hk
  refine wpAny_call (take_call C2 (N _ hl).1 ha hb hb2 ht ht2 fun h' tk d a' b' ta' tb' td kp hl' h1 h2 h3 _ h5 h6 => ?_)
  exact h _ _ _ _ _ _ _ _ kp (fr_hid F N hl kp) (news_hid N U kp hl') h1 h2 h3 h5 h6

set_option maxRecDepth 100000 in
set_option maxHeartbeats 8000000 in
theorem one_call {w : World} {A : Around} {base : Heap} {outer : List Env} {s : Shared} {n : Nat} {l p : Addr} {a b : Int} {ta tb : Tok} {nn : Nat} {vs : List Value} {R : Result → Shared → Prop}
    (C : Cal w A base outer (hideAll s.heap [l]) (n + 3))
    (hl : s.heap.get? l = some (listOf #[.int a ta, .int b tb] nn)) (hp : (hideAll s.heap [l]).IsList p vs.toArray) (hv : 0 < vs.length) (hv2 : vs.length < 100) (ha : 0 ≤ a) (hb : 0 ≤ b) (hb2 : b < 2147483647)
    (h : ∀ h' tk a' b' ta' tb' v, (∀ p o, p ≠ l → s.heap.get? p = some o → h'.get? p = some o) → h'.get? l = some (listOf #[.int a' ta', .int b' tb'] nn) → 0 ≤ a' → 0 ≤ b' → b' < 2147483647 → v ∈ vs →
      R (.ok (.ret v)) { s with heap := h', toks := tk }) :
    codeAny (model PySem.Challenge.rw_nu0048_01.row.prog w) A (.call (.ref 88) ⟨[.ref l, .ref p], []⟩) R s := by
  have X9 := C.X
  revert X9
  k_fill
  intro X9
  walk_at "MY hid"
  intro L' h₁ F N
  have C0 := C
  obtain ⟨B, _, ⟨loose, mean, mg, mb, T⟩, _, hd, hu, hh⟩ := C
  have X := X9
  replace T := T.keeps B.stays
  w_on
  (try k_fold)
  k_steps
  refine len_list (F.lst hp) (by simp; omega) ?_
  k_steps
  refine take_wp C0 (by assumption) (by assumption) (by k_updF) rfl ha hb hb2 (by simp; omega) (by simp; omega) ?_
  intro h9 tk9 d9 a9 b9 ta9 tb9 td9 kp9 F9 N9 ha9 hb9 hb9' hd9 hd9'
  k_steps
  have hlt : d9.toNat < vs.length := by simp at hd9'; omega
  refine tail_any (F9.lst hp).typeIs slot_list_getitem.lookup (wpAny_getItem_list (F9.lst hp) hd9 (by simp at hd9'; omega) (x := vs[d9.toNat]) (by simp [hlt]) ?_) (by with_unfolding_all rfl)
  exact h _ _ _ _ _ _ _ (kept_hid F9) (News.get N9 (.head _)) ha9 hb9 hb9' (List.getElem_mem hlt)
theorem one_wp {w : World} {A : Around} {base g : Heap} {outer : List Env} {E2 : Value → Shared → Prop} {s : Shared} {n : Nat} {L c l p : Addr} {m : Str → Option Value} {name : Str} {scope : Scope} {cd : Value} {news : List (Addr × Obj)} {gf : Obj → List (Addr × Obj)}
    {a b : Int} {ta tb : Tok} {nn : Nat} {vs : List Value} {Q : Value → Shared → Prop}
    (C : Cal w A base outer g (n + 4)) (F : Fr g L s.heap m) (N : News g L s.heap news) (U : UpdF l (listOf #[.int a ta, .int b tb] nn) news gf) (hk : scope.kind = .function)
    (hp : s.heap.IsList p vs.toArray) (hpl : p ≠ l) (hv : 0 < vs.length) (hv2 : vs.length < 100) (ha : 0 ≤ a) (hb : 0 ≤ b) (hb2 : b < 2147483647)
    (h : ∀ h' tk a' b' ta' tb' v, (∀ p o, p ≠ l → s.heap.get? p = some o → h'.get? p = some o) → Fr g L h' m → News g L h' (gf (listOf #[.int a' ta', .int b' tb'] nn)) → 0 ≤ a' → 0 ≤ b' → b' < 2147483647 → v ∈ vs →
      Q v { s with heap := h', toks := tk }) :
    wpAny (model PySem.Challenge.rw_nu0048_01.row.prog w) (A.deeper (envOf name scope L c cd)) (call (.ref 88) [.ref l, .ref p]) Q E2 s := by
  have hl := updf_mem U
  have C2 := C.hid (env := envOf name scope L c cd) F N hl rfl hk
  have hp2 : (hideAll s.heap [l]).IsList p vs.toArray := by
    obtain ⟨o, ho, r⟩ := hp
    exact ⟨o, hideAll_get _ ho (by simpa using hpl), r⟩
  refine wpAny_call (one_call C2 (N _ hl).1 hp2 hv hv2 ha hb hb2 fun h' tk a' b' ta' tb' v kp hl' h1 h2 h3 h5 => ?_)
  exact h _ _ _ _ _ _ _ kp (fr_hid F N hl kp) (news_hid N U kp hl') h1 h2 h3 h5
end Mine
end

section
open PySem PySem.W PySem.Calls PyProof.Rows
namespace Mine
local macro_rules | `(tactic| k_room) => `(tactic| (simp only [Around.deeper] at *; omega))
local macro_rules | `(tactic| walk_at "MY hid") => `(tactic| (refine' open_hid ?C ?hh ?o ?c ?b ?lo ?_ ?c2 ?c3 ?c4 ?c5; (case C => assumption); (case hh => assumption); (case o => k_is); (case c => k_is); (case b => exact BindsTo.of_eq rfl); (case lo => exact locs rfl); (case c2 => exact rfl); (case c3 => exact rfl); (case c4 => exact rfl); (case c5 => decide)))
local macro_rules | `(tactic| walk_at "call type:range") => `(tactic| ((rename Fr _ _ _ _ => F'); (rename News _ _ _ _ => N'); (with_unfolding_all refine range1_rows F' N' ?_); intro _ _ _ _ _ _ _ _ _))

theorem all_nil {a : Addr} : ∀ p ∈ ([] : List (Addr × Obj)), p.1 ≠ a := fun _ h => nomatch h
theorem all_ne_cons {a b : Addr} {o : Obj} {tl : List (Addr × Obj)} (h : b ≠ a) (k : ∀ p ∈ tl, p.1 ≠ a) : ∀ p ∈ (b, o) :: tl, p.1 ≠ a := by
  intro p hp
  rcases List.mem_cons.mp hp with rfl | hp
  · exact h
  · exact k p hp
local macro_rules | `(tactic| k_all) => `(tactic| first | assumption | exact all_nil | (refine' all_ne_cons ?a ?b; (case a => k_ne); (case b => k_all)))
theorem skip_tgt {m : Str → Option Value} {x y : Str} {u v : Value} (hne : y ≠ x) (e : m y = some v) : (fun z => if z = x then some u else m z) y = some v := by simp [hne, e]
theorem allLt_ne {d : Addr} : ∀ {l : List (Addr × Obj)}, AllLt d l → ∀ p ∈ l, p.1 ≠ d
  | [], _, p, h => nomatch h
  | q :: r, h, p, hp => by
    rcases List.mem_cons.mp hp with rfl | hp
    · exact Nat.ne_of_lt h.1
    · exact allLt_ne h.2 p hp
theorem news_end5 {g h : Heap} {L : Addr} {D a b c d : Addr × Obj} {tl own : List (Addr × Obj)} (N : News g L h (D :: a :: b :: c :: d :: (tl ++ own))) : News g L h ((a :: b :: c :: d :: D :: tl) ++ own) := by
  intro p hp
  refine N p ?_
  simp only [List.mem_cons, List.cons_append, List.mem_append] at hp ⊢
  rcases hp with q | q | q | q | q | q | q <;> simp [q]
/-- a list of texts out of a menu -/
def Menu (vs : List Value) (ts : List (List Nat)) : Prop := ∀ v ∈ vs, ∃ t ∈ ts, ∃ tk, v = .str (mk t) tk
theorem paths_small : ∀ t ∈ paths, t.length ≤ 20 ∧ ∀ c ∈ t, c < 128 := by decide
theorem texts_small : ∀ t ∈ texts, t.length ≤ 20 ∧ ∀ c ∈ t, c < 128 := by decide
theorem all_snoc {α : Type} {P : α → Prop} {l : List α} {a : α} (h : ∀ p ∈ l, P p) (k : P a) : ∀ p ∈ l ++ [a], P p := by
  intro p hp
  rcases List.mem_append.mp hp with hp | hp
  · exact h p hp
  · rw [List.mem_singleton.mp hp]; exact k
theorem unhid {h : Heap} {l p : Addr} (z : (hideAll h [l]).get? p = none) (hne : p ≠ l) : h.get? p = none := by
  cases e : h.get? p with
  | none => rfl
  | some o => rw [hideAll_get _ e (by simpa using hne)] at z; cases z
theorem menu_texts {t1 t2 t3 t4 t5 t6 t7 t8 : Tok} : Menu [.str "x" t1, .str "{" t2, .str "}" t3, .str "{}" t4, .str "a b" t5, .str "}}{" t6, .str "'" t7, .str "\"" t8] texts := by
  intro v hv
  simp only [List.mem_cons, List.not_mem_nil, or_false] at hv
  rcases hv with rfl | rfl | rfl | rfl | rfl | rfl | rfl | rfl
  · exact ⟨[120], by decide, _, rfl⟩
  · exact ⟨[123], by decide, _, rfl⟩
  · exact ⟨[125], by decide, _, rfl⟩
  · exact ⟨[123, 125], by decide, _, rfl⟩
  · exact ⟨[97, 32, 98], by decide, _, rfl⟩
  · exact ⟨[125, 125, 123], by decide, _, rfl⟩
  · exact ⟨[39], by decide, _, rfl⟩
  · exact ⟨[34], by decide, _, rfl⟩
theorem menu_paths {t1 t2 t3 t4 t5 t6 t7 : Tok} : Menu [.str "a" t1, .str "@b" t2, .str "'}'" t3, .str "concat('{', \"}'\")" t4, .str "\"'\"" t5, .str "a[b='}{']" t6, .str "" t7] paths := by
  intro v hv
  simp only [List.mem_cons, List.not_mem_nil, or_false] at hv
  rcases hv with rfl | rfl | rfl | rfl | rfl | rfl | rfl
  · exact ⟨[97], by decide, _, rfl⟩
  · exact ⟨[64, 98], by decide, _, rfl⟩
  · exact ⟨[39, 125, 39], by decide, _, rfl⟩
  · exact ⟨[99, 111, 110, 99, 97, 116, 40, 39, 123, 39, 44, 32, 34, 125, 39, 34, 41], by decide, _, rfl⟩
  · exact ⟨[34, 39, 34], by decide, _, rfl⟩
  · exact ⟨[97, 91, 98, 61, 39, 125, 123, 39, 93], by decide, _, rfl⟩
  · exact ⟨[], by decide, _, rfl⟩
theorem gen4 {g h : Heap} {L a b c d : Addr} {m : Str → Option Value} {xb xc : List Value} {nb nc : Nat} {o : Obj}
    (F : Fr g L h (fun y => if y = "found" then some (.ref a) else if y = "texts" then some (.ref b) else if y = "paths" then some (.ref c) else m y))
    (N : News g L h [(a, listOf #[] 0), (b, listOf xb.toArray nb), (c, listOf xc.toArray nc), (d, o)]) (hb : Menu xb texts) (hc : Menu xc paths) (kb : 0 < xb.length ∧ xb.length < 100) (kc : 0 < xc.length ∧ xc.length < 100)
    (hm : m "source" = some (.ref d)) (l1 : @LT.lt Nat _ b a ∧ @LT.lt Nat _ c a ∧ @LT.lt Nat _ d a) (l2 : @LT.lt Nat _ c b ∧ @LT.lt Nat _ d b) (l3 : @LT.lt Nat _ d c) :
    ∃ (a b c : Addr) (xb xc : List Value) (nb nc : Nat) (m : Str → Option Value), Fr g L h m ∧ News g L h [(a, listOf #[] 0), (b, listOf xb.toArray nb), (c, listOf xc.toArray nc), (d, o)] ∧
      m "found" = some (.ref a) ∧ m "texts" = some (.ref b) ∧ m "paths" = some (.ref c) ∧ m "source" = some (.ref d) ∧ Menu xb texts ∧ Menu xc paths ∧ (0 < xb.length ∧ xb.length < 100) ∧ (0 < xc.length ∧ xc.length < 100) ∧
      (@LT.lt Nat _ b a ∧ @LT.lt Nat _ c a ∧ @LT.lt Nat _ d a) ∧ (@LT.lt Nat _ c b ∧ @LT.lt Nat _ d b) ∧ @LT.lt Nat _ d c :=
  ⟨a, b, c, xb, xc, nb, nc, _, F, N, rfl, rfl, rfl, hm, hb, hc, kb, kc, l1, l2, l3⟩
set_option maxRecDepth 100000 in
set_option maxHeartbeats 8000000 in
theorem drawn_call {w : World} {A : Around} {base : Heap} {outer : List Env} {s : Shared} {n : Nat} {l : Addr} {a b : Int} {ta tb : Tok} {nn : Nat} {R : Result → Shared → Prop}
    (C : Cal w A base outer (hideAll s.heap [l]) (n + 5))
    (hl : s.heap.get? l = some (listOf #[.int a ta, .int b tb] nn)) (ha : 0 ≤ a) (hb : 0 ≤ b) (hb2 : b < 2147483647)
    (h : ∀ h' tk a' b' ta' tb' lr vs ps nl tl, (∀ p o, p ≠ l → s.heap.get? p = some o → h'.get? p = some o) → h'.get? l = some (listOf #[.int a' ta', .int b' tb'] nn) → 0 ≤ a' → 0 ≤ b' → b' < 2147483647 →
      (∀ p ∈ (lr, listOf vs.toArray nl) :: tl, h'.get? p.1 = some p.2 ∧ s.heap.get? p.1 = none) → PairsIn tl vs ps → (∀ p ∈ ps, PieceOk p) → (∀ p ∈ ps, p.2.length ≤ 20 ∧ ∀ c ∈ p.2, c < 128) → ps.length ≤ 6 →
      R (.ok (.ret (.ref lr))) { s with heap := h', toks := tk }) :
    codeAny (model PySem.Challenge.rw_nu0048_01.row.prog w) A (.call (.ref 95) ⟨[.ref l], []⟩) R s := by
  have X9 := C.X
  revert X9
  k_fill
  intro X9
  walk_at "MY hid"
  intro L' h₁ F N
  have C0 := C
  obtain ⟨B, _, ⟨loose, mean, mg, mb, T⟩, _, hd, hu, hh⟩ := C
  have X := X9
  replace T := T.keeps B.stays
  w_on
  (try k_fold)
  k_steps
  refine take_wp C0 (by assumption) (by assumption) (by k_updF) rfl ha hb hb2 (by omega) (by omega) ?_
  intro h9 tk9 d9 a9 b9 ta9 tb9 td9 kp9 F9 N9 ha9 hb9 hb9' hd9 hd9'
  iterate 2 walk1
  rename IsRange _ _ _ _ _ _ _ _ => R9
  rename Fr _ _ _ _ => F8
  rename News _ _ _ _ => N8
  obtain ⟨lf, lt, lp, vT, vP, nT, nP, m8, F7, N7, g1, g2, g3, g4, mT, mP, kT, kP, l1, l2, l3⟩ := gen4 F8 N8 menu_texts menu_paths (by simp only [List.length_cons, List.length_nil]; omega) (by simp only [List.length_cons, List.length_nil]; omega) (by rfl) (by assumption) (by assumption) (by assumption)
  refine range_loop (fun i m nx => ∃ (vs : List Value) (ps : List (Bool × List Nat)) (nl : Nat) (tl : List (Addr × Obj)) (a b : Int) (ta tb : Tok), nx = (lf, listOf vs.toArray nl) :: (lt, listOf vT.toArray nT) :: (lp, listOf vP.toArray nP) :: (l, listOf #[.int a ta, .int b tb] nn) :: tl ∧
      (∀ p ∈ tl, p.1 ≠ lf) ∧ (∀ p ∈ tl, p.1 ≠ lt) ∧ (∀ p ∈ tl, p.1 ≠ lp) ∧ (∀ p ∈ tl, p.1 ≠ l) ∧ m "found" = some (.ref lf) ∧ m "texts" = some (.ref lt) ∧ m "paths" = some (.ref lp) ∧ m "source" = some (.ref l) ∧
      PairsIn tl vs ps ∧ (∀ p ∈ ps, PieceOk p) ∧ (∀ p ∈ ps, p.2.length ≤ 20 ∧ ∀ c ∈ p.2, c < 128) ∧ ps.length ≤ i ∧ 0 ≤ a ∧ 0 ≤ b ∧ b < 2147483647) hh R9 hd9 (by omega) F7 N7 ?_ ?_ ?_
  · exact ⟨[], [], 0, [], _, _, _, _, rfl, all_nil, all_nil, all_nil, all_nil, g1, g2, g3, g4, .nil, by simp, by simp, by simp, ha9, hb9, hb9'⟩
  · rintro i ti m1 nx h1 tk1 own hi hoff ⟨vs, ps, nl, tl, a1, b1, ta1, tb1, rfl, o1, o2, o3, o4, hm1, hm2, hm3, hm4, hps, hok, hsz, hlen, ha1, hb1, hb1'⟩ F1 N1
    replace F1 := pinF F1 (pinE (pinE (pinE (pinE rfl (skip_tgt (by decide) hm1)) (skip_tgt (by decide) hm2)) (skip_tgt (by decide) hm3)) (skip_tgt (by decide) hm4))
    clear hm1 hm2 hm3 hm4
    obtain ⟨q1, hoff⟩ := off_cons hoff
    obtain ⟨q2, hoff⟩ := off_cons hoff
    obtain ⟨q3, hoff⟩ := off_cons hoff
    obtain ⟨q4, hoff⟩ := off_cons hoff
    simp only [List.cons_append] at N1
    have r1 := all_app o1 q1
    have r2 := all_app o2 q2
    have r3 := all_app o3 q3
    have r4 := all_app o4 q4
    have hvl := hps.length
    obtain ⟨tl2, htl2⟩ : ∃ tl2, tl2 = tl ++ own := ⟨_, rfl⟩
    rw [← htl2] at r1 r2 r3 r4 N1
    k_steps
    refine take_wp C0 (by assumption) (by assumption) (by k_updF) rfl ha1 hb1 hb1' (by omega) (by omega) ?_
    intro h2 tk2 d2 a2 b2 ta2 tb2 td2 kp2 F2 N2 ha2 hb2 hb2' hd2 hd2'
    k_steps
    · refine one_wp C0 (by assumption) (by assumption) (by k_updF) rfl (p := lp) (vs := vP) (News.isList (by assumption) (by k_mem)) (by k_ne) kP.1 kP.2 ha2 hb2 hb2' ?_
      intro h3 tk3 a3 b3 ta3 tb3 v3 kp3 F3 N3 ha3 hb3 hb3' hv3
      obtain ⟨t, ht, tkt, rfl⟩ := mP _ hv3
      k_steps
      rename (_ ∧ _ ∧ _ ∧ _ ∧ AllLt _ tl2) => l9
      rename Fr _ _ _ _ => F4
      rename News _ _ _ _ => N4
      rw [htl2] at N4 l9
      simp only [List.push_toArray] at N4
      refine InvEndG.intro F4 (news_end5 N4) ⟨_, _, _, _, _, _, _, _, rfl, all_ne_cons (Nat.ne_of_gt l9.1) o1, all_ne_cons (Nat.ne_of_gt l9.2.1) o2, all_ne_cons (Nat.ne_of_gt l9.2.2.1) o3, all_ne_cons (Nat.ne_of_gt l9.2.2.2.1) o4, rfl, rfl, rfl, rfl,
        hps.snoc (b := true) (t := t), all_snoc hok ⟨fun _ => paths_ok _ ht, fun z => by cases z⟩, all_snoc hsz (paths_small _ ht), by simp; omega, ha3, hb3, hb3'⟩ (off_more q1 (off_more q2 (off_more q3 (off_more q4 (off_more (fun p hp => allLt_ne l9.2.2.2.2 p (List.mem_append_right _ hp)) hoff)))))
        (fun p hp => List.mem_append_left _ hp) (fun p hp => List.mem_append_right _ hp)
    · refine one_wp C0 (by assumption) (by assumption) (by k_updF) rfl (p := lt) (vs := vT) (News.isList (by assumption) (by k_mem)) (by k_ne) kT.1 kT.2 ha2 hb2 hb2' ?_
      intro h3 tk3 a3 b3 ta3 tb3 v3 kp3 F3 N3 ha3 hb3 hb3' hv3
      obtain ⟨t, ht, tkt, rfl⟩ := mT _ hv3
      k_steps
      rename (_ ∧ _ ∧ _ ∧ _ ∧ AllLt _ tl2) => l9
      rename Fr _ _ _ _ => F4
      rename News _ _ _ _ => N4
      rw [htl2] at N4 l9
      simp only [List.push_toArray] at N4
      refine InvEndG.intro F4 (news_end5 N4) ⟨_, _, _, _, _, _, _, _, rfl, all_ne_cons (Nat.ne_of_gt l9.1) o1, all_ne_cons (Nat.ne_of_gt l9.2.1) o2, all_ne_cons (Nat.ne_of_gt l9.2.2.1) o3, all_ne_cons (Nat.ne_of_gt l9.2.2.2.1) o4, rfl, rfl, rfl, rfl,
        hps.snoc (b := false) (t := t), all_snoc hok ⟨fun z => (by cases z), fun _ => texts_ok _ ht⟩, all_snoc hsz (texts_small _ ht), by simp; omega, ha3, hb3, hb3'⟩ (off_more q1 (off_more q2 (off_more q3 (off_more q4 (off_more (fun p hp => allLt_ne l9.2.2.2.2 p (List.mem_append_right _ hp)) hoff)))))
        (fun p hp => List.mem_append_left _ hp) (fun p hp => List.mem_append_right _ hp)
  · rintro m1 nx h1 tk1 ⟨vs, ps, nl, tl, a1, b1, ta1, tb1, rfl, o1, o2, o3, o4, hm1, hm2, hm3, hm4, hps, hok, hsz, hlen, ha1, hb1, hb1'⟩ F1 N1
    replace F1 := pinF F1 (pinE (pinE (pinE (pinE rfl hm1) hm2) hm3) hm4)
    k_steps
    dsimp only
    refine h _ _ _ _ _ _ lf vs ps nl tl (kept_hid F1) (N1 _ (.tail _ (.tail _ (.tail _ (.head _))))).1 ha1 hb1 hb1' (fun p hp => ?_) hps hok hsz (by omega)
    rcases List.mem_cons.mp hp with rfl | hp
    · exact ⟨(N1 _ (.head _)).1, unhid (N1 _ (.head _)).2.2 (Nat.ne_of_gt l1.2.2)⟩
    · have z := N1 p (.tail _ (.tail _ (.tail _ (.tail _ hp))))
      exact ⟨z.1, unhid z.2.2 (o4 p hp)⟩
end Mine
end

section
open PySem PySem.W PySem.Calls PyProof.Rows
namespace Mine
local macro_rules | `(tactic| k_room) => `(tactic| (simp only [Around.deeper] at *; omega))
local macro_rules | `(tactic| walk_at "MY def") => `(tactic| (refine' open_def ?C ?o ?c ?b ?lo ?_ ?c2 ?c3 ?c4 ?c5; (case C => assumption); (case o => k_is); (case c => k_is); (case b => exact BindsTo.of_eq rfl); (case lo => exact locs rfl); (case c2 => exact rfl); (case c3 => exact rfl); (case c4 => exact rfl); (case c5 => decide)))
local macro_rules | `(tactic| mul_fits) => `(tactic| (refine IntMulOk.of_right (PySem.intBits_le_64 ?_ ?_) <;> (simp only [fm1, fm2] at *; omega)))
theorem mul_bit {x : Int} {b : Bool} (h : 0 ≤ x) : 0 ≤ x * (if b = true then 1 else 0) := by
  cases b <;> simp [h]
set_option maxRecDepth 100000 in
set_option maxHeartbeats 8000000 in
theorem pool_call {w : World} {A : Around} {base : Heap} {outer : List Env} {s : Shared} {n : Nat} {p : Addr} {vs : List Value} {ns : List Int} {k : Int} {tk : Tok} {R : Result → Shared → Prop}
    (C : Cal w A base outer s.heap (n + 1)) (hs : s.heap.IsList p vs.toArray) (hi : IntsAre vs ns) (hlay : (PyData.list (ns.map PyData.int)).layable0 = true) (hlen : ¬ (63 : Int) < (ns.length : Int)) (hk : 0 ≤ k) (hk2 : k < 3)
    (h : ∀ h' tk l x y tx ty nn, (∀ p o, s.heap.get? p = some o → h'.get? p = some o) → h'.get? l = some (listOf #[.int x tx, .int y ty] nn) → s.heap.get? l = none → 0 ≤ x → 0 ≤ y → y < 2147483647 →
      R (.ok (.ret (.ref l))) { s with heap := h', toks := tk }) :
    codeAny (model PySem.Challenge.rw_nu0048_01.row.prog w) A (.call (.ref 74) ⟨[.ref p, .int k tk], []⟩) R s := by
  have X9 := C.X
  revert X9
  k_fill
  intro X9
  walk_at "MY def"
  intro L' h₁ F N
  have C0 := C
  obtain ⟨B, _, ⟨loose, mean, mg, mb, T⟩, _, hd, hu, hh⟩ := C
  have X := X9
  replace T := T.keeps B.stays
  w_on
  (try k_fold)
  k_steps
  · refine max_two_N hh (by assumption) (by assumption) ?_
    intro h9 tk9 F9 N9
    have hx0 : 0 ≤ (if -1 - ns.getD k.toNat 0 > ns.getD k.toNat 0 then -1 - ns.getD k.toNat 0 else ns.getD k.toNat 0) := by split <;> omega
    generalize (if -1 - ns.getD k.toNat 0 > ns.getD k.toNat 0 then -1 - ns.getD k.toNat 0 else ns.getD k.toNat 0) = x at hx0 ⊢
    k_steps
    rename Fr _ _ _ _ => F8
    rename News _ _ _ _ => N8
    have z := N8 _ (.head _)
    exact h _ _ _ _ _ _ _ _ F8.keep z.1 z.2.2 (mul_bit hx0) (fm_lt (by decide)).1 (fm_lt (by decide)).2
  · refine max_two_N hh (by assumption) (by assumption) ?_
    intro h9 tk9 F9 N9
    have hx0 : (0 : Int) ≤ (if -1 - (0 : Int) > 0 then -1 - 0 else 0) := by decide
    generalize (if -1 - (0 : Int) > 0 then -1 - 0 else 0) = x at hx0 ⊢
    k_steps
    rename Fr _ _ _ _ => F8
    rename News _ _ _ _ => N8
    have z := N8 _ (.head _)
    exact h _ _ _ _ _ _ _ _ F8.keep z.1 z.2.2 (mul_bit hx0) (fm_lt (by decide)).1 (fm_lt (by decide)).2
end Mine
end

section
open PySem PySem.W PySem.Calls PyProof.Rows
namespace Mine
local macro_rules | `(tactic| k_room) => `(tactic| (simp only [Around.deeper] at *; omega))
local macro_rules | `(tactic| walk_at "MY def") => `(tactic| (refine' open_def ?C ?o ?c ?b ?lo ?_ ?c2 ?c3 ?c4 ?c5; (case C => assumption); (case o => k_is); (case c => k_is); (case b => exact BindsTo.of_eq rfl); (case lo => exact locs rfl); (case c2 => exact rfl); (case c3 => exact rfl); (case c4 => exact rfl); (case c5 => decide)))
local macro_rules | `(tactic| walk_at "exec For Tuple Name cons nil") => `(tactic| ((rename Fr _ _ _ _ => lF'); (with_unfolding_all refine' For_turns lF' ?_; k_whole)))
theorem PairsIn.get {tl : List (Addr × Obj)} {vs : List Value} {ps : List (Bool × List Nat)} (h : PairsIn tl vs ps) {i : Nat} {v : Value} (hv : vs[i]? = some v) :
    ∃ a b t t1 t2, v = .ref a ∧ ps[i]? = some (b, t) ∧ (a, tupObj [.str (kindS b) t1, .str (mk t) t2]) ∈ tl := by
  induction h generalizing i with
  | nil => cases hv
  | cons hm _ ih =>
    cases i with
    | zero => cases hv; exact ⟨_, _, _, _, _, rfl, rfl, hm⟩
    | succ i => exact ih hv
theorem take_snoc {α : Type} {l : List α} {i : Nat} {a : α} (h : l[i]? = some a) : l.take (i + 1) = l.take i ++ [a] := by simp [List.take_add_one, h]
theorem dbl_len : ∀ t : List Nat, (dbl t).length ≤ 2 * t.length
  | [] => Nat.le_refl _
  | c :: r => by
    have := dbl_len r
    unfold dbl
    split <;> simp only [List.length_cons] <;> omega
theorem tmpl_small : ∀ ps : List (Bool × List Nat), (∀ q ∈ ps, q.2.length ≤ 20) → (tmpl ps).length ≤ 42 * ps.length
  | [], _ => Nat.le_refl _
  | (b, t) :: r, h => by
    have h1 := tmpl_small r fun q hq => h q (.tail _ hq)
    have h2 := h _ (.head _)
    have h3 := dbl_len t
    simp only at h2
    have h4 : (tmplOne (b, t)).length ≤ 42 := by
      unfold tmplOne
      cases b <;> simp <;> omega
    simp only [tmpl, List.length_append, List.length_cons]
    omega
theorem replace_ob (l : List Nat) : Txt.replace (mk l) "{" "{{" = mk (StrLaws.dbl 123 l) := by
  have h : _ = StrLaws.dbl 123 (mk l).cps.toList := StrLaws.replace_double (mk l) 123
  rw [show (mk l).cps.toList = l from rfl] at h
  rw [← h, mk_toList]
  rfl
theorem replace_cb (l : List Nat) : Txt.replace (mk l) "}" "}}" = mk (StrLaws.dbl 125 l) := by
  have h : _ = StrLaws.dbl 125 (mk l).cps.toList := StrLaws.replace_double (mk l) 125
  rw [show (mk l).cps.toList = l from rfl] at h
  rw [← h, mk_toList]
  rfl
theorem dbl_both : ∀ t : List Nat, StrLaws.dbl 125 (StrLaws.dbl 123 t) = dbl t
  | [] => rfl
  | c :: r => by
    have ih := dbl_both r
    by_cases h1 : c = 123
    · subst h1; simp [StrLaws.dbl, dbl, ih]
    · by_cases h2 : c = 125
      · subst h2; simp [StrLaws.dbl, dbl, ih]
      · simp [StrLaws.dbl, dbl, ih, h1, h2]
theorem dblc_len (c : Nat) : ∀ t : List Nat, (StrLaws.dbl c t).length ≤ 2 * t.length
  | [] => Nat.le_refl _
  | k :: r => by
    have := dblc_len c r
    unfold StrLaws.dbl
    split <;> simp only [List.length_cons] <;> omega
theorem tmpl_snoc (ps : List (Bool × List Nat)) (p : Bool × List Nat) : tmpl (ps ++ [p]) = tmpl ps ++ tmplOne p := by
  induction ps with
  | nil => simp [tmpl]
  | cons q r ih => simp only [List.cons_append, tmpl, ih, List.append_assoc]
theorem tup_is {h : Heap} {a : Addr} {vs : List Value} (e : h.get? a = some (tupObj vs)) : IsTup h a vs.toArray := ⟨_, e, rfl, _, rfl⟩
set_option maxRecDepth 100000 in
set_option maxHeartbeats 8000000 in
theorem template_call {w : World} {A : Around} {base : Heap} {outer : List Env} {s : Shared} {n : Nat} {p : Addr} {vs : List Value} {ps : List (Bool × List Nat)} {nn : Nat} {tl : List (Addr × Obj)} {R : Result → Shared → Prop}
    (C : Cal w A base outer s.heap (n + 1)) (hps : PairsIn tl vs ps) (hp : s.heap.get? p = some (listOf vs.toArray nn)) (htl : ∀ q ∈ tl, s.heap.get? q.1 = some q.2) (hsz : ∀ q ∈ ps, q.2.length ≤ 20) (hlen : ps.length ≤ 6)
    (h : ∀ h' tk t, (∀ p o, s.heap.get? p = some o → h'.get? p = some o) → R (.ok (.ret (.str (mk (tmpl ps)) t))) { s with heap := h', toks := tk }) :
    codeAny (model PySem.Challenge.rw_nu0048_01.row.prog w) A (.call (.ref 102) ⟨[.ref p], []⟩) R s := by
  have X9 := C.X
  revert X9
  k_fill
  intro X9
  walk_at "MY def"
  intro L' h₁ F N
  have C0 := C
  obtain ⟨B, _, ⟨loose, mean, mg, mb, T⟩, _, hd, hu, hh⟩ := C
  have X := X9
  replace T := T.keeps B.stays
  w_on
  (try k_fold)
  iterate 7 walk1
  rename Fr _ _ _ _ => F2
  rename News _ _ _ _ => N2
  refine base_turns (fun i m nx => ∃ t, m "found" = some (.str (mk (tmpl (ps.take i))) t)) hh ⟨_, hp, rfl, _, rfl⟩ F2 N2 ?_ ?_ ?_
  · exact ⟨_, rfl⟩
  · rintro i v m1 nx h1 tk1 own hv hoff ⟨t1, hm1⟩ F1 N1
    obtain ⟨a, b, t, ta, tb, rfl, hpi, hma⟩ := hps.get hv
    replace F1 := pinF F1 (pinE rfl hm1)
    rw [take_snoc hpi]
    have hT : IsTup h1 a #[.str (kindS b) ta, .str (mk t) tb] := tup_is (F1.keep _ _ (htl _ hma))
    have hq : t.length ≤ 20 := hsz _ (List.mem_of_getElem? hpi)
    have hsm := tmpl_small (ps.take i) (fun q hq => hsz q (List.mem_of_mem_take hq))
    have hil : i < ps.length := (List.getElem?_eq_some_iff.mp hpi).1
    rw [List.length_take] at hsm
    have hl1 : (mk t).length ≤ 20 := by rw [mk_len]; exact hq
    have hl2 : (mk (tmpl (ps.take i))).length ≤ 300 := by rw [mk_len]; omega
    cases b
    · refine unpackN_ F1 N1 hT hh rfl rfl ?_
      intro h2 F3 N3
      rw [show kindS false = "text" from rfl]
      iterate 16 walk1
      refine wpAny_low fun tk9 htk9 => ?_
      replace htk9 := Nat.lt_of_lt_of_le (Nat.succ_pos _) htk9
      k_steps
      refine wpAny_toks ?_
      refine SC.replaceW (Nat.ne_of_gt htk9) (Nat.succ_ne_zero _) (Nat.ne_of_lt (Nat.lt_succ_self _)) (by decide) (by omega) (by decide) ?_
      intro t8 tk8 htk8
      replace htk8 := Nat.lt_of_lt_of_le (Nat.succ_pos _) htk8
      rw [replace_ob]
      have hl3 := dblc_len 123 t
      have hl4 : (mk (StrLaws.dbl 123 t)).length ≤ 40 := by rw [mk_len]; omega
      k_steps
      refine SC.replaceW (Nat.ne_of_gt htk8) (Nat.succ_ne_zero _) (Nat.ne_of_lt (Nat.lt_succ_self _)) (by decide) (by omega) (by decide) ?_
      intro t7 tk7
      rw [replace_cb, dbl_both]
      have hl5 := dbl_len t
      have hl6 : (mk (dbl t)).length ≤ 40 := by rw [mk_len]; omega
      k_steps
      rename News _ _ _ _ => N9
      have e9 : mk (tmpl (ps.take i)) ++ mk (dbl t) = mk (tmpl (ps.take i ++ [(false, t)])) := by rw [mk_app, tmpl_snoc]; rfl
      exact InvEndG.intro (by assumption) N9 ⟨_, by rw [if_pos rfl, e9]⟩ hoff (fun p hp => List.mem_append_left _ hp) (fun p hp => List.mem_append_right _ hp)
    · refine unpackN_ F1 N1 hT hh rfl rfl ?_
      intro h2 F3 N3
      rw [show kindS true = "path" from rfl]
      k_steps
      rename News _ _ _ _ => N9
      have e9 : mk (tmpl (ps.take i)) ++ "{" ++ mk t ++ "}" = mk (tmpl (ps.take i ++ [(true, t)])) := by rw [lit_ob, lit_cb, mk_app, mk_app, mk_app, tmpl_snoc]; simp [tmplOne]
      exact InvEndG.intro (by assumption) N9 ⟨_, by rw [if_pos rfl, e9]⟩ hoff (fun p hp => List.mem_append_left _ hp) (fun p hp => List.mem_append_right _ hp)
  · rintro m1 nx h1 tk1 ⟨t1, hm1⟩ F1 N1
    replace F1 := pinF F1 (pinE rfl hm1)
    rw [hps.length, List.take_length] at F1
    k_steps
    dsimp only
    exact h _ _ _ F1.keep
end Mine
end

section
open PySem PySem.W PySem.Calls PyProof.Rows
namespace Mine
/-- a piece as plain data -/
def pd (p : Bool × List Nat) : PyData := .tuple [.str (kindS p.1), .str (mk p.2)]
theorem PairsIn.reads {h : Heap} {tl : List (Addr × Obj)} {vs : List Value} {ps : List (Bool × List Nat)} (hp : PairsIn tl vs ps) (k : ∀ q ∈ tl, h.get? q.1 = some q.2) : ∃ as, ReadsAll h vs (ps.map pd) as := by
  induction hp with
  | nil => exact ⟨_, .nil⟩
  | cons hm _ ih =>
    obtain ⟨as, r⟩ := ih
    exact ⟨_, .cons (reads_tuple_at (k _ hm) rfl rfl (.cons (.str _ _) (.cons (.str _ _) .nil))) r⟩
theorem reads_list {h : Heap} {l : Addr} {nn : Nat} {tl : List (Addr × Obj)} {vs : List Value} {ps : List (Bool × List Nat)} (hp : PairsIn tl vs ps) (k : ∀ q ∈ tl, h.get? q.1 = some q.2) (hl : h.get? l = some (listOf vs.toArray nn)) :
    ∃ as, Reads h (.ref l) (.list (ps.map pd)) as := by
  obtain ⟨as, r⟩ := hp.reads k
  exact ⟨_, reads_list_at hl rfl rfl (by simpa using r)⟩
theorem kind_beq (a b : Bool) : (kindS a == kindS b) = decide (a = b) := by cases a <;> cases b <;> decide
theorem pd_eqv (p q : Bool × List Nat) : PyData.eqv (pd p) (pd q) = decide (p = q) := by
  obtain ⟨a, t⟩ := p
  obtain ⟨b, u⟩ := q
  simp only [pd, PyData.eqv, PyData.eqvAll, kind_beq, mk_beq, Bool.and_true, Prod.mk.injEq]
  by_cases h1 : a = b <;> by_cases h2 : t = u <;> simp [h1, h2]
theorem eqv_all : ∀ ps qs : List (Bool × List Nat), PyData.eqvAll (ps.map pd) (qs.map pd) = decide (ps = qs)
  | [], [] => by simp [PyData.eqvAll]
  | [], _ :: _ => by simp [PyData.eqvAll]
  | _ :: _, [] => by simp [PyData.eqvAll]
  | p :: ps, q :: qs => by
    simp only [List.map_cons, PyData.eqvAll, pd_eqv, eqv_all ps qs, List.cons.injEq]
    by_cases h1 : p = q <;> by_cases h2 : ps = qs <;> simp [h1, h2]
theorem eqv_list (ps qs : List (Bool × List Nat)) : PyData.eqv (.list (ps.map pd)) (.list (qs.map pd)) = decide (ps = qs) := by
  rw [PyData.eqv, eqv_all]
/-- signs that a text may bear -/
def Ascii (t : List Nat) : Prop := ∀ c ∈ t, c < 128
theorem strOk_mk {t : List Nat} (h : Ascii t) : PyData.strOk (mk t) = true := by
  unfold PyData.strOk mk
  rw [List.all_toArray]
  simp only [List.all_eq_true, decide_eq_true_eq]
  intro c hc
  have := h c hc
  omega
theorem canLay_pds : ∀ ps : List (Bool × List Nat), (∀ p ∈ ps, Ascii p.2) → PyData.canLayAll0 (ps.map pd) = true
  | [], _ => by simp [PyData.canLayAll0]
  | (b, t) :: ps, h => by
    have e1 : PyData.strOk (kindS b) = true := by cases b <;> decide +kernel
    have e2 := strOk_mk (h _ (.head _))
    simp [pd, PyData.canLayAll0, PyData.canLay0, e1, e2, canLay_pds ps fun p hp => h p (.tail _ hp)]
theorem canLay_list (ps : List (Bool × List Nat)) (h : ∀ p ∈ ps, Ascii p.2) : (PyData.list (ps.map pd)).canLay0 = true := by
  rw [PyData.canLay0]
  exact canLay_pds ps h
theorem depth_pds : ∀ ps : List (Bool × List Nat), PyData.depthAll (ps.map pd) ≤ 1
  | [] => by simp [PyData.depthAll]
  | (b, t) :: ps => by
    have := depth_pds ps
    simp [pd, PyData.depthAll, PyData.depth]
    omega
theorem depth_list (ps : List (Bool × List Nat)) : (PyData.list (ps.map pd)).depth ≤ 2 := by
  have := depth_pds ps
  simp only [PyData.depth]
  omega
/-- two lists of pieces are compared -/
theorem pieces_ne {prog : Program} {w : World} {A : Around} {E : Value → Shared → Prop} {s : Shared} {a b : Addr} {na nb : Nat} {ta tb : List (Addr × Obj)} {va vb : List Value} {pa pb : List (Bool × List Nat)} {Q : Value → Shared → Prop}
    (ha : PairsIn ta va pa) (hb : PairsIn tb vb pb) (ka : ∀ q ∈ ta, s.heap.get? q.1 = some q.2) (kb : ∀ q ∈ tb, s.heap.get? q.1 = some q.2) (la : s.heap.get? a = some (listOf va.toArray na)) (lb : s.heap.get? b = some (listOf vb.toArray nb))
    (ga : ∀ p ∈ pa, Ascii p.2) (gb : ∀ p ∈ pb, Ascii p.2) (hu : A.units < 9800) (h : Q (.bool (!decide (pa = pb))) s) : wpAny (model prog w) A (compareOp .NotEq (.ref a) (.ref b)) Q E s := by
  obtain ⟨as, ra⟩ := reads_list ha ka la
  obtain ⟨bs, rb⟩ := reads_list hb kb lb
  have d := depth_list pa
  refine SeqAt.compareNe_reads ra rb (canLay_list pa ga) (canLay_list pb gb) ?_ (by rw [eqv_list]; exact h)
  show _ < 9900
  omega
/-- what the joining keeps small -/
def AccOk (n : Nat) (acc : List (Bool × List Nat)) : Prop := acc.length ≤ n ∧ ∀ q ∈ acc, q.2.length ≤ 20 * n ∧ Ascii q.2
theorem AccOk.nil : AccOk 0 [] := ⟨Nat.le_refl _, by simp⟩
theorem jstep_ok {n : Nat} {acc : List (Bool × List Nat)} {p : Bool × List Nat} (h : AccOk n acc) (h1 : p.2.length ≤ 20) (h2 : Ascii p.2) : AccOk (n + 1) (jstep acc p) := by
  obtain ⟨k1, k2⟩ := h
  have base : AccOk (n + 1) (acc ++ [p]) := by
    refine ⟨by simp; omega, fun q hq => ?_⟩
    rcases List.mem_append.mp hq with hq | hq
    · have := k2 q hq; exact ⟨by omega, this.2⟩
    · rw [List.mem_singleton.mp hq]; exact ⟨by omega, h2⟩
  unfold jstep
  split
  · rename_i u _ e
    have hu : (false, u) ∈ acc := List.mem_of_getLast? e
    have k3 := k2 _ hu
    refine ⟨by simp; omega, fun q hq => ?_⟩
    rcases List.mem_append.mp hq with hq | hq
    · have := k2 q (List.dropLast_subset _ hq); exact ⟨by omega, this.2⟩
    · rw [List.mem_singleton.mp hq]
      refine ⟨by simp only [List.length_append]; have := k3.1; simp only at this; omega, fun c hc => ?_⟩
      rcases List.mem_append.mp hc with hc | hc
      · exact k3.2 c hc
      · exact h2 c hc
  · exact base
theorem acc_ok : ∀ (ps acc : List (Bool × List Nat)) (n : Nat), AccOk n acc → (∀ q ∈ ps, q.2.length ≤ 20 ∧ Ascii q.2) → AccOk (n + ps.length) (ps.foldl jstep acc)
  | [], acc, n, h, _ => h
  | p :: ps, acc, n, h, k => by
    have z := acc_ok ps (jstep acc p) (n + 1) (jstep_ok h (k p (.head _)).1 (k p (.head _)).2) fun q hq => k q (.tail _ hq)
    rw [List.length_cons, show n + (ps.length + 1) = n + 1 + ps.length by omega]
    exact z
theorem fold_take {ps : List (Bool × List Nat)} {i : Nat} {p : Bool × List Nat} (h : ps[i]? = some p) : (ps.take (i + 1)).foldl jstep [] = jstep ((ps.take i).foldl jstep []) p := by
  rw [take_snoc h, List.foldl_append]
  rfl
theorem setL_last (vs : List Value) (a v : Value) : ki_setL (vs ++ [a]) vs.length v = some (vs ++ [v]) := by
  induction vs with
  | nil => rfl
  | cons x r ih => simp only [List.cons_append, List.length_cons, ki_setL, ih]
theorem PairsIn.cut {tl : List (Addr × Obj)} {vs : List Value} {ps : List (Bool × List Nat)} {p : Bool × List Nat} (h : PairsIn tl vs (ps ++ [p])) :
    ∃ ws a t1 t2, vs = ws ++ [.ref a] ∧ PairsIn tl ws ps ∧ (a, tupObj [.str (kindS p.1) t1, .str (mk p.2) t2]) ∈ tl := by
  induction ps generalizing vs with
  | nil =>
    cases h with
    | cons hm r => cases r with | nil => exact ⟨[], _, _, _, rfl, .nil, hm⟩
  | cons q qs ih =>
    cases h with
    | cons hm r =>
      obtain ⟨ws, a, t1, t2, rfl, h1, h2⟩ := ih r
      exact ⟨_ :: ws, a, t1, t2, rfl, .cons hm h1, h2⟩
end Mine
end

section
open PySem PySem.W PySem.Calls PyProof.Rows
namespace Mine
local macro_rules | `(tactic| k_room) => `(tactic| (simp only [Around.deeper] at *; omega))
local macro_rules | `(tactic| walk_at "MY def") => `(tactic| (refine' open_def ?C ?o ?c ?b ?lo ?_ ?c2 ?c3 ?c4 ?c5; (case C => assumption); (case o => k_is); (case c => k_is); (case b => exact BindsTo.of_eq rfl); (case lo => exact locs rfl); (case c2 => exact rfl); (case c3 => exact rfl); (case c4 => exact rfl); (case c5 => decide)))
local macro_rules | `(tactic| walk_at "exec For Tuple Name cons nil") => `(tactic| ((rename Fr _ _ _ _ => lF'); (with_unfolding_all refine' For_turns lF' ?_; k_whole)))
local macro_rules | `(tactic| k_all) => `(tactic| assumption)
section
variable {prog : Program} {w : World} {A : Around} {E : Value → Shared → Prop} {s : Shared} {h₀ : Heap} {L : Addr} {news : List (Addr × Obj)} {value slice : Expr} {Q : Value → Shared → Prop}
theorem last_of {l : Addr} {ws : List Value} {v : Value} {nl : Nat} {u : Tok} (N : News h₀ L s.heap news) (hm : (l, listOf (ws ++ [v]).toArray nl) ∈ news) (h : Q v s)
    (hs : subscripted slice false (.ref l) (.int (-1) u) = operate [.ref l, .int (-1) u] (getItem (.ref l) (.int (-1) u)) := by with_unfolding_all rfl) :
    wpAny (model prog w) A (subscriptTail value slice (.ref l) (.int (-1) u)) Q E s := by
  have hl : s.heap.IsList l (ws ++ [v]).toArray := ⟨_, (N _ hm).1, rfl, _, rfl⟩
  refine tail_any hl.typeIs slot_list_getitem.lookup (wpAny_getItem_list_neg hl (by decide) (by simp; omega) (by decide) (x := v) ?_ h) hs
  have e : ((-1 : Int) + ((ws ++ [v]).toArray.size : Int)).toNat = ws.length := by simp; omega
  rw [e]
  simp
theorem pair_of {l : Addr} {x y v : Value} {k : Int} {j : Nat} {u : Tok} (N : News h₀ L s.heap news) (hm : (l, tupObj [x, y]) ∈ news) (h1 : -(2 ^ 63) ≤ k) (h2 : k < 2 ^ 63) (hj : seqIndex? k 2 = some j) (hx : [x, y][j]? = some v) (h : Q v s)
    (hs : subscripted slice false (.ref l) (.int k u) = operate [.ref l, .int k u] (getItem (.ref l) (.int k u)) := by with_unfolding_all rfl) :
    wpAny (model prog w) A (subscriptTail value slice (.ref l) (.int k u)) Q E s := by
  have ht : IsTup s.heap l #[x, y] := tup_is (N _ hm).1
  exact tail_any ht.typeIs slot_tuple_getitem.lookup (getItem_tuple ht h1 h2 hj (by simpa using hx) h) hs
end
theorem seq_last {ws : List Value} {a : Value} : seqIndex? (-1) (ws ++ [a]).toArray.size = some ws.length := by
  rw [seqIndex_neg (by decide) (by simp; omega)]
  congr 1
  simp
  omega
local macro_rules | `(tactic| walk_at "subscriptTail") => `(tactic| first
  | ((with_reducible show wpAny _ _ (subscriptTail _ _ (Value.ref _) (Value.int (-1) _)) _ _ _); refine last_of (by assumption) (by first | exact .head _ | exact .tail _ (.head _) | exact .tail _ (.tail _ (.head _)) | exact .tail _ (.tail _ (.tail _ (.head _)))) ?_)
  | ((with_reducible show wpAny _ _ (subscriptTail _ _ (Value.ref _) (Value.int 0 _)) _ _ _); refine pair_of (k := 0) (by assumption) (by first | exact .tail _ (.tail _ (by assumption)) | exact .tail _ (.tail _ (.tail _ (by assumption)))) (by decide) (by decide) (by rfl) (by rfl) ?_)
  | ((with_reducible show wpAny _ _ (subscriptTail _ _ (Value.ref _) (Value.int 1 _)) _ _ _); refine pair_of (k := 1) (by assumption) (by first | exact .tail _ (.tail _ (by assumption)) | exact .tail _ (.tail _ (.tail _ (by assumption)))) (by decide) (by decide) (by rfl) (by rfl) ?_))
theorem news_pick3 {g h : Heap} {L : Addr} {D a : Addr × Obj} {t2 own : List (Addr × Obj)} (N : News g L h (D :: a :: (t2 ++ own))) : News g L h ((a :: D :: t2) ++ own) := by
  intro p hp
  refine N p ?_
  simp only [List.mem_cons, List.cons_append, List.mem_append] at hp ⊢
  rcases hp with q | q | q | q <;> simp [q]
theorem news_pick4 {g h : Heap} {L : Addr} {D e a : Addr × Obj} {t2 own : List (Addr × Obj)} (N : News g L h (D :: e :: a :: (t2 ++ own))) : News g L h ((a :: D :: t2) ++ own) := by
  intro p hp
  refine N p ?_
  simp only [List.mem_cons, List.cons_append, List.mem_append] at hp ⊢
  rcases hp with q | q | q | q <;> simp [q]
set_option maxRecDepth 100000 in
set_option maxHeartbeats 8000000 in
theorem joined_call {w : World} {A : Around} {base : Heap} {outer : List Env} {s : Shared} {n : Nat} {p : Addr} {vs : List Value} {ps : List (Bool × List Nat)} {nn : Nat} {tl : List (Addr × Obj)} {R : Result → Shared → Prop}
    (C : Cal w A base outer s.heap (n + 1)) (hps : PairsIn tl vs ps) (hp : s.heap.get? p = some (listOf vs.toArray nn)) (htl : ∀ q ∈ tl, s.heap.get? q.1 = some q.2) (hsz : ∀ q ∈ ps, q.2.length ≤ 20 ∧ Ascii q.2) (hlen : ps.length ≤ 6)
    (h : ∀ h' tk lr ws nl t2, (∀ p o, s.heap.get? p = some o → h'.get? p = some o) → (∀ q ∈ (lr, listOf ws.toArray nl) :: t2, h'.get? q.1 = some q.2 ∧ s.heap.get? q.1 = none) → PairsIn t2 ws (ps.foldl jstep []) →
      R (.ok (.ret (.ref lr))) { s with heap := h', toks := tk }) :
    codeAny (model PySem.Challenge.rw_nu0048_01.row.prog w) A (.call (.ref 109) ⟨[.ref p], []⟩) R s := by
  have X9 := C.X
  revert X9
  k_fill
  intro X9
  walk_at "MY def"
  intro L' h₁ F N
  have C0 := C
  obtain ⟨B, _, ⟨loose, mean, mg, mb, T⟩, _, hd, hu, hh⟩ := C
  have X := X9
  replace T := T.keeps B.stays
  w_on
  (try k_fold)
  iterate 10 walk1
  rename Fr _ _ _ _ => F2
  rename News _ _ _ _ => N2
  rename_i lf _ _ _
  refine base_turns (fun i m nx => ∃ ws nl t2, nx = (lf, listOf ws.toArray nl) :: t2 ∧ (∀ q ∈ t2, q.1 ≠ lf) ∧ m "found" = some (.ref lf) ∧ PairsIn t2 ws ((ps.take i).foldl jstep []) ∧ AccOk i ((ps.take i).foldl jstep [])) hh ⟨_, hp, rfl, _, rfl⟩ F2 N2 ?_ ?_ ?_
  · exact ⟨[], _, [], rfl, (fun _ h => nomatch h), rfl, .nil, .nil⟩
  · rintro i v m1 nx h1 tk1 own hv hoff ⟨ws, nl, t2, rfl, o1, hm1, hws, hok⟩ F1 N1
    obtain ⟨a, b, t, ta, tb, rfl, hpi, hma⟩ := hps.get hv
    replace F1 := pinF F1 (pinE rfl hm1)
    have hq := hsz _ (List.mem_of_getElem? hpi)
    rw [fold_take hpi]
    have hok2 := jstep_ok hok hq.1 hq.2
    have hil : i < ps.length := (List.getElem?_eq_some_iff.mp hpi).1
    obtain ⟨q1, hoff2⟩ := off_cons hoff
    simp only [List.cons_append] at N1
    have r1 := all_app o1 q1
    obtain ⟨t3, ht3⟩ : ∃ t3, t3 = t2 ++ own := ⟨_, rfl⟩
    rw [← ht3] at r1 N1
    have hwl := hws.length
    have hal := hok.1
    have hT : IsTup h1 a #[.str (kindS b) ta, .str (mk t) tb] := tup_is (F1.keep _ _ (htl _ hma))
    have hl1 : (mk t).length ≤ 20 := by rw [mk_len]; exact hq.1
    refine unpackN_ F1 N1 hT hh rfl rfl ?_
    intro h2 F3 N3
    have hws3 : PairsIn t3 ws ((ps.take i).foldl jstep []) := hws.mono fun _ hp => by rw [ht3]; exact List.mem_append_left _ hp
    have hun : A.units < 9700 := by omega
    generalize (ps.take i).foldl jstep [] = acc at hws hws3 hok hok2 hwl hal ⊢
    cases b
    · rw [show kindS false = "text" from rfl]
      iterate 23 walk1
      rename News _ _ _ _ => N5
      rename Fr _ _ _ _ => F5
      refine pieces_ne (tb := []) (vb := []) (pb := []) hws3 .nil (fun q hq => (N5 q (.tail _ (.tail _ hq))).1) (fun _ h => nomatch h) (N5 _ (.tail _ (.head _))).1 (N5 _ (.head _)).1 (fun q hq => (hok.2 q hq).2) (fun _ h => nomatch h) (by show A.units + 3 < _; omega) ?_
      rcases List.eq_nil_or_concat acc with rfl | ⟨acc', ⟨b', u⟩, hacc⟩
      · rw [decide_eq_true rfl]
        k_steps
        rename Fr _ _ _ _ => F9
        rename News _ _ _ _ => N9
        rename (_ ∧ _ ∧ AllLt _ t3) => l9
        rw [ht3] at N9 l9
        (try simp only [List.push_toArray] at N9)
        refine InvEndG.intro F9 (news_pick4 N9) ⟨_, _, _, rfl, all_ne_cons (Nat.ne_of_gt l9.2.1) o1, rfl, ?_, hok2⟩ (off_more q1 (off_more (fun p hp => allLt_ne l9.2.2 p (List.mem_append_right _ hp)) hoff2)) (fun p hp => List.mem_append_left _ hp) (fun p hp => List.mem_append_right _ hp)
        rw [jstep_new (fun u e => by simp at e)]
        exact hws.snoc (b := false) (t := t)
      · rw [List.concat_eq_append] at hacc
        subst hacc
        rw [decide_eq_false (by simp)]
        obtain ⟨ws', a', s1, s2, rfl, hw', hm'⟩ := hws.cut
        have hm3 : (a', tupObj [Value.str (kindS b') s1, Value.str (mk u) s2]) ∈ t3 := by rw [ht3]; exact List.mem_append_left _ hm'
        cases b'
        · rw [show kindS false = "text" from rfl] at hm3
          have hl2 : (mk u).length ≤ 200 := by rw [mk_len]; have := (hok.2 (false, u) (by simp)).1; simp only at this; omega
          k_steps
          rename Fr _ _ _ _ => F9
          rename News _ _ _ _ => N9
          refine ki_setNeg (its := (ws' ++ [Value.ref a']).toArray) F9 N9 (by decide) (by decide) seq_last (setL_last ws' (Value.ref a') _) (Upd.tail (by k_ne) (Upd.tail (by k_ne) (Upd.head r1))) ?_
          intro h8 F8 N8
          k_steps
          rename Fr _ _ _ _ => F9
          rename News _ _ _ _ => N9
          rename (_ ∧ _ ∧ AllLt _ t3) => l9
          rw [ht3] at N9 l9
          rw [mk_app] at N9
          (try simp only [List.push_toArray] at N9)
          refine InvEndG.intro F9 (news_pick4 N9) ⟨_, _, _, rfl, all_ne_cons (Nat.ne_of_gt l9.2.1) o1, rfl, ?_, hok2⟩ (off_more q1 (off_more (fun p hp => allLt_ne l9.2.2 p (List.mem_append_right _ hp)) hoff2)) (fun p hp => List.mem_append_left _ hp) (fun p hp => List.mem_append_right _ hp)
          rw [jstep_more]
          exact hw'.snoc (b := false) (t := u ++ t)
        · rw [show kindS true = "path" from rfl] at hm3
          k_steps
          rename Fr _ _ _ _ => F9
          rename News _ _ _ _ => N9
          rename (_ ∧ _ ∧ AllLt _ t3) => l9
          rw [ht3] at N9 l9
          (try simp only [List.push_toArray] at N9)
          refine InvEndG.intro F9 (news_pick4 N9) ⟨_, _, _, rfl, all_ne_cons (Nat.ne_of_gt l9.2.1) o1, rfl, ?_, hok2⟩ (off_more q1 (off_more (fun p hp => allLt_ne l9.2.2 p (List.mem_append_right _ hp)) hoff2)) (fun p hp => List.mem_append_left _ hp) (fun p hp => List.mem_append_right _ hp)
          rw [jstep_new (fun v e => by simp at e)]
          exact hws.snoc (b := false) (t := t)
    · rw [show kindS true = "path" from rfl]
      k_steps
      rename Fr _ _ _ _ => F9
      rename News _ _ _ _ => N9
      rename (_ ∧ AllLt _ t3) => l9
      rw [ht3] at N9 l9
      (try simp only [List.push_toArray] at N9)
      refine InvEndG.intro F9 (news_pick3 N9) ⟨_, _, _, rfl, all_ne_cons (Nat.ne_of_gt l9.1) o1, rfl, ?_, hok2⟩ (off_more q1 (off_more (fun p hp => allLt_ne l9.2 p (List.mem_append_right _ hp)) hoff2)) (fun p hp => List.mem_append_left _ hp) (fun p hp => List.mem_append_right _ hp)
      rw [jstep_path]
      exact hws.snoc (b := true) (t := t)
  · rintro m1 nx h1 tk1 ⟨ws, nl, t2, rfl, o1, hm1, hws, hok⟩ F1 N1
    replace F1 := pinF F1 (pinE rfl hm1)
    rw [hps.length, List.take_length] at hws
    k_steps
    dsimp only
    exact h _ _ lf ws nl t2 F1.keep (fun q hq => ⟨(N1 q hq).1, (N1 q hq).2.2⟩) hws
end Mine
end

section
open PySem PySem.W PySem.Calls PyProof.Rows
namespace Mine
local macro_rules | `(tactic| k_room) => `(tactic| (simp only [Around.deeper] at *; omega))
local macro_rules | `(tactic| walk_at "MY def") => `(tactic| (refine' open_def ?C ?o ?c ?b ?lo ?_ ?c2 ?c3 ?c4 ?c5; (case C => assumption); (case o => k_is); (case c => k_is); (case b => exact BindsTo.of_eq rfl); (case lo => exact locs rfl); (case c2 => exact rfl); (case c3 => exact rfl); (case c4 => exact rfl); (case c5 => decide)))
local macro_rules | `(tactic| walk_at "exec For Tuple Name cons nil") => `(tactic| ((rename Fr _ _ _ _ => lF'); (with_unfolding_all refine' For_turns lF' ?_; k_whole)))
local macro_rules | `(tactic| k_all) => `(tactic| assumption)
theorem fnAt_keeps {fa : Addr} {h h' : Heap} (X : FnAt fa h) (k : ∀ p o, h.get? p = some o → h'.get? p = some o) : FnAt fa h' := by
  obtain ⟨oc, od, fd, sl, e⟩ := X
  exact ⟨oc, od, fd, sl, k _ _ e⟩
theorem strsAre_snoc {vs : List Value} {ys : List Str} {y : Str} {t : Tok} (h : StrsAre vs ys) : StrsAre (vs ++ [.str y t]) (ys ++ [y]) := by
  induction h with
  | nil => exact .cons _ _ .nil
  | cons y t _ ih => exact .cons _ _ ih
theorem join_mk : ∀ us : List (List Nat), Txt.join "" (us.map mk) = mk us.flatten := by
  have go : ∀ us : List (List Nat), Str.join "" (us.map mk) = mk us.flatten := by
    intro us
    induction us with
    | nil => rfl
    | cons u r ih =>
      cases r with
      | nil => simp [Str.join]
      | cons v r =>
        rw [List.map_cons, List.map_cons, Str.join]
        rw [List.map_cons] at ih
        rw [ih, lit_empty, mk_app, mk_app]
        simp
        exact fun h => nomatch h
  intro us
  rw [← go us]
  exact StrLaws.glued_eq_join _ _
theorem due_flat (ps : List (Bool × List Nat)) : (ps.map dueOne).flatten = due ps := by
  unfold due
  rw [List.flatMap_def]
theorem join_small (ps : List (Bool × List Nat)) (h : AccOk 6 ps) : ((((ps.map dueOne).map mk).map (·.length)).sum + ((ps.map dueOne).map mk).length * 64 ≤ 16777216) := by
  have go : ∀ ps : List (Bool × List Nat), (∀ q ∈ ps, q.2.length ≤ 120) → (((ps.map dueOne).map mk).map (·.length)).sum ≤ 122 * ps.length := by
    intro ps
    induction ps with
    | nil => intro _; simp
    | cons p r ih =>
      intro k
      have h1 := ih fun q hq => k q (.tail _ hq)
      have h2 := k p (.head _)
      have h3 : (dueOne p).length ≤ 122 := by
        unfold dueOne
        split
        · simp; omega
        · omega
      simp only [List.map_cons, List.sum_cons, List.length_cons, mk_len] at h1 ⊢
      omega
  have := go ps fun q hq => (h.2 q hq).1
  have := h.1
  simp only [List.length_map]
  omega
/-- what a teller does: an expression between angles -/
def Tells (w : World) (h₀ : Heap) (fa : Addr) : Prop :=
  ∀ {A : Around} {base : Heap} {outer : List Env} {s : Shared} {n : Nat} {x : List Nat} {t : Tok} {R : Result → Shared → Prop}, Cal w A base outer s.heap (n + 1) → (∀ p o, h₀.get? p = some o → s.heap.get? p = some o) → x.length ≤ 1000 →
    (∀ h' tk td, (∀ p o, s.heap.get? p = some o → h'.get? p = some o) → R (.ok (.ret (.str (mk (60 :: (x ++ [62]))) td))) { s with heap := h', toks := tk }) →
    codeAny (model PySem.Challenge.rw_nu0048_01.row.prog w) A (.call (.ref fa) ⟨[.str (mk x) t], []⟩) R s
set_option maxRecDepth 100000 in
set_option maxHeartbeats 8000000 in
theorem filled_call {w : World} {A : Around} {base : Heap} {outer : List Env} {s : Shared} {n : Nat} {p fa : Addr} {vs : List Value} {ps : List (Bool × List Nat)} {nn : Nat} {tl : List (Addr × Obj)} {R : Result → Shared → Prop}
    (C : Cal w A base outer s.heap (n + 2)) (hps : PairsIn tl vs ps) (hp : s.heap.get? p = some (listOf vs.toArray nn)) (htl : ∀ q ∈ tl, s.heap.get? q.1 = some q.2) (hsz : AccOk 6 ps) (hfn : FnAt fa s.heap) (htell : Tells w s.heap fa)
    (h : ∀ h' tk t, (∀ p o, s.heap.get? p = some o → h'.get? p = some o) → R (.ok (.ret (.str (mk (due ps)) t))) { s with heap := h', toks := tk }) :
    codeAny (model PySem.Challenge.rw_nu0048_01.row.prog w) A (.call (.ref 67) ⟨[.ref p, .ref fa], []⟩) R s := by
  have X9 := C.X
  revert X9
  k_fill
  intro X9
  walk_at "MY def"
  intro L' h₁ F N
  have C0 := C
  obtain ⟨B, _, ⟨loose, mean, mg, mb, T⟩, _, hd, hu, hh⟩ := C
  have X := X9
  replace T := T.keeps B.stays
  w_on
  (try k_fold)
  iterate 10 walk1
  rename Fr _ _ _ _ => F2
  rename News _ _ _ _ => N2
  rename_i lf _ _ _
  refine base_turns (fun i m nx => ∃ ws nl t2, nx = (lf, listOf ws.toArray nl) :: t2 ∧ (∀ q ∈ t2, q.1 ≠ lf) ∧ m "found" = some (.ref lf) ∧ m "tell" = some (.ref fa) ∧ StrsAre ws ((ps.take i).map fun p => mk (dueOne p)) ∧ ws.length = i) hh ⟨_, hp, rfl, _, rfl⟩ F2 N2 ?_ ?_ ?_
  · exact ⟨[], _, [], rfl, (fun _ h => nomatch h), rfl, rfl, .nil, rfl⟩
  · rintro i v m1 nx h1 tk1 own hv hoff ⟨ws, nl, t2, rfl, o1, hm1, hm2, hws, hwl⟩ F1 N1
    obtain ⟨a, b, t, ta, tb, rfl, hpi, hma⟩ := hps.get hv
    replace F1 := pinF F1 (pinE (pinE rfl hm1) hm2)
    have hq := hsz.2 _ (List.mem_of_getElem? hpi)
    rw [take_snoc hpi, List.map_append]
    have hil : i < ps.length := (List.getElem?_eq_some_iff.mp hpi).1
    have hlen := hsz.1
    obtain ⟨q1, hoff2⟩ := off_cons hoff
    simp only [List.cons_append] at N1
    have r1 := all_app o1 q1
    obtain ⟨t3, ht3⟩ : ∃ t3, t3 = t2 ++ own := ⟨_, rfl⟩
    rw [← ht3] at r1 N1
    have hT : IsTup h1 a #[.str (kindS b) ta, .str (mk t) tb] := tup_is (F1.keep _ _ (htl _ hma))
    have hl1 : (mk t).length ≤ 120 := by rw [mk_len]; exact hq.1
    refine unpackN_ F1 N1 hT hh rfl rfl ?_
    intro h2 F3 N3
    cases b
    · rw [show kindS false = "text" from rfl]
      k_steps
      rename Fr _ _ _ _ => F9
      rename News _ _ _ _ => N9
      rw [ht3] at N9
      simp only [List.push_toArray] at N9
      exact InvEndG.intro (nx := (lf, _) :: t2) F9 N9 ⟨_, _, _, rfl, o1, rfl, rfl, strsAre_snoc hws, by simp; omega⟩ (off_more q1 hoff2) (fun p hp => by rw [← List.cons_append]; exact List.mem_append_left _ hp) (fun p hp => by rw [← List.cons_append]; exact List.mem_append_right _ hp)
    · rw [show kindS true = "path" from rfl]
      k_steps
      rename Fr _ _ _ _ => F4
      rename News _ _ _ _ => N4
      refine callWith_F (fnAt_keeps hfn F4.keep) ?_
      k_steps
      · exact fnAt_keeps hfn F4.keep
      refine wpAny_call ?_
      refine htell (n := n) (C0.deeper (env := envOf _ _ _ _ _) F4 rfl rfl) F4.keep (Nat.le_trans hq.1 (by decide)) ?_
      intro h5 tk5 td5 kp5
      replace F4 := fr_after F4 kp5
      replace N4 := news_after N4 kp5
      have hl5 : (mk (60 :: (t ++ [62]))).length ≤ 130 := by rw [mk_len]; have := hq.1; simp at this ⊢; omega
      k_steps
      rename Fr _ _ _ _ => F9
      rename News _ _ _ _ => N9
      rw [ht3] at N9
      simp only [List.push_toArray] at N9
      exact InvEndG.intro (nx := (lf, _) :: t2) F9 N9 ⟨_, _, _, rfl, o1, rfl, rfl, strsAre_snoc hws, by simp; omega⟩ (off_more q1 hoff2) (fun p hp => by rw [← List.cons_append]; exact List.mem_append_left _ hp) (fun p hp => by rw [← List.cons_append]; exact List.mem_append_right _ hp)
  · rintro m1 nx h1 tk1 ⟨ws, nl, t2, rfl, o1, hm1, hm2, hws, hwl⟩ F1 N1
    replace F1 := pinF F1 (pinE (pinE rfl hm1) hm2)
    rw [hps.length, List.take_length] at hws
    k_steps
    have e9 : ps.map (fun p => mk (dueOne p)) = (ps.map dueOne).map mk := by simp
    rw [e9] at hws
    refine join_listC (N1.isList (.head _)) (by simpa using hws) (by decide) (join_small ps hsz) ?_
    intro t8 k8
    rw [join_mk, due_flat]
    exact h _ _ _ F1.keep
end Mine
end

section
open PySem PySem.W PySem.Calls PyProof.Rows
namespace Mine
local macro_rules | `(tactic| k_room) => `(tactic| (simp only [Around.deeper] at *; omega))
local macro_rules | `(tactic| walk_at "MY def") => `(tactic| (refine' open_def ?C ?o ?c ?b ?lo ?_ ?c2 ?c3 ?c4 ?c5; (case C => assumption); (case o => k_is); (case c => k_is); (case b => exact BindsTo.of_eq rfl); (case lo => exact locs rfl); (case c2 => exact rfl); (case c3 => exact rfl); (case c4 => exact rfl); (case c5 => decide)))

theorem split_wp {w : World} {A : Around} {base g : Heap} {outer : List Env} {E2 : Value → Shared → Prop} {s : Shared} {n : Nat} {L a : Addr} {m : Str → Option Value} {name : Str} {scope : Scope} {cd : Value} {news : List (Addr × Obj)}
    {x : Str} {tx : Tok} {ps : List (Bool × List Nat)} {Q : Value → Shared → Prop}
    (C : Cal w A base outer g (n + 5)) (F : Fr g L s.heap m) (N : News g L s.heap news) (hk : scope.kind = .function) (hx : x.length ≤ 100000) (hs : splitX x.cps.toList [] = some ps)
    (h : ∀ h' tk l vs nl tl, (∀ p o, s.heap.get? p = some o → h'.get? p = some o) → Fr g L h' m → News g L h' ((l, listOf vs.toArray nl) :: (tl ++ news)) → (∀ p ∈ (l, listOf vs.toArray nl) :: tl, s.heap.get? p.1 = none) → PairsIn tl vs ps → Q (.ref l) { s with heap := h', toks := tk }) :
    wpAny (model PySem.Challenge.rw_nu0048_01.row.prog w) (A.deeper (envOf name scope L a cd)) (call (.ref 60) [.str x tx]) Q E2 s := by
  have C2 := C.deeper (env := envOf name scope L a cd) F rfl hk
  refine wpAny_call (split_call C2 hx (fun h' tk l vs ps' nl tl e kp hn hp => ?_) fun hn => ?_)
  · rw [hs] at e
    obtain rfl := Option.some.inj e
    exact h h' tk l vs nl tl kp (fr_after F kp) (news_more F (news_after N kp) hn) (fun p hp => (hn p hp).2) hp
  · rw [hs] at hn; cases hn

set_option maxRecDepth 100000 in
set_option maxHeartbeats 8000000 in
theorem refused_call {w : World} {A : Around} {base : Heap} {outer : List Env} {s : Shared} {n : Nat} {x : Str} {tx : Tok} {R : Result → Shared → Prop}
    (C : Cal w A base outer s.heap (n + 6)) (hx : x.length ≤ 100000) (hn : splitX x.cps.toList [] = none)
    (h : ∀ h' tk, (∀ p o, s.heap.get? p = some o → p ∉ outer.filterMap (·.frame) → h'.get? p = some o) → (∀ p o, s.heap.get? p = some o → p ∈ outer.filterMap (·.frame) → ∃ sl, h'.get? p = some { o with slots := sl }) →
      R (.ok (.ret (.bool true))) { s with heap := h', toks := tk }) :
    codeAny (model PySem.Challenge.rw_nu0048_01.row.prog w) A (.call (.ref 116) ⟨[.str x tx], []⟩) R s := by
  have X9 := C.X
  revert X9
  k_fill
  intro X9
  walk_at "MY def"
  intro L' h₁ F N
  have C0 := C
  obtain ⟨B, XB, ⟨loose, mean, mg, mb, TB⟩, D, hd, hu, hh⟩ := C
  have X := X9
  have T := TB.keeps B.stays
  w_on
  (try k_fold)
  k_steps
  refine' wpAny_call (split_call (n := n + 1) ?C hx (fun h' tk l vs ps nl tl e _ _ _ => ?_) ?_)
  case C => exact C0.deeper F rfl rfl
  · rw [hn] at e; cases e
  intro _ h' tk e t vs RS U
  dsimp only
  refine caught_SO0 (g₀ := s.heap) RS F B U XB TB D KtsTurn.refl ?ex ?q ?_
  case ex => k_is
  case q => rfl
  intro h2 g2 nw TT F2 N2 GG N3 B2 X2 T2 D2
  k_steps
  dsimp only
  rename Fr _ _ _ _ => F8
  exact h _ _ (fun p o q hm => F8.keep _ _ (TT.other _ _ q hm)) (fun p o q hm => by
    obtain ⟨sl, z⟩ := TT.frame _ _ q hm
    exact ⟨sl, F8.keep _ _ z⟩)
end Mine
end

section
open PySem PySem.W PySem.Calls PyProof.Rows
namespace Mine

/-- all that a callee may have left alone -/
abbrev Kept (h h' : Heap) : Prop := ∀ p o, h.get? p = some o → h'.get? p = some o

section
variable {w : World} {A : Around} {base g : Heap} {outer : List Env} {E2 : Value → Shared → Prop} {s : Shared} {n : Nat} {L c : Addr} {m : Str → Option Value} {name : Str} {scope : Scope} {cd : Value} {news : List (Addr × Obj)} {Q : Value → Shared → Prop}

theorem pool_wp {p : Addr} {vs : List Value} {ns : List Int} {k : Int} {tk : Tok}
    (C : Cal w A base outer g (n + 2)) (F : Fr g L s.heap m) (N : News g L s.heap news) (hk : scope.kind = .function) (hs : s.heap.IsList p vs.toArray) (hi : IntsAre vs ns) (hlay : (PyData.list (ns.map PyData.int)).layable0 = true) (hlen : ¬ (63 : Int) < (ns.length : Int)) (hk0 : 0 ≤ k) (hk2 : k < 3)
    (h : ∀ h' tk l x y tx ty nn, Fr g L h' m → News g L h' ((l, listOf #[.int x tx, .int y ty] nn) :: news) → s.heap.get? l = none → 0 ≤ x → 0 ≤ y → y < 2147483647 → Q (.ref l) { s with heap := h', toks := tk }) :
    wpAny (model PySem.Challenge.rw_nu0048_01.row.prog w) (A.deeper (envOf name scope L c cd)) (call (.ref 74) [.ref p, .int k tk]) Q E2 s := by
  have C2 := C.deeper (env := envOf name scope L c cd) F rfl hk
  refine wpAny_call (pool_call C2 hs hi hlay hlen hk0 hk2 fun h' tk l x y tx ty nn kp hl hn h1 h2 h3 => ?_)
  refine h _ _ l x y tx ty nn (fr_after F kp) (news_more (nw := [(l, listOf #[.int x tx, .int y ty] nn)]) F (news_after N kp) fun p hp => ?_) hn h1 h2 h3
  rw [List.mem_singleton.mp hp]
  exact ⟨hl, hn⟩

theorem drawn_wp {l : Addr} {a b : Int} {ta tb : Tok} {nn : Nat} {gf : Obj → List (Addr × Obj)}
    (C : Cal w A base outer g (n + 6)) (F : Fr g L s.heap m) (N : News g L s.heap news) (U : UpdF l (listOf #[.int a ta, .int b tb] nn) news gf) (hk : scope.kind = .function) (ha : 0 ≤ a) (hb : 0 ≤ b) (hb2 : b < 2147483647)
    (h : ∀ h' tk a' b' ta' tb' lr vs ps nl tl, Fr g L h' m → News g L h' ((lr, listOf vs.toArray nl) :: (tl ++ gf (listOf #[.int a' ta', .int b' tb'] nn))) → 0 ≤ a' → 0 ≤ b' → b' < 2147483647 →
      (∀ p ∈ (lr, listOf vs.toArray nl) :: tl, s.heap.get? p.1 = none) → PairsIn tl vs ps → (∀ p ∈ ps, PieceOk p) → (∀ p ∈ ps, p.2.length ≤ 20 ∧ Ascii p.2) → ps.length ≤ 6 → Q (.ref lr) { s with heap := h', toks := tk }) :
    wpAny (model PySem.Challenge.rw_nu0048_01.row.prog w) (A.deeper (envOf name scope L c cd)) (call (.ref 95) [.ref l]) Q E2 s := by
  have hl := updf_mem U
  have C2 := C.hid (env := envOf name scope L c cd) F N hl rfl hk
  refine wpAny_call (drawn_call C2 (N _ hl).1 ha hb hb2 fun h' tk a' b' ta' tb' lr vs ps nl tl kp hl' h1 h2 h3 hn hp hok hsz hlen => ?_)
  exact h _ _ _ _ _ _ _ _ _ _ _ (fr_hid F N hl kp) (news_more F (news_hid N U kp hl') hn) h1 h2 h3 (fun p hp => (hn p hp).2) hp hok hsz hlen

theorem template_wp {p : Addr} {vs : List Value} {ps : List (Bool × List Nat)} {nn : Nat} {tl : List (Addr × Obj)}
    (C : Cal w A base outer g (n + 2)) (F : Fr g L s.heap m) (N : News g L s.heap news) (hk : scope.kind = .function) (hps : PairsIn tl vs ps) (hp : s.heap.get? p = some (listOf vs.toArray nn)) (htl : ∀ q ∈ tl, s.heap.get? q.1 = some q.2) (hsz : ∀ q ∈ ps, q.2.length ≤ 20) (hlen : ps.length ≤ 6)
    (h : ∀ h' tk t, Fr g L h' m → News g L h' news → Q (.str (mk (tmpl ps)) t) { s with heap := h', toks := tk }) :
    wpAny (model PySem.Challenge.rw_nu0048_01.row.prog w) (A.deeper (envOf name scope L c cd)) (call (.ref 102) [.ref p]) Q E2 s := by
  have C2 := C.deeper (env := envOf name scope L c cd) F rfl hk
  exact wpAny_call (template_call C2 hps hp htl hsz hlen fun h' tk t kp => h _ _ _ (fr_after F kp) (news_after N kp))

theorem joined_wp {p : Addr} {vs : List Value} {ps : List (Bool × List Nat)} {nn : Nat} {tl : List (Addr × Obj)}
    (C : Cal w A base outer g (n + 2)) (F : Fr g L s.heap m) (N : News g L s.heap news) (hk : scope.kind = .function) (hps : PairsIn tl vs ps) (hp : s.heap.get? p = some (listOf vs.toArray nn)) (htl : ∀ q ∈ tl, s.heap.get? q.1 = some q.2) (hsz : ∀ q ∈ ps, q.2.length ≤ 20 ∧ Ascii q.2) (hlen : ps.length ≤ 6)
    (h : ∀ h' tk lr ws nl t2, Fr g L h' m → News g L h' ((lr, listOf ws.toArray nl) :: (t2 ++ news)) → (∀ q ∈ (lr, listOf ws.toArray nl) :: t2, s.heap.get? q.1 = none) → PairsIn t2 ws (ps.foldl jstep []) → Q (.ref lr) { s with heap := h', toks := tk }) :
    wpAny (model PySem.Challenge.rw_nu0048_01.row.prog w) (A.deeper (envOf name scope L c cd)) (call (.ref 109) [.ref p]) Q E2 s := by
  have C2 := C.deeper (env := envOf name scope L c cd) F rfl hk
  exact wpAny_call (joined_call C2 hps hp htl hsz hlen fun h' tk lr ws nl t2 kp hn hw => h _ _ _ _ _ _ (fr_after F kp) (news_more F (news_after N kp) hn) (fun q hq => (hn q hq).2) hw)

theorem filled_wp {p fa : Addr} {vs : List Value} {ps : List (Bool × List Nat)} {nn : Nat} {tl : List (Addr × Obj)}
    (C : Cal w A base outer g (n + 3)) (F : Fr g L s.heap m) (N : News g L s.heap news) (hk : scope.kind = .function) (hps : PairsIn tl vs ps) (hp : s.heap.get? p = some (listOf vs.toArray nn)) (htl : ∀ q ∈ tl, s.heap.get? q.1 = some q.2) (hsz : AccOk 6 ps) (hfn : FnAt fa s.heap) (htell : Tells w s.heap fa)
    (h : ∀ h' tk t, Fr g L h' m → News g L h' news → Q (.str (mk (due ps)) t) { s with heap := h', toks := tk }) :
    wpAny (model PySem.Challenge.rw_nu0048_01.row.prog w) (A.deeper (envOf name scope L c cd)) (call (.ref 67) [.ref p, .ref fa]) Q E2 s := by
  have C2 := C.deeper (env := envOf name scope L c cd) F rfl hk
  exact wpAny_call (filled_call C2 hps hp htl hsz hfn htell fun h' tk t kp => h _ _ _ (fr_after F kp) (news_after N kp))

/-- a refusal, seen from the outermost frame -/
theorem refused_wp {x : Str} {tx : Tok}
    (C : Cal w A base [] g (n + 7)) (F : Fr g L s.heap m) (N : News g L s.heap news) (hk : scope.kind = .function) (hx : x.length ≤ 100000) (hn : splitX x.cps.toList [] = none)
    (h : ∀ h' tk, Fr g L h' m → News g L h' news → Q (.bool true) { s with heap := h', toks := tk }) :
    wpAny (model PySem.Challenge.rw_nu0048_01.row.prog w) (A.deeper (envOf name scope L c cd)) (call (.ref 116) [.str x tx]) Q E2 s := by
  have C2 := C.deeper (env := envOf name scope L c cd) F rfl hk
  refine wpAny_call (refused_call C2 hx hn fun h' tk k1 k2 => ?_)
  have hf : ([envOf name scope L c cd] : List Env).filterMap (·.frame) = [L] := rfl
  rw [hf] at k1 k2
  refine h _ _ ⟨?_, fun b o e => k1 _ _ (F.keep b o e) (fun q => ?_), F.above⟩ fun p hp => ⟨k1 _ _ (N p hp).1 (fun q => (N p hp).2.1 (List.mem_singleton.mp q)), (N p hp).2⟩
  · obtain ⟨oL, es, ep, e, hd, hk', hf'⟩ := F.ns
    obtain ⟨sl, e'⟩ := k2 _ _ e (List.mem_singleton.mpr rfl)
    exact ⟨_, es, ep, e', hd, hk', hf'⟩
  · rw [List.mem_singleton.mp q, kts_self F] at e
    cases e
end

/-- a call of a lambda, its base the whole heap as it stands -/
theorem open_lam {prog : Program} {w : World} {A : Around} {base : Heap} {outer : List Env} {s : Shared} {n : Nat} {R : Result → Shared → Prop} {name qual : Str} {params : Arguments} {body : Expr} {scope : Scope} {cl : List (Str × Addr)} {pm ctv : Value} {c' : Addr} {f : Addr} {args : Args} {binds : List (Str × Value)}
    (C : Cal w A base outer s.heap (n + 1)) (ho : s.heap.get? f = some (kla_obj name qual params body scope cl pm c' ctv)) (hcd : s.heap.CodeRec (.ref c') qual)
    (hbind : bindArgs (kla_fn name qual params body scope cl pm (.ref c') ctv) args = pure binds) (hloc : ∀ y ∈ binds, scope.names.lookup y.1 = some .local)
    (h : ∀ L' h₁, Fr s.heap L' h₁ (fun y => binds.reverse.lookup y) → News s.heap L' h₁ [] →
      wpAny (model prog w) (A.deeper (envX qual scope L' f (.ref c') cl)) (eval body (envX qual scope L' f (.ref c') cl))
        (fun v s' => R (.ok (.ret v)) s')
        (fun e s' => wpAny (model prog w) (A.deeper (envX qual scope L' f (.ref c') cl)) (leaving (envX qual scope L' f (.ref c') cl) e) (fun _ s'' => R (.error e) s'') (fun e' s'' => R (.error e') s'') s')
        { s with heap := h₁, toks := s.toks + binds.length })
    (hco : scope.isCoroutine = false) (hgen : scope.isGenerator = false) (hk : scope.kind = .function)
    (hcell : ∀ x ∈ scope.names, x.2 ≠ .cell) : codeAny (model prog w) A (.call (.ref f) args) R s := by
  obtain ⟨B, _, ⟨_, _, _, _, T⟩, _, hd, _, _⟩ := C
  have T := T.keeps B.stays
  refine kla_callFunE (by show A.depth < 1000; omega) ho rfl hco hgen rfl hcd ?_
  rw [hbind]
  refine wpAny_pure (wpAny_newFunctionEnv hcell hloc (fun h₁ hns hsb => ⟨T.nolimit.fresh _ hsb, ?_⟩) hk)
  show codeAny _ _ (.expr body (envX qual scope s.heap.objs.size f (.ref c') cl)) _ _
  have hk₁ : ∀ b o, s.heap.get? b = some o → h₁.get? b = some o := fun b o e => hsb.extBut b o (Nat.ne_of_lt (Heap.lt_size e)) (Heap.get?_push_of_some _ e)
  exact kla_codeExpr (h _ h₁ ⟨hns, hk₁, Nat.le_refl _⟩ News.nil)
end Mine
end

section
open PySem PySem.W PySem.Calls PyProof.Rows PyProof.Rows.LCg
namespace Mine
theorem compEnd_mono {h₀ : Heap} {L I C D : Addr} {m : Str → Option Value} {s₁ s₂ : Shared} {oI oC oD : Obj} {S : List (Addr × Obj) → Prop} {r r' : Value → List (Addr × Obj) → Prop} {y : Value} (h : CompEnd h₀ L m s₁ I oI C oC D oD S r y s₂)
    (k : ∀ n, r y n → r' y n) : CompEnd h₀ L m s₁ I oI C oC D oD S r' y s₂ := by
  obtain ⟨h', tk, n', e, F, N, o, hs, x⟩ := h
  exact ⟨h', tk, n', e, F, N, o, hs, k _ x⟩
theorem compEnd_push {h₀ h' : Heap} {L I C D T : Addr} {o : Obj} {tk : Nat} {m : Str → Option Value} {s₁ : Shared} {oI oC oD : Obj} {S : List (Addr × Obj) → Prop} {rest : Value → List (Addr × Obj) → Prop} {y : Value} {news : List (Addr × Obj)}
    (F : Fr h₀ L h' m) (N : News h₀ L h' ((T, o) :: (I, oI) :: (C, oC) :: (D, oD) :: news)) (off : Off3 I C D news) (l : @LT.lt Nat _ I T ∧ @LT.lt Nat _ C T ∧ @LT.lt Nat _ D T) (hS : S ((T, o) :: news)) (r : rest y ((T, o) :: news)) :
    CompEnd h₀ L m s₁ I oI C oC D oD S rest y { s₁ with heap := h', toks := tk } := by
  refine CompEnd.intro F N _ (fun p hp => ?_) (Off3.of fun p hp => ?_) hS r
  · simp only [List.mem_cons] at hp ⊢
    rcases hp with q | q | q | q | q <;> simp [q]
  · rcases List.mem_cons.mp hp with rfl | hp
    · exact ⟨Nat.ne_of_gt l.1, Nat.ne_of_gt l.2.1, Nat.ne_of_gt l.2.2⟩
    · exact off.mem p hp
theorem compEnd_same {h₀ h' : Heap} {L I C D : Addr} {tk : Nat} {m : Str → Option Value} {s₁ : Shared} {oI oC oD : Obj} {S : List (Addr × Obj) → Prop} {rest : Value → List (Addr × Obj) → Prop} {y : Value} {news : List (Addr × Obj)}
    (F : Fr h₀ L h' m) (N : News h₀ L h' ((I, oI) :: (C, oC) :: (D, oD) :: news)) (off : Off3 I C D news) (hS : S news) (r : rest y news) :
    CompEnd h₀ L m s₁ I oI C oC D oD S rest y { s₁ with heap := h', toks := tk } := CompEnd.intro F N _ (fun p hp => hp) off hS r
theorem off1_mem {D : Addr} : ∀ {l : List (Addr × Obj)}, Off1 D l → ∀ p ∈ l, p.1 ≠ D
  | [], _, _, h => nomatch h
  | q :: r, h, p, hp => by
    rcases List.mem_cons.mp hp with rfl | hp
    · exact h.1
    · exact off1_mem h.2 p hp
section
variable {prog : Program} {w : World} {A : Around} {s : Shared} {h₀ : Heap} {L : Addr} {m : Str → Option Value} {env : Env}
/-- the turns of a comprehension over pairs, by what holds between them -/
theorem restP_of {elt : Expr} {x x₂ : Str} {scope : Scope} {cl : List (Str × Addr)} {S : List (Addr × Obj) → Prop} {P : Nat → Value → Prop} {Fin : List Value → List (Addr × Obj) → Prop} {n : Nat} (J : Nat → List Value → List (Addr × Obj) → Prop)
    (turn : ∀ i v ys news, P i v → J i ys news → ∃ (t : Addr) (ot : Obj) (v₁ v₂ : Value) (nt : Nat), v = .ref t ∧ (t, ot) ∈ news ∧ ot.cls = .type "tuple" ∧ ot.data = .seq #[v₁, v₂] nt ∧
      ∀ I oI C oC D m₂ h tk (E' : Value → Shared → Prop), NsObj oC m₂ → m₂ x = some v₁ → m₂ x₂ = some v₂ → Fr h₀ L h m → News h₀ L h ((I, oI) :: (C, oC) :: (D, lst ys) :: news) → Off3 I C D news → ((@Ne Nat I C) ∧ (@Ne Nat I D) ∧ (@Ne Nat C D)) →
      wpAny (model prog w) A (eval elt (compEnvC scope cl C env)) (CompEnd h₀ L m { s with heap := h, toks := tk } I oI C oC D (lst ys) S (fun y news' => J (i + 1) (ys ++ [y]) news')) E' { s with heap := h, toks := tk })
    (fin : ∀ ys news, J n ys news → Fin ys news) : ∀ (k i : Nat) (ys : List Value) (news : List (Addr × Obj)), i + k = n → J i ys news → LCp.CompRestP prog w A h₀ L m env elt x x₂ scope cl s S P Fin k i ys news
  | 0, i, ys, news, e, hj => .zero (fin _ _ (by rw [← e]; exact hj))
  | k + 1, i, ys, news, e, hj => by
    refine .succ fun v hv => ?_
    obtain ⟨t, ot, v₁, v₂, nt, h1, h2, h3, h4, h5⟩ := turn i v ys news hv hj
    refine ⟨t, ot, v₁, v₂, nt, h1, h2, h3, h4, fun I oI C oC D m₂ h tk E' a b c d e' f g => ?_⟩
    exact wpAny_mono (h5 I oI C oC D m₂ h tk E' a b c d e' f g) (fun y s' z => compEnd_mono z fun n' hn => restP_of J turn fin k (i + 1) _ _ (by omega) hn) fun _ _ x => x
/-- the turns of a comprehension with one test -/
theorem restT_of {ct elt : Expr} {x : Str} {scope : Scope} {cl : List (Str × Addr)} {S : List (Addr × Obj) → Prop} {P : Nat → Value → Prop} {Fin : List Value → List (Addr × Obj) → Prop} {n : Nat} (J : Nat → List Value → List (Addr × Obj) → Prop)
    (turn : ∀ i v ys news I oI C oC D m₂ h tk (E' : Value → Shared → Prop), P i v → J i ys news → NsObj oC m₂ → m₂ x = some v → Fr h₀ L h m → News h₀ L h ((I, oI) :: (C, oC) :: (D, lst ys) :: news) → Off3 I C D news → ((@Ne Nat I C) ∧ (@Ne Nat I D) ∧ (@Ne Nat C D)) →
      wpAny (model prog w) A (isTrue ct (compEnvC scope cl C env) (eval ct (compEnvC scope cl C env))) (fun ok s' => if ok = true then
        wpAny (model prog w) A (eval elt (compEnvC scope cl C env)) (CompEnd h₀ L m { s with heap := h, toks := tk } I oI C oC D (lst ys) S (fun y news' => J (i + 1) (ys ++ [y]) news')) E' s'
        else CompEnd h₀ L m { s with heap := h, toks := tk } I oI C oC D (lst ys) S (fun _ news' => J (i + 1) ys news') Value.none s') E' { s with heap := h, toks := tk })
    (fin : ∀ ys news, J n ys news → Fin ys news) : ∀ (k i : Nat) (ys : List Value) (news : List (Addr × Obj)), i + k = n → J i ys news → LCt.CompRestT prog w A h₀ L m env ct elt x scope cl s S P Fin k i ys news
  | 0, i, ys, news, e, hj => .zero (fin _ _ (by rw [← e]; exact hj))
  | k + 1, i, ys, news, e, hj => by
    refine .succ fun v I oI C oC D m₂ h tk E' hv a b c d f g => ?_
    refine wpAny_mono (turn i v ys news I oI C oC D m₂ h tk E' hv hj a b c d f g) (fun ok s' z => ?_) fun _ _ x => x
    cases ok
    · simp only [Bool.false_eq_true, if_false] at z ⊢
      exact compEnd_mono z fun n' hn => restT_of J turn fin k (i + 1) _ _ (by omega) hn
    · simp only [if_true] at z ⊢
      exact wpAny_mono z (fun y s'' z => compEnd_mono z fun n' hn => restT_of J turn fin k (i + 1) _ _ (by omega) hn) fun _ _ x => x
end
end Mine
end

section
open PySem PySem.W PySem.Calls PyProof.Rows
namespace Mine
/-- the table of code objects: empty, or the one lambda's -/
def TabOk (T : Array Value) (cs : List (Addr × Obj)) : Prop :=
  (T = #[] ∧ cs = []) ∨ ∃ c' oc vs t, T = #[rawInt 109, rawInt 29, .ref c'] ∧ cs = [(c', oc)] ∧ oc.data = .fields vs ∧ vs[1]? = some (.str "law.<locals>.<lambda>" t)
/-- the lambda's object made; its code object is made once -/
theorem lam_wp {M : Model} {A : Around} {E : Value → Shared → Prop} {s : Shared} {h₀ : Heap} {L a c P : Addr} {m mg mb : Str → Option Value} {cn : Str} {cs' : Scope} {ccd : Value} {cl : List (Str × Addr)} {news cs : List (Addr × Obj)} {g : Obj → List (Addr × Obj)}
    {p : Program} {loose : List Str} {mean : ExcName → Option Value} {name qual : Str} {params : Arguments} {body : Expr} {scope : Scope} {T4 : Array Value} {pos : Pos} {firstLine : Nat} {clos : List (Str × Addr)} {Q : Value → Shared → Prop}
    (F : Fr h₀ L s.heap m) (N : News h₀ L s.heap news) (T : Top p loose mean mg mb h₀) (C : CodeHd h₀ c P) (hcd : ccd = .ref c) (U : UpdF P (tabObj T4) news g) (tab : TabOk T4 cs) (hcs : ∀ p ∈ cs, p ∈ news) (hq : qual = "law.<locals>.<lambda>") (h1 : pos.line = 109) (h2 : pos.col = 29)
    (hcl : closureFor scope (envX cn cs' L a ccd cl) = pure clos) (GG : Addr → Prop) (hG : ∀ p ∈ cs, GG p.1) (hnew : ∀ c', (∀ q ∈ news, @LT.lt Nat _ q.1 c') → GG c')
    (h : ∀ f c' ctv h' tk T' cs', Fr h₀ L h' m → News h₀ L h' ((f, kla_obj name "law.<locals>.<lambda>" params body scope clos ((mg "__name__").getD .none) c' ctv) :: (cs' ++ g (tabObj T'))) → TabOk T' cs' → (∀ p ∈ cs', GG p.1) → h'.CodeRec (.ref c') "law.<locals>.<lambda>" →
      FnAt f h' → Q (.ref f) { s with heap := h', toks := tk }) :
    wpAny M A (makeFunction name qual params (.expr body) scope (envX cn cs' L a ccd cl) [] [] [] pos firstLine) Q E s := by
  subst hq
  rcases tab with ⟨rfl, rfl⟩ | ⟨c', oc, vs, t, rfl, rfl, hoc, hvs⟩
  · refine kla_nest F N T C hcd U trivial rfl hcl ?_
    intro f c' oc vs t ctv h' tk F' N' hd hv k1 k2
    refine h f c' ctv h' tk #[rawInt 109, rawInt 29, .ref c'] [(c', oc)] F' (by rw [h1, h2] at N'; exact N') (.inr ⟨c', oc, vs, t, rfl, rfl, hd, hv⟩) (fun p hp => by rw [List.mem_singleton.mp hp]; exact hnew _ k1) (codeRec_news N' (.tail _ (.head _)) hd hv) (FnAt.of N' (.head _))
  · refine kla_hit (c' := c') F N T C hcd (updf_mem U) trivial (by simp [codeAmong, rawInt, h1, h2]) hcl ?_
    intro f ctv h' tk F' N' k1
    have hm : (c', oc) ∈ news := hcs _ (.head _)
    refine h f c' ctv h' tk _ [(c', oc)] F' (fun p hp => ?_) (.inr ⟨c', oc, vs, t, rfl, rfl, hoc, hvs⟩) hG (codeRec_news N' (.tail _ hm) hoc hvs) (FnAt.of N' (.head _))
    rcases List.mem_cons.mp hp with rfl | hp
    · exact N' _ (.head _)
    · rcases List.mem_append.mp hp with hp | hp
      · rw [List.mem_singleton.mp hp]; exact N' _ (.tail _ hm)
      · obtain ⟨pre, post, e, hg, _, _⟩ := U.split
        rw [hg, ← e] at hp
        exact N' _ (.tail _ hp)
end Mine
end

section
open PySem PySem.W PySem.Calls PyProof.Rows PyProof.Rows.LCg
namespace Mine
local macro_rules | `(tactic| k_room) => `(tactic| (simp only [Around.deeper] at *; omega))
local macro_rules | `(tactic| k_all) => `(tactic| first | assumption | exact all_nil | (refine' all_ne_cons ?a ?b; (case a => k_ne); (case b => k_all)))
local macro_rules | `(tactic| walk_at "exec For Name Call cons nil") => `(tactic| ((rename Fr _ _ _ _ => lF'); (with_unfolding_all refine' For_invVF lF' ?k1 ?k2 ?_; (case k1 => exact rfl); (case k2 => exact rfl); k_whole)))
local macro_rules | `(tactic| walk_at "call type:range") => `(tactic| ((rename Fr _ _ _ _ => F'); (rename News _ _ _ _ => N'); (with_unfolding_all refine range1_rows F' N' ?_); intro _ _ _ _ _ _ _ _ _))
/-- what the law knows of its script -/
def ScriptOk (g : Heap) (m : Str → Option Value) : Prop :=
  ∃ p vs ns, m "script" = some (.ref p) ∧ g.IsList p (List.toArray vs) ∧ IntsAre vs ns ∧ (PyData.list (ns.map PyData.int)).layable0 = true ∧ ¬ (63 : Int) < (ns.length : Int)
theorem fresh_off {g h : Heap} {L l : Addr} {news : List (Addr × Obj)} (N : News g L h news) (hn : h.get? l = none) : ∀ q ∈ news, q.1 ≠ l := by
  intro q hq e
  have := (N q hq).1
  rw [e, hn] at this
  cases this
theorem news_swap {g h : Heap} {L : Addr} {a b : Addr × Obj} {tl : List (Addr × Obj)} (N : News g L h (a :: b :: tl)) : News g L h (b :: a :: tl) := by
  intro p hp
  refine N p ?_
  simp only [List.mem_cons] at hp ⊢
  rcases hp with q | q | q <;> simp [q]
theorem jn_len (ps : List (Bool × List Nat)) (h : ps.length ≤ 6) : ∀ pl, (jn pl ps).length ≤ 14 := by
  have go : ∀ (ps : List (Bool × List Nat)) (pl : List Nat), (jn pl ps).length ≤ 2 * ps.length + 1 := by
    intro ps
    induction ps with
    | nil => intro pl; unfold jn flush; split <;> simp
    | cons p r ih =>
      intro pl
      obtain ⟨b, t⟩ := p
      cases b
      · rw [jn]; have := ih (pl ++ t); simp only [List.length_cons]; omega
      · rw [jn]
        have := ih []
        have h2 : (flush pl).length ≤ 1 := by unfold flush; split <;> simp
        simp only [List.length_append, List.length_cons]; omega
  intro pl
  have := go ps pl
  omega
theorem menu_odds {t1 t2 t3 t4 t5 t6 t7 : Tok} : Menu [.str "}" t1, .str "{a" t2, .str "{a'}" t3, .str "{a{b}" t4, .str "{'" t5, .str "x}y" t6, .str "{\"}" t7] odds := by
  intro v hv
  simp only [List.mem_cons, List.not_mem_nil, or_false] at hv
  rcases hv with rfl | rfl | rfl | rfl | rfl | rfl | rfl
  · exact ⟨[125], by decide, _, rfl⟩
  · exact ⟨[123, 97], by decide, _, rfl⟩
  · exact ⟨[123, 97, 39, 125], by decide, _, rfl⟩
  · exact ⟨[123, 97, 123, 98, 125], by decide, _, rfl⟩
  · exact ⟨[123, 39], by decide, _, rfl⟩
  · exact ⟨[120, 125, 121], by decide, _, rfl⟩
  · exact ⟨[123, 34, 125], by decide, _, rfl⟩
theorem odds_small : ∀ o ∈ odds, o.length ≤ 10 := by decide
theorem lit_x : ("x" : Str) = mk [120] := by decide +kernel
theorem with_x (t o : List Nat) : mk t ++ "x" ++ mk o = mk (t ++ 120 :: o) := by rw [lit_x, mk_app, mk_app]; simp
theorem news_odd {g h : Heap} {L : Addr} {a b c d : Addr × Obj} {rs : List (Addr × Obj)} (N : News g L h (c :: d :: a :: b :: rs)) : News g L h (a :: b :: c :: d :: rs) := by
  intro p hp
  refine N p ?_
  simp only [List.mem_cons] at hp ⊢
  rcases hp with q | q | q | q | q <;> simp [q]
theorem lit_lt : ("<" : Str) = mk [60] := by decide +kernel
theorem lit_gt : (">" : Str) = mk [62] := by decide +kernel
theorem angles (t : List Nat) : ("<" : Str) ++ mk t ++ ">" = mk (60 :: (t ++ [62])) := by rw [lit_lt, lit_gt, mk_app, mk_app]; rfl
theorem news_mid {g h : Heap} {L : Addr} {a b c d : Addr × Obj} {t1 t2 t3 : List (Addr × Obj)} (N : News g L h (a :: (t1 ++ b :: (t2 ++ c :: d :: t3)))) : News g L h (c :: d :: a :: (t1 ++ b :: (t2 ++ t3))) := by
  intro p hp
  refine N p ?_
  simp only [List.mem_cons, List.mem_append] at hp ⊢
  rcases hp with q | q | q | q | q | q | q <;> simp [q]
theorem news_lam {g h : Heap} {L : Addr} {f a b : Addr × Obj} {cs rs : List (Addr × Obj)} (N : News g L h (f :: (cs ++ a :: b :: rs))) : News g L h (a :: b :: (cs ++ rs)) := by
  intro p hp
  refine N p ?_
  simp only [List.mem_cons, List.mem_append] at hp ⊢
  rcases hp with q | q | q | q <;> simp [q]
theorem pair_of' {prog : Program} {w : World} {A : Around} {E : Value → Shared → Prop} {s : Shared} {h₀ : Heap} {L : Addr} {news : List (Addr × Obj)} {value slice : Expr} {Q : Value → Shared → Prop} {l : Addr} {x y : Value} {u : Tok} (N : News h₀ L s.heap news) (hm : (l, tupObj [x, y]) ∈ news) (h : Q x s)
    (hs : subscripted slice false (.ref l) (.int 0 u) = operate [.ref l, .int 0 u] (getItem (.ref l) (.int 0 u)) := by with_unfolding_all rfl) :
    wpAny (model prog w) A (subscriptTail value slice (.ref l) (.int 0 u)) Q E s :=
  pair_of N hm (by decide) (by decide) (by rfl) (by rfl) h hs
set_option maxRecDepth 100000 in
set_option maxHeartbeats 8000000 in
theorem law_holds : PySem.Challenge.rw_nu0048_01.Holds := by
  refine hd ?_
  k_go0
  rename World => w
  rename Shared => s1
  rename Frag.In _ _ => X0
  rename Below _ _ _ _ => K0
  rename IntsAre _ _ => hI0
  rename (PyData.layable0 _ = true) => hlay0
  rename (¬ (63 : Int) < _) => hlen0
  rename Top _ _ _ _ _ _ => T0
  obtain ⟨G, hG⟩ : ∃ G, G = ghostOf s1.heap [(120, 118)] := ⟨_, rfl⟩
  have C0 : Cal w callerA _ [] _ 50 := ⟨K0, X0, ⟨_, _, _, _, T0⟩, ktsDicts_nil, by decide, by decide, rfl⟩
  iterate 31 walk1
  rename IsRange _ _ _ _ _ _ _ _ => R0
  rename Fr _ _ _ _ => F0
  rename News _ _ _ _ => N0
  refine range_loop (fun i m nx => ∃ T cs, nx = (118, tabObj T) :: cs ∧ TabOk T cs ∧ (∀ p ∈ cs, p.1 ≠ 118) ∧ ScriptOk (ghostOf s1.heap [(120, 118)]) m) rfl R0 (by split <;> split <;> omega) (by split <;> split <;> omega) F0 N0 ?_ ?_ ?_
  · exact ⟨_, [], rfl, .inl ⟨rfl, rfl⟩, all_nil, _, _, _, rfl, lifted, hI0, hlay0, hlen0⟩
  · rintro i1 t1 m1 nx h1 tk1 own1 hi1 hoff1 ⟨T1, cs1, rfl, htab1, hcs1, ps0, vs0, ns0, hm1, hl0, hi0, hy0, hz0⟩ F1 N1
    have hi3 : (i1 : Int) < 3 := by split at hi1 <;> split at hi1 <;> omega
    replace F1 := pinF F1 (pinE rfl (skip_tgt (by decide) hm1))
    obtain ⟨q1, hoff1⟩ := off_cons hoff1
    simp only [List.cons_append] at N1
    iterate 11 walk1
    refine pool_wp C0 F1 N1 rfl (F1.lst hl0) hi0 hy0 hz0 (by omega) hi3 ?_
    intro h2 tk2 l x y tx ty nn F2 N2 hn2 hx2 hy2 hz2
    have off2 := fresh_off N1 hn2
    iterate 11 walk1
    rename IsRange _ _ _ _ _ _ _ _ => R3
    rename Fr _ _ _ _ => F3
    rename News _ _ _ _ => N3
    refine range_loop (fun i m nx => ∃ T cs a b ta tb, nx = (118, tabObj T) :: (l, listOf #[.int a ta, .int b tb] nn) :: (cs ++ own1) ∧ TabOk T cs ∧ (∀ p ∈ cs, p.1 ≠ 118 ∧ p.1 ≠ l ∧ ∀ q ∈ own1, q.1 ≠ p.1) ∧ m "source" = some (.ref l) ∧ ScriptOk (ghostOf s1.heap [(120, 118)]) m ∧
      0 ≤ a ∧ 0 ≤ b ∧ b < 2147483647) rfl R3 (by decide) (by decide) F3 (news_swap N3) ?_ ?_ ?_
    · exact ⟨_, _, _, _, _, _, rfl, htab1, fun p hp => ⟨hcs1 p hp, off2 p (.tail _ (List.mem_append_left _ hp)), fun q hq => hoff1 q hq _ (List.mem_map_of_mem hp)⟩, rfl, ⟨_, _, _, rfl, hl0, hi0, hy0, hz0⟩, hx2, hy2, hz2⟩
    · rintro i4 t4 m4 nx4 h4 tk4 own2 hi4 hoff4 ⟨T4, cs4, a4, b4, ta4, tb4, rfl, htab4, hcs4, hm4, hsc4, ha4, hb4, hc4⟩ F4 N4
      replace F4 := pinF F4 (pinE rfl (skip_tgt (by decide) hm4))
      obtain ⟨u1, hoff4⟩ := off_cons hoff4
      obtain ⟨u2, hoff4⟩ := off_cons hoff4
      simp only [List.cons_append] at N4
      have l118 : @Ne Nat 118 l := off2 _ (.head _)
      have rl := all_app (all_app (fun p hp => (hcs4 p hp).2.1) (fun p hp => off2 p (.tail _ (List.mem_append_right _ hp)))) u2
      have r118 := all_app (all_app (fun p hp => (hcs4 p hp).1) q1) u1
      obtain ⟨tl4, htl4⟩ : ∃ tl4, tl4 = cs4 ++ own1 ++ own2 := ⟨_, rfl⟩
      rw [← htl4] at rl r118 N4
      iterate 9 walk1
      refine drawn_wp (n := 40) (C0.le (by decide)) F4 N4 (.tail l118 (.head rl)) rfl ha4 hb4 hc4 ?_
      intro h5 tk5 a5 b5 ta5 tb5 lp vp pp np tp F5 N5 ha5 hb5 hc5 new5 hpp okp smp lnp
      have off5 : ∀ p ∈ (lp, listOf vp.toArray np) :: tp, ∀ q ∈ (118, tabObj T4) :: (l, listOf #[.int a4 ta4, .int b4 tb4] nn) :: tl4, q.1 ≠ p.1 := fun p hp => fresh_off N4 (new5 p hp)
      iterate 11 walk1
      rename Fr _ _ _ _ => F6
      rename News _ _ _ _ => N6
      refine template_wp (n := 40) (C0.le (by decide)) F6 N6 rfl hpp (N6 _ (.head _)).1 (fun q hq => (N6 q (.tail _ (List.mem_append_left _ hq))).1) (fun q hq => (smp q hq).1) lnp ?_
      intro h7 tk7 tt7 F7 N7
      have tlen := tmpl_small pp fun q hq => (smp q hq).1
      have hl7 : (mk (tmpl pp)).length ≤ 300 := by rw [mk_len]; omega
      iterate 11 walk1
      rename Fr _ _ _ _ => F8
      rename News _ _ _ _ => N8
      refine split_wp (n := 40) (C0.le (by decide)) F8 N8 rfl (by omega) (split_tmpl pp [] okp) ?_
      intro h9 tk9 lq vq nq tq kp9 F9 N9 new9 hpq
      have off9 : ∀ p ∈ (lq, listOf vq.toArray nq) :: tq, ∀ q ∈ (lp, listOf vp.toArray np) :: (tp ++ ((118, tabObj T4) :: (l, listOf #[.int a5 ta5, .int b5 tb5] nn) :: tl4)), q.1 ≠ p.1 := fun p hp => fresh_off N8 (new9 p hp)
      iterate 5 walk1
      rename Fr _ _ _ _ => F10
      rename News _ _ _ _ => N10
      obtain ⟨rs, hrs⟩ : ∃ rs, rs = (lq, listOf vq.toArray nq) :: (tq ++ (lp, listOf vp.toArray np) :: (tp ++ tl4)) := ⟨_, rfl⟩
      obtain ⟨nw, hnw⟩ : ∃ nw, nw = (118, tabObj T4) :: (l, listOf #[.int a5 ta5, .int b5 tb5] nn) :: rs := ⟨_, rfl⟩
      replace N10 := news_mid N10
      rw [← hrs, ← hnw] at N10
      have mlq : (lq, listOf vq.toArray nq) ∈ nw := by rw [hnw, hrs]; exact .tail _ (.tail _ (.head _))
      have mtq : ∀ q ∈ tq, q ∈ nw := fun q hq => by rw [hnw, hrs]; exact .tail _ (.tail _ (.tail _ (List.mem_append_left _ hq)))
      have mlp : (lp, listOf vp.toArray np) ∈ nw := by rw [hnw, hrs]; exact .tail _ (.tail _ (.tail _ (List.mem_append_right _ (.head _))))
      have mtp : ∀ q ∈ tp, q ∈ nw := fun q hq => by rw [hnw, hrs]; exact .tail _ (.tail _ (.tail _ (List.mem_append_right _ (.tail _ (List.mem_append_left _ hq)))))
      have mtl : ∀ q ∈ tl4, q ∈ nw := fun q hq => by rw [hnw, hrs]; exact .tail _ (.tail _ (.tail _ (List.mem_append_right _ (.tail _ (List.mem_append_right _ hq)))))
      have rs_off : ∀ x : Addr, (x = 118 ∨ x = l) → ∀ p ∈ rs, p.1 ≠ x := by
        intro x hx p hp
        rw [hrs] at hp
        rcases List.mem_cons.mp hp with rfl | hp
        · rcases hx with rfl | rfl
          · exact (off9 _ (.head _) (118, _) (.tail _ (List.mem_append_right _ (.head _)))).symm
          · exact (off9 _ (.head _) (_, _) (.tail _ (List.mem_append_right _ (.tail _ (.head _))))).symm
        rcases List.mem_append.mp hp with hp | hp
        · rcases hx with rfl | rfl
          · exact (off9 _ (.tail _ hp) (118, _) (.tail _ (List.mem_append_right _ (.head _)))).symm
          · exact (off9 _ (.tail _ hp) (_, _) (.tail _ (List.mem_append_right _ (.tail _ (.head _))))).symm
        rcases List.mem_cons.mp hp with rfl | hp
        · rcases hx with rfl | rfl
          · exact (off5 _ (.head _) (118, _) (.head _)).symm
          · exact (off5 _ (.head _) (_, _) (.tail _ (.head _))).symm
        rcases List.mem_append.mp hp with hp | hp
        · rcases hx with rfl | rfl
          · exact (off5 _ (.tail _ hp) (118, _) (.head _)).symm
          · exact (off5 _ (.tail _ hp) (_, _) (.tail _ (.head _))).symm
        · rcases hx with rfl | rfl
          · exact r118 p hp
          · exact rl p hp
      have lnq := jn_len pp lnp []
      have hvq := hpq.length
      refine LCp.ListComp_P (F₀ := F10) (by with_unfolding_all rfl) (by decide) (by rfl) (by decide) (by rfl) (by rfl) (by decide) ?_
      walk1
      refine LCp.SrcLP.ledger (its := vq.toArray) rfl F10 N10 mlq (by simp; rw [sizeLine_eq]; omega) (fun g9 => restP_of (n := vq.length) (fun i ys news => ∃ t2, news = t2 ++ nw ∧ PairsIn t2 ys ((jn [] pp).take i) ∧ ∀ p ∈ t2, ∀ q ∈ nw, q.1 ≠ p.1) ?_ ?_ _ 0 [] _ (by simp) ⟨[], rfl, .nil, fun _ h => nomatch h⟩)
      · rintro i v ys news hv ⟨t2, rfl, hys, ho2⟩
        obtain ⟨a, b, t, ta, tb, rfl, hpi, hma⟩ := hpq.get (by simpa using hv)
        refine ⟨a, tupObj [.str (kindS b) ta, .str (mk t) tb], _, _, _, rfl, List.mem_append_right _ (mtq _ hma), rfl, rfl, ?_⟩
        intro I oI C oC D m₂ hh tkk E' hC hx1 hx2 FF NN off ne
        k_steps
        rename Fr _ _ _ _ => FE
        rename News _ _ _ _ => NE
        rename (_ ∧ _ ∧ _ ∧ AllLt _ (t2 ++ nw)) => lE
        refine compEnd_push FE NE off ⟨lE.1, lE.2.1, lE.2.2.1⟩ (.inr ⟨_, .tail _ (List.mem_append_right _ mlq), rfl, _, rfl⟩) ⟨_ :: t2, rfl, ?_, ?_⟩
        · rw [take_snoc hpi]
          exact hys.snoc (b := b) (t := t)
        · intro p hp q hq
          rcases List.mem_cons.mp hp with rfl | hp
          · exact allLt_ne lE.2.2.2 q (List.mem_append_right _ hq)
          · exact ho2 p hp q hq
      · rintro ys news ⟨t2, rfl, hys, ho2⟩
        intro D hh tkk FF NN o1
        replace o1 := off1_mem o1
        rw [hvq, List.take_length] at hys
        iterate 7 walk1
        refine joined_wp (n := 40) (C0.le (by decide)) FF NN rfl hpp (NN _ (.tail _ (List.mem_append_right _ mlp))).1
          (fun q hq => (NN q (.tail _ (List.mem_append_right _ (mtp q hq)))).1) smp lnp ?_
        intro h11 tk11 lj wj nj tj F11 N11 new11 hwj
        rw [joined_eq pp okp] at hwj
        have hacc : AccOk 6 (jn [] pp) := by
          have z := acc_ok pp [] 0 .nil smp
          rw [joined_eq pp okp, Nat.zero_add] at z
          exact ⟨Nat.le_trans z.1 lnp, fun q hq => ⟨Nat.le_trans (z.2 q hq).1 (Nat.mul_le_mul_left _ lnp), (z.2 q hq).2⟩⟩
        refine pieces_ne hys hwj (fun q hq => (N11 q (.tail _ (List.mem_append_right _ (.tail _ (List.mem_append_left _ hq))))).1) (fun q hq => (N11 q (.tail _ (List.mem_append_left _ hq))).1) (N11 _ (.tail _ (List.mem_append_right _ (.head _)))).1 (N11 _ (.head _)).1 (fun q hq => (hacc.2 q hq).2) (fun q hq => (hacc.2 q hq).2) (by show (4 + 3 : Nat) < 9800; decide) ?_
        rw [decide_eq_true rfl]
        have N12 : News _ _ _ nw := fun p hp => N11 p (.tail _ (List.mem_append_right _ (.tail _ (List.mem_append_right _ hp))))
        clear N11
        iterate 10 walk1
        have hvp := hpp.length
        refine LCp.ListComp_P (F₀ := F11) (by with_unfolding_all rfl) (by decide) (by rfl) (by decide) (by rfl) (by rfl) (by decide) ?_
        walk1
        refine LCp.SrcLP.ledger (its := vp.toArray) rfl F11 N12 mlp (by simp; rw [sizeLine_eq]; omega) (fun g9 => restP_of (n := vp.length) (fun i ys news => news = nw ∧ StrsAre ys ((pp.take i).map fun p => mk (dueOne p))) ?_ ?_ _ 0 [] _ (by simp) ⟨rfl, .nil⟩)
        · rintro i v ys news hv ⟨rfl, hys⟩
          obtain ⟨a, b, t, ta, tb, rfl, hpi, hma⟩ := hpp.get (by simpa using hv)
          refine ⟨a, tupObj [.str (kindS b) ta, .str (mk t) tb], _, _, _, rfl, mtp _ hma, rfl, rfl, ?_⟩
          intro I oI C oC D m₂ hh tkk E' hC hx1 hx2 FF NN off ne
          have ht20 : (mk t).length ≤ 20 := by rw [mk_len]; exact (smp _ (List.mem_of_getElem? hpi)).1
          rw [take_snoc hpi, List.map_append]
          cases b
          · rw [show kindS false = "text" from rfl] at hx1
            k_steps
            exact compEnd_same FF NN off (.inr ⟨_, mlp, rfl, _, rfl⟩) ⟨rfl, strsAre_snoc hys⟩
          · rw [show kindS true = "path" from rfl] at hx1
            k_steps
            rw [angles]
            exact compEnd_same FF NN off (.inr ⟨_, mlp, rfl, _, rfl⟩) ⟨rfl, strsAre_snoc hys⟩
        · rintro ys news ⟨hnn, hys2⟩
          subst news
          intro D2 hh2 tkk2 FF2 NN2 o2
          replace o2 := off1_mem o2
          rw [hvp, List.take_length] at hys2
          walk1
          have e9 : pp.map (fun p => mk (dueOne p)) = (pp.map dueOne).map mk := by simp
          rw [e9] at hys2
          refine join_listC ⟨_, (NN2 _ (.head _)).1, rfl, _, rfl⟩ (by simpa using hys2) (by decide) (join_small pp ⟨lnp, fun q hq => ⟨Nat.le_trans (smp q hq).1 (by decide), (smp q hq).2⟩⟩) ?_
          intro tt13 tk13
          rw [join_mk, due_flat]
          have N13 : News _ _ _ nw := fun p hp => NN2 p (.tail _ hp)
          clear NN2
          iterate 11 walk1
          rename Fr _ _ _ _ => F14
          rename News _ _ _ _ => N14
          rw [hnw] at N14
          refine kla_eval rfl ?_
          refine lam_wp (P := 118) (c := 120) (T4 := T4) (cs := cs4) F14 N14 T0 codeHd rfl (.head (all_ne_cons (Ne.symm l118) (rs_off 118 (.inl rfl)))) htab4 (fun p hp => ?mem) (by rfl) rfl rfl rfl (fun x => x ≠ 118 ∧ x ≠ l ∧ (∀ q ∈ own1, q.1 ≠ x) ∧ ∀ q ∈ own2, q.1 ≠ x) ?hG ?hnew ?_
          case mem => exact hnw ▸ mtl p (by rw [htl4]; exact List.mem_append_left _ (List.mem_append_left _ hp))
          case hG => exact fun p hp => ⟨(hcs4 p hp).1, (hcs4 p hp).2.1, (hcs4 p hp).2.2, fun q hq => hoff4 q hq _ (List.mem_map_of_mem (List.mem_append_left _ hp))⟩
          case hnew =>
            intro c' hc
            refine ⟨Nat.ne_of_gt (hc _ (.head _)), Nat.ne_of_gt (hc _ (.tail _ (.head _))), fun q hq => Nat.ne_of_lt (hc q (hnw ▸ mtl q ?_)), fun q hq => Nat.ne_of_lt (hc q (hnw ▸ mtl q ?_))⟩
            · rw [htl4]; exact List.mem_append_left _ (List.mem_append_right _ hq)
            · rw [htl4]; exact List.mem_append_right _ hq
          intro f c' ctv h15 tk15 T5 cs5 F15 N15 htab5 hG5 hrec hfn
          iterate 2 walk1
          have htell : Tells w h15 f := by
            intro A' base' outer' s' n' x t R' C' kp hx hk
            have hrec' : s'.heap.CodeRec (.ref c') "law.<locals>.<lambda>" := by
              obtain ⟨c2, oc, vs, tq, e1, e2, e3, e4⟩ := hrec
              exact ⟨c2, oc, vs, tq, e1, kp _ _ e2, e3, e4⟩
            refine open_lam C' (kp _ _ (N15 _ (.head _)).1) hrec' rfl (locs rfl) ?_ rfl rfl rfl (by decide)
            intro L' h₁ F N
            have X := C'.X
            obtain ⟨B, _, ⟨loose, mean, mg, mb, T⟩, _, hd, hu, hh⟩ := C'
            replace T := T.keeps B.stays
            have hlx : (mk x).length ≤ 1000 := by rw [mk_len]; exact hx
            k_steps
            rw [angles]
            exact hk _ _ _ F.keep
          have N16 := news_lam N15
          clear N15
          have mrs : ∀ p ∈ rs, p ∈ (118, tabObj T5) :: (l, listOf #[.int a5 ta5, .int b5 tb5] nn) :: (cs5 ++ rs) := fun p hp => .tail _ (.tail _ (List.mem_append_right _ hp))
          refine filled_wp (n := 40) (C0.le (by decide)) F15 N16 rfl hpq (N16 _ (mrs _ (by rw [hrs]; exact .head _))).1 (fun q hq => (N16 q (mrs _ (by rw [hrs]; exact .tail _ (List.mem_append_left _ hq)))).1) hacc hfn htell ?_
          intro h17 tk17 tt17 F17 N17
          rw [due_jn pp [], List.nil_append]
          iterate 4 walk1
          · rename ((_ != _) = true) => hbad
            have hgood : (mk (due pp) != mk (due pp)) = false := by
              show (!(mk (due pp) == mk (due pp))) = false
              rw [mk_beq]
              simp
            rw [hgood] at hbad
            cases hbad
          iterate 2 walk1
          obtain ⟨nw2, hnw2⟩ : ∃ nw2, nw2 = (118, tabObj T5) :: (l, listOf #[.int a5 ta5, .int b5 tb5] nn) :: (cs5 ++ rs) := ⟨_, rfl⟩
          rw [← hnw2] at N17
          have mlp2 : (lp, listOf vp.toArray np) ∈ nw2 := by rw [hnw2]; exact mrs _ (by rw [hrs]; exact .tail _ (List.mem_append_right _ (.head _)))
          have mtp2 : ∀ q ∈ tp, q ∈ nw2 := fun q hq => by rw [hnw2]; exact mrs _ (by rw [hrs]; exact .tail _ (List.mem_append_right _ (.tail _ (List.mem_append_left _ hq))))
          refine LCt.Assign_ListComp_T (F₀ := F17) (by rfl) (by with_unfolding_all rfl) (by with_unfolding_all rfl) (by decide) (by rfl) (by decide) (by rfl) (by rfl) (by rfl) ?_
          walk1
          refine LCt.CompSrcT.ledger (its := vp.toArray) rfl F17 N17 mlp2 (by simp; rw [sizeLine_eq]; omega) (fun g9 => restT_of (n := vp.length) (fun i ys news => news = nw2 ∧ PairsIn tp ys ((pp.take i).filter fun p => !p.1)) ?_ ?_ _ 0 [] _ (by simp) ⟨rfl, .nil⟩)
          · rintro i v ys news I oI C oC D m₂ hh tkk E' hv ⟨hnn, hys3⟩ hC hx1 FF NN off ne
            subst news
            obtain ⟨a, b, t, ta, tb, rfl, hpi, hma⟩ := hpp.get (by simpa using hv)
            rw [take_snoc hpi, List.filter_append]
            iterate 4 walk1
            refine pair_of' NN (.tail _ (.tail _ (.tail _ (mtp2 _ hma)))) ?_
            cases b
            · rw [show kindS false = "text" from rfl]
              k_steps
              exact compEnd_same FF NN off (.inr ⟨_, mlp2, rfl, _, rfl⟩) ⟨rfl, hys3.append (.cons hma .nil)⟩
            · rw [show kindS true = "path" from rfl]
              k_steps
              exact compEnd_same FF NN off (.inr ⟨_, mlp2, rfl, _, rfl⟩) ⟨rfl, by simpa using hys3⟩
          · rintro ys news ⟨hnn, hys3⟩
            subst news
            intro D3 hh3 tkk3 FF3 NN3 o3
            replace o3 := off1_mem o3
            rw [hvp, List.take_length] at hys3
            iterate 27 walk1
            rename Fr _ _ _ _ => F18
            rename News _ _ _ _ => N18
            rename (D3 < _ ∧ AllLt _ nw2) => l18
            rw [hnw2] at N18
            replace N18 := news_odd N18
            have d3l : D3 ≠ l := (o3 _ (by rw [hnw2]; exact .tail _ (.head _))).symm
            refine one_wp (n := 40) (C0.le (by decide)) F18 N18 (.tail l118 (.head (all_ne_cons (allLt_ne l18.2 _ (by rw [hnw2]; exact .tail _ (.head _))).symm (all_ne_cons d3l (all_app (fun p hp => (hG5 p hp).2.1) (rs_off l (.inr rfl))))))) rfl
              ⟨_, (N18 _ (.tail _ (.tail _ (.head _)))).1, rfl, _, rfl⟩ (allLt_ne l18.2 _ (by rw [hnw2]; exact .tail _ (.head _))).symm (by simp only [List.length_cons, List.length_nil]; omega) (by simp only [List.length_cons, List.length_nil]; omega) ha5 hb5 hc5 ?_
            intro h19 tk19 a6 b6 ta6 tb6 v6 kp19 F19 N19 ha6 hb6 hc6 hv6
            obtain ⟨o, ho, tko, rfl⟩ := menu_odds _ hv6
            obtain ⟨ft, hft⟩ : ∃ ft, ft = pp.filter (fun p => !p.1) := ⟨_, rfl⟩
            rw [← hft] at hys3
            have sft : ∀ q ∈ ft, q.2.length ≤ 20 := fun q hq => (smp q (List.mem_filter.mp (hft ▸ hq)).1).1
            have lft : ft.length ≤ 6 := by rw [hft]; exact Nat.le_trans (List.length_filter_le _ _) lnp
            have tft : ∀ q ∈ ft, q.1 = false := fun q hq => by
              have z := (List.mem_filter.mp (hft ▸ hq)).2
              cases hb : q.1 with
              | false => rfl
              | true => rw [hb] at z; cases z
            have len2 := tmpl_small ft sft
            have hl20 : (mk (tmpl ft)).length ≤ 300 := by rw [mk_len]; omega
            have hl21 : (mk o).length ≤ 10 := by rw [mk_len]; exact odds_small o ho
            iterate 19 walk1
            rename Fr _ _ _ _ => F20
            rename News _ _ _ _ => N20
            refine template_wp (n := 40) (C0.le (by decide)) F20 N20 rfl hys3 (N20 _ (.tail _ (.tail _ (.tail _ (.head _))))).1 (fun q hq => (N20 q (.tail _ (.tail _ (.tail _ (.tail _ (List.mem_append_right _ (by rw [hrs]; exact .tail _ (List.mem_append_right _ (.tail _ (List.mem_append_left _ hq)))))))))).1) sft lft ?_
            intro h21 tk21 tt21 F21 N21
            iterate 6 walk1
            rw [with_x]
            refine refused_wp (n := 40) (C0.le (by decide)) F21 N21 rfl (by rw [mk_len]; have := odds_small o ho; simp only [List.length_append, List.length_cons]; omega) (refused ft o tft ho) ?_
            intro h22 tk22 F22 N22
            iterate 5 walk1
            have rs_tl : ∀ p ∈ tl4, p ∈ rs := fun p hp => by rw [hrs]; exact .tail _ (List.mem_append_right _ (.tail _ (List.mem_append_right _ hp)))
            have tl_o1 : ∀ p ∈ own1, p ∈ tl4 := fun p hp => by rw [htl4]; exact List.mem_append_left _ (List.mem_append_right _ hp)
            have tl_o2 : ∀ p ∈ own2, p ∈ tl4 := fun p hp => by rw [htl4]; exact List.mem_append_right _ hp
            obtain ⟨p5, vs5, ns5, e51, e52, e53, e54, e55⟩ := hsc4
            refine InvEndG.intro (nx := (118, tabObj T5) :: (l, listOf #[.int a6 ta6, .int b6 tb6] nn) :: (cs5 ++ own1)) F22 N22
              ⟨T5, cs5, a6, b6, ta6, tb6, rfl, htab5, fun p hp => ⟨(hG5 p hp).1, (hG5 p hp).2.1, (hG5 p hp).2.2.1⟩, rfl, ⟨p5, vs5, ns5, e51, e52, e53, e54, e55⟩, ha6, hb6, hc6⟩ (off_more u1 (off_more u2 ?_)) ?_ ?_
            · intro p hp b hb
              obtain ⟨q, hq, rfl⟩ := List.mem_map.mp hb
              rcases List.mem_append.mp hq with hq | hq
              · exact (hG5 q hq).2.2.2 p hp
              · exact hoff4 p hp _ (List.mem_map_of_mem (List.mem_append_right _ hq))
            · intro p hp
              rcases List.mem_cons.mp hp with rfl | hp
              · exact .head _
              rcases List.mem_cons.mp hp with rfl | hp
              · exact .tail _ (.head _)
              rcases List.mem_append.mp hp with hp | hp
              · exact .tail _ (.tail _ (.tail _ (.tail _ (List.mem_append_left _ hp))))
              · exact .tail _ (.tail _ (.tail _ (.tail _ (List.mem_append_right _ (rs_tl _ (tl_o1 _ hp))))))
            · intro p hp
              exact .tail _ (.tail _ (.tail _ (.tail _ (List.mem_append_right _ (rs_tl _ (tl_o2 _ hp))))))
    · rintro m4 nx4 h4 tk4 ⟨T4, cs4, a4, b4, ta4, tb4, rfl, htab4, hcs4, hm4, ⟨p5, vs5, ns5, e51, e52, e53, e54, e55⟩, ha4, hb4, hc4⟩ F4 N4
      iterate 2 walk1
      refine InvEndG.intro (nx := (118, tabObj T4) :: cs4) F4 N4 ⟨T4, cs4, rfl, htab4, fun p hp => (hcs4 p hp).1, ⟨p5, vs5, ns5, e51, e52, e53, e54, e55⟩⟩ (off_more q1 ?_) ?_ ?_
      · intro p hp b hb
        obtain ⟨q, hq, rfl⟩ := List.mem_map.mp hb
        exact (hcs4 q hq).2.2 p hp
      · intro p hp
        rcases List.mem_cons.mp hp with rfl | hp
        · exact .head _
        · exact .tail _ (.tail _ (List.mem_append_left _ hp))
      · exact fun p hp => .tail _ (.tail _ (List.mem_append_right _ hp))
  · rintro m1 nx h1 tk1 ⟨T1, cs1, rfl, htab1, hcs1, hsc1⟩ F1 N1
    iterate 3 walk1
    dsimp only
    k_steps
end Mine
end

theorem PySem.Challenge.cw_nu0048_01_holds : PySem.Challenge.rw_nu0048_01.Holds := by
  exact Mine.law_holds
