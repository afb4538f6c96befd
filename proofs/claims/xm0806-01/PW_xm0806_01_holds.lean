import PyProof.Rows.All
import Wide.All
import OpenK.AllK
import Wide.FinOn
import PySem.Challenge.RW_xm0806_01
set_option Elab.async false

section
open PySem PySem.W PyProof.Rows
namespace Mine
set_option maxRecDepth 100000 in
set_option maxHeartbeats 8000000 in
open_top hd for PySem.Challenge.rw_xm0806_01
end Mine
end

section
open PySem PySem.W PySem.Calls
set_option maxRecDepth 100000
set_option maxHeartbeats 4000000
namespace Mine
section
variable {prog : Program} {w : World} {A : Around} {E : Value → Shared → Prop} {h : Heap} {g : Array GenState} {d : Drawn} {t : Nat} {os : OsState} {R : Result → Shared → Prop}
variable {nm q : Str} {C N : Addr} {bs bm : List Value} {hdct : Bool} {sn : List Str} {sub : List Value} {ab : Bool} {col : Option Bool} {dd : Option Addr} {k0 k1 k2 k3 k5 : Option Value}

/-- what an own exception class, of any depth, must show: its order of bases -/
structure Order (bm : List Value) : Prop where
  exc : bm.contains (.type "Exception") = true
  base : bm.contains (.type "BaseException") = true
  noA : bm.contains (.type "AttributeError") = false
  noN : bm.contains (.type "NameError") = false

theorem new_checked (O : Order bm) {M : Model} {rest : List Value} {Q : Unit → Shared → Prop} (hC : h.get? C = some (excClassObj nm q C N bs bm hdct sn sub ab col dd k0 k1 k2 k3 k5 "Exception.__new__"))
    (hq : Q () ⟨h, g, d, t, os⟩) : wpAny M A (checkBuiltinCall "Exception.__new__" ⟨.ref C :: rest, []⟩) Q E ⟨h, g, d, t, os⟩ := by
  have F := PySem.F.excBase_Exception
  have hc : (Value.ref C :: bm).contains (.type "Exception") = true := by rw [List.contains_cons, O.exc, Bool.or_true]
  have hstar := F.noStar
  simp only [checkBuiltinCall, F.newKind, F.newSplit, F.newRow]
  repeat (first | refine wpAny_loadPart_at hC ?_ | (refine wpAny_isSubtype_exc hC ?_; rw [hc]) | refine wpAny_staticBase_exc hC ?_ | refine wpAny_madeBy_exc hC ?_ | simp only [bne_self_eq_false, Bool.false_eq_true, if_false] | wp_step)
  exact hq

/-- the object that Exception.__new__ lays -/
abbrev excObj (C t : Addr) : Obj := { cls := .ref C, data := .fields #[.ref t, .none, .none, .none, .bool false, .none] }
abbrev tup (vs : List Value) : Obj := { cls := .type "tuple", data := .seq vs.toArray }

theorem new_runs (O : Order bm) {rest : List Value} (hC : h.get? C = some (excClassObj nm q C N bs bm hdct sn sub ab col dd k0 k1 k2 k3 k5 "Exception.__new__"))
    (hq : R (.ok (.ret (.ref (h.objs.size + 1)))) ⟨(h.push (tup rest)).push (excObj C h.objs.size), g, d, t, os⟩) (hrest : rest.length ≤ sizeLine) :
    codeAny (model prog w) A (.builtin "Exception.__new__" ⟨.ref C :: rest, []⟩) R ⟨h, g, d, t, os⟩ := by
  have F := PySem.F.excBase_Exception
  have hends := F.ends
  have hcB : (Value.ref C :: bm).contains (.type "Exception") = true := by rw [List.contains_cons, O.exc, Bool.or_true]
  have hcA : (Value.ref C :: bm).contains (.type "AttributeError") = false := by rw [List.contains_cons, O.noA]; rfl
  have hcN : (Value.ref C :: bm).contains (.type "NameError") = false := by rw [List.contains_cons, O.noN]; rfl
  refine codeAny_builtinAt F.entry ?_
  unfold Builtin.«BaseException.__new__»
  refine wpAt_bind ?_
  show wpAt _ _ _ (stack >>= _) _ _ _
  refine wpAt_bind (wpAt_stack fun p below => wpAt_of_wpAny ?_)
  wp_walk
  refine wpAt_of_wpAny ?_
  rw [F.owner]
  repeat (first | with_reducible refine wpAny_madeHere_exc F.canon hC ?_ | with_reducible refine wpAny_loadPart_at hC ?_ | (with_reducible refine wpAny_isSubtype_exc hC ?_; first | rw [hcB] | rw [hcA] | rw [hcN]) | wp_step)
  show R _ _
  rw [Heap.size_push]
  exact hq

theorem class_called (O : Order bm) {rest : List Value} {fI : Addr} {oI : Obj} {Q : Fin → Shared → Prop} (hC : h.get? C = some (excClassObj nm q C N bs bm hdct sn sub ab col dd k0 k1 k2 k3 k5 "Exception.__new__"))
    (hi : ∀ h', (∀ b o, h.get? b = some o → h'.get? b = some o) → Looks (model prog w) h' (typeLookup (.ref C) "__init__") (some (.ref fI)))
    (hfI : h.get? fI = some oI) (hfc : oI.cls = .type "function")
    (hq : wpAny (model prog w) A (call (.ref fI) (.ref (h.objs.size + 1) :: rest)) (fun r s' => r = .none ∧ Q (.done (.ret (.ref (h.objs.size + 1)))) s') E ⟨(h.push (tup rest)).push (excObj C h.objs.size), g, d, t, os⟩) (hrest : rest.length ≤ sizeLine) :
    wpAny (model prog w) A (Builtin.«type.__call__» ⟨.ref C :: rest, []⟩) Q E ⟨h, g, d, t, os⟩ := by
  have F := PySem.F.excBase_Exception
  repeat (first | with_reducible refine wpAny_loadPart_at hC ?_ | with_reducible refine wpAny_madeBy_exc hC ?_ | wp_step)
  refine codeAny_call_builtin_code (Code.quiet_builtin _ F.quiet) (new_checked O hC ?_)
  refine new_runs O hC ?_ hrest
  show wpAny _ _ _ _ _ _
  have up : ∀ b o, h.get? b = some o → ((h.push (tup rest)).push (excObj C h.objs.size)).get? b = some o := fun b o e => Heap.get?_push_of_some _ (Heap.get?_push_of_some _ e)
  have hC₁ := up _ _ hC
  have hfI₁ := up _ _ hfI
  have hget : ((h.push (tup rest)).push (excObj C h.objs.size)).get? (h.objs.size + 1) = some (excObj C h.objs.size) := by heap_get
  have hcC : (Value.ref C :: bm).contains (.ref C) = true := by simp
  unfold isInstance
  repeat (first | with_reducible refine wpAny_loadPart_at hget ?_ | (with_reducible refine wpAny_isSubtype_exc hC₁ ?_; rw [hcC]) | wp_step)
  show wpAny _ _ (typeLookup (.ref C) _) _ _ _
  refine (hi _ up).here ?_
  refine wpAny_holding (wpAny_bind ?_)
  unfold bindSpecial
  refine wpAny_bind (wpAny_typeOf (T := "function") ⟨_, hfI₁, hfc⟩ ?_)
  rw [if_pos (by decide)]
  refine wpAny_pure (wpAny_bind (wpAny_mono hq (fun r s' hr => ?_) fun _ _ x => x))
  obtain ⟨rfl, hQ⟩ := hr
  wp_walk
  exact hQ

theorem exc_called (O : Order bm) {rest : List Value} {fI : Addr} {oI : Obj} {Q : Value → Shared → Prop} (hC : h.get? C = some (excClassObj nm q C N bs bm hdct sn sub ab col dd k0 k1 k2 k3 k5 "Exception.__new__"))
    (hi : ∀ h', (∀ b o, h.get? b = some o → h'.get? b = some o) → Looks (model prog w) h' (typeLookup (.ref C) "__init__") (some (.ref fI)))
    (hfI : h.get? fI = some oI) (hfc : oI.cls = .type "function")
    (hq : wpAny (model prog w) (A.under (.builtin "type.__call__" ⟨.ref C :: rest, []⟩)) (call (.ref fI) (.ref (h.objs.size + 1) :: rest)) (fun r s' => r = .none ∧ Q (.ref (h.objs.size + 1)) s') E ⟨(h.push (tup rest)).push (excObj C h.objs.size), g, d, t, os⟩) (hrest : rest.length ≤ sizeLine) :
    wpAny (model prog w) A (call (.ref C) rest) Q E ⟨h, g, d, t, os⟩ := by
  have f1 := tc_lookup
  have f2 := tc_bind (.ref C)
  have hT : (⟨h, g, d, t, os⟩ : Shared).TypeIs (.ref C) "type" := ⟨_, hC, rfl⟩
  refine wpAny_call (codeAny_of_tree ?_)
  show wpAny _ _ (callAny (.ref C) _) _ _ _
  repeat (any_goals (first | assumption | with_reducible refine wpAny_loadPart_at hC ?_ | wp_step))
  refine ⟨rfl, ?_⟩
  exact codeAny_call_builtin_at (Code.quiet_builtin _ (by decide +kernel)) entry_typeCall (wpAny_check_type_call_sub hC (class_called O hC hi hfI hfc hq hrest))
end
end Mine
end

section
open PySem PySem.W PyProof.Rows PySem.Calls
set_option maxRecDepth 100000
set_option maxHeartbeats 4000000
namespace Mine
section
variable {prog : Program} {w : World} {A : Around} {E : Value → Shared → Prop} {s : Shared} {K : Frag} {h₀ : Heap} {L : Addr} {m : Str → Option Value} {news : List (Addr × Obj)}
variable {nm q : Str} {C Nn : Addr} {bs bm : List Value} {hdct : Bool} {sn : List Str} {sub : List Value} {ab : Bool} {col : Option Bool} {dd : Option Addr} {k0 k1 k2 k3 k5 : Option Value}

/-- an own exception is made: its __init__ is called on the new object -/
theorem make_exc {rest : List Value} {fI : Addr} {Q : Value → Shared → Prop} (F : Fr h₀ L s.heap m) (X₀ : K.In h₀) (N : News h₀ L s.heap news)
    (hC : K.lookup C = some (excClassObj nm q C Nn bs bm hdct sn sub ab col dd k0 k1 k2 k3 k5 "Exception.__new__")) (O : Order bm) (hi : findIn K (.ref C) "__init__" = some (some (.ref fI))) (hf : isFn K (.ref fI) = true) (hrest : rest.length ≤ 100)
    (h : ∀ e t h', Fr h₀ L h' m → News h₀ L h' ((e, excObj C t) :: (t, tup rest) :: news) → (∀ p ∈ (t, tup rest) :: news, p.1 ≠ e) →
      wpAny (model prog w) (A.under (.builtin "type.__call__" ⟨.ref C :: rest, []⟩)) (call (.ref fI) (.ref e :: rest)) (fun r s' => r = .none ∧ Q (.ref e) s') E { s with heap := h' }) :
    wpAny (model prog w) A (call (.ref C) rest) Q E s := by
  obtain ⟨hh, g, d, t, os⟩ := s
  have X := X₀.keeps F.keep
  have hf' : typeIn K (.ref fI) = some (.type "function") := beq_iff_eq.mp hf
  obtain ⟨oI, hoI, hoc⟩ := Option.map_eq_some_iff.mp hf'
  have hsz : (100 : Nat) ≤ sizeLine := by rw [sizeLine_eq]; decide
  have N₁ := N.push F (tup rest)
  have N₂ := N₁.push (F.push _) (excObj C hh.objs.size)
  rw [Heap.size_push] at N₂
  refine exc_called O (X _ _ hC) (fun h' k => looks_findIn (X.keeps k) hi) (X _ _ hoI) hoc ?_ (Nat.le_trans hrest hsz)
  exact h (hh.objs.size + 1) hh.objs.size _ ((F.push _).push _) N₂ (fun p hp => by
    rcases List.mem_cons.mp hp with rfl | hp
    · exact Nat.ne_of_lt (Nat.lt_succ_self _)
    · exact Nat.ne_of_lt (Nat.lt_succ_of_lt (Heap.lt_size (N p hp).1)))

def RaisableOwn (K : Frag) (C : Addr) (E : Value → Shared → Prop) (v : Value) (s₁ : Shared) : Prop :=
  ∃ a ob vs, v = .ref a ∧ K.In s₁.heap ∧ s₁.heap.get? a = some ob ∧ ob.cls = .ref C ∧ ob.data = .fields vs ∧ vs[1]? = some .none ∧ E (.ref a) s₁

theorem raise_own {M : Model} {env : Env} {e : Expr} {pos : Pos} {Q : Flow → Shared → Prop} (_X : K.In h₀) (hh : A.handled = none) (ht : typeIn K (.ref C) = some (.type "type")) (hb : subIn K (.ref C) (.type "BaseException") = some true)
    (h : wpAny M A (eval e env) (RaisableOwn K C E) E s) : wpAny M A (exec (.Raise (some e) none pos) env) Q E s := by
  show wpAny M A (do standAt pos; raiseStmt env (some (do let v ← eval e env; standAt pos; pure v)) none) Q E s
  refine wpAny_bind (wpAny_standAt ?_)
  unfold raiseStmt
  dsimp only
  refine wpAny_bind (wpAny_bind (wpAny_mono h (fun v s₁ h₁ => wpAny_bind (wpAny_standAt (wpAny_pure ?_))) fun _ _ x => x))
  obtain ⟨a, ob, vs, rfl, X, ha, hcls, hd, h1, hE⟩ := h₁
  have hTy : Looks M s₁.heap (typeOf (.ref a)) (.ref C) := (Looks.ld (part := none) ha).andThen (by rw [hcls]; exact .now)
  have hnt : ∀ {Q' : Bool → Shared → Prop}, Q' false s₁ → wpAny M A (isType (.ref a)) Q' E s₁ := by
    intro Q' hq
    simp only [isType, loadHead]
    refine wpAny_bind (wpAny_loadPart ha ?_)
    rw [hd]; exact wpAny_pure hq
  refine wpAny_bind (wpAny_pure ?_)
  dsimp only
  refine wpAny_bind (wpAny_holding ?_)
  unfold excFromValue isExcClass
  refine wpAny_bind (wpAny_bind (hnt ?_))
  simp only [Bool.false_eq_true, if_false]
  refine wpAny_pure ?_
  simp only [Bool.false_eq_true, if_false]
  unfold isInstance
  refine wpAny_bind (wpAny_bind (hTy.here ((looks_subIn X hb).here ?_)))
  simp only [if_true]
  refine wpAny_pure ?_
  refine wpAny_bind (hnt ?_)
  simp only [Bool.false_eq_true, if_false]
  unfold raisedInstance
  refine wpAny_bind (wpAny_bind (hTy.here (wpAny_bind ((looks_typeIn X ht).here ?_))))
  rw [if_pos (by decide)]
  refine wpAny_pure ?_
  unfold setFlight
  refine wpAny_bind (wpAny_bind (wpAny_field ha hd h1 ?_))
  rw [if_neg (by decide)]
  exact wpAny_pure (wpAny_raiseNew_none hh hE)
end
end Mine
namespace Mine
section
variable {prog : Program} {w : World} {A : Around} {E : Value → Shared → Prop} {s : Shared} {K : Frag} {h₀ : Heap} {L : Addr} {m : Str → Option Value} {news : List (Addr × Obj)}
/-- a field's value, the counter forgotten -/
theorem get_any {x C : Addr} {ox : Obj} {es : List DictEntry} {n : Nat} {name : Str} {v : Value} {expr : Bool} {Q : Value → Shared → Prop} {attr : Option Value} (F : Fr h₀ L s.heap m) (X₀ : K.In h₀) (I : InstAt s.heap x ox C (some (dictOf es n))) (hg : plainGet K C name = true) (hh : hasDictIn K C = true)
    (ha : findIn K (.ref C) name = some attr) (hn : noGet K attr = true) (hl : getL name es = some (some v)) (hv : handedIn v = true) (h : ∀ tk, Q v { s with toks := tk }) :
    wpAny (model prog w) A (getAttr (.ref x) name expr) Q E s := get_own F X₀ I hg hh ha hn hl hv (h _)
end
end Mine
end

section
open PySem PySem.W PyProof.Rows PySem.Calls
set_option maxRecDepth 100000
set_option maxHeartbeats 4000000
namespace Mine
section
variable {prog : Program} {w : World} {A : Around} {E : Value → Shared → Prop} {s : Shared} {K : Frag} {h₀ : Heap} {L : Addr} {m : Str → Option Value} {news : List (Addr × Obj)}
variable {nm q : Str} {C Nn : Addr} {bs bm : List Value} {hdct : Bool} {sn : List Str} {sub : List Value} {ab : Bool} {col : Option Bool} {dd : Option Addr} {k0 k1 k2 k3 k5 : Option Value}

abbrev excD (C t : Addr) (od : Option Addr) : Obj := { cls := .ref C, dict := od, data := .fields #[.ref t, .none, .none, .none, .bool false, .none] }
theorem raisable_intro {e t : Addr} {od : Option Addr} {rest : List (Addr × Obj)} (F : Fr h₀ L s.heap m) (X₀ : K.In h₀) (N : News h₀ L s.heap ((e, excD C t od) :: rest)) (h : E (.ref e) s) : RaisableOwn K C E (.ref e) s :=
  ⟨e, _, _, rfl, X₀.keeps F.keep, (N _ (.head _)).1, rfl, rfl, rfl, h⟩
theorem init_checked (O : Order bm) {M : Model} {h : Heap} {g : Array GenState} {d : Drawn} {t : Nat} {os : OsState} {e : Addr} {oe : Obj} {rest : List Value} {Q : Unit → Shared → Prop}
    (hC : h.get? C = some (excClassObj nm q C Nn bs bm hdct sn sub ab col dd k0 k1 k2 k3 k5 "Exception.__new__")) (he : h.get? e = some oe) (hcls : oe.cls = .ref C) (hq : Q () ⟨h, g, d, t, os⟩) :
    wpAny M A (checkBuiltinCall "Exception.__init__" ⟨.ref e :: rest, []⟩) Q E ⟨h, g, d, t, os⟩ := by
  have F := PySem.F.excBase_Exception
  have hcB : (Value.ref C :: bm).contains (.type "Exception") = true := by rw [List.contains_cons, O.exc, Bool.or_true]
  have hshort := F.noStar
  simp only [checkBuiltinCall, F.initKind, F.initSplit, F.initRow]
  repeat (first | (with_reducible refine wpAny_loadPart_at he ?_; rw [hcls]) | with_reducible refine wpAny_loadPart_at hC ?_ | (with_reducible refine wpAny_isSubtype_exc hC ?_; rw [hcB]) | wp_step)
  refine wpAny_onRaise ?_
  rw [show ∀ (a b : String) (n : Nat), Bind.check ⟨.positional, "*", "Exception", .self, [⟨"args", .varPos, false⟩]⟩ a b n (List.map (fun x => x.fst) ({ pos := Value.ref e :: rest } : Args).kw) = pure () from
    fun a b n => check_star_args _ _ _ _ _ _]
  exact wpAny_pure hq

/-- Exception.__init__ called by name on an own exception -/
theorem base_init {e t : Addr} {v : Value} {rest : List (Addr × Obj)} {Q : Value → Shared → Prop} (F₀ : Fr h₀ L s.heap m) (X₀ : K.In h₀) (N : News h₀ L s.heap ((e, excObj C t) :: rest)) (he : ∀ p ∈ rest, p.1 ≠ e)
    (hC : K.lookup C = some (excClassObj nm q C Nn bs bm hdct sn sub ab col dd k0 k1 k2 k3 k5 "Exception.__new__")) (O : Order bm)
    (h : ∀ t' h', (∀ p ∈ (t', tup [v]) :: rest, p.1 ≠ e) → (∀ p ∈ rest, p.1 ≠ t') → Fr h₀ L h' m → News h₀ L h' ((e, excObj C t') :: (t', tup [v]) :: rest) → Q .none { s with heap := h' }) :
    wpAny (model prog w) A (call (.builtin "Exception.__init__") [.ref e, v]) Q E s := by
  obtain ⟨hh, g, d, t0, os⟩ := s
  have F := PySem.F.excBase_Exception
  have X := X₀.keeps F₀.keep
  have P := N (e, excObj C t) (.head _)
  have ne : e ≠ hh.objs.size := Nat.ne_of_lt (Heap.lt_size P.1)
  have N1 := N.push F₀ (tup [v])
  have hne : ∀ p ∈ ((hh.objs.size, tup [v]) :: rest), p.1 ≠ e := fun p hp => by
    rcases List.mem_cons.mp hp with rfl | hp
    · exact fun z => ne z.symm
    · exact he p hp
  refine wpAny_call (codeAny_call_builtin F.init.plain F.initEntry (init_checked O (X _ _ hC) P.1 rfl ?_))
  have hget := P.1
  wp_walk
  have P' : (hh.push (tup [v])).get? e = some (excObj C t) := Heap.get?_push_of_some _ P.1
  refine h hh.objs.size _ hne (fun p hp => Nat.ne_of_lt (Heap.lt_size (N p (.tail _ hp)).1)) ?_ ?_
  · exact (news_upd (pre := [(hh.objs.size, tup [v])]) (post := rest) (o := excObj C t) (o' := excObj C hh.objs.size) (d := e) (F₀.push (tup [v])) N1 (fun p hp => by rw [List.mem_singleton.mp hp]; exact fun z => ne z.symm) he rfl rfl).1
  · have N2 : News h₀ L _ ([(hh.objs.size, tup [v])] ++ (e, excObj C hh.objs.size) :: rest) :=
      (news_upd (pre := [(hh.objs.size, tup [v])]) (post := rest) (o := excObj C t) (o' := excObj C hh.objs.size) (d := e) (f := fun o => { o with data := .fields #[.ref hh.objs.size, .none, .none, .none, .bool false, .none] }) (F₀.push (tup [v])) N1 (fun p hp => by rw [List.mem_singleton.mp hp]; exact fun z => ne z.symm) he rfl rfl).2
    intro p hp
    have hu : ∀ f : Obj → Obj, f (excObj C t) = excObj C hh.objs.size → (News h₀ L ((hh.push (tup [v])).update e f) ([(hh.objs.size, tup [v])] ++ (e, excObj C hh.objs.size) :: rest)) := fun f hf =>
      (news_upd (pre := [(hh.objs.size, tup [v])]) (post := rest) (o := excObj C t) (o' := excObj C hh.objs.size) (d := e) (f := f) (F₀.push (tup [v])) N1 (fun p hp => by rw [List.mem_singleton.mp hp]; exact fun z => ne z.symm) he hf rfl).2
    refine hu _ ?_ p ?_
    · rfl
    · rcases List.mem_cons.mp hp with rfl | hp
      · simp
      rcases List.mem_cons.mp hp with rfl | hp
      · simp
      · simp [hp]

def overExc : List Value → Bool
  | .ref _ :: r => overExc r
  | l => l == [.type "Exception", .type "BaseException", .type "object"]
theorem refuse_exc (self : Value) : ∀ {l : List Value}, overExc l = true → refuseLoop self "__setattr__" l = pure ()
  | .ref c :: r, e => by rw [refuseLoop_ref]; exact refuse_exc self (by unfold overExc at e; exact e)
  | [], e => by cases e
  | .type n :: r, e => by
    have : (Value.type n :: r) = [.type "Exception", .type "BaseException", .type "object"] := by unfold overExc at e; exact of_decide_eq_true (by simpa using e)
    rw [this]; exact PySem.F.store_Exception.passes self
  | .none :: r, e | .bool _ :: r, e | .int _ _ :: r, e | .float _ _ :: r, e | .str _ _ :: r, e | .builtin _ :: r, e => by simp [overExc] at e

/-- the first field of an own exception: it gets its dict -/
theorem set_first {e t : Addr} {name : Str} {v : Value} {rest : List (Addr × Obj)} {cd : ClassData} {Q : Unit → Shared → Prop} (F : Fr h₀ L s.heap m) (X₀ : K.In h₀) (N : News h₀ L s.heap ((e, excObj C t) :: rest)) (he : ∀ p ∈ rest, p.1 ≠ e)
    (hs : findIn K (.ref C) "__setattr__" = some (some (.builtin "object.__setattr__"))) (hc : clsIn K C = some cd) (hm : overExc cd.mro = true) (hob : subIn K (.ref C) (.type "object") = some true) (hd : cd.hasDict = true) (ha : findIn K (.ref C) name = some none)
    (h : ∀ d h' tk', Fr h₀ L h' m → News h₀ L h' ((e, excD C t (some d)) :: rest) → Q () { s with heap := h', toks := tk' }) :
    wpAny (model prog w) A (setAttr (.ref e) name v) Q E s := by
  obtain ⟨hh, g, d, t0, os⟩ := s
  have X := X₀.keeps F.keep
  have P := N (e, excObj C t) (.head _)
  have I : InstAt hh e (excObj C t) C none := ⟨P.1, rfl, rfl, trivial⟩
  have SF := PySem.F.store_Exception
  have sub : Looks (model prog w) hh (isInstance (.ref e) (.type "object")) true := I.type.andThen (looks_subIn X hob)
  have hmro : Looks (model prog w) hh (mroOf (.ref C)) cd.mro := (looks_clsIn X hc).andThen .now
  refine set_plain X I hs ?_
  refine codeAny_call_builtin SF.slot.plain SF.entry (@check_slot (model prog w) _ _ _ "object.__setattr__" "object" "__setattr__" (.ref e) [.str name _, v] [] _ SF.kind SF.split sub (SF.args (.ref e) (.str name _) v) ?_)
  rw [osa_eq, refuse_eq]
  refine wpAny_bind (wpAny_bind (I.type.here (wpAny_bind (hmro.here ?_))))
  rw [refuse_exc _ hm]
  refine wpAny_pure (wpAny_bind (I.type _ _ _ _ (fun _ _ z => z) (wpAny_bind (looks_findIn X ha _ _ _ _ (fun _ _ z => z) (wpAny_bind (wpAny_pure ?_))))))
  dsimp only
  refine wpAny_bind (wpAny_pure (wpAny_bind (wpAny_bind (wpAny_loadPart P.1 (wpAny_bind (looks_clsIn X hc _ _ _ _ (fun _ _ z => z) ?_))))))
  rw [hd]
  simp only [Bool.not_true, Bool.false_eq_true, if_false, Bool.or_false, typeHasDict]
  refine wpAny_bind (wpAny_alloc' ?_)
  have P₁ : (hh.push { cls := .type "dict", data := .dict #[] }).get? e = some (excObj C t) := Heap.get?_push_of_some _ P.1
  have ne : e ≠ hh.objs.size := Nat.ne_of_lt (Heap.lt_size P.1)
  refine wpAny_bind (wpAny_update' P₁ ?_)
  refine wpAny_pure ?_
  have hgd : ((hh.push { cls := .type "dict", data := .dict #[] }).update e fun o => { cls := o.cls, dict := some hh.objs.size, data := o.data, slots := o.slots }).get? hh.objs.size
      = some { cls := .type "dict", data := .dict #[] } := (Heap.get?_update_ne _ _ _ _ ne.symm).trans (Heap.get?_push_at rfl rfl)
  have hnd : ((hh.push { cls := .type "dict", data := .dict #[] }).update e fun o => { cls := o.cls, dict := some hh.objs.size, data := o.data, slots := o.slots }).Ns hh.objs.size (fun _ => none) :=
    ⟨_, #[], _, hgd, rfl, fun e he => absurd he (by simp), fun _ => rfl⟩
  refine wpAny_bind (wpAny_pure (wpAny_bind (wpAny_nsSet1 (Heap.Ns1.of_empty hnd) fun h' hn' hs => ?_)))
  obtain ⟨oD, esD, epD, hoD, hdD, hcD⟩ := hn'.count (Within.cons name v Within.nil)
  refine wpAny_bind (wpAny_lookBehind hoD (by rw [hdD]; exact pastItsLine_dict (Nat.le_trans hcD (by rw [List.length_cons, List.length_nil, sizeLine_eq]; omega))) ?_)
  refine wpAny_pure ?_
  have F₁ := F.push { cls := .type "dict", data := .dict #[] }
  have N₁ : News h₀ L (hh.push { cls := .type "dict", data := .dict #[] }) ([] ++ (e, excObj C t) :: rest) := fun p hp => N.push F { cls := .type "dict", data := .dict #[] } rfl p (.tail _ hp)
  obtain ⟨F₂, N₂⟩ := news_upd (f := fun o => { cls := o.cls, dict := some hh.objs.size, data := o.data, slots := o.slots }) (o' := excD C t (some hh.objs.size)) F₁ N₁ (fun _ hp => nomatch hp) he rfl rfl
  have low : ∀ b o, hh.get? b = some o → b ≠ hh.objs.size := fun b o z => Nat.ne_of_lt (Heap.lt_size z)
  obtain ⟨oL, es, ep, hL, r⟩ := F.ns
  obtain ⟨oL₂, es₂, ep₂, hL₂, r₂⟩ := F₂.ns
  refine h hh.objs.size h' _ ⟨⟨oL₂, es₂, ep₂, (hs.2 _ (low _ _ hL)).trans hL₂, r₂⟩, fun b o z => (hs.2 b (low b o (F.keep b o z))).trans (F₂.keep b o z), F.above⟩ fun p hp => ?_
  have P₂ := N₂ p (by simpa using hp)
  refine ⟨(hs.2 p.1 ?_).trans P₂.1, P₂.2⟩
  rcases List.mem_cons.mp hp with rfl | hp
  · exact ne
  · exact low _ _ (N p (.tail _ hp)).1

/-- an own exception, with or without a dict, leaves the frame that made it -/
theorem leave_own {M : Model} {base g : Heap} {outer : List Env} {L a e t : Addr} {m : Str → Option Value} {name : Str} {scope : Scope} {cd : Value} {s' : Shared} {od : Option Addr} {vs : List Value} {news : List (Addr × Obj)} {Q : Unit → Shared → Prop} (B₀ : Below A base outer g) (F : Fr g L s'.heap m)
    (N : News g L s'.heap ((e, excD C t od) :: (t, tup vs) :: news)) (he : ∀ p ∈ (t, tup vs) :: news, p.1 ≠ e) (ht : ∀ p ∈ news, p.1 ≠ t)
    (hQ : ∀ h' t, RaisedS base g outer e (.ref C) t vs news h' → RaisedK base outer e (.ref C) t vs news h' → g.UpToSlots h' → Q () { s' with heap := h' }) (hk : scope.kind = .function := by rfl) :
    wpAny M (A.deeper (envOf name scope L a cd)) (leaving (envOf name scope L a cd) (.ref e)) Q E s' := by
  have B₁ := B₀.push (name := name) (a := a) (cd := cd) F hk
  let fs := (envOf name scope L a cd :: outer).filterMap (·.frame)
  have P := N (e, _) (.head _)
  have Pt := N (t, _) (.tail _ (.head _))
  have notF : ∀ b, g.get? b = none → b ≠ L → b ∉ fs := fun b hb hL hm => by
    rcases kts_mem hm with z | z
    · exact hL z
    · obtain ⟨_, o, ho, _⟩ := B₀.frames.mem z
      rw [hb] at ho; cases ho
  have keepB : ∀ b o, s'.heap.get? b = some o → b ∉ e :: t :: fs → (hideAll s'.heap (e :: t :: fs)).get? b = some o := fun b o z nm => hideAll_get _ z nm
  have notIn : ∀ b, b ∉ fs → b ≠ e → b ≠ t → b ∉ e :: t :: fs := fun b n1 n2 n3 hm => by
    rcases List.mem_cons.mp hm with z | hm
    · exact n2 z
    rcases List.mem_cons.mp hm with z | hm
    · exact n3 z
    · exact n1 hm
  have gone : ∀ b, g.get? b = none → base.get? b = none := fun b hb => fresh_of_stays B₀.stays hb
  have st : base.StaysIn (hideAll s'.heap (e :: t :: fs)) := fun b o z => keepB b o (B₁.stays b o z) (notIn b
    (fun hm => by rw [(B₁.frames.mem hm).1] at z; cases z) (fun q => by rw [q, gone _ P.2.2] at z; cases z) (fun q => by rw [q, gone _ Pt.2.2] at z; cases z))
  have sg : ∀ b o, g.get? b = some o → b ∉ outer.filterMap (·.frame) → (hideAll s'.heap (e :: t :: fs)).get? b = some o := fun b o z nm => keepB b o (F.keep b o z) (notIn b
    (fun hm => by
      rcases kts_mem hm with q | q
      · rw [q, kts_self F] at z; cases z
      · exact nm q)
    (fun q => by rw [q, P.2.2] at z; cases z) (fun q => by rw [q, Pt.2.2] at z; cases z))
  have hl : ∀ q ∈ news, (hideAll s'.heap (e :: t :: fs)).get? q.1 = some q.2 ∧ g.get? q.1 = none ∧ base.get? q.1 = none := fun q hq => by
    have Pq := N q (.tail _ (.tail _ hq))
    exact ⟨keepB _ _ Pq.1 (notIn _ (notF _ Pq.2.2 Pq.2.1) (he q (.tail _ hq)) (ht q hq)), Pq.2.2, gone _ Pq.2.2⟩
  have hin : ∀ env ∈ (envOf name scope L a cd :: outer), ∀ b, env.frame = some b → b ∈ e :: t :: fs := fun env he b hb => .tail _ (.tail _ (List.mem_filterMap.mpr ⟨env, he, hb⟩))
  refine wpAny_leaving_firstW (base := hideAll s'.heap (e :: t :: fs)) (a0 := .ref t) B₁.stack (funFrames_hide B₁.frames hin) rfl P.1 (fun b o z => of_hideAll _ z) (hideAll_none _ (.head _)) rfl rfl rfl fun h' hL => ?_
  obtain ⟨k1, ⟨_, _, k2⟩, k3, k4⟩ := hL
  have R : RaisedS base g outer e (.ref C) t vs news h' := ⟨⟨_, st, sg, hl, ⟨k1, hideAll_none _ (.head _), k2, k3⟩, hideAll_none _ (.tail _ (.head _))⟩, Heap.TupAt.of_slots ⟨_, _, Pt.1, rfl, rfl⟩ k4⟩
  exact hQ h' t R R.toK ((Heap.UpToSlots.of_keeps F.keep).trans k4)

/-- a def is entered whose own try may catch: the frame below keeps all but its slots -/
theorem enter_turn {A₀ : Around} {base : Heap} {env : Env} {cd₀ : Value} {p : Program} {loose : List Str} {mean : ExcName → Option Value} {mg mb : Str → Option Value}
    {R : Result → Shared → Prop} {name qual : Str} {params : Arguments} {body : List Stmt} {scope : Scope} {dV kV doc pm cdv ct oc : Value} {an od : Option Addr} {osl : Array (Option Value)} {f : Addr} {args : Args} {binds : List (Str × Value)}
    (B : Below A₀ base [] h₀) (F : Fr h₀ L s.heap m) (X₀ : K.In h₀) (N : News h₀ L s.heap news) (T : Top p loose mean mg mb h₀) (hA : A.frames = some [env]) (hf : env.frame = some L) (hke : env.scope.kind = .function) (_hcd₀ : env.code = cd₀)
    (ho : K.lookup f = some ⟨oc, od, .func (fnOf name qual params body scope dV kV doc pm an cdv ct), osl⟩) (hcd : codeIn K cdv qual = true) (hroom : A.depth < recursionLimit)
    (hbind : BindsTo s (fnOf name qual params body scope dV kV doc pm an cdv ct) args binds) (hloc : ∀ y ∈ binds, scope.names.lookup y.1 = some .local)
    (h : ∀ g L' h₁, Fr h₀ L g m → Fr g L' h₁ (fun y => binds.reverse.lookup y) → News g L' h₁ news → Below A base [env] g → K.In g → Top p loose mean mg mb g → KtsDicts ([env].filterMap (·.frame)) g →
      wpAny (model prog w) (A.deeper (envOf qual scope L' f cdv)) (execs body (envOf qual scope L' f cdv))
        (fun fl s' => LeaveS0 ([env].filterMap (·.frame)) h₀ L m g R (match fl with | .ret v => v | _ => .none) s')
        (fun e s' => wpAny (model prog w) (A.deeper (envOf qual scope L' f cdv)) (leaving (envOf qual scope L' f cdv) e) (fun _ s'' => R (.error e) s'') (fun e' s'' => R (.error e') s'') s')
        { s with heap := h₁, toks := s.toks + binds.length })
    (hco : scope.isCoroutine = false) (hgen : scope.isGenerator = false) (hk : scope.kind = .function)
    (hcell : ∀ x ∈ scope.names, x.2 ≠ .cell) : codeAny (model prog w) A (.call (.ref f) args) R s := by
  have X := X₀.keeps F.keep
  obtain ⟨FG, BG, st, _⟩ := groundX (R := R) B F N hA hf hke
  have only : ∀ b, b ∈ [env].filterMap (·.frame) → b = L := fun b hb => by
    obtain ⟨y, hy, hz⟩ := List.mem_filterMap.mp hb
    rw [List.mem_singleton.mp hy, hf] at hz
    exact (Option.some.inj hz).symm
  obtain ⟨oL, es, ep, hL, hLd, hLk, hLf⟩ := FG.ns
  refine codeAny_call_def (fd := fnOf name qual params body scope dV kV doc pm an cdv ct) (body := body) (binds := binds) hroom (X _ _ ho) rfl (T.nolimit.keeps F.keep) (codeRec_of X hcd) rfl hbind hcell hloc (fun h₁ hns hk₁ => ?_) hco hgen hk
  refine wpAny_mono (h _ s.heap.objs.size h₁ FG ⟨hns, fun b o z => hk₁ b o (of_hideAll _ z), Nat.le_of_eq (hideAll_size _ _)⟩
    (fun q hq => ⟨hk₁ _ _ (N q hq).1, Nat.ne_of_lt (Heap.lt_size (N q hq).1), hideAll_none _ (List.mem_map_of_mem hq)⟩) BG (X₀.keeps st) (T.keeps st) (fun b hb => ⟨oL, es, ep, by rw [only b hb]; exact hL, hLd⟩)) (fun fl s' hl => ?_) fun _ _ y => y
  obtain ⟨g', L', m', news', T', F', N', k⟩ := hl
  have nL : h₀.get? L = none := kts_self F
  obtain ⟨sl, hs⟩ := T'.up hL
  refine k ⟨⟨_, es, ep, F'.keep _ _ hs, hLd, hLk, hLf⟩, fun b o z => F'.keep b o (T'.other b o (st b o z) fun hm => by rw [only b hm, nL] at z; cases z), F.above⟩ fun q hq => ⟨(N' q hq).1, fun z => ?_, ?_⟩
  · have y := (N' q hq).2.2
    rw [z, hs] at y; cases y
  · cases y : h₀.get? q.1 with
    | none => rfl
    | some o =>
      obtain ⟨_, hs'⟩ := T'.up (st _ _ y)
      have y' := (N' q hq).2.2
      rw [hs'] at y'; cases y'
end
end Mine
end

section
open PySem PySem.W PyProof.Rows
set_option maxRecDepth 100000
set_option maxHeartbeats 8000000
namespace Mine
def LatchTells (w : World) (K : Frag) (p : Program) (loose : List Str) (mean : ExcName → Option Value) (mg mb : Str → Option Value) : Prop :=
  ∀ (dp un : Nat) (gd : Option (List Code)) (cn : Str) (cs : Scope) (a : Addr) (ccd : Value) (cl : List (Str × Addr)) (outer : List Env) (A₀ : Around) (base h₀ : Heap) (L : Addr) (m : Str → Option Value) (own : List (Addr × Obj)) (s : Shared)
    (l : Addr) (n : Nat) (g0 g1 k : Int) (t0 t1 tk : Tok) (Q E : Value → Shared → Prop),
    Below A₀ base outer h₀ → Fr h₀ L s.heap m → K.In h₀ → News h₀ L s.heap ((l, listOf [Value.int g0 t0, Value.int g1 t1].toArray n) :: own) → OwnOff own [l] → Top p loose mean mg mb h₀ → cs.kind = .function →
    0 ≤ g0 → 0 ≤ g1 → g1 < 100000 → 0 < k → k < 100 → dp + 1 < recursionLimit → un + 8 < cLine →
    (∀ r t h' tk' g0' t0' g1' t1', 0 ≤ r → r < k → 0 ≤ g0' → g0' ≤ g0 → 0 ≤ g1' → g1' < 100000 → Fr h₀ L h' m → News h₀ L h' ((l, listOf [Value.int g0' t0', Value.int g1' t1'].toArray n) :: own) → Q (.int r t) { s with heap := h', toks := tk' }) →
    wpAny (model Challenge.rw_xm0806_01.row.prog w) (ktrTop dp un gd cn cs L a ccd cl outer) (call (.ref 109) [.ref l, .int k tk]) Q E s

theorem latch_hi {g k : Int} (h : 0 ≤ g) (hk : 0 < k) : 0 ≤ g.fmod k ∧ g.fmod k < k ∧ 0 ≤ g.fdiv k ∧ g.fdiv k ≤ g := by
  have h1 : g.fmod k = g % k := Int.fmod_eq_emod_of_nonneg g (Int.le_of_lt hk)
  have h2 : g.fdiv k = g / k := Int.fdiv_eq_ediv_of_nonneg g (Int.le_of_lt hk)
  rw [h1, h2]
  exact ⟨Int.emod_nonneg _ (by omega), Int.emod_lt_of_pos _ hk, Int.ediv_nonneg h (Int.le_of_lt hk), Int.ediv_le_self _ h⟩
theorem latch_lo {g : Int} : 0 ≤ g.fmod 65203 ∧ g.fmod 65203 < 100000 := by
  have h1 : g.fmod 65203 = g % 65203 := Int.fmod_eq_emod_of_nonneg g (by decide)
  rw [h1]
  omega
theorem latch_out {g k : Int} (hk : 0 < k) : 0 ≤ g.fmod k ∧ g.fmod k < k := by
  have h1 : g.fmod k = g % k := Int.fmod_eq_emod_of_nonneg g (Int.le_of_lt hk)
  rw [h1]
  exact ⟨Int.emod_nonneg _ (by omega), Int.emod_lt_of_pos _ hk⟩

theorem latch {w : World} {p : Program} {loose : List Str} {mean : ExcName → Option Value} {mg mb : Str → Option Value} : LatchTells w (hd.heap_39 w.params) p loose mean mg mb := by
  unfold LatchTells
  k_fill
  intro dp un gd cn cs a ccd cl outer A₀ base h₀ L m own s l n g0 g1 k t0 t1 tk Q E B F X N hoff T hk hg0 hg1 hg1' hk0 hk1 hd hu hret
  refine wpAny_call ?_
  k_dflt cell_enter
  k_steps
  all_goals refine' hret _ _ _ _ _ _ _ _ ?_ ?_ ?_ ?_ ?_ ?_ (by assumption) (by assumption)
  all_goals first
    | exact (latch_hi hg0 hk0).1
    | exact (latch_hi hg0 hk0).2.1
    | exact (latch_hi hg0 hk0).2.2.1
    | exact (latch_hi hg0 hk0).2.2.2
    | exact hg0
    | exact hg1
    | exact hg1'
    | exact Int.le_refl _
    | exact (latch_out hk0).1
    | exact (latch_out hk0).2
    | exact latch_lo.1
    | exact latch_lo.2
end Mine
end

section
open PySem PySem.W PyProof.Rows
set_option maxRecDepth 100000
set_option maxHeartbeats 8000000
namespace Mine
def GateTells (w : World) (K : Frag) (p : Program) (loose : List Str) (mean : ExcName → Option Value) (mg mb : Str → Option Value) : Prop :=
  ∀ (dp un : Nat) (gd : Option (List Code)) (cn : Str) (cs : Scope) (a : Addr) (ccd : Value) (cl : List (Str × Addr)) (outer : List Env) (A₀ : Around) (base h₀ : Heap) (L : Addr) (m : Str → Option Value) (news : List (Addr × Obj)) (s : Shared)
    (l : Addr) (vs : List Value) (ns : List Int) (Q E : Value → Shared → Prop),
    Below A₀ base outer h₀ → Fr h₀ L s.heap m → K.In h₀ → News h₀ L s.heap news → Top p loose mean mg mb h₀ → cs.kind = .function → base.IsList l vs.toArray → IntsAre vs ns → (PyData.list (List.map PyData.int ns)).layable0 = true →
    dp + 1 < recursionLimit → un + 8 < cLine →
    (∀ g h' tk' n g0 t0 g1 t1, 0 ≤ g0 → 0 ≤ g1 → g1 < 100000 → (∀ p ∈ news, p.1 < g) → Fr h₀ L h' m → News h₀ L h' ((g, listOf [Value.int g0 t0, Value.int g1 t1].toArray n) :: news) → Q (.ref g) { s with heap := h', toks := tk' }) →
    wpAny (model Challenge.rw_xm0806_01.row.prog w) (ktrTop dp un gd cn cs L a ccd cl outer) (call (.ref 102) [.ref l]) Q E s

theorem latch_g1 {g : Int} : 0 ≤ g.fmod 65203 + 103 ∧ g.fmod 65203 + 103 < 100000 := by
  have h1 : g.fmod 65203 = g % 65203 := Int.fmod_eq_emod_of_nonneg g (by decide)
  rw [h1]
  omega
theorem gate {w : World} {p : Program} {loose : List Str} {mean : ExcName → Option Value} {mg mb : Str → Option Value} : GateTells w (hd.heap_39 w.params) p loose mean mg mb := by
  unfold GateTells
  k_fill
  intro dp un gd cn cs a ccd cl outer A₀ base h₀ L m news s l vs ns Q E B F X N T hk hl hi hlay hd hu hret
  refine wpAny_call ?_
  k_dflt cell_enter
  k_steps
  all_goals refine' hret _ _ _ _ _ _ _ _ ?_ ?_ ?_ (by assumption) (by assumption) (by assumption)
  all_goals first
    | exact Int.le_refl _
    | exact latch_g1.1
    | exact latch_g1.2
    | with_reducible assumption
    | omega
    | fail "the end"
end Mine
end

section
open PySem PySem.W PyProof.Rows PySem.Calls
set_option maxRecDepth 100000
set_option maxHeartbeats 8000000
namespace Mine
section
variable {w : World} {p : Program} {loose : List Str} {mean : ExcName → Option Value} {mg mb : Str → Option Value} {dp un : Nat} {gd : Option (List Code)} {cn : Str} {cs : Scope} {a : Addr} {ccd : Value} {cl : List (Str × Addr)} {outer : List Env} {A₀ : Around} {base h₀ : Heap} {L : Addr} {m : Str → Option Value} {news : List (Addr × Obj)} {s : Shared}
    {l : Addr} {Q E : Value → Shared → Prop}
theorem gate_use {vs : List Value} {ns : List Int} (B : Below A₀ base outer h₀) (F : Fr h₀ L s.heap m) (X : (hd.heap_39 w.params).In h₀) (N : News h₀ L s.heap news) (T : Top p loose mean mg mb h₀) (hk : cs.kind = .function) (hl : base.IsList l vs.toArray) (hi : IntsAre vs ns)
    (hlay : (PyData.list (List.map PyData.int ns)).layable0 = true) (hd : dp + 1 < recursionLimit) (hu : un + 8 < cLine)
    (ret : ∀ g h' tk' n g0 t0 g1 t1, 0 ≤ g0 → 0 ≤ g1 → g1 < 100000 → (∀ p ∈ news, p.1 < g) → Fr h₀ L h' m → News h₀ L h' ((g, listOf [Value.int g0 t0, Value.int g1 t1].toArray n) :: news) → Q (.ref g) { s with heap := h', toks := tk' }) :
    wpAny (model Challenge.rw_xm0806_01.row.prog w) (ktrTop dp un gd cn cs L a ccd cl outer) (call (.ref 102) [.ref l]) Q E s :=
  gate _ _ _ _ _ _ _ _ _ _ _ _ _ _ _ _ _ _ _ _ _ B F X N T hk hl hi hlay hd hu ret

theorem latch_use {n : Nat} {g0 g1 k : Int} {t0 t1 tk : Tok} {news' : Int → Tok → Int → Tok → List (Addr × Obj)} (B : Below A₀ base outer h₀) (F : Fr h₀ L s.heap m) (X : (hd.heap_39 w.params).In h₀) (N : News h₀ L s.heap news) (T : Top p loose mean mg mb h₀) (hk : cs.kind = .function)
    (U : ∀ g0' t0' g1' t1', Upd l (listOf [Value.int g0 t0, Value.int g1 t1].toArray n) (listOf [Value.int g0' t0', Value.int g1' t1'].toArray n) news (news' g0' t0' g1' t1'))
    (hg0 : 0 ≤ g0) (hg1 : 0 ≤ g1) (hg1' : g1 < 100000) (hk0 : 0 < k) (hk1 : k < 100) (hd : dp + 1 < recursionLimit) (hu : un + 8 < cLine)
    (ret : ∀ r t h' tk' g0' t0' g1' t1', 0 ≤ r → r < k → 0 ≤ g0' → 0 ≤ g1' → g1' < 100000 → Fr h₀ L h' m → News h₀ L h' (news' g0' t0' g1' t1') → Q (.int r t) { s with heap := h', toks := tk' }) :
    wpAny (model Challenge.rw_xm0806_01.row.prog w) (ktrTop dp un gd cn cs L a ccd cl outer) (call (.ref 109) [.ref l, .int k tk]) Q E s := by
  obtain ⟨pre, post, e1, e2, hpre, hpost⟩ := (U g0 t0 g1 t1).split
  refine latch _ _ _ _ _ _ _ _ _ _ _ _ _ _ (pre ++ post) _ l n g0 g1 k t0 t1 tk _ _ B F X ?_ ?_ T hk hg0 hg1 hg1' hk0 hk1 hd hu ?_
  · intro p hp
    refine N p ?_
    rw [e1]
    rcases List.mem_cons.mp hp with rfl | hp
    · exact List.mem_append.mpr (.inr (.head _))
    · rcases List.mem_append.mp hp with hp | hp
      · exact List.mem_append.mpr (.inl hp)
      · exact List.mem_append.mpr (.inr (.tail _ hp))
  · intro p hp b hb
    rw [List.mem_singleton.mp hb]
    rcases List.mem_append.mp hp with hp | hp
    · exact hpre p hp
    · exact hpost p hp
  · intro r t h' tk' g0' t0' g1' t1' h1 h2 h3 _ h5 h6 F' N'
    refine ret r t h' tk' g0' t0' g1' t1' h1 h2 h3 h5 h6 F' ?_
    obtain ⟨pre', post', e1', e2', hpre', hpost'⟩ := (U g0' t0' g1' t1').split
    have key : ∀ {x : Addr × Obj}, x ∈ news' g0' t0' g1' t1' → x = (l, listOf [Value.int g0' t0', Value.int g1' t1'].toArray n) ∨ (x ∈ news ∧ x.1 ≠ l) := by
      intro x hx
      rw [e2'] at hx
      rcases List.mem_append.mp hx with hx | hx
      · exact .inr ⟨by rw [e1']; exact List.mem_append.mpr (.inl hx), hpre' x hx⟩
      · rcases List.mem_cons.mp hx with hx | hx
        · exact .inl hx
        · exact .inr ⟨by rw [e1']; exact List.mem_append.mpr (.inr (.tail _ hx)), hpost' x hx⟩
    intro p hp
    refine N' p ?_
    rcases key hp with rfl | ⟨hp, hne⟩
    · exact .head _
    · rw [e1] at hp
      rcases List.mem_append.mp hp with hp | hp
      · exact .tail _ (List.mem_append.mpr (.inl hp))
      · rcases List.mem_cons.mp hp with hp | hp
        · exact absurd (by rw [hp]) hne
        · exact .tail _ (List.mem_append.mpr (.inr hp))
end
end Mine
end

section
open PySem PySem.W PyProof.Rows PySem.Calls
set_option maxRecDepth 100000
set_option maxHeartbeats 8000000
namespace Mine
def TurnJ (l c1 c2 : Addr) (m : Str → Option Value) (nx : List (Addr × Obj)) : Prop :=
  ∃ g0 t0 g1 t1 n o1 o2 v1 v2, nx = [(l, listOf [Value.int g0 t0, Value.int g1 t1].toArray n), (c1, o1), (c2, o2)] ∧ o1.data = Data.cell v1 ∧ o2.data = Data.cell v2 ∧ 0 ≤ g0 ∧ 0 ≤ g1 ∧ g1 < 100000 ∧ m (Str.ofString "gate") = some (.ref l)
section
variable {prog : Program} {w : World} {A : Around} {E : Value → Shared → Prop} {s : Shared} {env : Env} {h₀ : Heap} {x : Str} {body : List Stmt} {Q : Flow → Shared → Prop}
theorem fr_same {h : Heap} {L : Addr} {m m' : Str → Option Value} (F : Fr h₀ L h m) (e : ∀ y, m' y = m y) : Fr h₀ L h m' := by
  have : m' = m := funext e
  rw [this]; exact F
theorem range_start (h : Heap) : IsRangeIter (h.push { cls := .type "range_iterator", data := .fields #[rawInt 0, rawInt (Builtin.Range.rangeSize 0 6 1), rawInt 1] }) h.objs.size 0 6 1 := by
  have e : Builtin.Range.rangeSize 0 6 1 = 6 := by decide
  rw [e]
  exact Heap.get?_push_size _ rfl
theorem turns {r l c1 c2 : Addr} {t₀ u₀ v₀ : Tok} {m₀ : Str → Option Value} {g0 g1 : Int} {t0 t1 : Tok} {n : Nat} {o1 o2 : Obj} {v1 v2 : Option Value}
    (hh : A.handled = none) (hr : IsRange s.heap r 0 6 1 t₀ u₀ v₀) (F : Fr h₀ env.locals s.heap m₀) (hm : m₀ (Str.ofString "gate") = some (.ref l))
    (N : News h₀ env.locals s.heap [(l, listOf [Value.int g0 t0, Value.int g1 t1].toArray n), (c1, o1), (c2, o2)]) (d1 : o1.data = Data.cell v1) (d2 : o2.data = Data.cell v2) (hg0 : 0 ≤ g0) (hg1 : 0 ≤ g1) (hg1' : g1 < 100000)
    (hx : x ≠ Str.ofString "gate")
    (turn : ∀ (k : Int) (t : Tok) (u : Str → Option Value) (h : Heap) (tk : Nat) (own : List (Addr × Obj)) g0 t0 g1 t1 n o1 o2 v1 v2, 0 ≤ g0 → 0 ≤ g1 → g1 < 100000 → o1.data = Data.cell v1 → o2.data = Data.cell v2 → OwnOff own [l, c1, c2] →
      Fr h₀ env.locals h (fun y => if y = x then some (.int k t) else if y = Str.ofString "gate" then some (.ref l) else u y) →
      News h₀ env.locals h ((l, listOf [Value.int g0 t0, Value.int g1 t1].toArray n) :: (c1, o1) :: (c2, o2) :: own) →
      wpAny (model prog w) A (execs body env) (InvPostN h₀ env.locals (TurnJ l c1 c2) own [l, c1, c2] { s with heap := h, toks := tk } Q) E { s with heap := h, toks := tk })
    (done : ∀ m₁ news₁ h tk, Fr h₀ env.locals h m₁ → News h₀ env.locals h news₁ → Q .next { s with heap := h, toks := tk }) :
    wpAny (model prog w) A (pyIter (.ref r)) (fun it s₂ => LoopAtV prog w A h₀ env x body Q E it s₂) E s := by
  refine wpAny_pyIter_range hr (by decide) ?_
  have W : Walks prog w A s.heap.objs.size [s.heap.objs.size] [s.heap.objs.size] 6 (fun i v => i < 6 ∧ ∃ t, v = .int (0 + i * 1) t)
      (fun i h => IsRangeIter h s.heap.objs.size (0 + (i : Nat) * 1) ((6 : Nat) - (i : Nat)) 1) := (Walks.range hh _ 0 1 6).bound
  refine loop_invN (fun _ m nx => TurnJ l c1 c2 m nx) W ?_ ?_ ?_ ?_ (range_start _) (F.push _) (fun p hp => ⟨Heap.get?_push_of_some _ (N p hp).1, (N p hp).2⟩) ⟨g0, t0, g1, t1, n, o1, o2, v1, v2, rfl, d1, d2, hg0, hg1, hg1', hm⟩ ?_ ?_
  · intro hm
    exact absurd F.ns.lt ((List.mem_singleton.mp hm) ▸ Nat.lt_irrefl _)
  · intro b hb
    rw [List.mem_singleton.mp hb]
    exact next_is_new F
  · intro p hp hI
    exact absurd (Heap.lt_size (N p hp).1) ((List.mem_singleton.mp hI) ▸ Nat.lt_irrefl _)
  · intro p hp hI
    exact absurd (Heap.lt_size (N p hp).1) ((List.mem_singleton.mp hI) ▸ Nat.lt_irrefl _)
  · rintro i v m₁ nx h tk own hi ⟨_, t, rfl⟩ _ hoff ⟨g0, t0, g1, t1, n, o1, o2, v1, v2, rfl, d1, d2, hg0, hg1, hg1', hm⟩ F₁ N₁
    refine turn (0 + (i : Int) * 1) t m₁ h tk own g0 t0 g1 t1 n o1 o2 v1 v2 hg0 hg1 hg1' d1 d2 hoff (fr_same F₁ fun y => ?_) N₁
    by_cases h1 : y = x
    · rw [if_pos h1, if_pos h1]
    · rw [if_neg h1, if_neg h1]
      by_cases h2 : y = Str.ofString "gate"
      · rw [if_pos h2, h2, hm]
      · rw [if_neg h2]
  · rintro m₁ nx h tk _ F₁ N₁
    exact done m₁ nx h tk F₁ N₁
end
end Mine
end

section
open PySem PySem.W PyProof.Rows PyProof.Rows.LCg PySem.Calls
set_option maxRecDepth 100000
set_option maxHeartbeats 4000000
namespace Mine

theorem compTurn_last {elt : Expr} {gens : List Comprehension} {d : Nat} {target iter : Expr} {ifs : List Expr} {scope : Scope} {pos : Pos} {it acc : Value} {env : Env} (hg : gens[d]? = some ⟨target, iter, ifs, 0⟩) (hg' : gens[d + 1]? = none) :
    compTurn (.ListComp elt gens scope pos) d it acc env = (do
      standAt iter.pos
      match ← pyNext it with
      | none => pure (.done .next)
      | some v =>
        letOwnedTupleGo target it v
        assign target env v
        let mut ok := true
        for c in ifs do
          if ok then ok ← isTrue c env (eval c env)
        if ok then
          (do let _ ← call (.builtin "list.append") [acc, ← eval elt env])
        again (.compLoop (.ListComp elt gens scope pos) d it acc env)) := by
  unfold compTurn
  simp only [hg, hg']
  rfl

theorem compTurn_next {elt : Expr} {gens : List Comprehension} {d : Nat} {target iter iter' target' : Expr} {ifs' : List Expr} {scope : Scope} {pos : Pos} {it acc : Value} {env : Env} (hg : gens[d]? = some ⟨target, iter, [], 0⟩) (hg' : gens[d + 1]? = some ⟨target', iter', ifs', 0⟩) :
    compTurn (.ListComp elt gens scope pos) d it acc env = (do
      standAt iter.pos
      match ← pyNext it with
      | none => pure (.done .next)
      | some v =>
        letOwnedTupleGo target it v
        assign target env v
        let x ← eval iter' env
        standAt iter'.pos
        let x ← foldedSetIterable iter' env x
        let _ ← runOwn (.compStart (.ListComp elt gens scope pos) (d + 1) (← holding [x] (pyIter x)) acc env) env
        again (.compLoop (.ListComp elt gens scope pos) d it acc env)) := by
  unfold compTurn
  simp only [hg, hg']
  rfl

section
variable {prog : Program} {w : World} {A : Around} {E : Value → Shared → Prop} {s : Shared} {R : Result → Shared → Prop}

theorem loop_last {elt target iter : Expr} {gens : List Comprehension} {d : Nat} {ifs : List Expr} {scope : Scope} {pos : Pos} {it acc : Value} {env : Env} (hg : gens[d]? = some ⟨target, iter, ifs, 0⟩) (hg' : gens[d + 1]? = none) (I : Nat → Shared → Prop)
    (turn : ∀ n s, I n s → wpAny (model prog w) A (pyNext it) (fun r s₁ => match r with
      | none => R (.ok .next) s₁
      | some v => wpAny (model prog w) A (assign target env v) (fun _ s₂ =>
          wpAny (model prog w) A (forIn ifs true fun c r => if r = true then do let ok ← isTrue c env (eval c env); pure (ForInStep.yield ok) else pure (ForInStep.yield r)) (fun ok s₃ =>
            if ok = true then wpAny (model prog w) A (eval elt env) (fun x s₄ =>
              wpAny (model prog w) A (call (.builtin "list.append") [acc, x]) (fun _ s₅ => ∃ m, m < n ∧ I m s₅) (notedBy (model prog w) A env fun e s' => R (.error e) s') s₄) (notedBy (model prog w) A env fun e s' => R (.error e) s') s₃
            else ∃ m, m < n ∧ I m s₃) (notedBy (model prog w) A env fun e s' => R (.error e) s') s₂) (notedBy (model prog w) A env fun e s' => R (.error e) s') s₁) (notedBy (model prog w) A env fun e s' => R (.error e) s') s)
    (n : Nat) (h : I n s) (ht : ∀ v, letOwnedTupleGo target it v = pure () := by intro _; rfl) :
    codeAny (model prog w) A (.compLoop (.ListComp elt gens scope pos) d it acc env) R s := by
  refine codeAny_loop rfl I (fun n s hI => ?_) n h
  show wpAny _ A ((compTurn (.ListComp elt gens scope pos) d it acc env).onRaise (fun x => do noteFrame x env; theTreesLotGoes x)) _ _ s
  refine wpAny_noted ?_
  rw [compTurn_last hg hg']
  refine wpAny_bind (wpAny_standAt (wpAny_bind (wpAny_mono (turn n s hI) (fun r s₁ h₁ => ?_) fun _ _ h' => h')))
  cases r with
  | none => exact wpAny_pure h₁
  | some v =>
    refine wpAny_bind (wpAny_of_eq (ht v) ?_)
    refine wpAny_bind (wpAny_mono h₁ (fun _ s₂ h₂ => wpAny_bind (wpAny_mono h₂ (fun ok s₃ h₃ => ?_) fun _ _ h' => h')) fun _ _ h' => h')
    cases ok with
    | false => exact wpAny_pure ⟨rfl, h₃⟩
    | true =>
      exact wpAny_bind (wpAny_bind (wpAny_mono h₃ (fun x s₄ h₄ => wpAny_bind (wpAny_mono h₄ (fun _ s₅ h₅ => wpAny_pure (wpAny_pure ⟨rfl, h₅⟩)) fun _ _ h' => h')) fun _ _ h' => h'))

theorem loop_next {elt target iter target' iter' : Expr} {gens : List Comprehension} {d : Nat} {ifs' : List Expr} {scope : Scope} {pos : Pos} {it acc : Value} {env : Env} (hg : gens[d]? = some ⟨target, iter, [], 0⟩) (hg' : gens[d + 1]? = some ⟨target', iter', ifs', 0⟩) (I : Nat → Shared → Prop)
    (turn : ∀ n s, I n s → wpAny (model prog w) A (pyNext it) (fun r s₁ => match r with
      | none => R (.ok .next) s₁
      | some v => wpAny (model prog w) A (assign target env v) (fun _ s₂ =>
          wpAny (model prog w) A (eval iter' env) (fun x s₃ => wpAny (model prog w) A (pyIter x) (fun it' s₄ =>
            codeAny (model prog w) A (.compStart (.ListComp elt gens scope pos) (d + 1) it' acc env) (fun r s₅ => match r with | .ok _ => ∃ m, m < n ∧ I m s₅ | .error _ => False) s₄)
            (notedBy (model prog w) A env fun e s' => R (.error e) s') s₃) (notedBy (model prog w) A env fun e s' => R (.error e) s') s₂) (notedBy (model prog w) A env fun e s' => R (.error e) s') s₁) (notedBy (model prog w) A env fun e s' => R (.error e) s') s)
    (n : Nat) (h : I n s) (ht : ∀ v, letOwnedTupleGo target it v = pure () := by intro _; rfl) (hs : ∀ x, foldedSetIterable iter' env x = pure x := by intro _; rfl) :
    codeAny (model prog w) A (.compLoop (.ListComp elt gens scope pos) d it acc env) R s := by
  refine codeAny_loop rfl I (fun n s hI => ?_) n h
  show wpAny _ A ((compTurn (.ListComp elt gens scope pos) d it acc env).onRaise (fun x => do noteFrame x env; theTreesLotGoes x)) _ _ s
  refine wpAny_noted ?_
  rw [compTurn_next hg hg']
  refine wpAny_bind (wpAny_standAt (wpAny_bind (wpAny_mono (turn n s hI) (fun r s₁ h₁ => ?_) fun _ _ h' => h')))
  cases r with
  | none => exact wpAny_pure h₁
  | some v =>
    refine wpAny_bind (wpAny_of_eq (ht v) ?_)
    refine wpAny_bind (wpAny_mono h₁ (fun _ s₂ h₂ => wpAny_bind (wpAny_mono h₂ (fun x s₃ h₃ => ?_) fun _ _ h' => h')) fun _ _ h' => h')
    refine wpAny_bind (wpAny_standAt (wpAny_bind (wpAny_of_eq (hs x) ?_)))
    refine wpAny_bind (wpAny_holding (wpAny_mono h₃ (fun it' s₄ h₄ => ?_) fun _ _ h' => h'))
    refine wpAny_bind (wpAny_runOwn (codeAny_mono h₄ fun r s₅ h₅ => ?_))
    cases r with
    | ok f => exact wpAny_pure ⟨rfl, h₅⟩
    | error e => exact h₅.elim

theorem start_at {elt target iter : Expr} {gens : List Comprehension} {d : Nat} {ifs : List Expr} {scope : Scope} {pos : Pos} {it acc : Value} {env : Env} (hg : gens[d]? = some ⟨target, iter, ifs, 0⟩)
    (h0 : codeAny (model prog w) A (.compLoop (.ListComp elt gens scope pos) d it acc env) R s)
    (h : wpAny (model prog w) A (pyIter it) (fun it' s' => codeAny (model prog w) A (.compLoop (.ListComp elt gens scope pos) d it' acc env) R s')
      (notedBy (model prog w) A env fun x s' => R (.error x) s') s) :
    codeAny (model prog w) A (.compStart (.ListComp elt gens scope pos) d it acc env) R s := by
  refine codeAny_of_tree ?_
  show wpAny _ _ ((compStart (.ListComp elt gens scope pos) d it acc env).onRaise (fun x => do noteFrame x env; standAt theWindowsPlace)) _ _ s
  refine wpAny_notedAt ?_
  unfold compStart
  simp only [clausesOf, hg]
  show wpAny _ _ (ask >>= _) _ _ s
  refine wpAny_bind (wpAny_askSetting (wpAny_ite ?_))
  split
  · first
      | exact wpAny_bind (wpAny_pure (wpAny_pure (And.intro rfl h0)))
      | exact wpAny_pure (And.intro rfl h0)
  · first
      | exact wpAny_bind (wpAny_rule (wpAny_bind (wpAny_standAt (wpAny_bind (wpAny_mono h (fun it' s' h' => wpAny_pure (And.intro rfl h')) fun _ _ x => x)))))
      | (refine wpAny_bind (wpAny_rule ?_); show wpAny _ _ (standAt iter.pos >>= _) _ _ s; exact wpAny_bind (wpAny_standAt (wpAny_bind (wpAny_mono h (fun it' s' h' => wpAny_pure (And.intro rfl h')) fun _ _ x => x))))
end
end Mine
end

section
open PySem PySem.W PyProof.Rows PyProof.Rows.LCg PySem.Calls
set_option maxRecDepth 100000
set_option maxHeartbeats 4000000
namespace Mine
section
variable {prog : Program} {w : World} {A : Around} {E : Value → Shared → Prop} {s : Shared} {R : Result → Shared → Prop} {h₀ : Heap} {L : Addr} {m : Str → Option Value}

/-- a fresh entry on a ledger -/
def OneMore (h₀ : Heap) (L : Addr) (m : Str → Option Value) (led : List (Addr × Obj)) (s : Shared) (d : Dat) (r : Value) (s' : Shared) : Prop :=
  ∃ T oT h' tk, s' = { s with heap := h', toks := tk } ∧ Fr h₀ L h' m ∧ News h₀ L h' ((T, oT) :: led) ∧ (∀ p ∈ led, p.1 < T) ∧ DatIn [(T, oT)] r d
def Same (h₀ : Heap) (L : Addr) (m : Str → Option Value) (led : List (Addr × Obj)) (s : Shared) (s' : Shared) : Prop :=
  ∃ h' tk, s' = { s with heap := h', toks := tk } ∧ Fr h₀ L h' m ∧ News h₀ L h' led
def RangeOn (h₀ : Heap) (L : Addr) (m : Str → Option Value) (led : List (Addr × Obj)) (a b : Int) (s : Shared) (r : Value) (s' : Shared) : Prop :=
  ∃ x h' tk t u v, r = .ref x ∧ s' = { s with heap := h', toks := tk } ∧ IsRange h' x a b 1 t u v ∧ Fr h₀ L h' m ∧ News h₀ L h' led

def tests (ifs : List Expr) (cenv : Env) : Sem Bool := forIn ifs true fun c r => if r = true then do let ok ← isTrue c cenv (eval c cenv); pure (ForInStep.yield ok) else pure (ForInStep.yield r)

structure Apart (C D L : Addr) (h₀ : Heap) : Prop where
  cl : C ≠ L
  dl : D ≠ L
  cd : C ≠ D
  c0 : h₀.get? C = none
  d0 : h₀.get? D = none
structure Led (C D : Addr) (bs tups : List (Addr × Obj)) (ys : List Value) (ds : List Dat) : Prop where
  off : ∀ p ∈ tups ++ bs, p.1 ≠ C ∧ p.1 ≠ D
  sep : ∀ p ∈ tups, ∀ q ∈ bs, p.1 ≠ q.1
  dat : DatAll tups ys ds

theorem pair_loop {elt iter : Expr} {gens : List Comprehension} {d : Nat} {y : Str} {py : Pos} {ifs : List Expr} {scope : Scope} {pos : Pos} {cenv : Env} {C D I : Addr} {a : Int} {n : Nat} {ok : Bool} {pd : Int → Dat} {fix : (Str → Option Value) → Prop}
    {bs tups₀ : List (Addr × Obj)} {c1 c2 : Addr} {o1 o2 : Obj} {ys₀ : List Value} {ds₀ : List Dat} {m₀ : Str → Option Value}
    (hg : gens[d]? = some ⟨.Name y py, iter, ifs, 0⟩) (hg' : gens[d + 1]? = none) (hh : A.handled = none) (hy : cenv.kindOf y = some .local)
    (hp : (cenv.scope.kind == .class || (cenv.scope.kind == .module && cenv.locals != cenv.globals)) = false) (hC : cenv.locals = C)
    (ap : Apart C D L h₀) (hIL : L ≠ I) (hIC : I ≠ C) (hID : I ≠ D) (hI₀ : h₀.get? I = none)
    (hfix : ∀ m₁ v, fix m₁ → fix (fun z => if z = y then some v else m₁ z))
    (hc1 : (c1, o1) ∈ bs) (hc2 : (c2, o2) ∈ bs)
    (htest : ∀ oC m₂ u tu X h tk (E' : Value → Shared → Prop), NsObj oC m₂ → fix m₂ → m₂ y = some (.int u tu) → a ≤ u → u < a + n → Fr h₀ L h m → News h₀ L h ((C, oC) :: (c1, o1) :: (c2, o2) :: X) →
      wpAny (model prog w) A (tests ifs cenv) (fun r s' => r = ok ∧ Same h₀ L m ((C, oC) :: (c1, o1) :: (c2, o2) :: X) { s with heap := h, toks := tk } s') E' { s with heap := h, toks := tk })
    (helt : ok = true → ∀ oC m₂ u tu X h tk (E' : Value → Shared → Prop), NsObj oC m₂ → fix m₂ → m₂ y = some (.int u tu) → a ≤ u → u < a + n → Fr h₀ L h m → News h₀ L h ((C, oC) :: (c1, o1) :: (c2, o2) :: X) →
      wpAny (model prog w) A (eval elt cenv) (OneMore h₀ L m ((C, oC) :: (c1, o1) :: (c2, o2) :: X) { s with heap := h, toks := tk } (pd u)) E' { s with heap := h, toks := tk })
    (hst : IsRangeIter s.heap I a n 1) (F : Fr h₀ L s.heap m) (hn : s.heap.Ns C m₀) (hf : fix m₀) (N : News h₀ L s.heap ((D, lst ys₀) :: (tups₀ ++ bs))) (hI : ∀ p ∈ tups₀ ++ bs, p.1 ≠ I) (ld : Led C D bs tups₀ ys₀ ds₀) (hsz : ys₀.length + n ≤ sizeLine)
    (done : ∀ h tk m' ys tups, Fr h₀ L h m → h.Ns C m' → fix m' → News h₀ L h ((D, lst ys) :: (tups ++ bs)) → ys.length ≤ ys₀.length + n →
      Led C D bs tups ys (ds₀ ++ if ok = true then (List.range n).map (fun j : Nat => pd (a + (j : Int))) else []) → R (.ok .next) { s with heap := h, toks := tk }) :
    codeAny (model prog w) A (.compLoop (.ListComp elt gens scope pos) d (.ref I) (.ref D) cenv) R s := by
  subst hC
  have W := range_walks (prog := prog) (w := w) (A := A) (I := I) hh a n
  refine loop_last hg hg'
    (fun k s' => ∃ h' tk i ys m' tups, s' = { s with heap := h', toks := tk } ∧ i ≤ n ∧ k = n + 1 - i ∧ ys.length ≤ ys₀.length + i ∧ IsRangeIter h' I (a + (i : Nat) * 1) ((n : Int) - (i : Nat)) 1 ∧ Fr h₀ L h' m ∧ h'.Ns cenv.locals m' ∧ fix m' ∧
      News h₀ L h' ((D, lst ys) :: (tups ++ bs)) ∧ (∀ p ∈ tups ++ bs, p.1 ≠ I) ∧ Led cenv.locals D bs tups ys (ds₀ ++ if ok = true then (List.range i).map (fun j : Nat => pd (a + (j : Int))) else [])) ?_ (n + 1)
    ⟨s.heap, s.toks, 0, ys₀, m₀, tups₀, rfl, Nat.zero_le _, rfl, Nat.le_refl _, by simpa using hst, F, hn, hf, N, hI, by simpa using ld⟩
  rintro k s' ⟨h', tk, i, ys, m', tups, rfl, hi, rfl, hyl, hst', F', hn', hf', N', hI', ld'⟩
  by_cases hlt : i < n
  · refine W.item i _ _ _ hlt hst' fun v h₂ tk₂ hPv hst₂ hk₂ => ?_
    obtain ⟨t, rfl⟩ := hPv
    refine wpAny_assign_Name (wpAny_storeName_local hy (hn'.at' fun o e => hk₂ _ o (by simpa using Ne.symm hIC) e) (fun h₃ hn₃ hs₃ => ?_) hp)
    have hst₃ : IsRangeIter h₃ I (a + ((i + 1 : Nat) : Int) * 1) ((n : Int) - ((i + 1 : Nat) : Int)) 1 := W.frame (i + 1) h₂ h₃ hst₂ fun b hb o e => hs₃.extBut b o (by rw [List.mem_singleton.mp hb]; exact hIC) e
    obtain ⟨oC, heC, hoC⟩ := ns_obj hn₃
    have F₃ : Fr h₀ L h₃ m := (fr_but F' hk₂ hIL hI₀).change hs₃ ap.cl ap.c0
    have N₂ : News h₀ L h₂ ((D, lst ys) :: (tups ++ bs)) := news_but N' hk₂ fun p hp => by
      rcases List.mem_cons.mp hp with rfl | hp
      · exact Ne.symm hID
      · exact hI' p hp
    have N₃ : News h₀ L h₃ ((D, lst ys) :: (tups ++ bs)) := fun p hp => by
      have z := N₂ p hp
      refine ⟨hs₃.extBut _ _ ?_ z.1, z.2⟩
      rcases List.mem_cons.mp hp with rfl | hp
      · exact Ne.symm ap.cd
      · exact (ld'.off p hp).1
    have hCN : h₃.get? cenv.locals = some oC ∧ cenv.locals ≠ L ∧ h₀.get? cenv.locals = none := ⟨heC, ap.cl, ap.c0⟩
    have hIN : h₃.get? I = some _ ∧ I ≠ L ∧ h₀.get? I = none := ⟨hst₃, Ne.symm hIL, hI₀⟩
    have inb : ∀ {p}, p ∈ bs → p ∈ (D, lst ys) :: (tups ++ bs) := fun hp => .tail _ (List.mem_append.mpr (.inr hp))
    -- the ledger that the pieces see
    have NX : News h₀ L h₃ ((cenv.locals, oC) :: (c1, o1) :: (c2, o2) :: (I, { cls := .type "range_iterator", dict := none, data := .fields #[rawInt (a + ((i + 1 : Nat) : Int) * 1), rawInt ((n : Int) - ((i + 1 : Nat) : Int)), rawInt 1], slots := #[] }) :: (D, lst ys) :: (tups ++ bs)) := by
      intro p hp
      rcases List.mem_cons.mp hp with rfl | hp
      · exact hCN
      · rcases List.mem_cons.mp hp with rfl | hp
        · exact N₃ _ (inb hc1)
        · rcases List.mem_cons.mp hp with rfl | hp
          · exact N₃ _ (inb hc2)
          · rcases List.mem_cons.mp hp with rfl | hp
            · exact hIN
            · exact N₃ p hp
    have hm₃ : (fun x => if x = y then some (Value.int (a + (i : Int)) t) else m' x) y = some (Value.int (a + (i : Int)) t) := by simp
    have hf₃ := hfix m' (Value.int (a + (i : Int)) t) hf'
    refine wpAny_mono (htest oC _ _ _ _ h₃ _ _ hoC hf₃ hm₃ (by omega) (by omega) F₃ NX) (fun r s₄ h₄ => ?_) fun _ _ e => e
    obtain ⟨rfl, h₄, tk₄, rfl, F₄, N₄⟩ := h₄
    have nC := (N₄ (cenv.locals, oC) (.head _)).1
    have back : ∀ {hx : Heap} {X : List (Addr × Obj)}, News h₀ L hx ((cenv.locals, oC) :: (c1, o1) :: (c2, o2) :: X) → News h₀ L hx X := fun N p hp => N p (.tail _ (.tail _ (.tail _ hp)))
    have step : (ds₀ ++ if r = true then (List.range (i + 1)).map (fun j : Nat => pd (a + (j : Int))) else []) = (ds₀ ++ if r = true then (List.range i).map (fun j : Nat => pd (a + (j : Int))) else []) ++ if r = true then [pd (a + (i : Int))] else [] := by
      cases r with
      | true => simp [List.range_succ, List.append_assoc]
      | false => simp
    cases r with
    | false =>
      rw [if_neg Bool.false_ne_true]
      refine ⟨n + 1 - (i + 1), by omega, h₄, tk₄, i + 1, ys, _, tups, rfl, hlt, rfl, by omega, (back N₄ _ (.head _)).1, F₄, hoC.ns nC, hf₃, fun p hp => back N₄ p (.tail _ hp), hI', ?_⟩
      rw [step]
      simpa using ld'
    | true =>
      rw [if_pos rfl]
      refine wpAny_mono (helt rfl oC _ _ _ _ h₄ _ _ hoC hf₃ hm₃ (by omega) (by omega) F₄ N₄) (fun x s₅ h₅ => ?_) fun _ _ e => e
      obtain ⟨T, oT, h₅, tk₅, rfl, F₅, N₅, hT, dT⟩ := h₅
      have nD := (N₅ (D, lst ys) (.tail _ (.tail _ (.tail _ (.tail _ (.tail _ (.head _))))))).1
      refine append_at (hsz := by show ys.toArray.size ≤ sizeLine; rw [List.size_toArray]; omega) nD fun h₆ hs₆ hD₆ => ?_
      have nC₅ := (N₅ (cenv.locals, oC) (.tail _ (.head _))).1
      have nI₅ := (N₅ (I, _) (.tail _ (.tail _ (.tail _ (.tail _ (.head _)))))).1
      have hTC : T ≠ cenv.locals := Nat.ne_of_gt (hT (cenv.locals, oC) (.head _))
      have hTI : T ≠ I := Nat.ne_of_gt (hT (I, _) (.tail _ (.tail _ (.tail _ (.head _)))))
      have hTD : T ≠ D := Nat.ne_of_gt (hT (D, lst ys) (.tail _ (.tail _ (.tail _ (.tail _ (.head _))))))
      have hTb : ∀ p ∈ tups ++ bs, T ≠ p.1 := fun p hp => Nat.ne_of_gt (hT p (.tail _ (.tail _ (.tail _ (.tail _ (.tail _ hp))))))
      refine ⟨n + 1 - (i + 1), by omega, h₆, tk₅, i + 1, ys ++ [x], _, (T, oT) :: tups, rfl, hlt, rfl, by rw [List.length_append, List.length_singleton]; omega, hs₆.extBut _ _ hID nI₅, F₅.change hs₆ ap.dl ap.d0, (hoC.ns nC₅).sameBut hs₆ ap.cd, hf₃, fun p hp => ?_, fun p hp => ?_, ?_⟩
      · rcases List.mem_cons.mp hp with rfl | hp
        · exact ⟨hD₆.trans (congrArg some (lst_snoc ys x)), ap.dl, ap.d0⟩
        · have z : News h₀ L h₅ ((T, oT) :: (tups ++ bs)) := fun q hq => by
            rcases List.mem_cons.mp hq with rfl | hq
            · exact N₅ _ (.head _)
            · exact N₅ q (.tail _ (.tail _ (.tail _ (.tail _ (.tail _ (.tail _ hq))))))
          refine ⟨hs₆.extBut _ _ ?_ (z p hp).1, (z p hp).2⟩
          rcases List.mem_cons.mp hp with rfl | hp
          · exact hTD
          · exact (ld'.off p hp).2
      · rcases List.mem_cons.mp hp with rfl | hp
        · exact hTI
        · exact hI' p hp
      · rw [step, if_pos rfl]
        refine ⟨fun p hp => ?_, fun p hp q hq => ?_, ?_⟩
        · rcases List.mem_cons.mp hp with rfl | hp
          · exact ⟨hTC, hTD⟩
          · exact ld'.off p hp
        · rcases List.mem_cons.mp hp with rfl | hp
          · exact hTb q (List.mem_append.mpr (.inr hq))
          · exact ld'.sep p hp q hq
        · exact (ld'.dat.mono fun p hp => .tail _ hp).append (.one (dT.mono fun p hp => by rw [List.mem_singleton.mp hp]; exact .head _))
  · obtain rfl : i = n := Nat.le_antisymm hi (Nat.not_lt.mp hlt)
    refine W.done _ _ _ hst' fun h₂ tk₂ hk₂ => ?_
    exact done h₂ tk₂ m' ys tups (fr_but F' hk₂ hIL hI₀) (hn'.at' fun o e => hk₂ _ o (by simpa using Ne.symm hIC) e) hf' (news_but N' hk₂ fun p hp => by
      rcases List.mem_cons.mp hp with rfl | hp
      · exact Ne.symm hID
      · exact hI' p hp) hyl ld'
end
end Mine
end

section
open PySem PySem.W PyProof.Rows PyProof.Rows.LCg PySem.Calls
set_option maxRecDepth 100000
set_option maxHeartbeats 4000000
namespace Mine
section
variable {prog : Program} {w : World} {A : Around} {E : Value → Shared → Prop} {s : Shared} {h₀ : Heap} {L : Addr} {m : Str → Option Value} {env : Env}

def CompOk (C D : Addr) (Q : Value → Shared → Prop) (r : Result) (s' : Shared) : Prop := match r with
  | .ok _ => ∃ m', s'.heap.Ns C m' ∧ ∀ h', Heap.SameBut C s'.heap h' → Q (.ref D) { s' with heap := h' }
  | .error _ => False

structure Opened (h₀ : Heap) (L : Addr) (m : Str → Option Value) (C D I : Addr) (a : Int) (n : Nat) (bs : List (Addr × Obj)) (h : Heap) : Prop where
  ap : Apart C D L h₀
  il : L ≠ I
  ic : I ≠ C
  id : I ≠ D
  i0 : h₀.get? I = none
  st : IsRangeIter h I a n 1
  fr : Fr h₀ L h m
  ns : h.Ns C (fun _ => none)
  news : News h₀ L h ((D, lst []) :: bs)
  offI : ∀ p ∈ bs, p.1 ≠ I
  off : ∀ p ∈ bs, p.1 ≠ C ∧ p.1 ≠ D

def RangeOpen (prog : Program) (w : World) (A : Around) (h₀ : Heap) (L : Addr) (m : Str → Option Value) (e : Expr) (scope : Scope) (cl : List (Str × Addr)) (env : Env) (Q : Value → Shared → Prop) (xv : Value) (s₁ : Shared) : Prop :=
  ∃ r a b t u v n bs, xv = .ref r ∧ Fr h₀ L s₁.heap m ∧ News h₀ L s₁.heap bs ∧ IsRange s₁.heap r a b 1 t u v ∧ Builtin.Range.small a b 1 = true ∧ Builtin.Range.rangeSize a b 1 = ((n : Nat) : Int) ∧
    ∀ C D I h tk, Opened h₀ L m C D I a n bs h →
      codeAny (model prog w) A (.compLoop e 0 (.ref I) (.ref D) (compEnvC scope cl C env)) (CompOk C D Q) { s₁ with heap := h, toks := tk }

theorem comp_open {elt iter : Expr} {x : Str} {px : Pos} {ifs : List Expr} {gs : List Comprehension} {scope : Scope} {pos : Pos} {cl : List (Str × Addr)} {Q : Value → Shared → Prop} (_F₀ : Fr h₀ L s.heap m) (hh : A.handled = none)
    (hclos : closureFor scope env = pure cl) (hcell : ∀ y ∈ scope.names, y.2 ≠ .cell) (hkind : scope.kind = .function)
    (hnames : ∀ y ∈ scope.names, y.2 = .local → scope.names.lookup y.1 = some .local)
    (h : wpAny (model prog w) A (eval iter env) (RangeOpen prog w A h₀ L m (.ListComp elt (⟨.Name x px, iter, ifs, 0⟩ :: gs) scope pos) scope cl env Q) E s)
    (hs : ∀ x, foldedSetIterable iter env x = pure x := by intro _; rfl) :
    wpAny (model prog w) A (eval (.ListComp elt (⟨.Name x px, iter, ifs, 0⟩ :: gs) scope pos) env) Q E s := by
  rw [eval_ListComp]
  refine wpAny_comprehension_free (use := none) rfl hs hclos hkind hnames (wpAny_mono h (fun xv s₁ h₁ => ?_) fun _ _ e => e)
  obtain ⟨r, a, b, t, u, v, n, bs, rfl, F, N, hr, hsm, hn, R⟩ := h₁
  refine wpAny_pyIter_range hr hsm ?_
  have hst : IsRangeIter (s₁.heap.push { cls := .type "range_iterator", data := .fields #[rawInt a, rawInt (Builtin.Range.rangeSize a b 1), rawInt 1] }) s₁.heap.objs.size a n 1 := by
    show Heap.get? _ _ = _
    rw [hn]; exact Heap.get?_push_size _ rfl
  have F₁ : Fr h₀ L (s₁.heap.push { cls := .type "range_iterator", data := .fields #[rawInt a, rawInt (Builtin.Range.rangeSize a b 1), rawInt 1] }) m := F.keeps fun _ _ e => Heap.get?_push_of_some _ e
  have N₁ : News h₀ L (s₁.heap.push { cls := .type "range_iterator", data := .fields #[rawInt a, rawInt (Builtin.Range.rangeSize a b 1), rawInt 1] }) bs := N.grown fun _ _ e => Heap.get?_push_of_some _ e
  have hIlt : s₁.heap.objs.size < (s₁.heap.push { cls := .type "range_iterator", data := .fields #[rawInt a, rawInt (Builtin.Range.rangeSize a b 1), rawInt 1] }).objs.size := by rw [Heap.size_push]; exact Nat.lt_succ_self _
  have hbs : ∀ p ∈ bs, p.1 < s₁.heap.objs.size := fun p hp => Heap.lt_size (N p hp).1
  have hL₁ : L < s₁.heap.objs.size := F.ns.lt
  have hI₀ : h₀.get? s₁.heap.objs.size = none := next_is_new F
  generalize s₁.heap.objs.size = I at hst hIlt hbs hL₁ hI₀
  generalize (s₁.heap.push { cls := .type "range_iterator", data := .fields #[rawInt a, rawInt (Builtin.Range.rangeSize a b 1), rawInt 1] }) = H1 at hst F₁ N₁ hIlt
  refine wpAny_newObj_type (wpAny_newFunctionEnv hcell (by intro y hy; simp at hy) (fun h₁ hns₁ hsb₁ => ?_) hkind)
  dsimp only at hns₁ hsb₁ ⊢
  generalize hH2 : H1.push { cls := .type "list", dict := none, data := .seq ([] : List Value).toArray } = H2 at hns₁ hsb₁ ⊢
  have hC : H2.objs.size = H1.objs.size + 1 := by rw [← hH2, Heap.size_push]
  have hDC : H1.objs.size ≠ H2.objs.size := by rw [hC]; exact Nat.ne_of_lt (Nat.lt_succ_self _)
  have below : ∀ b, b < H1.objs.size → b ≠ H2.objs.size ∧ b ≠ H1.objs.size := fun b hb => ⟨by rw [hC]; exact Nat.ne_of_lt (Nat.lt_succ_of_lt hb), Nat.ne_of_lt hb⟩
  have old : ∀ b o, H1.get? b = some o → h₁.get? b = some o := fun b o e => hsb₁.extBut b o (below b (Heap.lt_size e)).1 (Heap.get?_push_of_some _ (hH2 ▸ Heap.get?_push_of_some _ e))
  have hacc : h₁.get? H1.objs.size = some (lst []) := hsb₁.extBut _ _ hDC (Heap.get?_push_of_some _ (hH2 ▸ Heap.get?_push_size _ rfl))
  have fresh₀ : ∀ a, H1.objs.size ≤ a → h₀.get? a = none := fun a ha => by
    cases e : h₀.get? a with
    | none => rfl
    | some o' => have := Heap.lt_size (F₁.keep a o' e); exact absurd this (Nat.not_lt.mpr ha)
  have hLlt : L < H1.objs.size := Nat.lt_trans hL₁ hIlt
  have op : Opened h₀ L m H2.objs.size H1.objs.size I a n bs h₁ :=
    { ap := ⟨Ne.symm (below L hLlt).1, Ne.symm (below L hLlt).2, Ne.symm hDC, fresh₀ _ (by rw [hC]; exact Nat.le_succ _), fresh₀ _ (Nat.le_refl _)⟩
      il := Nat.ne_of_lt hL₁, ic := (below I hIlt).1, id := (below I hIlt).2, i0 := hI₀, st := old _ _ hst, fr := F₁.keeps old, ns := hns₁
      news := fun p hp => by
        rcases List.mem_cons.mp hp with rfl | hp
        · exact ⟨hacc, Ne.symm (below L hLlt).2, fresh₀ _ (Nat.le_refl _)⟩
        · exact ⟨old _ _ (N₁ p hp).1, (N₁ p hp).2⟩
      offI := fun p hp => Nat.ne_of_lt (hbs p hp)
      off := fun p hp => below _ (Nat.lt_trans (hbs p hp) hIlt) }
  have loop : ∀ s₃ : Shared, s₃ = { s₁ with heap := h₁, toks := s₁.toks + ([] : List (Str × Value)).length } →
      codeAny (model prog w) A (.compLoop (.ListComp elt (⟨.Name x px, iter, ifs, 0⟩ :: gs) scope pos) 0 (.ref I) (.ref H1.objs.size) (compEnvC scope cl H2.objs.size env))
        (compPost (model prog w) A E none Q (.ref H1.objs.size) H2.objs.size) s₃ := by
    rintro s₃ rfl
    refine codeAny_mono (R H2.objs.size H1.objs.size I h₁ _ op) fun r s' hr => ?_
    cases r with
    | ok f => exact hr
    | error e => exact hr.elim
  have hself : ∀ (s₃ : Shared) (Q' : Value → Shared → Prop) (E' : Value → Shared → Prop), s₃.heap = h₁ → Q' (.ref I) s₃ → wpAny (model prog w) A (pyIter (.ref I)) Q' E' s₃ := fun s₃ Q' E' e hQ =>
    (Walks.range (prog := prog) (w := w) (A := A) hh I a 1 n).self 0 s₃ Q' E' (by rw [e]; simpa using old _ _ hst) hQ
  exact start_at rfl (loop _ rfl) (hself _ _ _ rfl (loop _ rfl))
end
end Mine
end

section
open PySem PySem.W PyProof.Rows PyProof.Rows.LCg PySem.Calls
set_option maxRecDepth 100000
set_option maxHeartbeats 4000000
namespace Mine
section
variable {prog : Program} {w : World} {A : Around} {E : Value → Shared → Prop} {s : Shared} {h₀ : Heap} {L : Addr} {m : Str → Option Value} {env : Env}

def Fin1 (h₀ : Heap) (L : Addr) (m : Str → Option Value) (bs : List (Addr × Obj)) (ds : List Dat) (Q : Value → Shared → Prop) (s₁ : Shared) : Prop :=
  ∀ D ys tups h tk, Fr h₀ L h m → News h₀ L h ((D, lst ys) :: (tups ++ bs)) → ys.length ≤ 1000 → DatAll tups ys ds → Q (.ref D) { s₁ with heap := h, toks := tk }

def Src1 (prog : Program) (w : World) (A : Around) (h₀ : Heap) (L : Addr) (m : Str → Option Value) (elt : Expr) (y : Str) (scope : Scope) (cl : List (Str × Addr)) (env : Env) (pd : Int → Dat) (Q : Value → Shared → Prop) (xv : Value) (s₁ : Shared) : Prop :=
  ∃ r a b t u v n bs c1 o1 c2 o2, xv = .ref r ∧ Fr h₀ L s₁.heap m ∧ News h₀ L s₁.heap bs ∧ IsRange s₁.heap r a b 1 t u v ∧ Builtin.Range.small a b 1 = true ∧ Builtin.Range.rangeSize a b 1 = ((n : Nat) : Int) ∧ n ≤ 1000 ∧ (c1, o1) ∈ bs ∧ (c2, o2) ∈ bs ∧
    (∀ C oC m₂ u tu X h tk (E' : Value → Shared → Prop), NsObj oC m₂ → m₂ y = some (.int u tu) → a ≤ u → u < a + n → Fr h₀ L h m → News h₀ L h ((C, oC) :: (c1, o1) :: (c2, o2) :: X) →
      wpAny (model prog w) A (eval elt (compEnvC scope cl C env)) (OneMore h₀ L m ((C, oC) :: (c1, o1) :: (c2, o2) :: X) { s₁ with heap := h, toks := tk } (pd u)) E' { s₁ with heap := h, toks := tk }) ∧
    Fin1 h₀ L m bs ((List.range n).map (fun j : Nat => pd (a + (j : Int)))) Q s₁

theorem comp1 {elt iter : Expr} {y : Str} {py : Pos} {scope : Scope} {pos : Pos} {cl : List (Str × Addr)} {pd : Int → Dat} {Q : Value → Shared → Prop} (F₀ : Fr h₀ L s.heap m) (hh : A.handled = none)
    (hclos : closureFor scope env = pure cl) (hcell : ∀ z ∈ scope.names, z.2 ≠ .cell) (hkind : scope.kind = .function)
    (hnames : ∀ z ∈ scope.names, z.2 = .local → scope.names.lookup z.1 = some .local) (hy : scope.names.lookup y = some .local)
    (h : wpAny (model prog w) A (eval iter env) (Src1 prog w A h₀ L m elt y scope cl env pd Q) E s)
    (hs : ∀ x, foldedSetIterable iter env x = pure x := by intro _; rfl) :
    wpAny (model prog w) A (eval (.ListComp elt [⟨.Name y py, iter, [], 0⟩] scope pos) env) Q E s := by
  refine comp_open F₀ hh hclos hcell hkind hnames (wpAny_mono h (fun xv s₁ h₁ => ?_) fun _ _ e => e) hs
  obtain ⟨r, a, b, t, u, v, n, bs, c1, o1, c2, o2, rfl, F, N, hr, hsm, hn, hle, hc1, hc2, helt, fin⟩ := h₁
  refine ⟨r, a, b, t, u, v, n, bs, rfl, F, N, hr, hsm, hn, fun C D I h tk op => ?_⟩
  have hsl : (1000 : Nat) ≤ sizeLine := by rw [sizeLine_eq]; decide
  refine pair_loop (d := 0) (ok := true) (pd := pd) (fix := fun _ => True) (bs := bs) (tups₀ := []) (ys₀ := []) (ds₀ := []) (m₀ := fun _ => none) rfl rfl hh (lookup_relabel_local hy) (by simp [compEnvC, relabel, hkind]) rfl op.ap op.il op.ic op.id op.i0 (fun _ _ _ => trivial) hc1 hc2
    (fun oC m₂ u tu X h tk E' _ _ _ _ _ F N => wpAny_tests_nil ⟨rfl, _, _, rfl, F, N⟩) (fun _ oC m₂ u tu X h tk E' o _ e a1 a2 F N => helt C oC m₂ u tu X h tk E' o e a1 a2 F N) op.st op.fr op.ns trivial op.news op.offI ⟨op.off, fun _ hp => (nomatch hp), .nil⟩ (by simp; omega) ?_
  intro h' tk' m' ys tups F' hn' _ N' hyl ld
  refine ⟨m', hn', fun h'' hs'' => ?_⟩
  refine fin D ys tups h'' tk' (F'.change hs'' op.ap.cl op.ap.c0) (fun p hp => ⟨hs''.extBut _ _ ?_ (N' p hp).1, (N' p hp).2⟩) (by simp at hyl; omega) (by simpa using ld.dat)
  rcases List.mem_cons.mp hp with rfl | hp
  · exact Ne.symm op.ap.cd
  · exact (ld.off p hp).1

@[irreducible] def pairs2 (a b : Int) (n : Nat) (ok : Bool) (pd : Int → Int → Dat) : List Dat :=
  (List.range n).flatMap fun i : Nat => if ok = true then (List.range (b - (a + (i : Int))).toNat).map (fun j : Nat => pd (a + (i : Int)) (a + (i : Int) + (j : Int))) else []

def Src2 (prog : Program) (w : World) (A : Around) (h₀ : Heap) (L : Addr) (m : Str → Option Value) (elt iter2 test : Expr) (x y : Str) (scope : Scope) (cl : List (Str × Addr)) (env : Env) (pd : Int → Int → Dat) (Q : Value → Shared → Prop) (xv : Value) (s₁ : Shared) : Prop :=
  ∃ r a b t u v n bs c1 o1 c2 o2 ok, xv = .ref r ∧ Fr h₀ L s₁.heap m ∧ News h₀ L s₁.heap bs ∧ IsRange s₁.heap r a b 1 t u v ∧ Builtin.Range.rangeSize a b 1 = ((n : Nat) : Int) ∧ 0 ≤ a ∧ a + n ≤ b ∧ b ≤ 30 ∧ (c1, o1) ∈ bs ∧ (c2, o2) ∈ bs ∧
    (∀ C oC m₂ i ti X h tk (E' : Value → Shared → Prop), NsObj oC m₂ → m₂ x = some (.int i ti) → a ≤ i → i < a + n → Fr h₀ L h m → News h₀ L h ((C, oC) :: (c1, o1) :: (c2, o2) :: X) →
      wpAny (model prog w) A (eval iter2 (compEnvC scope cl C env)) (RangeOn h₀ L m ((C, oC) :: (c1, o1) :: (c2, o2) :: X) i b { s₁ with heap := h, toks := tk }) E' { s₁ with heap := h, toks := tk }) ∧
    (∀ C oC m₂ X h tk (E' : Value → Shared → Prop), NsObj oC m₂ → Fr h₀ L h m → News h₀ L h ((C, oC) :: (c1, o1) :: (c2, o2) :: X) →
      wpAny (model prog w) A (isTrue test (compEnvC scope cl C env) (eval test (compEnvC scope cl C env))) (fun r s' => r = ok ∧ Same h₀ L m ((C, oC) :: (c1, o1) :: (c2, o2) :: X) { s₁ with heap := h, toks := tk } s') E' { s₁ with heap := h, toks := tk }) ∧
    (∀ C oC m₂ i ti u tu X h tk (E' : Value → Shared → Prop), NsObj oC m₂ → m₂ x = some (.int i ti) → m₂ y = some (.int u tu) → Fr h₀ L h m → News h₀ L h ((C, oC) :: (c1, o1) :: (c2, o2) :: X) →
      wpAny (model prog w) A (eval elt (compEnvC scope cl C env)) (OneMore h₀ L m ((C, oC) :: (c1, o1) :: (c2, o2) :: X) { s₁ with heap := h, toks := tk } (pd i u)) E' { s₁ with heap := h, toks := tk }) ∧
    Fin1 h₀ L m bs (pairs2 a b n ok pd) Q s₁

theorem pairs2_zero {a b : Int} {ok : Bool} {pd : Int → Int → Dat} : pairs2 a b 0 ok pd = [] := by unfold pairs2; rfl
theorem pairs2_succ {a b : Int} {n : Nat} {ok : Bool} {pd : Int → Int → Dat} : pairs2 a b (n + 1) ok pd = pairs2 a b n ok pd ++ (if ok = true then (List.range (b - (a + (n : Int))).toNat).map (fun j : Nat => pd (a + (n : Int)) (a + (n : Int) + (j : Int))) else []) := by
  unfold pairs2
  rw [List.range_succ, List.flatMap_append]
  simp

theorem comp2 {elt iter iter2 test : Expr} {x y : Str} {px py : Pos} {scope : Scope} {pos : Pos} {cl : List (Str × Addr)} {pd : Int → Int → Dat} {Q : Value → Shared → Prop} (F₀ : Fr h₀ L s.heap m) (hh : A.handled = none) (hxy : x ≠ y)
    (hclos : closureFor scope env = pure cl) (hcell : ∀ z ∈ scope.names, z.2 ≠ .cell) (hkind : scope.kind = .function)
    (hnames : ∀ z ∈ scope.names, z.2 = .local → scope.names.lookup z.1 = some .local) (hx : scope.names.lookup x = some .local) (hy : scope.names.lookup y = some .local)
    (h : wpAny (model prog w) A (eval iter env) (Src2 prog w A h₀ L m elt iter2 test x y scope cl env pd Q) E s)
    (hs : ∀ x, foldedSetIterable iter env x = pure x := by intro _; rfl) (hs2 : ∀ cenv x, foldedSetIterable iter2 cenv x = pure x := by intro _ _; rfl) :
    wpAny (model prog w) A (eval (.ListComp elt [⟨.Name x px, iter, [], 0⟩, ⟨.Name y py, iter2, [test], 0⟩] scope pos) env) Q E s := by
  refine comp_open F₀ hh hclos hcell hkind hnames (wpAny_mono h (fun xv s₁ h₁ => ?_) fun _ _ e => e) hs
  obtain ⟨r, a, b, t, u, v, n, bs, c1, o1, c2, o2, ok, rfl, F, N, hr, hn, ha, hab, hb, hc1, hc2, hiter, htest, helt, fin⟩ := h₁
  have hsm : Builtin.Range.small a b 1 = true := small_one (by omega) (by omega) (by omega) (by omega)
  refine ⟨r, a, b, t, u, v, n, bs, rfl, F, N, hr, hsm, hn, fun C D I h tk op => ?_⟩
  have hsl : (1000 : Nat) ≤ sizeLine := by rw [sizeLine_eq]; decide
  have hn30 : n ≤ 30 := by omega
  have W := range_walks (prog := prog) (w := w) (A := A) (I := I) hh a n
  have hcl : (compEnvC scope cl C env).locals = C := rfl
  have hp : ((compEnvC scope cl C env).scope.kind == .class || ((compEnvC scope cl C env).scope.kind == .module && (compEnvC scope cl C env).locals != (compEnvC scope cl C env).globals)) = false := by simp [compEnvC, relabel, hkind]
  have hkx : (compEnvC scope cl C env).kindOf x = some .local := lookup_relabel_local hx
  have hky : (compEnvC scope cl C env).kindOf y = some .local := lookup_relabel_local hy
  refine loop_next (d := 0) rfl rfl
    (fun k s' => ∃ h' tk' i ys m' tups, s' = { s₁ with heap := h', toks := tk' } ∧ i ≤ n ∧ k = n + 1 - i ∧ ys.length ≤ 30 * i ∧ IsRangeIter h' I (a + (i : Nat) * 1) ((n : Int) - (i : Nat)) 1 ∧ Fr h₀ L h' m ∧ h'.Ns C m' ∧
      News h₀ L h' ((D, lst ys) :: (tups ++ bs)) ∧ (∀ p ∈ tups ++ bs, p.1 ≠ I) ∧ Led C D bs tups ys (pairs2 a b i ok pd)) ?_ (n + 1)
    ⟨h, tk, 0, [], _, [], rfl, Nat.zero_le _, rfl, by simp, by simpa using op.st, op.fr, op.ns, op.news, op.offI, ⟨op.off, fun _ hp => (nomatch hp), by rw [pairs2_zero]; exact .nil⟩⟩ (hs := hs2 _)
  rintro k s' ⟨h', tk', i, ys, m', tups, rfl, hi, rfl, hyl, hst', F', hn', N', hI', ld'⟩
  by_cases hlt : i < n
  · refine W.item i _ _ _ hlt hst' fun v h₂ tk₂ hPv hst₂ hk₂ => ?_
    obtain ⟨t, rfl⟩ := hPv
    refine wpAny_assign_Name (wpAny_storeName_local hkx (hn'.at' fun o e => hk₂ _ o (by simpa using Ne.symm op.ic) e) (fun h₃ hn₃ hs₃ => ?_) hp)
    rw [hcl] at hn₃ hs₃
    have hst₃ : IsRangeIter h₃ I (a + ((i + 1 : Nat) : Int) * 1) ((n : Int) - ((i + 1 : Nat) : Int)) 1 := W.frame (i + 1) h₂ h₃ hst₂ fun b hb o e => hs₃.extBut b o (by rw [List.mem_singleton.mp hb]; exact op.ic) e
    obtain ⟨oC, heC, hoC⟩ := ns_obj hn₃
    have F₃ : Fr h₀ L h₃ m := (fr_but F' hk₂ op.il op.i0).change hs₃ op.ap.cl op.ap.c0
    have N₂ : News h₀ L h₂ ((D, lst ys) :: (tups ++ bs)) := news_but N' hk₂ fun p hp => by
      rcases List.mem_cons.mp hp with rfl | hp
      · exact Ne.symm op.id
      · exact hI' p hp
    have N₃ : News h₀ L h₃ ((D, lst ys) :: (tups ++ bs)) := fun p hp => by
      have z := N₂ p hp
      refine ⟨hs₃.extBut _ _ ?_ z.1, z.2⟩
      rcases List.mem_cons.mp hp with rfl | hp
      · exact Ne.symm op.ap.cd
      · exact (ld'.off p hp).1
    have hCN : h₃.get? C = some oC ∧ C ≠ L ∧ h₀.get? C = none := ⟨heC, op.ap.cl, op.ap.c0⟩
    have hIN : h₃.get? I = some { cls := .type "range_iterator", dict := none, data := .fields #[rawInt (a + ((i + 1 : Nat) : Int) * 1), rawInt ((n : Int) - ((i + 1 : Nat) : Int)), rawInt 1], slots := #[] } ∧ I ≠ L ∧ h₀.get? I = none := ⟨hst₃, Ne.symm op.il, op.i0⟩
    generalize hoI : ({ cls := .type "range_iterator", dict := none, data := .fields #[rawInt (a + ((i + 1 : Nat) : Int) * 1), rawInt ((n : Int) - ((i + 1 : Nat) : Int)), rawInt 1], slots := #[] } : Obj) = oI at hIN
    have inb : ∀ {p}, p ∈ bs → p ∈ (D, lst ys) :: (tups ++ bs) := fun hp => .tail _ (List.mem_append.mpr (.inr hp))
    have NX : News h₀ L h₃ ((C, oC) :: (c1, o1) :: (c2, o2) :: (I, oI) :: (D, lst ys) :: (tups ++ bs)) := by
      intro p hp
      rcases List.mem_cons.mp hp with rfl | hp
      · exact hCN
      · rcases List.mem_cons.mp hp with rfl | hp
        · exact N₃ _ (inb hc1)
        · rcases List.mem_cons.mp hp with rfl | hp
          · exact N₃ _ (inb hc2)
          · rcases List.mem_cons.mp hp with rfl | hp
            · exact hIN
            · exact N₃ p hp
    have hm₃ : (fun z => if z = x then some (Value.int (a + (i : Int)) t) else m' z) x = some (Value.int (a + (i : Int)) t) := by simp
    refine wpAny_mono (hiter C oC _ _ _ _ h₃ _ _ hoC hm₃ (by omega) (by omega) F₃ NX) (fun xv s₄ h₄ => ?_) fun _ _ e => e
    obtain ⟨x₄, h₄, tk₄, t₄, u₄, v₄, rfl, rfl, hr₄, F₄, N₄⟩ := h₄
    have hsm₄ : Builtin.Range.small (a + (i : Int)) b 1 = true := small_one (by omega) (by omega) (by omega) (by omega)
    obtain ⟨n₄, hn₄⟩ : ∃ k : Nat, b - (a + (i : Int)) = (k : Int) := ⟨(b - (a + (i : Int))).toNat, by omega⟩
    have hrs : Builtin.Range.rangeSize (a + (i : Int)) b 1 = (n₄ : Int) := by rw [rangeSize_one]; split <;> omega
    refine wpAny_pyIter_range hr₄ hsm₄ ?_
    rw [hrs]
    dsimp only
    have up : ∀ b' o, h₄.get? b' = some o → (h₄.push { cls := .type "range_iterator", data := .fields #[rawInt (a + (i : Int)), rawInt (n₄ : Int), rawInt 1] }).get? b' = some o := fun b' o e => Heap.get?_push_of_some _ e
    have hst₅ : IsRangeIter (h₄.push { cls := .type "range_iterator", data := .fields #[rawInt (a + (i : Int)), rawInt (n₄ : Int), rawInt 1] }) h₄.objs.size (a + (i : Int)) n₄ 1 := Heap.get?_push_size _ rfl
    have F₅ := F₄.keeps up
    have N₅ := N₄.grown up
    have lt₄ : ∀ p ∈ (C, oC) :: (c1, o1) :: (c2, o2) :: (I, oI) :: (D, lst ys) :: (tups ++ bs), p.1 < h₄.objs.size := fun p hp => Heap.lt_size (N₄ p hp).1
    have hL₄ : L < h₄.objs.size := F₄.ns.lt
    have hI₄ : h₀.get? h₄.objs.size = none := next_is_new F₄
    have nC₅ := (N₅ (C, oC) (.head _)).1
    generalize h₄.objs.size = J at hst₅ lt₄ hL₄ hI₄
    generalize (h₄.push { cls := .type "range_iterator", data := .fields #[rawInt (a + (i : Int)), rawInt (n₄ : Int), rawInt 1] }) = h₅ at hst₅ F₅ N₅ nC₅
    have body : ∀ s₆ : Shared, s₆ = { s₁ with heap := h₅, toks := tk₄ } →
        codeAny (model prog w) A (.compLoop (.ListComp elt [⟨.Name x px, iter, [], 0⟩, ⟨.Name y py, iter2, [test], 0⟩] scope pos) 1 (.ref J) (.ref D) (compEnvC scope cl C env))
          (fun r s₅ => match r with
            | .ok _ => ∃ m_1, m_1 < n + 1 - i ∧ ∃ h' tk' i ys m' tups, s₅ = { s₁ with heap := h', toks := tk' } ∧ i ≤ n ∧ m_1 = n + 1 - i ∧ ys.length ≤ 30 * i ∧ IsRangeIter h' I (a + (i : Nat) * 1) ((n : Int) - (i : Nat)) 1 ∧ Fr h₀ L h' m ∧ h'.Ns C m' ∧
                News h₀ L h' ((D, lst ys) :: (tups ++ bs)) ∧ (∀ p ∈ tups ++ bs, p.1 ≠ I) ∧ Led C D bs tups ys (pairs2 a b i ok pd)
            | .error _ => False) s₆ := by
      rintro s₆ rfl
      refine pair_loop (d := 1) (ok := ok) (pd := pd (a + (i : Int))) (a := a + (i : Int)) (n := n₄) (fix := fun m₁ => m₁ x = some (.int (a + (i : Int)) t)) (bs := (I, oI) :: bs) (tups₀ := tups) (ys₀ := ys) (ds₀ := pairs2 a b i ok pd) (c1 := c1) (c2 := c2) (o1 := o1) (o2 := o2)
        (C := C) (D := D) (I := J) (h₀ := h₀) (L := L) (m := m) rfl rfl hh hky hp rfl op.ap (Nat.ne_of_lt hL₄) (Nat.ne_of_gt (lt₄ (C, oC) (.head _))) (Nat.ne_of_gt (lt₄ (D, lst ys) (.tail _ (.tail _ (.tail _ (.tail _ (.head _)))))))
        hI₄ (fun m₁ v e => by show (if x = y then some v else m₁ x) = _; rw [if_neg hxy]; exact e) (.tail _ hc1) (.tail _ hc2) ?_ ?_ hst₅ F₅ (hoC.ns nC₅) hm₃ ?_ ?_ ?_ (by omega) ?_
      · intro oC' m₂ u tu X h tk E' o _ _ _ _ F N
        exact wpAny_tests_one (htest C oC' m₂ X h tk E' o F N)
      · intro _ oC' m₂ u tu X h tk E' o e1 e2 _ _ F N
        exact helt C oC' m₂ _ _ u tu X h tk E' o e1 e2 F N
      · intro p hp
        rcases List.mem_cons.mp hp with rfl | hp
        · exact N₅ _ (.tail _ (.tail _ (.tail _ (.tail _ (.head _)))))
        · rcases List.mem_append.mp hp with hp | hp
          · exact N₅ p (.tail _ (.tail _ (.tail _ (.tail _ (.tail _ (List.mem_append.mpr (.inl hp)))))))
          · rcases List.mem_cons.mp hp with rfl | hp
            · exact N₅ _ (.tail _ (.tail _ (.tail _ (.head _))))
            · exact N₅ p (.tail _ (.tail _ (.tail _ (.tail _ (.tail _ (List.mem_append.mpr (.inr hp)))))))
      · intro p hp
        rcases List.mem_append.mp hp with hp | hp
        · exact Nat.ne_of_lt (lt₄ p (.tail _ (.tail _ (.tail _ (.tail _ (.tail _ (List.mem_append.mpr (.inl hp))))))))
        · rcases List.mem_cons.mp hp with rfl | hp
          · exact Nat.ne_of_lt (lt₄ (I, oI) (.tail _ (.tail _ (.tail _ (.head _)))))
          · exact Nat.ne_of_lt (lt₄ p (.tail _ (.tail _ (.tail _ (.tail _ (.tail _ (List.mem_append.mpr (.inr hp))))))))
      · refine ⟨fun p hp => ?_, fun p hp q hq => ?_, ld'.dat⟩
        · rcases List.mem_append.mp hp with hp | hp
          · exact ld'.off p (List.mem_append.mpr (.inl hp))
          · rcases List.mem_cons.mp hp with rfl | hp
            · exact ⟨op.ic, op.id⟩
            · exact ld'.off p (List.mem_append.mpr (.inr hp))
        · rcases List.mem_cons.mp hq with rfl | hq
          · exact hI' p (List.mem_append.mpr (.inl hp))
          · exact ld'.sep p hp q hq
      · intro h₇ tk₇ m₇ ys₇ tups₇ F₇ hn₇ _ N₇ hyl₇ ld₇
        refine ⟨n + 1 - (i + 1), by omega, h₇, tk₇, i + 1, ys₇, m₇, tups₇, rfl, hlt, rfl, by omega, ?_, F₇, hn₇, fun p hp => ?_, fun p hp => ?_, ?_⟩
        · have z := (N₇ (I, oI) (.tail _ (List.mem_append.mpr (.inr (.head _))))).1
          rw [← hoI] at z
          exact z
        · rcases List.mem_cons.mp hp with rfl | hp
          · exact N₇ _ (.head _)
          · rcases List.mem_append.mp hp with hp | hp
            · exact N₇ p (.tail _ (List.mem_append.mpr (.inl hp)))
            · exact N₇ p (.tail _ (List.mem_append.mpr (.inr (.tail _ hp))))
        · rcases List.mem_append.mp hp with hp | hp
          · exact ld₇.sep p hp (I, oI) (.head _)
          · exact hI' p (List.mem_append.mpr (.inr hp))
        · rw [pairs2_succ, show (b - (a + (i : Int))).toNat = n₄ by omega]
          refine ⟨fun p hp => ?_, fun p hp q hq => ld₇.sep p hp q (.tail _ hq), ld₇.dat⟩
          rcases List.mem_append.mp hp with hp | hp
          · exact ld₇.off p (List.mem_append.mpr (.inl hp))
          · exact ld₇.off p (List.mem_append.mpr (.inr (.tail _ hp)))
    have hself : ∀ (s₃ : Shared) (Q' : Value → Shared → Prop) (E' : Value → Shared → Prop), s₃.heap = h₅ → Q' (.ref J) s₃ → wpAny (model prog w) A (pyIter (.ref J)) Q' E' s₃ := fun s₃ Q' E' e hQ =>
      (Walks.range (prog := prog) (w := w) (A := A) hh J (a + (i : Int)) 1 n₄).self 0 s₃ Q' E' (by rw [e]; simpa using hst₅) hQ
    exact start_at rfl (body _ rfl) (hself _ _ _ rfl (body _ rfl))
  · obtain rfl : i = n := Nat.le_antisymm hi (Nat.not_lt.mp hlt)
    refine W.done _ _ _ hst' fun h₂ tk₂ hk₂ => ?_
    refine ⟨m', hn'.at' fun o e => hk₂ _ o (by simpa using Ne.symm op.ic) e, fun h'' hs'' => ?_⟩
    refine fin D ys tups h'' tk₂ ((fr_but F' hk₂ op.il op.i0).change hs'' op.ap.cl op.ap.c0) (fun p hp => ?_) (by omega) ld'.dat
    have N₂ : News h₀ L h₂ ((D, lst ys) :: (tups ++ bs)) := news_but N' hk₂ fun p hp => by
      rcases List.mem_cons.mp hp with rfl | hp
      · exact Ne.symm op.id
      · exact hI' p hp
    refine ⟨hs''.extBut _ _ ?_ (N₂ p hp).1, (N₂ p hp).2⟩
    rcases List.mem_cons.mp hp with rfl | hp
    · exact Ne.symm op.ap.cd
    · exact (ld'.off p hp).1
end
end Mine
end

section
open PySem PySem.W PyProof.Rows PyProof.Rows.LCg PySem.Calls
set_option maxRecDepth 100000
set_option maxHeartbeats 4000000
namespace Mine
section
variable {prog : Program} {w : World} {A : Around} {E : Value → Shared → Prop} {s s₁ : Shared} {h₀ : Heap} {L : Addr} {m : Str → Option Value} {env : Env} {elt iter2 test : Expr} {x y : Str} {scope : Scope} {cl : List (Str × Addr)} {Q : Value → Shared → Prop} {r : Addr} {t u v : Tok} {bs own : List (Addr × Obj)} {c1 c2 : Addr} {o1 o2 : Obj}

theorem OneMore.intro {T : Addr} {va vb : Value} {k : Nat} {led : List (Addr × Obj)} {da db : Dat} {h' : Heap} {tk : Nat} (F : Fr h₀ L h' m) (N : News h₀ L h' ((T, { cls := .type "tuple", data := .seq [va, vb].toArray k }) :: led)) (hT : AllLt T led)
    (ha : ∀ l, DatIn l va da) (hb : ∀ l, DatIn l vb db) : OneMore h₀ L m led s₁ (.tuple [da, db]) (.ref T) { s₁ with heap := h', toks := tk } :=
  ⟨T, _, h', tk, rfl, F, N, kst_ltOf hT, .tuple (.head _) (.cons (ha _) (.cons (hb _) .nil))⟩
theorem Same.intro {led : List (Addr × Obj)} {h' : Heap} {tk : Nat} (F : Fr h₀ L h' m) (N : News h₀ L h' led) : Same h₀ L m led s₁ { s₁ with heap := h', toks := tk } := ⟨h', tk, rfl, F, N⟩
theorem RangeOn.intro {x : Addr} {a b : Int} {led : List (Addr × Obj)} {h' : Heap} {tk : Nat} (hr : IsRange h' x a b 1 t u v) (F : Fr h₀ L h' m) (N : News h₀ L h' led) : RangeOn h₀ L m led a b s₁ (.ref x) { s₁ with heap := h', toks := tk } :=
  ⟨x, h', tk, t, u, v, rfl, rfl, hr, F, N⟩

theorem last_bnd {k : Int} (h0 : 0 ≤ k) (h4 : k < 4) : 0 ≤ (1 + k) * (1 + k) - 1 ∧ (1 + k) * (1 + k) - 1 ≤ 15 := by
  have : k = 0 ∨ k = 1 ∨ k = 2 ∨ k = 3 := by omega
  rcases this with rfl | rfl | rfl | rfl <;> decide

abbrev pairD (i u : Int) : Dat := .tuple [.int i, .int u]

theorem Src2.intro {k mv : Int} {tm : Tok} {n1 n2 : Str} (hr : IsRange s₁.heap r 1 ((1 + k) * (1 + k) - 1 + 1) 1 t u v) (F : Fr h₀ L s₁.heap m) (N : News h₀ L s₁.heap bs) (h0 : 0 ≤ k) (h4 : k < 4)
    (_l1 : cl.lookup n1 = some c1) (_l2 : cl.lookup n2 = some c2) (hc1 : (c1, o1) ∈ bs) (hc2 : (c2, o2) ∈ bs) (_d2 : o2.data = .cell (some (.int mv tm)))
    (hiter : ∀ C oC m₂ i ti X h tk (E' : Value → Shared → Prop), NsObj oC m₂ → m₂ x = some (.int i ti) → 1 ≤ i → i < 30 → Fr h₀ L h m → News h₀ L h ((C, oC) :: (c1, o1) :: (c2, o2) :: X) →
      wpAny (model prog w) A (eval iter2 (compEnvC scope cl C env)) (RangeOn h₀ L m ((C, oC) :: (c1, o1) :: (c2, o2) :: X) i ((1 + k) * (1 + k) - 1 + 1) { s₁ with heap := h, toks := tk }) E' { s₁ with heap := h, toks := tk })
    (htest : ∀ C oC m₂ X h tk (E' : Value → Shared → Prop), NsObj oC m₂ → Fr h₀ L h m → News h₀ L h ((C, oC) :: (c1, o1) :: (c2, o2) :: X) →
      wpAny (model prog w) A (isTrue test (compEnvC scope cl C env) (eval test (compEnvC scope cl C env))) (fun r s' => r = decide (mv = 1) ∧ Same h₀ L m ((C, oC) :: (c1, o1) :: (c2, o2) :: X) { s₁ with heap := h, toks := tk } s') E' { s₁ with heap := h, toks := tk })
    (helt : ∀ C oC m₂ i ti u tu X h tk (E' : Value → Shared → Prop), NsObj oC m₂ → m₂ x = some (.int i ti) → m₂ y = some (.int u tu) → Fr h₀ L h m → News h₀ L h ((C, oC) :: (c1, o1) :: (c2, o2) :: X) →
      wpAny (model prog w) A (eval elt (compEnvC scope cl C env)) (OneMore h₀ L m ((C, oC) :: (c1, o1) :: (c2, o2) :: X) { s₁ with heap := h, toks := tk } (pairD i u)) E' { s₁ with heap := h, toks := tk })
    (fin : Fin1 h₀ L m bs (pairs2 1 ((1 + k) * (1 + k) - 1 + 1) ((1 + k) * (1 + k) - 1).toNat (decide (mv = 1)) pairD) Q s₁) :
    Src2 prog w A h₀ L m elt iter2 test x y scope cl env pairD Q (.ref r) s₁ := by
  have hb := last_bnd h0 h4
  refine ⟨r, 1, _, t, u, v, ((1 + k) * (1 + k) - 1).toNat, bs, c1, o1, c2, o2, decide (mv = 1), rfl, F, N, hr, ?_, by omega, by omega, by omega, hc1, hc2, ?_, htest, helt, fin⟩
  · rw [rangeSize_one]; split <;> omega
  · intro C oC m₂ i ti X h tk E' o e a1 a2 F N
    exact hiter C oC m₂ i ti X h tk E' o e a1 (by omega) F N

@[irreducible] def bits (pd : Int → Dat) : List Dat := (List.range 14).map (fun j : Nat => pd (0 + (j : Int)))
abbrev pA (u : Int) : Dat := pairD 0 u
abbrev pB (u : Int) : Dat := pairD (u + 1) u
theorem Src1.intro {pd : Int → Dat} (hr : IsRange s₁.heap r 0 14 1 t u v) (F : Fr h₀ L s₁.heap m) (N : News h₀ L s₁.heap bs) (hc1 : (c1, o1) ∈ bs)
    (helt : ∀ C oC m₂ u tu X h tk (E' : Value → Shared → Prop), NsObj oC m₂ → m₂ y = some (.int u tu) → 0 ≤ u → u < 14 → Fr h₀ L h m → News h₀ L h ((C, oC) :: (c1, o1) :: (c1, o1) :: X) →
      wpAny (model prog w) A (eval elt (compEnvC scope cl C env)) (OneMore h₀ L m ((C, oC) :: (c1, o1) :: (c1, o1) :: X) { s₁ with heap := h, toks := tk } (pd u)) E' { s₁ with heap := h, toks := tk })
    (fin : Fin1 h₀ L m bs (bits pd) Q s₁) : Src1 prog w A h₀ L m elt y scope cl env pd Q (.ref r) s₁ :=
  ⟨r, 0, 14, t, u, v, 14, bs, c1, o1, c1, o1, rfl, F, N, hr, by decide, by decide, by decide, hc1, hc1, fun C oC m₂ u tu X h tk E' o e a1 a2 F N => helt C oC m₂ u tu X h tk E' o e a1 (by omega) F N, by unfold bits at fin; exact fin⟩

theorem fin_bands {ds : List Dat} {e1 e2 j1 j2 j3 j4 j5 g k1 k2 : Addr × Obj}
    (h : ∀ D ys own' h tk, (∀ p ∈ own, p ∈ own') → ys.length ≤ 1000 → DatAll own' ys ds → Fr h₀ L h m → News h₀ L h ((D, lst ys) :: e1 :: e2 :: g :: k1 :: k2 :: own') → Q (.ref D) { s₁ with heap := h, toks := tk }) :
    Fin1 h₀ L m (e1 :: e2 :: j1 :: j2 :: j3 :: j4 :: j5 :: g :: k1 :: k2 :: own) ds Q s₁ := by
  intro D ys tups h' tk F N hl hd
  refine h D ys (tups ++ own) h' tk (fun p hp => List.mem_append.mpr (.inr hp)) hl (hd.mono fun p hp => List.mem_append.mpr (.inl hp)) F fun p hp => N p ?_
  simp only [List.mem_cons, List.mem_append] at hp ⊢
  rcases hp with h | h | h | h | h | h | h | h <;> simp [h]
end
end Mine
end

section
open PySem PySem.W PyProof.Rows PyProof.Rows.LCg PySem.Calls
set_option maxRecDepth 100000
set_option maxHeartbeats 4000000
namespace Mine
section
variable {prog : Program} {w : World} {A : Around} {E : Value → Shared → Prop} {s s₁ : Shared} {h₀ : Heap} {L : Addr} {m : Str → Option Value} {env : Env} {Q : Value → Shared → Prop} {own own₁ own₂ : List (Addr × Obj)} {ds es : List Dat} {ys ws : List Value} {e1 e2 g k1 k2 : Addr × Obj}

/-- what start, end, low, high hold is not looked at behind this -/
theorem fr_four {h : Heap} {hi lo en st : Int} {t1 t2 t3 t4 : Tok} {rest : Str → Option Value}
    (F : Fr h₀ L h (fun y => if y = Str.ofString "high" then some (.int hi t1) else if y = Str.ofString "low" then some (.int lo t2) else if y = Str.ofString "end" then some (.int en t3) else if y = Str.ofString "start" then some (.int st t4) else rest y)) :
    ∃ hi lo en st : Int, ∃ t1 t2 t3 t4 : Tok, Fr h₀ L h (fun y => if y = Str.ofString "high" then some (.int hi t1) else if y = Str.ofString "low" then some (.int lo t2) else if y = Str.ofString "end" then some (.int en t3) else if y = Str.ofString "start" then some (.int st t4) else rest y) :=
  ⟨hi, lo, en, st, t1, t2, t3, t4, F⟩

theorem add_bands {l D D0 : Addr} {ta tb : Tok} {n0 n1 : Nat} (F : Fr h₀ L s.heap m) (N : News h₀ L s.heap ((D, lst ys) :: (l, listOf [Value.ref D0].toArray n1) :: (D0, { cls := .type "tuple", data := .seq [Value.int 0 ta, Value.int 0 tb].toArray n0 }) :: g :: k1 :: k2 :: own₁))
    (hs : ∀ p ∈ own, p ∈ own₁) (hl : ys.length ≤ 1000) (hd : DatAll own₁ ys ds)
    (h : ∀ D zs own' h', (∀ p ∈ own, p ∈ own') → DatAll own' zs (pairD 0 0 :: ds) → AllLt D (g :: k1 :: k2 :: own') → Fr h₀ L h' m → News h₀ L h' ((D, listOf zs.toArray 0) :: g :: k1 :: k2 :: own') → Q (.ref D) { s with heap := h' }) :
    wpAny (model prog w) A (binaryOp .Add (.ref l) (.ref D)) Q E s := by
  have h1 : s.heap.IsList l [Value.ref D0].toArray := ⟨_, (N _ (.tail _ (.head _))).1, rfl, n1, rfl⟩
  have h2 : s.heap.IsList D ys.toArray := ⟨_, (N _ (.head _)).1, rfl, _, rfl⟩
  have hz : (1001 : Nat) ≤ sizeLine := by rw [sizeLine_eq]; decide
  refine add_lists (vs := [Value.ref D0]) (ws := ys) (hsz := by simp; omega) F N h1 h2 fun h' F' N' => ?_
  refine h _ _ ((D0, { cls := .type "tuple", data := .seq [Value.int 0 ta, Value.int 0 tb].toArray n0 }) :: own₁) h' (fun p hp => .tail _ (hs p hp)) (.cons (.tuple (.head _) (.cons (.int _ _) (.cons (.int _ _) .nil))) (hd.mono fun p hp => .tail _ hp)) (allLt_of fun p hp => ?_) F' fun p hp => ?_
  · refine Heap.lt_size (N p ?_).1
    simp only [List.mem_cons] at hp ⊢
    rcases hp with h | h | h | h | h <;> simp [h]
  · refine N' p ?_
    simp only [List.mem_cons] at hp ⊢
    rcases hp with h | h | h | h | h | h <;> simp [h]

theorem add_bits {DA DB : Addr} {t2 : Addr × Obj} (F : Fr h₀ L s.heap m) (N : News h₀ L s.heap ((DB, lst ws) :: (DA, lst ys) :: t2 :: g :: k1 :: k2 :: own₂))
    (hs : ∀ p ∈ own, p ∈ own₁) (hs' : ∀ p ∈ own₁, p ∈ own₂) (hl : ys.length ≤ 1000) (hl' : ws.length ≤ 1000) (hd : DatAll own₁ ys ds) (hd' : DatAll own₂ ws es)
    (h : ∀ D zs h', (∀ p ∈ own, p ∈ own₂) → DatAll own₂ zs (ds ++ es) → Fr h₀ L h' m → News h₀ L h' ((D, listOf zs.toArray 0) :: t2 :: g :: k1 :: k2 :: own₂) → Q (.ref D) { s with heap := h' }) :
    wpAny (model prog w) A (binaryOp .Add (.ref DA) (.ref DB)) Q E s := by
  have h1 : s.heap.IsList DA ys.toArray := ⟨_, (N _ (.tail _ (.head _))).1, rfl, _, rfl⟩
  have h2 : s.heap.IsList DB ws.toArray := ⟨_, (N _ (.head _)).1, rfl, _, rfl⟩
  have hz : (2000 : Nat) ≤ sizeLine := by rw [sizeLine_eq]; decide
  refine add_lists (vs := ys) (ws := ws) (hsz := by omega) F N h1 h2 fun h' F' N' => ?_
  refine h _ _ h' (fun p hp => hs' p (hs p hp)) ((hd.mono hs').append hd') F' fun p hp => N' p ?_
  simp only [List.mem_cons] at hp ⊢
  rcases hp with h | h | h | h | h | h <;> simp [h]

theorem fin_bitsA {t2 t1 d3 : Addr × Obj} (hs : ∀ p ∈ own, p ∈ own₁)
    (h : ∀ D ys own' h tk, (∀ p ∈ own, p ∈ own') → ys.length ≤ 1000 → DatAll own' ys ds → Fr h₀ L h m → News h₀ L h ((D, lst ys) :: t2 :: g :: k1 :: k2 :: own') → Q (.ref D) { s₁ with heap := h, toks := tk }) :
    Fin1 h₀ L m (t2 :: t1 :: d3 :: g :: k1 :: k2 :: own₁) ds Q s₁ := by
  intro D ys tups h' tk F N hl hd
  refine h D ys (tups ++ own₁) h' tk (fun p hp => List.mem_append.mpr (.inr (hs p hp))) hl (hd.mono fun p hp => List.mem_append.mpr (.inl hp)) F fun p hp => N p ?_
  simp only [List.mem_cons, List.mem_append] at hp ⊢
  rcases hp with h | h | h | h | h | h | h <;> simp [h]

theorem fin_bitsB {da t2 : Addr × Obj} (_hs : ∀ p ∈ own, p ∈ own₁)
    (h : ∀ D ys own' h tk, (∀ p ∈ own₁, p ∈ own') → ys.length ≤ 1000 → DatAll own' ys ds → Fr h₀ L h m → News h₀ L h ((D, lst ys) :: da :: t2 :: g :: k1 :: k2 :: own') → Q (.ref D) { s₁ with heap := h, toks := tk }) :
    Fin1 h₀ L m (da :: t2 :: g :: k1 :: k2 :: own₁) ds Q s₁ := by
  intro D ys tups h' tk F N hl hd
  refine h D ys (tups ++ own₁) h' tk (fun p hp => List.mem_append.mpr (.inr hp)) hl (hd.mono fun p hp => List.mem_append.mpr (.inl hp)) F fun p hp => N p ?_
  simp only [List.mem_cons, List.mem_append] at hp ⊢
  rcases hp with h | h | h | h | h | h | h | h <;> simp [h]

def allPairs (ds : List Dat) : Prop := ∀ d ∈ ds, ∃ i u, d = pairD i u
theorem ok_pairs (h : allPairs ds) : ∀ d ∈ ds, kqdOk 8 d = true := fun d hd => by
  obtain ⟨i, u, rfl⟩ := h d hd
  rfl
theorem allPairs.cons {i u : Int} (h : allPairs ds) : allPairs (pairD i u :: ds) := fun d hd => by
  rcases List.mem_cons.mp hd with rfl | hd
  · exact ⟨i, u, rfl⟩
  · exact h d hd
theorem allPairs.append (h : allPairs ds) (h' : allPairs es) : allPairs (ds ++ es) := fun d hd => (List.mem_append.mp hd).elim (h d) (h' d)
theorem allPairs.map {α : Type} {f g : α → Int} {l : List α} : allPairs (l.map fun j => pairD (f j) (g j)) := fun d hd => by
  obtain ⟨j, _, rfl⟩ := List.mem_map.mp hd
  exact ⟨_, _, rfl⟩
theorem allPairs.bitsA : allPairs (bits pA) := by unfold bits; exact allPairs.map
theorem allPairs.bitsB : allPairs (bits pB) := by unfold bits; exact allPairs.map
theorem allPairs.two {a b : Int} {n : Nat} {ok : Bool} : allPairs (pairs2 a b n ok pairD) := fun d hd => by
  unfold pairs2 at hd
  obtain ⟨i, _, hd⟩ := List.mem_flatMap.mp hd
  cases ok with
  | false => simp at hd
  | true =>
    rw [if_pos rfl] at hd
    obtain ⟨j, _, rfl⟩ := List.mem_map.mp hd
    exact ⟨_, _, rfl⟩

open Classical in
theorem in_pairs {T D : Addr} {i u : Int} {ti tu : Tok} {n : Nat} {zs : List Value} (N : News h₀ L s.heap ((T, { cls := .type "tuple", data := .seq [Value.int i ti, Value.int u tu].toArray n }) :: (D, listOf zs.toArray 0) :: e1 :: k1 :: k2 :: own₁))
    (hd : DatAll own₁ zs ds) (hp : allPairs ds) (hu : A.units + 64 < cLine) (h : ∀ b : Bool, (b = true ↔ pairD i u ∈ ds) → Q (.bool b) s) : wpAny (model prog w) A (compareOp .In (.ref T) (.ref D)) Q E s :=
  kqd_isIn N (.tail _ (.head _)) rfl rfl hd (fun p hp => .tail _ (.tail _ (.tail _ (.tail _ (.tail _ hp))))) (.tuple (.head _) (.cons (.int _ _) (.cons (.int _ _) .nil))) (fun _ h => h) (ok_pairs hp) rfl hu (h _ (by simp))
open Classical in
theorem in_pairs' {T D : Addr} {i u : Int} {ti tu : Tok} {n : Nat} {zs : List Value} (N : News h₀ L s.heap ((D, listOf zs.toArray 0) :: (T, { cls := .type "tuple", data := .seq [Value.int i ti, Value.int u tu].toArray n }) :: e1 :: k1 :: k2 :: own₁))
    (hd : DatAll own₁ zs ds) (hp : allPairs ds) (hu : A.units + 64 < cLine) (h : ∀ b : Bool, (b = true ↔ pairD i u ∈ ds) → Q (.bool b) s) : wpAny (model prog w) A (compareOp .In (.ref T) (.ref D)) Q E s :=
  kqd_isIn N (.head _) rfl rfl hd (fun p hp => .tail _ (.tail _ (.tail _ (.tail _ (.tail _ hp))))) (.tuple (.tail _ (.head _)) (.cons (.int _ _) (.cons (.int _ _) .nil))) (fun _ h => h) (ok_pairs hp) rfl hu (h _ (by simp))

def Due (ds : List Dat) (st en hi lo : Int) : Prop := pairD st en ∈ ds ∧ pairD hi lo ∈ bits pA ++ bits pB

def DueEnd (h₀ : Heap) (L : Addr) (m : Str → Option Value) (g k1 k2 : Addr × Obj) (own : List (Addr × Obj)) (P : Prop) (s : Shared) (v : Value) (s' : Shared) : Prop :=
  ∃ b own' h' tk', v = .bool b ∧ s' = { s with heap := h', toks := tk' } ∧ (∀ p ∈ own, p ∈ own') ∧ (b = true ↔ P) ∧ Fr h₀ L h' m ∧ News h₀ L h' (g :: k1 :: k2 :: own')

theorem due_cut {e : Expr} {D : Addr} {zs : List Value} {st en hi lo : Int} {q1 q2 q3 q4 : Tok} (_F : Fr h₀ L s.heap m) (_N : News h₀ L s.heap ((D, listOf zs.toArray 0) :: g :: k1 :: k2 :: own₁)) (_hs : ∀ p ∈ own, p ∈ own₁) (_hd : DatAll own₁ zs ds)
    (_m1 : m (Str.ofString "start") = some (.int st q1)) (_m2 : m (Str.ofString "end") = some (.int en q2)) (_m3 : m (Str.ofString "high") = some (.int hi q3)) (_m4 : m (Str.ofString "low") = some (.int lo q4))
    (h : wpAny (model prog w) A (eval e env) (DueEnd h₀ L m g k1 k2 own (Due ds st en hi lo) s) E s)
    (k : ∀ b own' h' tk', (∀ p ∈ own, p ∈ own') → (b = true ↔ Due ds st en hi lo) → Fr h₀ L h' m → News h₀ L h' (g :: k1 :: k2 :: own') → Q (.bool b) { s with heap := h', toks := tk' }) : wpAny (model prog w) A (eval e env) Q E s :=
  wpAny_mono h (fun v s' ⟨b, own', h', tk', e1, e2, hs, hb, F, N⟩ => by subst e1; subst e2; exact k b own' h' tk' hs hb F N) fun _ _ e => e

theorem DueEnd.no {t1 d3 : Addr × Obj} {st en hi lo : Int} {h' : Heap} {tk : Nat} {b : Bool} (F : Fr h₀ L h' m) (N : News h₀ L h' (t1 :: d3 :: g :: k1 :: k2 :: own₁)) (hs : ∀ p ∈ own, p ∈ own₁) (hb : b = true ↔ pairD st en ∈ ds) (hf : b = false) :
    DueEnd h₀ L m g k1 k2 own (Due ds st en hi lo) s (.bool b) { s with heap := h', toks := tk } :=
  ⟨b, own₁, h', tk, rfl, rfl, hs, ⟨fun e => absurd e (by rw [hf]; exact Bool.false_ne_true), fun e => absurd (hb.mpr e.1) (by rw [hf]; exact Bool.false_ne_true)⟩, F, fun p hp => N p (.tail _ (.tail _ hp))⟩
theorem DueEnd.yes {t1 d3 : Addr × Obj} {st en hi lo : Int} {h' : Heap} {tk : Nat} {b b' : Bool} (F : Fr h₀ L h' m) (N : News h₀ L h' (t1 :: d3 :: g :: k1 :: k2 :: own₁)) (hs : ∀ p ∈ own, p ∈ own₁) (hb : b = true ↔ pairD st en ∈ ds) (ht : b = true) (hb' : b' = true ↔ pairD hi lo ∈ bits pA ++ bits pB) :
    DueEnd h₀ L m g k1 k2 own (Due ds st en hi lo) s (.bool b') { s with heap := h', toks := tk } :=
  ⟨b', own₁, h', tk, rfl, rfl, hs, ⟨fun e => ⟨hb.mp ht, hb'.mp e⟩, fun e => hb'.mpr e.2⟩, F, fun p hp => N p (.tail _ (.tail _ hp))⟩
end
end Mine
end

section
open PySem PySem.W PyProof.Rows PySem.Calls
set_option maxRecDepth 100000
set_option maxHeartbeats 8000000
namespace Mine
theorem drop3 {h₀ h : Heap} {L : Addr} {x y z : Addr × Obj} {news : List (Addr × Obj)} (N : News h₀ L h (x :: y :: z :: news)) : News h₀ L h (x :: y :: news) := fun p hp => N p (by
  rcases List.mem_cons.mp hp with rfl | hp
  · exact .head _
  rcases List.mem_cons.mp hp with rfl | hp
  · exact .tail _ (.head _)
  · exact .tail _ (.tail _ (.tail _ hp)))
theorem drop_ne {e : Addr} {y z : Addr × Obj} {news : List (Addr × Obj)} (h : ∀ p ∈ y :: z :: news, p.1 ≠ e) : ∀ p ∈ y :: news, p.1 ≠ e := fun p hp => h p (by
  rcases List.mem_cons.mp hp with rfl | hp
  · exact .head _
  · exact .tail _ (.tail _ hp))
theorem tail_ne {e : Addr} {z : Addr × Obj} {news : List (Addr × Obj)} (h : ∀ p ∈ z :: news, p.1 ≠ e) : ∀ p ∈ news, p.1 ≠ e := fun p hp => h p (.tail _ hp)
theorem meta_exc : typeOf (.type "Exception") = pure (.type "type") := by kernel_rfl
def ExcTells (w : World) (K : Frag) (p : Program) (loose : List Str) (mean : ExcName → Option Value) (mg mb : Str → Option Value) : Prop :=
  ∀ (dp un : Nat) (gd : Option (List Code)) (cn : Str) (cs : Scope) (a : Addr) (ccd : Value) (cl : List (Str × Addr)) (outer : List Env) (A₀ : Around) (base h₀ : Heap) (L : Addr) (m : Str → Option Value) (news : List (Addr × Obj)) (s : Shared) (msg : Str) (tk : Tok) (Q E : Value → Shared → Prop),
    Below A₀ base outer h₀ → Fr h₀ L s.heap m → K.In h₀ → News h₀ L s.heap news → Top p loose mean mg mb h₀ → cs.kind = .function → dp + 4 < recursionLimit → un + 40 < cLine →
    (∀ e t d h' tk', (∀ p ∈ (t, tup [.str msg tk]) :: news, p.1 ≠ e) → (∀ p ∈ news, p.1 ≠ t) → Fr h₀ L h' m → News h₀ L h' ((e, excD 51 t (some d)) :: (t, tup [.str msg tk]) :: news) → Q (.ref e) { s with heap := h', toks := tk' }) →
    wpAny (model Challenge.rw_xm0806_01.row.prog w) (ktrTop dp un gd cn cs L a ccd cl outer) (call (.ref 51) [.str msg tk]) Q E s

local macro_rules | `(tactic| walk_at "getMethod type:Exception") => `(tactic| (k_here; refine' method_type ?F ?X ?m (by decide +kernel) ?e ?h ?_; (case F => k_asm); (case X => k_asm); (case m => exact meta_exc); (case e => k_dflt k_is); (case h => k_handed)))
local macro_rules | `(tactic| walk_at "call builtin:Exception.__init__") => `(tactic| (k_here; k_dflt (refine' base_init ?k1 ?k2 ?k3 ?k4 ?k5 ?k6 ?_; (case k1 => k_asm); (case k2 => k_asm); (case k3 => k_asm); (case k4 => assumption); (case k5 => k_is); (case k6 => exact ⟨by decide +kernel, by decide +kernel, by decide +kernel, by decide +kernel⟩)); intro t' h' hne' hnt' F' N'; (try dsimp only)))
local macro_rules | `(tactic| walk_at "setAttr ref") => `(tactic| (k_here; k_dflt (refine' set_first ?k1 ?k2 ?k3 ?k4 ?k5 ?k6 ?k7 ?k8 ?k9 ?kA ?_; (case k1 => k_asm); (case k2 => k_asm); (case k3 => k_asm); (case k4 => assumption); (case k5 => k_is); (case k6 => exact rfl); (case k7 => decide +kernel); (case k8 => k_is); (case k9 => exact rfl); (case kA => k_is)); intro d' h' tk' F' N'; (try dsimp only)))
theorem exc {w : World} {p : Program} {loose : List Str} {mean : ExcName → Option Value} {mg mb : Str → Option Value} : ExcTells w (hd.heap_39 w.params) p loose mean mg mb := by
  unfold ExcTells
  k_fill
  intro dp un gd cn cs a ccd cl outer A₀ base h₀ L m news s msg tk Q E B F X N T hk hd hu hret
  k_dflt (refine' make_exc ?k1 ?k2 ?k3 ?k4 ?k5 ?k6 ?k7 ?k8 ?_; (case k1 => k_asm); (case k2 => k_asm); (case k3 => k_asm); (case k4 => k_is); (case k5 => exact ⟨by decide +kernel, by decide +kernel, by decide +kernel, by decide +kernel⟩); (case k6 => k_is); (case k7 => k_is); (case k8 => exact Nat.le_of_ble_eq_true rfl))
  intro e t h' F' N' hne
  refine wpAny_call ?_
  k_dflt cell_enter
  k_steps
  all_goals refine' hret e _ _ _ _ ?he ?ht ?F ?N
  case F => assumption
  case N => exact drop3 (by assumption)
  case he => exact drop_ne (by assumption)
  case ht => exact tail_ne (by assumption)
end Mine
end

section
open PySem PySem.W PyProof.Rows PySem.Calls
set_option maxRecDepth 100000
set_option maxHeartbeats 8000000
namespace Mine
abbrev scanDict (h1 h2 h3 h4 h5 h6 h7 : Int) (q1 q2 q3 q4 q5 q6 q7 : Tok) (pl : Addr) (v2 v3 : Value) (st en hi lo : Int) (t4 t5 t6 t7 : Tok) : Obj :=
  dictOf [⟨h1, .str (Str.ofString "places") q1, .ref pl⟩, ⟨h2, .str (Str.ofString "dc_slots") q2, v2⟩, ⟨h3, .str (Str.ofString "ac_slots") q3, v3⟩, ⟨h4, .str (Str.ofString "start") q4, .int st t4⟩,
    ⟨h5, .str (Str.ofString "end") q5, .int en t5⟩, ⟨h6, .str (Str.ofString "high") q6, .int hi t6⟩, ⟨h7, .str (Str.ofString "low") q7, .int lo t7⟩] 7

/-- what check_band lets -/
def Lets (side many st en hi lo : Int) : Prop :=
  ¬ (st < 0 ∨ st > en ∨ en > side * side - 1) ∧ ¬ (st = 0 ∧ en ≠ 0) ∧ ¬ (st > 0 ∧ many ≠ 1) ∧ ¬ (lo < 0 ∨ lo > 13 ∨ (hi ≠ 0 ∧ hi ≠ lo + 1))

def ToldTells (w : World) (K : Frag) (p : Program) (loose : List Str) (mean : ExcName → Option Value) (mg mb : Str → Option Value) : Prop :=
  ∀ (gd : Option (List Code)) (cn : Str) (cs : Scope) (a : Addr) (ccd : Value) (cl : List (Str × Addr)) (A₀ : Around) (base h₀ : Heap) (L : Addr) (m : Str → Option Value) (rest : List (Addr × Obj)) (s : Shared)
    (x dx pl : Addr) (c : Nat) (vs : List Value) (ns : List Int) (h1 h2 h3 h4 h5 h6 h7 : Int) (q1 q2 q3 q4 q5 q6 q7 : Tok) (v2 v3 : Value) (st en hi lo side : Int) (t4 t5 t6 t7 ts : Tok) (Q E : Value → Shared → Prop),
    Below A₀ base [] h₀ → Fr h₀ L s.heap m → K.In h₀ → K.In base → News h₀ L s.heap ((x, instObj 91 dx) :: (dx, scanDict h1 h2 h3 h4 h5 h6 h7 q1 q2 q3 q4 q5 q6 q7 pl v2 v3 st en hi lo t4 t5 t6 t7) :: (pl, listOf vs.toArray c) :: rest) → Top p loose mean mg mb h₀ → Top p loose mean mg mb base → cs.kind = .function →
    IntsAre vs ns → ns.length < 100 → 0 ≤ side → side < 10 →
    (∀ b h' tk', (b = true ↔ Lets side ns.length st en hi lo) → Fr h₀ L h' m → News h₀ L h' rest → Q (.bool b) { s with heap := h', toks := tk' }) →
    wpAny (model Challenge.rw_xm0806_01.row.prog w) (ktrTop (callerA.depth + 1) (callerA.units + 3) gd cn cs L a ccd cl []) (call (.ref 116) [.ref x, .int side ts]) Q E s

theorem exc_use {w : World} {p : Program} {loose : List Str} {mean : ExcName → Option Value} {mg mb : Str → Option Value} {dp un : Nat} {gd : Option (List Code)} {cn : Str} {cs : Scope} {a : Addr} {ccd : Value} {cl : List (Str × Addr)} {outer : List Env} {A₀ : Around} {base h₀ : Heap} {L : Addr} {m : Str → Option Value} {news : List (Addr × Obj)} {s : Shared}
    {msg : Str} {tk : Tok} {Q E : Value → Shared → Prop} (B : Below A₀ base outer h₀) (F : Fr h₀ L s.heap m) (X : (hd.heap_39 w.params).In h₀) (N : News h₀ L s.heap news) (T : Top p loose mean mg mb h₀) (hk : cs.kind = .function) (hd' : dp + 4 < recursionLimit) (hu : un + 40 < cLine)
    (ret : ∀ e t d h' tk', (∀ p ∈ (t, tup [.str msg tk]) :: news, p.1 ≠ e) → (∀ p ∈ news, p.1 ≠ t) → Fr h₀ L h' m → News h₀ L h' ((e, excD 51 t (some d)) :: (t, tup [.str msg tk]) :: news) → Q (.ref e) { s with heap := h', toks := tk' }) :
    wpAny (model Challenge.rw_xm0806_01.row.prog w) (ktrTop dp un gd cn cs L a ccd cl outer) (call (.ref 51) [.str msg tk]) Q E s := exc _ _ _ _ _ _ _ _ _ _ _ _ _ _ _ _ _ _ _ _ B F X N T hk hd' hu ret

local macro_rules | `(tactic| walk_at "exec Raise some none") => `(tactic| (k_here; k_dflt (refine' raise_own (C := 51) ?kx ?hh ?kt ?kb ?_; (case kx => k_asm); (case hh => rfl); (case kt => k_is); (case kb => k_is))))
local macro_rules | `(tactic| walk_at "call ref") => `(tactic| (k_here; (with_reducible show wpAny _ _ (call (Value.ref 51) _) _ _ _); k_dflt (refine' exc_use ?k1 ?k2 ?k3 ?k4 ?k5 ?k6 ?k7 ?k8 ?_; (case k1 => k_asm); (case k2 => k_asm); (case k3 => k_asm); (case k4 => k_asm); (case k5 => k_asm); (case k6 => first | assumption | exact rfl); (case k7 => first | exact Nat.le_of_ble_eq_true rfl | ktr_room); (case k8 => first | exact Nat.le_of_ble_eq_true rfl | ktr_room)); intro e' t' d' h' tk' hne' hnt' F' N'; (try dsimp only)))
local macro_rules | `(tactic| walk_at "RaisableOwn") => `(tactic| (k_here; k_dflt (refine' raisable_intro ?k1 ?k2 ?k3 ?_; (case k1 => k_asm); (case k2 => k_asm); (case k3 => k_asm))))
local macro_rules | `(tactic| walk_at "leaving ref") => `(tactic| (k_here; k_dflt (refine' leave_own ?k1 ?k2 ?k3 ?k4 ?k5 ?_; (case k1 => assumption); (case k2 => k_asm); (case k3 => k_asm); (case k4 => assumption); (case k5 => assumption); k_whole); intro h' t' S' R' U'; (try dsimp only at S' R' U' ⊢)))
local macro_rules | `(tactic| walk_at "getAttr ref") => `(tactic| (k_here; k_dflt (refine' get_any ?k1 ?k2 ?k3 ?k4 ?k5 ?k6 ?k7 ?k8 ?k9 ?_; (case k1 => k_asm); (case k2 => k_asm); (case k3 => k_inst); (case k4 => k_is); (case k5 => k_is); (case k6 => k_is); (case k7 => k_is); (case k8 => k_get); (case k9 => k_handed); k_whole); intro tk'; (try dsimp only)))
theorem told {w : World} {p : Program} {loose : List Str} {mean : ExcName → Option Value} {mg mb : Str → Option Value} : ToldTells w (hd.heap_39 w.params) p loose mean mg mb := by
  unfold ToldTells
  k_fill
  intro gd cn cs a ccd cl A₀ base h₀ L m rest s x dx pl c vs ns h1 h2 h3 h4 h5 h6 h7 q1 q2 q3 q4 q5 q6 q7 v2 v3 st en hi lo side t4 t5 t6 t7 ts Q E B F X XB N T TB hk hi' hn hs1 hs2 hret
  refine wpAny_call ?_
  k_dflt (refine' enter_turn ?k1 ?k2 ?k3 ?k4 ?k5 ?kA ?kF ?kK rfl ?k6 ?k7 ?k8 ?k9 ?kB ?_ ?c2 ?c3 ?c4 ?c5; (case kA => exact rfl); (case kF => exact rfl); (case kK => assumption); (case k1 => k_asm); (case k2 => k_asm); (case k3 => k_asm); (case k4 => k_asm); (case k5 => k_asm); (case k6 => k_is); (case k7 => k_is); (case k8 => ktr_room); (case k9 => exact BindsTo.of_eq rfl); (case c5 => decide); (case kB => exact locs rfl); (case c2 => exact rfl); (case c3 => exact rfl); (case c4 => exact rfl); k_whole; intro g' L' h' FG' F' N' B' X' T' D'; (try dsimp only); (try k_lift B'); (try k_fold))
  k_steps
  all_goals (refine' hret _ _ _ ?_ (by assumption) (fun p hp => by
    have kN : News h₀ L _ ((x, instObj 91 dx) :: (dx, scanDict h1 h2 h3 h4 h5 h6 h7 q1 q2 q3 q4 q5 q6 q7 pl v2 v3 st en hi lo t4 t5 t6 t7) :: (pl, listOf vs.toArray c) :: rest) := by assumption
    exact kN p (.tail _ (.tail _ (.tail _ hp)))))
  all_goals (try clear hret)
  all_goals unfold Lets
  all_goals have hlen := hi'.length
  all_goals (try simp only [Bool.false_eq_true, false_iff, true_iff] at *)
  all_goals (try (first | omega))
end Mine
end

section
open PySem PySem.W PyProof.Rows PyProof.Rows.LCg PySem.Calls
set_option maxRecDepth 100000
set_option maxHeartbeats 4000000
namespace Mine
theorem pairD_inj {i u j v : Int} : pairD i u = pairD j v ↔ i = j ∧ u = v := by
  constructor
  · intro h
    injection h with h
    injection h with h1 h2
    injection h2 with h2 _
    injection h1 with h1
    injection h2 with h2
    exact ⟨h1, h2⟩
  · rintro ⟨rfl, rfl⟩; rfl
theorem mem_pairs2 {a b i u : Int} {n : Nat} {ok : Bool} : pairD i u ∈ pairs2 a b n ok pairD ↔ ok = true ∧ a ≤ i ∧ i < a + n ∧ i ≤ u ∧ u < b := by
  unfold pairs2
  rw [List.mem_flatMap]
  cases ok with
  | false => simp
  | true =>
    simp only [if_true, List.mem_range, List.mem_map, true_and]
    constructor
    · rintro ⟨x, hx, j, hj, e⟩
      obtain ⟨e1, e2⟩ := pairD_inj.mp e
      omega
    · rintro ⟨h1, h2, h3, h4⟩
      exact ⟨(i - a).toNat, by omega, (u - i).toNat, by omega, pairD_inj.mpr ⟨by omega, by omega⟩⟩
theorem mem_bits {hi lo : Int} : pairD hi lo ∈ bits pA ++ bits pB ↔ 0 ≤ lo ∧ lo < 14 ∧ (hi = 0 ∨ hi = lo + 1) := by
  unfold bits
  rw [List.mem_append]
  simp only [List.mem_map, List.mem_range]
  constructor
  · rintro (⟨j, hj, e⟩ | ⟨j, hj, e⟩)
    · obtain ⟨e1, e2⟩ := pairD_inj.mp e
      omega
    · obtain ⟨e1, e2⟩ := pairD_inj.mp e
      omega
  · rintro ⟨h1, h2, h3 | h3⟩
    · exact .inl ⟨lo.toNat, by omega, pairD_inj.mpr ⟨by omega, by omega⟩⟩
    · exact .inr ⟨lo.toNat, by omega, pairD_inj.mpr ⟨by omega, by omega⟩⟩
theorem lets_due {k k2 st en hi lo : Int} (h0 : 0 ≤ k) (h4 : k < 4) :
    Lets (1 + k) (1 + k2) st en hi lo ↔ Due (pairD 0 0 :: pairs2 1 ((1 + k) * (1 + k) - 1 + 1) ((1 + k) * (1 + k) - 1).toNat (decide (1 + k2 = 1)) pairD) st en hi lo := by
  have hb := last_bnd h0 h4
  unfold Lets Due
  rw [mem_bits, List.mem_cons, pairD_inj, mem_pairs2, decide_eq_true_eq]
  generalize (1 + k) * (1 + k) = z at *
  omega
theorem told_use {w : World} {p : Program} {loose : List Str} {mean : ExcName → Option Value} {mg mb : Str → Option Value} {gd : Option (List Code)} {cn : Str} {cs : Scope} {a : Addr} {ccd : Value} {cl : List (Str × Addr)} {A₀ : Around} {base h₀ : Heap} {L : Addr} {m : Str → Option Value} {rest : List (Addr × Obj)} {s : Shared}
    {x dx pl : Addr} {c : Nat} {vs : List Value} {ns : List Int} {h1 h2 h3 h4 h5 h6 h7 : Int} {q1 q2 q3 q4 q5 q6 q7 : Tok} {v2 v3 : Value} {st en hi lo side : Int} {t4 t5 t6 t7 ts : Tok} {Q E : Value → Shared → Prop} (many : Int)
    (B : Below A₀ base [] h₀) (F : Fr h₀ L s.heap m) (X : (hd.heap_39 w.params).In h₀) (XB : (hd.heap_39 w.params).In base) (N : News h₀ L s.heap ((x, instObj 91 dx) :: (dx, scanDict h1 h2 h3 h4 h5 h6 h7 q1 q2 q3 q4 q5 q6 q7 pl v2 v3 st en hi lo t4 t5 t6 t7) :: (pl, listOf vs.toArray c) :: rest))
    (T : Top p loose mean mg mb h₀) (TB : Top p loose mean mg mb base) (hk : cs.kind = .function) (hi' : IntsAre vs ns) (hl : (ns.length : Int) = many) (hn : many < 100) (hs1 : 0 ≤ side) (hs2 : side < 10)
    (ret : ∀ b h' tk', (b = true ↔ Lets side many st en hi lo) → Fr h₀ L h' m → News h₀ L h' rest → Q (.bool b) { s with heap := h', toks := tk' }) :
    wpAny (model Challenge.rw_xm0806_01.row.prog w) (ktrTop (callerA.depth + 1) (callerA.units + 3) gd cn cs L a ccd cl []) (call (.ref 116) [.ref x, .int side ts]) Q E s := by
  subst hl
  exact told _ _ _ _ _ _ _ _ _ _ _ _ _ _ _ _ _ _ _ _ _ _ _ _ _ _ _ _ _ _ _ _ _ _ _ _ _ _ _ _ _ _ _ _ _ _ _ B F X XB N T TB hk hi' (by omega) hs1 hs2 ret
theorem range_many {b : Int} (h : 0 ≤ b) : (((rangeKs 0 (b - 0).toNat).length : Nat) : Int) = b := by
  rw [rangeKs_length]; omega
theorem told_due {k k2 st en hi lo : Int} {b b' : Bool} (h : b = true ↔ Lets (1 + k) (1 + k2) st en hi lo) (h' : b' = true ↔ Due (pairD 0 0 :: pairs2 1 ((1 + k) * (1 + k) - 1 + 1) ((1 + k) * (1 + k) - 1).toNat (decide (1 + k2 = 1)) pairD) st en hi lo)
    (h0 : 0 ≤ k) (h4 : k < 4) : b = b' := by
  rw [lets_due h0 h4, ← h'] at h
  exact Bool.eq_iff_iff.mpr h
theorem turn_end {h₀ h' : Heap} {L l c1 c2 : Addr} {m' : Str → Option Value} {own own' : List (Addr × Obj)} {s₁ : Shared} {tk n : Nat} {g0 g1 : Int} {t0 t1 : Tok} {o1 o2 : Obj} {v1 v2 : Option Value} (F : Fr h₀ L h' m') (N : News h₀ L h' ((l, listOf [Value.int g0 t0, Value.int g1 t1].toArray n) :: (c1, o1) :: (c2, o2) :: own'))
    (d1 : o1.data = Data.cell v1) (d2 : o2.data = Data.cell v2) (b0 : 0 ≤ g0) (b1 : 0 ≤ g1) (b2 : g1 < 100000) (hm : m' (Str.ofString "gate") = some (.ref l)) (ho : ∀ p ∈ own, p ∈ own') :
    InvEndN h₀ L (TurnJ l c1 c2) own [l, c1, c2] s₁ { s₁ with heap := h', toks := tk } :=
  InvEndN.intro F N ⟨g0, t0, g1, t1, n, o1, o2, v1, v2, rfl, d1, d2, b0, b1, b2, hm⟩ rfl (fun p hp => by
    simp only [List.mem_cons, List.not_mem_nil, or_false] at hp ⊢
    rcases hp with h | h | h <;> simp [h]) fun p hp => .tail _ (.tail _ (.tail _ (ho p hp)))
end Mine
end

section
open PySem PySem.W PyProof.Rows PySem.Calls
set_option maxRecDepth 100000
set_option maxHeartbeats 8000000
namespace Mine
theorem prune_scan {h₀ : Heap} {L : Addr} {h : Heap} {a1 a2 a3 a4 pl g k1 k2 : Addr × Obj} {own : List (Addr × Obj)} (N : News h₀ L h (a1 :: a2 :: a3 :: a4 :: pl :: g :: k1 :: k2 :: own)) : News h₀ L h (pl :: g :: k1 :: k2 :: own) :=
  fun p hp => N p (.tail _ (.tail _ (.tail _ (.tail _ hp))))
end Mine
open Mine
local macro_rules | `(tactic| walk_at "call ref") => `(tactic| (k_here; (with_reducible show wpAny _ _ (call (Value.ref 91) _) _ _ _); (rename News _ _ _ _ => nX); (have nY := prune_scan nX); (clear nX); (have hMk := kstMark)))
local macro_rules | `(tactic| walk_at "call ref") => `(tactic| (k_here; (with_reducible show wpAny _ _ (call (Value.ref 102) _) _ _ _); k_dflt (refine' gate_use ?k1 ?k2 ?k3 ?k4 ?k5 ?kK ?kl ?ki ?kt ?kd ?ku ?_; (case k1 => k_asm); (case k2 => k_asm); (case k3 => k_asm); (case k4 => k_asm); (case k5 => k_asm); (case kK => exact rfl); (case kl => k_asm); (case ki => k_asm); (case kt => k_asm); (case kd => ktr_room); (case ku => ktr_units); k_whole); intro l' h' tk' n' g0' t0' g1' t1' b1' b2' b3' l1 F' N'; (try k_lt l1); (try k_sweep)))
local macro_rules | `(tactic| walk_at "call ref") => `(tactic| (k_here; (with_reducible show wpAny _ _ (call (Value.ref 109) _) _ _ _); k_dflt (refine' latch_use ?k1 ?k2 ?k3 ?k4 ?k5 ?kK ?kU ?b1 ?b2 ?b3 ?b4 ?b5 ?kd ?ku ?_; (case k1 => k_asm); (case k2 => k_asm); (case k3 => k_asm); (case k4 => k_asm); (case k5 => k_asm); (case kK => exact rfl); (case kU => (intro g0' t0' g1' t1'; k_upd)); (case b1 => k_asm); (case b2 => k_asm); (case b3 => k_asm); (case b4 => decide); (case b5 => decide); (case kd => ktr_room); (case ku => ktr_units); k_whole); intro r' t' h' tk' g0' t0' g1' t1' r1' r2' b1' b2' b3' F' N'; (try dsimp only at N'); (try k_sweep)))
local macro_rules | `(tactic| walk_at "pyIter ref") => `(tactic| (k_here; (with_reducible show wpAny _ _ (pyIter (Value.ref _)) (fun it s₂ => LoopAtV _ _ _ _ _ _ _ _ _ it s₂) _ _); (rename IsRange _ _ _ _ _ _ _ _ => rgX); (rename Fr _ _ _ _ => lF'); (rename News _ _ _ _ => lN'); k_dflt (refine' turns (x := Str.ofString "turn") ?k1 rgX lF' ?k2 lN' ?k4 ?k5 ?k6 ?k7 ?k8 ?k9 ?_ ?_; (case k1 => exact rfl); (case k2 => with_unfolding_all exact rfl); (case k4 => k_asm); (case k5 => k_asm); (case k6 => k_asm); (case k7 => k_asm); (case k8 => k_asm); (case k9 => decide)); (all_goals (clear lF' lN')); walk_say "TURNS"))
local macro_rules | `(tactic| walk_at "eval ListComp") => `(tactic| (k_here; (rename Fr _ _ _ _ => kF'); (obtain ⟨hi', lo', en', st', t1', t2', t3', t4', F'⟩ := fr_four kF'); (clear kF'); k_dflt (refine comp2 (pd := pairD) (F₀ := by k_asm) (hh := by rfl) (by decide) (by with_unfolding_all rfl) (by decide) (by rfl) (by decide) (by rfl) (by rfl) ?_)))
local macro_rules | `(tactic| walk_at "Src2") => `(tactic| (k_here; k_dflt (refine' Src2.intro (n1 := Str.ofString "last") (n2 := Str.ofString "many") ?k1 ?k2 ?k3 ?k4 ?k5 ?k6 ?k7 ?k8 ?k9 ?k10 ?_ ?_ ?_ ?_; (case k1 => k_asm); (case k2 => k_asm); (case k3 => k_asm); (case k4 => k_asm); (case k5 => k_asm); (case k6 => rfl); (case k7 => rfl); (case k8 => k_mem); (case k9 => k_mem); (case k10 => k_asm))))
local macro_rules | `(tactic| walk_at "RangeOn") => `(tactic| (k_dflt (refine RangeOn.intro (by k_asm) (by k_asm) (by k_asm))))
local macro_rules | `(tactic| walk_at "OneMore") => `(tactic| (k_dflt (refine OneMore.intro (by k_asm) (by k_asm) (by with_unfolding_all assumption) (fun _ => .int _ _) (fun _ => .int _ _))))
local macro_rules | `(tactic| walk_at "And") => `(tactic| (k_dflt (refine And.intro ?_ (Same.intro (by k_asm) (by k_asm)))))
local macro_rules | `(tactic| walk_at "Fin1") => `(tactic| (k_dflt (first
  | (refine fin_bitsB (by k_asm) ?_; intro D' ys' own' h' tk' hs' hl' hd' F' N'; (try k_sweep))
  | (refine fin_bitsA (by k_asm) ?_; intro D' ys' own' h' tk' hs' hl' hd' F' N'; (try k_sweep))
  | (refine fin_bands ?_; intro D' ys' own' h' tk' hs' hl' hd' F' N'; (try k_sweep)))))
local macro_rules | `(tactic| walk_at "eval ListComp") => `(tactic| (k_here; (with_reducible show wpAny _ _ (eval (Expr.ListComp (Expr.Tuple [Expr.Constant _ _ _, _] _ _) _ _ _) _) _ _ _); k_dflt (refine comp1 (pd := pA) (F₀ := by k_asm) (hh := by rfl) (by with_unfolding_all rfl) (by decide) (by rfl) (by decide) (by rfl) ?_)))
local macro_rules | `(tactic| walk_at "eval ListComp") => `(tactic| (k_here; (with_reducible show wpAny _ _ (eval (Expr.ListComp (Expr.Tuple [Expr.BinOp _ _ _ _, _] _ _) _ _ _) _) _ _ _); k_dflt (refine comp1 (pd := pB) (F₀ := by k_asm) (hh := by rfl) (by with_unfolding_all rfl) (by decide) (by rfl) (by decide) (by rfl) ?_)))
local macro_rules | `(tactic| walk_at "Src1") => `(tactic| (k_here; k_dflt (refine' Src1.intro ?k1 ?k2 ?k3 ?k4 ?_ ?_; (case k1 => k_asm); (case k2 => k_asm); (case k3 => k_asm); (case k4 => exact List.Mem.head _))))
local macro_rules | `(tactic| walk_at "binaryOp Add ref ref") => `(tactic| (k_here; k_dflt (first
  | (refine' add_bands ?k1 ?k2 ?k3 ?k4 ?k5 ?_; (case k1 => k_asm); (case k2 => k_asm); (case k3 => k_asm); (case k4 => k_asm); (case k5 => k_asm); intro D' zs' own' h' hs' hd' l1 F' N'; (try simp only [AllLt, and_true] at l1); (try k_sweep))
  | (refine' add_bits ?k1 ?k2 ?k3 ?k4 ?k5 ?k6 ?k7 ?k8 ?_; (case k1 => k_asm); (case k2 => k_asm); (case k7 => k_asm); (case k8 => k_asm); (case k4 => k_asm); (case k3 => k_asm); (case k5 => k_asm); (case k6 => k_asm); intro D' zs' h' hs' hd' F' N'; (try k_sweep)))))
local macro_rules | `(tactic| walk_at "compareOp In ref ref") => `(tactic| (k_here; k_dflt (first
  | (refine' in_pairs ?k1 ?k2 ?k3 ?k4 ?_; (case k1 => k_asm); (case k2 => k_asm); (case k3 => exact allPairs.cons allPairs.two); (case k4 => ke_room); intro b' hb')
  | (refine' in_pairs' ?k1 ?k2 ?k3 ?k4 ?_; (case k1 => k_asm); (case k2 => k_asm); (case k3 => exact allPairs.append allPairs.bitsA allPairs.bitsB); (case k4 => ke_room); intro b' hb'))))
local macro_rules | `(tactic| walk_at "eval BoolOp") => `(tactic| (k_here; k_dflt (refine' due_cut ?k1 ?k2 ?k3 ?k4 ?k5 ?k6 ?k7 ?k8 ?g1 ?g2; (case k1 => k_asm); (case k2 => k_asm); (case k3 => k_asm); (case k4 => k_asm); (case k5 => with_unfolding_all rfl); (case k6 => with_unfolding_all rfl); (case k7 => with_unfolding_all rfl); (case k8 => with_unfolding_all rfl); (case' g2 => (intro b' own' h' tk' hs' hb' F' N'; (try k_sweep))))))
local macro_rules | `(tactic| walk_at "DueEnd") => `(tactic| (k_dflt (first | exact DueEnd.yes (by k_asm) (by k_asm) (by k_asm) (by k_asm) (by k_asm) (by k_asm) | exact DueEnd.no (by k_asm) (by k_asm) (by k_asm) (by k_asm) (by k_asm))))
local macro_rules | `(tactic| walk_at "call ref") => `(tactic| (k_here; (with_reducible show wpAny _ _ (call (Value.ref 116) _) _ _ _); k_dflt (refine' told_use _ ?k1 ?k2 ?k3 ?k4 ?k5 ?k6 ?k7 ?kK ?ki ?kl ?kn ?ks1 ?ks2 ?_; (case k1 => k_asm); (case k2 => k_asm); (case k3 => k_asm); (case k4 => k_asm); (case k5 => k_asm); (case k6 => k_asm); (case k7 => k_asm); (case kK => exact rfl); (case ki => k_asm); (case kl => (k_dflt (refine range_many (b := 1 + _) ?_); omega)); (case kn => omega); (case ks1 => omega); (case ks2 => omega)); intro b' h' tk' hb' F' N'; (have hbe := told_due hb' (by assumption) (by omega) (by omega)); subst hbe))
local macro_rules | `(tactic| walk_at "InvEndN") => `(tactic| (k_dflt (refine' turn_end ?k1 ?k2 ?d1 ?d2 ?b0 ?b1 ?b2 ?hm ?ho; (case k1 => k_asm); (case k2 => k_asm); (case d1 => k_asm); (case d2 => k_asm); (case b0 => k_asm); (case b1 => k_asm); (case b2 => k_asm); (case hm => with_unfolding_all rfl); (case ho => k_asm))))
set_option maxRecDepth 100000 in
set_option maxHeartbeats 8000000 in
theorem PySem.Challenge.cw_xm0806_01_holds : PySem.Challenge.rw_xm0806_01.Holds := by
  refine Mine.hd ?_
  k_go0
  all_goals (try k_fold)
  k_steps
end

