import PyProof.Rows.All
import Wide.All
import OpenK.AllK
import Wide.FinOn
import PySem.Challenge.RW_og0154_01

set_option Elab.async false

-- part XE
section
open PySem PySem.W PyProof.Rows PySem.Calls
set_option maxRecDepth 100000
set_option maxHeartbeats 4000000
namespace Mine
/-- an own class of exceptions, made by Exception.__new__ -/
def excIn (K : Frag) (C : Addr) : Bool := match K.lookup C with
  | some ⟨.type "type", _, .cls cd, sl⟩ => (match cd.mro, sl.toList with
    | .ref C' :: bm, [_, _, _, _, some (.builtin ni), _] => C' == C && !cd.hasDel && ni == "Exception.__new__" && cd.hasDict && bm.contains (.type "Exception") && bm.contains (.type "BaseException") &&
        !bm.contains (.type "AttributeError") && !bm.contains (.type "NameError") && bm.contains (.type "object")
    | _, _ => false)
  | _ => false
/-- the object of such a class -/
def ExcCls (h : Heap) (C : Addr) : Prop := ∃ nm qn N bs bm sn sub ab col dd k0 k1 k2 k3 k5,
    h.get? C = some (excClassObj nm qn C N bs bm true sn sub ab col dd k0 k1 k2 k3 k5 "Exception.__new__") ∧ (Value.ref C :: bm).contains (.type "Exception") = true ∧ (Value.ref C :: bm).contains (.type "BaseException") = true ∧
    (Value.ref C :: bm).contains (.type "AttributeError") = false ∧ (Value.ref C :: bm).contains (.type "NameError") = false ∧ (Value.ref C :: bm).contains (.type "object") = true
theorem excCls_of {K : Frag} {h : Heap} {C : Addr} (X : K.In h) (q : excIn K C = true) : ExcCls h C := by
  unfold excIn at q
  split at q
  · rename_i dd cd sl ho
    split at q
    · rename_i C' bm k0 k1 k2 k3 n k5 hm hs
      simp only [Bool.and_eq_true, beq_iff_eq, Bool.not_eq_true'] at q
      obtain ⟨⟨⟨⟨⟨⟨⟨⟨rfl, hdel⟩, rfl⟩, hdi⟩, hE⟩, hB⟩, hA⟩, hN⟩, hO⟩ := q
      obtain ⟨nm, bs, mro, ns, qn, hd, sn, sub, ab, col, del⟩ := cd
      dsimp only at hm hdel hdi
      subst hm hdel hdi
      have hsl : sl = #[k0, k1, k2, k3, some (.builtin "Exception.__new__"), k5] := by
        obtain ⟨l⟩ := sl
        simp only at hs
        rw [hs]
      subst hsl
      refine ⟨nm, qn, ns, bs, bm, sn, sub, ab, col, dd, k0, k1, k2, k3, k5, X _ _ ho, ?_, ?_, ?_, ?_, ?_⟩
      · rw [List.contains_cons, hE, Bool.or_true]
      · rw [List.contains_cons, hB, Bool.or_true]
      · rw [List.contains_cons, hA]; rfl
      · rw [List.contains_cons, hN]; rfl
      · rw [List.contains_cons, hO, Bool.or_true]
    · cases q
  · cases q
theorem ExcCls.keeps {h h' : Heap} {C : Addr} (Y : ExcCls h C) (k : ∀ b o, h.get? b = some o → h'.get? b = some o) : ExcCls h' C := by
  obtain ⟨nm, qn, ns, bs, bm, sn, sub, ab, col, dd, k0, k1, k2, k3, k5, hC, r⟩ := Y
  exact ⟨nm, qn, ns, bs, bm, sn, sub, ab, col, dd, k0, k1, k2, k3, k5, k _ _ hC, r⟩

/-- an exception object: its class, its dict, the tuple of its arguments -/
abbrev exObj (C : Addr) (dd : Option Addr) (t : Addr) : Obj := { cls := .ref C, dict := dd, data := .fields #[.ref t, .none, .none, .none, .bool false, .none] }
abbrev tuObj (l : List Value) : Obj := { cls := .type "tuple", data := .seq l.toArray }

section
variable {prog : Program} {w : World} {A : Around} {K : Frag} {C : Addr} {R : Result → Shared → Prop} {h : Heap} {g : Array GenState} {d : Drawn} {t : Nat} {os : OsState}

theorem new_exc (Y : ExcCls h C) {rest : List Value}
    (hq : R (.ok (.ret (.ref (h.objs.size + 1)))) ⟨(h.push (tuObj rest)).push (exObj C none h.objs.size), g, d, t, os⟩) (hrest : rest.length ≤ sizeLine) :
    codeAny (model prog w) A (.call (.builtin "Exception.__new__") ⟨.ref C :: rest, []⟩) R ⟨h, g, d, t, os⟩ := by
  obtain ⟨nm, qn, ns, bs, bm, sn, sub, ab, col, dd, k0, k1, k2, k3, k5, hC, hcB, _, hcA, hcN, _⟩ := Y
  have F := PySem.F.excBase_Exception
  have hends := F.ends
  refine codeAny_call_builtin_code (Code.quiet_builtin _ F.quiet) ?_
  have hstar := F.noStar
  simp only [checkBuiltinCall, F.newKind, F.newSplit, F.newRow]
  repeat (first | refine wpAny_loadPart_at hC ?_ | (refine wpAny_isSubtype_exc hC ?_; rw [hcB]) | refine wpAny_staticBase_exc hC ?_ | refine wpAny_madeBy_exc hC ?_ | simp only [bne_self_eq_false, Bool.false_eq_true, if_false] | wp_step)
  refine codeAny_builtinAt F.entry ?_
  unfold Builtin.«BaseException.__new__»
  refine PySem.wpAt_bind ?_
  show PySem.wpAt _ _ _ (stack >>= _) _ _ _
  refine PySem.wpAt_bind (PySem.wpAt_stack fun p below => PySem.wpAt_of_wpAny ?_)
  wp_walk
  refine PySem.wpAt_of_wpAny ?_
  rw [F.owner]
  repeat (first | with_reducible refine wpAny_madeHere_exc F.canon hC ?_ | with_reducible refine wpAny_loadPart_at hC ?_ | (with_reducible refine wpAny_isSubtype_exc hC ?_; first | rw [hcB] | rw [hcA] | rw [hcN]) | wp_step)
  show R _ _
  rw [Heap.size_push]
  exact hq

theorem make_exc (Y : ExcCls h C) {fI : Addr} {rest : List Value} (hi : Looks (model prog w) h (typeLookup (.ref C) "__init__") (some (.ref fI)))
    (hb : ∀ self, Looks (model prog w) h (bindSpecial (.ref fI) self) (.ref fI, [self])) (hrest : rest.length ≤ sizeLine)
    (hq : codeAny (model prog w) (A.under (.builtin "type.__call__" ⟨.ref C :: rest, []⟩)) (.call (.ref fI) ⟨.ref (h.objs.size + 1) :: rest, []⟩) (InitBack (h.objs.size + 1) R)
      ⟨(h.push (tuObj rest)).push (exObj C none h.objs.size), g, d, t, os⟩) :
    codeAny (model prog w) A (.call (.ref C) ⟨rest, []⟩) R ⟨h, g, d, t, os⟩ := by
  have Y' := Y
  obtain ⟨nm, qn, ns, bs, bm, sn, sub, ab, col, dd, k0, k1, k2, k3, k5, hC, hcB, _, hcA, hcN, _⟩ := Y
  have f1 := tc_lookup
  have f2 := tc_bind (.ref C)
  have hT : (⟨h, g, d, t, os⟩ : Shared).TypeIs (.ref C) "type" := ⟨_, hC, rfl⟩
  refine codeAny_of_tree ?_
  show wpAny _ _ (callAny (.ref C) _) _ _ _
  repeat (any_goals (first | assumption | with_reducible refine wpAny_loadPart_at hC ?_ | wp_step))
  refine ⟨rfl, ?_⟩
  refine codeAny_call_builtin_at (Code.quiet_builtin _ (by decide +kernel)) entry_typeCall (wpAny_check_type_call_sub hC ?_)
  unfold Builtin.«type.__call__»
  repeat (first | with_reducible refine wpAny_loadPart_at hC ?_ | with_reducible refine wpAny_madeBy_exc hC ?_ | wp_step)
  refine new_exc Y' ?_ hrest
  have k : ∀ b o, h.get? b = some o → ((h.push (tuObj rest)).push (exObj C none h.objs.size)).get? b = some o := fun b o e => Heap.get?_push_of_some _ (Heap.get?_push_of_some _ e)
  have hC₁ := k _ _ hC
  have hget : ((h.push (tuObj rest)).push (exObj C none h.objs.size)).get? (h.objs.size + 1) = some (exObj C none h.objs.size) := by heap_get
  have hcC : (Value.ref C :: bm).contains (.ref C) = true := by simp
  have i1 := hi.keeps k
  have b1 := (hb (.ref (h.objs.size + 1))).keeps k
  show wpAny _ _ _ _ _ _
  unfold isInstance
  repeat (first | with_reducible refine wpAny_loadPart_at hget ?_ | (with_reducible refine wpAny_isSubtype_exc hC₁ ?_; rw [hcC]) | wp_step)
  dsimp only [List.append, List.nil_append, List.cons_append]
  refine wpAny_isSubtype_exc hC₁ ?_
  rw [hcC]
  unfold callSpecial? specialOf
  have t1 : Looks (model prog w) ((h.push (tuObj rest)).push (exObj C none h.objs.size)) (typeOf (.ref (h.objs.size + 1))) (.ref C) := (Looks.ld hget).andThen .now
  repeat (first | with_reducible refine wpAny_call ?_ | lk)
  refine codeAny_mono hq fun r s' z => ?_
  rcases r with e | (v | _ | _ | _) <;> first | exact z | exact z.elim | skip
  obtain ⟨rfl, z⟩ := z
  exact wpAny_pure (wpAny_pure z)
end

def onlyExc : List Value → Bool
  | [.type a, .type b, .type c] => a == "Exception" && b == "BaseException" && c == "object"
  | .ref _ :: r => onlyExc r
  | _ => false
theorem refuse_exc0 (self : Value) : refuseLoop self "__setattr__" [.type "Exception", .type "BaseException", .type "object"] = pure () := by kernel_rfl
theorem refuse_exc (self : Value) : ∀ {l : List Value}, onlyExc l = true → refuseLoop self "__setattr__" l = pure ()
  | [.type a, .type b, .type c], e => by
    simp only [onlyExc, Bool.and_eq_true, beq_iff_eq] at e
    obtain ⟨⟨rfl, rfl⟩, rfl⟩ := e
    exact refuse_exc0 self
  | .ref c :: r, e => by rw [refuseLoop_ref]; exact refuse_exc self (by rcases r with _ | ⟨x, _ | ⟨y, _ | ⟨z, r⟩⟩⟩ <;> first | exact e | cases e)
def excMro (K : Frag) (C : Addr) : Bool := (clsIn K C).any fun cd => onlyExc cd.mro && cd.hasDict && cd.mro.contains (.type "object")

section
variable {prog : Program} {w : World} {A : Around} {E : Value → Shared → Prop} {s : Shared} {K : Frag} {C L e t : Addr} {h₀ : Heap} {m : Str → Option Value} {news : List (Addr × Obj)}

theorem call_exc_own {Q : Value → Shared → Prop} {fI : Addr} {rest : List Value} (F : Fr h₀ L s.heap m) (N : News h₀ L s.heap news) (X₀ : K.In h₀) (q : excIn K C = true) (hi : findIn K (.ref C) "__init__" = some (some (.ref fI))) (hf : isFn K (.ref fI) = true) (hrest : rest.length ≤ 1000)
    (h : ∀ e t h', Fr h₀ L h' m → News h₀ L h' ((e, exObj C none t) :: (t, tuObj rest) :: news) → OwnOff news [e, t] → @Ne Nat e t →
      codeAny (model prog w) (A.under (.builtin "type.__call__" ⟨.ref C :: rest, []⟩)) (.call (.ref fI) ⟨.ref e :: rest, []⟩) (InitBack e fun r s' => match r with | .ok (.ret v) => Q v s' | .ok _ => False | .error e => E e s') { s with heap := h' }) :
    wpAny (model prog w) A (call (.ref C) rest) Q E s := by
  obtain ⟨hh, g, d, t, os⟩ := s
  have X := X₀.keeps F.keep
  refine wpAny_call (make_exc (excCls_of X q) (looks_findIn X hi) (fun self => bind_fn X self (beq_iff_eq.mp hf)) (by rw [sizeLine_eq]; omega) (h _ hh.objs.size _ ((F.push _).push _) ?_ ?_ (Nat.succ_ne_self _)))
  · have := (N.push F (tuObj rest)).push (F.push _) (exObj C none hh.objs.size)
    rwa [Heap.size_push] at this
  · intro p hp b hb
    have := Heap.lt_size (N p hp).1
    simp only [List.mem_cons, List.not_mem_nil, or_false] at hb
    rcases hb with rfl | rfl <;> first | exact Nat.ne_of_lt this | exact Nat.ne_of_lt (Nat.lt_succ_of_lt this)

theorem init_exc_call {Q : Value → Shared → Prop} {vs : List Value} {dd : Option Addr} (F : Fr h₀ L s.heap m) (N : News h₀ L s.heap ((e, exObj C dd t) :: news)) (X₀ : K.In h₀) (q : excIn K C = true) (hoff : ∀ p ∈ news, p.1 ≠ e) (hz : vs.length ≤ 1000)
    (h : ∀ t' h', Fr h₀ L h' m → News h₀ L h' ((t', tuObj vs) :: (e, exObj C dd t') :: news) → OwnOff news [t'] → @Ne Nat t' e → Q .none { s with heap := h' }) :
    wpAny (model prog w) A (call (.builtin "Exception.__init__") (.ref e :: vs)) Q E s := by
  obtain ⟨hh, g, d, tk, os⟩ := s
  have X := X₀.keeps F.keep
  obtain ⟨nm, qn, ns, bs, bm, sn, sub, ab, col, dd', k0, k1, k2, k3, k5, hC, hcB, _, hcA, hcN, _⟩ := excCls_of X q
  have G := PySem.F.excBase_Exception
  have he : hh.get? e = some (exObj C dd t) := (N _ (.head _)).1
  have N₁ := N.push F (tuObj vs)
  have F₁ := F.push (tuObj vs)
  have hlt := Heap.lt_size he
  refine wpAny_call (codeAny_call_builtin G.init.plain G.initEntry ?_)
  have hshort := G.noStar
  simp only [checkBuiltinCall, G.initKind, G.initSplit, G.initRow]
  repeat (first | (with_reducible refine wpAny_loadPart_at he ?_) | with_reducible refine wpAny_loadPart_at hC ?_ | (with_reducible refine wpAny_isSubtype_exc hC ?_; rw [hcB]) | (refine wpAny_isSubtype_exc hC ?_; rw [hcB]) | wp_step)
  refine wpAny_onRaise ?_
  rw [show ∀ (a b : String) (n : Nat), Bind.check ⟨.positional, "*", "Exception", .self, [⟨"args", .varPos, false⟩]⟩ a b n (List.map (fun x => x.fst) ({ pos := Value.ref e :: vs } : Args).kw) = pure () from
    fun a b n => check_star_args _ _ _ _ _ _]
  refine wpAny_pure ?_
  have hz' : vs.length ≤ sizeLine := by rw [sizeLine_eq]; omega
  wp_walk
  obtain ⟨U1, U2⟩ := news_upd (pre := [(hh.objs.size, tuObj vs)]) (o' := exObj C dd hh.objs.size) (f := Obj.mapFields (·.setIfInBounds 0 (.ref hh.objs.size))) F₁ N₁
    (fun p hp => by simp only [List.mem_cons, List.not_mem_nil, or_false] at hp; subst hp; exact Nat.ne_of_gt hlt) hoff rfl rfl
  exact h hh.objs.size _ U1 U2 (fun p hp b hb => by
    simp only [List.mem_cons, List.not_mem_nil, or_false] at hb; subst hb
    exact Nat.ne_of_lt (Heap.lt_size (N p (.tail _ hp)).1)) (Nat.ne_of_gt hlt)
end
end Mine
end

-- part XS
section
open PySem PySem.W PyProof.Rows PySem.Calls
set_option maxRecDepth 100000
set_option maxHeartbeats 4000000
namespace Mine
section
variable {prog : Program} {w : World} {A : Around} {E : Value → Shared → Prop} {s : Shared} {K : Frag} {C L e t : Addr} {h₀ : Heap} {m : Str → Option Value} {news : List (Addr × Obj)} {R : Result → Shared → Prop}

theorem osa_exc {ox : Obj} {od : Option Obj} {name : Str} {tk : Tok} {v : Value} (X : K.In s.heap) (I : InstAt s.heap e ox C od) (hp : excMro K C = true) (ht : takerIn K C name = some none)
    (h : wpAny (model prog w) A.in1 (instanceDict e true) (fun d s' => match d with | some d => wpAny (model prog w) A.in1 (Builtin.ObjectAttr.storeInDict d (.str name tk) name v) (fun fin s' => match fin with | .done f => R (.ok f) s' | .again c' => c'.quiet = true ∧ codeAny (model prog w) A c' R s') (fun e s' => R (.error e) s') s' | none => False) (fun e s' => R (.error e) s') s) :
    codeAny (model prog w) A (.call (.builtin "object.__setattr__") ⟨[.ref e, .str name tk, v], []⟩) R s := by
  have SF := PySem.F.store_object
  obtain ⟨cd, hc, ho⟩ := any_some hp
  simp only [Bool.and_eq_true] at ho
  obtain ⟨⟨ho, hd⟩, hob⟩ := ho
  have ne : cd.mro.isEmpty = false := by cases q : cd.mro with | nil => rw [q] at ho; cases ho | cons _ _ => rfl
  have sub : Looks (model prog w) s.heap (isInstance (.ref e) (.type "object")) true := I.type.andThen (looks_mroIn X (by unfold mroIn; rw [hc, Option.bind_some, if_neg (by rw [ne]; decide), hob]))
  refine codeAny_call_builtin SF.slot.plain SF.entry (@check_slot (model prog w) _ _ s "object.__setattr__" "object" "__setattr__" (.ref e) [.str name tk, v] [] _ SF.kind SF.split sub (SF.args (.ref e) (.str name tk) v) ?_)
  obtain ⟨attr, ha, hr⟩ := Option.bind_eq_some_iff.mp ht
  have hm : Looks (model prog w) s.heap (mroOf (.ref C)) cd.mro := (looks_clsIn X hc).andThen .now
  have L3 : Looks (model prog w) s.heap (Builtin.ObjectAttr.storeTaker? attr) none := by
    cases attr with
    | none => cases hr; exact .now
    | some a =>
      obtain ⟨b, hb, hz⟩ := Option.map_eq_some_iff.mp hr
      refine (looks_takesIn X hb).andThen ?_
      cases b
      · exact .now
      · cases hz
  rw [osa_eq, refuse_eq]
  refine wpAny_bind (wpAny_bind (I.type.here (wpAny_bind (hm.here ?_))))
  rw [refuse_exc _ ho]
  refine wpAny_pure (wpAny_bind (I.type.here (wpAny_bind ((looks_findIn X ha).here (wpAny_bind (L3.here ?_))))))
  refine wpAny_bind (wpAny_pure (wpAny_bind (wpAny_mono h (fun d s' z => ?_) fun _ _ z => z)))
  cases d with
  | none => exact z.elim
  | some d => exact z

theorem store_news {A : Around} {Q : Fin → Shared → Prop} {od od' : Obj} {dx : Addr} {name : Str} {tk : Tok} {v : Value} {pre post : List (Addr × Obj)} {es : List DictEntry} {n : Nat} (F : Fr h₀ L s.heap m) (N : News h₀ L s.heap (pre ++ (dx, od) :: post))
    (hl : (lookIn name od).isSome = true) (h1 : ∀ p ∈ pre, p.1 ≠ dx) (h2 : ∀ p ∈ post, p.1 ≠ dx)
    (e : Obj.putName name (PyData.keyHash w.params name) (.str name s.toks) v od = od') (e' : od'.data = .dict es.toArray n) (hz : es.length ≤ 1000)
    (h : ∀ h', Fr h₀ L h' m → News h₀ L h' (pre ++ (dx, od') :: post) → Q (.done (.ret .none)) { s with heap := h', toks := s.toks + 1 }) :
    wpAny (model prog w) A (Builtin.ObjectAttr.storeInDict dx (.str name tk) name v) Q E s := by
  obtain ⟨U1, U2⟩ := news_upd (f := Obj.putName name (PyData.keyHash w.params name) (.str name s.toks) v) F N h1 h2 e (by obtain ⟨_, _, dd, _⟩ := od'; cases e'; rfl)
  have D := (N (dx, od) (by simp)).1
  have D' := (U2 (dx, od') (by simp)).1
  refine wpAny_bind (wpAny_pure (wpAny_bind ?_))
  unfold nsSet
  refine wpAny_bind (wpAny_bind (wpAny_askSetting (wpAny_pure (wpAny_bind (wpAny_mkText (wpAny_bind (wpAny_loadPart D ?_)))))))
  unfold lookIn at hl
  split at hl
  · rename_i es₀ n₀ q
    rw [q]
    dsimp only
    have c : (!es₀.any (·.key.isStr name) && es₀.any (·.refKey)) = false := by
      rw [← Array.any_toList, ← Array.any_toList]
      split at hl
      · rename_i en he
        rw [List.any_eq_true.mpr ⟨en, List.mem_of_find?_eq_some he, List.find?_some he⟩]; rfl
      · split at hl
        · cases hl
        · rename_i z; rw [Bool.not_eq_true] at z; rw [z, Bool.and_false]
    rw [aRefKeyMayBeTheName_at, c]
    refine wpAny_updatePart D ?_
    refine wpAny_bind (wpAny_lookBehind D' (by rw [e']; exact pastItsLine_dict (by rw [List.size_toArray, sizeLine_eq]; omega)) ?_)
    exact wpAny_pure (h _ U1 U2)
  · cases hl

theorem set_exc0 {Q : Unit → Shared → Prop} {name : Str} {v : Value} (F : Fr h₀ L s.heap m) (X₀ : K.In h₀) (N : News h₀ L s.heap ((e, exObj C none t) :: news)) (hoff : ∀ p ∈ news, p.1 ≠ e)
    (hs : findIn K (.ref C) "__setattr__" = some (some (.builtin "object.__setattr__"))) (hp : excMro K C = true) (ht : takerIn K C name = some none)
    (h : ∀ d h', Fr h₀ L h' m → News h₀ L h' ((d, dictOf [⟨PyData.keyHash w.params name, .str name (s.toks + 1), v⟩] 1) :: (e, exObj C (some d) t) :: news) → OwnOff news [d] → @Ne Nat d e → Q () { s with heap := h', toks := s.toks + 2 }) :
    wpAny (model prog w) A (setAttr (.ref e) name v) Q E s := by
  have X := X₀.keeps F.keep
  have he : s.heap.get? e = some (exObj C none t) := (N _ (.head _)).1
  have I : InstAt s.heap e (exObj C none t) C none := ⟨he, rfl, rfl, trivial⟩
  obtain ⟨cd, hc, ho⟩ := any_some hp
  simp only [Bool.and_eq_true] at ho
  obtain ⟨⟨ho, hd⟩, hob⟩ := ho
  have hlt := Heap.lt_size he
  refine set_plain X I hs (osa_exc (s := { s with toks := s.toks + 1 }) X I hp ht ?_)
  refine wpAny_bind (wpAny_loadPart he (wpAny_bind (looks_clsIn X hc _ _ _ _ (fun _ _ e => e) ?_)))
  rw [hd]
  refine wpAny_bind (wpAny_alloc (wpAny_bind (wpAny_update (o := exObj C none t) (Heap.get?_push_of_some _ he) (wpAny_pure ?_))))
  dsimp only
  have N₁ := N.push F (dictOf [] 0)
  have F₁ := F.push (dictOf [] 0)
  obtain ⟨U1, U2⟩ := news_upd (pre := [(s.heap.objs.size, dictOf [] 0)]) (o' := exObj C (some s.heap.objs.size) t) (f := fun o => { o with dict := some s.heap.objs.size }) F₁ N₁
    (fun p hp => by simp only [List.mem_cons, List.not_mem_nil, or_false] at hp; subst hp; exact Nat.ne_of_gt hlt) hoff rfl rfl
  refine store_news (pre := []) (od := dictOf [] 0) U1 U2 rfl (fun _ h => nomatch h) (fun p hp => ?_) (putName_dict _ _ _ _ _ _) rfl (by exact Nat.le_of_ble_eq_true rfl) fun h' F' N' => h s.heap.objs.size h' F' N' ?_ (Nat.ne_of_gt hlt)
  · rcases List.mem_cons.mp hp with rfl | hp
    · exact Nat.ne_of_lt hlt
    · exact Nat.ne_of_lt (Heap.lt_size (N p (.tail _ hp)).1)
  · intro p hp b hb
    simp only [List.mem_cons, List.not_mem_nil, or_false] at hb; subst hb
    exact Nat.ne_of_lt (Heap.lt_size (N p (.tail _ hp)).1)

theorem set_exc1 {Q : Unit → Shared → Prop} {name : Str} {v : Value} {es es' : List DictEntry} {n n' : Nat} {dx : Addr} (F : Fr h₀ L s.heap m) (X₀ : K.In h₀) (N : News h₀ L s.heap ((dx, dictOf es n) :: (e, exObj C (some dx) t) :: news)) (hoff : ∀ p ∈ news, p.1 ≠ dx) (hne : @Ne Nat dx e)
    (hs : findIn K (.ref C) "__setattr__" = some (some (.builtin "object.__setattr__"))) (hp : excMro K C = true) (ht : takerIn K C name = some none) (hl : (getL name es).isSome = true)
    (he' : (putL name (PyData.keyHash w.params name) (.str name (s.toks + 1)) v es, putN name es n) = (es', n')) (hz : es'.length ≤ 1000)
    (h : ∀ h', Fr h₀ L h' m → News h₀ L h' ((dx, dictOf es' n') :: (e, exObj C (some dx) t) :: news) → Q () { s with heap := h', toks := s.toks + 2 }) :
    wpAny (model prog w) A (setAttr (.ref e) name v) Q E s := by
  have X := X₀.keeps F.keep
  obtain ⟨rfl, rfl⟩ := Prod.mk.inj he'
  have he : s.heap.get? e = some (exObj C (some dx) t) := (N _ (.tail _ (.head _))).1
  have hdx : s.heap.get? dx = some (dictOf es n) := (N _ (.head _)).1
  have I : InstAt s.heap e (exObj C (some dx) t) C (some (dictOf es n)) := ⟨he, rfl, rfl, hdx⟩
  obtain ⟨cd, hc, ho⟩ := any_some hp
  simp only [Bool.and_eq_true] at ho
  obtain ⟨⟨ho, hd⟩, hob⟩ := ho
  refine set_plain X I hs (osa_exc (s := { s with toks := s.toks + 1 }) X I hp ht ?_)
  refine wpAny_bind (wpAny_loadPart he (wpAny_bind (looks_clsIn X hc _ _ _ _ (fun _ _ e => e) ?_)))
  rw [hd]
  refine wpAny_pure (a := some dx) ?_
  dsimp only
  refine store_news (s := { s with toks := s.toks + 1 }) (pre := []) (od := dictOf es n) F N hl (fun _ h => nomatch h) (fun p hp => ?_) (putName_dict _ _ _ _ _ _) rfl hz fun h' F' N' => h h' F' N'
  rcases List.mem_cons.mp hp with rfl | hp
  · exact Ne.symm hne
  · exact hoff p hp
end

section
variable {M : Model} {A : Around} {E : Value → Shared → Prop} {s' : Shared} {base g : Heap} {outer : List Env} {L a e t : Addr} {m : Str → Option Value} {name : Str} {scope : Scope} {cd : Value} {Q : Unit → Shared → Prop} {news : List (Addr × Obj)}

/-- an exception object of an own class, made and with a dict, leaves its first function -/
theorem leave_raiseE {C : Addr} {dd : Option Addr} {vs : List Value} (K : Below A base outer g) (F : Fr g L s'.heap m) (N : News g L s'.heap ((e, exObj C dd t) :: (t, tuObj vs) :: news)) (ho : OwnOff news [e, t])
    (hQ : ∀ h', RaisedS base g outer e (.ref C) t vs news h' → g.UpToSlots h' → Q () { s' with heap := h' }) (hk : scope.kind = .function := by rfl) :
    wpAny M (A.deeper (envOf name scope L a cd)) (leaving (envOf name scope L a cd) (.ref e)) Q E s' := by
  have K' := K.push (name := name) (a := a) (cd := cd) F hk
  have hin : ∀ env ∈ (envOf name scope L a cd :: outer), ∀ b, env.frame = some b → b ∈ (envOf name scope L a cd :: outer).filterMap (·.frame) ++ [e, t] := fun env he b hb => List.mem_append_left _ (List.mem_filterMap.mpr ⟨env, he, hb⟩)
  have nb : ∀ q ∈ ((e, exObj C dd t) :: (t, tuObj vs) :: news), base.get? q.1 = none := fun q hq => fresh_of_stays K.stays (N q hq).2.2
  have st : base.StaysIn (hideAll s'.heap ((envOf name scope L a cd :: outer).filterMap (·.frame) ++ [e, t])) := fun b o q => hideAll_get _ (K'.stays b o q) fun hm => by
    rcases List.mem_append.mp hm with hm | hm
    · rw [(K'.frames.mem hm).1] at q; cases q
    · simp only [List.mem_cons, List.not_mem_nil, or_false] at hm
      rcases hm with rfl | rfl
      · rw [nb _ (.head _)] at q; cases q
      · rw [nb _ (.tail _ (.head _))] at q; cases q
  have sg : ∀ b o, g.get? b = some o → b ∉ outer.filterMap (·.frame) → (hideAll s'.heap ((envOf name scope L a cd :: outer).filterMap (·.frame) ++ [e, t])).get? b = some o := fun b o q nm => hideAll_get _ (F.keep b o q) fun hm => by
    rcases List.mem_append.mp hm with hm | hm
    · rcases kts_mem hm with z | z
      · rw [z, kts_self F] at q
        cases q
      · exact nm z
    · simp only [List.mem_cons, List.not_mem_nil, or_false] at hm
      rcases hm with rfl | rfl
      · rw [(N _ (.head _)).2.2] at q; cases q
      · rw [(N _ (.tail _ (.head _))).2.2] at q; cases q
  have hl : ∀ q ∈ news, (hideAll s'.heap ((envOf name scope L a cd :: outer).filterMap (·.frame) ++ [e, t])).get? q.1 = some q.2 ∧ g.get? q.1 = none ∧ base.get? q.1 = none := fun q hq => by
    have Nq := N q (.tail _ (.tail _ hq))
    refine ⟨hideAll_get _ Nq.1 fun hm => ?_, Nq.2.2, fresh_of_stays K.stays Nq.2.2⟩
    rcases List.mem_append.mp hm with hm | hm
    · obtain ⟨env, he, hf⟩ := List.mem_filterMap.mp hm
      rcases List.mem_cons.mp he with rfl | he
      · exact Nq.2.1 (Option.some.inj hf).symm
      · obtain ⟨o, ho, _⟩ := (K.frames.mem (List.mem_filterMap.mpr ⟨env, he, hf⟩)).2
        rw [Nq.2.2] at ho; cases ho
    · exact ho q hq _ hm rfl
  have hfree : (hideAll s'.heap ((envOf name scope L a cd :: outer).filterMap (·.frame) ++ [e, t])).get? e = none := hideAll_none _ (List.mem_append_right _ (.head _))
  have hfret : (hideAll s'.heap ((envOf name scope L a cd :: outer).filterMap (·.frame) ++ [e, t])).get? t = none := hideAll_none _ (List.mem_append_right _ (.tail _ (.head _)))
  refine wpAny_leaving_firstW (a0 := .ref t) (base := hideAll s'.heap ((envOf name scope L a cd :: outer).filterMap (·.frame) ++ [e, t])) K'.stack (funFrames_hide K'.frames hin) rfl (N _ (.head _)).1 (fun b o q => of_hideAll _ q) hfree rfl rfl rfl fun h' hL => ?_
  obtain ⟨k1, ⟨_, _, k2⟩, k3, k4⟩ := hL
  have R : RaisedS base g outer e (.ref C) t vs news h' := ⟨⟨_, st, sg, hl, ⟨k1, hfree, k2, k3⟩, hfret⟩, Heap.TupAt.of_slots ⟨_, _, (N _ (.tail _ (.head _))).1, rfl, rfl⟩ k4⟩
  exact hQ h' R ((Heap.UpToSlots.of_keeps F.keep).trans k4)
end

section
variable {M : Model} {A : Around} {E : Value → Shared → Prop} {s : Shared} {env : Env}
/-- what is raised is an object of the own class C -/
def RaisesOwn (C : Addr) (E : Value → Shared → Prop) (v : Value) (s₁ : Shared) : Prop := ∃ e dd t, v = .ref e ∧ ExcCls s₁.heap C ∧ s₁.heap.get? e = some (exObj C dd t) ∧ E (.ref e) s₁
/-- `raise C(..)`, C an own class of exceptions -/
theorem raise_own {C : Addr} {x : PySem.Expr} {pos : PySem.Pos} {Q : Flow → Shared → Prop} (hh : A.handled = none)
    (h : wpAny M A (eval x env) (RaisesOwn C E) E s) : wpAny M A (exec (.Raise (some x) none pos) env) Q E s := by
  show wpAny M A (do standAt pos; raiseStmt env (some (do let v ← eval x env; standAt pos; pure v)) none) Q E s
  refine wpAny_bind (wpAny_standAt ?_)
  unfold raiseStmt
  refine wpAny_bind (wpAny_bind (wpAny_mono h (fun v s₁ h₁ => wpAny_bind (wpAny_standAt (wpAny_pure ?_))) fun _ _ x => x))
  obtain ⟨e, dd, t, rfl, Y, he, hE⟩ := h₁
  obtain ⟨nm, qn, ns, bs, bm, sn, sub, ab, col, dd', k0, k1, k2, k3, k5, hC, hcE, hcB, hcA, hcN, _⟩ := Y
  obtain ⟨hp, g, d, tk, os⟩ := s₁
  repeat (first | with_reducible refine wpAny_loadPart_at he ?_ | with_reducible refine wpAny_loadPart_at hC ?_ | (with_reducible refine wpAny_isSubtype_exc hC ?_; rw [hcB]) | (refine wpAny_isSubtype_exc hC ?_; rw [hcB]) | wp_step)
  exact wpAny_raiseNew_none hh hE
end
end Mine
end

-- part FR
section
open PySem PySem.W PyProof.Rows PySem.Calls
set_option maxRecDepth 100000
set_option maxHeartbeats 4000000
namespace Mine
/-- a code of which bytearray's methods ask whether it holds the bytes -/
def isDec : Code → Bool
  | .builtin ni _ => Builtin.Bytes.decodersThatHold.contains ni
  | _ => false
def NoDec (l : List (Code × PySem.Pos)) : Prop := ∀ q ∈ l, isDec q.1 = false
/-- as wpAny, but only where no such code is under way, and nothing is raised -/
def wpF {α : Type} (M : Model) (A : Around) (t : Sem α) (Q : α → Shared → Prop) (s : Shared) : Prop :=
  ∀ (Γ : PySem.Ctx) p, Γ.In A → isDec Γ.code = false → NoDec Γ.below → Sem.wp M Γ t (fun a _ s' => Q a s') (fun _ _ _ => False) p s
def codeF (M : Model) (A : Around) (c : Code) (R : Flow → Shared → Prop) (s : Shared) : Prop :=
  ∀ (Γ : PySem.Ctx) p, Γ.code = c → Γ.Below A → NoDec Γ.below → wpCode M Γ (fun r s' => ∃ f, r = .ok f ∧ R f s') p s
def FinF (M : Model) (A : Around) (R : Flow → Shared → Prop) (fin : PySem.Fin) (s' : Shared) : Prop := match fin with
  | .done f => R f s'
  | .again c => c.quiet = true ∧ codeF M A c R s'

section
variable {α β : Type} {M : Model} {A : Around} {s : Shared} {env : Env}
theorem wpF_of {t : Sem α} {Q : α → Shared → Prop} (h : wpAny M A t Q (fun _ _ => False) s) : wpF M A t Q s := fun Γ p hΓ _ _ => h Γ p hΓ
theorem wpF_mono {t : Sem α} {Q Q' : α → Shared → Prop} (h : wpF M A t Q s) (hQ : ∀ a s, Q a s → Q' a s) : wpF M A t Q' s :=
  fun Γ p h1 h2 h3 => Sem.wp_mono M Γ t (fun a _ s => hQ a s) (fun _ _ _ e => e) p s (h Γ p h1 h2 h3)
theorem wpF_bind {m : Sem α} {f : α → Sem β} {Q : β → Shared → Prop} (h : wpF M A m (fun a s' => wpF M A (f a) Q s') s) : wpF M A (m >>= f) Q s := fun Γ p h1 h2 h3 => by
  rw [Sem.wp_bind']
  exact Sem.wp_mono M Γ m (fun a p' s' h' => h' Γ p' h1 h2 h3) (fun _ _ _ h' => h') p s (h Γ p h1 h2 h3)
/-- off the path, then on it -/
theorem wpF_then {m : Sem α} {f : α → Sem β} {Q : β → Shared → Prop} (h : wpAny M A m (fun a s' => wpF M A (f a) Q s') (fun _ _ => False) s) : wpF M A (m >>= f) Q s := wpF_bind (wpF_of h)
theorem wpF_pure {a : α} {Q : α → Shared → Prop} (h : Q a s) : wpF M A (pure a) Q s := fun _ _ _ _ _ => h
theorem wpF_onRaise {m : Sem α} {k : Value → Sem Unit} {Q : α → Shared → Prop} (h : wpF M A m Q s) : wpF M A (m.onRaise k) Q s := fun Γ p h1 h2 h3 => by
  rw [Sem.wp_onRaise]
  exact Sem.wp_mono M Γ m (fun _ _ _ h' => h') (fun _ _ _ h' => h'.elim) p s (h Γ p h1 h2 h3)
theorem wpF_holding {vs : List Value} {m : Sem α} {Q : α → Shared → Prop} (h : wpF M A m Q s) : wpF M A (holding vs m) Q s := fun Γ p h1 h2 h3 => by rw [Sem.wp_holding]; exact h Γ p h1 h2 h3
theorem wpF_keep {vs : List Value} {m : Sem α} {Q : α → Shared → Prop} (h : wpF M A m Q s) : wpF M A (m.keep vs) Q s := fun Γ p h1 h2 h3 => by rw [Sem.wp_keep]; exact h Γ p h1 h2 h3
theorem NoDec.enter {Γ : PySem.Ctx} {c : Code} {hd : Option Value} {p : PySem.Pos} (h2 : isDec Γ.code = false) (h3 : NoDec Γ.below) : NoDec (Γ.enter c hd p).below := by
  intro q hq
  rcases List.mem_cons.mp hq with rfl | hq
  · exact h2
  · exact h3 q hq
theorem wpF_run {c : Code} {Q : Flow → Shared → Prop} (h : codeF M A c Q s) : wpF M A (run c none) Q s := fun Γ p h1 h2 h3 => by
  rw [Sem.wp_run]
  refine wpCode_mono (fun r s' hr => ?_) (h _ p rfl (h1.enter c none p (by intro x; cases x)) (NoDec.enter h2 h3))
  obtain ⟨f, rfl, hf⟩ := hr
  exact hf
theorem wpF_runOwn {c : Code} {Q : Flow → Shared → Prop} (h : codeF M A c Q s) : wpF M A (runOwn c env none) Q s := wpF_onRaise (wpF_run h)
/-- a call that gives a value -/
def RetF (Q : Value → Shared → Prop) (f : Flow) (s' : Shared) : Prop := match f with | .ret v => Q v s' | _ => False
theorem wpF_runValue {c : Code} {Q : Value → Shared → Prop} (h : codeF M A c (RetF Q) s) : wpF M A (runValue c) Q s := fun Γ p h1 h2 h3 => by
  rw [Sem.wp_runValue]
  refine wpCode_mono (fun r s' hr => ?_) (h _ p rfl (h1.enter c none p (by intro x; cases x)) (NoDec.enter h2 h3))
  obtain ⟨f, rfl, hf⟩ := hr
  cases f <;> exact hf
theorem wpF_call {f : Value} {pos : List Value} {kw : List (Str × Value)} {Q : Value → Shared → Prop} (h : codeF M A (.call f ⟨pos, kw⟩) (RetF Q) s) : wpF M A (call f pos kw) Q s := wpF_runValue h
theorem codeF_mono {c : Code} {R R' : Flow → Shared → Prop} (h : codeF M A c R s) (hR : ∀ f s, R f s → R' f s) : codeF M A c R' s :=
  fun Γ p h1 h2 h3 => wpCode_mono (fun _ s' ⟨f, e, hf⟩ => ⟨f, e, hR f s' hf⟩) (h Γ p h1 h2 h3)
theorem codeF_of {c : Code} {R : Flow → Shared → Prop} (h : codeAny M A c (fun r s' => ∃ f, r = .ok f ∧ R f s') s) : codeF M A c R s := fun Γ p h1 h2 _ => h Γ p h1 h2
theorem codeF_of_tree {c : Code} {R : Flow → Shared → Prop} (hd : isDec c = false) (h : wpF M (A.under c) (M.den c) (FinF M A R) s) : codeF M A c R s := fun Γ p hc hΓ h3 => by
  rw [wpCode_iff_wp, hc]
  refine Sem.wp_mono M Γ _ (fun fin p' s' h' => ?_) (fun _ _ _ h' => h'.elim) p s (h Γ p (hc ▸ hΓ.in) (hc ▸ hd) h3)
  cases fin with
  | done f => exact ⟨f, rfl, h'⟩
  | again c' => exact ⟨h'.1, h'.2 (Γ.goto c') p' rfl (hΓ.goto c') h3⟩
theorem codeF_loop {c : Code} {R : Flow → Shared → Prop} (hd : isDec c = false) (hq : c.quiet = true) (I : Nat → Shared → Prop)
    (turn : ∀ n s, I n s → wpF M (A.under c) (M.den c)
      (fun fin s' => match fin with
        | .done f => R f s'
        | .again c' => (c' = c ∧ ∃ m, m < n ∧ I m s') ∨ (c'.quiet = true ∧ codeF M A c' R s')) s)
    (n : Nat) (h : I n s) : codeF M A c R s := by
  induction n using Nat.strongRecOn generalizing s with
  | ind n ih =>
    refine codeF_of_tree hd (wpF_mono (turn n s h) fun fin s' hf => ?_)
    cases fin with
    | done f => exact hf
    | again c' =>
      rcases hf with ⟨rfl, m, hm, hI⟩ | hf
      · exact ⟨hq, ih m hm hI⟩
      · exact hf
/-- the statements of a block, one after the other -/
theorem execsF_nil {Q : Flow → Shared → Prop} (h : Q .next s) : wpF M A (execs [] env) Q s := fun _ _ _ _ _ => h
theorem execsF_on {st : PySem.Stmt} {rest : List PySem.Stmt} {Q : Flow → Shared → Prop} (h : wpF M A (exec st env) (fun f s' => match f with | .next => wpF M A (execs rest env) Q s' | f => Q f s') s) :
    wpF M A (execs (st :: rest) env) Q s := by
  rw [execs_cons]
  refine wpF_bind (wpF_mono h fun f s' h' => ?_)
  cases f <;> first | exact h' | exact wpF_pure h'
theorem execsF_off {st : PySem.Stmt} {rest : List PySem.Stmt} {Q : Flow → Shared → Prop} (h : wpAny M A (exec st env) (fun f s' => match f with | .next => wpF M A (execs rest env) Q s' | f => Q f s') (fun _ _ => False) s) :
    wpF M A (execs (st :: rest) env) Q s := execsF_on (wpF_of h)
theorem whileF {test body orelse pos} {Q : Flow → Shared → Prop} (h : codeF M A (.whileLoop test body orelse env) Q s) : wpF M A (exec (.While test body orelse pos) env) Q s := by
  rw [arm_exec_While]; exact wpF_then (wpAny_standAt (wpF_runOwn h))
theorem forF {target iter body orelse pos} {Q : Flow → Shared → Prop}
    (h : wpAny M A (eval iter env) (fun x s₁ => wpAny M A (pyIter x) (fun it s₂ => codeF M A (.forLoop target it body orelse env) Q s₂) (fun _ _ => False) s₁) (fun _ _ => False) s)
    (hs : ∀ x, foldedSetIterable iter env x = pure x := by intro _; rfl) : wpF M A (exec (.For target iter body orelse pos) env) Q s := by
  rw [arm_exec_For]
  refine wpF_then (wpAny_standAt (wpF_then (wpAny_mono h (fun x s₁ h₁ => ?_) fun _ _ x => x)))
  refine wpF_then (wpAny_of_eq (hs x) (wpF_then (wpAny_standAt (wpF_then (wpAny_holding (wpAny_mono h₁ (fun it s₂ h₂ => wpF_runOwn h₂) fun _ _ x => x))))))
theorem exprF {e pos} {Q : Flow → Shared → Prop} (h : wpF M A (eval e env) (fun v s' => match v with | .ref _ => False | _ => Q .next s') s)
    (hi : interactive env = false := by rfl) (hs : swapsWith e none pos.line env = pure false := by rfl) : wpF M A (exec (.Expr e pos) env) Q s := by
  rw [exec_Expr env e pos hi hs]
  refine wpF_then (wpAny_standAt (wpF_bind (wpF_mono h fun v s' h' => ?_)))
  have hv : ∀ a, v ≠ .ref a := fun a hva => by subst hva; exact h'
  rw [dropValue_plain hv]
  cases v <;> first | exact wpF_pure h' | exact (hv _ rfl).elim
end

section
variable {prog : Program} {w : World} {A : Around} {s : Shared} {env : Env}
theorem funcF {body : List PySem.Stmt} {Q : Flow → Shared → Prop} (h : wpF (model prog w) (A.deeper env) (execs body env) (fun f s' => Q (.ret (match f with | .ret v => v | _ => .none)) s') s) : codeF (model prog w) A (.func body env) Q s := by
  refine codeF_of_tree rfl ?_
  show wpF _ (A.deeper env) (do point; match ← (execs body env).onRaise (leaving env) with | .ret v => ret v | _ => ret .none) _ s
  refine wpF_then (wpAny_point (wpF_bind (wpF_onRaise (wpF_mono h fun f s' h' => ?_))))
  cases f <;> exact wpF_pure h'
/-- how a turn of a loop ends -/
def TurnEnd (I : Nat → Shared → Prop) (n : Nat) (Q : Flow → Shared → Prop) (f : Flow) (s₃ : Shared) : Prop := match f with
  | .next | .cont => ∃ m, m < n ∧ I m s₃
  | .brk => Q .next s₃
  | .ret v => Q (.ret v) s₃
theorem whileLoopF {test body orelse} {Q : Flow → Shared → Prop} (I : Nat → Shared → Prop)
    (turn : ∀ n s, I n s → wpAny (model prog w) A (isTrue test env (eval test env)) (fun b s₂ =>
        if b then wpF (model prog w) A (execs body env) (TurnEnd I n Q) s₂
        else wpF (model prog w) A (execs orelse env) Q s₂) (fun _ _ => False) s)
    (n : Nat) (h : I n s) : codeF (model prog w) A (.whileLoop test body orelse env) Q s := by
  refine codeF_loop rfl rfl I (fun n s hI => ?_) n h
  show wpF _ A ((whileTurn test body orelse env).onRaise (fun x => do noteFrame x env; theTreesLotGoes x)) _ s
  refine wpF_onRaise ?_
  unfold whileTurn
  refine wpF_then (wpAny_mono (turn n s hI) (fun b s₂ h₂ => ?_) fun _ _ x => x)
  cases b with
  | false => exact wpF_bind (wpF_mono h₂ fun f s₃ h₃ => wpF_pure h₃)
  | true =>
    refine wpF_bind (wpF_mono h₂ fun f s₃ h₃ => ?_)
    cases f with
    | next => exact wpF_pure (.inl ⟨rfl, h₃⟩)
    | cont => exact wpF_pure (.inl ⟨rfl, h₃⟩)
    | brk => exact wpF_pure h₃
    | ret v => exact wpF_pure h₃
theorem forLoopF {target it body env} {Q : Flow → Shared → Prop} (I : Nat → Shared → Prop)
    (turn : ∀ n s, I n s → wpAny (model prog w) A (pyNext it) (fun r s₁ => match r with
      | none => Q .next s₁
      | some v => wpAny (model prog w) A (assign target env v) (fun _ s₂ => wpF (model prog w) A (execs body env) (TurnEnd I n Q) s₂) (fun _ _ => False) s₁) (fun _ _ => False) s)
    (n : Nat) (h : I n s) (ht : ∀ v, letOwnedTupleGo target it v = pure () := by intro _; rfl) : codeF (model prog w) A (.forLoop target it body [] env) Q s := by
  refine codeF_loop rfl rfl I (fun n s hI => ?_) n h
  show wpF _ A ((forTurn target it body [] env).onRaise (fun x => do noteFrame x env; theTreesLotGoes x)) _ s
  refine wpF_onRaise ?_
  unfold forTurn
  refine wpF_then (wpAny_standAt (wpF_bind (wpF_onRaise (wpF_of (wpAny_mono (turn n s hI) (fun r s₁ h₁ => ?_) fun _ _ x => x)))))
  cases r with
  | none => exact wpF_pure (.inr ⟨rfl, codeF_of (codeAny_block (wpAny_execs_nil ⟨_, rfl, h₁⟩))⟩)
  | some v =>
    refine wpF_then (wpAny_of_eq (ht v) (wpF_then (wpAny_mono h₁ (fun _ s₂ h₂ => wpF_bind (wpF_mono h₂ fun f s₃ h₃ => ?_)) fun _ _ x => x)))
    cases f with
    | next => exact wpF_pure (.inl ⟨rfl, h₃⟩)
    | cont => exact wpF_pure (.inl ⟨rfl, h₃⟩)
    | brk => exact wpF_pure h₃
    | ret v => exact wpF_pure h₃
theorem builtinF {ni : String} {args : Args} {b : Builtin} {Q : Flow → Shared → Prop} (hb : entryFor table ni = some b) (hd : Builtin.Bytes.decodersThatHold.contains ni = false)
    (h : wpF (model prog w) (A.under (.builtin ni args)) (b args) (FinF (model prog w) A Q) s) : codeF (model prog w) A (.builtin ni args) Q s := by
  refine codeF_of_tree hd ?_
  rw [show (model prog w).den (.builtin ni args) = b args from by
    show (match entryFor table ni with | some b => b args | none => unsupported ((withoutEnding? ni "#data").getD ni)) = _
    rw [hb]]
  exact h
theorem callBuiltinF {ni : String} {args : Args} {b : Builtin} {Q : Flow → Shared → Prop} (hq : plainId ni = true) (hb : entryFor table ni = some b) (hd : Builtin.Bytes.decodersThatHold.contains ni = false)
    (h : wpAny (model prog w) A.in1 (checkBuiltinCall ni args) (fun _ s₁ => wpF (model prog w) A.in1 (b args) (FinF (model prog w) A Q) s₁) (fun _ _ => False) s) : codeF (model prog w) A (.call (.builtin ni) args) Q s := by
  refine codeF_of_tree rfl ?_
  show wpF _ A.in1 (do checkBuiltinCall ni args; again (.builtin ni args)) _ s
  refine wpF_then (wpAny_mono h (fun _ s₁ h₁ => wpF_pure ⟨plainId_quiet hq args, builtinF hb hd ?_⟩) fun _ _ x => x)
  rw [Around.under_plainId hq args]; exact h₁
end
end Mine
end

-- part FB
section
open PySem PySem.W PyProof.Rows PySem.Calls
set_option maxRecDepth 100000
set_option maxHeartbeats 4000000
namespace Mine
theorem slot_ba_append : Slot "bytearray" "append" "bytearray.append" :=
  .of (owner := "bytearray") (n := "append") (by rw [typeLookup_type, builtinLookup_eq_fast]; kernel_rfl) (by decide +kernel) (by decide +kernel) (by decide +kernel)
    (by first | exact .inl (by decide +kernel) | exact .inr (by decide +kernel)) (by rw [isSubtype_type]; kernel_rfl)
theorem type_ba_append : typeOf (.builtin "bytearray.append") = pure (.type "method_descriptor") := by show builtinType _ = _; rw [builtinType_eq_fast]; kernel_rfl
theorem entry_ba_append : entryFor table "bytearray.append" = some Builtin.«bytearray.append» := entryFor_of_tree (by kernel_rfl)
theorem args_ba_append (a b : Value) : argsOk "bytearray.append" ⟨[a, b], []⟩ := by unfold argsOk; kernel_rfl
theorem slot_ba_len : Slot "bytearray" "__len__" "bytearray.__len__" :=
  .of (owner := "bytearray") (n := "__len__") (by rw [typeLookup_type, builtinLookup_eq_fast]; kernel_rfl) (by decide +kernel) (by decide +kernel) (by decide +kernel)
    (by first | exact .inl (by decide +kernel) | exact .inr (by decide +kernel)) (by rw [isSubtype_type]; kernel_rfl)
theorem entry_ba_len : entryFor table "bytearray.__len__" = some Builtin.«bytearray.__len__» := entryFor_of_tree (by kernel_rfl)
theorem slot_ba_init : Slot "bytearray" "__init__" "bytearray.__init__" :=
  .of (owner := "bytearray") (n := "__init__") (by rw [typeLookup_type, builtinLookup_eq_fast]; kernel_rfl) (by decide +kernel) (by decide +kernel) (by decide +kernel)
    (by first | exact .inl (by decide +kernel) | exact .inr (by decide +kernel)) (by rw [isSubtype_type]; kernel_rfl)
theorem entry_ba_init : entryFor table "bytearray.__init__" = some Builtin.«bytearray.__init__» := entryFor_of_tree (by kernel_rfl)
theorem args_ba_init (a : Value) : argsOk "bytearray.__init__" ⟨[a], []⟩ := by unfold argsOk; kernel_rfl
theorem plainAttrs_ba : PlainAttrs "bytearray" := by
  exact ⟨⟨"bytearray.__getattribute__", by rw [typeLookup_type, builtinLookup_eq_fast]; kernel_rfl, by decide +kernel⟩, by rw [typeLookup_type, builtinLookup_eq_fast]; kernel_rfl⟩

section
variable {M : Model} {A : Around} {s : Shared}
theorem notGuards {l : List (Code × PySem.Pos)} (hg : guardsOf l = []) : ∀ q ∈ l, q.1.isGuard = false := by
  intro q hq
  cases h : q.1.isGuard with
  | false => rfl
  | true =>
    have : q.1 ∈ guardsOf l := List.mem_filter.mpr ⟨List.mem_map_of_mem hq, h⟩
    rw [hg] at this; cases this
theorem exportedF {v : Value} {Q : Bool → Shared → Prop} (hg : A.guards = some []) (h : Q false s) : wpF M A (Builtin.Bytes.exported v) Q s := fun Γ p h1 h2 h3 => by
  have hG : ∀ q ∈ ((Γ.code, p) :: Γ.below), q.1.isGuard = false := notGuards (by rw [guardsOf_cons]; exact h1.2.2.2.1 _ hg)
  have hD : ∀ q ∈ ((Γ.code, p) :: Γ.below), isDec q.1 = false := by
    intro q hq
    rcases List.mem_cons.mp hq with rfl | hq
    · exact h2
    · exact h3 q hq
  show Q (((Γ.code, p) :: Γ.below).any _) s
  rw [List.any_eq_false.mpr]
  · exact h
  · rintro ⟨c, q⟩ hq
    have hG1 := hG _ hq
    have hD1 := hD _ hq
    dsimp only at hG1 hD1 ⊢
    split <;> first
      | (simp [Code.isGuard, guardIds] at hG1; done)
      | (rename_i e; cases e; simp [Code.isGuard, guardIds] at hG1; done)
      | skip
    · rename_i e
      cases e
      rw [show Builtin.Bytes.decodersThatHold.contains _ = false from hD1, Bool.and_false]
      exact Bool.false_ne_true
    · exact Bool.false_ne_true
end

section
variable {M : Model} {A : Around} {s : Shared} {a : Addr} {b : Array UInt8}
theorem byteValueAny {E : Value → Shared → Prop} {v : Nat} {t : Tok} {Q : UInt8 → Shared → Prop} (hv : v < 256) (h : Q v.toUInt8 s) : wpAny M A (Builtin.Bytes.byteValue (.int ((v : Nat) : Int) t)) Q E s := by
  unfold Builtin.Bytes.byteValue
  refine wpAny_bind (wpAny_of_eq (rfl : asIndex (.int ((v : Nat) : Int) t) = pure ((v : Nat) : Int)) ?_)
  rw [if_neg (by simp only [Bool.or_eq_true, decide_eq_true_eq]; omega)]
  refine wpAny_pure ?_
  rw [Int.toNat_natCast]; exact h
theorem notExportedF {v : Value} {Q : Bool → Shared → Prop} {y : Sem Bool} (hg : A.guards = some []) (h : wpF M A y Q s) : wpF M A (Builtin.Bytes.exported v <||> y) Q s :=
  wpF_bind (exportedF hg h)
theorem exportsAny {E : Value → Shared → Prop} {Q : Bool → Shared → Prop} (ho : s.heap.get? a = some { cls := .type "bytearray", data := .bytearray b 0 }) (h : Q false s) : wpAny M A (do return decide ((← Builtin.Bytes.exportsOf (.ref a)) > 0)) Q E s :=
  wpAny_bind (wpAny_bind (wpAny_load ho (wpAny_pure (wpAny_pure h))))
theorem checkResizeF {Q : Unit → Shared → Prop} (hg : A.guards = some []) (ho : s.heap.get? a = some { cls := .type "bytearray", data := .bytearray b 0 }) (h : Q () s) : wpF M A (Builtin.Bytes.checkResize (.ref a)) Q s := by
  unfold Builtin.Bytes.checkResize
  refine wpF_bind (notExportedF hg (wpF_of (exportsAny ho ?_)))
  exact wpF_pure h
end

abbrev baO (b : Array UInt8) : Obj := { cls := .type "bytearray", data := .bytearray b 0 }
section
variable {prog : Program} {w : World} {A : Around} {s : Shared} {h₀ : Heap} {L a : Addr} {m : Str → Option Value} {news pre post : List (Addr × Obj)} {b : Array UInt8}
theorem ba_method {E : Value → Shared → Prop} {pl : Sem Bool} {Q : Value × List Value → Shared → Prop} (N : News h₀ L s.heap news) (hm : (a, baO b) ∈ news) (h : Q (.builtin "bytearray.append", [.ref a]) s) :
    wpAny (model prog w) A (getMethod (.ref a) "append" pl) Q E s :=
  getMethod_builtin ⟨_, (N _ hm).1, rfl⟩ plainAttrs_ba slot_ba_append type_ba_append (fun x e => by cases e; exact ⟨_, (N _ hm).1, rfl⟩) h

theorem ba_append {v : Nat} {t : Tok} {Q : Value → Shared → Prop} (hg : A.guards = some []) (F : Fr h₀ L s.heap m) (N : News h₀ L s.heap (pre ++ (a, baO b) :: post)) (h1 : ∀ p ∈ pre, p.1 ≠ a) (h2 : ∀ p ∈ post, p.1 ≠ a) (hv : v < 256) (hz : b.size ≤ 1000)
    (h : ∀ h', Fr h₀ L h' m → News h₀ L h' (pre ++ (a, baO (b.push v.toUInt8)) :: post) → Q .none { s with heap := h' }) :
    wpF (model prog w) A (call (.builtin "bytearray.append") [.ref a, .int ((v : Nat) : Int) t]) Q s := by
  obtain ⟨U1, U2⟩ := news_upd (o' := baO (b.push v.toUInt8)) (f := Obj.mapBytearray (·.push v.toUInt8)) F N h1 h2 rfl rfl
  have D := (N (a, baO b) (by simp)).1
  have D' := (U2 (a, baO (b.push v.toUInt8)) (by simp)).1
  have hT : s.TypeIs (.ref a) "bytearray" := ⟨_, D, rfl⟩
  refine wpF_call (callBuiltinF slot_ba_append.plain entry_ba_append (by decide +kernel) (slot_ba_append.check _ _ _ _ _ _ _ _ hT (args_ba_append _ _) ?_))
  refine wpF_then (wpAny_of_eq (a := (.ref a, .int ((v : Nat) : Int) t)) rfl ?_)
  refine wpF_then (byteValueAny hv ?_)
  refine wpF_bind (checkResizeF hg D ?_)
  refine wpF_then ?_
  show wpAny _ _ (updateBytearray a (·.push v.toUInt8)) _ _ _
  unfold updateBytearray
  refine wpAny_bind (wpAny_load D ?_)
  show wpAny _ _ (update a (Obj.mapBytearray (·.push v.toUInt8)) >>= fun _ => lookBehind a) _ _ _
  refine wpAny_bind (wpAny_update D (wpAny_lookBehind D' ?_ (wpF_pure (h _ U1 U2))))
  show (if (b.push v.toUInt8).size > sizeLine then some "bytearray:memory" else none) = none
  rw [if_neg]
  rw [Array.size_push, sizeLine_eq]; omega
end
end Mine
end

-- part FC
section
open PySem PySem.W PyProof.Rows PySem.Calls
set_option maxRecDepth 100000
set_option maxHeartbeats 4000000
namespace Mine
theorem mro_ba : mroOf (.type "bytearray") = pure [.type "bytearray", .type "object"] := by rw [mroOf_type]; kernel_rfl
theorem lookup_ba_new : typeLookup (.type "bytearray") "__new__" = pure (some (.builtin "bytearray.__new__")) := by rw [typeLookup_type, builtinLookup_eq_fast]; kernel_rfl
theorem called_ba : TypeCalled "bytearray" "bytearray.__new__" "bytearray.__init__" :=
  ⟨by decide +kernel, by decide +kernel, ⟨_, _, mro_ba⟩, madeBy_type mro_ba lookup_ba_new (by decide +kernel), by decide +kernel, by rw [isSubtype_type]; kernel_rfl, slot_ba_init⟩
theorem typeCall_ba : checkTypeCall "bytearray" ⟨[], []⟩ = pure () := by kernel_rfl
theorem newCall_ba : checkBuiltinCall "bytearray.__new__" ⟨[.type "bytearray"], []⟩ = pure () := by kernel_rfl
theorem entry_ba_new : entryFor table "bytearray.__new__" = some Builtin.«list.__new__» :=
  entryFor_alias (id' := "list.__new__") (by kernel_rfl) (by first | rfl | decide +kernel) (by decide +kernel) (by kernel_rfl)
theorem plain_ba_new : plainId "bytearray.__new__" = true := by decide +kernel
theorem owner_ba_new : ("bytearray.__new__".splitOn ".__new__").headD "" = "bytearray" := by simp +decide [String.splitOn, String.splitOnAux]
theorem sub_ba_self : isSubtype (.type "bytearray") (.type "bytearray") = pure true := by rw [isSubtype_type]; kernel_rfl
theorem lookup_ba_release : typeLookup (.type "bytearray") "__release_buffer__" = pure (some (.builtin "bytearray.__release_buffer__")) := by rw [typeLookup_type, builtinLookup_eq_fast]; kernel_rfl
theorem release_drop : ("bytearray.__release_buffer__".dropRight ("__release_buffer__".length + 1)) = "bytearray" := by decide +kernel
theorem bind_ba_init : Builtin.Bytes.bindOptional "bytearray.__init__" "bytearray" ["source", "encoding", "errors"] [] [] = pure [none, none, none] := by kernel_rfl
theorem ownRelease_ba {M : Model} {A : Around} {E : Value → Shared → Prop} {s : Shared} {a : Addr} {Q : Bool → Shared → Prop} (hT : s.TypeIs (.ref a) "bytearray") (h : Q false s) : wpAny M A (Builtin.Bytes.ownRelease (.ref a)) Q E s := by
  unfold Builtin.Bytes.ownRelease Builtin.Bytes.slotIsOwn
  refine wpAny_bind (wpAny_bind (wpAny_specialOf hT lookup_ba_release ?_))
  dsimp only
  rw [if_neg (by decide +kernel), release_drop]
  exact wpAny_isInstance hT sub_ba_self (wpAny_pure h)
section
variable {prog : Program} {w : World} {A : Around} {s : Shared}
theorem code_ba_new {E : Value → Shared → Prop} {Q₁ : Value → Shared → Prop} (h : Q₁ (.ref s.heap.objs.size) { s with heap := s.heap.push (baO #[]) }) :
    codeAny (model prog w) A (.call (.builtin "bytearray.__new__") ⟨[.type "bytearray"], []⟩) (wants Q₁ E) s := by
  refine codeAny_of_tree ?_
  show wpAny _ A.in1 (do checkBuiltinCall "bytearray.__new__" ⟨[.type "bytearray"], []⟩; again (.builtin "bytearray.__new__" ⟨[.type "bytearray"], []⟩)) _ _ s
  refine wpAny_bind (wpAny_of_eq newCall_ba (wpAny_pure ⟨plainId_quiet plain_ba_new _, codeAny_builtin_stack entry_ba_new rfl fun p st => ?_⟩))
  rw [Around.under_plainId plain_ba_new _]
  have hsub := sub_ba_self
  have hown := owner_ba_new
  obtain ⟨hp, g, d, tk, os⟩ := s
  simp only [hown]
  wp_walk
  exact h

theorem ba_new {Q : Value → Shared → Prop} (hg : A.guards = some []) (h : Q (.ref s.heap.objs.size) { s with heap := (s.heap.push (baO #[])).update s.heap.objs.size (Obj.mapBytearray (fun _ => #[])) }) : wpF (model prog w) A (call (.type "bytearray") []) Q s := by
  have ft := called_ba
  obtain ⟨c, tl, hmro⟩ := ft.mro
  have hmade := ft.made
  have hsub := ft.sub
  have h1 := ft.notType
  have h2 := ft.canCreate
  have hct := typeCall_ba
  refine wpF_call (codeF_of_tree rfl ?_)
  show wpF _ _ (callAny (.type "bytearray") _) _ _
  refine wpF_pure ⟨Code.quiet_builtin _ (by decide +kernel), builtinF PySem.F.entry_type_call (by decide +kernel) ?_⟩
  rw [Around.under_plain (weight_type_call_type "bytearray" [] []) rfl]
  unfold Builtin.«type.__call__»
  try dsimp only
  rw [if_neg (by rw [h1]; exact Bool.false_ne_true)]
  try dsimp only
  rw [if_neg (by rw [h2]; exact Bool.false_ne_true)]
  refine wpF_then (wpAny_of_eq hct ?_)
  refine wpF_then (wpAny_of_eq hmro ?_)
  rw [if_neg (show ¬ ((c :: tl).isEmpty = true) from Bool.false_ne_true)]
  refine wpF_then (wpAny_of_eq hmade ?_)
  refine wpF_then (wpAny_pure (wpF_then (wpAny_holding (wpAny_call (codeAny_mono (code_ba_new (Q₁ := fun v s₁ => v = .ref s.heap.objs.size ∧ s₁ = { s with heap := s.heap.push (baO #[]) }) (E := fun _ _ => False) ⟨rfl, rfl⟩) fun r s₁ hr => ?_)))))
  rcases r with e | (v | _ | _ | _) <;> first | exact hr | exact hr.elim | skip
  obtain ⟨rfl, rfl⟩ := hr
  have hget : (s.heap.push (baO #[])).get? s.heap.objs.size = some (baO #[]) := Heap.get?_push_size _ rfl
  have hT : ({ s with heap := s.heap.push (baO #[]) } : Shared).TypeIs (.ref s.heap.objs.size) "bytearray" := ⟨_, hget, rfl⟩
  refine wpF_then (wpAny_isInstance hT hsub ?_)
  rw [if_neg (by decide)]
  refine wpF_bind (wpF_holding (wpF_then (wpAny_specialOf hT slot_ba_init.lookup (wpF_holding (wpF_then (wpAny_of_eq (slot_ba_init.bind _) (wpF_bind (wpF_call (callBuiltinF slot_ba_init.plain entry_ba_init (by decide +kernel) (slot_ba_init.check _ _ _ _ _ _ _ _ hT (args_ba_init _) ?_))))))))))
  unfold Builtin.«bytearray.__init__»
  show wpF _ _ (Builtin.Bytes.ownRelease (.ref s.heap.objs.size) >>= _) _ _
  refine wpF_then (ownRelease_ba hT ?_)
  rw [if_neg Bool.false_ne_true]
  refine wpF_then (wpAny_of_eq bind_ba_init ?_)
  refine wpF_then (wpAny_pure (wpF_then (wpAny_pure ?_)))
  refine wpF_bind (notExportedF hg (wpF_of (exportsAny hget ?_)))
  rw [if_neg Bool.false_ne_true]
  refine wpF_then ?_
  show wpAny _ _ (updateBytearray s.heap.objs.size (fun _ => #[])) _ _ _
  unfold updateBytearray
  refine wpAny_bind (wpAny_load hget ?_)
  show wpAny _ _ (update s.heap.objs.size (Obj.mapBytearray (fun _ => #[])) >>= fun _ => lookBehind s.heap.objs.size) _ _ _
  have hget' : ((s.heap.push (baO #[])).update s.heap.objs.size (Obj.mapBytearray (fun _ => #[]))).get? s.heap.objs.size = some (baO #[]) := Heap.get?_update_self (Obj.mapBytearray (fun _ => #[])) hget rfl
  refine wpAny_bind (wpAny_update hget (wpAny_lookBehind hget' ?_ ?_))
  · rfl
  refine wpF_then (wpAny_pure (wpF_pure ?_))
  exact wpF_pure (wpF_pure h)
theorem ba_newK {h₀ : Heap} {L : Addr} {m : Str → Option Value} {news : List (Addr × Obj)} {Q : Value → Shared → Prop} (hg : A.guards = some []) (F : Fr h₀ L s.heap m) (N : News h₀ L s.heap news)
    (h : ∀ a h', Fr h₀ L h' m → News h₀ L h' ((a, baO #[]) :: news) → (∀ p ∈ news, p.1 < a) → Q (.ref a) { s with heap := h' }) : wpF (model prog w) A (call (.type "bytearray") []) Q s := by
  have hlt : ∀ p ∈ news, p.1 < s.heap.objs.size := fun p hp => Heap.lt_size (N p hp).1
  obtain ⟨U1, U2⟩ := news_upd (pre := []) (o' := baO #[]) (f := Obj.mapBytearray (fun _ => #[])) (F.push (baO #[])) (N.push F (baO #[])) (fun _ h => nomatch h) (fun p hp => Nat.ne_of_lt (hlt p hp)) rfl rfl
  exact ba_new hg (h _ _ U1 U2 hlt)
end
end Mine
end

-- part FD
section
open PySem PySem.W PyProof.Rows PySem.Calls
set_option maxRecDepth 100000
set_option maxHeartbeats 4000000
namespace Mine
section
variable {prog : Program} {w : World} {A : Around} {s : Shared} {env : Env}
theorem callFunctionF {a : Addr} {args : Args} {o : Obj} {fd : FuncData} {body : List PySem.Stmt} {Q : Flow → Shared → Prop} (hroom : A.depth < recursionLimit) (ho : s.heap.get? a = some o)
    (hd' : o.data = .func fd) (hco : fd.scope.isCoroutine = false) (hgen : fd.scope.isGenerator = false) (hbody : fd.body = .stmts body) (hcd : s.heap.CodeRec fd.code fd.qualname)
    (h : wpAny (model prog w) A.in1 (bindArgs fd args) (fun binds s₁ =>
      wpAny (model prog w) A.in1 (newFunctionEnv fd.scope fd.globals fd.closure binds (fd.qualname ++ ".<locals>.") (some a) fd.code none fd.builtins)
        (fun env s₂ => s₂.heap.NoLimit ∧ codeF (model prog w) A (.func body env) Q s₂) (fun _ _ => False) s₁) (fun _ _ => False) s) :
    codeF (model prog w) A (.call (.ref a) args) Q s := by
  refine codeF_of_tree rfl ?_
  show wpF _ A.in1 (callAny (.ref a) args) _ s
  unfold callAny
  refine wpF_then (wpAny_load ho ?_)
  obtain ⟨c, oc, vs, tq, hc, hoc, hdc, hq⟩ := hcd
  rw [hd']
  show wpF _ _ (callFunction a fd args) _ _
  unfold callFunction
  rw [hc] at h ⊢
  rw [hco, hgen, hbody]
  refine wpF_then (m := field (.ref c) 1) (wpAny_field hoc hdc hq (wpF_then (wpAny_pure ?_)))
  refine wpF_then (wpAny_mono h (fun binds s₁ h₁ => wpF_then (wpAny_mono h₁ (fun env s₂ h₂ => wpF_then (wpAny_enterFrame h₂.1 hroom (wpF_pure ⟨rfl, h₂.2⟩))) fun _ _ x => x)) fun _ _ x => x)
/-- how a body on the path ends -/
def OkR (R : Flow → Shared → Prop) (r : Result) (s' : Shared) : Prop := match r with | .ok f => R f s' | .error _ => False
theorem code_defF {env : Env} {outer : List Env} {A₀ : Around} {base h₀ : Heap} {L : Addr} {m : Str → Option Value} {K : Frag} {news : List (Addr × Obj)} {p : Program} {loose : List Str} {mean : ExcName → Option Value} {mg mb : Str → Option Value}
    {R : Flow → Shared → Prop} {name qual : Str} {params : Arguments} {body : List PySem.Stmt} {scope : Scope} {dV kV doc pm cdv ct oc : Value} {an od : Option Addr} {osl : Array (Option Value)} {f : Addr} {args : Args} {binds : List (Str × Value)}
    (B : Below A₀ base outer h₀) (F : Fr h₀ L s.heap m) (X₀ : K.In h₀) (N : News h₀ L s.heap news) (T : Top p loose mean mg mb h₀) (hA : A.frames = some (env :: outer)) (hf : env.frame = some L) (hke : env.scope.kind = .function)
    (ho : K.lookup f = some ⟨oc, od, .func (fnOf name qual params body scope dV kV doc pm an cdv ct), osl⟩) (hcd : codeIn K cdv qual = true) (hroom : A.depth < recursionLimit)
    (hbind : BindsTo s (fnOf name qual params body scope dV kV doc pm an cdv ct) args binds) (hloc : ∀ y ∈ binds, scope.names.lookup y.1 = some .local)
    (h : ∀ g L' h₁, Fr h₀ L g m → Fr g L' h₁ (fun y => binds.reverse.lookup y) → News g L' h₁ news → Below A base (env :: outer) g → K.In g → Top p loose mean mg mb g →
      wpF (model prog w) (A.deeper (envOf qual scope L' f cdv)) (execs body (envOf qual scope L' f cdv))
        (fun fl s' => LeaveK h₀ L m g (OkR R) (match fl with | .ret v => v | _ => .none) s') { s with heap := h₁, toks := s.toks + binds.length })
    (hco : scope.isCoroutine = false) (hgen : scope.isGenerator = false) (hk : scope.kind = .function) (hcell : ∀ x ∈ scope.names, x.2 ≠ .cell) : codeF (model prog w) A (.call (.ref f) args) R s := by
  have X := X₀.keeps F.keep
  obtain ⟨FG, BG, st, lv⟩ := groundX (R := OkR R) B F N hA hf hke
  refine callFunctionF (fd := fnOf name qual params body scope dV kV doc pm an cdv ct) (body := body) hroom (X _ _ ho) rfl hco hgen rfl (codeRec_of X hcd) (hbind _ _ _ _ ?_)
  refine wpAny_newFunctionEnv hcell hloc (fun h₁ hns hsb => ⟨(T.nolimit.keeps F.keep).fresh _ hsb, funcF (wpF_mono (h _ s.heap.objs.size h₁ FG ?_ ?_ BG (X₀.keeps st) (T.keeps st)) fun fl s' hl => lv _ _ hl)⟩) hk
  · have hk₁ : ∀ b o, s.heap.get? b = some o → h₁.get? b = some o := fun b o e => hsb.extBut b o (Nat.ne_of_lt (Heap.lt_size e)) (Heap.get?_push_of_some _ e)
    exact ⟨hns, fun b o e => hk₁ b o (of_hideAll _ e), Nat.le_of_eq (hideAll_size _ _)⟩
  · have hk₁ : ∀ b o, s.heap.get? b = some o → h₁.get? b = some o := fun b o e => hsb.extBut b o (Nat.ne_of_lt (Heap.lt_size e)) (Heap.get?_push_of_some _ e)
    exact fun q hq => ⟨hk₁ _ _ (N q hq).1, Nat.ne_of_lt (Heap.lt_size (N q hq).1), hideAll_none _ (List.mem_map_of_mem hq)⟩

theorem callWithF {K : Frag} {pos : PySem.Pos} {f : Value} {first : List Value} {args : List (Bool × Sem Value)} {Q : Value → Shared → Prop} (hplain : args.any (·.1) = false)
    (h : wpAny (model prog w) A (evalArgs f true args []) (fun a s₁ => (∃ k, (k = Keeper.frame ∨ k = Keeper.machine) ∧ Looks (model prog w) s₁.heap (keeperOf f) k) ∧ wpF (model prog w) A (call f (first ++ a.pos) a.kw) Q s₁) (fun _ _ => False) s) :
    wpF (model prog w) A (callWith pos f first args []) Q s := by
  unfold callWith
  refine wpF_then (wpAny_holding (wpAny_mono h (fun a s₁ h₁ => wpF_then (wpAny_standAt ?_)) fun _ _ x => x))
  obtain ⟨⟨k, hk, Lk⟩, hc⟩ := h₁
  have tail : ∀ {t : Sem Value}, wpF (model prog w) A t Q s₁ → wpF (model prog w) A (t >>= fun r => holding [r] point >>= fun _ => pure r) Q s₁ :=
    fun ht => wpF_bind (wpF_mono ht fun r s₂ hr => wpF_then (wpAny_holding (wpAny_point (wpF_pure hr))))
  have marked : ∀ mk : Value, wpF (model prog w) A (callMarked mk f (first ++ a.pos) a.kw) Q s₁ := fun mk => wpF_keep hc
  simp only [hplain, List.any_nil, Bool.or_false]
  refine wpF_then (Lk.here ?_)
  rcases hk with rfl | rfl <;> dsimp only <;> first | exact tail hc | (split <;> first | exact tail hc | exact tail (marked _))

theorem callNameF {x : Str} {np pos : PySem.Pos} {args : List PySem.Expr} {Q : Value → Shared → Prop} (h : wpAny (model prog w) A (eval (.Name x np) env) (fun f s₁ => wpF (model prog w) A (callWith pos f [] (backTo pos (starEach args env)) []) Q s₁) (fun _ _ => False) s) :
    wpF (model prog w) A (eval (.Call (.Name x np) args [] pos) env) Q s := by
  show wpF _ A (do callWith pos (← eval (.Name x np) env) [] (backTo pos (starEach args env)) (backToKw pos (keywordEach [] env))) Q s
  exact wpF_then h

theorem callAttrF {o : PySem.Expr} {name : Str} {apos pos : PySem.Pos} {args : List PySem.Expr} {pl : Sem Bool} {Q : Value → Shared → Prop}
    (h : wpAny (model prog w) A (eval o env) (fun ov s₁ => wpAny (model prog w) A (getMethod ov name pl) (fun fx s₂ => wpF (model prog w) A (callWith pos fx.1 fx.2 (backTo pos (starEach args env)) []) Q s₂) (fun _ _ => False) s₁) (fun _ _ => False) s)
    (he : eval (.Call (.Attribute o name apos) args [] pos) env = (do
      let ov ← eval o env
      standAt apos.atName
      let (f, first) ← holding [ov] (getMethod ov name pl)
      callWith pos f first (backTo pos (starEach args env)) []) := by rfl) :
    wpF (model prog w) A (eval (.Call (.Attribute o name apos) args [] pos) env) Q s := by
  rw [he]
  exact wpF_then (wpAny_mono h (fun ov s₁ h₁ => wpF_then (wpAny_standAt (wpF_then (wpAny_holding (wpAny_mono h₁ (fun fx s₂ h₂ => h₂) fun _ _ x => x))))) fun _ _ x => x)
end
end Mine
end

-- part FE
section
open PySem PySem.W PyProof.Rows PySem.Calls
set_option maxRecDepth 100000
set_option maxHeartbeats 4000000
namespace Mine
section
variable {prog : Program} {w : World} {A : Around} {K : Frag} {C : Addr} {R : Flow → Shared → Prop} {h : Heap} {g : Array GenState} {d : Drawn} {t : Nat} {os : OsState}
theorem make_coreF {fI : Addr} (Y : Makes (model prog w) h C) (hi : Looks (model prog w) h (typeLookup (.ref C) "__init__") (some (.ref fI)))
    (hb : ∀ self, Looks (model prog w) h (bindSpecial (.ref fI) self) (.ref fI, [self]))
    (hq : codeF (model prog w) (A.under (.builtin "type.__call__" ⟨[.ref C], []⟩)) (.call (.ref fI) ⟨[.ref (h.objs.size + 1)], []⟩) (fun fl s' => fl = .ret .none ∧ R (.ret (.ref (h.objs.size + 1))) s') ⟨(h.push emptyDict).push (instObj C h.objs.size), g, d, t, os⟩) :
    codeF (model prog w) A (.call (.ref C) ⟨[], []⟩) R ⟨h, g, d, t, os⟩ := by
  have Y' := Y
  obtain ⟨⟨oc, od, cd, sl, hC, e1, e2, e4⟩, made, base, self, top, call, typ⟩ := Y
  refine codeF_of_tree rfl ?_
  show wpF _ _ (callAny (.ref C) _) _ _
  unfold callAny
  refine wpF_then (wpAny_load hC ?_)
  show wpF _ _ (callAny.viaDunder (.ref C) _) _ _
  unfold callAny.viaDunder
  refine wpF_then (call.at ?_)
  dsimp only
  rw [tc_bind]
  refine wpF_then (wpAny_pure (wpF_then (wpAny_pure ?_)))
  refine wpF_pure ⟨rfl, codeF_of_tree rfl ?_⟩
  show wpF _ _ (do checkBuiltinCall "type.__call__" ⟨[.ref C], []⟩; again (.builtin "type.__call__" ⟨[.ref C], []⟩)) _ _
  refine wpF_then (check_slot tc_kind tc_split typ (tc_args _ _ _) (wpF_pure ⟨Code.quiet_builtin _ (by decide +kernel), builtinF entry_typeCall (by decide +kernel) ?_⟩))
  unfold Builtin.«type.__call__»
  have hm : Looks (model prog w) h (mroOf (.ref C)) cd.mro := ((Looks.ld (part := none) hC).andThen .now).andThen .now
  try dsimp only
  rw [if_neg (show ¬ ((Value.ref C == Value.type "type") = true) from Bool.false_ne_true)]
  refine wpF_then (hm.at ?_)
  rw [if_neg (by rw [e4]; exact Bool.false_ne_true)]
  refine wpF_then (made.at ?_)
  try dsimp only
  refine wpF_then (wpAny_pure (wpF_then (wpAny_holding (wpAny_call (codeAny_mono (new_K (R := fun r s₁ => r = .ok (.ret (.ref (h.objs.size + 1))) ∧ s₁ = ⟨(h.push emptyDict).push (instObj C h.objs.size), g, d, t, os⟩) Y' hi (.inl rfl) ⟨rfl, rfl⟩) fun r s₁ hr => ?_)))))
  obtain ⟨rfl, rfl⟩ := hr
  have k : ∀ b o, h.get? b = some o → ((h.push emptyDict).push (instObj C h.objs.size)).get? b = some o := fun b o e => Heap.get?_push_of_some _ (Heap.get?_push_of_some _ e)
  have hx : ((h.push emptyDict).push (instObj C h.objs.size)).get? (h.objs.size + 1) = some (instObj C h.objs.size) := by heap_get
  have t1 : Looks (model prog w) ((h.push emptyDict).push (instObj C h.objs.size)) (typeOf (.ref (h.objs.size + 1))) (.ref C) := (Looks.ld hx).andThen .now
  have t2 : Looks (model prog w) ((h.push emptyDict).push (instObj C h.objs.size)) (isInstance (.ref (h.objs.size + 1)) (.ref C)) true := t1.andThen (self.keeps k)
  have t3 : Looks (model prog w) ((h.push emptyDict).push (instObj C h.objs.size)) (specialOf (.ref (h.objs.size + 1)) "__init__") (some (.ref fI)) := t1.andThen (hi.keeps k)
  refine wpF_then (t2.at ?_)
  rw [if_neg (by decide)]
  refine wpF_bind (wpF_holding (wpF_then (t3.at (wpF_holding (wpF_then (((hb _).keeps k).at (wpF_bind (wpF_call (codeF_mono hq fun f s' z => ?_)))))))))
  obtain ⟨rfl, z⟩ := z
  exact wpF_pure (wpF_pure z)

theorem call_clsF {s : Shared} {L : Addr} {h₀ : Heap} {m : Str → Option Value} {news : List (Addr × Obj)} {fI : Addr} {Q : Value → Shared → Prop} (F : Fr h₀ L s.heap m) (X₀ : K.In h₀) (N : News h₀ L s.heap news) (hm : makesIn K C = true) (hi : findIn K (.ref C) "__init__" = some (some (.ref fI))) (hf : isFn K (.ref fI) = true)
    (hq : ∀ x dx h', Fr h₀ L h' m → News h₀ L h' ((x, instObj C dx) :: (dx, dictOf [] 0) :: news) → (∀ p ∈ news, p.1 < dx) → dx < x →
      codeF (model prog w) (A.under (.builtin "type.__call__" ⟨[.ref C], []⟩)) (.call (.ref fI) ⟨[.ref x], []⟩) (fun fl s' => fl = .ret .none ∧ Q (.ref x) s') { s with heap := h' }) :
    wpF (model prog w) A (call (.ref C) [] []) Q s := by
  obtain ⟨hh, g, d, t, os⟩ := s
  have X := X₀.keeps F.keep
  refine wpF_call (make_coreF (makes_of X hm) (looks_findIn X hi) (fun self => bind_fn X self (beq_iff_eq.mp hf)) (hq _ hh.objs.size _ ((F.push _).push _) ?_ (fun p hp => Heap.lt_size (N p hp).1) (Nat.lt_succ_self _)))
  have := (N.push F emptyDict).push (F.push _) (instObj C hh.objs.size)
  rwa [Heap.size_push] at this
end
end Mine
end

-- part FG
section
open PySem PySem.W PyProof.Rows PySem.Calls
set_option maxRecDepth 100000
set_option maxHeartbeats 4000000
namespace Mine
section
variable {prog : Program} {w : World} {A : Around} {s : Shared} {env : Env}
theorem assignF {targets : List PySem.Expr} {value : PySem.Expr} {pos : PySem.Pos} {names : Option (List Str)} {Q : Flow → Shared → Prop}
    (h : wpF (model prog w) A (eval value env) (fun v s₁ => wpAny (model prog w) A (assignStores env v names ((assignEach targets env).map (·.2))) Q (fun _ _ => False) s₁) s)
    (hs : swapsWithSole targets value pos.line env = pure false := by rfl) (hw : swappedStores targets value env = pure names := by rfl) : wpF (model prog w) A (exec (.Assign targets value pos) env) Q s := by
  rw [arm_exec_Assign]
  refine wpF_then (wpAny_standAt (wpF_then (wpAny_of_eq hs ?_)))
  rw [if_neg (by decide)]
  exact wpF_bind (wpF_mono h fun v s₁ h₁ => wpF_then (wpAny_of_eq hw (wpF_of h₁)))
theorem assignAttrF {o : PySem.Expr} {attr : Str} {pos' pos : PySem.Pos} {value : PySem.Expr} {Q : Flow → Shared → Prop}
    (h : wpF (model prog w) A (eval value env) (fun v s₁ => wpAny (model prog w) A (eval o env) (fun ov s₂ => wpAny (model prog w) A (setAttr ov attr v) (fun _ => Q .next) (fun _ _ => False) s₂) (fun _ _ => False) s₁) s)
    (hs : swapsWithSole [.Attribute o attr pos'] value pos.line env = pure false := by rfl) (hw : swappedStores [.Attribute o attr pos'] value env = pure none := by rfl) : wpF (model prog w) A (exec (.Assign [.Attribute o attr pos'] value pos) env) Q s := by
  refine assignF (wpF_mono h fun v s₁ h₁ => ?_) hs hw
  show wpAny _ _ (do assignAll v [assign (.Attribute o attr pos') env]; pure .next) Q _ s₁
  refine wpAny_bind ?_
  show wpAny _ _ (assign (.Attribute o attr pos') env v) _ _ s₁
  rw [assign_Attribute]
  refine wpAny_bind (wpAny_holding (wpAny_mono h₁ (fun ov s₂ h₂ => wpAny_bind (wpAny_standAt (wpAny_bind (wpAny_holding (wpAny_mono h₂ (fun _ s₃ h₃ => ?_) fun _ _ x => x))))) fun _ _ x => x))
  exact fun Γ p _ => by rw [Sem.wp_release]; exact wpAny_pure h₃
theorem tupleF {e₁ e₂ : PySem.Expr} {k : Nat} {pos : PySem.Pos} {Q : Value → Shared → Prop}
    (h : wpF (model prog w) A (eval e₁ env) (fun v₁ s₁ => wpF (model prog w) A (eval e₂ env) (fun v₂ s₂ => Q (.ref s₂.heap.objs.size) { s₂ with heap := s₂.heap.push (tuObj [v₁, v₂]) }) s₁) s)
    (he : starEach [e₁, e₂] env = [(false, eval e₁ env), (false, eval e₂ env)] := by rfl) : wpF (model prog w) A (eval (.Tuple [e₁, e₂] k pos) env) Q s := by
  rw [arm_eval_Tuple]
  refine wpF_then (wpAny_standAt (wpF_bind ?_))
  rw [he]
  show wpF _ A (spliced [(false, eval e₁ env), (false, eval e₂ env)]) _ s
  unfold spliced
  refine wpF_bind (wpF_mono h fun v₁ s₁ h₁ => wpF_then (wpAny_pure (wpF_bind (wpF_holding ?_))))
  unfold spliced
  refine wpF_bind (wpF_mono h₁ fun v₂ s₂ h₂ => wpF_then (wpAny_pure (wpF_then (wpAny_holding ?_))))
  unfold spliced
  exact wpAny_pure (wpF_pure (wpF_pure (wpF_of (wpAny_newObj_type h₂ (by show [v₁, v₂].toArray.size ≤ sizeLine; rw [sizeLine_eq]; exact Nat.le_of_ble_eq_true rfl)))))
theorem assignPairF {x y : Str} {k : Nat} {px py tp pos : PySem.Pos} {value : PySem.Expr} {Q : Flow → Shared → Prop}
    (h : wpF (model prog w) A (eval value env) (fun v s₁ => wpAny (model prog w) A (unpackItems v 2 none) (fun items s₂ =>
      wpAny (model prog w) A (assignInOrder ([x, y].reverse.map fun n => bindName env n) items.reverse) (fun _ => Q .next) (fun _ _ => False) s₂) (fun _ _ => False) s₁) s)
    (hs : swapsWithSole [.Tuple [.Name x px, .Name y py] k tp] value pos.line env = pure false := by rfl) (hw : swappedStores [.Tuple [.Name x px, .Name y py] k tp] value env = pure (some [x, y]) := by rfl) :
    wpF (model prog w) A (exec (.Assign [.Tuple [.Name x px, .Name y py] k tp] value pos) env) Q s := by
  refine assignF (wpF_mono h fun v s₁ h₁ => ?_) hs hw
  show wpAny _ _ (do rule "assign.swapped-stores"; let items ← unpackItems v 2 none; assignInOrder ([x, y].reverse.map fun n => bindName env n) items.reverse; pure .next) Q _ s₁
  exact wpAny_bind (wpAny_rule (wpAny_bind (wpAny_mono h₁ (fun items s₂ h₂ => wpAny_bind (wpAny_mono h₂ (fun _ _ x => wpAny_pure x) fun _ _ x => x)) fun _ _ x => x)))
theorem callWith0F {pos : PySem.Pos} {f : Value} {k : Keeper} {Q : Value → Shared → Prop} (hk : k = Keeper.frame ∨ k = Keeper.machine) (Lk : Looks (model prog w) s.heap (keeperOf f) k) (h : wpF (model prog w) A (call f []) Q s) :
    wpF (model prog w) A (callWith pos f [] (backTo pos (starEach [] env)) []) Q s :=
  callWithF (K := []) rfl (evalArgs_nil3 ⟨⟨k, hk, Lk⟩, h⟩)
/-- the call itself, once its arguments are there -/
def ArgsF (prog : Program) (w : World) (A : Around) (f : Value) (first : List Value) (Q : Value → Shared → Prop) (vs : List Value) (s₁ : Shared) : Prop :=
  (∃ k, (k = Keeper.frame ∨ k = Keeper.machine) ∧ Looks (model prog w) s₁.heap (keeperOf f) k) ∧ wpF (model prog w) A (call f (first ++ vs)) Q s₁
theorem callWithSF {pos : PySem.Pos} {f : Value} {first : List Value} {e : PySem.Expr} {rest : List PySem.Expr} {Q : Value → Shared → Prop}
    (h : wpAny (model prog w) A (spliced (backTo pos (starEach (e :: rest) env))) (ArgsF prog w A f first Q) (fun _ _ => False) s)
    (he : starEach (e :: rest) env = (false, eval e env) :: starEach rest env := by rfl) (hplain : (backTo pos (starEach rest env)).any (·.1) = false := by rfl) :
    wpF (model prog w) A (callWith pos f first (backTo pos (starEach (e :: rest) env)) []) Q s := by
  rw [he] at h ⊢
  exact callWithF (K := []) (by show (false || (backTo pos (starEach rest env)).any (·.1)) = false; rw [hplain]; rfl) (evalArgs_plain h)
end
end Mine
end

-- part HF
section
open PySem PySem.W PyProof.Rows PySem.Calls
set_option maxRecDepth 100000
set_option maxHeartbeats 4000000
namespace Mine
/-- t where no code is under way that bytearray's methods ask for; else just True -/
def guardRun (t : Sem Value) : Sem Value := do
  if (← stack).any (fun q => isDec q.1) then pure (.bool true) else t
def guardTree (t : Sem PySem.Fin) : Sem PySem.Fin := do
  if (← stack).any (fun q => isDec q.1) then pure (.done (.ret (.bool true))) else t
theorem any_isDec {Γ : PySem.Ctx} {p : PySem.Pos} (h : ((Γ.code, p) :: Γ.below).any (fun q => isDec q.1) = false) : isDec Γ.code = false ∧ NoDec Γ.below := by
  rw [List.any_cons, Bool.or_eq_false_iff] at h
  exact ⟨h.1, fun q hq => by
    cases hb : isDec q.1 with
    | false => rfl
    | true => have := (List.any_eq_true (p := fun q : Code × PySem.Pos => isDec q.1)).mpr ⟨q, hq, hb⟩; rw [h.2] at this; cases this⟩
section
variable {M : Model} {A : Around} {E : Value → Shared → Prop} {s : Shared}
theorem guardRun_any {t : Sem Value} {Q : Value → Shared → Prop} (h1 : Q (.bool true) s) (h2 : wpF M A t Q s) : wpAny M A (guardRun t) Q E s := fun Γ p hΓ => by
  show Sem.wp M Γ (if ((Γ.code, p) :: Γ.below).any (fun q => isDec q.1) = true then pure (.bool true) else t) _ _ p s
  cases hb : ((Γ.code, p) :: Γ.below).any (fun q => isDec q.1) with
  | true => exact h1
  | false =>
    obtain ⟨a, b⟩ := any_isDec hb
    exact Sem.wp_mono M Γ t (fun _ _ _ z => z) (fun _ _ _ z => z.elim) p s (h2 Γ p hΓ a b)
theorem guardTree_any {f : Value} {vs : List Value} {name : Str} {mg : Str → Option Value} {Q : PySem.Fin → Shared → Prop} (hg : s.heap.Ns mainGlobals mg) (hf : mg name = some f)
    (h : wpAny M A (guardRun (PySem.call f vs)) (fun v s' => Q (.done (.ret v)) s') E s) :
    wpAny M A (guardTree (do match ← nsGet mainNs name with
      | some f => do ret (← PySem.call f vs)
      | none => unsupported "claim.caller:no-such-global")) Q E s := fun Γ p hΓ => by
  have h' := h Γ p hΓ
  have h' : Sem.wp M Γ (if ((Γ.code, p) :: Γ.below).any (fun q => isDec q.1) = true then pure (.bool true) else PySem.call f vs) _ _ p s := h'
  show Sem.wp M Γ (if ((Γ.code, p) :: Γ.below).any (fun q => isDec q.1) = true then _ else _) _ _ p s
  cases hb : ((Γ.code, p) :: Γ.below).any (fun q => isDec q.1) with
  | true => rw [hb] at h'; exact h'
  | false =>
    rw [hb] at h'
    rw [if_neg Bool.false_ne_true] at h' ⊢
    rw [Sem.wp_bind']
    show Sem.wp M Γ (nsGet mainGlobals name) _ _ p s
    rw [Sem.wp_nsGet M Γ _ p s hg, hf]
    show Sem.wp M Γ (PySem.call f vs >>= fun v => ret v) _ _ p s
    rw [Sem.wp_bind']
    exact Sem.wp_mono M Γ _ (fun _ _ _ z => z) (fun _ _ _ z => z) p s h'
end
theorem guard_run {den : Code → Sem PySem.Fin} {p : Program} {w : World} {s s' : Shared} {t : Sem PySem.Fin} {n : Nat} {o : Outcome} (hz : s.asleep)
    (h : schedN den p w n (.single s ⟨guardTree t, .builtin "claim.caller" {}, default, []⟩) = .halted o s') : ∃ n', schedN den p w n' (.single s ⟨t, .builtin "claim.caller" {}, default, []⟩) = .halted o s' := by
  cases n with
  | zero => cases h
  | succ n =>
    refine ⟨n, ?_⟩
    have hs : step den p w s ⟨guardTree t, .builtin "claim.caller" {}, default, []⟩ = .go s ⟨t, .builtin "claim.caller" {}, default, []⟩ := by rfl
    have e : sstep den p w (.single s ⟨guardTree t, .builtin "claim.caller" {}, default, []⟩) = .go (.single s ⟨t, .builtin "claim.caller" {}, default, []⟩) := by
      rcases sstep_single (den := den) (prog := p) (w := w) s ⟨guardTree t, .builtin "claim.caller" {}, default, []⟩ rfl hz with e | e
      · rw [e, hs]; rfl
      · rw [hs] at e; cases e
    simp only [schedN, e] at h
    exact h
theorem callFrom_guard {c : ClaimW} {tree : List Value → Sem PySem.Fin} {w : World} {free : Addr → Prop} {gens : Prop} {kept : Heap → Prop} {s₀ : Shared} (hz : s₀.asleep)
    (h : c.CallFrom (fun vs => ⟨guardTree (tree vs), .builtin "claim.caller" {}, default, []⟩) w free gens kept s₀) : c.CallFrom (fun vs => ⟨tree vs, .builtin "claim.caller" {}, default, []⟩) w free gens kept s₀ := by
  intro args hpre hlay ord hord
  obtain ⟨vs, s₁, l, n, o, s', hr, rest⟩ := h args hpre hlay ord hord
  obtain ⟨n', hr'⟩ := guard_run (Shared.asleep_of_life (layAllW_rest _ _ _ l).2.2.2 hz) hr
  exact ⟨vs, s₁, l, n', o, s', hr', rest⟩
end Mine
namespace Mine.PySem.W
open _root_.PySem _root_.PySem.W PyProof.Rows _root_.PySem.Calls
/-- as the head of the library, for a callee behind guardRun -/
theorem holds_open {r : OpenRow} {q : Program} {loose : List Str} {Xt : Shared → Bool} {XP : (Str → Option Value) → Heap → Prop} {α : Type} {Yf : Shared → α} {Ya : World → α} {YP : World → Heap → Prop} {d : DefRec} {kwd : List (Str × _root_.PySem.Expr)} {N : Nat}
    (left : LeftO r.prog q loose Xt Yf Ya N) (hY : ∀ w s, Yf s = Ya w → YP w s.heap) (hYk : ∀ w h h', YP w h → (∀ b o, h.get? b = some o → h'.get? b = some o) → YP w h')
    (hX : ∀ s, Xt s = true → XP (s.heap.nsMap mainGlobals) s.heap) (hXk : ∀ mg h h', XP mg h → (∀ b o, h.get? b = some o → h'.get? b = some o) → XP mg h')
    (hdef : defOf q r.name = some (d, kwd)) (hp : r.prog.theDef r.name = some (d.params, d.body, d.scope)) (hk : kwWritten? d.params.kwonlyargs d.params.kw_defaults = some kwd) (hRf : ∀ s, Xt s = true → RecFacts r.records s.heap) (hwr : (!r.writes || r.records.isEmpty) = true)
    (k1 : r.wellSaid = true) (ok : (chainsOk q && opensWell r.prog && (frees r.toRowW && r.within.isEmpty)) = true) (hb : r.prog.bare) (hw : r.toRowW.promised)
    (call : WalkO q loose XP YP r.toRowW d kwd fun f vs => guardRun (_root_.PySem.call f vs)) : r.Holds := by
  have hch : chainsOk q = true := (Bool.and_eq_true_iff.mp (Bool.and_eq_true_iff.mp ok).1).1
  have H : r.toRowW.claim.HoldsOpenBy (fun vs => ⟨guardTree (do match ← nsGet mainNs r.name with
      | some f => do ret (← _root_.PySem.call f vs)
      | none => unsupported "claim.caller:no-such-global"), .builtin "claim.caller" {}, default, []⟩) (if r.pinned then [r.name] else []) r.keeps r.writes := by
    refine open_anyG (r := r.toRowW) (run := fun f vs => guardRun (_root_.PySem.call f vs)) left hY hYk hX hXk hRf hwr ok hb hw (fun vs w s mg f Q E hg hf h => guardTree_any hg hf h)
      (fun w s hg G n hn => ?_) fun w s₀ s₁ mg mb G Y args vs as hpre hlay L low => ?_
    · obtain rfl : n = r.name := by split at hn <;> simp_all
      exact pinned_of_view hg G hdef hp hk
    · obtain ⟨a, o, pm, cd, doc, dV, kV, h1, h2, h3, h4, h5⟩ := G.fn hdef
      exact ⟨.ref a, h1, call w s₀ s₁ mg mb G Y a o pm cd doc dV kV h2 h3 h4 h5 (defOf_name hdef ▸ h1) L.gens args vs as hpre hlay L.reads L.well (L.low low)⟩
  refine ⟨k1, hw, H.1, H.2.1, fun w => ⟨(H.2.2 w).1, fun s hs => ?_⟩⟩
  obtain ⟨s₀, h1, h2, s₁, h3, h4, h5, h6, cf⟩ := (H.2.2 w).2 s hs
  obtain ⟨s₀', g1, _, s₁', g3, g4, _⟩ := (left.behind (XP := fun _ _ => True) (fun _ _ => trivial) hch w).2 s hs
  obtain rfl : s₀' = s₀ := Option.some.inj (g1.symm.trans h1)
  exact ⟨s₀', h1, h2, s₁, h3, h4, h5, h6, callFrom_guard (Shared.asleep_of_life (h3.2.1.trans g3.2.1.symm) g4) cf⟩
end Mine.PySem.W
end

-- part Hd
section
open PySem PySem.W PyProof.Rows
set_option maxRecDepth 100000
set_option maxHeartbeats 8000000
namespace Mine.Pre.PySem.W
open _root_.PySem _root_.PySem.W PyProof.Rows _root_.PySem.Calls
/-- stands in for the head, to have its constants laid -/
theorem holds_open {r : OpenRow} {q : Program} {loose : List Str} {Xt : Shared → Bool} {XP : (Str → Option Value) → Heap → Prop} {α : Type} {Yf : Shared → α} {Ya : World → α} {YP : World → Heap → Prop} {d : DefRec} {kwd : List (Str × _root_.PySem.Expr)} {N : Nat} [no : Nonempty Empty]
    (left : True) (hY : ∀ w s, Yf s = Ya w → YP w s.heap) (hYk : ∀ w h h', YP w h → (∀ b o, h.get? b = some o → h'.get? b = some o) → YP w h')
    (hX : ∀ s, Xt s = true → XP (s.heap.nsMap mainGlobals) s.heap) (hXk : ∀ mg h h', XP mg h → (∀ b o, h.get? b = some o → h'.get? b = some o) → XP mg h')
    (hdef : defOf q r.name = some (d, kwd)) (hp : r.prog.theDef r.name = some (d.params, d.body, d.scope)) (hk : kwWritten? d.params.kwonlyargs d.params.kw_defaults = some kwd) (hRf : ∀ s, Xt s = true → RecFacts r.records s.heap) (hwr : (!r.writes || r.records.isEmpty) = true)
    (k1 : r.wellSaid = true) (ok : (chainsOk q && opensWell r.prog && (frees r.toRowW && r.within.isEmpty)) = true) (hb : r.prog.bare) (hw : r.toRowW.promised)
    (call : True) : r.Holds := no.elim fun e => nomatch e
end Mine.Pre.PySem.W
namespace Mine.Pre
theorem hd (no : Nonempty Empty) : OpenRow.Holds PySem.Challenge.rw_og0154_01.row := by
  w_on
  refine (show True → _ from fun _ => ?_) ?hl
  rotate_left
  · exact trivial
  have said : PySem.Challenge.rw_og0154_01.row.wellSaid = true := no.elim fun e => nomatch e
  k_head
  · w_witness2
  · trivial
end Mine.Pre
namespace Mine
/-- a run of the top, its heap a tree -/
def topRunG (ok : Thread → Bool) (st : SharedT → Thread → Option (SharedT × Thread)) : Nat → SharedT → Thread → Option SharedT
  | 0, _, _ => none
  | n + 1, s, t => match through t with
    | true => some s
    | false => match ok t with
      | false => none
      | true => match st s t with
        | some (s', t') => topRunG ok st n s' t'
        | none => none
theorem topRunG_of {tb : String → Option Builtin} {p : Program} {w : World} {n₀ : Nat} {ann : Option Value} : ∀ (n : Nat) (s : SharedT) (t : Thread) (s' : SharedT),
    topRunG (stepOk n₀ ann) (stepT (denote tb) p w) n s t = some s' → topRun tb p w n₀ ann n s.abs t = some s'.abs
  | 0, _, _, _, h => by cases h
  | n + 1, s, t, s', h => by
    unfold topRunG at h
    unfold topRun
    cases he : through t with
    | true => rw [he] at h; cases h; rfl
    | false =>
      rw [he] at h
      cases hk : stepOk n₀ ann t with
      | false => rw [hk] at h; cases h
      | true =>
        rw [hk] at h
        dsimp only at h ⊢
        cases hs : stepT (denote tb) p w s t with
        | none => rw [hs] at h; cases h
        | some x =>
          obtain ⟨s₂, t₂⟩ := x
          rw [hs] at h
          rw [stepT_spec hs]
          exact topRunG_of n s₂ t₂ s' h
/-- a list of objects as a tree -/
def treeOf : List Obj → Nat → BT → BT
  | [], _, t => t
  | o :: l, n, t => treeOf l (n + 1) (t.ins n o)
theorem left_of_tree {p q : Program} {loose : List Str} {Xt : Shared → Bool} {α : Type} {Yf : Shared → α} {Ya : World → α} {N : Nat} {H₀ : Params → Heap} {T₀ : Params → BT} {n₀ : Nat} {life₀ : Params → Life} {d₀ : Drawn} {k₀ m₀ : Nat} {ann : Option Value} {g0 : Bool}
    (open_ : ∀ w : World, (fencedOpening treeTable p w N).map (fun s => (s.heap, s.gens, s.drawn, s.toks)) = some (H₀ w.params, Array.mk [], d₀, k₀))
    (tree : ∀ P, absHeap (T₀ P) n₀ (life₀ P) = H₀ P)
    (size : ∀ w : World, ((H₀ w.params).isNs mainGlobals && (Array.mk [] : Array GenState).size == 0, (H₀ w.params).objs.size, (H₀ w.params).nsMap mainGlobals "__annotations__") = (true, m₀, ann))
    (run : ∀ (w : World) (os : OsState), (topRunG (stepOk m₀ ann) (stepT (denote treeTable) p w) N ⟨T₀ w.params, n₀, life₀ w.params, Array.mk [], d₀, k₀, os⟩ (topStub p)).map (fun s =>
      ((staticsOk (importedModules p.main.body) (H₀ w.params) s.abs.heap && namesBound p s.abs.heap && gensDone s.abs && laidKept (H₀ w.params) s.abs.heap), openSeen q loose (importedModules p.main.body) Xt g0 s.abs, Yf s.abs)) = some (true, openGood q loose, Ya w)) : LeftO p q loose Xt Yf Ya N g0 := fun w => by
  obtain ⟨⟨h, gs, d, k, os⟩, e, e'⟩ := Option.map_eq_some_iff.mp (open_ w)
  obtain ⟨rfl, rfl, rfl, rfl⟩ : h = H₀ w.params ∧ gs = Array.mk [] ∧ d = d₀ ∧ k = k₀ := by simpa using e'
  obtain ⟨z1, z2, z3⟩ : _ ∧ _ ∧ _ := by simpa only [Prod.mk.injEq] using size w
  obtain ⟨s₁, r, l⟩ := Option.map_eq_some_iff.mp (run w os)
  obtain ⟨l1, l2, l3⟩ : _ ∧ _ ∧ _ := by simpa only [Prod.mk.injEq] using l
  have r' := topRunG_of _ _ _ _ r
  have t : topFrom treeTable p w N ⟨H₀ w.params, Array.mk [], d, k, os⟩ = some s₁.abs := by
    unfold topFrom
    dsimp only
    rw [z1, z2, z3]
    have a : (⟨H₀ w.params, Array.mk [], d, k, os⟩ : Shared) = SharedT.abs ⟨T₀ w.params, n₀, life₀ w.params, Array.mk [], d, k, os⟩ := by
      unfold SharedT.abs
      dsimp only
      rw [tree]
    rw [a, r']
    show (match staticsOk (importedModules p.main.body) (H₀ w.params) s₁.abs.heap && namesBound p s₁.abs.heap && gensDone s₁.abs && laidKept (H₀ w.params) s₁.abs.heap with | true => _ | false => _) = _
    rw [l1]
  unfold openEnds
  rw [e]
  show (topFrom treeTable p w N _).map _ = _
  rw [t]
  exact congrArg some (Prod.ext l2 l3)
/-- the heap before the top, as a tree -/
noncomputable def bootTree (P : Params) : BT := treeOf (boot_heap P).objs.toList 0 BT.nil
theorem bootTree_eq (P : Params) : absHeap (bootTree P) 11 (boot_heap P).life = boot_heap P := by kernel_rfl
/-- the addresses of the objects that the walk looks at -/
def addrK : List Addr := [2, 3, 15, 17, 18, 20, 21, 22, 29, 30, 32, 33, 35, 36, 37, 39, 40, 42, 43, 44, 45, 46, 47, 50, 57, 58, 59, 62, 64, 65, 67, 68, 69, 71, 72, 74, 75, 76, 78, 79, 81, 82, 90, 91, 93, 94, 96, 97, 98, 100, 101, 103, 104, 105, 107, 108, 110, 111, 112, 114, 115, 117, 118, 119, 121, 122, 124, 125, 126, 128, 129, 131, 132, 133, 134, 135, 136, 137, 147, 149, 150, 152, 153, 154, 156, 157, 159, 160, 161, 163, 164, 166, 167, 168, 170, 171, 173, 174, 175, 176, 177, 178, 179, 189, 191, 192, 194, 195, 196, 198, 199, 201, 202, 203, 205, 206, 208, 209, 210, 212, 213, 215, 216, 217, 219, 220, 222, 223, 224, 226, 227, 229, 230, 231, 232, 233, 234, 235, 245, 247, 248, 250, 251, 252, 254, 255, 257, 258, 259, 261, 262, 264, 265, 266, 268, 269, 271, 272, 273, 274, 275, 276, 277, 280, 282, 283, 285, 286, 287, 289, 290, 292, 293, 294, 297, 298]
theorem addrK_eq (P : Params) : addrK = (Pre.hd.heap_1 P).map (·.1) := by kernel_rfl
theorem left_open : ∀ w : World, (fencedOpening treeTable PySem.Challenge.rw_og0154_01.row.prog w 4390).map (fun s => (s.heap, s.gens, s.drawn, s.toks)) = some (boot_heap w.params, Array.mk [], boot_drawn, boot_toks) :=
  boot_open (p := PySem.Challenge.rw_og0154_01.row.prog) (N := 4390) (by kernel_rfl) (by rfl) (by intro s; kernel_rfl)
theorem left_size (w : World) : ((boot_heap w.params).isNs mainGlobals && (Array.mk [] : Array GenState).size == 0, (boot_heap w.params).objs.size, (boot_heap w.params).nsMap mainGlobals "__annotations__") = (true, 11, some (.ref 6)) := by kernel_rfl
/-- the top's run, by the kernel at once -/
theorem left_all : LeftO PySem.Challenge.rw_og0154_01.row.prog Pre.hd.view_1 [Str.ofString "PaperError"] (fun s => xlAt Pre.hd.view_1 [] s && recOk (RowW.records (OpenRow.toRowW PySem.Challenge.rw_og0154_01.row)) s)
    (Hook.obs (kHook Pre.hd.heap_1 addrK addrK_eq)) (Hook.val (kHook Pre.hd.heap_1 addrK addrK_eq)) 4390 := by
  refine left_of_tree (T₀ := bootTree) left_open bootTree_eq left_size ?_
  intro w os
  unfold topStub
  rw [PySem.W.Fast.te14364793385576792824, PySem.W.Fast.te10156331382660048174, PySem.W.Fast.te6613529449190102663, PySem.W.Fast.te11892475500146522536, PySem.W.Fast.te4187177175401517315, PySem.W.Fast.te17154629097778926822, PySem.W.Fast.te12822647523644345616]
  kernel_rfl
end Mine
end

-- part MA
section
namespace Mine
/-! numbers out of bits -/
/-- c bits from place k on, the first one highest -/
def BE (β : Nat → Nat) (k : Nat) : Nat → Nat
  | 0 => 0
  | c + 1 => 2 * BE β k c + β (k + c)
/-- c bits from place k on, the first one lowest -/
def LE (β : Nat → Nat) (k : Nat) : Nat → Nat
  | 0 => 0
  | c + 1 => LE β k c + β (k + c) * 2 ^ c
def bitAt (v i : Nat) : Nat := v >>> i &&& 1
def turnN (v c : Nat) : Nat := BE (bitAt v) 0 c
theorem bitAt_mod (v i : Nat) : bitAt v i = v / 2 ^ i % 2 := by
  unfold bitAt; rw [Nat.and_one_is_mod, Nat.shiftRight_eq_div_pow]
theorem bitAt_lt (v i : Nat) : bitAt v i < 2 := by
  rw [bitAt_mod]; exact Nat.mod_lt _ (by decide)
theorem turnN_succ (v c : Nat) : turnN v (c + 1) = turnN v c <<< 1 ||| (v >>> c &&& 1) := by
  have h := bitAt_lt v c
  rw [← Nat.shiftLeft_add_eq_or_of_lt (by rw [Nat.pow_one]; exact h), Nat.shiftLeft_eq]
  show 2 * BE (bitAt v) 0 c + bitAt v (0 + c) = _
  rw [Nat.zero_add, Nat.pow_one, Nat.mul_comm]; rfl
section
variable {β γ : Nat → Nat}
theorem BE_lt (hβ : ∀ i, β i < 2) (k c : Nat) : BE β k c < 2 ^ c := by
  induction c with
  | zero => simp [BE]
  | succ n ih => have := hβ (k + n); rw [BE, Nat.pow_succ]; omega
theorem LE_lt (hβ : ∀ i, β i < 2) (k c : Nat) : LE β k c < 2 ^ c := by
  induction c with
  | zero => simp [LE]
  | succ n ih =>
    have h := hβ (k + n)
    have h2 : β (k + n) * 2 ^ n ≤ 1 * 2 ^ n := Nat.mul_le_mul_right _ (by omega)
    rw [LE, Nat.pow_succ]; omega
theorem BE_add (k c d : Nat) : BE β k (c + d) = BE β k c * 2 ^ d + BE β (k + c) d := by
  induction d with
  | zero => simp [BE]
  | succ n ih =>
    show BE β k (c + n + 1) = _
    rw [BE, ih, BE, Nat.pow_succ, ← Nat.mul_assoc, Nat.add_assoc k c n]; omega
theorem LE_add (k c d : Nat) : LE β k (c + d) = LE β k c + LE β (k + c) d * 2 ^ c := by
  induction d with
  | zero => simp [LE]
  | succ n ih =>
    show LE β k (c + n + 1) = _
    rw [LE, ih, LE, Nat.add_mul, Nat.pow_add, Nat.mul_assoc, Nat.mul_comm (2 ^ n), Nat.add_assoc k c n, Nat.add_assoc]
theorem BE_congr {k k' c : Nat} (h : ∀ i, i < c → β (k + i) = γ (k' + i)) : BE β k c = BE γ k' c := by
  induction c with
  | zero => rfl
  | succ n ih => rw [BE, BE, ih fun i hi => h i (by omega), h n (by omega)]
theorem LE_congr {k k' c : Nat} (h : ∀ i, i < c → β (k + i) = γ (k' + i)) : LE β k c = LE γ k' c := by
  induction c with
  | zero => rfl
  | succ n ih => rw [LE, LE, ih fun i hi => h i (by omega), h n (by omega)]
theorem BE_push (hβ : ∀ i, β i < 2) (k c d : Nat) : BE β k c <<< d ||| BE β (k + c) d = BE β k (c + d) := by
  rw [← Nat.shiftLeft_add_eq_or_of_lt (BE_lt hβ _ _), Nat.shiftLeft_eq, BE_add]
theorem LE_push (hβ : ∀ i, β i < 2) (k c d : Nat) : LE β k c ||| LE β (k + c) d <<< c = LE β k (c + d) := by
  rw [Nat.or_comm, ← Nat.shiftLeft_add_eq_or_of_lt (LE_lt hβ _ _), Nat.shiftLeft_eq, LE_add, Nat.add_comm]
theorem BE_shr (hβ : ∀ i, β i < 2) (k c d : Nat) : BE β k (c + d) >>> d = BE β k c := by
  rw [Nat.shiftRight_eq_div_pow, BE_add, Nat.mul_comm, Nat.mul_add_div (Nat.two_pow_pos d), Nat.div_eq_of_lt (BE_lt hβ _ _), Nat.add_zero]
theorem BE_mod (hβ : ∀ i, β i < 2) (k c d : Nat) : BE β k (c + d) % 2 ^ d = BE β (k + c) d := by
  rw [BE_add, Nat.mul_comm, Nat.mul_add_mod, Nat.mod_eq_of_lt (BE_lt hβ _ _)]
theorem LE_mod (hβ : ∀ i, β i < 2) (k c d : Nat) : LE β k (c + d) % 2 ^ c = LE β k c := by
  rw [LE_add, Nat.add_mul_mod_self_right, Nat.mod_eq_of_lt (LE_lt hβ _ _)]
theorem LE_shr (hβ : ∀ i, β i < 2) (k c d : Nat) : LE β k (c + d) >>> c = LE β (k + c) d := by
  rw [Nat.shiftRight_eq_div_pow, LE_add, Nat.add_mul_div_right _ _ (Nat.two_pow_pos c), Nat.div_eq_of_lt (LE_lt hβ _ _), Nat.zero_add]
theorem bitAt_LE (hβ : ∀ i, β i < 2) {k c i : Nat} (hi : i < c) : bitAt (LE β k c) i = β (k + i) := by
  obtain ⟨d, rfl⟩ : ∃ d, c = i + (1 + d) := ⟨c - i - 1, by omega⟩
  have h := LE_shr hβ k i (1 + d)
  unfold bitAt
  rw [h, Nat.and_one_is_mod, LE_add]
  have hb := hβ (k + i)
  simp only [LE, Nat.add_zero, Nat.pow_zero, Nat.mul_one, Nat.zero_add, Nat.pow_one]
  rw [Nat.add_mul_mod_self_right, Nat.mod_eq_of_lt hb]
theorem bitAt_BE (hβ : ∀ i, β i < 2) {k c i : Nat} (hi : i < c) : bitAt (BE β k c) i = β (k + (c - 1 - i)) := by
  obtain ⟨d, rfl⟩ : ∃ d, c = d + 1 + i := ⟨c - i - 1, by omega⟩
  have h := BE_shr hβ k (d + 1) i
  unfold bitAt
  rw [h, Nat.and_one_is_mod, BE]
  have hb := hβ (k + d)
  have e : d + 1 + i - 1 - i = d := by omega
  rw [e, Nat.mul_add_mod, Nat.mod_eq_of_lt hb]
theorem BE_rev : ∀ (c : Nat) (γ : Nat → Nat), BE (fun i => γ (c - 1 - i)) 0 c = LE γ 0 c
  | 0, _ => rfl
  | c + 1, γ => by
    rw [BE]
    have ih := BE_rev c (fun i => γ (i + 1))
    have e : BE (fun i => γ (c + 1 - 1 - i)) 0 c = BE (fun i => γ (c - 1 - i + 1)) 0 c := BE_congr fun i hi => by
      show γ (c + 1 - 1 - (0 + i)) = γ (c - 1 - (0 + i) + 1)
      congr 1; omega
    rw [e, ih, Nat.add_comm c 1, LE_add, show 1 + c - 1 - (0 + c) = 0 by omega]
    have e2 : LE (fun i => γ (i + 1)) 0 c = LE γ (0 + 1) c := LE_congr fun i _ => by show γ (0 + i + 1) = γ (0 + 1 + i); congr 1; omega
    rw [e2]
    simp only [LE, Nat.add_zero, Nat.pow_zero, Nat.mul_one, Nat.zero_add, Nat.pow_one]
    omega
theorem LE_bitAt (v c : Nat) : LE (bitAt v) 0 c = v % 2 ^ c := by
  induction c with
  | zero => simp [LE, Nat.mod_one]
  | succ n ih =>
    rw [LE, ih, Nat.zero_add, bitAt_mod, Nat.pow_succ, Nat.mod_mul, Nat.mul_comm (2 ^ n)]
theorem turnN_lt (v c : Nat) : turnN v c < 2 ^ c := BE_lt (bitAt_lt v) 0 c
theorem turnN_LE (hβ : ∀ i, β i < 2) (k c : Nat) : turnN (LE β k c) c = BE β k c :=
  BE_congr fun i hi => by rw [Nat.zero_add]; exact bitAt_LE hβ hi
theorem turnN_turnN (v c : Nat) : turnN (turnN v c) c = v % 2 ^ c := by
  rw [← LE_bitAt, ← BE_rev]
  exact BE_congr fun i hi => by
    rw [Nat.zero_add]
    show bitAt (BE (bitAt v) 0 c) i = _
    rw [bitAt_BE (bitAt_lt v) hi, Nat.zero_add]
theorem turnN_BE (hβ : ∀ i, β i < 2) (k c : Nat) : turnN (BE β k c) c = LE β k c := by
  rw [← turnN_LE hβ, turnN_turnN, Nat.mod_eq_of_lt (LE_lt hβ _ _)]
theorem LE_turnN (v c : Nat) : turnN v c = LE (fun i => bitAt v (c - 1 - i)) 0 c := by
  have h := turnN_BE (β := fun i => bitAt v (c - 1 - i)) (fun i => bitAt_lt _ _) 0 c
  rw [← h, BE_rev, LE_bitAt]
  unfold turnN
  exact BE_congr fun i hi => by
    rw [Nat.zero_add, bitAt_mod, bitAt_mod]
    obtain ⟨d, rfl⟩ : ∃ d, c = i + (1 + d) := ⟨c - i - 1, by omega⟩
    rw [Nat.pow_add, Nat.mod_mul_right_div_self, Nat.pow_add, Nat.pow_one, Nat.mod_mul_right_mod]
end
end Mine
end

-- part RA
section
open PySem PySem.W PyProof.Rows PySem.Calls
set_option maxRecDepth 100000
namespace Mine
/-! whole numbers: the steps of arithmetic on casts of Nat -/
theorem lit_N (n : Nat) : (@OfNat.ofNat Int n _) = ((n : Nat) : Int) := rfl
theorem two_pow_N (k : Nat) : ((2 : Int) ^ k) = ((2 ^ k : Nat) : Int) := by
  induction k with
  | zero => rfl
  | succ n ih => rw [Int.pow_succ, ih, Nat.pow_succ]; omega
theorem bitOr_N (x y : Nat) : Builtin.bitOr (x : Int) (y : Int) = ((x ||| y : Nat) : Int) := by
  have e : ∀ z : Nat, Builtin.bitNot (Builtin.bitNot (z : Int)) = (z : Int) := fun z => by show -(-(z : Int) - 1) - 1 = (z : Int); omega
  have n : ∀ z : Nat, ¬ 0 ≤ Builtin.bitNot (z : Int) := fun z => by show ¬ 0 ≤ -(z : Int) - 1; omega
  unfold Builtin.bitOr
  rw [bitAnd_nn (n x) (n y), bitNot_bitNot, bitNot_bitNot, bitNot_bitNot, Int.toNat_natCast, Int.toNat_natCast]

theorem bitAnd_N (x y : Nat) : Builtin.bitAnd (x : Int) (y : Int) = ((x &&& y : Nat) : Int) := by
  rw [bitAnd_pp (by omega) (by omega)]; simp
theorem shl_mul (x k : Nat) : (x : Int) * 2 ^ k = ((x <<< k : Nat) : Int) := by
  rw [two_pow_N, Nat.shiftLeft_eq]; push_cast; rfl
theorem shr_fdiv (x k : Nat) : (x : Int).fdiv (2 ^ k) = ((x >>> k : Nat) : Int) := by
  rw [two_pow_N, Nat.shiftRight_eq_div_pow, Int.fdiv_eq_ediv_of_nonneg _ (Int.natCast_nonneg _), ← Int.natCast_ediv]

section
variable {prog : Program} {w : World} {A : Around} {E Q : Value → Shared → Prop} {s : Shared} {a b : Int} {t u : Tok} {x y : Nat}
theorem add_N (ha : a = ((x : Nat) : Int)) (hb : b = ((y : Nat) : Int)) (h : Q (.int ((x + y : Nat) : Int) s.toks) { s with toks := s.toks + 1 }) : wpAny (model prog w) A (binaryOp .Add (.int a t) (.int b u)) Q E s := by
  subst ha hb
  refine add_int ?_
  rw [← Int.natCast_add]; exact h
theorem sub_N (ha : a = ((x : Nat) : Int)) (hb : b = ((y : Nat) : Int)) (hle : y ≤ x) (h : Q (.int ((x - y : Nat) : Int) s.toks) { s with toks := s.toks + 1 }) : wpAny (model prog w) A (binaryOp .Sub (.int a t) (.int b u)) Q E s := by
  subst ha hb
  refine sub_int ?_
  rw [← Int.natCast_sub hle]; exact h
theorem or_N (ha : a = ((x : Nat) : Int)) (hb : b = ((y : Nat) : Int)) (h : Q (.int ((x ||| y : Nat) : Int) s.toks) { s with toks := s.toks + 1 }) : wpAny (model prog w) A (binaryOp .BitOr (.int a t) (.int b u)) Q E s := by
  subst ha hb
  refine or_int ?_
  rw [bitOr_N]; exact h
theorem and_N (ha : a = ((x : Nat) : Int)) (hb : b = ((y : Nat) : Int)) (h : Q (.int ((x &&& y : Nat) : Int) s.toks) { s with toks := s.toks + 1 }) : wpAny (model prog w) A (binaryOp .BitAnd (.int a t) (.int b u)) Q E s := by
  subst ha hb
  refine and_int ?_
  rw [bitAnd_N]; exact h
theorem shl_N (ha : a = ((x : Nat) : Int)) (hb : b = ((y : Nat) : Int)) (hx : x < 18446744073709551616) (hy : y ≤ 1000) (h : Q (.int ((x <<< y : Nat) : Int) s.toks) { s with toks := s.toks + 1 }) : wpAny (model prog w) A (binaryOp .LShift (.int a t) (.int b u)) Q E s := by
  subst ha hb
  refine lshift_int_small (by omega) (by omega) (by rw [Int.natAbs_natCast]; exact hx) ?_
  rw [Int.toNat_natCast, shl_mul]; exact h
theorem shr_N (ha : a = ((x : Nat) : Int)) (hb : b = ((y : Nat) : Int)) (h : Q (.int ((x >>> y : Nat) : Int) s.toks) { s with toks := s.toks + 1 }) : wpAny (model prog w) A (binaryOp .RShift (.int a t) (.int b u)) Q E s := by
  subst ha hb
  refine rshift_int (by omega) ?_
  rw [Int.toNat_natCast, shr_fdiv]; exact h
theorem mul_N (ha : a = ((x : Nat) : Int)) (hb : b = ((y : Nat) : Int)) (hx : x < 18446744073709551616) (hy : y < 18446744073709551616) (h : Q (.int ((x * y : Nat) : Int) s.toks) { s with toks := s.toks + 1 }) : wpAny (model prog w) A (binaryOp .Mult (.int a t) (.int b u)) Q E s := by
  subst ha hb
  refine mul_int ?_ ?_
  · rw [← Int.natCast_mul]; exact h
  · exact IntMulOk.of_le (m := 64) (n := 64) (intBits_le_iff.mpr (by rw [Int.natAbs_natCast]; exact hx)) (intBits_le_iff.mpr (by rw [Int.natAbs_natCast]; exact hy)) (by decide)
theorem div_N (ha : a = ((x : Nat) : Int)) (hb : b = ((y : Nat) : Int)) (hy : 0 < y) (hy2 : y < 1000000) (h : Q (.int ((x / y : Nat) : Int) s.toks) { s with toks := s.toks + 1 }) : wpAny (model prog w) A (binaryOp .FloorDiv (.int a t) (.int b u)) Q E s := by
  subst ha hb
  refine floordiv_int (by omega) ?_ (Or.inl (PyProof.noPylong_small (by omega)))
  rw [Int.fdiv_eq_ediv_of_nonneg _ (by omega), ← Int.natCast_ediv]; exact h
end
end Mine
end

-- part RB
section
open PySem PySem.W PyProof.Rows PySem.Calls
namespace Mine
/-- the dict of a BitsIn or a HighBitsIn -/
abbrev inDict (w : World) (k1 k2 k3 k4 : Tok) (D : List UInt8) (t0 : Tok) (pl : Nat) (t1 : Tok) (held : Nat) (t2 : Tok) (cnt : Nat) (t3 : Tok) : Obj :=
  dictOf [⟨PyData.keyHash w.params (Str.ofString "data"), .str (Str.ofString "data") k1, .bytes D.toArray t0⟩, ⟨PyData.keyHash w.params (Str.ofString "at"), .str (Str.ofString "at") k2, .int ((pl : Nat) : Int) t1⟩,
    ⟨PyData.keyHash w.params (Str.ofString "held"), .str (Str.ofString "held") k3, .int ((held : Nat) : Int) t2⟩, ⟨PyData.keyHash w.params (Str.ofString "count"), .str (Str.ofString "count") k4, .int ((cnt : Nat) : Int) t3⟩] 4
/-- the dict of a BitsOut or a HighBitsOut -/
abbrev outDict (w : World) (k1 k2 k3 : Tok) (M : Addr) (held : Nat) (t2 : Tok) (cnt : Nat) (t3 : Tok) : Obj :=
  dictOf [⟨PyData.keyHash w.params (Str.ofString "made"), .str (Str.ofString "made") k1, .ref M⟩,
    ⟨PyData.keyHash w.params (Str.ofString "held"), .str (Str.ofString "held") k2, .int ((held : Nat) : Int) t2⟩, ⟨PyData.keyHash w.params (Str.ofString "count"), .str (Str.ofString "count") k3, .int ((cnt : Nat) : Int) t3⟩] 3
abbrev baObj (b : List UInt8) : Obj := { cls := .type "bytearray", data := .bytearray b.toArray 0 }
theorem low_val (v c : Nat) : v &&& (1 <<< c - 1) = v % 2 ^ c := by
  rw [Nat.shiftLeft_eq, Nat.one_mul]; exact Nat.and_two_pow_sub_one_eq_mod v c
theorem one_shl_pos (c : Nat) : 1 ≤ 1 <<< c := by
  rw [Nat.shiftLeft_eq, Nat.one_mul]; exact Nat.one_le_two_pow
section
variable {prog : Program} {w : World} {A : Around} {E Q : Value → Shared → Prop} {s : Shared} {a : Int} {t u : Tok} {i : Nat} {value slice : PySem.Expr}
theorem bitem_N {x : List UInt8} (ha : a = ((i : Nat) : Int)) (hi : i < x.length) (hfit : x.length ≤ 1000) (h : Q (.int (((x.getD i 0).toNat : Nat) : Int) s.toks) { s with toks := s.toks + 1 })
    (hs : subscripted slice false (.bytes x.toArray t) (.int a u) = operate [.bytes x.toArray t, .int a u] (getItem (.bytes x.toArray t) (.int a u)) := by with_unfolding_all rfl)
    (ht : ∀ r, letTemporaryGo value (.bytes x.toArray t) r = pure () := by intro _; with_unfolding_all rfl) :
    wpAny (model prog w) A (subscriptTail value slice (.bytes x.toArray t) (.int a u)) Q E s := by
  subst ha
  exact KBy.item_N (by omega) (by omega) (by omega) (by rw [Int.toNat_natCast]; exact h) hs ht
end
/-- what a BitsIn or HighBitsIn holds: n octets, pl of them begun, cnt bits held; k bits are taken -/
structure InAt (n k pl cnt : Nat) : Prop where
  le : pl ≤ n
  cnt7 : cnt ≤ 7
  at_ : k + cnt = 8 * pl
end Mine
end

-- part T2
section
open PySem PySem.W PyProof.Rows
set_option maxRecDepth 100000
namespace Mine

section
variable {w : World} {p : Program} {loose : List Str} {mean : ExcName → Option Value} {mg mb : Str → Option Value} {dp un : Nat} {gd : Option (List Code)} {cn : Str} {cs : Scope} {a : Addr} {ccd : Value} {cl : List (Str × Addr)} {outer : List Env} {A₀ : Around} {base h₀ : Heap} {L : Addr} {m : Str → Option Value} {s : Shared} {Q E : Value → Shared → Prop} {news : List (Addr × Obj)}

theorem draw_end {P C : Addr} {i' many n k : Nat} {ti tr t : Tok} {z e : Int} {vs : List Value} {rest : List (Addr × Obj)} {h' : Heap} {tk' i : Nat} {S : Shared → Nat → Heap → Shared}
    (hret : ∀ (d i' r' : Nat) t ti' tr' h' tk', d < many → i' ≤ i + 1 → Fr h₀ L h' m →
      News h₀ L h' ((P, listOf #[.ref C, .int ((i' : Nat) : Int) ti', .int ((r' : Nat) : Int) tr'] n) :: (C, listOf vs.toArray k) :: rest) → Q (.int ((d : Nat) : Int) t) (S s tk' h'))
    (he : 0 ≤ e) (hm : 1 ≤ many) (F : Fr h₀ L h' m) (N : News h₀ L h' ((P, listOf #[.ref C, .int z ti, .int (e.fdiv (many : Int)) tr] n) :: (C, listOf vs.toArray k) :: rest))
    (hz : z = (i' : Int)) (hi : i' ≤ i + 1) : Q (.int (e.fmod (many : Int)) t) (S s tk' h') := by
  obtain ⟨x, rfl⟩ := Int.eq_ofNat_of_zero_le he
  subst hz
  rw [Int.fdiv_eq_ediv_of_nonneg _ (by omega), ← Int.natCast_ediv] at N
  rw [Int.fmod_eq_emod_of_nonneg _ (by omega), ← Int.natCast_emod]
  exact hret _ _ _ _ _ _ _ _ (Nat.mod_lt _ (by omega)) hi F N

set_option maxHeartbeats 4000000 in
theorem draw_c {P C : Addr} {i r many n k : Nat} {ti tr tm : Tok} {vs : List Value} {ns : List Int} {rest : List (Addr × Obj)}
    (B : Below A₀ base outer h₀) (F : Fr h₀ L s.heap m) (X : (Pre.hd.heap_1 w.params).In h₀) (T : Top p loose mean mg mb h₀) (hk : cs.kind = .function) (hroom : dp + 10 < recursionLimit) (hu : un + 80 < cLine)
    (N : News h₀ L s.heap ((P, listOf #[.ref C, .int ((i : Nat) : Int) ti, .int ((r : Nat) : Int) tr] n) :: (C, listOf vs.toArray k) :: rest))
    (hPC : @Ne Nat C P) (hoff : OwnOff rest [P]) (hi : IntsAre vs ns) (hlen : 2 ≤ ns.length) (hlen2 : ns.length ≤ 42) (hbits : ∀ z ∈ ns, Builtin.Int.intBits z ≤ 1048576)
    (hm : 1 ≤ many) (hm2 : many ≤ 1048576) (hib : i ≤ 1000)
    (hret : ∀ (d i' r' : Nat) t ti' tr' h' tk', d < many → i' ≤ i + 1 → Fr h₀ L h' m →
      News h₀ L h' ((P, listOf #[.ref C, .int ((i' : Nat) : Int) ti', .int ((r' : Nat) : Int) tr'] n) :: (C, listOf vs.toArray k) :: rest) → Q (.int ((d : Nat) : Int) t) { s with heap := h', toks := tk' }) :
    wpAny (model PySem.Challenge.pw_og0154_01 w) (ktrTop dp un gd cn cs L a ccd cl outer) (call (.ref 286) [.ref P, .int ((many : Nat) : Int) tm]) Q E s := by
  w_on
  refine wpAny_call ?_
  k_dflt cell_enter
  repeat' ((fail_if_success (with_reducible show ite _ _ _)); (first | (k_unfold; (try dsimp only)) | (k_end; wrow_close) | walk1 | (dsimp only; walk1) | (leave1; walk_say "STEP leave1"; try dsimp only) | fail "no step"))
  split
  · rename_i hr0
    have hr : r = 0 := by simpa using hr0
    subst hr
    have hfit : (ns.length : Int) < 2 ^ 63 := by omega
    repeat' ((first | (k_unfold; (try dsimp only)) | (k_end; wrow_close) | walk1 | (dsimp only; walk1) | (leave1; walk_say "STEP leave1"; try dsimp only) | fail "no step"))
    all_goals
      have hq : 0 ≤ 7919 * ((i : Int) + 1) * ((i : Int) + 1) := Int.mul_nonneg (by omega) (by omega)
      refine draw_end (S := fun s tk' h' => { s with heap := h', toks := tk' }) (i' := i + 1) (i := i) hret ?_ hm (by assumption) (by assumption) (by omega) (by omega)
      omega
  · repeat' ((first | (k_unfold; (try dsimp only)) | (k_end; wrow_close) | walk1 | (dsimp only; walk1) | (leave1; walk_say "STEP leave1"; try dsimp only) | fail "no step"))
    exact draw_end (S := fun s tk' h' => { s with heap := h', toks := tk' }) (i' := i) (i := i) hret (by omega) hm (by assumption) (by assumption) (by omega) (by omega)
end
end Mine
end

-- part XT
section
open PySem PySem.W PyProof.Rows PySem.Calls
set_option maxRecDepth 100000
set_option maxHeartbeats 4000000
namespace Mine
section
variable {prog : Program} {w : World} {A₀ A : Around} {s : Shared} {base h₀ : Heap} {L : Addr} {m : Str → Option Value} {news : List (Addr × Obj)} {K : Frag} {p : Program} {loose : List Str} {mean : ExcName → Option Value} {mg mb : Str → Option Value}
    {R : Result → Shared → Prop} {name qual : Str} {params : Arguments} {body : List Stmt} {scope : Scope} {dV kV doc pm cdv ct oc : Value} {an od : Option Addr} {osl : Array (Option Value)} {f : Addr} {args : Args} {binds : List (Str × Value)} {env : Env}

theorem frame_mem {b : Addr} (hf : env.frame = some L) (hm : b ∈ [env].filterMap (·.frame)) : b = L := by
  obtain ⟨e', he, hf'⟩ := List.mem_filterMap.mp hm
  rcases List.mem_singleton.mp he with rfl
  exact (Option.some.inj (hf.symm.trans hf')).symm

theorem enterX (B : Below A₀ base [] h₀) (F : Fr h₀ L s.heap m) (N : News h₀ L s.heap news) (hA : A.frames = some [env]) (hf : env.frame = some L) (hke : env.scope.kind = .function) :
    ∃ oL es ep, (hideAll s.heap (news.map (·.1))).get? L = some oL ∧ oL.data = .dict es ep ∧ (∀ h', h'.get? L = some oL → Heap.Ns h' L m) ∧ (∀ (sl : Array (Option Value)) h', h'.get? L = some { oL with slots := sl } → Heap.Ns h' L m) ∧
      h₀.StaysIn (hideAll s.heap (news.map (·.1))) ∧ Below A base [env] (hideAll s.heap (news.map (·.1))) := by
  have nm : ∀ b o, h₀.get? b = some o → b ∉ news.map (·.1) := fun b o e q => by
    obtain ⟨p, hp, rfl⟩ := List.mem_map.mp q
    rw [(N p hp).2.2] at e; cases e
  have st : h₀.StaysIn (hideAll s.heap (news.map (·.1))) := fun b o e => hideAll_get _ (F.keep b o e) (nm b o e)
  obtain ⟨oL, es, ep, hL, hLd, hLk, hLf⟩ := F.ns
  have nL : L ∉ news.map (·.1) := fun q => by
    obtain ⟨p, hp, e⟩ := List.mem_map.mp q
    exact (N p hp).2.1 e
  have hLg := hideAll_get (news.map (·.1)) hL nL
  have B₁ := pushX B F hf hke
  exact ⟨oL, es, ep, hLg, hLd, fun h' e => ⟨oL, es, ep, e, hLd, hLk, hLf⟩, fun sl h' e => ⟨_, es, ep, e, hLd, hLk, hLf⟩, st, ⟨hA, fun b o e => st b o (B.stays b o e), funFrames_hideAll B₁.frames fun env' he b hb hf' => by
    rcases List.mem_singleton.mp he with rfl
    exact nL ((Option.some.inj (hf.symm.trans hf') : L = b) ▸ hb)⟩⟩

theorem code_defSX (B : Below A₀ base [] h₀) (F : Fr h₀ L s.heap m) (X₀ : K.In h₀) (N : News h₀ L s.heap news) (T : Top p loose mean mg mb h₀) (hA : A.frames = some [env]) (hf : env.frame = some L) (hke : env.scope.kind = .function)
    (ho : K.lookup f = some ⟨oc, od, .func (fnOf name qual params body scope dV kV doc pm an cdv ct), osl⟩) (hcd : codeIn K cdv qual = true) (hroom : A.depth < recursionLimit)
    (hbind : BindsTo s (fnOf name qual params body scope dV kV doc pm an cdv ct) args binds) (hloc : ∀ y ∈ binds, scope.names.lookup y.1 = some .local)
    (h : ∀ g L' h₁, Fr h₀ L g m → Fr g L' h₁ (fun y => binds.reverse.lookup y) → News g L' h₁ news → Below A base [env] g → K.In g → Top p loose mean mg mb g → KtsDicts ([env].filterMap (·.frame)) g →
      wpAny (model prog w) (A.deeper (envOf qual scope L' f cdv)) (execs body (envOf qual scope L' f cdv))
        (fun fl s' => LeaveS0 ([env].filterMap (·.frame)) h₀ L m g R (match fl with | .ret v => v | _ => .none) s')
        (fun e s' => wpAny (model prog w) (A.deeper (envOf qual scope L' f cdv)) (leaving (envOf qual scope L' f cdv) e) (fun _ s'' => R (.error e) s'') (fun e' s'' => R (.error e') s'') s')
        { s with heap := h₁, toks := s.toks + binds.length })
    (hco : scope.isCoroutine = false) (hgen : scope.isGenerator = false) (hk : scope.kind = .function)
    (hcell : ∀ x ∈ scope.names, x.2 ≠ .cell) : codeAny (model prog w) A (.call (.ref f) args) R s := by
  have X := X₀.keeps F.keep
  refine codeAny_call_def (fd := fnOf name qual params body scope dV kV doc pm an cdv ct) (body := body) (binds := binds) hroom (X _ _ ho) rfl (T.nolimit.keeps F.keep) (codeRec_of X hcd) rfl hbind hcell hloc (fun h₁ hns hk₁ => ?_) hco hgen hk
  obtain ⟨oL, es, ep, hLg, hLd, hN, hNs, st, B₂⟩ := enterX B F N hA hf hke
  refine wpAny_mono (h _ s.heap.objs.size h₁ ⟨hN _ hLg, st, F.above⟩ ⟨hns, fun b o e => hk₁ b o (of_hideAll _ e), Nat.le_of_eq (hideAll_size _ _)⟩
    (fun p hp => ⟨hk₁ _ _ (N p hp).1, Nat.ne_of_lt (Heap.lt_size (N p hp).1), hideAll_none _ (List.mem_map_of_mem hp)⟩) B₂ (X₀.keeps st) (T.keeps st) (fun b hb => by
      rcases frame_mem hf hb with rfl
      exact ⟨oL, es, ep, hLg, hLd⟩)) (fun fl s' hl => ?_) fun _ _ y => y
  obtain ⟨g', L', m', news', T', F', N', k⟩ := hl
  have nL₀ : h₀.get? L = none := kts_self F
  obtain ⟨sl, hs⟩ := T'.up hLg
  refine k ⟨hNs sl _ (F'.keep _ _ hs), fun b o e => F'.keep b o (T'.other b o (st b o e) (fun q => by
    have z := frame_mem hf q
    rw [z, nL₀] at e
    cases e)), F.above⟩ fun p hp => ⟨(N' p hp).1, fun q => ?_, ?_⟩
  · have := (N' p hp).2.2; rw [q, hs] at this; cases this
  · cases q : h₀.get? p.1 with
    | none => rfl
    | some o =>
      obtain ⟨sl', hs'⟩ := T'.up (st _ _ q)
      have := (N' p hp).2.2
      rw [hs'] at this
      cases this
end
end Mine
end

-- part XB
section
open PySem PySem.W PyProof.Rows PySem.Calls
set_option maxRecDepth 100000
set_option maxHeartbeats 4000000
namespace Mine
theorem ba_no_bytes : typeLookup (.type "bytearray") "__bytes__" = pure none := by rw [typeLookup_type, builtinLookup_eq_fast]; kernel_rfl
theorem ba_no_index : typeLookup (.type "bytearray") "__index__" = pure none := by rw [typeLookup_type, builtinLookup_eq_fast]; kernel_rfl
theorem ba_buffer : typeLookup (.type "bytearray") "__buffer__" = pure (some (.builtin "bytearray.__buffer__")) := by rw [typeLookup_type, builtinLookup_eq_fast]; kernel_rfl
theorem buffer_drop : ("bytearray.__buffer__".dropRight ("__buffer__".length + 1)) = "bytearray" := by decide +kernel
section
variable {prog : Program} {w : World} {A : Around} {E : Value → Shared → Prop} {s : Shared} {a : Addr} {b : Array UInt8}
theorem buffer_ba {M : Model} {ni : String} {Q : Option (Array UInt8) → Shared → Prop} (ho : s.heap.get? a = some (baO b)) (h : Q (some b) s) : wpAny M A (Builtin.Bytes.buffer? ni (.ref a) true) Q E s := by
  have hT : s.TypeIs (.ref a) "bytearray" := ⟨_, ho, rfl⟩
  unfold Builtin.Bytes.buffer?
  refine wpAny_bind (wpAny_specialOf hT ba_buffer ?_)
  refine wpAny_bind (wpAny_bind (wpAny_specialOf hT ba_buffer ?_))
  dsimp only
  rw [if_neg (by decide +kernel), buffer_drop]
  refine wpAny_isInstance hT sub_ba_self ?_
  rw [if_neg (by decide)]
  refine wpAny_bind (wpAny_specialOf hT ba_buffer ?_)
  show wpAny _ _ (Builtin.Bytes.ownRelease (.ref a) >>= _) _ _ _
  refine wpAny_bind (ownRelease_ba hT ?_)
  rw [if_neg (by decide)]
  refine wpAny_bind ?_
  unfold Builtin.Bytes.payload Builtin.Bytes.payload?
  exact wpAny_bind (wpAny_bind (wpAny_load ho (wpAny_pure (wpAny_pure (wpAny_pure h)))))

theorem new_bytes_ba {Q : Value → Shared → Prop} (ho : s.heap.get? a = some (baO b)) (hz : b.size ≤ 1000) (hQ : ∀ t, Q (.bytes b t) { s with toks := s.toks + 1 }) :
    codeAny (model prog w) A (.call (.builtin "bytes.__new__") ⟨[.type "bytes", .ref a], []⟩) (wants Q E) s := by
  have hT : s.TypeIs (.ref a) "bytearray" := ⟨_, ho, rfl⟩
  refine codeAny_call_builtin PySem.F.bm_plain PySem.F.bm_entry (wpAny_of_eq (PySem.F.bm_newCall _) ?_)
  unfold Builtin.«bytes.__new__»
  refine wpAny_bind (wpAny_of_eq (a := true) rfl ?_)
  rw [if_neg (by decide)]
  refine wpAny_bind (wpAny_of_eq PySem.F.bm_sub ?_)
  rw [if_neg (by decide)]
  refine wpAny_bind (wpAny_of_eq (PySem.F.bm_bind _) ?_)
  refine wpAny_bind (wpAny_pure (wpAny_bind (wpAny_pure ?_)))
  dsimp only
  rw [if_neg (by decide)]
  refine wpAny_bind (wpAny_specialOf hT ba_no_bytes ?_)
  dsimp only
  refine wpAny_bind (wpAny_bind ?_)
  show wpAny _ _ (load a >>= _) _ _ _
  refine wpAny_bind (wpAny_load ho (wpAny_pure (wpAny_pure ?_)))
  rw [if_neg (by decide)]
  refine wpAny_bind (wpAny_specialOf hT ba_no_index ?_)
  rw [if_pos (by rfl)]
  show wpAny _ _ (Builtin.Bytes.buffer? "bytes.__new__" (.ref a) true >>= _) _ _ _
  refine wpAny_bind (buffer_ba ho ?_)
  dsimp only
  refine wpAny_bind (wpAny_rule (wpAny_bind (wpAny_mkBytes ?_ (by rw [sizeLine_eq]; omega))))
  exact wpAny_pure (hQ _)
theorem bytes_ba {Q : Value → Shared → Prop} (ho : s.heap.get? a = some (baO b)) (hz : b.size ≤ 1000) (hQ : ∀ t, Q (.bytes b t) { s with toks := s.toks + 1 }) : wpAny (model prog w) A (call (.type "bytes") [.ref a]) Q E s := by
  refine callType_codes (Q₁ := fun obj s₁ => s₁.TypeIs obj "bytes" ∧ Q obj s₁) PySem.F.bm_called (PySem.F.bm_typeCall _) PySem.F.entry_object_init
    (new_bytes_ba ho hz fun t => ⟨PySem.W.typeIs_bytes _ _ _, hQ t⟩) fun obj s₁ h₁ => ?_
  exact ⟨h₁.1, PySem.F.args_object_init_2 obj _, object_init_meets PySem.F.bm_called.init.lookup PySem.F.bm_called.made (by decide) prog w A.in1 _ s₁ ⟨h₁.1, rfl, h₁.2⟩⟩
theorem args_ba_len (v : Value) : argsOk "bytearray.__len__" ⟨[v], []⟩ := by unfold argsOk; kernel_rfl
theorem len_ba {Q : Value → Shared → Prop} (ho : s.heap.get? a = some (baO b)) (hz : b.size ≤ 1000) (hQ : ∀ t k, Q (.int ((b.size : Nat) : Int) t) { s with toks := k }) : wpAny (model prog w) A (call (.builtin "len") [.ref a]) Q E s := by
  have hT : s.TypeIs (.ref a) "bytearray" := ⟨_, ho, rfl⟩
  refine Calls.call_function_entry kind_len plain_len entry_len (args_len1 _) ?_
  unfold Builtin.«len»
  refine wpAny_bind (m := oneArg "len" _) (wpAny_pure ?_)
  refine wpAny_bind (m := callSpecial? (.ref a) (Str.ofString "__len__")) (wpAny_callSpecial?_slot (name := Str.ofString "__len__") hT slot_ba_len
    (wpAny_call_entry slot_ba_len hT entry_ba_len ?_ (args_ba_len _)))
  unfold Builtin.«bytearray.__len__»
  refine wpAny_bind (m := slotArgs "__len__" 0 _) (wpAny_of_eq (a := (.ref a, [])) rfl ?_)
  refine wpAny_bind (m := Builtin.Bytes.payload (.ref a)) ?_
  unfold Builtin.Bytes.payload Builtin.Bytes.payload?
  refine wpAny_bind (wpAny_bind (wpAny_load ho (wpAny_pure (wpAny_pure ?_))))
  refine wpAny_bind (wpAny_mkInt (wpAny_pure ⟨_, rfl, ?_⟩))
  refine wpAny_bind (wpAny_holding (wpAny_pure ?_))
  refine wpAny_bind (wpAny_letGo ?_)
  show wpAny _ _ (if ((b.size : Nat) : Int) < 0 then _ else _) _ _ _
  rw [if_neg (by omega)]
  show wpAny _ _ (if ((b.size : Nat) : Int) ≥ 2 ^ 63 then _ else _) _ _ _
  rw [if_neg (by omega)]
  exact wpAny_bind (wpAny_mkInt (wpAny_pure ⟨_, rfl, hQ _ _⟩))
end
end Mine
end

-- part L0
section
open PySem PySem.W PyProof.Rows PySem.Calls
set_option maxRecDepth 100000
set_option maxHeartbeats 4000000
namespace Mine
theorem call_cellsF {prog : Program} {w : World} {A : Around} {Q : Flow → Shared → Prop} {s : Shared} {name : Str} {params : Arguments} {body : List PySem.Stmt} {scope : Scope}
    {pm cd doc : Value} {a : Addr} {o : Obj} {args : List Value} {binds : List (Str × Value)}
    (hroom : A.depth < recursionLimit) (ho : s.heap.get? a = some o) (hdata : o.data = .func (Calls.docDef name params body scope pm cd doc)) (hlim : s.heap.NoLimit) (hcd : s.heap.CodeRec cd name)
    (hbind : bindArgs (Calls.docDef name params body scope pm cd doc) ⟨args, []⟩ = pure binds)
    (hkind : ∀ x ∈ binds, scope.names.lookup x.1 = some .local ∨ (scope.names.lookup x.1 = some .cell ∧ ((cellsFrom (s.heap.objs.size + 1) scope.names []).lookup x.1).isSome = true))
    (hnd : ((cellsFrom 0 scope.names []).map (·.1)).Nodup)
    (h : ∀ h₁ tk cells, Fr s.heap s.heap.objs.size h₁ (bindL (envOfC name scope s.heap.objs.size a cd).kindOf binds fun _ => none) → News s.heap s.heap.objs.size h₁ cells →
      CellsAre (bindC (envOfC name scope s.heap.objs.size a cd).kindOf binds fun _ => none) (cellsFrom (s.heap.objs.size + 1) scope.names []) cells →
      wpF (model prog w) (A.deeper (envOfC name scope s.heap.objs.size a cd)) (execs body (envOfC name scope s.heap.objs.size a cd))
        (fun f s' => Q (.ret (match f with | .ret v => v | _ => .none)) s') { s with heap := h₁, toks := tk })
    (hco : scope.isCoroutine = false := by rfl) (hgen : scope.isGenerator = false := by rfl) (hk : scope.kind = .function := by rfl) :
    codeF (model prog w) A (.call (.ref a) ⟨args, []⟩) Q s := by
  refine callFunctionF (fd := Calls.docDef name params body scope pm cd doc) (body := body) hroom ho hdata hco hgen rfl hcd ?_
  rw [hbind]
  refine wpAny_pure (wpAny_newFunctionEnv_cells hk hkind fun env he s' x => ?_)
  subst he
  refine ⟨hlim.keeps x.toInCall.keep, funcF ?_⟩
  obtain ⟨h₁, tk, rfl, _⟩ := x.done
  obtain ⟨cells, NC, Y⟩ := Cl.news (h₀ := s.heap) (Nat.le_refl _) fun n c hm => ⟨x.cell n c (lookup_of_mem_nodup (cellsFrom_names scope.names 0 (s.heap.objs.size + 1) [] [] rfl ▸ hnd) hm), x.above n c hm⟩
  exact h h₁ tk cells ⟨x.toInCall.ns, x.toInCall.keep, x.toInCall.fresh⟩ NC Y
end Mine
end

section
open PySem PySem.W PyProof.Rows
set_option maxRecDepth 100000
namespace Mine

local macro_rules | `(tactic| walk_at "binaryOp Add int int") => `(tactic| (k_here; (with_reducible refine' add_N ?na ?nb ?_); (case na => first | with_reducible exact rfl | exact lit_N _ | exact rfl); (case nb => first | with_reducible exact rfl | exact lit_N _ | exact rfl)))
local macro_rules | `(tactic| walk_at "binaryOp Sub int int") => `(tactic| (k_here; (with_reducible refine' sub_N ?na ?nb ?nc ?_); (case na => first | with_reducible exact rfl | exact lit_N _ | exact rfl); (case nb => first | with_reducible exact rfl | exact lit_N _ | exact rfl); (case nc => first | omega | (show _ ≤ 8; omega) | (exact Nat.le_trans (Nat.sub_le _ _) (by decide)) | decide | assumption | (k_extra "side"))))
local macro_rules | `(tactic| walk_at "binaryOp BitOr int int") => `(tactic| (k_here; (with_reducible refine' or_N ?na ?nb ?_); (case na => first | with_reducible exact rfl | exact lit_N _ | exact rfl); (case nb => first | with_reducible exact rfl | exact lit_N _ | exact rfl)))
local macro_rules | `(tactic| walk_at "binaryOp BitAnd int int") => `(tactic| (k_here; (with_reducible refine' and_N ?na ?nb ?_); (case na => first | with_reducible exact rfl | exact lit_N _ | exact rfl); (case nb => first | with_reducible exact rfl | exact lit_N _ | exact rfl)))
local macro_rules | `(tactic| walk_at "binaryOp LShift int int") => `(tactic| (k_here; (with_reducible refine' shl_N ?na ?nb ?nc ?nd ?_); (case na => first | with_reducible exact rfl | exact lit_N _ | exact rfl); (case nb => first | with_reducible exact rfl | exact lit_N _ | exact rfl); (case nc => first | omega | (show _ ≤ 8; omega) | (exact Nat.le_trans (Nat.sub_le _ _) (by decide)) | decide | assumption | (k_extra "side")); (case nd => first | omega | (show _ ≤ 8; omega) | (exact Nat.le_trans (Nat.sub_le _ _) (by decide)) | decide | assumption | (k_extra "side"))))
local macro_rules | `(tactic| walk_at "binaryOp RShift int int") => `(tactic| (k_here; (with_reducible refine' shr_N ?na ?nb ?_); (case na => first | with_reducible exact rfl | exact lit_N _ | exact rfl); (case nb => first | with_reducible exact rfl | exact lit_N _ | exact rfl)))
local macro_rules | `(tactic| walk_at "binaryOp Mult int int") => `(tactic| (k_here; (with_reducible refine' mul_N ?na ?nb ?nc ?nd ?_); (case na => first | with_reducible exact rfl | exact lit_N _ | exact rfl); (case nb => first | with_reducible exact rfl | exact lit_N _ | exact rfl); (case nc => first | omega | (show _ ≤ 8; omega) | (exact Nat.le_trans (Nat.sub_le _ _) (by decide)) | decide | assumption | (k_extra "side")); (case nd => first | omega | (show _ ≤ 8; omega) | (exact Nat.le_trans (Nat.sub_le _ _) (by decide)) | decide | assumption | (k_extra "side"))))
local macro_rules | `(tactic| walk_at "binaryOp FloorDiv int int") => `(tactic| (k_here; (with_reducible refine' div_N ?na ?nb ?nc ?nd ?_); (case na => first | with_reducible exact rfl | exact lit_N _ | exact rfl); (case nb => first | with_reducible exact rfl | exact lit_N _ | exact rfl); (case nc => first | omega | (show _ ≤ 8; omega) | (exact Nat.le_trans (Nat.sub_le _ _) (by decide)) | decide | assumption | (k_extra "side")); (case nd => first | omega | (show _ ≤ 8; omega) | (exact Nat.le_trans (Nat.sub_le _ _) (by decide)) | decide | assumption | (k_extra "side"))))
local macro_rules | `(tactic| walk_at "subscriptTail") => `(tactic| (k_here; (with_reducible show wpAny _ _ (subscriptTail _ _ (Value.bytes (List.toArray _) _) (Value.int _ _)) _ _ _); k_dflt (refine' bitem_N ?na ?nb ?nc ?_ ?hs ?ht; (case na => first | with_reducible exact rfl | exact lit_N _ | exact rfl); (case nb => first | omega | (show _ ≤ 8; omega) | (exact Nat.le_trans (Nat.sub_le _ _) (by decide)) | decide | assumption | (k_extra "side")); (case nc => first | omega | (show _ ≤ 8; omega) | (exact Nat.le_trans (Nat.sub_le _ _) (by decide)) | decide | assumption | (k_extra "side")); (case hs => with_unfolding_all rfl); (case ht => intro _; with_unfolding_all rfl))))

-- part T1
section
section
variable {w : World} {p : Program} {loose : List Str} {mean : ExcName → Option Value} {mg mb : Str → Option Value} {dp un : Nat} {gd : Option (List Code)} {cn : Str} {cs : Scope} {a : Addr} {ccd : Value} {cl : List (Str × Addr)} {outer : List Env} {A₀ : Around} {base h₀ : Heap} {L : Addr} {m : Str → Option Value} {s : Shared} {Q E : Value → Shared → Prop} {news : List (Addr × Obj)}

set_option maxHeartbeats 4000000 in
theorem turned_c {v c : Nat} {t1 t2 : Tok} (B : Below A₀ base outer h₀) (F : Fr h₀ L s.heap m) (X : (Pre.hd.heap_1 w.params).In h₀) (N : News h₀ L s.heap news) (T : Top p loose mean mg mb h₀) (hk : cs.kind = .function) (hroom : dp + 10 < recursionLimit) (hu : un + 80 < cLine) (hc : c ≤ 20)
    (hret : ∀ t h' tk', Fr h₀ L h' m → News h₀ L h' news → Q (.int ((turnN v c : Nat) : Int) t) { s with heap := h', toks := tk' }) :
    wpAny (model PySem.Challenge.pw_og0154_01 w) (ktrTop dp un gd cn cs L a ccd cl outer) (call (.ref 75) [.int ((v : Nat) : Int) t1, .int ((c : Nat) : Int) t2]) Q E s := by
  w_on
  refine wpAny_call ?_
  k_dflt cell_enter
  repeat' ((fail_if_success (with_reducible show wpAny _ _ (pyIter _) _ _ _)); (first | (k_unfold; (try dsimp only)) | (k_end; wrow_close) | walk1 | (dsimp only; walk1) | (leave1; walk_say "STEP leave1"; try dsimp only) | fail "no step"))
  rename Fr _ _ _ _ => lF
  rename News _ _ _ _ => lN
  rename IsRange _ _ _ _ _ _ _ _ => rg
  refine kst_range (σ := Nat × Tok) (fun _ => news) (fun c => [(Str.ofString "turned", .int ((c.1 : Nat) : Int) c.2)]) (fun _ => True) [] (fun pre c => c.1 = turnN v pre.length) (0, _) (by rfl) rg (small_one (by omega) (by omega) (by omega) (by omega)) (rangeSize_nat _ _) lF lN trivial (List.forall_mem_singleton.mpr rfl) rfl ?_ ?_
  · rintro ⟨tn, tt⟩ pre k t u h tk own hk1 hlt hoff - hP Fk Nk
    dsimp only at hP
    subst hk1
    have b1 := turnN_lt v pre.length
    have b2 : 2 ^ pre.length ≤ 2 ^ 20 := Nat.pow_le_pow_right (by decide) (by omega)
    have e0 : (0 : Int) + (pre.length : Int) = ((pre.length : Nat) : Int) := by omega
    rw [e0] at Fk
    simp only [kstB, List.contains_nil, Bool.false_eq_true, if_false] at Fk
    (try k_unmd); k_fold
    repeat' ((first | (k_unfold; (try dsimp only)) | (k_end; wrow_close) | walk1 | (dsimp only; walk1) | (leave1; walk_say "STEP leave1"; try dsimp only) | fail "no step"))
    rename News _ _ _ _ => nE
    refine kst_end (tn <<< 1 ||| (v >>> pre.length &&& 1), _) (by assumption) nE (fun p hp => List.mem_append_left _ hp) (fun p hp => List.mem_append_right _ hp) rfl trivial (by kst_all) (by kst_same) ?_
    show _ = turnN v (pre ++ [_]).length
    rw [List.length_append]; exact ((congrArg (fun z => z <<< 1 ||| (v >>> pre.length &&& 1)) hP).trans (turnN_succ v pre.length).symm)
  · rintro ⟨tn, tt⟩ u h tk - hP Fk Nk
    dsimp only at hP Fk
    rw [rangeKs_length] at hP
    (try k_unmd); (try k_fold)
    repeat' ((first | (k_unfold; (try dsimp only)) | (k_end; wrow_close) | walk1 | (dsimp only; walk1) | (leave1; walk_say "STEP leave1"; try dsimp only) | fail "no step"))
    subst hP; exact hret _ _ _ (by assumption) (by assumption)
end
end

-- part T3
section
section
variable {w : World} {p : Program} {loose : List Str} {mean : ExcName → Option Value} {mg mb : Str → Option Value} {dp un : Nat} {gd : Option (List Code)} {cn : Str} {cs : Scope} {a : Addr} {ccd : Value} {cl : List (Str × Addr)} {outer : List Env} {A₀ : Around} {base h₀ : Heap} {L : Addr} {m : Str → Option Value} {s : Shared} {Q E : Value → Shared → Prop} {news : List (Addr × Obj)}

set_option maxHeartbeats 4000000 in
theorem low_c {v c : Nat} {t1 t2 : Tok} (B : Below A₀ base outer h₀) (F : Fr h₀ L s.heap m) (X : (Pre.hd.heap_1 w.params).In h₀) (N : News h₀ L s.heap news) (T : Top p loose mean mg mb h₀) (hk : cs.kind = .function) (hroom : dp + 10 < recursionLimit) (hu : un + 80 < cLine) (hc : c ≤ 100)
    (hret : ∀ t h' tk', Fr h₀ L h' m → News h₀ L h' news → Q (.int ((v % 2 ^ c : Nat) : Int) t) { s with heap := h', toks := tk' }) :
    wpAny (model PySem.Challenge.pw_og0154_01 w) (ktrTop dp un gd cn cs L a ccd cl outer) (call (.ref 68) [.int ((v : Nat) : Int) t1, .int ((c : Nat) : Int) t2]) Q E s := by
  w_on
  have h1 := one_shl_pos c
  rw [← low_val] at hret
  refine wpAny_call ?_
  k_dflt cell_enter
  repeat' ((first | (k_unfold; (try dsimp only)) | (k_end; wrow_close) | walk1 | (dsimp only; walk1) | (leave1; walk_say "STEP leave1"; try dsimp only) | fail "no step"))
  exact hret _ _ _ (by assumption) (by assumption)
set_option maxHeartbeats 4000000 in
theorem fit_c {v c : Nat} {t1 t2 : Tok} (B : Below A₀ base outer h₀) (F : Fr h₀ L s.heap m) (X : (Pre.hd.heap_1 w.params).In h₀) (N : News h₀ L s.heap news) (T : Top p loose mean mg mb h₀) (hk : cs.kind = .function) (hroom : dp + 10 < recursionLimit) (hu : un + 80 < cLine) (hc : c ≤ 100) (hv : v < 2 ^ c)
    (hret : ∀ h' tk', Fr h₀ L h' m → News h₀ L h' news → Q .none { s with heap := h', toks := tk' }) :
    wpAny (model PySem.Challenge.pw_og0154_01 w) (ktrTop dp un gd cn cs L a ccd cl outer) (call (.ref 82) [.int ((v : Nat) : Int) t1, .int ((c : Nat) : Int) t2]) Q E s := by
  w_on
  have h0 : v >>> c = 0 := by rw [Nat.shiftRight_eq_div_pow]; exact Nat.div_eq_of_lt hv
  refine wpAny_call ?_
  k_dflt cell_enter
  repeat' ((first | (k_unfold; (try dsimp only)) | (k_end; wrow_close) | walk1 | (dsimp only; walk1) | (leave1; walk_say "STEP leave1"; try dsimp only) | fail "no step"))
  · exact absurd (by omega : ((v >>> c : Nat) : Int) = 0) (by assumption)
  · exact hret _ _ (by assumption) (by assumption)
set_option maxHeartbeats 4000000 in
theorem lefth_c {x dx : Addr} {k1 k2 k3 k4 t0 t1 t2 t3 : Tok} {D : List UInt8} {pl held cnt : Nat} {rest : List (Addr × Obj)}
    (B : Below A₀ base outer h₀) (F : Fr h₀ L s.heap m) (X : (Pre.hd.heap_1 w.params).In h₀) (T : Top p loose mean mg mb h₀) (hk : cs.kind = .function) (hroom : dp + 10 < recursionLimit) (hu : un + 80 < cLine)
    (N : News h₀ L s.heap ((x, instObj 177 dx) :: (dx, inDict w k1 k2 k3 k4 D t0 pl t1 held t2 cnt t3) :: rest)) (hpl : pl ≤ D.length) (hD : D.length ≤ 8)
    (hret : ∀ t h' tk', Fr h₀ L h' m → News h₀ L h' ((x, instObj 177 dx) :: (dx, inDict w k1 k2 k3 k4 D t0 pl t1 held t2 cnt t3) :: rest) → Q (.int ((cnt + 8 * (D.length - pl) : Nat) : Int) t) { s with heap := h', toks := tk' }) :
    wpAny (model PySem.Challenge.pw_og0154_01 w) (ktrTop dp un gd cn cs L a ccd cl outer) (call (.ref 160) [.ref x]) Q E s := by
  w_on
  have hDs : D.toArray.size = D.length := List.size_toArray
  refine wpAny_call ?_
  k_dflt cell_enter
  repeat' ((first | (k_unfold; (try dsimp only)) | (k_end; wrow_close) | walk1 | (dsimp only; walk1) | (leave1; walk_say "STEP leave1"; try dsimp only) | fail "no step"))
  exact hret _ _ _ (by assumption) (by assumption)
set_option maxHeartbeats 4000000 in
theorem leftl_c {x dx : Addr} {k1 k2 k3 k4 t0 t1 t2 t3 : Tok} {D : List UInt8} {pl held cnt : Nat} {rest : List (Addr × Obj)}
    (B : Below A₀ base outer h₀) (F : Fr h₀ L s.heap m) (X : (Pre.hd.heap_1 w.params).In h₀) (T : Top p loose mean mg mb h₀) (hk : cs.kind = .function) (hroom : dp + 10 < recursionLimit) (hu : un + 80 < cLine)
    (N : News h₀ L s.heap ((x, instObj 135 dx) :: (dx, inDict w k1 k2 k3 k4 D t0 pl t1 held t2 cnt t3) :: rest)) (hpl : pl ≤ D.length) (hD : D.length ≤ 8)
    (hret : ∀ t h' tk', Fr h₀ L h' m → News h₀ L h' ((x, instObj 135 dx) :: (dx, inDict w k1 k2 k3 k4 D t0 pl t1 held t2 cnt t3) :: rest) → Q (.int ((cnt + 8 * (D.length - pl) : Nat) : Int) t) { s with heap := h', toks := tk' }) :
    wpAny (model PySem.Challenge.pw_og0154_01 w) (ktrTop dp un gd cn cs L a ccd cl outer) (call (.ref 104) [.ref x]) Q E s := by
  w_on
  have hDs : D.toArray.size = D.length := List.size_toArray
  refine wpAny_call ?_
  k_dflt cell_enter
  repeat' ((first | (k_unfold; (try dsimp only)) | (k_end; wrow_close) | walk1 | (dsimp only; walk1) | (leave1; walk_say "STEP leave1"; try dsimp only) | fail "no step"))
  exact hret _ _ _ (by assumption) (by assumption)
end
end

local macro_rules | `(tactic| walk_at "call ref") => `(tactic| (k_here; k_dflt (refine' low_c ?B ?F ?X ?N ?T ?hk ?hr ?hu ?hc ?_; (case B => k_asm); (case F => k_asm); (case X => k_asm); (case N => k_asm); (case T => k_asm); (case hk => first | exact rfl | assumption); (case hr => ktr_room); (case hu => ktr_units); (case hc => first | omega | (show _ ≤ 8; omega) | (exact Nat.le_trans (Nat.sub_le _ _) (by decide)) | decide | assumption | (k_extra "side")); intro t9 h9 tk9 F9 N9; (try k_unmd); (try k_fold))))
local macro_rules | `(tactic| walk_at "call ref") => `(tactic| (k_here; k_dflt (refine' fit_c ?B ?F ?X ?N ?T ?hk ?hr ?hu ?hc ?hv ?_; (case B => k_asm); (case F => k_asm); (case X => k_asm); (case N => k_asm); (case T => k_asm); (case hk => first | exact rfl | assumption); (case hr => ktr_room); (case hu => ktr_units); (case hc => first | omega | (show _ ≤ 8; omega) | (exact Nat.le_trans (Nat.sub_le _ _) (by decide)) | decide | assumption | (k_extra "side")); (case hv => first | omega | (show _ ≤ 8; omega) | (exact Nat.le_trans (Nat.sub_le _ _) (by decide)) | decide | assumption | (k_extra "side")); intro h9 tk9 F9 N9; (try k_unmd); (try k_fold))))
local macro_rules | `(tactic| walk_at "call ref") => `(tactic| (k_here; k_dflt (refine' turned_c ?B ?F ?X ?N ?T ?hk ?hr ?hu ?hc ?_; (case B => k_asm); (case F => k_asm); (case X => k_asm); (case N => k_asm); (case T => k_asm); (case hk => first | exact rfl | assumption); (case hr => ktr_room); (case hu => ktr_units); (case hc => first | omega | (show _ ≤ 8; omega) | (exact Nat.le_trans (Nat.sub_le _ _) (by decide)) | decide | assumption | (k_extra "side")); intro t9 h9 tk9 F9 N9; (try k_unmd); (try k_fold))))
local macro_rules | `(tactic| walk_at "call ref") => `(tactic| (k_here; k_dflt (refine' lefth_c ?B ?F ?X ?T ?hk ?hr ?hu ?N ?hpl ?hD ?_; (case B => k_asm); (case F => k_asm); (case X => k_asm); (case N => k_asm); (case T => k_asm); (case hk => first | exact rfl | assumption); (case hr => ktr_room); (case hu => ktr_units); (case hpl => first | omega | (show _ ≤ 8; omega) | (exact Nat.le_trans (Nat.sub_le _ _) (by decide)) | decide | assumption | (k_extra "side")); (case hD => first | omega | (show _ ≤ 8; omega) | (exact Nat.le_trans (Nat.sub_le _ _) (by decide)) | decide | assumption | (k_extra "side")); intro t9 h9 tk9 F9 N9; (try k_unmd); (try k_fold))))
local macro_rules | `(tactic| walk_at "call ref") => `(tactic| (k_here; k_dflt (refine' leftl_c ?B ?F ?X ?T ?hk ?hr ?hu ?N ?hpl ?hD ?_; (case B => k_asm); (case F => k_asm); (case X => k_asm); (case N => k_asm); (case T => k_asm); (case hk => first | exact rfl | assumption); (case hr => ktr_room); (case hu => ktr_units); (case hpl => first | omega | (show _ ≤ 8; omega) | (exact Nat.le_trans (Nat.sub_le _ _) (by decide)) | decide | assumption | (k_extra "side")); (case hD => first | omega | (show _ ≤ 8; omega) | (exact Nat.le_trans (Nat.sub_le _ _) (by decide)) | decide | assumption | (k_extra "side")); intro t9 h9 tk9 F9 N9; (try k_unmd); (try k_fold))))

-- part X1
section
theorem meta_Exception : typeOf (.type "Exception") = pure (.type "type") := by rw [show typeOf (.type "Exception") = pure (.type ((Manifest.find? "Exception").elim "type" fun x => x.metatype)) from rfl, show ((Manifest.find? "Exception").elim "type" fun x => x.metatype) = "type" from by kernel_rfl]
local macro_rules | `(tactic| walk_at "getMethod type:Exception") => `(tactic| (k_here; refine' method_type ?F ?X ?m (by decide +kernel) ?e ?h ?_; (case F => k_asm); (case X => k_asm); (case m => exact meta_Exception); (case e => k_dflt k_is); (case h => k_handed)))

section
variable {w : World} {p : Program} {loose : List Str} {mean : ExcName → Option Value} {mg mb : Str → Option Value} {dp un : Nat} {gd : Option (List Code)} {cn : Str} {cs : Scope} {a : Addr} {ccd : Value} {cl : List (Str × Addr)} {outer : List Env} {A₀ : Around} {base h₀ : Heap} {L : Addr} {m : Str → Option Value} {s : Shared} {Q E : Value → Shared → Prop} {news : List (Addr × Obj)}

theorem excIn59 : excIn (Pre.hd.heap_1 w.params) 59 = true := by kernel_rfl
theorem excMro59 : excMro (Pre.hd.heap_1 w.params) 59 = true := by kernel_rfl
set_option maxHeartbeats 4000000 in
theorem exc_c {what : Str} {tw ta : Tok} {pl : Int}
    (B : Below A₀ base outer h₀) (F : Fr h₀ L s.heap m) (X : (Pre.hd.heap_1 w.params).In h₀) (N : News h₀ L s.heap news) (T : Top p loose mean mg mb h₀) (hk : cs.kind = .function) (hroom : dp + 10 < recursionLimit) (hu : un + 80 < cLine)
    (h : ∀ e d t h' tk', Fr h₀ L h' m → News h₀ L h' ((e, exObj 59 (some d) t) :: (t, tuObj [.str what tw]) :: news) → OwnOff news [e, t] → Q (.ref e) { s with heap := h', toks := tk' }) :
    wpAny (model PySem.Challenge.pw_og0154_01 w) (ktrTop dp un gd cn cs L a ccd cl outer) (call (.ref 59) [.str what tw, .int pl ta]) Q E s := by
  w_on
  refine call_exc_own (fI := 36) F N X excIn59 (by k_dflt k_is) (by k_dflt k_is) (Nat.le_of_ble_eq_true rfl) fun e t h' F' N' hoff hne => ?_
  have hoff1 := hoff.ne (List.Mem.head _)
  k_dflt (refine' code_def ?k1 ?k2 ?k3 ?k4 ?k5 ?kA ?kF ?kK ?k6 ?k7 ?k8 ?k9 ?kB ?_ ?c2 ?c3 ?c4 ?c5; (case kA => exact rfl); (case kF => exact rfl); (case kK => assumption); (case k1 => k_asm); (case k2 => k_asm); (case k3 => k_asm); (case k4 => k_asm); (case k5 => k_asm); (case k6 => k_is); (case k7 => k_is); (case k8 => ktr_room); (case k9 => exact binds_K (by k_in) rfl (by k_is) rfl rfl rfl); (case c5 => decide); (case kB => exact locs rfl); (case c2 => exact rfl); (case c3 => exact rfl); (case c4 => exact rfl); k_whole; intro g' L' h' FG' F' N' B' X' T'; (try dsimp only); (try k_lift B'); (try k_fold))
  repeat' ((fail_if_success (with_reducible show wpAny _ _ (call (Value.builtin _) _) _ _ _)); (fail_if_success (with_reducible show wpAny _ _ (setAttr _ _ _) _ _ _)); (fail_if_success (with_reducible show InitBack _ _ _ _)); (first | (k_unfold; (try dsimp only)) | (k_end; wrow_close) | walk1 | (dsimp only; walk1) | (leave1; walk_say "STEP leave1"; try dsimp only) | fail "no step"))
  refine init_exc_call (K := Pre.hd.heap_1 w.params) (by assumption) (by assumption) (by assumption) excIn59 (fun p hp => ?_) (Nat.le_of_ble_eq_true rfl) fun t' h2 F2 N2 hoff2 hne2 => ?_
  · rcases List.mem_cons.mp hp with rfl | hp
    · exact Ne.symm hne
    · exact hoff1 p hp
  have hofft := hoff2.ne (List.Mem.head _)
  have N3 : News _ _ h2 ((e, exObj 59 none t') :: (t', tuObj [.str what tw]) :: news) := fun p hp => N2 p (by
    rcases List.mem_cons.mp hp with rfl | hp
    · exact .tail _ (.head _)
    · rcases List.mem_cons.mp hp with rfl | hp
      · exact .head _
      · exact .tail _ (.tail _ (.tail _ hp)))
  clear N2 N'
  repeat' ((fail_if_success (with_reducible show wpAny _ _ (call (Value.builtin _) _) _ _ _)); (fail_if_success (with_reducible show wpAny _ _ (setAttr _ _ _) _ _ _)); (fail_if_success (with_reducible show InitBack _ _ _ _)); (first | (k_unfold; (try dsimp only)) | (k_end; wrow_close) | walk1 | (dsimp only; walk1) | (leave1; walk_say "STEP leave1"; try dsimp only) | fail "no step"))
  refine set_exc0 (K := Pre.hd.heap_1 w.params) (by assumption) (by assumption) (by assumption) (fun p hp => ?_) (by k_dflt k_is) excMro59 (by k_dflt k_is) fun d h4 F4 N4 hoff4 hne4 => ?_
  · rcases List.mem_cons.mp hp with rfl | hp
    · exact hne2
    · exact hoff1 p hp
  clear N3
  have hoffd := hoff4.ne (List.Mem.head _)
  repeat' ((fail_if_success (with_reducible show wpAny _ _ (call (Value.builtin _) _) _ _ _)); (fail_if_success (with_reducible show wpAny _ _ (setAttr _ _ _) _ _ _)); (fail_if_success (with_reducible show InitBack _ _ _ _)); (first | (k_unfold; (try dsimp only)) | (k_end; wrow_close) | walk1 | (dsimp only; walk1) | (leave1; walk_say "STEP leave1"; try dsimp only) | fail "no step"))
  refine set_exc1 (K := Pre.hd.heap_1 w.params) (by assumption) (by assumption) (by assumption) hoffd hne4 (by k_dflt k_is) excMro59 (by k_dflt k_is) rfl rfl (Nat.le_of_ble_eq_true rfl) fun h5 F5 N5 => ?_
  clear N4
  have N6 : News _ _ h5 ((e, exObj 59 (some d) t') :: (t', tuObj [.str what tw]) :: news) := fun p hp => N5 p (.tail _ hp)
  clear N5
  repeat' ((fail_if_success (with_reducible show wpAny _ _ (call (Value.builtin _) _) _ _ _)); (fail_if_success (with_reducible show wpAny _ _ (setAttr _ _ _) _ _ _)); (fail_if_success (with_reducible show InitBack _ _ _ _)); (first | (k_unfold; (try dsimp only)) | (k_end; wrow_close) | walk1 | (dsimp only; walk1) | (leave1; walk_say "STEP leave1"; try dsimp only) | fail "no step"))
  exact h _ _ _ _ _ (by assumption) (by assumption) (fun p hp b hb => by
    simp only [List.mem_cons, List.not_mem_nil, or_false] at hb
    rcases hb with rfl | rfl
    · exact hoff1 p hp
    · exact hofft p (.tail _ hp))
end
end

-- part T4
section
section
variable {w : World} {p : Program} {loose : List Str} {mean : ExcName → Option Value} {mg mb : Str → Option Value} {dp un : Nat} {gd : Option (List Code)} {cn : Str} {cs : Scope} {a : Addr} {ccd : Value} {cl : List (Str × Addr)} {outer : List Env} {A₀ : Around} {base h₀ : Heap} {L : Addr} {m : Str → Option Value} {s : Shared} {Q E : Value → Shared → Prop} {news : List (Addr × Obj)}

set_option maxHeartbeats 4000000 in
theorem takeh_c {x dx : Addr} {k1 k2 k3 k4 t0 t1 t2 t3 tc : Tok} {D : List UInt8} {pl cnt k c : Nat} {rest : List (Addr × Obj)} {β : Nat → Nat}
    (B : Below A₀ base outer h₀) (F : Fr h₀ L s.heap m) (X : (Pre.hd.heap_1 w.params).In h₀) (T : Top p loose mean mg mb h₀) (hk : cs.kind = .function) (hroom : dp + 20 < recursionLimit) (hu : un + 160 < cLine)
    (N : News h₀ L s.heap ((x, instObj 177 dx) :: (dx, inDict w k1 k2 k3 k4 D t0 pl t1 (BE β k cnt) t2 cnt t3) :: rest))
    (hne : @Ne Nat dx x) (hoff : OwnOff rest [dx]) (hβ : ∀ i, β i < 2) (hD : D.length ≤ 8) (hDβ : ∀ j, j < D.length → (D.getD j 0).toNat = BE β (8 * j) 8) (hI : InAt D.length k pl cnt) (hc : c ≤ 20)
    (hret : ∀ t pl' t1' t2' cnt' t3' h' tk', k + c ≤ 8 * D.length → InAt D.length (k + c) pl' cnt' → Fr h₀ L h' m → News h₀ L h' ((x, instObj 177 dx) :: (dx, inDict w k1 k2 k3 k4 D t0 pl' t1' (BE β (k + c) cnt') t2' cnt' t3') :: rest) →
      Q (.int ((BE β k c : Nat) : Int) t) { s with heap := h', toks := tk' })
    (hraise : 8 * D.length < k + c → ∀ g e t vs h' tk', Fr h₀ L g m → RaisedS base g (envX cn cs L a ccd cl :: outer) e (.ref 59) t vs ((x, instObj 177 dx) :: (dx, inDict w k1 k2 k3 k4 D t0 pl t1 (BE β k cnt) t2 cnt t3) :: rest) h' → g.UpToSlots h' →
      E (.ref e) { s with heap := h', toks := tk' }) :
    wpAny (model PySem.Challenge.pw_og0154_01 w) (ktrTop dp un gd cn cs L a ccd cl outer) (call (.ref 167) [.ref x, .int ((c : Nat) : Int) tc]) Q E s := by
  w_on
  obtain ⟨hle, h7, hat⟩ := hI
  refine wpAny_call ?_
  k_dflt cell_enter
  repeat' ((fail_if_success (with_reducible show wpAny _ _ (exec (Stmt.While _ _ _ _) _) _ _ _)); (fail_if_success (with_reducible show wpAny _ _ (exec (Stmt.Raise _ _ _) _) _ _ _)); (first | (k_unfold; (try dsimp only)) | (k_end; wrow_close) | walk1 | (dsimp only; walk1) | (leave1; walk_say "STEP leave1"; try dsimp only) | fail "no step"))
  · refine raise_own (C := 59) rfl ?_
    repeat' ((fail_if_success (with_reducible show wpAny _ _ (call (Value.ref _) _) _ _ _)); (first | (k_unfold; (try dsimp only)) | (k_end; wrow_close) | walk1 | (dsimp only; walk1) | (leave1; walk_say "STEP leave1"; try dsimp only) | fail "no step"))
    refine exc_c (by assumption) (by assumption) (by assumption) (by assumption) (by assumption) rfl (by ktr_room) (by ktr_units) fun e d t h' tk' F' N' ho => ?_
    repeat' ((first | (k_unfold; (try dsimp only)) | (k_end; wrow_close) | walk1 | (dsimp only; walk1) | (leave1; walk_say "STEP leave1"; try dsimp only) | fail "no step"))
    refine ⟨e, _, t, rfl, excCls_of (Frag.In.keeps (by assumption) (Fr.keep F')) excIn59, (N' _ (.head _)).1, ?_⟩
    refine leave_raiseE (by assumption) F' N' ho (fun h'' R hup => hraise ?_ _ _ _ _ _ _ (by assumption) R hup)
    have a8 : (((cnt + 8 * (D.length - pl) : Nat)) : Int) < ((c : Nat) : Int) := by assumption
    omega
  · have hkc : k + c ≤ 8 * D.length := by omega
    rename Fr _ _ _ _ => lF
    rename News _ _ _ _ => lN
    refine ksw_while (σ := Nat × Nat × Tok × Tok × Tok) (fun z => (x, instObj 177 dx) :: (dx, inDict w k1 k2 k3 k4 D t0 z.1 z.2.2.1 (BE β k z.2.1) z.2.2.2.1 z.2.1 z.2.2.2.2) :: rest) (fun _ => []) (fun _ => True) []
      (fun z => z.1 ≤ D.length ∧ k + z.2.1 = 8 * z.1 ∧ z.2.1 < c + 8) (fun z => c + 8 - z.2.1) (pl, cnt, t1, t2, t3) lF lN trivial (fun p hp => nomatch hp) ⟨hle, hat, by dsimp only; omega⟩ ?_
    clear lF lN
    rintro ⟨pl', cnt', t1', t2', t3'⟩ u h tk - ⟨hw1, hw2, hw3⟩ Fk Nk
    dsimp only at hw1 hw2 hw3 Nk
    simp only [kstB, List.contains_nil, Bool.false_eq_true, if_false] at Fk
    have hb1 := BE_lt hβ k cnt'
    have hb2 : 2 ^ cnt' ≤ 2 ^ 27 := Nat.pow_le_pow_right (by decide) (by omega)
    (try k_unmd); k_fold
    repeat' ((first | (k_unfold; (try dsimp only)) | (k_end; wrow_close) | walk1 | (dsimp only; walk1) | (leave1; walk_say "STEP leave1"; try dsimp only) | fail "no step"))

    · have hlt : pl' < D.length := by omega
      have e : BE β k cnt' <<< 8 ||| (D.getD pl' 0).toNat = BE β k (cnt' + 8) := by
        rw [hDβ pl' hlt, ← hw2]; exact BE_push hβ k cnt' 8
      rename News _ _ _ _ => nE
      rw [e] at nE
      refine ksw_end (pl' + 1, cnt' + 8, _, _, _) (by assumption) nE (fun p hp => hp) trivial (fun p hp => nomatch hp) (by ksw_same) ⟨by dsimp only; omega, by dsimp only; omega, by dsimp only; omega⟩ (by dsimp only; omega)
    · skip
      obtain ⟨d, rfl⟩ : ∃ d, cnt' = c + d := ⟨cnt' - c, by omega⟩
      rename News _ _ _ _ => nE
      simp only [Nat.add_sub_cancel_left, BE_shr hβ, BE_mod hβ] at nE ⊢
      exact hret _ _ _ _ _ _ _ _ hkc ⟨hw1, by omega, by omega⟩ (by assumption) nE
end
end

-- part T5
section
section
variable {w : World} {p : Program} {loose : List Str} {mean : ExcName → Option Value} {mg mb : Str → Option Value} {dp un : Nat} {gd : Option (List Code)} {cn : Str} {cs : Scope} {a : Addr} {ccd : Value} {cl : List (Str × Addr)} {outer : List Env} {A₀ : Around} {base h₀ : Heap} {L : Addr} {m : Str → Option Value} {s : Shared} {Q E : Value → Shared → Prop} {news : List (Addr × Obj)}

set_option maxHeartbeats 4000000 in
theorem need_c {x dx : Addr} {k1 k2 k3 k4 t0 t1 t2 t3 tc : Tok} {D : List UInt8} {pl cnt hv c : Nat} {rest : List (Addr × Obj)}
    (B : Below A₀ base outer h₀) (F : Fr h₀ L s.heap m) (X : (Pre.hd.heap_1 w.params).In h₀) (T : Top p loose mean mg mb h₀) (hk : cs.kind = .function) (hroom : dp + 20 < recursionLimit) (hu : un + 160 < cLine)
    (N : News h₀ L s.heap ((x, instObj 135 dx) :: (dx, inDict w k1 k2 k3 k4 D t0 pl t1 hv t2 cnt t3) :: rest)) (hpl : pl ≤ D.length) (hD : D.length ≤ 8)
    (hret : c ≤ cnt + 8 * (D.length - pl) → ∀ h' tk', Fr h₀ L h' m → News h₀ L h' ((x, instObj 135 dx) :: (dx, inDict w k1 k2 k3 k4 D t0 pl t1 hv t2 cnt t3) :: rest) → Q .none { s with heap := h', toks := tk' })
    (hraise : cnt + 8 * (D.length - pl) < c → ∀ g e t vs h' tk', Fr h₀ L g m → RaisedS base g (envX cn cs L a ccd cl :: outer) e (.ref 59) t vs ((x, instObj 135 dx) :: (dx, inDict w k1 k2 k3 k4 D t0 pl t1 hv t2 cnt t3) :: rest) h' → g.UpToSlots h' →
      E (.ref e) { s with heap := h', toks := tk' }) :
    wpAny (model PySem.Challenge.pw_og0154_01 w) (ktrTop dp un gd cn cs L a ccd cl outer) (call (.ref 111) [.ref x, .int ((c : Nat) : Int) tc]) Q E s := by
  w_on
  refine wpAny_call ?_
  k_dflt cell_enter
  repeat' ((fail_if_success (with_reducible show wpAny _ _ (exec (Stmt.While _ _ _ _) _) _ _ _)); (fail_if_success (with_reducible show wpAny _ _ (exec (Stmt.Raise _ _ _) _) _ _ _)); (first | (k_unfold; (try dsimp only)) | (k_end; wrow_close) | walk1 | (dsimp only; walk1) | (leave1; walk_say "STEP leave1"; try dsimp only) | fail "no step"))
  · refine raise_own (C := 59) rfl ?_
    repeat' ((fail_if_success (with_reducible show wpAny _ _ (call (Value.ref _) _) _ _ _)); (first | (k_unfold; (try dsimp only)) | (k_end; wrow_close) | walk1 | (dsimp only; walk1) | (leave1; walk_say "STEP leave1"; try dsimp only) | fail "no step"))
    refine exc_c (by assumption) (by assumption) (by assumption) (by assumption) (by assumption) rfl (by ktr_room) (by ktr_units) fun e d t h' tk' F' N' ho => ?_
    repeat' ((first | (k_unfold; (try dsimp only)) | (k_end; wrow_close) | walk1 | (dsimp only; walk1) | (leave1; walk_say "STEP leave1"; try dsimp only) | fail "no step"))
    refine ⟨e, _, t, rfl, excCls_of (Frag.In.keeps (by assumption) (Fr.keep F')) excIn59, (N' _ (.head _)).1, ?_⟩
    refine leave_raiseE (by assumption) F' N' ho (fun h'' R hup => hraise ?_ _ _ _ _ _ _ (by assumption) R hup)
    have a8 : (((cnt + 8 * (D.length - pl) : Nat)) : Int) < ((c : Nat) : Int) := by assumption
    omega
  · refine hret ?_ _ _ (by assumption) (by assumption)
    omega
set_option maxHeartbeats 4000000 in
theorem takel_c {x dx : Addr} {k1 k2 k3 k4 t0 t1 t2 t3 tc : Tok} {D : List UInt8} {pl cnt k c : Nat} {rest : List (Addr × Obj)} {β : Nat → Nat}
    (B : Below A₀ base outer h₀) (F : Fr h₀ L s.heap m) (X : (Pre.hd.heap_1 w.params).In h₀) (T : Top p loose mean mg mb h₀) (hk : cs.kind = .function) (hroom : dp + 30 < recursionLimit) (hu : un + 240 < cLine)
    (N : News h₀ L s.heap ((x, instObj 135 dx) :: (dx, inDict w k1 k2 k3 k4 D t0 pl t1 (LE β k cnt) t2 cnt t3) :: rest))
    (hne : @Ne Nat dx x) (hoff : OwnOff rest [dx]) (hβ : ∀ i, β i < 2) (hD : D.length ≤ 8) (hDβ : ∀ j, j < D.length → (D.getD j 0).toNat = LE β (8 * j) 8) (hI : InAt D.length k pl cnt) (hc : c ≤ 20)
    (hret : ∀ t pl' t1' t2' cnt' t3' h' tk', k + c ≤ 8 * D.length → InAt D.length (k + c) pl' cnt' → Fr h₀ L h' m → News h₀ L h' ((x, instObj 135 dx) :: (dx, inDict w k1 k2 k3 k4 D t0 pl' t1' (LE β (k + c) cnt') t2' cnt' t3') :: rest) →
      Q (.int ((LE β k c : Nat) : Int) t) { s with heap := h', toks := tk' })
    (hraise : 8 * D.length < k + c → ∀ g e t vs h' tk', Fr h₀ L g m → RaisedS base g (envX cn cs L a ccd cl :: outer) e (.ref 59) t vs ((x, instObj 135 dx) :: (dx, inDict w k1 k2 k3 k4 D t0 pl t1 (LE β k cnt) t2 cnt t3) :: rest) h' → g.UpToSlots h' →
      E (.ref e) { s with heap := h', toks := tk' }) :
    wpAny (model PySem.Challenge.pw_og0154_01 w) (ktrTop dp un gd cn cs L a ccd cl outer) (call (.ref 118) [.ref x, .int ((c : Nat) : Int) tc]) Q E s := by
  w_on
  obtain ⟨hle, h7, hat⟩ := hI
  refine wpAny_call ?_
  k_dflt cell_enter
  repeat' ((fail_if_success (with_reducible show wpAny _ _ (call (Value.ref _) _) _ _ _)); (first | (k_unfold; (try dsimp only)) | (k_end; wrow_close) | walk1 | (dsimp only; walk1) | (leave1; walk_say "STEP leave1"; try dsimp only) | fail "no step"))
  refine need_c (by assumption) (by assumption) (by assumption) (by assumption) rfl (by ktr_room) (by ktr_units) (by assumption) hle hD (fun hle2 h' tk' F' N' => ?_) (fun hlt2 g e t vs h' tk' F' R' hup => ?_)
  rotate_left
  · refine leave_onS (by assumption) F' R' hup (fun h'' R _ hup => hraise ?_ _ _ _ _ _ _ (by assumption) R hup)
    omega
  repeat' ((fail_if_success (with_reducible show wpAny _ _ (exec (Stmt.While _ _ _ _) _) _ _ _)); (first | (k_unfold; (try dsimp only)) | (k_end; wrow_close) | walk1 | (dsimp only; walk1) | (leave1; walk_say "STEP leave1"; try dsimp only) | fail "no step"))
  · have hkc : k + c ≤ 8 * D.length := by omega
    rename Fr _ _ _ _ => lF
    rename News _ _ _ _ => lN
    refine ksw_while (σ := Nat × Nat × Tok × Tok × Tok) (fun z => (x, instObj 135 dx) :: (dx, inDict w k1 k2 k3 k4 D t0 z.1 z.2.2.1 (LE β k z.2.1) z.2.2.2.1 z.2.1 z.2.2.2.2) :: rest) (fun _ => []) (fun _ => True) []
      (fun z => z.1 ≤ D.length ∧ k + z.2.1 = 8 * z.1 ∧ z.2.1 < c + 8) (fun z => c + 8 - z.2.1) (pl, cnt, t1, t2, t3) lF lN trivial (fun p hp => nomatch hp) ⟨hle, hat, by dsimp only; omega⟩ ?_
    clear lF lN
    rintro ⟨pl', cnt', t1', t2', t3'⟩ u h tk - ⟨hw1, hw2, hw3⟩ Fk Nk
    dsimp only at hw1 hw2 hw3 Nk
    simp only [kstB, List.contains_nil, Bool.false_eq_true, if_false] at Fk
    have hb1 := LE_lt hβ k cnt'
    have hb3 : (D.getD pl' 0).toNat < 256 := UInt8.toNat_lt _
    have hb2 : 2 ^ cnt' ≤ 2 ^ 27 := Nat.pow_le_pow_right (by decide) (by omega)
    (try k_unmd); k_fold
    repeat' ((first | (k_unfold; (try dsimp only)) | (k_end; wrow_close) | walk1 | (dsimp only; walk1) | (leave1; walk_say "STEP leave1"; try dsimp only) | fail "no step"))

    · have hlt : pl' < D.length := by omega
      have e : LE β k cnt' ||| (D.getD pl' 0).toNat <<< cnt' = LE β k (cnt' + 8) := by
        rw [hDβ pl' hlt, ← hw2]; exact LE_push hβ k cnt' 8
      rename News _ _ _ _ => nE
      rw [e] at nE
      refine ksw_end (pl' + 1, cnt' + 8, _, _, _) (by assumption) nE (fun p hp => hp) trivial (fun p hp => nomatch hp) (by ksw_same) ⟨by dsimp only; omega, by dsimp only; omega, by dsimp only; omega⟩ (by dsimp only; omega)
    · skip
      obtain ⟨d, rfl⟩ : ∃ d, cnt' = c + d := ⟨cnt' - c, by omega⟩
      rename News _ _ _ _ => nE
      simp only [Nat.add_sub_cancel_left, LE_shr hβ, LE_mod hβ] at nE ⊢
      exact hret _ _ _ _ _ _ _ _ hkc ⟨hw1, by omega, by omega⟩ (by assumption) nE
end
end

-- part T6
section
section
variable {w : World} {p : Program} {loose : List Str} {mean : ExcName → Option Value} {mg mb : Str → Option Value} {dp un : Nat} {gd : Option (List Code)} {cn : Str} {cs : Scope} {a : Addr} {ccd : Value} {cl : List (Str × Addr)} {outer : List Env} {A₀ : Around} {base h₀ : Heap} {L : Addr} {m : Str → Option Value} {s : Shared} {Q E : Value → Shared → Prop} {news : List (Addr × Obj)}

theorem ktsIn59 : ktsIn (Pre.hd.heap_1 w.params) 59 "BaseException" = true := by kernel_rfl
set_option maxHeartbeats 4000000 in
theorem takenh_c {x dx : Addr} {k1 k2 k3 k4 t0 t1 t2 t3 tc : Tok} {D : List UInt8} {pl cnt k c : Nat} {rest : List (Addr × Obj)} {β : Nat → Nat}
    (B : Below A₀ base [] h₀) (F : Fr h₀ L s.heap m) (X : (Pre.hd.heap_1 w.params).In h₀) (T : Top p loose mean mg mb h₀) (XB : (Pre.hd.heap_1 w.params).In base) (TB : Top p loose mean mg mb base) (hk : cs.kind = .function) (hroom : dp + 40 < recursionLimit) (hu : un + 400 < cLine)
    (N : News h₀ L s.heap ((x, instObj 177 dx) :: (dx, inDict w k1 k2 k3 k4 D t0 pl t1 (BE β k cnt) t2 cnt t3) :: rest))
    (hne : @Ne Nat dx x) (hoff : OwnOff rest [dx]) (hβ : ∀ i, β i < 2) (hD : D.length ≤ 8) (hDβ : ∀ j, j < D.length → (D.getD j 0).toNat = BE β (8 * j) 8) (hI : InAt D.length k pl cnt) (hc : c ≤ 20)
    (hsome : ∀ t pl' t1' t2' cnt' t3' h' tk', k + c ≤ 8 * D.length → InAt D.length (k + c) pl' cnt' → Fr h₀ L h' m → News h₀ L h' ((x, instObj 177 dx) :: (dx, inDict w k1 k2 k3 k4 D t0 pl' t1' (BE β (k + c) cnt') t2' cnt' t3') :: rest) →
      Q (.int ((BE β k c : Nat) : Int) t) { s with heap := h', toks := tk' })
    (hnone : 8 * D.length < k + c → ∀ h' tk', Fr h₀ L h' m → News h₀ L h' ((x, instObj 177 dx) :: (dx, inDict w k1 k2 k3 k4 D t0 pl t1 (BE β k cnt) t2 cnt t3) :: rest) → Q .none { s with heap := h', toks := tk' }) :
    wpAny (model PySem.Challenge.pw_og0154_01 w) (ktrTop dp un gd cn cs L a ccd cl []) (call (.ref 293) [.ref x, .int ((c : Nat) : Int) tc]) Q E s := by
  w_on
  have XTB := And.intro XB TB
  clear XB TB
  refine wpAny_call ?_
  k_dflt (refine' code_defSX ?k1 ?k2 ?k3 ?k4 ?k5 ?kA ?kF ?kK ?k6 ?k7 ?k8 ?k9 ?kB ?_ ?c2 ?c3 ?c4 ?c5; (case kA => exact rfl); (case kF => exact rfl); (case kK => assumption); (case k2 => k_asm); (case k1 => k_asm); (case k3 => k_asm); (case k4 => k_asm); (case k5 => k_asm); (case k6 => k_is); (case k7 => k_is); (case k8 => ktr_room); (case k9 => exact BindsTo.of_eq rfl); (case kB => exact locs rfl); (case c2 => exact rfl); (case c3 => exact rfl); (case c4 => exact rfl); (case c5 => decide); k_whole; intro g' L' h' FG' F' N' B' X' T' D'; (try dsimp only); (try k_lift B'); (try k_fold))
  repeat' ((fail_if_success (with_reducible show wpAny _ _ (call (Value.ref _) _) _ _ _)); (first | (k_unfold; (try dsimp only)) | (k_end; wrow_close) | walk1 | (dsimp only; walk1) | (leave1; walk_say "STEP leave1"; try dsimp only) | fail "no step"))
  refine takeh_c (by assumption) (by assumption) (by assumption) (by assumption) rfl (by ktr_room) (by ktr_units) (by assumption) hne hoff hβ hD hDβ hI hc (fun t pl' t1' t2' cnt' t3' h' tk' hkc hI' F2 N2 => ?_) (fun hlt g e t vs h' tk' F2 R hup => ?_)
  · repeat' ((first | (k_unfold; (try dsimp only)) | (k_end; wrow_close) | walk1 | (dsimp only; walk1) | (leave1; walk_say "STEP leave1"; try dsimp only) | fail "no step"))
    exact hsome _ _ _ _ _ _ _ _ hkc hI' (by assumption) (by assumption)
  · obtain ⟨XB, TB⟩ := XTB
    refine caught_SO0 R F2 B' hup XB TB D' KtsTurn.refl (by k_dflt k_is) ktsIn59 (fun h2 g2 n2 TT F3 N3 G3 N4 K4 X4 P4 D4 => ?_)
    clear XB TB
    repeat' ((first | (k_unfold; (try dsimp only)) | (k_end; wrow_close) | walk1 | (dsimp only; walk1) | (leave1; walk_say "STEP leave1"; try dsimp only) | fail "no step"))
    exact hnone hlt _ _ (by assumption) (by assumption)
set_option maxHeartbeats 4000000 in
theorem takenl_c {x dx : Addr} {k1 k2 k3 k4 t0 t1 t2 t3 tc : Tok} {D : List UInt8} {pl cnt k c : Nat} {rest : List (Addr × Obj)} {β : Nat → Nat}
    (B : Below A₀ base [] h₀) (F : Fr h₀ L s.heap m) (X : (Pre.hd.heap_1 w.params).In h₀) (T : Top p loose mean mg mb h₀) (XB : (Pre.hd.heap_1 w.params).In base) (TB : Top p loose mean mg mb base) (hk : cs.kind = .function) (hroom : dp + 40 < recursionLimit) (hu : un + 400 < cLine)
    (N : News h₀ L s.heap ((x, instObj 135 dx) :: (dx, inDict w k1 k2 k3 k4 D t0 pl t1 (LE β k cnt) t2 cnt t3) :: rest))
    (hne : @Ne Nat dx x) (hoff : OwnOff rest [dx]) (hβ : ∀ i, β i < 2) (hD : D.length ≤ 8) (hDβ : ∀ j, j < D.length → (D.getD j 0).toNat = LE β (8 * j) 8) (hI : InAt D.length k pl cnt) (hc : c ≤ 20)
    (hsome : ∀ t pl' t1' t2' cnt' t3' h' tk', k + c ≤ 8 * D.length → InAt D.length (k + c) pl' cnt' → Fr h₀ L h' m → News h₀ L h' ((x, instObj 135 dx) :: (dx, inDict w k1 k2 k3 k4 D t0 pl' t1' (LE β (k + c) cnt') t2' cnt' t3') :: rest) →
      Q (.int ((LE β k c : Nat) : Int) t) { s with heap := h', toks := tk' })
    (hnone : 8 * D.length < k + c → ∀ h' tk', Fr h₀ L h' m → News h₀ L h' ((x, instObj 135 dx) :: (dx, inDict w k1 k2 k3 k4 D t0 pl t1 (LE β k cnt) t2 cnt t3) :: rest) → Q .none { s with heap := h', toks := tk' }) :
    wpAny (model PySem.Challenge.pw_og0154_01 w) (ktrTop dp un gd cn cs L a ccd cl []) (call (.ref 293) [.ref x, .int ((c : Nat) : Int) tc]) Q E s := by
  w_on
  have XTB := And.intro XB TB
  clear XB TB
  refine wpAny_call ?_
  k_dflt (refine' code_defSX ?k1 ?k2 ?k3 ?k4 ?k5 ?kA ?kF ?kK ?k6 ?k7 ?k8 ?k9 ?kB ?_ ?c2 ?c3 ?c4 ?c5; (case kA => exact rfl); (case kF => exact rfl); (case kK => assumption); (case k2 => k_asm); (case k1 => k_asm); (case k3 => k_asm); (case k4 => k_asm); (case k5 => k_asm); (case k6 => k_is); (case k7 => k_is); (case k8 => ktr_room); (case k9 => exact BindsTo.of_eq rfl); (case kB => exact locs rfl); (case c2 => exact rfl); (case c3 => exact rfl); (case c4 => exact rfl); (case c5 => decide); k_whole; intro g' L' h' FG' F' N' B' X' T' D'; (try dsimp only); (try k_lift B'); (try k_fold))
  repeat' ((fail_if_success (with_reducible show wpAny _ _ (call (Value.ref _) _) _ _ _)); (first | (k_unfold; (try dsimp only)) | (k_end; wrow_close) | walk1 | (dsimp only; walk1) | (leave1; walk_say "STEP leave1"; try dsimp only) | fail "no step"))
  refine takel_c (by assumption) (by assumption) (by assumption) (by assumption) rfl (by ktr_room) (by ktr_units) (by assumption) hne hoff hβ hD hDβ hI hc (fun t pl' t1' t2' cnt' t3' h' tk' hkc hI' F2 N2 => ?_) (fun hlt g e t vs h' tk' F2 R hup => ?_)
  · repeat' ((first | (k_unfold; (try dsimp only)) | (k_end; wrow_close) | walk1 | (dsimp only; walk1) | (leave1; walk_say "STEP leave1"; try dsimp only) | fail "no step"))
    exact hsome _ _ _ _ _ _ _ _ hkc hI' (by assumption) (by assumption)
  · obtain ⟨XB, TB⟩ := XTB
    refine caught_SO0 R F2 B' hup XB TB D' KtsTurn.refl (by k_dflt k_is) ktsIn59 (fun h2 g2 n2 TT F3 N3 G3 N4 K4 X4 P4 D4 => ?_)
    clear XB TB
    repeat' ((first | (k_unfold; (try dsimp only)) | (k_end; wrow_close) | walk1 | (dsimp only; walk1) | (leave1; walk_say "STEP leave1"; try dsimp only) | fail "no step"))
    exact hnone hlt _ _ (by assumption) (by assumption)
end
end

-- part O1
section
section
variable {w : World} {p : Program} {loose : List Str} {mean : ExcName → Option Value} {mg mb : Str → Option Value} {dp un : Nat} {gd : Option (List Code)} {cn : Str} {cs : Scope} {a : Addr} {ccd : Value} {cl : List (Str × Addr)} {outer : List Env} {A₀ : Around} {base h₀ : Heap} {L : Addr} {m : Str → Option Value} {s : Shared} {Q E : Value → Shared → Prop} {news : List (Addr × Obj)}

set_option maxHeartbeats 4000000 in
theorem newlo_c {QF : Value → Shared → Prop} (B : Below A₀ base outer h₀) (F : Fr h₀ L s.heap m) (X : (Pre.hd.heap_1 w.params).In h₀) (T : Top p loose mean mg mb h₀) (hk : cs.kind = .function) (hroom : dp + 20 < recursionLimit) (hu : un + 160 < cLine)
    (N : News h₀ L s.heap news)
    (h : ∀ x dx M k1 k2 k3 t2 t3 h' tk', Fr h₀ L h' m → News h₀ L h' ((x, instObj 233 dx) :: (dx, outDict w k1 k2 k3 M 0 t2 0 t3) :: (M, baO #[]) :: news) → OwnOff news [x, dx, M] → @Ne Nat dx x → @Ne Nat M x → @Ne Nat M dx → QF (.ref x) { s with heap := h', toks := tk' }) :
    wpF (model PySem.Challenge.pw_og0154_01 w) (ktrTop dp un (some []) cn cs L a ccd cl outer) (call (.ref 233) []) QF s := by
  w_on
  refine call_clsF (fI := 195) F X N (by k_dflt k_is) (by k_dflt k_is) (by k_dflt k_is) fun x dx h' F' N' l1 l2 => ?_
  k_dflt (refine' code_defF ?k1 ?k2 ?k3 ?k4 ?k5 ?kA ?kF ?kK ?k6 ?k7 ?k8 ?k9 ?kB ?_ ?c2 ?c3 ?c4 ?c5; (case kA => exact rfl); (case kF => exact rfl); (case kK => assumption); (case k1 => k_asm); (case k2 => k_asm); (case k3 => k_asm); (case k4 => k_asm); (case k5 => k_asm); (case k6 => k_is); (case k7 => k_is); (case k8 => ktr_room); (case k9 => exact BindsTo.of_eq rfl); (case c5 => decide); (case kB => exact locs rfl); (case c2 => exact rfl); (case c3 => exact rfl); (case c4 => exact rfl); k_whole; intro g' L' h' FG' F' N' B' X' T'; (try dsimp only); (try k_lift B'); (try k_fold))
  refine execsF_on (assignAttrF (callNameF ?_))
  repeat' ((first | (k_unfold; (try dsimp only)) | (k_end; wrow_close) | walk1 | (dsimp only; walk1) | (leave1; walk_say "STEP leave1"; try dsimp only) | fail "no step"))
  refine callWith0F (.inr rfl) (Looks.of_pure rfl) ?_
  refine ba_newK rfl (by assumption) (by assumption) fun M h2 F2 N2 l3 => ?_
  have hM : News _ _ h2 ((x, instObj 233 dx) :: (dx, dictOf [] 0) :: (M, baO #[]) :: news) := fun p hp => N2 p (by
    simp only [List.mem_cons] at hp ⊢; rcases hp with h | h | h | h <;> simp only [h, true_or, or_true])
  clear N2 N'
  have e1 : @Ne Nat dx x := Nat.ne_of_lt l2
  have e2 : @Ne Nat M x := Nat.ne_of_gt (l3 _ (.head _))
  have e3 : @Ne Nat M dx := Nat.ne_of_gt (l3 _ (.tail _ (.head _)))
  have o1 : OwnOff news [x, dx, M] := fun p hp b hb => by
    simp only [List.mem_cons, List.not_mem_nil, or_false] at hb
    have z1 := l1 p hp
    have z3 := l3 p (.tail _ (.tail _ hp))
    rcases hb with rfl | rfl | rfl
    · exact Nat.ne_of_lt (Nat.lt_trans z1 l2)
    · exact Nat.ne_of_lt z1
    · exact Nat.ne_of_lt z3
  repeat' ((first | (k_unfold; (try dsimp only)) | (k_end; wrow_close) | walk1 | (dsimp only; walk1) | (leave1; walk_say "STEP leave1"; try dsimp only) | fail "no step"))
  refine wpF_of ?_
  repeat' ((first | (k_unfold; (try dsimp only)) | (k_end; wrow_close) | walk1 | (dsimp only; walk1) | (leave1; walk_say "STEP leave1"; try dsimp only) | fail "no step"))
  exact ⟨rfl, h _ _ _ _ _ _ _ _ _ _ (by assumption) (by assumption) o1 e1 e2 e3⟩
set_option maxHeartbeats 4000000 in
theorem newhi_c {QF : Value → Shared → Prop} (B : Below A₀ base outer h₀) (F : Fr h₀ L s.heap m) (X : (Pre.hd.heap_1 w.params).In h₀) (T : Top p loose mean mg mb h₀) (hk : cs.kind = .function) (hroom : dp + 20 < recursionLimit) (hu : un + 160 < cLine)
    (N : News h₀ L s.heap news)
    (h : ∀ x dx M k1 k2 k3 t2 t3 h' tk', Fr h₀ L h' m → News h₀ L h' ((x, instObj 275 dx) :: (dx, outDict w k1 k2 k3 M 0 t2 0 t3) :: (M, baO #[]) :: news) → OwnOff news [x, dx, M] → @Ne Nat dx x → @Ne Nat M x → @Ne Nat M dx → QF (.ref x) { s with heap := h', toks := tk' }) :
    wpF (model PySem.Challenge.pw_og0154_01 w) (ktrTop dp un (some []) cn cs L a ccd cl outer) (call (.ref 275) []) QF s := by
  w_on
  refine call_clsF (fI := 251) F X N (by k_dflt k_is) (by k_dflt k_is) (by k_dflt k_is) fun x dx h' F' N' l1 l2 => ?_
  k_dflt (refine' code_defF ?k1 ?k2 ?k3 ?k4 ?k5 ?kA ?kF ?kK ?k6 ?k7 ?k8 ?k9 ?kB ?_ ?c2 ?c3 ?c4 ?c5; (case kA => exact rfl); (case kF => exact rfl); (case kK => assumption); (case k1 => k_asm); (case k2 => k_asm); (case k3 => k_asm); (case k4 => k_asm); (case k5 => k_asm); (case k6 => k_is); (case k7 => k_is); (case k8 => ktr_room); (case k9 => exact BindsTo.of_eq rfl); (case c5 => decide); (case kB => exact locs rfl); (case c2 => exact rfl); (case c3 => exact rfl); (case c4 => exact rfl); k_whole; intro g' L' h' FG' F' N' B' X' T'; (try dsimp only); (try k_lift B'); (try k_fold))
  refine execsF_on (assignAttrF (callNameF ?_))
  repeat' ((first | (k_unfold; (try dsimp only)) | (k_end; wrow_close) | walk1 | (dsimp only; walk1) | (leave1; walk_say "STEP leave1"; try dsimp only) | fail "no step"))
  refine callWith0F (.inr rfl) (Looks.of_pure rfl) ?_
  refine ba_newK rfl (by assumption) (by assumption) fun M h2 F2 N2 l3 => ?_
  have hM : News _ _ h2 ((x, instObj 275 dx) :: (dx, dictOf [] 0) :: (M, baO #[]) :: news) := fun p hp => N2 p (by
    simp only [List.mem_cons] at hp ⊢; rcases hp with h | h | h | h <;> simp only [h, true_or, or_true])
  clear N2 N'
  have e1 : @Ne Nat dx x := Nat.ne_of_lt l2
  have e2 : @Ne Nat M x := Nat.ne_of_gt (l3 _ (.head _))
  have e3 : @Ne Nat M dx := Nat.ne_of_gt (l3 _ (.tail _ (.head _)))
  have o1 : OwnOff news [x, dx, M] := fun p hp b hb => by
    simp only [List.mem_cons, List.not_mem_nil, or_false] at hb
    have z1 := l1 p hp
    have z3 := l3 p (.tail _ (.tail _ hp))
    rcases hb with rfl | rfl | rfl
    · exact Nat.ne_of_lt (Nat.lt_trans z1 l2)
    · exact Nat.ne_of_lt z1
    · exact Nat.ne_of_lt z3
  repeat' ((first | (k_unfold; (try dsimp only)) | (k_end; wrow_close) | walk1 | (dsimp only; walk1) | (leave1; walk_say "STEP leave1"; try dsimp only) | fail "no step"))
  refine wpF_of ?_
  repeat' ((first | (k_unfold; (try dsimp only)) | (k_end; wrow_close) | walk1 | (dsimp only; walk1) | (leave1; walk_say "STEP leave1"; try dsimp only) | fail "no step"))
  exact ⟨rfl, h _ _ _ _ _ _ _ _ _ _ (by assumption) (by assumption) o1 e1 e2 e3⟩
end
end

-- part O2
section
/-- what a BitsOut holds: T bits of γ, the octets of them made, the rest held -/
structure LowAt (γ : Nat → Nat) (T : Nat) (b : Array UInt8) (held cnt : Nat) : Prop where
  total : 8 * b.size + cnt = T
  held_ : held = LE γ (8 * b.size) cnt
  made : ∀ j, j < b.size → (b.getD j 0).toNat = LE γ (8 * j) 8
structure HighAt (γ : Nat → Nat) (T : Nat) (b : Array UInt8) (held cnt : Nat) : Prop where
  total : 8 * b.size + cnt = T
  held_ : held = BE γ (8 * b.size) cnt
  made : ∀ j, j < b.size → (b.getD j 0).toNat = BE γ (8 * j) 8
theorem push_made {b : Array UInt8} {u : Nat} {f : Nat → Nat} (h : ∀ j, j < b.size → (b.getD j 0).toNat = f j) (hu : u = f b.size) (hlt : u < 256) : ∀ j, j < (b.push u.toUInt8).size → ((b.push u.toUInt8).getD j 0).toNat = f j := by
  intro j hj
  rw [Array.size_push] at hj
  by_cases hb : j < b.size
  · rw [← h j hb]
    simp only [Array.getD, Array.size_push, hj, hb, dite_true]
    rw [Array.getInternal_eq_getElem, Array.getInternal_eq_getElem, Array.getElem_push_lt hb]
  · have e : j = b.size := by omega
    subst e
    simp only [Array.getD, Array.size_push, hj, dite_true]
    rw [Array.getInternal_eq_getElem, Array.getElem_push_eq, ← hu]
    show u.toUInt8.toNat = u
    rw [Nat.toUInt8, UInt8.toNat_ofNat']
    exact Nat.mod_eq_of_lt hlt
local macro_rules | `(tactic| walk_at "getMethod ref") => `(tactic| (k_here; (with_reducible show wpAny _ _ (getMethod (Value.ref _) (PySem.Str.ofString "append") _) _ _ _); k_dflt (refine' ba_method ?N ?m ?_; (case N => k_asm); (case m => k_mem))))
section
variable {w : World} {p : Program} {loose : List Str} {mean : ExcName → Option Value} {mg mb : Str → Option Value} {dp un : Nat} {gd : Option (List Code)} {cn : Str} {cs : Scope} {a : Addr} {ccd : Value} {cl : List (Str × Addr)} {outer : List Env} {A₀ : Around} {base h₀ : Heap} {L : Addr} {m : Str → Option Value} {s : Shared} {Q E : Value → Shared → Prop} {news : List (Addr × Obj)}

set_option maxHeartbeats 4000000 in
theorem putl_c {QF : Value → Shared → Prop} {x dx M : Addr} {k1 k2 k3 t2 t3 tv tc : Tok} {b : Array UInt8} {cnt T₀ v c : Nat} {γ : Nat → Nat} {rest : List (Addr × Obj)}
    (B : Below A₀ base outer h₀) (F : Fr h₀ L s.heap m) (X : (Pre.hd.heap_1 w.params).In h₀) (T : Top p loose mean mg mb h₀) (hk : cs.kind = .function) (hroom : dp + 20 < recursionLimit) (hu : un + 160 < cLine)
    (N : News h₀ L s.heap ((x, instObj 233 dx) :: (dx, outDict w k1 k2 k3 M (LE γ (8 * b.size) cnt) t2 cnt t3) :: (M, baO b) :: rest))
    (e1 : @Ne Nat dx x) (e2 : @Ne Nat M x) (e3 : @Ne Nat M dx) (hoff : OwnOff rest [dx, M]) (hγ : ∀ i, γ i < 2) (hT : 8 * b.size + cnt = T₀) (hc7 : cnt ≤ 7) (hmade : ∀ j, j < b.size → (b.getD j 0).toNat = LE γ (8 * j) 8)
    (hv : v = LE γ T₀ c) (hc : c ≤ 20) (hz : T₀ ≤ 200)
    (h : ∀ b' cnt' t2' t3' h' tk', 8 * b'.size + cnt' = T₀ + c → cnt' ≤ 7 → (∀ j, j < b'.size → (b'.getD j 0).toNat = LE γ (8 * j) 8) →
      Fr h₀ L h' m → News h₀ L h' ((x, instObj 233 dx) :: (dx, outDict w k1 k2 k3 M (LE γ (8 * b'.size) cnt') t2' cnt' t3') :: (M, baO b') :: rest) → QF .none { s with heap := h', toks := tk' }) :
    wpF (model PySem.Challenge.pw_og0154_01 w) (ktrTop dp un (some []) cn cs L a ccd cl outer) (call (.ref 202) [.ref x, .int ((v : Nat) : Int) tv, .int ((c : Nat) : Int) tc]) QF s := by
  w_on
  have hv2 : v < 2 ^ c := by rw [hv]; exact LE_lt hγ _ _
  have hv3 : v < 1048576 := Nat.lt_of_lt_of_le hv2 (Nat.pow_le_pow_right (by decide) hc)
  refine wpF_call ?_
  k_dflt (refine' code_defF ?k1 ?k2 ?k3 ?k4 ?k5 ?kA ?kF ?kK ?k6 ?k7 ?k8 ?k9 ?kB ?_ ?c2 ?c3 ?c4 ?c5; (case kA => exact rfl); (case kF => exact rfl); (case kK => assumption); (case k1 => k_asm); (case k2 => k_asm); (case k3 => k_asm); (case k4 => k_asm); (case k5 => k_asm); (case k6 => k_is); (case k7 => k_is); (case k8 => ktr_room); (case k9 => exact BindsTo.of_eq rfl); (case c5 => decide); (case kB => exact locs rfl); (case c2 => exact rfl); (case c3 => exact rfl); (case c4 => exact rfl); k_whole; intro g' L' h' FG' F' N' B' X' T'; (try dsimp only); (try k_lift B'); (try k_fold))
  refine execsF_off ?_
  repeat' ((first | (k_unfold; (try dsimp only)) | (k_end; wrow_close) | walk1 | (dsimp only; walk1) | (leave1; walk_say "STEP leave1"; try dsimp only) | fail "no step"))
  refine execsF_off ?_
  repeat' ((first | (k_unfold; (try dsimp only)) | (k_end; wrow_close) | walk1 | (dsimp only; walk1) | (leave1; walk_say "STEP leave1"; try dsimp only) | fail "no step"))
  refine execsF_off ?_
  repeat' ((first | (k_unfold; (try dsimp only)) | (k_end; wrow_close) | walk1 | (dsimp only; walk1) | (leave1; walk_say "STEP leave1"; try dsimp only) | fail "no step"))
  have eh : LE γ (8 * b.size) cnt ||| v <<< cnt = LE γ (8 * b.size) (cnt + c) := by rw [hv, ← hT]; exact LE_push hγ _ _ _
  rename News _ _ _ _ => lN
  rename Fr _ _ _ _ => lF
  rw [eh] at lN
  refine execsF_on (whileF (whileLoopF (fun n s' => ∃ (b' : Array UInt8) (cnt' : Nat) (t2' t3' : Tok) (hp : Heap) (tk : Nat), s' = { s with heap := hp, toks := tk } ∧ n = cnt' ∧ 8 * b'.size + cnt' = T₀ + c ∧ cnt' ≤ 27 ∧ (∀ j, j < b'.size → (b'.getD j 0).toNat = LE γ (8 * j) 8) ∧
    Fr g' L' hp _ ∧ News g' L' hp ((x, instObj 233 dx) :: (dx, outDict w k1 k2 k3 M (LE γ (8 * b'.size) cnt') t2' cnt' t3') :: (M, baO b') :: rest)) ?_ (cnt + c) ⟨b, cnt + c, _, _, _, _, rfl, rfl, by omega, by omega, hmade, lF, lN⟩))
  clear lF lN
  rintro n s' ⟨b', cnt', t2', t3', hp, tk, rfl, rfl, hT', hc', hmade', lF, lN⟩
  repeat' ((fail_if_success (with_reducible show ite _ _ _)); (first | (k_unfold; (try dsimp only)) | (k_end; wrow_close) | walk1 | (dsimp only; walk1) | (leave1; walk_say "STEP leave1"; try dsimp only) | fail "no step"))
  have hb1 := LE_lt hγ (8 * b'.size) n
  have hb2 : 2 ^ n ≤ 2 ^ 27 := Nat.pow_le_pow_right (by decide) hc'
  split
  · rename_i hge
    have hge : 8 ≤ n := by have := of_decide_eq_true hge; omega
    refine execsF_on (exprF (callAttrF ?_))
    repeat' ((first | (k_unfold; (try dsimp only)) | (k_end; wrow_close) | walk1 | (dsimp only; walk1) | (leave1; walk_say "STEP leave1"; try dsimp only) | fail "no step"))
    refine callWithSF ?_
    repeat' ((first | (k_unfold; (try dsimp only)) | (k_end; wrow_close) | walk1 | (dsimp only; walk1) | (leave1; walk_say "STEP leave1"; try dsimp only) | fail "no step"))
    refine ⟨⟨_, .inr rfl, Looks.of_pure rfl⟩, ?_⟩
    refine ba_append rfl (pre := [(x, _), (dx, _)]) (by assumption) (by assumption) (fun p hp => ?_) (hoff.ne (.tail _ (.head _))) (Nat.mod_lt _ (by decide)) (by omega) fun h3 F3 N3 => ?_
    · simp only [List.mem_cons, List.not_mem_nil, or_false] at hp
      rcases hp with rfl | rfl
      · exact Ne.symm e2
      · exact Ne.symm e3
    simp only [List.cons_append, List.nil_append] at N3
    refine wpF_of ?_
    clear lF lN
    repeat' ((first | (k_unfold; (try dsimp only)) | (k_end; wrow_close) | walk1 | (dsimp only; walk1) | (leave1; walk_say "STEP leave1"; try dsimp only) | fail "no step"))
    obtain ⟨d, rfl⟩ : ∃ d, n = 8 + d := ⟨n - 8, by omega⟩
    rename News _ _ _ _ => nE
    simp only [Nat.add_sub_cancel_left, LE_shr hγ, LE_mod hγ] at nE
    refine ⟨d, by omega, b'.push (LE γ (8 * b'.size) 8).toUInt8, d, ?ta, ?tb, _, _, rfl, rfl, ?tot, by omega, ?mad, by assumption, ?nn⟩
    case tot => rw [Array.size_push]; omega
    case mad => exact push_made (f := fun j => LE γ (8 * j) 8) hmade' rfl (LE_lt hγ _ 8)
    case nn => rw [Array.size_push, Nat.mul_succ]; exact nE
  · rename_i hlt
    have hlt : n ≤ 7 := by have := of_decide_eq_false (Bool.not_eq_true _ ▸ hlt : decide ((8 : Int) ≤ (n : Int)) = false); omega
    refine execsF_nil (execsF_nil ?_)
    repeat' ((first | (k_unfold; (try dsimp only)) | (k_end; wrow_close) | walk1 | (dsimp only; walk1) | (leave1; walk_say "STEP leave1"; try dsimp only) | fail "no step"))
    exact h _ _ _ _ _ _ hT' hlt hmade' (by assumption) (by assumption)
end
-- part O3
section
section
variable {w : World} {p : Program} {loose : List Str} {mean : ExcName → Option Value} {mg mb : Str → Option Value} {dp un : Nat} {gd : Option (List Code)} {cn : Str} {cs : Scope} {a : Addr} {ccd : Value} {cl : List (Str × Addr)} {outer : List Env} {A₀ : Around} {base h₀ : Heap} {L : Addr} {m : Str → Option Value} {s : Shared} {Q E : Value → Shared → Prop} {news : List (Addr × Obj)}

set_option maxHeartbeats 4000000 in
theorem puth_c {QF : Value → Shared → Prop} {x dx M : Addr} {k1 k2 k3 t2 t3 tv tc : Tok} {b : Array UInt8} {cnt T₀ v c : Nat} {γ : Nat → Nat} {rest : List (Addr × Obj)}
    (B : Below A₀ base outer h₀) (F : Fr h₀ L s.heap m) (X : (Pre.hd.heap_1 w.params).In h₀) (T : Top p loose mean mg mb h₀) (hk : cs.kind = .function) (hroom : dp + 20 < recursionLimit) (hu : un + 160 < cLine)
    (N : News h₀ L s.heap ((x, instObj 275 dx) :: (dx, outDict w k1 k2 k3 M (BE γ (8 * b.size) cnt) t2 cnt t3) :: (M, baO b) :: rest))
    (e1 : @Ne Nat dx x) (e2 : @Ne Nat M x) (e3 : @Ne Nat M dx) (hoff : OwnOff rest [dx, M]) (hγ : ∀ i, γ i < 2) (hT : 8 * b.size + cnt = T₀) (hc7 : cnt ≤ 7) (hmade : ∀ j, j < b.size → (b.getD j 0).toNat = BE γ (8 * j) 8)
    (hv : v = BE γ T₀ c) (hc : c ≤ 20) (hz : T₀ ≤ 200)
    (h : ∀ b' cnt' t2' t3' h' tk', 8 * b'.size + cnt' = T₀ + c → cnt' ≤ 7 → (∀ j, j < b'.size → (b'.getD j 0).toNat = BE γ (8 * j) 8) →
      Fr h₀ L h' m → News h₀ L h' ((x, instObj 275 dx) :: (dx, outDict w k1 k2 k3 M (BE γ (8 * b'.size) cnt') t2' cnt' t3') :: (M, baO b') :: rest) → QF .none { s with heap := h', toks := tk' }) :
    wpF (model PySem.Challenge.pw_og0154_01 w) (ktrTop dp un (some []) cn cs L a ccd cl outer) (call (.ref 258) [.ref x, .int ((v : Nat) : Int) tv, .int ((c : Nat) : Int) tc]) QF s := by
  w_on
  have hv2 : v < 2 ^ c := by rw [hv]; exact BE_lt hγ _ _
  have hv3 : v < 1048576 := Nat.lt_of_lt_of_le hv2 (Nat.pow_le_pow_right (by decide) hc)
  have hb0 : BE γ (8 * b.size) cnt < 128 := Nat.lt_of_lt_of_le (BE_lt hγ _ _) (Nat.pow_le_pow_right (by decide) hc7)
  refine wpF_call ?_
  k_dflt (refine' code_defF ?k1 ?k2 ?k3 ?k4 ?k5 ?kA ?kF ?kK ?k6 ?k7 ?k8 ?k9 ?kB ?_ ?c2 ?c3 ?c4 ?c5; (case kA => exact rfl); (case kF => exact rfl); (case kK => assumption); (case k1 => k_asm); (case k2 => k_asm); (case k3 => k_asm); (case k4 => k_asm); (case k5 => k_asm); (case k6 => k_is); (case k7 => k_is); (case k8 => ktr_room); (case k9 => exact BindsTo.of_eq rfl); (case c5 => decide); (case kB => exact locs rfl); (case c2 => exact rfl); (case c3 => exact rfl); (case c4 => exact rfl); k_whole; intro g' L' h' FG' F' N' B' X' T'; (try dsimp only); (try k_lift B'); (try k_fold))
  refine execsF_off ?_
  repeat' ((first | (k_unfold; (try dsimp only)) | (k_end; wrow_close) | walk1 | (dsimp only; walk1) | (leave1; walk_say "STEP leave1"; try dsimp only) | fail "no step"))
  refine execsF_off ?_
  repeat' ((first | (k_unfold; (try dsimp only)) | (k_end; wrow_close) | walk1 | (dsimp only; walk1) | (leave1; walk_say "STEP leave1"; try dsimp only) | fail "no step"))
  refine execsF_off ?_
  repeat' ((first | (k_unfold; (try dsimp only)) | (k_end; wrow_close) | walk1 | (dsimp only; walk1) | (leave1; walk_say "STEP leave1"; try dsimp only) | fail "no step"))
  have eh : BE γ (8 * b.size) cnt <<< c ||| v = BE γ (8 * b.size) (cnt + c) := by rw [hv, ← hT]; exact BE_push hγ _ _ _
  rename News _ _ _ _ => lN
  rename Fr _ _ _ _ => lF
  rw [eh] at lN
  refine execsF_on (whileF (whileLoopF (fun n s' => ∃ (b' : Array UInt8) (cnt' : Nat) (t2' t3' : Tok) (hp : Heap) (tk : Nat), s' = { s with heap := hp, toks := tk } ∧ n = cnt' ∧ 8 * b'.size + cnt' = T₀ + c ∧ cnt' ≤ 27 ∧ (∀ j, j < b'.size → (b'.getD j 0).toNat = BE γ (8 * j) 8) ∧
    Fr g' L' hp _ ∧ News g' L' hp ((x, instObj 275 dx) :: (dx, outDict w k1 k2 k3 M (BE γ (8 * b'.size) cnt') t2' cnt' t3') :: (M, baO b') :: rest)) ?_ (cnt + c) ⟨b, cnt + c, _, _, _, _, rfl, rfl, by omega, by omega, hmade, lF, lN⟩))
  clear lF lN
  rintro n s' ⟨b', cnt', t2', t3', hp, tk, rfl, rfl, hT', hc', hmade', lF, lN⟩
  repeat' ((fail_if_success (with_reducible show ite _ _ _)); (first | (k_unfold; (try dsimp only)) | (k_end; wrow_close) | walk1 | (dsimp only; walk1) | (leave1; walk_say "STEP leave1"; try dsimp only) | fail "no step"))
  have hb1 := BE_lt hγ (8 * b'.size) n
  have hb2 : 2 ^ n ≤ 2 ^ 27 := Nat.pow_le_pow_right (by decide) hc'
  split
  · rename_i hge
    have hge : 8 ≤ n := by have := of_decide_eq_true hge; omega
    obtain ⟨d, rfl⟩ : ∃ d, n = 8 + d := ⟨n - 8, by omega⟩
    refine execsF_off ?_
    repeat' ((first | (k_unfold; (try dsimp only)) | (k_end; wrow_close) | walk1 | (dsimp only; walk1) | (leave1; walk_say "STEP leave1"; try dsimp only) | fail "no step"))
    refine execsF_on (exprF (callAttrF ?_))
    repeat' ((first | (k_unfold; (try dsimp only)) | (k_end; wrow_close) | walk1 | (dsimp only; walk1) | (leave1; walk_say "STEP leave1"; try dsimp only) | fail "no step"))
    refine callWithSF ?_
    repeat' ((first | (k_unfold; (try dsimp only)) | (k_end; wrow_close) | walk1 | (dsimp only; walk1) | (leave1; walk_say "STEP leave1"; try dsimp only) | fail "no step"))
    refine ⟨⟨_, .inr rfl, Looks.of_pure rfl⟩, ?_⟩
    refine ba_append rfl (pre := [(x, _), (dx, _)]) (by assumption) (by assumption) (fun p hp => ?_) (hoff.ne (.tail _ (.head _))) (by rw [Nat.add_sub_cancel_left, BE_shr hγ]; exact BE_lt hγ _ 8) (by omega) fun h3 F3 N3 => ?_
    · simp only [List.mem_cons, List.not_mem_nil, or_false] at hp
      rcases hp with rfl | rfl
      · exact Ne.symm e2
      · exact Ne.symm e3
    simp only [List.cons_append, List.nil_append] at N3
    refine wpF_of ?_
    repeat' ((first | (k_unfold; (try dsimp only)) | (k_end; wrow_close) | walk1 | (dsimp only; walk1) | (leave1; walk_say "STEP leave1"; try dsimp only) | fail "no step"))
    rename News _ _ _ _ => nE
    simp only [Nat.add_sub_cancel_left, BE_shr hγ, BE_mod hγ] at nE
    refine ⟨d, by omega, b'.push (BE γ (8 * b'.size) 8).toUInt8, d, ?ta, ?tb, _, _, rfl, rfl, ?tot, by omega, ?mad, by assumption, ?nn⟩
    case tot => rw [Array.size_push]; omega
    case mad => exact push_made (f := fun j => BE γ (8 * j) 8) hmade' rfl (BE_lt hγ _ 8)
    case nn => rw [Array.size_push, Nat.mul_succ]; exact nE
  · rename_i hlt
    have hlt : n ≤ 7 := by have := of_decide_eq_false (Bool.not_eq_true _ ▸ hlt : decide ((8 : Int) ≤ (n : Int)) = false); omega
    refine execsF_nil (execsF_nil ?_)
    repeat' ((first | (k_unfold; (try dsimp only)) | (k_end; wrow_close) | walk1 | (dsimp only; walk1) | (leave1; walk_say "STEP leave1"; try dsimp only) | fail "no step"))
    exact h _ _ _ _ _ _ hT' hlt hmade' (by assumption) (by assumption)
end
end
end

-- part O4
section
section
variable {prog : Program} {w : World} {A : Around} {E : Value → Shared → Prop} {s : Shared} {h₀ : Heap} {L a : Addr} {b : Array UInt8} {news : List (Addr × Obj)}
def Byte (n : Nat) : Prop := n < 256
theorem News.sub {h : Heap} {l l' : List (Addr × Obj)} (N : News h₀ L h l) (k : ∀ p ∈ l', p ∈ l) : News h₀ L h l' := fun p hp => N p (k p hp)
theorem bytes1N {m : Str → Option Value} {l : Addr} {v n : Nat} {t1 : Tok} {Q : Value → Shared → Prop} (F : Fr h₀ L s.heap m) (N : News h₀ L s.heap news) (hm : (l, listOf [.int ((v : Nat) : Int) t1].toArray n) ∈ news) (hv : Byte v) (hh : A.handled = none)
    (h : ∀ h' t k, Fr h₀ L h' m → News h₀ L h' news → Q (.bytes [v.toUInt8].toArray t) { s with heap := h', toks := k }) : wpAny (model prog w) A (call (.type "bytes") [.ref l]) Q E s :=
  bytes_K F N (vs := [.int ((v : Nat) : Int) t1]) (ns := [((v : Nat) : Int)]) ⟨_, (N _ hm).1, rfl, n, rfl⟩ (.cons _ _ .nil) (fun x hx => by rcases List.mem_singleton.mp hx with rfl; have : v < 256 := hv; omega) (by rw [sizeLine_eq]; exact Nat.le_of_ble_eq_true rfl) hh fun h' t k F' N' _ => h h' t k F' N'
theorem len_baN {Q : Value → Shared → Prop} (N : News h₀ L s.heap news) (hm : (a, baO b) ∈ news) (hz : b.size ≤ 1000) (hQ : ∀ t k, Q (.int ((b.size : Nat) : Int) t) { s with toks := k }) : wpAny (model prog w) A (call (.builtin "len") [.ref a]) Q E s := len_ba (N _ hm).1 hz hQ
theorem bytes_baN {Q : Value → Shared → Prop} (N : News h₀ L s.heap news) (hm : (a, baO b) ∈ news) (hz : b.size ≤ 1000) (hQ : ∀ t, Q (.bytes b t) { s with toks := s.toks + 1 }) : wpAny (model prog w) A (call (.type "bytes") [.ref a]) Q E s := bytes_ba (N _ hm).1 hz hQ
end
local macro_rules | `(tactic| walk_at "call builtin:len") => `(tactic| (k_here; k_dflt (refine' len_baN ?N ?m ?z ?_; (case N => k_asm); (case m => k_mem); (case z => first | omega | (show _ ≤ 8; omega) | (exact Nat.le_trans (Nat.sub_le _ _) (by decide)) | decide | assumption | (k_extra "side"))); intro t9 k9))
local macro_rules | `(tactic| walk_at "call type:bytes") => `(tactic| (k_here; k_dflt (refine' bytes_baN ?N ?m ?z ?_; (case N => k_asm); (case m => k_mem); (case z => first | omega | (show _ ≤ 8; omega) | (exact Nat.le_trans (Nat.sub_le _ _) (by decide)) | decide | assumption | (k_extra "side"))); intro t9))
local macro_rules | `(tactic| walk_at "call type:bytes") => `(tactic| (k_here; k_dflt (refine' bytes1N ?F ?N ?m ?z ?hh ?_; (case F => k_asm); (case N => k_asm); (case m => k_mem); (case z => assumption); (case hh => exact rfl)); intro h9 t9 k9 F9 N9; (try k_sweep)))
local macro_rules | `(tactic| walk_at "binaryOp Add bytes bytes") => `(tactic| (k_here; (with_reducible show wpAny _ _ (binaryOp Operator.Add (Value.bytes _ _) (Value.bytes _ _)) _ _ _); (refine' KBy.add_bytes ?zz ?_; (case zz => (simp only [List.size_toArray, List.length_cons, List.length_nil]; omega))); intro _ _))
section
variable {w : World} {p : Program} {loose : List Str} {mean : ExcName → Option Value} {mg mb : Str → Option Value} {dp un : Nat} {gd : Option (List Code)} {cn : Str} {cs : Scope} {a : Addr} {ccd : Value} {cl : List (Str × Addr)} {outer : List Env} {A₀ : Around} {base h₀ : Heap} {L : Addr} {m : Str → Option Value} {s : Shared} {Q E : Value → Shared → Prop} {news : List (Addr × Obj)}

set_option maxHeartbeats 4000000 in
theorem bitc_c {x dx M : Addr} {k1 k2 k3 t2 t3 : Tok} {b : Array UInt8} {cnt hv : Nat} {rest : List (Addr × Obj)}
    (B : Below A₀ base outer h₀) (F : Fr h₀ L s.heap m) (X : (Pre.hd.heap_1 w.params).In h₀) (T : Top p loose mean mg mb h₀) (hk : cs.kind = .function) (hroom : dp + 20 < recursionLimit) (hu : un + 160 < cLine)
    (N : News h₀ L s.heap ((x, instObj 233 dx) :: (dx, outDict w k1 k2 k3 M hv t2 cnt t3) :: (M, baO b) :: rest)) (hz : b.size ≤ 100) (hc : cnt ≤ 100)
    (h : ∀ t h' tk', Fr h₀ L h' m → News h₀ L h' ((x, instObj 233 dx) :: (dx, outDict w k1 k2 k3 M hv t2 cnt t3) :: (M, baO b) :: rest) → Q (.int ((8 * b.size + cnt : Nat) : Int) t) { s with heap := h', toks := tk' }) :
    wpAny (model PySem.Challenge.pw_og0154_01 w) (ktrTop dp un gd cn cs L a ccd cl outer) (call (.ref 223) [.ref x]) Q E s := by
  w_on
  refine wpAny_call ?_
  k_dflt cell_enter
  repeat' ((first | (k_unfold; (try dsimp only)) | (k_end; wrow_close) | walk1 | (dsimp only; walk1) | (leave1; walk_say "STEP leave1"; try dsimp only) | fail "no step"))
  exact h _ _ _ (by assumption) (by assumption)
set_option maxHeartbeats 4000000 in
theorem octl_c {x dx M : Addr} {k1 k2 k3 t2 t3 : Tok} {b : Array UInt8} {cnt hv : Nat} {rest : List (Addr × Obj)}
    (B : Below A₀ base outer h₀) (F : Fr h₀ L s.heap m) (X : (Pre.hd.heap_1 w.params).In h₀) (T : Top p loose mean mg mb h₀) (hk : cs.kind = .function) (hroom : dp + 20 < recursionLimit) (hu : un + 160 < cLine)
    (N : News h₀ L s.heap ((x, instObj 233 dx) :: (dx, outDict w k1 k2 k3 M hv t2 cnt t3) :: (M, baO b) :: rest)) (hz : b.size ≤ 100) (hc : cnt ≤ 7) (hh : hv < 256)
    (h : ∀ t h' tk', Fr h₀ L h' m → News h₀ L h' ((x, instObj 233 dx) :: (dx, outDict w k1 k2 k3 M hv t2 cnt t3) :: (M, baO b) :: rest) → Q (.bytes (if cnt = 0 then b else b.push hv.toUInt8) t) { s with heap := h', toks := tk' }) :
    wpAny (model PySem.Challenge.pw_og0154_01 w) (ktrTop dp un gd cn cs L a ccd cl outer) (call (.ref 230) [.ref x]) Q E s := by
  w_on
  refine wpAny_call ?_
  k_dflt cell_enter
  repeat' ((first | (k_unfold; (try dsimp only)) | (k_end; wrow_close) | walk1 | (dsimp only; walk1) | (leave1; walk_say "STEP leave1"; try dsimp only) | fail "no step"))
  · have e : cnt = 0 := by omega
    have z := fun (t : Tok) (k : Nat) => h t _ k (by assumption) (by assumption)
    simp only [if_pos e] at z
    exact z _ _
  · have e : ¬ cnt = 0 := by omega
    rename News _ _ _ _ => nE
    have z := fun (t : Tok) (k : Nat) => h t _ k (by assumption) (by first | exact nE | exact News.sub nE fun p hp => .tail _ hp)
    simp only [if_neg e] at z
    exact z _ _
set_option maxHeartbeats 4000000 in
theorem octh_c {x dx M : Addr} {k1 k2 k3 t2 t3 : Tok} {b : Array UInt8} {cnt hv : Nat} {rest : List (Addr × Obj)}
    (B : Below A₀ base outer h₀) (F : Fr h₀ L s.heap m) (X : (Pre.hd.heap_1 w.params).In h₀) (T : Top p loose mean mg mb h₀) (hk : cs.kind = .function) (hroom : dp + 20 < recursionLimit) (hu : un + 160 < cLine)
    (N : News h₀ L s.heap ((x, instObj 275 dx) :: (dx, outDict w k1 k2 k3 M hv t2 cnt t3) :: (M, baO b) :: rest)) (hz : b.size ≤ 100) (hc : cnt ≤ 7) (hh : Byte (hv <<< (8 - cnt))) (hh2 : hv < 256)
    (h : ∀ t h' tk', Fr h₀ L h' m → News h₀ L h' ((x, instObj 275 dx) :: (dx, outDict w k1 k2 k3 M hv t2 cnt t3) :: (M, baO b) :: rest) → Q (.bytes (if cnt = 0 then b else b.push (hv <<< (8 - cnt)).toUInt8) t) { s with heap := h', toks := tk' }) :
    wpAny (model PySem.Challenge.pw_og0154_01 w) (ktrTop dp un gd cn cs L a ccd cl outer) (call (.ref 272) [.ref x]) Q E s := by
  w_on
  refine wpAny_call ?_
  k_dflt cell_enter
  repeat' ((first | (k_unfold; (try dsimp only)) | (k_end; wrow_close) | walk1 | (dsimp only; walk1) | (leave1; walk_say "STEP leave1"; try dsimp only) | fail "no step"))
  · have e : cnt = 0 := by omega
    have z := fun (t : Tok) (k : Nat) => h t _ k (by assumption) (by assumption)
    simp only [if_pos e] at z
    exact z _ _
  · have e : ¬ cnt = 0 := by omega
    rename News _ _ _ _ => nE
    have z := fun (t : Tok) (k : Nat) => h t _ k (by assumption) (by first | exact nE | exact News.sub nE fun p hp => .tail _ hp)
    simp only [if_neg e] at z
    exact z _ _
end
end

-- part L2
section
open PySem PySem.W PyProof.Rows PySem.Calls
/-- how an element of a comprehension with a state ends -/
def ElS {σ : Type} (Led : σ → List (Addr × Obj)) (J : Nat → σ → List Value → Prop) (i : Nat) (ys : List Value) (y : Value) (nw : List (Addr × Obj)) : Prop := ∃ st, nw = Led st ∧ J (i + 1) st (ys ++ [y])
theorem ElS.intro {σ : Type} {Led : σ → List (Addr × Obj)} {J : Nat → σ → List Value → Prop} {i : Nat} {ys : List Value} {y : Value} (st : σ) (h : J (i + 1) st (ys ++ [y])) : ElS Led J i ys y (Led st) := ⟨st, rfl, h⟩
section
variable {prog : Program} {w : World} {A : Around} {h₀ : Heap} {L : Addr} {m : Str → Option Value} {env : Env} {elt : Expr} {x : Str} {scope : Scope} {cl : List (Str × Addr)} {s : Shared} {P : Nat → Value → Prop} {Fin : List Value → List (Addr × Obj) → Prop}
theorem restS {σ : Type} {n : Nat} (Led : σ → List (Addr × Obj)) (J : Nat → σ → List Value → Prop) (st₀ : σ) (h0 : J 0 st₀ [])
    (turn : ∀ i st ys v I oI C oC D m₂ h tk (E' : Value → Shared → Prop), i < n → J i st ys → P i v → LCg.NsObj oC m₂ → m₂ x = some v → Fr h₀ L h m → News h₀ L h ((I, oI) :: (C, oC) :: (D, LCg.lst ys) :: Led st) → LCg.Off3 I C D (Led st) → ((@Ne Nat I C) ∧ (@Ne Nat I D) ∧ (@Ne Nat C D)) →
      wpAny (model prog w) A (eval elt (compEnvC scope cl C env)) (LCg.CompEnd h₀ L m { s with heap := h, toks := tk } I oI C oC D (LCg.lst ys) (fun _ => True) (ElS Led J i ys)) E' { s with heap := h, toks := tk })
    (fin : ∀ st ys, J n st ys → Fin ys (Led st)) : LCg.CompRest prog w A h₀ L m env elt x scope cl s (fun _ => True) P Fin n 0 [] (Led st₀) := by
  have key : ∀ (j i : Nat) (st : σ) (ys : List Value), i + j = n → J i st ys → LCg.CompRest prog w A h₀ L m env elt x scope cl s (fun _ => True) P Fin j i ys (Led st) := by
    intro j
    induction j with
    | zero =>
      intro i st ys hi hy
      have e : i = n := by omega
      subst e
      exact LCg.CompRest.zero (fin st ys hy)
    | succ j ih =>
      intro i st ys hi hy
      refine LCg.CompRest.succ ?_
      intro v I oI C oC D m₂ h tk E' hv hC hx F N off ne
      refine wpAny_mono (turn i st ys v I oI C oC D m₂ h tk E' (by omega) hy hv hC hx F N off ne) (fun y s₂ hq => ?_) fun _ _ e => e
      obtain ⟨h', tk', nw, e, F', N', off', hS, st', hn, hJ⟩ := hq
      subst hn
      exact ⟨h', tk', Led st', e, F', N', off', trivial, ih (i + 1) st' _ (by omega) hJ⟩
  exact key n 0 st₀ [] (by omega) h0
def SrcB (prog : Program) (w : World) (A : Around) (h₀ : Heap) (L : Addr) (m : Str → Option Value) (env : Env) (elt : Expr) (x : Str) (scope : Scope) (cl : List (Str × Addr)) (b : Array UInt8) (news : List (Addr × Obj)) (Q : Value → Shared → Prop) (xv : Value) (s₁ : Shared) : Prop :=
  ∃ tb, xv = .bytes b tb ∧ Fr h₀ L s₁.heap m ∧ News h₀ L s₁.heap news ∧
      ∀ g, LCg.CompRest prog w A h₀ L m env elt x scope cl { s₁ with heap := g } (fun _ => True) (fun i v => ∃ c u, b[i]? = some c ∧ v = .int (c.toNat : Int) u) (LCg.FinE h₀ L m { s₁ with heap := g } Q) b.size 0 [] news
/-- a comprehension over octets -/
theorem ListComp_B {E : Value → Shared → Prop} {iter : Expr} {px : Pos} {pos : Pos} {Q : Value → Shared → Prop} {b : Array UInt8} {news : List (Addr × Obj)}
    (F₀ : Fr h₀ L s.heap m) (N₀ : News h₀ L s.heap news) (hh : A.handled = none) (hsz : b.size ≤ sizeLine)
    (hclos : closureFor scope env = pure cl) (hcell : ∀ y ∈ scope.names, y.2 ≠ .cell) (hkind : scope.kind = .function)
    (hnames : ∀ y ∈ scope.names, y.2 = .local → scope.names.lookup y.1 = some .local) (hx : scope.names.lookup x = some .local)
    (h : wpAny (model prog w) A (eval iter env) (SrcB prog w A h₀ L m env elt x scope cl b news Q) E s)
    (hs : ∀ x, foldedSetIterable iter env x = pure x := by intro _; rfl) :
    wpAny (model prog w) A (eval (.ListComp elt [⟨.Name x px, iter, [], 0⟩] scope pos) env) Q E s := by
  rw [eval_ListComp]
  refine wpAny_comprehension_free (use := none) rfl hs hclos hkind hnames (wpAny_mono h (fun xv s₁ h₁ => ?_) fun _ _ e => e)
  obtain ⟨tb, rfl, F, N, R⟩ := h₁
  refine KBw.pyIter_bytes ?_
  refine LCg.block_U (P := fun i v => ∃ c u, b[i]? = some c ∧ v = .int (c.toNat : Int) u) (St := fun i h => KBw.IsBytesIter h s₁.heap.objs.size b tb i) (S := fun _ => True) (Fin := LCg.FinE h₀ L m { s₁ with heap := _ } Q) (KBw.walks hh s₁.heap.objs.size b tb) hsz (fun i h st => by obtain ⟨o, e, _⟩ := st; exact ⟨o, e⟩)
    (fun i h h' o nw st e e' _ _ _ => by obtain ⟨o', q, r⟩ := st; rw [e] at q; cases q; exact ⟨o, e', r⟩) hcell hkind hx ⟨_, Heap.get?_push_size _ rfl, rfl, rfl⟩ (fun b' hb => ?_)
    (F.keeps fun _ _ e => Heap.get?_push_of_some _ e) (N.grown fun _ _ e => Heap.get?_push_of_some _ e) (Nat.ne_of_lt F.ns.lt) (next_is_new F) (fun p hp => Nat.ne_of_lt (Heap.lt_size (N p hp).1)) trivial (R _) ?_
  · rw [List.mem_singleton.mp hb]
    show s₁.heap.objs.size < (s₁.heap.push _).objs.size
    rw [Heap.size_push]; exact Nat.lt_succ_self _
  · intro D C h tk m' ys news' F' N' o1 hn hC₀ hD₀ hCL hDL hCD offC fin
    refine ⟨m', hn, fun h'' hs'' => fin D h'' tk (F'.change hs'' hCL hC₀) (fun p hp => ?_) o1⟩
    refine ⟨hs''.extBut _ _ ?_ (N' p hp).1, (N' p hp).2⟩
    rcases List.mem_cons.mp hp with rfl | hp
    · exact Ne.symm hCD
    · exact offC p hp
end
theorem ownOff_nil {P : Addr} : OwnOff [] [P] := fun _ h => nomatch h
theorem ownOff_cons {q : Addr × Obj} {l : List (Addr × Obj)} {P : Addr} (h : @Ne Nat q.1 P) (hr : OwnOff l [P]) : OwnOff (q :: l) [P] := fun p hp b hb => by
  rcases List.mem_singleton.mp hb with rfl
  rcases List.mem_cons.mp hp with rfl | hp
  · exact h
  · exact hr p hp _ (List.mem_singleton.mpr rfl)
/-- octets that a list holds -/
def Octs (ys : List Value) (ds : List UInt8) : Prop := IntsAre ys (ds.map fun d => ((d.toNat : Nat) : Int))
theorem octs_nil : Octs [] [] := .nil
theorem octs_snoc {ys : List Value} {ds : List UInt8} {d : Nat} {t : Tok} (h : Octs ys ds) (hd : d < 256) : Octs (ys ++ [.int ((d : Nat) : Int) t]) (ds ++ [d.toUInt8]) := by
  unfold Octs at *
  rw [List.map_append]
  refine IntsAre.append h ?_
  have e : d.toUInt8.toNat = d := by show d % 256 = d; omega
  show IntsAre _ [((d.toUInt8.toNat : Nat) : Int)]
  rw [e]
  exact .cons _ _ .nil
theorem octs_len {ys : List Value} {ds : List UInt8} (h : Octs ys ds) : ys.length = ds.length := by
  have := IntsAre.length h
  rw [List.length_map] at this; exact this
theorem octs_arr (ds : List UInt8) : ((ds.map fun d => ((d.toNat : Nat) : Int)).map fun n => n.toNat.toUInt8).toArray = ds.toArray := by
  rw [List.map_map]
  congr 1
  refine (List.map_congr_left (g := id) fun d _ => ?_).trans (List.map_id _)
  show ((d.toNat : Nat) : Int).toNat.toUInt8 = d
  rw [Int.toNat_natCast]
  exact UInt8.ofNat_toNat
section
variable {prog : Program} {w : World} {A : Around} {E : Value → Shared → Prop} {s : Shared} {h₀ : Heap} {L : Addr} {m : Str → Option Value} {news : List (Addr × Obj)}
theorem bytesO {l : Addr} {ys : List Value} {ds : List UInt8} {n : Nat} {Q : Value → Shared → Prop} (F : Fr h₀ L s.heap m) (N : News h₀ L s.heap news) (hm : (l, ({ cls := .type "list", data := .seq ys.toArray n } : Obj)) ∈ news) (ho : Octs ys ds) (hz : ds.length ≤ 1000) (hh : A.handled = none)
    (h : ∀ h' t k, Fr h₀ L h' m → News h₀ L h' news → Q (.bytes ds.toArray t) { s with heap := h', toks := k }) : wpAny (model prog w) A (call (.type "bytes") [.ref l]) Q E s := by
  refine bytes_K F N (vs := ys) (ns := ds.map fun (d : UInt8) => ((d.toNat : Nat) : Int)) ⟨_, (N _ hm).1, rfl, n, rfl⟩ ho (fun x hx => ?_) (by rw [sizeLine_eq, octs_len ho]; omega) hh fun h' t k F' N' _ => ?_
  · obtain ⟨d, _, rfl⟩ := List.mem_map.mp hx
    have := d.toNat_lt
    omega
  · rw [octs_arr]; exact h h' t k F' N'
end
theorem small_c {c : Nat} (h : c ≤ 20) : Builtin.Range.small 0 ((c : Nat) : Int) 1 = true := small_one (by omega) (by omega) (by omega) (by omega)
theorem toNat_c (c : Nat) : (((c : Nat) : Int) - 0).toNat = c := by omega
theorem size_c {c : Nat} (h : c ≤ 20) : (((c : Nat) : Int) - 0).toNat ≤ sizeLine := by rw [sizeLine_eq]; omega
theorem lt_c {c i : Nat} (h : i < (((c : Nat) : Int) - 0).toNat) : i < c := by omega
theorem one_le_c {c i : Nat} (h : i < c) : 1 ≤ c := by omega
theorem le_c {c i : Nat} (h : i < c) : i ≤ c - 1 := by omega
theorem turn_same {c k i : Nat} (β : Nat → Nat) (hβ : ∀ i, β i < 2) (h : i < c) : bitAt (LE β k c) (c - 1 - i) = bitAt (BE β k c) i := by
  rw [bitAt_LE hβ (by omega), bitAt_BE hβ h]
/-- numbers that a list holds, by place -/
def FunAre (ys : List Value) (f : Nat → Nat) (i : Nat) : Prop := IntsAre ys ((List.range i).map fun j => ((f j : Nat) : Int))
theorem fun_nil {f : Nat → Nat} : FunAre [] f 0 := .nil
theorem fun_snoc {ys : List Value} {f : Nat → Nat} {i : Nat} {t : Tok} (h : FunAre ys f i) : FunAre (ys ++ [.int ((f i : Nat) : Int) t]) f (i + 1) := by
  unfold FunAre at *
  rw [List.range_succ, List.map_append]
  exact IntsAre.append h (.cons _ _ .nil)
theorem fun_congr {ys : List Value} {f g : Nat → Nat} {i : Nat} (h : FunAre ys f i) (e : ∀ j, j < i → f j = g j) : FunAre ys g i := by
  unfold FunAre at *
  rwa [← List.map_congr_left (f := fun j => ((f j : Nat) : Int)) fun j hj => by rw [e j (List.mem_range.mp hj)]]
/-- how an element of a comprehension ends that leaves the ledger as it is -/
def ElU (J : Nat → List Value → Prop) (news : List (Addr × Obj)) (i : Nat) (ys : List Value) (y : Value) (nw : List (Addr × Obj)) : Prop := nw = news ∧ J (i + 1) (ys ++ [y])
section
variable {prog : Program} {w : World} {A : Around} {h₀ : Heap} {L : Addr} {m : Str → Option Value} {env : Env} {elt : Expr} {x : Str} {scope : Scope} {cl : List (Str × Addr)} {s : Shared} {P : Nat → Value → Prop} {Fin : List Value → List (Addr × Obj) → Prop}
theorem restU {n : Nat} {news : List (Addr × Obj)} (J : Nat → List Value → Prop) (h0 : J 0 [])
    (turn : ∀ i ys v I oI C oC D m₂ h tk (E' : Value → Shared → Prop), i < n → J i ys → P i v → LCg.NsObj oC m₂ → m₂ x = some v → Fr h₀ L h m → News h₀ L h ((I, oI) :: (C, oC) :: (D, LCg.lst ys) :: news) → LCg.Off3 I C D news → ((@Ne Nat I C) ∧ (@Ne Nat I D) ∧ (@Ne Nat C D)) →
      wpAny (model prog w) A (eval elt (compEnvC scope cl C env)) (LCg.CompEnd h₀ L m { s with heap := h, toks := tk } I oI C oC D (LCg.lst ys) (fun _ => True) (ElU J news i ys)) E' { s with heap := h, toks := tk })
    (fin : ∀ ys, J n ys → Fin ys news) : LCg.CompRest prog w A h₀ L m env elt x scope cl s (fun _ => True) P Fin n 0 [] news :=
  restS (σ := Unit) (fun _ => news) (fun i _ ys => J i ys) () h0
    (fun i _ ys v I oI C oC D m₂ h tk E' hi hJ hv hC hx F N off ne => wpAny_mono (turn i ys v I oI C oC D m₂ h tk E' hi hJ hv hC hx F N off ne) (fun y s₂ hq => by
      obtain ⟨h', tk', nw, e, F', N', off', hS, hn, hJ'⟩ := hq
      exact ⟨h', tk', nw, e, F', N', off', hS, (), hn, hJ'⟩) fun _ _ e => e)
    (fun _ ys hJ => fin ys hJ)
theorem fr_know {h : Heap} {v : Value} {z : Str} (F : Fr h₀ L h m) (hx : m z = some v) : Fr h₀ L h (fun y => if y = z then some v else m y) := by
  have e : (fun y => if y = z then some v else m y) = m := funext fun y => by
    by_cases hy : y = z
    · subst hy; rw [if_pos rfl, hx]
    · rw [if_neg hy]
  rw [e]; exact F
end
def turnU (c : UInt8) : UInt8 := (turnN c.toNat 8).toUInt8
theorem octs_turn {ys : List Value} {D : List UInt8} {i : Nat} {c : UInt8} {t : Tok} (h : Octs ys ((D.take i).map turnU)) (hc : D[i]? = some c) : Octs (ys ++ [.int ((turnN c.toNat 8 : Nat) : Int) t]) ((D.take (i + 1)).map turnU) := by
  rw [List.take_add_one, hc, List.map_append]
  exact octs_snoc h (turnN_lt _ 8)
theorem turn_back {v : Nat} (h : v < 256) : turnN (turnN v 8) 8 = v := by
  rw [turnN_turnN]; exact Nat.mod_eq_of_lt h
/-- counts of bits -/
def Cnts (ys : List Value) (cs : List Nat) : Prop := IntsAre ys (cs.map fun c => ((c : Nat) : Int)) ∧ ∀ c ∈ cs, c ≤ 20
theorem cnts_nil : Cnts [] [] := ⟨.nil, fun _ h => nomatch h⟩
theorem cnts_snoc {ys : List Value} {cs : List Nat} {c : Nat} {t : Tok} (h : Cnts ys cs) (hc : c < 21) : Cnts (ys ++ [.int ((c : Nat) : Int) t]) (cs ++ [c]) := by
  refine ⟨?_, fun x hx => ?_⟩
  · rw [List.map_append]; exact IntsAre.append h.1 (.cons _ _ .nil)
  · rcases List.mem_append.mp hx with hx | hx
    · exact h.2 x hx
    · rcases List.mem_singleton.mp hx with rfl; omega
/-- what the pen draws from -/
def PenOk (vs : List Value) : Prop := ∃ ns, IntsAre vs ns ∧ 2 ≤ ns.length ∧ ns.length ≤ 42 ∧ ∀ z ∈ ns, Builtin.Int.intBits z ≤ 1048576
section
variable {w : World} {p : Program} {loose : List Str} {mean : ExcName → Option Value} {mg mb : Str → Option Value} {dp un : Nat} {gd : Option (List Code)} {cn : Str} {cs : Scope} {a : Addr} {ccd : Value} {cl : List (Str × Addr)} {outer : List Env} {A₀ : Around} {base h₀ : Heap} {L : Addr} {m : Str → Option Value} {s : Shared} {Q E : Value → Shared → Prop} {news : List (Addr × Obj)}

theorem draw_p {P C : Addr} {i r many n k : Nat} {ti tr tm : Tok} {vs : List Value} {rest : List (Addr × Obj)}
    (B : Below A₀ base outer h₀) (F : Fr h₀ L s.heap m) (X : (Pre.hd.heap_1 w.params).In h₀) (T : Top p loose mean mg mb h₀) (hk : cs.kind = .function) (hroom : dp + 10 < recursionLimit) (hu : un + 80 < cLine)
    (N : News h₀ L s.heap ((P, listOf #[.ref C, .int ((i : Nat) : Int) ti, .int ((r : Nat) : Int) tr] n) :: (C, listOf vs.toArray k) :: rest))
    (hPC : @Ne Nat C P) (hoff : OwnOff rest [P]) (hp : PenOk vs)
    (hm : 1 ≤ many) (hm2 : many ≤ 1048576) (hib : i ≤ 1000)
    (hret : ∀ (d i' r' : Nat) t ti' tr' h' tk', d < many → i' ≤ i + 1 → Fr h₀ L h' m →
      News h₀ L h' ((P, listOf #[.ref C, .int ((i' : Nat) : Int) ti', .int ((r' : Nat) : Int) tr'] n) :: (C, listOf vs.toArray k) :: rest) → Q (.int ((d : Nat) : Int) t) { s with heap := h', toks := tk' }) :
    wpAny (model PySem.Challenge.pw_og0154_01 w) (ktrTop dp un gd cn cs L a ccd cl outer) (call (.ref 286) [.ref P, .int ((many : Nat) : Int) tm]) Q E s := by
  obtain ⟨ns, h1, h2, h3, h4⟩ := hp
  exact draw_c B F X T hk hroom hu N hPC hoff h1 h2 h3 h4 hm hm2 hib hret
end
def lawStmt : Stmt := (PySem.Challenge.pw_og0154_01.main.body.getLast?).getD (.Return none ⟨0, 0, 0, 0⟩)
def lawBody : List Stmt := match lawStmt with | .FunctionDef _ _ b _ _ _ _ _ _ _ => b | _ => []
def lawScope : Scope := match lawStmt with | .FunctionDef _ _ _ _ _ _ sc _ _ _ => sc | _ => { kind := .function, names := [], isGenerator := false, isCoroutine := false }
abbrev penLed (P C : Addr) (vs : List Value) (i r : Nat) (ti tr : Tok) (L : Addr) (oP oCnt oOne oOth : Obj) : List (Addr × Obj) :=
  (P, listOf #[.ref C, .int ((i : Nat) : Int) ti, .int ((r : Nat) : Int) tr] 0) :: (C, listOf vs.toArray 0) :: (L + 1, oP) :: (L + 1 + 1, oCnt) :: (L + 1 + 1 + 1, oOne) :: (L + 1 + 1 + 1 + 1, oOth) :: []
end

-- part L5
section
open PySem PySem.W PyProof.Rows PySem.Calls
/-- how a turn of a loop over counts ends -/
def EndC {σ : Type} (h₀ : Heap) (L It CL c : Addr) (oI : Obj) (ys : List Value) (Led : σ → List (Addr × Obj)) (mf : σ → Str → Option Value) (J : Nat → σ → Prop) (i : Nat) (s : Shared) (Q : Flow → Shared → Prop) (f : Flow) (s' : Shared) : Prop :=
  match f with
  | .next => ∃ st h tk oc, s' = { s with heap := h, toks := tk } ∧ (∃ v, oc.data = Data.cell v) ∧ Fr h₀ L h (mf st) ∧ News h₀ L h ((It, oI) :: (CL, LCg.lst ys) :: (c, oc) :: Led st) ∧ J (i + 1) st
  | .ret v => Q (.ret v) s'
  | _ => False
section
variable {prog : Program} {w : World} {A : Around} {s : Shared} {env : Env} {h₀ : Heap} {L : Addr}
theorem EndC.intro {σ : Type} {It CL c : Addr} {oI oc : Obj} {ys : List Value} {Led : σ → List (Addr × Obj)} {mf : σ → Str → Option Value} {J : Nat → σ → Prop} {i : Nat} {Q : Flow → Shared → Prop} {h : Heap} {tk : Nat} {v : Option Value} {all : List (Addr × Obj)} (st : σ)
    (hd : oc.data = Data.cell v) (F : Fr h₀ L h (mf st)) (N : News h₀ L h all) (sub : ∀ p ∈ (It, oI) :: (CL, LCg.lst ys) :: (c, oc) :: Led st, p ∈ all) (hJ : J (i + 1) st) :
    EndC h₀ L It CL c oI ys Led mf J i s Q .next { s with heap := h, toks := tk } := ⟨st, h, tk, oc, rfl, ⟨v, hd⟩, F, News.sub N sub, hJ⟩
theorem cnts_at {ys : List Value} {ks : List Nat} (hc : Cnts ys ks) {i : Nat} {v : Value} (h : ys[i]? = some v) : ∃ k t, v = .int ((k : Nat) : Int) t ∧ ks[i]? = some k ∧ k ≤ 20 := by
  obtain ⟨n, t, rfl, hn⟩ := IntsAre.at hc.1 i v h
  rw [List.getElem?_map] at hn
  cases hk : ks[i]? with
  | none => rw [hk] at hn; cases hn
  | some k =>
    rw [hk] at hn
    cases hn
    exact ⟨k, t, rfl, rfl, hc.2 k (List.mem_of_getElem? hk)⟩
theorem cnts_len {ys : List Value} {ks : List Nat} (hc : Cnts ys ks) : ys.length = ks.length := by
  have := IntsAre.length hc.1
  rw [List.length_map] at this; exact this
theorem loopCellF {σ : Type} {c CL : Addr} {ys : List Value} {ks : List Nat} {x : Str} {px : PySem.Pos} {body : List PySem.Stmt} {Q : Flow → Shared → Prop} {oc : Obj} {v₀ : Option Value} {all : List (Addr × Obj)}
    (Led : σ → List (Addr × Obj)) (mf : σ → Str → Option Value) (J : Nat → σ → Prop) (st₀ : σ) (hh : A.handled = none) (hcs : Cnts ys ks)
    (hk : env.scope.kind = .function) (hx : env.kindOf x = some .cell) (hc : env.cells.lookup x = some c)
    (F : Fr h₀ L s.heap (mf st₀)) (N : News h₀ L s.heap all) (sub : ∀ p ∈ (CL, LCg.lst ys) :: (c, oc) :: Led st₀, p ∈ all) (hcd : oc.data = .cell v₀) (hne : @Ne Nat CL c) (hoff : OwnOff (Led st₀) [c]) (hadr : ∀ st, (Led st).map (·.1) = (Led st₀).map (·.1))
    (h0 : J 0 st₀)
    (turn : ∀ i st k t It oI oc h tk, i < ks.length → ks[i]? = some k → k ≤ 20 → J i st → oc.data = Data.cell (some (.int ((k : Nat) : Int) t)) → Fr h₀ L h (mf st) → News h₀ L h ((It, oI) :: (CL, LCg.lst ys) :: (c, oc) :: Led st) →
      LCg.Off1 It ((CL, LCg.lst ys) :: (c, oc) :: Led st) → wpF (model prog w) A (execs body env) (EndC h₀ L It CL c oI ys Led mf J i { s with heap := h, toks := tk } Q) { s with heap := h, toks := tk })
    (done : ∀ st h tk oc v, J ks.length st → oc.data = Data.cell v → Fr h₀ L h (mf st) → News h₀ L h ((CL, LCg.lst ys) :: (c, oc) :: Led st) → Q .next { s with heap := h, toks := tk }) :
    wpAny (model prog w) A (pyIter (.ref CL)) (fun it s₂ => codeF (model prog w) A (.forLoop (.Name x px) it body [] env) Q s₂) (fun _ _ => False) s := by
  replace N := News.sub N sub
  clear sub
  have hl : s.heap.IsList CL ys.toArray := ⟨_, (N _ (.head _)).1, rfl, _, rfl⟩
  have hlt : CL < s.heap.objs.size := Heap.lt_size (N _ (.head _)).1
  have hlen := cnts_len hcs
  refine wpAny_pyIter_list hl ?_
  have up : ∀ b o, s.heap.get? b = some o → (s.heap.push { cls := .type "list_iterator", data := .fields #[.ref CL, .int 0 0] }).get? b = some o := fun b o e => Heap.get?_push_of_some _ e
  have W := Walks.list (prog := prog) (w := w) hh s.heap.objs.size CL (Nat.ne_of_lt hlt) ys.toArray
  have hIL : L ≠ s.heap.objs.size := Nat.ne_of_lt F.ns.lt
  have hI₀ : h₀.get? s.heap.objs.size = none := next_is_new F
  generalize hIt : s.heap.objs.size = It at *
  have old : ∀ p ∈ (CL, LCg.lst ys) :: (c, oc) :: Led st₀, p.1 ≠ It := fun p hp => by rw [← hIt]; exact Nat.ne_of_lt (Heap.lt_size (N p hp).1)
  have adr : ∀ st, ∀ p ∈ Led st, ∃ q ∈ Led st₀, q.1 = p.1 := fun st p hp => by
    have : p.1 ∈ (Led st).map (·.1) := List.mem_map_of_mem hp
    rw [hadr st] at this
    obtain ⟨q, hq, e⟩ := List.mem_map.mp this
    exact ⟨q, hq, e⟩
  have cIt : c ≠ It := old (c, oc) (.tail _ (.head _))
  have clIt : CL ≠ It := old (CL, LCg.lst ys) (.head _)
  have ledIt : ∀ st, ∀ p ∈ Led st, p.1 ≠ It := fun st p hp => by
    obtain ⟨q, hq, e⟩ := adr st p hp
    rw [← e]; exact old q (.tail _ (.tail _ hq))
  have ledc : ∀ st, ∀ p ∈ Led st, p.1 ≠ c := fun st p hp => by
    obtain ⟨q, hq, e⟩ := adr st p hp
    rw [← e]; exact hoff q hq c (List.mem_singleton.mpr rfl)
  have off1 : ∀ st (o' : Obj), LCg.Off1 It ((CL, LCg.lst ys) :: (c, o') :: Led st) := fun st o' => by
    refine ⟨clIt, cIt, ?_⟩
    have := ledIt st
    generalize Led st = l at this
    induction l with
    | nil => trivial
    | cons p r ih => exact ⟨this p (.head _), ih fun q hq => this q (.tail _ hq)⟩
  have hget : (s.heap.push { cls := .type "list_iterator", data := .fields #[.ref CL, .int 0 0] }).get? It = some { cls := .type "list_iterator", data := .fields #[.ref CL, .int 0 0] } := by rw [← hIt]; exact Heap.get?_push_size _ rfl
  refine forLoopF (fun n s' => ∃ i st oc oI h tk, n = ks.length - i ∧ i ≤ ks.length ∧ s' = { s with heap := h, toks := tk } ∧ J i st ∧ (∃ v, oc.data = Data.cell v) ∧ Fr h₀ L h (mf st) ∧
      News h₀ L h ((It, oI) :: (CL, LCg.lst ys) :: (c, oc) :: Led st) ∧ h.IsListIter It CL i ∧ h.IsList CL ys.toArray) ?_ ks.length
    ⟨0, st₀, oc, { cls := .type "list_iterator", data := .fields #[.ref CL, .int 0 0] }, s.heap.push { cls := .type "list_iterator", data := .fields #[.ref CL, .int 0 0] }, s.toks, rfl, Nat.zero_le _, rfl, h0, ⟨_, hcd⟩, F.keeps up, fun p hp => ?_, ⟨_, hget, rfl, rfl⟩, hl.push _⟩
  · rintro n s' ⟨i, st, oc, oI, h, tk, rfl, hi, rfl, hJ, ⟨vc, hoc⟩, F₁, N₁, St⟩
    by_cases hlt : i < ks.length
    · refine W.item i _ _ _ (by rw [List.size_toArray, hlen]; exact hlt) St fun v h₂ tk₂ hv St₂ hk₂ => ?_
      obtain ⟨k, t, rfl, hk', hk20⟩ := cnts_at hcs (by simpa using hv)
      have F₂ : Fr h₀ L h₂ (mf st) := LCg.fr_but F₁ hk₂ hIL hI₀
      have N₂ : News h₀ L h₂ ((CL, LCg.lst ys) :: (c, oc) :: Led st) := LCg.news_but (fun p hp => N₁ p (.tail _ hp)) hk₂ fun p hp => by
        rcases List.mem_cons.mp hp with rfl | hp
        · exact clIt
        · rcases List.mem_cons.mp hp with rfl | hp
          · exact cIt
          · exact ledIt st p hp
      obtain ⟨oI₂, eI₂, rI₂⟩ := St₂.1
      have zc := N₂ (c, oc) (.tail _ (.head _))
      refine wpAny_assign_Name (wpAny_storeName_cell hk hx hc ⟨oc, zc.1, hoc⟩ fun h₃ hv₃ hs₃ => ?_)
      obtain ⟨oc₃, ec₃, dc₃⟩ := hv₃
      have F₃ : Fr h₀ L h₃ (mf st) := ⟨F₂.ns.sameBut hs₃ (Ne.symm zc.2.1), fun b ob e => (hs₃.2 b fun q => by rw [q, zc.2.2] at e; cases e).trans (F₂.keep b ob e), F₂.above⟩
      have N₃ : News h₀ L h₃ ((It, oI₂) :: (CL, LCg.lst ys) :: (c, oc₃) :: Led st) := fun p hp => by
        rcases List.mem_cons.mp hp with rfl | hp
        · exact ⟨(hs₃.2 _ (Ne.symm cIt)).trans eI₂, Ne.symm hIL, hI₀⟩
        · rcases List.mem_cons.mp hp with rfl | hp
          · have z := N₂ (CL, LCg.lst ys) (.head _)
            exact ⟨(hs₃.2 _ hne).trans z.1, z.2⟩
          · rcases List.mem_cons.mp hp with rfl | hp
            · exact ⟨ec₃, zc.2⟩
            · have z := N₂ p (.tail _ (.tail _ hp))
              exact ⟨(hs₃.2 _ (ledc st p hp)).trans z.1, z.2⟩
      refine wpF_mono (turn i st k t It oI₂ oc₃ h₃ _ hlt hk' hk20 hJ dc₃ F₃ N₃ (off1 st oc₃)) fun f s₄ hf => ?_
      cases f with
      | next =>
        obtain ⟨st', h', tk', oc', rfl, hd', F', N', J'⟩ := hf
        have z := N' (It, oI₂) (.head _)
        have zl := N' (CL, LCg.lst ys) (.tail _ (.head _))
        exact ⟨ks.length - (i + 1), by omega, i + 1, st', oc', oI₂, h', tk', rfl, hlt, rfl, J', hd', F', N', ⟨oI₂, z.1, rI₂⟩, ⟨_, zl.1, rfl, _, rfl⟩⟩
      | ret v => exact hf
      | brk => exact hf.elim
      | cont => exact hf.elim
    · obtain rfl : i = ks.length := Nat.le_antisymm hi (Nat.not_lt.mp hlt)
      refine W.done _ _ _ (by rw [List.size_toArray, hlen]; exact St) fun h₂ tk₂ hk₂ => ?_
      exact done st h₂ tk₂ oc vc hJ hoc (LCg.fr_but F₁ hk₂ hIL hI₀) (LCg.news_but (fun p hp => N₁ p (.tail _ hp)) hk₂ fun p hp => by
        rcases List.mem_cons.mp hp with rfl | hp
        · exact clIt
        · rcases List.mem_cons.mp hp with rfl | hp
          · exact cIt
          · exact ledIt st p hp)
  · rcases List.mem_cons.mp hp with rfl | hp
    · exact ⟨hget, Ne.symm hIL, hI₀⟩
    · exact ⟨up _ _ (N p hp).1, (N p hp).2⟩
end
end

-- part L6
section
/-- the bits of octets, each octet's highest bit first -/
def stream (D : List UInt8) (j : Nat) : Nat := bitAt (D.getD (j / 8) 0).toNat (8 - 1 - j % 8)
theorem stream_lt (D : List UInt8) (j : Nat) : stream D j < 2 := bitAt_lt _ _
theorem stream_at (D : List UInt8) (j : Nat) (i : Nat) (hi : i < 8) : stream D (8 * j + i) = bitAt (D.getD j 0).toNat (8 - 1 - (0 + i)) := by
  unfold stream
  have h1 : (8 * j + i) / 8 = j := by omega
  have h2 : (8 * j + i) % 8 = i := by omega
  rw [h1, h2, Nat.zero_add]
theorem stream_BE (D : List UInt8) (j : Nat) : BE (stream D) (8 * j) 8 = (D.getD j 0).toNat := by
  rw [BE_congr (γ := fun i => bitAt (D.getD j 0).toNat (8 - 1 - i)) (k' := 0) (stream_at D j), BE_rev, LE_bitAt]
  exact Nat.mod_eq_of_lt (UInt8.toNat_lt _)
theorem stream_LE (D : List UInt8) (j : Nat) : LE (stream D) (8 * j) 8 = turnN (D.getD j 0).toNat 8 := by
  rw [LE_congr (γ := fun i => bitAt (D.getD j 0).toNat (8 - 1 - i)) (k' := 0) (stream_at D j), ← LE_turnN]
theorem turnU_toNat (c : UInt8) : (turnU c).toNat = turnN c.toNat 8 := by
  have := turnN_lt c.toNat 8
  show turnN c.toNat 8 % 256 = _
  exact Nat.mod_eq_of_lt this
theorem getD_turn (D : List UInt8) {j : Nat} (hj : j < D.length) : ((D.map turnU).getD j 0).toNat = LE (stream D) (8 * j) 8 := by
  rw [stream_LE, List.getD_eq_getElem?_getD, List.getElem?_map, List.getElem?_eq_getElem hj]
  show (turnU D[j]).toNat = _
  rw [turnU_toNat, List.getD_eq_getElem?_getD, List.getElem?_eq_getElem hj]
  rfl
structure St7 where
  k : Nat
  ph : Nat
  ch : Nat
  a1 : Tok
  a2 : Tok
  a3 : Tok
  pw : Nat
  cw : Nat
  b1 : Tok
  b2 : Tok
  b3 : Tok
  o1 : Obj
  o2 : Obj
def IsCell (o : Obj) : Prop := ∃ v, o.data = Data.cell v
structure J7 (n : Nat) (st : St7) : Prop where
  h : InAt n st.k st.ph st.ch
  l : InAt n st.k st.pw st.cw
  c1 : IsCell st.o1
  c2 : IsCell st.o2
abbrev led7 (w : World) (x1 d1 x2 d2 : Addr) (k1 k2 k3 k4 q1 q2 q3 q4 : Tok) (D : List UInt8) (tD tT : Tok) (L : Addr) (R : List (Addr × Obj)) (st : St7) : List (Addr × Obj) :=
  (x1, instObj 177 d1) :: (d1, inDict w k1 k2 k3 k4 D tD st.ph st.a1 (BE (stream D) st.k st.ch) st.a2 st.ch st.a3) ::
  (x2, instObj 135 d2) :: (d2, inDict w q1 q2 q3 q4 (D.map turnU) tT st.pw st.b1 (LE (stream D) st.k st.cw) st.b2 st.cw st.b3) :: (L + 1 + 1 + 1, st.o1) :: (L + 1 + 1 + 1 + 1, st.o2) :: R
theorem ownOff_of {l : List (Addr × Obj)} {b : Addr} (h : ∀ a ∈ l.map (·.1), @Ne Nat a b) : OwnOff l [b] := fun p hp x hx => by
  rw [List.mem_singleton.mp hx]
  exact h _ (List.mem_map_of_mem hp)
theorem all_cons {a b : Nat} {l : List Nat} (h : a ≠ b) (hl : ∀ x ∈ l, x ≠ b) : ∀ x ∈ a :: l, x ≠ b := fun x hx => by
  rcases List.mem_cons.mp hx with rfl | hx
  · exact h
  · exact hl x hx
theorem all_nil {b : Nat} : ∀ x ∈ ([] : List Nat), x ≠ b := fun _ h => nomatch h
theorem off_cnt {L P C d1 x1 d2 x2 : Nat} (g3 : P < d1) (g5 : L + 1 + 1 + 1 + 1 < P) (g6 : L + 1 + 1 + 1 + 1 < C) (g7 : d1 < x1) (g8 : x1 < d2) (g9 : d2 < x2) :
    ∀ a ∈ [x1, d1, x2, d2, L + 1 + 1 + 1, L + 1 + 1 + 1 + 1, P, C, L + 1], a ≠ L + 1 + 1 :=
  all_cons (by omega) (all_cons (by omega) (all_cons (by omega) (all_cons (by omega) (all_cons (by omega) (all_cons (by omega) (all_cons (by omega) (all_cons (by omega) (all_cons (by omega) all_nil))))))))
theorem off_d1 {L P C CL d1 x1 d2 x2 : Nat} (g2 : CL < d1) (g3 : P < d1) (g4 : C < d1) (g5 : L + 1 + 1 + 1 + 1 < P) (g7 : d1 < x1) (g8 : x1 < d2) (g9 : d2 < x2) :
    ∀ a ∈ [CL, L + 1 + 1, x2, d2, L + 1 + 1 + 1, L + 1 + 1 + 1 + 1, P, C, L + 1], a ≠ d1 :=
  all_cons (by omega) (all_cons (by omega) (all_cons (by omega) (all_cons (by omega) (all_cons (by omega) (all_cons (by omega) (all_cons (by omega) (all_cons (by omega) (all_cons (by omega) all_nil))))))))
theorem off_d2 {L P C CL d1 x1 d2 : Nat} (g2 : CL < d1) (g3 : P < d1) (g4 : C < d1) (g5 : L + 1 + 1 + 1 + 1 < P) (g7 : d1 < x1) (g8 : x1 < d2) :
    ∀ a ∈ [CL, L + 1 + 1, x1, d1, L + 1 + 1 + 1, L + 1 + 1 + 1 + 1, P, C, L + 1], a ≠ d2 :=
  all_cons (by omega) (all_cons (by omega) (all_cons (by omega) (all_cons (by omega) (all_cons (by omega) (all_cons (by omega) (all_cons (by omega) (all_cons (by omega) (all_cons (by omega) all_nil))))))))
theorem inAt_left {n n' k p c p' c' : Nat} (h : InAt n k p c) (l : InAt n' k p' c') (e : n' = n) : c + 8 * (n - p) = c' + 8 * (n' - p') := by
  have := h.cnt7; have := h.at_; have := l.cnt7; have := l.at_
  omega
theorem no_1 {n n' m : Nat} (e : n' = n) (h : m ≤ 8 * n) (g : 8 * n' < m) : False := by omega
theorem no_2 {n n' m : Nat} (e : n' = n) (h : m ≤ 8 * n') (g : 8 * n < m) : False := by omega
section
variable {w : World} {p : Program} {loose : List Str} {mean : ExcName → Option Value} {mg mb : Str → Option Value} {a : Addr} {ccd : Value} {h₀ : Heap} {L : Addr} {s : Shared} {m₀ : Str → Option Value}
set_option maxHeartbeats 8000000 in
theorem s7_c {Q : Flow → Shared → Prop} {x1 d1 x2 d2 P C CL : Addr} {k1 k2 k3 k4 q1 q2 q3 q4 : Tok} {D : List UInt8} {tD tT ti tr : Tok} {vs ys : List Value} {cs : List Nat} {ii rr : Nat} {oP oc : Obj} {st₀ : St7}
    (B : Below callerA h₀ [] h₀) (X : (Pre.hd.heap_1 w.params).In h₀) (T : Top p loose mean mg mb h₀)
    (F : Fr h₀ L s.heap (fun z => if z = Str.ofString "counts" then some (.ref CL) else if z = Str.ofString "high" then some (.ref x1) else if z = Str.ofString "low" then some (.ref x2) else m₀ z))
    (N : News h₀ L s.heap ((CL, LCg.lst ys) :: (L + 1 + 1, oc) :: led7 w x1 d1 x2 d2 k1 k2 k3 k4 q1 q2 q3 q4 D tD tT L ((P, listOf #[.ref C, .int ((ii : Nat) : Int) ti, .int ((rr : Nat) : Int) tr] 0) :: (C, listOf vs.toArray 0) :: (L + 1, oP) :: []) st₀))
    (hCL : @Ne Nat (L + 1 + 1) CL ∧ @Ne Nat (L + 1 + 1 + 1) CL ∧ @Ne Nat (L + 1 + 1 + 1 + 1) CL)
    (hord : Nat.lt CL d1 ∧ Nat.lt P d1 ∧ Nat.lt C d1 ∧ Nat.lt (L + 1 + 1 + 1 + 1) P ∧ Nat.lt (L + 1 + 1 + 1 + 1) C ∧ Nat.lt d1 x1 ∧ Nat.lt x1 d2 ∧ Nat.lt d2 x2)
    (dCnt : IsCell oc) (hD8 : D.length ≤ 8) (hcs : Cnts ys cs) (hJ : J7 D.length st₀)
    (hret : ∀ h' tk' oc' (st' : St7), Fr h₀ L h' (fun z => if z = Str.ofString "counts" then some (.ref CL) else if z = Str.ofString "high" then some (.ref x1) else if z = Str.ofString "low" then some (.ref x2) else m₀ z) → IsCell oc' →
      News h₀ L h' ((CL, LCg.lst ys) :: (L + 1 + 1, oc') :: (P, listOf #[.ref C, .int ((ii : Nat) : Int) ti, .int ((rr : Nat) : Int) tr] 0) :: (C, listOf vs.toArray 0) :: (L + 1, oP) :: []) → Q .next { s with heap := h', toks := tk' }) :
    wpF (model PySem.Challenge.pw_og0154_01 w) (callerA.deeper (envOfC (Str.ofString "law") lawScope L a ccd)) (exec ((lawBody.drop 6).headD (.Return none ⟨0, 0, 0, 0⟩)) (envOfC (Str.ofString "law") lawScope L a ccd)) Q s := by
  conv in (occs := *) lawScope => all_goals whnf
  conv in List.headD _ _ => whnf
  w_on
  have hordN : @LT.lt Nat _ CL d1 ∧ @LT.lt Nat _ P d1 ∧ @LT.lt Nat _ C d1 ∧ @LT.lt Nat _ (L + 1 + 1 + 1 + 1) P ∧ @LT.lt Nat _ (L + 1 + 1 + 1 + 1) C ∧ @LT.lt Nat _ d1 x1 ∧ @LT.lt Nat _ x1 d2 ∧ @LT.lt Nat _ d2 x2 := hord
  clear hord
  obtain ⟨g2, g3, g4, g5, g6, g7, g8, g9⟩ := hordN
  obtain ⟨g1, g1b, g1c⟩ := hCL
  refine forF ?_
  obtain ⟨v₀, hcd⟩ := dCnt
  repeat' ((fail_if_success (with_reducible show wpAny _ _ (pyIter _) _ _ _)); (first | (k_unfold; (try dsimp only)) | (k_end; wrow_close) | walk1 | (dsimp only; walk1) | (leave1; walk_say "STEP leave1"; try dsimp only) | fail "no step"))
  refine loopCellF (fun st => led7 w x1 d1 x2 d2 k1 k2 k3 k4 q1 q2 q3 q4 D tD tT L ((P, listOf #[.ref C, .int ((ii : Nat) : Int) ti, .int ((rr : Nat) : Int) tr] 0) :: (C, listOf vs.toArray 0) :: (L + 1, oP) :: []) st) (fun _ => _) (fun _ st => J7 D.length st) st₀ (by rfl) hcs
    (by rfl) (by rfl) (by rfl) F N (fun _ h => h) hcd ?_ ?_ (fun _ => rfl) hJ ?_ ?_
  · exact Ne.symm g1
  · exact ownOff_of (off_cnt g3 g5 g6 g7 g8 g9)
  · rintro i ⟨k, ph, ch, a1, a2, a3, pw, cw, b1, b2, b3, o1, o2⟩ c t It oI oc h tk hi hc hc20 ⟨Ih, Il, ⟨v1, c1⟩, ⟨v2, c2⟩⟩ hoc F1 N1 off
    simp only [LCg.Off1, and_true] at off
    clear N F
    dsimp only [led7] at Ih Il c1 c2 N1 off ⊢
    obtain ⟨f1, f2, f3, f4, f5, f6, f7, f8, f9, f10, f11⟩ := off
    have hD1 := off_d1 g2 g3 g4 g5 g7 g8 g9
    have hD2 := off_d2 g2 g3 g4 g5 g7 g8
    refine execsF_off ?_
    repeat' ((fail_if_success (with_reducible show wpAny _ _ (call (Value.ref _) _) _ _ _)); (first | (k_unfold; (try dsimp only)) | (k_end; wrow_close) | walk1 | (dsimp only; walk1) | (leave1; walk_say "STEP leave1"; try dsimp only) | fail "no step"))
    have NH := News.sub N1 (l' := (x1, instObj 177 d1) :: (d1, inDict w k1 k2 k3 k4 D tD ph a1 (BE (stream D) k ch) a2 ch a3) :: (It, oI) :: (CL, LCg.lst ys) :: (L + 1 + 1, oc) ::
      (x2, instObj 135 d2) :: (d2, inDict w q1 q2 q3 q4 (D.map turnU) tT pw b1 (LE (stream D) k cw) b2 cw b3) :: (L + 1 + 1 + 1, o1) :: (L + 1 + 1 + 1 + 1, o2) ::
      (P, listOf #[.ref C, .int ((ii : Nat) : Int) ti, .int ((rr : Nat) : Int) tr] 0) :: (C, listOf vs.toArray 0) :: (L + 1, oP) :: []) (by kcf_all)
    have hOff1 : OwnOff ((It, oI) :: (CL, LCg.lst ys) :: (L + 1 + 1, oc) :: (x2, instObj 135 d2) :: (d2, inDict w q1 q2 q3 q4 (D.map turnU) tT pw b1 (LE (stream D) k cw) b2 cw b3) :: (L + 1 + 1 + 1, o1) :: (L + 1 + 1 + 1 + 1, o2) ::
      (P, listOf #[.ref C, .int ((ii : Nat) : Int) ti, .int ((rr : Nat) : Int) tr] 0) :: (C, listOf vs.toArray 0) :: (L + 1, oP) :: []) [d1] := ownOff_of (all_cons (Ne.symm f4) hD1)
    have hDl : (D.map turnU).length = D.length := List.length_map ..
    refine' takenh_c (β := stream D) (D := D) (k := k) (cnt := ch) (c := c) ?B ?F ?X ?T X T ?hk ?hr ?hu NH (Nat.ne_of_lt g7) hOff1 (stream_lt D) hD8 (fun j _ => (stream_BE D j).symm) Ih hc20 (fun t5 ph' a1' a2' ch' a3' h5 tk5 hle Ih' F5 N5 => ?_) (fun hgt h5 tk5 F5 N5 => ?_)
    (case B => k_asm); (case F => k_asm); (case X => k_asm); (case T => k_asm); (case hk => first | exact rfl | assumption); (case hr => ktr_room); (case hu => ktr_units)
    · clear hOff1
      repeat' ((fail_if_success (with_reducible show wpAny _ _ (call (Value.ref _) _) _ _ _)); (first | (k_unfold; (try dsimp only)) | (k_end; wrow_close) | walk1 | (dsimp only; walk1) | (leave1; walk_say "STEP leave1"; try dsimp only) | fail "no step"))
      have NL := News.sub N5 (l' := (x2, instObj 135 d2) :: (d2, inDict w q1 q2 q3 q4 (D.map turnU) tT pw b1 (LE (stream D) k cw) b2 cw b3) :: (It, oI) :: (CL, LCg.lst ys) :: (L + 1 + 1, oc) ::
        (x1, instObj 177 d1) :: (d1, inDict w k1 k2 k3 k4 D tD ph' a1' (BE (stream D) (k + c) ch') a2' ch' a3') :: (L + 1 + 1 + 1, o1) :: (L + 1 + 1 + 1 + 1, o2) ::
        (P, listOf #[.ref C, .int ((ii : Nat) : Int) ti, .int ((rr : Nat) : Int) tr] 0) :: (C, listOf vs.toArray 0) :: (L + 1, oP) :: []) (by kcf_all)
      have hOff2 : OwnOff ((It, oI) :: (CL, LCg.lst ys) :: (L + 1 + 1, oc) :: (x1, instObj 177 d1) :: (d1, inDict w k1 k2 k3 k4 D tD ph' a1' (BE (stream D) (k + c) ch') a2' ch' a3') :: (L + 1 + 1 + 1, o1) :: (L + 1 + 1 + 1 + 1, o2) ::
        (P, listOf #[.ref C, .int ((ii : Nat) : Int) ti, .int ((rr : Nat) : Int) tr] 0) :: (C, listOf vs.toArray 0) :: (L + 1, oP) :: []) [d2] := ownOff_of (all_cons (Ne.symm f6) hD2)
      refine' takenl_c (β := stream D) (D := D.map turnU) (k := k) (cnt := cw) (c := c) ?B ?F ?X ?T X T ?hk ?hr ?hu NL (Nat.ne_of_lt g9) hOff2 (stream_lt D) (Nat.le_trans (Nat.le_of_eq hDl) hD8) (fun j hj => getD_turn D (hDl ▸ hj)) (hDl.symm ▸ Il) hc20 (fun t6 pw' b1' b2' cw' b3' h6 tk6 hle2 Il' F6 N6 => ?_) (fun hgt2 h6 tk6 F6 N6 => ?_)
      (case B => k_asm); (case F => k_asm); (case X => k_asm); (case T => k_asm); (case hk => first | exact rfl | assumption); (case hr => ktr_room); (case hu => ktr_units)
      · clear hOff2 f1 f2 f3 f4 f5 f6 f9 f10 f11 hD1 hD2
        repeat' ((first | (k_unfold; (try dsimp only)) | (k_end; wrow_close) | walk1 | (dsimp only; walk1) | (leave1; walk_say "STEP leave1"; try dsimp only) | fail "no step"))
        refine execsF_off ?_
        repeat' ((fail_if_success (with_reducible show wpAny _ _ (call (Value.ref _) _) _ _ _)); (first | (k_unfold; (try dsimp only)) | (k_end; wrow_close) | walk1 | (dsimp only; walk1) | (leave1; walk_say "STEP leave1"; try dsimp only) | fail "no step"))
        rename News _ _ _ _ => nS
        rename_i o1n e1 hx3 o2n F8 e2
        dsimp only
        have NA := News.sub nS (l' := (x1, instObj 177 d1) :: (d1, inDict w k1 k2 k3 k4 D tD ph' a1' (BE (stream D) (k + c) ch') a2' ch' a3') :: (x2, instObj 135 d2) :: (d2, inDict w q1 q2 q3 q4 (D.map turnU) tT pw' b1' (LE (stream D) (k + c) cw') b2' cw' b3') :: (It, oI) :: (CL, LCg.lst ys) :: (L + 1 + 1, oc) :: (L + 1 + 1 + 1, o1n) :: (L + 1 + 1 + 1 + 1, o2n) :: (P, listOf #[.ref C, .int ((ii : Nat) : Int) ti, .int ((rr : Nat) : Int) tr] 0) :: (C, listOf vs.toArray 0) :: (L + 1, oP) :: []) (by kcf_all)
        clear nS
        have hleft : ch' + 8 * (D.length - ph') = cw' + 8 * ((D.map turnU).length - pw') := inAt_left Ih' Il' hDl
        refine' lefth_c ?B ?F ?X ?T ?hk ?hr ?hu NA Ih'.le hD8 (fun t7 h7 tk7 F9 N9 => ?_)
        (case B => k_asm); (case F => k_asm); (case X => k_asm); (case T => k_asm); (case hk => first | exact rfl | assumption); (case hr => ktr_room); (case hu => ktr_units)
        repeat' ((fail_if_success (with_reducible show wpAny _ _ (call (Value.ref _) _) _ _ _)); (first | (k_unfold; (try dsimp only)) | (k_end; wrow_close) | walk1 | (dsimp only; walk1) | (leave1; walk_say "STEP leave1"; try dsimp only) | fail "no step"))
        dsimp only
        have NB := News.sub N9 (l' := (x2, instObj 135 d2) :: (d2, inDict w q1 q2 q3 q4 (D.map turnU) tT pw' b1' (LE (stream D) (k + c) cw') b2' cw' b3') :: (x1, instObj 177 d1) :: (d1, inDict w k1 k2 k3 k4 D tD ph' a1' (BE (stream D) (k + c) ch') a2' ch' a3') :: (It, oI) :: (CL, LCg.lst ys) :: (L + 1 + 1, oc) :: (L + 1 + 1 + 1, o1n) :: (L + 1 + 1 + 1 + 1, o2n) :: (P, listOf #[.ref C, .int ((ii : Nat) : Int) ti, .int ((rr : Nat) : Int) tr] 0) :: (C, listOf vs.toArray 0) :: (L + 1, oP) :: []) (by kcf_all)
        refine' leftl_c ?B ?F ?X ?T ?hk ?hr ?hu NB Il'.le (Nat.le_trans (Nat.le_of_eq hDl) hD8) (fun t8 h8 tk8 F10 N10 => ?_)
        (case B => k_asm); (case F => k_asm); (case X => k_asm); (case T => k_asm); (case hk => first | exact rfl | assumption); (case hr => ktr_room); (case hu => ktr_units)
        rw [← hleft]
        repeat' ((fail_if_success (with_reducible show wpAny _ _ (eval (Expr.ListComp _ _ _ _) _) _ _ _)); (first | (k_unfold; (try dsimp only)) | (k_end; wrow_close) | walk1 | (dsimp only; walk1) | (leave1; walk_say "STEP leave1"; try dsimp only) | fail "no step"))
        · exact absurd rfl (by assumption)
        · dsimp only
          have hT : turnN (LE (stream D) k c) c = BE (stream D) k c := turnN_LE (stream_lt D) k c
          refine execsF_off ?_
          repeat' ((fail_if_success (with_reducible show wpAny _ _ (eval (Expr.ListComp _ _ _ _) _) _ _ _)); (first | (k_unfold; (try dsimp only)) | (k_end; wrow_close) | walk1 | (dsimp only; walk1) | (leave1; walk_say "STEP leave1"; try dsimp only) | fail "no step"))
          · exact absurd (congrArg (fun n : Nat => ((n : Nat) : Int)) hT.symm) (by assumption)
          · refine LCg.ListComp_U (F₀ := by k_asm) (by with_unfolding_all rfl) (by decide) (by rfl) (by decide) (by rfl) ?_
            repeat' ((fail_if_success (with_reducible show LCg.CompSrc _ _ _ _ _ _ _ _ _ _ _ _ _ _)); (first | (k_unfold; (try dsimp only)) | (k_end; wrow_close) | walk1 | (dsimp only; walk1) | (leave1; walk_say "STEP leave1"; try dsimp only) | fail "no step"))
            rename IsRange _ _ _ _ _ _ _ _ => rg1
            refine LCg.CompSrc.range (by rfl) (by k_asm) (by k_asm) rg1 (small_c hc20) (rangeSize_nat _ _) (size_c hc20) ?_
            intro gA
            refine restU (fun i ys => FunAre ys (bitAt (BE (stream D) k c)) i) fun_nil ?_ ?_
            · rintro i ys v I oI CC oC DD m₂ h tk E' hi hJ ⟨tv, rfl⟩ hC hx F4 N4 off ne
              have off0 := off
              simp only [LCg.Off3, and_true] at off
              have e0 : (0 : Int) + (i : Int) = ((i : Nat) : Int) := Int.zero_add _
              replace hi := lt_c hi
              rw [e0] at hx
              repeat' ((fail_if_success (with_reducible show wpAny _ _ (binaryOp _ _ _) _ _ _)); (first | (k_unfold; (try dsimp only)) | (k_end; wrow_close) | walk1 | (dsimp only; walk1) | (leave1; walk_say "STEP leave1"; try dsimp only) | fail "no step"))
              refine shr_N rfl rfl ?_
              repeat' ((fail_if_success (with_reducible show wpAny _ _ (binaryOp _ _ _) _ _ _)); (first | (k_unfold; (try dsimp only)) | (k_end; wrow_close) | walk1 | (dsimp only; walk1) | (leave1; walk_say "STEP leave1"; try dsimp only) | fail "no step"))
              refine and_N (y := 1) rfl rfl ?_
              exact LCg.CompEnd.intro F4 N4 _ (fun _ h => h) off0 trivial ⟨rfl, fun_snoc hJ⟩
            · intro ys1 hy1
              intro D1 hA3 tkA3 F7 N7 oo
              rw [toNat_c] at hy1
              simp only [LCg.Off1, and_true] at oo
              clear rg1
              k_sweep
              repeat' ((fail_if_success (with_reducible show wpAny _ _ (eval (Expr.ListComp _ _ _ _) _) _ _ _)); (first | (k_unfold; (try dsimp only)) | (k_end; wrow_close) | walk1 | (dsimp only; walk1) | (leave1; walk_say "STEP leave1"; try dsimp only) | fail "no step"))
              refine LCg.ListComp_U (F₀ := by k_asm) (by with_unfolding_all rfl) (by decide) (by rfl) (by decide) (by rfl) ?_
              repeat' ((fail_if_success (with_reducible show LCg.CompSrc _ _ _ _ _ _ _ _ _ _ _ _ _ _)); (first | (k_unfold; (try dsimp only)) | (k_end; wrow_close) | walk1 | (dsimp only; walk1) | (leave1; walk_say "STEP leave1"; try dsimp only) | fail "no step"))
              rename IsRange _ _ _ _ _ _ _ _ => rg1
              refine LCg.CompSrc.range (by rfl) (by k_asm) (by k_asm) rg1 (small_c hc20) (rangeSize_nat _ _) (size_c hc20) ?_
              intro gA
              refine restU (fun i ys => FunAre ys (fun j => bitAt (LE (stream D) k c) (c - 1 - j)) i) fun_nil ?_ ?_
              · rintro i ys v I oI CC oC DD m₂ h tk E' hi hJ ⟨tv, rfl⟩ hC hx F4 N4 off ne
                have off0 := off
                simp only [LCg.Off3, and_true] at off
                have e0 : (0 : Int) + (i : Int) = ((i : Nat) : Int) := Int.zero_add _
                replace hi := lt_c hi
                rw [e0] at hx
                repeat' ((fail_if_success (with_reducible show wpAny _ _ (binaryOp _ _ _) _ _ _)); (first | (k_unfold; (try dsimp only)) | (k_end; wrow_close) | walk1 | (dsimp only; walk1) | (leave1; walk_say "STEP leave1"; try dsimp only) | fail "no step"))
                refine sub_N (y := 1) rfl rfl (one_le_c hi) ?_
                repeat' ((fail_if_success (with_reducible show wpAny _ _ (binaryOp _ _ _) _ _ _)); (first | (k_unfold; (try dsimp only)) | (k_end; wrow_close) | walk1 | (dsimp only; walk1) | (leave1; walk_say "STEP leave1"; try dsimp only) | fail "no step"))
                refine sub_N rfl rfl (le_c hi) ?_
                repeat' ((fail_if_success (with_reducible show wpAny _ _ (binaryOp _ _ _) _ _ _)); (first | (k_unfold; (try dsimp only)) | (k_end; wrow_close) | walk1 | (dsimp only; walk1) | (leave1; walk_say "STEP leave1"; try dsimp only) | fail "no step"))
                refine shr_N rfl rfl ?_
                repeat' ((fail_if_success (with_reducible show wpAny _ _ (binaryOp _ _ _) _ _ _)); (first | (k_unfold; (try dsimp only)) | (k_end; wrow_close) | walk1 | (dsimp only; walk1) | (leave1; walk_say "STEP leave1"; try dsimp only) | fail "no step"))
                refine and_N (y := 1) rfl rfl ?_
                exact LCg.CompEnd.intro F4 N4 _ (fun _ h => h) off0 trivial ⟨rfl, fun_snoc hJ⟩
              · intro ys2 hy2
                intro D2 hA3 tkA3 F7 N7 oo
                rw [toNat_c] at hy2
                replace hy2 := fun_congr (g := bitAt (BE (stream D) k c)) hy2 fun j hj => turn_same _ (stream_lt D) hj
                simp only [LCg.Off1, and_true] at oo
                clear rg1
                k_sweep
                refine ke_ne_ints (xs := ys1) (ys := ys2) ⟨_, (N7 _ (.tail _ (.head _))).1, rfl, _, rfl⟩ ⟨_, (N7 _ (.head _)).1, rfl, _, rfl⟩ hy1 hy2 (by ke_room) ?_
                rw [decide_eq_true rfl]
                repeat' ((first | (k_unfold; (try dsimp only)) | (k_end; wrow_close) | walk1 | (dsimp only; walk1) | (leave1; walk_say "STEP leave1"; try dsimp only) | fail "no step"))
                exact execsF_nil (EndC.intro (⟨k + c, ph', ch', a1', a2', a3', pw', cw', b1', b2', b3', o1n, o2n⟩ : St7) hoc F7 N7 (by kcf_all) ⟨Ih', hDl ▸ Il', ⟨_, e1⟩, ⟨_, e2⟩⟩)
      · exact (no_1 hDl hle hgt2).elim
    · clear hOff1
      repeat' ((fail_if_success (with_reducible show wpAny _ _ (call (Value.ref _) _) _ _ _)); (first | (k_unfold; (try dsimp only)) | (k_end; wrow_close) | walk1 | (dsimp only; walk1) | (leave1; walk_say "STEP leave1"; try dsimp only) | fail "no step"))
      have NL := News.sub N5 (l' := (x2, instObj 135 d2) :: (d2, inDict w q1 q2 q3 q4 (D.map turnU) tT pw b1 (LE (stream D) k cw) b2 cw b3) :: (It, oI) :: (CL, LCg.lst ys) :: (L + 1 + 1, oc) :: (x1, instObj 177 d1) :: (d1, inDict w k1 k2 k3 k4 D tD ph a1 (BE (stream D) k ch) a2 ch a3) :: (L + 1 + 1 + 1, o1) :: (L + 1 + 1 + 1 + 1, o2) :: (P, listOf #[.ref C, .int ((ii : Nat) : Int) ti, .int ((rr : Nat) : Int) tr] 0) :: (C, listOf vs.toArray 0) :: (L + 1, oP) :: []) (by kcf_all)
      have hOff2 : OwnOff ((It, oI) :: (CL, LCg.lst ys) :: (L + 1 + 1, oc) :: (x1, instObj 177 d1) :: (d1, inDict w k1 k2 k3 k4 D tD ph a1 (BE (stream D) k ch) a2 ch a3) :: (L + 1 + 1 + 1, o1) :: (L + 1 + 1 + 1 + 1, o2) :: (P, listOf #[.ref C, .int ((ii : Nat) : Int) ti, .int ((rr : Nat) : Int) tr] 0) :: (C, listOf vs.toArray 0) :: (L + 1, oP) :: []) [d2] := ownOff_of (all_cons (Ne.symm f6) hD2)
      refine' takenl_c (β := stream D) (D := D.map turnU) (k := k) (cnt := cw) (c := c) ?B ?F ?X ?T X T ?hk ?hr ?hu NL (Nat.ne_of_lt g9) hOff2 (stream_lt D) (Nat.le_trans (Nat.le_of_eq hDl) hD8) (fun j hj => getD_turn D (hDl ▸ hj)) (hDl.symm ▸ Il) hc20 (fun t6 pw' b1' b2' cw' b3' h6 tk6 hle2 Il' F6 N6 => ?_) (fun hgt2 h6 tk6 F6 N6 => ?_)
      (case B => k_asm); (case F => k_asm); (case X => k_asm); (case T => k_asm); (case hk => first | exact rfl | assumption); (case hr => ktr_room); (case hu => ktr_units)
      · exact (no_2 hDl hle2 hgt).elim
      · clear hOff2 f1 f2 f3 f4 f5 f6 f9 f10 f11 hD1 hD2
        repeat' ((first | (k_unfold; (try dsimp only)) | (k_end; wrow_close) | walk1 | (dsimp only; walk1) | (leave1; walk_say "STEP leave1"; try dsimp only) | fail "no step"))
        refine execsF_off ?_
        repeat' ((fail_if_success (with_reducible show wpAny _ _ (call (Value.ref _) _) _ _ _)); (first | (k_unfold; (try dsimp only)) | (k_end; wrow_close) | walk1 | (dsimp only; walk1) | (leave1; walk_say "STEP leave1"; try dsimp only) | fail "no step"))
        rename News _ _ _ _ => nS
        rename_i o1n e1 hx3 o2n F8 e2
        dsimp only
        have NA := News.sub nS (l' := (x1, instObj 177 d1) :: (d1, inDict w k1 k2 k3 k4 D tD ph a1 (BE (stream D) k ch) a2 ch a3) :: (x2, instObj 135 d2) :: (d2, inDict w q1 q2 q3 q4 (D.map turnU) tT pw b1 (LE (stream D) k cw) b2 cw b3) :: (It, oI) :: (CL, LCg.lst ys) :: (L + 1 + 1, oc) :: (L + 1 + 1 + 1, o1n) :: (L + 1 + 1 + 1 + 1, o2n) :: (P, listOf #[.ref C, .int ((ii : Nat) : Int) ti, .int ((rr : Nat) : Int) tr] 0) :: (C, listOf vs.toArray 0) :: (L + 1, oP) :: []) (by kcf_all)
        clear nS
        have hleft : ch + 8 * (D.length - ph) = cw + 8 * ((D.map turnU).length - pw) := inAt_left Ih (hDl.symm ▸ Il) hDl
        refine' lefth_c ?B ?F ?X ?T ?hk ?hr ?hu NA Ih.le hD8 (fun t7 h7 tk7 F9 N9 => ?_)
        (case B => k_asm); (case F => k_asm); (case X => k_asm); (case T => k_asm); (case hk => first | exact rfl | assumption); (case hr => ktr_room); (case hu => ktr_units)
        repeat' ((fail_if_success (with_reducible show wpAny _ _ (call (Value.ref _) _) _ _ _)); (first | (k_unfold; (try dsimp only)) | (k_end; wrow_close) | walk1 | (dsimp only; walk1) | (leave1; walk_say "STEP leave1"; try dsimp only) | fail "no step"))
        dsimp only
        have NB := News.sub N9 (l' := (x2, instObj 135 d2) :: (d2, inDict w q1 q2 q3 q4 (D.map turnU) tT pw b1 (LE (stream D) k cw) b2 cw b3) :: (x1, instObj 177 d1) :: (d1, inDict w k1 k2 k3 k4 D tD ph a1 (BE (stream D) k ch) a2 ch a3) :: (It, oI) :: (CL, LCg.lst ys) :: (L + 1 + 1, oc) :: (L + 1 + 1 + 1, o1n) :: (L + 1 + 1 + 1 + 1, o2n) :: (P, listOf #[.ref C, .int ((ii : Nat) : Int) ti, .int ((rr : Nat) : Int) tr] 0) :: (C, listOf vs.toArray 0) :: (L + 1, oP) :: []) (by kcf_all)
        refine' leftl_c ?B ?F ?X ?T ?hk ?hr ?hu NB (hDl.symm ▸ Il.le) (Nat.le_trans (Nat.le_of_eq hDl) hD8) (fun t8 h8 tk8 F10 N10 => ?_)
        (case B => k_asm); (case F => k_asm); (case X => k_asm); (case T => k_asm); (case hk => first | exact rfl | assumption); (case hr => ktr_room); (case hu => ktr_units)
        rw [← hleft]
        repeat' ((fail_if_success (with_reducible show wpAny _ _ (eval (Expr.ListComp _ _ _ _) _) _ _ _)); (first | (k_unfold; (try dsimp only)) | (k_end; wrow_close) | walk1 | (dsimp only; walk1) | (leave1; walk_say "STEP leave1"; try dsimp only) | fail "no step"))
        · exact absurd rfl (by assumption)
        · dsimp only
          refine execsF_off ?_
          repeat' ((fail_if_success (with_reducible show wpAny _ _ (eval (Expr.ListComp _ _ _ _) _) _ _ _)); (first | (k_unfold; (try dsimp only)) | (k_end; wrow_close) | walk1 | (dsimp only; walk1) | (leave1; walk_say "STEP leave1"; try dsimp only) | fail "no step"))
          exact execsF_nil (EndC.intro (⟨k, ph, ch, a1, a2, a3, pw, cw, b1, b2, b3, o1n, o2n⟩ : St7) hoc F10 N10 (by kcf_all) ⟨Ih, Il, ⟨_, e1⟩, ⟨_, e2⟩⟩)
  · intro st h tk oc v _ hv F1 N1
    exact hret h tk oc st F1 ⟨v, hv⟩ (News.sub N1 (by kcf_all))
end
end

-- part L7
section
/-- bits γ up to T, then the c bits of d, the highest first -/
def ext (γ : Nat → Nat) (T c d : Nat) (j : Nat) : Nat := if j < T then γ j else if j < T + c then bitAt d (c - 1 - (j - T)) else 0
theorem ext_lt {γ : Nat → Nat} (h : ∀ j, γ j < 2) (T c d j : Nat) : ext γ T c d j < 2 := by
  unfold ext
  split
  · exact h j
  · split
    · exact bitAt_lt _ _
    · decide
theorem ext_zero {γ : Nat → Nat} {T c d j : Nat} (h : T + c ≤ j) : ext γ T c d j = 0 := by
  unfold ext
  rw [if_neg (by omega), if_neg (by omega)]
theorem ext_old {γ : Nat → Nat} {T c d j : Nat} (h : j < T) : γ j = ext γ T c d j := by
  unfold ext
  rw [if_pos h]
theorem ext_BE {γ : Nat → Nat} {T c d : Nat} (h : d < 2 ^ c) : d = BE (ext γ T c d) T c := by
  rw [BE_congr (γ := fun i => bitAt d (c - 1 - i)) (k' := 0), BE_rev, LE_bitAt]
  · exact (Nat.mod_eq_of_lt h).symm
  · intro i hi
    unfold ext
    rw [if_neg (by omega), if_pos (by omega), Nat.add_sub_cancel_left, Nat.zero_add]
theorem ext_LE {γ : Nat → Nat} (hγ : ∀ j, γ j < 2) {T c d : Nat} (h : d < 2 ^ c) : turnN d c = LE (ext γ T c d) T c := by
  have := turnN_BE (ext_lt hγ T c d) T c
  rw [← ext_BE h] at this
  exact this
theorem BE_ext {γ : Nat → Nat} {T c d k n : Nat} (h : k + n ≤ T) : BE γ k n = BE (ext γ T c d) k n := BE_congr fun i hi => ext_old (by omega)
theorem LE_ext {γ : Nat → Nat} {T c d k n : Nat} (h : k + n ≤ T) : LE γ k n = LE (ext γ T c d) k n := LE_congr fun i hi => ext_old (by omega)
structure St10 where
  T : Nat
  γ : Nat → Nat
  b1 : Array UInt8
  c1 : Nat
  t1 : Tok
  u1 : Tok
  b2 : Array UInt8
  c2 : Nat
  t2 : Tok
  u2 : Tok
  i : Nat
  r : Nat
  ti : Tok
  tr : Tok
  tt : Tok
  vv : Option Value
structure J10 (n : Nat) (st : St10) : Prop where
  g : ∀ j, st.γ j < 2
  z : ∀ j, st.T ≤ j → st.γ j = 0
  e1 : 8 * st.b1.size + st.c1 = st.T
  l1 : st.c1 ≤ 7
  m1 : ∀ j, j < st.b1.size → (st.b1.getD j 0).toNat = BE st.γ (8 * j) 8
  e2 : 8 * st.b2.size + st.c2 = st.T
  l2 : st.c2 ≤ 7
  m2 : ∀ j, j < st.b2.size → (st.b2.getD j 0).toNat = LE st.γ (8 * j) 8
  t : st.T ≤ 20 * n
  p : st.i ≤ 26 + n
abbrev led10 (w : World) (x1 d1 M1 x2 d2 M2 : Addr) (k1 k2 k3 q1 q2 q3 : Tok) (P C : Addr) (vs : List Value) (R : List (Addr × Obj)) (st : St10) : List (Addr × Obj) :=
  (x1, instObj 275 d1) :: (d1, outDict w k1 k2 k3 M1 (BE st.γ (8 * st.b1.size) st.c1) st.t1 st.c1 st.u1) :: (M1, baO st.b1) ::
  (x2, instObj 233 d2) :: (d2, outDict w q1 q2 q3 M2 (LE st.γ (8 * st.b2.size) st.c2) st.t2 st.c2 st.u2) :: (M2, baO st.b2) ::
  (P, listOf #[.ref C, .int ((st.i : Nat) : Int) st.ti, .int ((st.r : Nat) : Int) st.tr] 0) :: (C, listOf vs.toArray 0) :: R
abbrev m10 (x1 x2 CL : Addr) (m₀ : Str → Option Value) (st : St10) : Str → Option Value := fun z =>
  if z = Str.ofString "total" then some (.int ((st.T : Nat) : Int) st.tt) else if z = Str.ofString "value" then st.vv else if z = Str.ofString "upper" then some (.ref x1) else if z = Str.ofString "lower" then some (.ref x2) else if z = Str.ofString "counts" then some (.ref CL) else m₀ z
theorem two_shl {c : Nat} (hc : c ≤ 20) : 1 ≤ 1 <<< c ∧ 1 <<< c ≤ 1048576 ∧ ∀ d, d < 1 <<< c → d < 2 ^ c := by
  rw [Nat.shiftLeft_eq, Nat.one_mul]
  exact ⟨Nat.one_le_two_pow, Nat.pow_le_pow_right (by decide) hc, fun _ h => h⟩
theorem ownOff2_nil {a b : Addr} : OwnOff [] [a, b] := fun _ h => nomatch h
theorem ownOff2_cons {q : Addr × Obj} {l : List (Addr × Obj)} {a b : Addr} (h : @Ne Nat q.1 a) (h2 : @Ne Nat q.1 b) (hr : OwnOff l [a, b]) : OwnOff (q :: l) [a, b] := fun p hp x hx => by
  rcases List.mem_cons.mp hp with rfl | hp
  · rcases List.mem_cons.mp hx with rfl | hx
    · exact h
    · rcases List.mem_singleton.mp hx with rfl
      exact h2
  · exact hr p hp x hx
theorem ownOff_ne {l : List (Addr × Obj)} {B : List Addr} (h : OwnOff l B) : ∀ a ∈ l.map (·.1), ∀ b ∈ B, @Ne Nat a b := fun a ha b hb => by
  obtain ⟨p, hp, rfl⟩ := List.mem_map.mp ha
  exact h p hp b hb
section
variable {w : World} {p : Program} {loose : List Str} {mean : ExcName → Option Value} {mg mb : Str → Option Value} {a : Addr} {ccd : Value} {h₀ : Heap} {L : Addr} {s : Shared} {m₀ : Str → Option Value}
theorem m10_next {h : Heap} {x1 x2 CL : Addr} {st st' : St10} (F : Fr h₀ L h (fun y => if y = Str.ofString "total" then some (.int ((st'.T : Nat) : Int) st'.tt) else if y = Str.ofString "value" then st'.vv else m10 x1 x2 CL m₀ st y)) : Fr h₀ L h (m10 x1 x2 CL m₀ st') := by
  have e : m10 x1 x2 CL m₀ st' = (fun y => if y = Str.ofString "total" then some (.int ((st'.T : Nat) : Int) st'.tt) else if y = Str.ofString "value" then st'.vv else m10 x1 x2 CL m₀ st y) := funext fun y => by
    unfold m10
    by_cases h1 : y = Str.ofString "total"
    · rw [if_pos h1, if_pos h1]
    · rw [if_neg h1, if_neg h1]
      by_cases h2 : y = Str.ofString "value"
      · rw [if_pos h2, if_pos h2]
      · rw [if_neg h2, if_neg h2, if_neg h1, if_neg h2]
  rw [e]; exact F
set_option maxHeartbeats 8000000 in
theorem s10_c {Q : Flow → Shared → Prop} {x1 d1 M1 x2 d2 M2 P C CL : Addr} {k1 k2 k3 q1 q2 q3 : Tok} {vs ys : List Value} {cs : List Nat} {oP oc : Obj} {st₀ : St10}
    (B : Below callerA h₀ [] h₀) (X : (Pre.hd.heap_1 w.params).In h₀) (T : Top p loose mean mg mb h₀)
    (F : Fr h₀ L s.heap (m10 x1 x2 CL m₀ st₀))
    (N : News h₀ L s.heap ((CL, LCg.lst ys) :: (L + 1 + 1, oc) :: led10 w x1 d1 M1 x2 d2 M2 k1 k2 k3 q1 q2 q3 P C vs ((L + 1, oP) :: []) st₀))
    (hCL2 : @Ne Nat CL (L + 1 + 1)) (hLP : @LT.lt Nat _ (L + 1 + 1 + 1 + 1) P) (hLC : @LT.lt Nat _ (L + 1 + 1 + 1 + 1) C) (hCP : @Ne Nat C P) (hPCL : @Ne Nat CL P)
    (hA : ∀ a ∈ [CL, L + 1 + 1, P, C, L + 1], ∀ b ∈ [x1, d1, M1], @Ne Nat a b) (hB : ∀ a ∈ [x1, d1, M1, CL, L + 1 + 1, P, C, L + 1], ∀ b ∈ [x2, d2, M2], @Ne Nat a b)
    (n11 : @Ne Nat d1 x1) (n12 : @Ne Nat M1 x1) (n13 : @Ne Nat M1 d1) (n21 : @Ne Nat d2 x2) (n22 : @Ne Nat M2 x2) (n23 : @Ne Nat M2 d2)
    (dP : oP.data = Data.cell (some (.ref P))) (dCnt : ∃ v, oc.data = Data.cell v) (hPen : PenOk vs) (hcl : cs.length = 6) (hcs : Cnts ys cs) (hJ : J10 0 st₀)
    (hret : ∀ h' tk' oc' (st : St10), J10 6 st → Fr h₀ L h' (m10 x1 x2 CL m₀ st) →
      News h₀ L h' ((CL, LCg.lst ys) :: (L + 1 + 1, oc') :: led10 w x1 d1 M1 x2 d2 M2 k1 k2 k3 q1 q2 q3 P C vs ((L + 1, oP) :: []) st) → Q .next { s with heap := h', toks := tk' }) :
    wpF (model PySem.Challenge.pw_og0154_01 w) (callerA.deeper (envOfC (Str.ofString "law") lawScope L a ccd)) (exec ((lawBody.drop 9).headD (.Return none ⟨0, 0, 0, 0⟩)) (envOfC (Str.ofString "law") lawScope L a ccd)) Q s := by
  conv in (occs := *) lawScope => all_goals whnf
  conv in List.headD _ _ => whnf
  w_on
  refine forF ?_
  obtain ⟨v₀, hcd⟩ := dCnt
  repeat' ((fail_if_success (with_reducible show wpAny _ _ (pyIter _) _ _ _)); (first | (k_unfold; (try dsimp only)) | (k_end; wrow_close) | walk1 | (dsimp only; walk1) | (leave1; walk_say "STEP leave1"; try dsimp only) | fail "no step"))
  refine loopCellF (led10 w x1 d1 M1 x2 d2 M2 k1 k2 k3 q1 q2 q3 P C vs ((L + 1, oP) :: [])) (m10 x1 x2 CL m₀) J10 st₀ (by rfl) hcs
    (by rfl) (by rfl) (by rfl) F N (fun _ h => h) hcd ?_ ?_ (fun _ => rfl) hJ ?_ ?_
  · exact hCL2
  · have z : @LT.lt Nat _ (L + 1 + 1) P := by omega
    have z2 : @LT.lt Nat _ (L + 1 + 1) C := by omega
    refine ownOff_cons (Ne.symm (hA _ (by simp) _ (by simp))) (ownOff_cons (Ne.symm (hA _ (by simp) _ (by simp))) (ownOff_cons (Ne.symm (hA _ (by simp) _ (by simp)))
      (ownOff_cons (Ne.symm (hB _ (by simp) _ (by simp))) (ownOff_cons (Ne.symm (hB _ (by simp) _ (by simp))) (ownOff_cons (Ne.symm (hB _ (by simp) _ (by simp)))
      (ownOff_cons (Nat.ne_of_gt z) (ownOff_cons (Nat.ne_of_gt z2) (ownOff_cons (Nat.ne_of_lt (Nat.lt_succ_self _)) ownOff_nil))))))))
  · rintro i ⟨T₀, γ, b1, c1, t1, u1, b2, c2, t2, u2, pi, pr, ti, tr, tt, vv⟩ c t It oI oc h tk hi hc hc20 ⟨hg, hz, he1, hl1, hm1, he2, hl2, hm2, hT, hp⟩ hoc F1 N1 off
    simp only [LCg.Off1, and_true] at off
    clear N F
    dsimp only [led10, m10] at hg hz he1 hl1 hm1 he2 hl2 hm2 hT hp F1 N1 off ⊢
    have hpi : pi ≤ 1000 := by omega
    have hT2 : T₀ ≤ 200 := by omega
    have z1 : @LT.lt Nat _ (L + 1 + 1) P := by omega
    have z2 : @LT.lt Nat _ (L + 1) P := by omega
    obtain ⟨f1, f2, f3, f4, f5, f6, f7, f8, f9, f10, f11⟩ := off
    obtain ⟨sh1, sh2, sh3⟩ := two_shl hc20
    have hOffP : OwnOff ((It, oI) :: (CL, LCg.lst ys) :: (L + 1 + 1, oc) :: (x1, instObj 275 d1) :: (d1, outDict w k1 k2 k3 M1 (BE γ (8 * b1.size) c1) t1 c1 u1) :: (M1, baO b1) :: (x2, instObj 233 d2) :: (d2, outDict w q1 q2 q3 M2 (LE γ (8 * b2.size) c2) t2 c2 u2) :: (M2, baO b2) :: (L + 1, oP) :: []) [P] :=
      ownOff_cons (Ne.symm f9) (ownOff_cons hPCL (ownOff_cons (Nat.ne_of_lt z1) (ownOff_cons (Ne.symm (hA _ (by simp) _ (by simp))) (ownOff_cons (Ne.symm (hA _ (by simp) _ (by simp))) (ownOff_cons (Ne.symm (hA _ (by simp) _ (by simp)))
      (ownOff_cons (Ne.symm (hB _ (by simp) _ (by simp))) (ownOff_cons (Ne.symm (hB _ (by simp) _ (by simp))) (ownOff_cons (Ne.symm (hB _ (by simp) _ (by simp))) (ownOff_cons (Nat.ne_of_lt z2) ownOff_nil)))))))))
    refine execsF_off ?_
    repeat' ((fail_if_success (with_reducible show wpAny _ _ (call (Value.ref _) _) _ _ _)); (first | (k_unfold; (try dsimp only)) | (k_end; wrow_close) | walk1 | (dsimp only; walk1) | (leave1; walk_say "STEP leave1"; try dsimp only) | fail "no step"))
    have ND := News.sub N1 (l' := (P, listOf #[.ref C, .int ((pi : Nat) : Int) ti, .int ((pr : Nat) : Int) tr] 0) :: (C, listOf vs.toArray 0) :: (It, oI) :: (CL, LCg.lst ys) :: (L + 1 + 1, oc) :: (x1, instObj 275 d1) :: (d1, outDict w k1 k2 k3 M1 (BE γ (8 * b1.size) c1) t1 c1 u1) :: (M1, baO b1) :: (x2, instObj 233 d2) :: (d2, outDict w q1 q2 q3 M2 (LE γ (8 * b2.size) c2) t2 c2 u2) :: (M2, baO b2) :: (L + 1, oP) :: []) (by kcf_all)
    refine' draw_p (many := 1 <<< c) ?B ?F ?X ?T ?hk ?hr ?hu ND hCP hOffP hPen sh1 sh2 hpi ?_
    (case B => k_asm); (case F => k_asm); (case X => k_asm); (case T => k_asm); (case hk => first | exact rfl | assumption); (case hr => ktr_room); (case hu => ktr_units)
    intro d i2 r2 td ti2 tr2 h2 tk2 hd hi2 F2 N2
    clear hOffP ND
    rw [BE_ext (γ := γ) (T := T₀) (c := c) (d := d) (k := 8 * b1.size) (Nat.le_of_eq he1), LE_ext (γ := γ) (T := T₀) (c := c) (d := d) (k := 8 * b2.size) (Nat.le_of_eq he2)] at N2
    k_sweep
    repeat' ((first | (k_unfold; (try dsimp only)) | (k_end; wrow_close) | walk1 | (dsimp only; walk1) | (leave1; walk_say "STEP leave1"; try dsimp only) | fail "no step"))
    refine execsF_on (exprF (callAttrF ?_))
    repeat' ((first | (k_unfold; (try dsimp only)) | (k_end; wrow_close) | walk1 | (dsimp only; walk1) | (leave1; walk_say "STEP leave1"; try dsimp only) | fail "no step"))
    dsimp only
    refine callWithSF ?_
    repeat' ((first | (k_unfold; (try dsimp only)) | (k_end; wrow_close) | walk1 | (dsimp only; walk1) | (leave1; walk_say "STEP leave1"; try dsimp only) | fail "no step"))
    refine ⟨looks_keep (M := model PySem.Challenge.pw_og0154_01 w) (f := .ref 258) (by k_dflt k_is) (X.keeps (Fr.keep (by assumption))), ?_⟩
    rename News _ _ _ _ => nS
    rename Fr _ _ _ _ => fS
    have NU := News.sub nS (l' := (x1, instObj 275 d1) :: (d1, outDict w k1 k2 k3 M1 (BE (ext γ T₀ c d) (8 * b1.size) c1) t1 c1 u1) :: (M1, baO b1) :: (It, oI) :: (CL, LCg.lst ys) :: (L + 1 + 1, oc) :: (x2, instObj 233 d2) :: (d2, outDict w q1 q2 q3 M2 (LE (ext γ T₀ c d) (8 * b2.size) c2) t2 c2 u2) :: (M2, baO b2) :: (P, listOf #[.ref C, .int ((i2 : Nat) : Int) ti2, .int ((r2 : Nat) : Int) tr2] 0) :: (C, listOf vs.toArray 0) :: (L + 1, oP) :: []) (by kcf_all)
    have hOffU : OwnOff ((It, oI) :: (CL, LCg.lst ys) :: (L + 1 + 1, oc) :: (x2, instObj 233 d2) :: (d2, outDict w q1 q2 q3 M2 (LE (ext γ T₀ c d) (8 * b2.size) c2) t2 c2 u2) :: (M2, baO b2) :: (P, listOf #[.ref C, .int ((i2 : Nat) : Int) ti2, .int ((r2 : Nat) : Int) tr2] 0) :: (C, listOf vs.toArray 0) :: (L + 1, oP) :: []) [d1, M1] :=
      ownOff2_cons (Ne.symm f4) (Ne.symm f5) (ownOff2_cons (hA _ (by simp) _ (by simp)) (hA _ (by simp) _ (by simp)) (ownOff2_cons (hA _ (by simp) _ (by simp)) (hA _ (by simp) _ (by simp))
      (ownOff2_cons (Ne.symm (hB _ (by simp) _ (by simp))) (Ne.symm (hB _ (by simp) _ (by simp))) (ownOff2_cons (Ne.symm (hB _ (by simp) _ (by simp))) (Ne.symm (hB _ (by simp) _ (by simp))) (ownOff2_cons (Ne.symm (hB _ (by simp) _ (by simp))) (Ne.symm (hB _ (by simp) _ (by simp)))
      (ownOff2_cons (hA _ (by simp) _ (by simp)) (hA _ (by simp) _ (by simp)) (ownOff2_cons (hA _ (by simp) _ (by simp)) (hA _ (by simp) _ (by simp)) (ownOff2_cons (hA _ (by simp) _ (by simp)) (hA _ (by simp) _ (by simp)) ownOff2_nil))))))))
    have hBE1 : ∀ j, j < b1.size → (b1.getD j 0).toNat = BE (ext γ T₀ c d) (8 * j) 8 := fun j hj => (hm1 j hj).trans (BE_ext (by omega))
    have hLE1 : ∀ j, j < b2.size → (b2.getD j 0).toNat = LE (ext γ T₀ c d) (8 * j) 8 := fun j hj => (hm2 j hj).trans (LE_ext (by omega))
    have hvB : d = BE (ext γ T₀ c d) T₀ c := ext_BE (sh3 d hd)
    have hvL : turnN d c = LE (ext γ T₀ c d) T₀ c := ext_LE hg (sh3 d hd)
    have hγ := ext_lt hg T₀ c d
    have hzero : ∀ j, T₀ + c ≤ j → ext γ T₀ c d j = 0 := fun j => ext_zero
    generalize ext γ T₀ c d = δ at *
    refine puth_c (γ := δ) B fS X T rfl (by ktr_room) (by ktr_units) NU n11 n12 n13 hOffU hγ he1 hl1 hBE1 hvB hc20 hT2 (fun b1' c1' t1' u1' h3 tk3 e1' l1' m1' F4 N4 => ?_)
    clear hOffU NU nS fS
    dsimp only
    refine execsF_on (exprF (callAttrF ?_))
    repeat' ((first | (k_unfold; (try dsimp only)) | (k_end; wrow_close) | walk1 | (dsimp only; walk1) | (leave1; walk_say "STEP leave1"; try dsimp only) | fail "no step"))
    dsimp only
    refine callWithSF ?_
    repeat' ((first | (k_unfold; (try dsimp only)) | (k_end; wrow_close) | walk1 | (dsimp only; walk1) | (leave1; walk_say "STEP leave1"; try dsimp only) | fail "no step"))
    refine ⟨looks_keep (M := model PySem.Challenge.pw_og0154_01 w) (f := .ref 202) (by k_dflt k_is) (X.keeps (Fr.keep (by assumption))), ?_⟩
    rename News _ _ _ _ => nS
    rename Fr _ _ _ _ => fS
    have NU := News.sub nS (l' := (x2, instObj 233 d2) :: (d2, outDict w q1 q2 q3 M2 (LE δ (8 * b2.size) c2) t2 c2 u2) :: (M2, baO b2) :: (It, oI) :: (CL, LCg.lst ys) :: (L + 1 + 1, oc) :: (x1, instObj 275 d1) :: (d1, outDict w k1 k2 k3 M1 (BE δ (8 * b1'.size) c1') t1' c1' u1') :: (M1, baO b1') :: (P, listOf #[.ref C, .int ((i2 : Nat) : Int) ti2, .int ((r2 : Nat) : Int) tr2] 0) :: (C, listOf vs.toArray 0) :: (L + 1, oP) :: []) (by kcf_all)
    have hOffU : OwnOff ((It, oI) :: (CL, LCg.lst ys) :: (L + 1 + 1, oc) :: (x1, instObj 275 d1) :: (d1, outDict w k1 k2 k3 M1 (BE δ (8 * b1'.size) c1') t1' c1' u1') :: (M1, baO b1') :: (P, listOf #[.ref C, .int ((i2 : Nat) : Int) ti2, .int ((r2 : Nat) : Int) tr2] 0) :: (C, listOf vs.toArray 0) :: (L + 1, oP) :: []) [d2, M2] :=
      ownOff2_cons (Ne.symm f7) (Ne.symm f8) (ownOff2_cons (hB _ (by simp) _ (by simp)) (hB _ (by simp) _ (by simp)) (ownOff2_cons (hB _ (by simp) _ (by simp)) (hB _ (by simp) _ (by simp))
      (ownOff2_cons (hB _ (by simp) _ (by simp)) (hB _ (by simp) _ (by simp)) (ownOff2_cons (hB _ (by simp) _ (by simp)) (hB _ (by simp) _ (by simp)) (ownOff2_cons (hB _ (by simp) _ (by simp)) (hB _ (by simp) _ (by simp))
      (ownOff2_cons (hB _ (by simp) _ (by simp)) (hB _ (by simp) _ (by simp)) (ownOff2_cons (hB _ (by simp) _ (by simp)) (hB _ (by simp) _ (by simp)) (ownOff2_cons (hB _ (by simp) _ (by simp)) (hB _ (by simp) _ (by simp)) ownOff2_nil))))))))
    refine putl_c (γ := δ) B fS X T rfl (by ktr_room) (by ktr_units) NU n21 n22 n23 hOffU hγ he2 hl2 hLE1 hvL hc20 hT2 (fun b2' c2' t2' u2' h4 tk4 e2' l2' m2' F5 N5 => ?_)
    clear hOffU NU nS fS N4
    dsimp only
    refine execsF_off ?_
    repeat' ((first | (k_unfold; (try dsimp only)) | (k_end; wrow_close) | walk1 | (dsimp only; walk1) | (leave1; walk_say "STEP leave1"; try dsimp only) | fail "no step"))
    refine execsF_off ?_
    repeat' ((fail_if_success (with_reducible show wpAny _ _ (call (Value.ref _) _) _ _ _)); (first | (k_unfold; (try dsimp only)) | (k_end; wrow_close) | walk1 | (dsimp only; walk1) | (leave1; walk_say "STEP leave1"; try dsimp only) | fail "no step"))
    have hz2 : b2'.size ≤ 100 := by omega
    rename News _ _ _ _ => nS
    rename Fr _ _ _ _ => fS
    refine' bitc_c ?B ?F ?X ?T ?hk ?hr ?hu nS hz2 (Nat.le_trans l2' (by decide)) (fun t8 h8 tk8 F10 N10 => ?_)
    (case B => k_asm); (case F => k_asm); (case X => k_asm); (case T => k_asm); (case hk => first | exact rfl | assumption); (case hr => ktr_room); (case hu => ktr_units)
    rw [e2']
    clear nS
    repeat' ((first | (k_unfold; (try dsimp only)) | (k_end; wrow_close) | walk1 | (dsimp only; walk1) | (leave1; walk_say "STEP leave1"; try dsimp only) | fail "no step"))
    · exact absurd rfl (by assumption)
    · dsimp only
      refine execsF_nil (EndC.intro (⟨T₀ + c, δ, b1', c1', t1', u1', b2', c2', t2', u2', i2, r2, ti2, tr2, _, some (.int ((d : Nat) : Int) td)⟩ : St10) hoc (m10_next (st := ⟨T₀, γ, b1, c1, t1, u1, b2, c2, t2, u2, pi, pr, ti, tr, tt, vv⟩) F10) N10 (by kcf_all) ⟨hγ, hzero, e1', l1', m1', e2', l2', m2', ?_, ?_⟩)
      · show T₀ + c ≤ 20 * (i + 1); omega
      · show i2 ≤ 26 + (i + 1); omega
  · intro st h tk oc v hJ' hv F1 N1
    rw [hcl] at hJ'
    exact hret h tk oc st hJ' F1 N1
end
end

-- part L8
section
theorem BE_zeros {γ : Nat → Nat} {k : Nat} (h : ∀ j, k ≤ j → γ j = 0) (n : Nat) : BE γ k n = 0 := by
  have : BE γ k n = BE (fun i => bitAt 0 (n - 1 - i)) 0 n := BE_congr fun i hi => by
    rw [h _ (Nat.le_add_right _ _), bitAt_mod, Nat.zero_div]
  rw [this, BE_rev, LE_bitAt, Nat.zero_mod]
theorem LE_zeros {γ : Nat → Nat} {k : Nat} (h : ∀ j, k ≤ j → γ j = 0) (n : Nat) : LE γ k n = 0 := by
  have : LE γ k n = LE (bitAt 0) 0 n := LE_congr fun i hi => by
    rw [h _ (Nat.le_add_right _ _), bitAt_mod, Nat.zero_div]
  rw [this, LE_bitAt, Nat.zero_mod]
theorem BE_fill {γ : Nat → Nat} {k c : Nat} (h : ∀ j, k + c ≤ j → γ j = 0) (hc : c ≤ 8) : BE γ k c <<< (8 - c) = BE γ k 8 := by
  have e : BE γ k (c + (8 - c)) = BE γ k 8 := by rw [Nat.add_sub_cancel' hc]
  rw [← e, BE_add, BE_zeros h, Nat.add_zero, Nat.shiftLeft_eq]
theorem LE_fill {γ : Nat → Nat} {k c : Nat} (h : ∀ j, k + c ≤ j → γ j = 0) (hc : c ≤ 8) : LE γ k c = LE γ k 8 := by
  have e : LE γ k (c + (8 - c)) = LE γ k 8 := by rw [Nat.add_sub_cancel' hc]
  rw [← e, LE_add, LE_zeros h, Nat.zero_mul, Nat.add_zero]
theorem BE8 {γ : Nat → Nat} (hg : ∀ j, γ j < 2) (k : Nat) : BE γ k 8 < 256 := BE_lt hg k 8
theorem LE8 {γ : Nat → Nat} (hg : ∀ j, γ j < 2) (k : Nat) : LE γ k 8 < 256 := LE_lt hg k 8
/-- the octets made, the held bits filled up -/
theorem high_made {γ : Nat → Nat} {b : Array UInt8} {c T : Nat} (hg : ∀ j, γ j < 2) (hz : ∀ j, T ≤ j → γ j = 0) (e : 8 * b.size + c = T) (l : c ≤ 7) (m : ∀ j, j < b.size → (b.getD j 0).toNat = BE γ (8 * j) 8) :
    ∀ j, j < (if c = 0 then b else b.push (BE γ (8 * b.size) c <<< (8 - c)).toUInt8).size → ((if c = 0 then b else b.push (BE γ (8 * b.size) c <<< (8 - c)).toUInt8).getD j 0).toNat = BE γ (8 * j) 8 := by
  by_cases h : c = 0
  · rw [if_pos h]; exact m
  · rw [if_neg h]
    have z : BE γ (8 * b.size) c <<< (8 - c) = BE γ (8 * b.size) 8 := BE_fill (by rw [e]; exact hz) (by omega)
    exact push_made m z (by rw [z]; exact BE8 hg _)
theorem low_made {γ : Nat → Nat} {b : Array UInt8} {c T : Nat} (hg : ∀ j, γ j < 2) (hz : ∀ j, T ≤ j → γ j = 0) (e : 8 * b.size + c = T) (l : c ≤ 7) (m : ∀ j, j < b.size → (b.getD j 0).toNat = LE γ (8 * j) 8) :
    ∀ j, j < (if c = 0 then b else b.push (LE γ (8 * b.size) c).toUInt8).size → ((if c = 0 then b else b.push (LE γ (8 * b.size) c).toUInt8).getD j 0).toNat = LE γ (8 * j) 8 := by
  by_cases h : c = 0
  · rw [if_pos h]; exact m
  · rw [if_neg h]
    have z : LE γ (8 * b.size) c = LE γ (8 * b.size) 8 := LE_fill (by rw [e]; exact hz) (by omega)
    exact push_made m z (by rw [z]; exact LE8 hg _)
theorem fill_size {b : Array UInt8} {c T : Nat} {u : UInt8} (e : 8 * b.size + c = T) (l : c ≤ 7) : (if c = 0 then b else b.push u).size = (T + 7) / 8 := by
  by_cases h : c = 0
  · rw [if_pos h]; omega
  · rw [if_neg h, Array.size_push]; omega
theorem getD_get {b : Array UInt8} {j : Nat} (h : j < b.size) : b.getD j 0 = b[j] := by
  simp only [Array.getD, h, dite_true]
  rfl
theorem turned_octets {γ : Nat → Nat} {U W : Array UInt8} (hg : ∀ j, γ j < 2) (hs : U.size = W.size) (hU : ∀ j, j < U.size → (U.getD j 0).toNat = BE γ (8 * j) 8) (hW : ∀ j, j < W.size → (W.getD j 0).toNat = LE γ (8 * j) 8) :
    U = (W.toList.map turnU).toArray := by
  refine Array.ext ?_ fun j h1 h2 => ?_
  · show U.size = (W.toList.map turnU).length
    rw [hs, List.length_map, Array.length_toList]
  · have hj : j < W.size := by rw [← hs]; exact h1
    have e1 := hU j h1
    have e2 := hW j hj
    rw [getD_get h1] at e1
    rw [getD_get hj] at e2
    apply UInt8.toNat_inj.mp
    rw [e1, List.getElem_toArray, List.getElem_map, turnU_toNat, Array.getElem_toList, e2, turnN_LE hg]
theorem high_is_low {γ : Nat → Nat} {b1 b2 : Array UInt8} {c1 c2 T : Nat} (hg : ∀ j, γ j < 2) (hz : ∀ j, T ≤ j → γ j = 0) (e1 : 8 * b1.size + c1 = T) (l1 : c1 ≤ 7) (m1 : ∀ j, j < b1.size → (b1.getD j 0).toNat = BE γ (8 * j) 8)
    (e2 : 8 * b2.size + c2 = T) (l2 : c2 ≤ 7) (m2 : ∀ j, j < b2.size → (b2.getD j 0).toNat = LE γ (8 * j) 8) :
    (if c1 = 0 then b1 else b1.push (BE γ (8 * b1.size) c1 <<< (8 - c1)).toUInt8) = ((if c2 = 0 then b2 else b2.push (LE γ (8 * b2.size) c2).toUInt8).toList.map turnU).toArray :=
  turned_octets hg ((fill_size e1 l1).trans (fill_size e2 l2).symm) (high_made hg hz e1 l1 m1) (low_made hg hz e2 l2 m2)
end

-- part L3
section
section
variable {w : World} {p : Program} {loose : List Str} {mean : ExcName → Option Value} {mg mb : Str → Option Value} {a : Addr} {ccd : Value} {h₀ : Heap} {L : Addr} {s : Shared} {m₀ : Str → Option Value}
theorem fr_know' {h : Heap} {m : Str → Option Value} {v : Option Value} {z : Str} (F : Fr h₀ L h m) (hx : m z = v) : Fr h₀ L h (fun y => if y = z then v else m y) := by
  have e : (fun y => if y = z then v else m y) = m := funext fun y => by
    by_cases hy : y = z
    · subst hy; rw [if_pos rfl, hx]
    · rw [if_neg hy]
  rw [e]; exact F
theorem fr_any {h : Heap} {m : Str → Option Value} {z : Str} (F : Fr h₀ L h m) : ∃ v, Fr h₀ L h (fun y => if y = z then v else m y) := ⟨_, fr_know' F rfl⟩
theorem fr_int {h : Heap} {m : Str → Option Value} {n : Int} {z : Str} (F : Fr h₀ L h m) (hx : ∃ t, m z = some (.int n t)) : ∃ t, Fr h₀ L h (fun y => if y = z then some (.int n t) else m y) :=
  ⟨_, fr_know F hx.choose_spec⟩
set_option maxHeartbeats 8000000 in
theorem tail_c {Q : Flow → Shared → Prop} {P C CL : Addr} {D : List UInt8} {vs ys : List Value} {cs : List Nat} {ii rr : Nat} {ti tr tD tT : Tok} {oP oCnt oOne oOth : Obj}
    (B : Below callerA h₀ [] h₀) (X : (Pre.hd.heap_1 w.params).In h₀) (T : Top p loose mean mg mb h₀)
    (F : Fr h₀ L s.heap (fun z => if z = Str.ofString "counts" then some (.ref CL) else if z = Str.ofString "turned_data" then some (.bytes (D.map turnU).toArray tT) else if z = Str.ofString "data" then some (.bytes D.toArray tD) else m₀ z))
    (N : News h₀ L s.heap ((CL, LCg.lst ys) :: penLed P C vs ii rr ti tr L oP oCnt oOne oOth)) (hCP : @Ne Nat C P) (hCL2 : @Ne Nat CL (L + 1 + 1)) (hCL3 : @Ne Nat CL (L + 1 + 1 + 1)) (hCL4 : @Ne Nat CL (L + 1 + 1 + 1 + 1)) (hLP : @LT.lt Nat _ (L + 1 + 1 + 1 + 1) P) (hLC : @LT.lt Nat _ (L + 1 + 1 + 1 + 1) C) (hPCL : @Ne Nat CL P)
    (dP : oP.data = Data.cell (some (.ref P))) (dCnt : oCnt.data = Data.cell none) (dOne : oOne.data = Data.cell none) (dOth : oOth.data = Data.cell none)
    (hPen : PenOk vs) (hD8 : D.length ≤ 8) (hcl : cs.length = 6) (hcs : Cnts ys cs) (hb : ii ≤ 26)
    (hret : ∀ h' tk' m', Fr h₀ L h' m' → Q (.ret (.bool true)) { s with heap := h', toks := tk' }) :
    wpF (model PySem.Challenge.pw_og0154_01 w) (callerA.deeper (envOfC (Str.ofString "law") lawScope L a ccd)) (execs (lawBody.drop 4) (envOfC (Str.ofString "law") lawScope L a ccd)) Q s := by
  conv in (occs := *) lawScope => all_goals whnf
  conv in List.drop _ _ => whnf
  w_on
  refine execsF_off ?_
  repeat' ((fail_if_success (with_reducible show wpAny _ _ (pyIter _) _ _ _)); (first | (k_unfold; (try dsimp only)) | (k_end; wrow_close) | walk1 | (dsimp only; walk1) | (leave1; walk_say "STEP leave1"; try dsimp only) | fail "no step"))
  rename Fr _ _ _ _ => lF
  rename News _ _ _ _ => lN
  refine KStb.kst_bytes (σ := Unit) (fun _ => (CL, LCg.lst ys) :: penLed P C vs ii rr ti tr L oP oCnt oOne oOth) (fun _ => []) (fun _ => True) [] (fun _ _ => True) () rfl rfl (by rfl) lF lN trivial (fun _ h => nomatch h) trivial ?_ ?_
  · rintro - pre post n t u h tk own hk hlt hn0 hn1 hoff - - Fk Nk
    obtain ⟨v, rfl⟩ := Int.eq_ofNat_of_zero_le hn0
    simp only [kstB, List.contains_nil, Bool.false_eq_true, if_false] at Fk
    have hE := turn_back (v := v) (by omega)
    (try k_unmd); (try k_fold)
    repeat' ((first | (k_unfold; (try dsimp only)) | (k_end; wrow_close) | walk1 | (dsimp only; walk1) | (leave1; walk_say "STEP leave1"; try dsimp only) | fail "no step"))
    exact absurd (congrArg (fun n : Nat => ((n : Nat) : Int)) hE) (by assumption)
  · rintro - u h tk - - - Fk Nk
    dsimp only [penLed] at Nk
    (try k_unmd); (try k_fold)
    (try dsimp only)
    refine execsF_off ?_
    repeat' ((first | (k_unfold; (try dsimp only)) | (k_end; wrow_close) | walk1 | (dsimp only; walk1) | (leave1; walk_say "STEP leave1"; try dsimp only) | fail "no step"))
    rename News _ _ _ _ => nS
    rename Fr _ _ _ _ => fS
    refine execsF_on ?_
    refine s7_c (m₀ := _) (st₀ := ⟨0, 0, 0, _, _, _, 0, 0, _, _, _, oOne, oOth⟩) (ii := ii) (rr := rr) B X T (fr_know (fr_know (fr_know fS ?h1) ?h2) ?h3) (News.sub nS (by kcf_all)) ⟨Ne.symm hCL2, Ne.symm hCL3, Ne.symm hCL4⟩ ?h4 ⟨_, dCnt⟩ hD8 hcs ⟨⟨Nat.zero_le _, Nat.zero_le 7, rfl⟩, ⟨Nat.zero_le _, Nat.zero_le 7, rfl⟩, ⟨_, dOne⟩, ⟨_, dOth⟩⟩ ?_
    (case h1 => with_unfolding_all rfl)
    (case h2 => with_unfolding_all rfl)
    (case h3 => with_unfolding_all rfl)
    (case h4 => refine ⟨?_, ?_, ?_, ?_, ?_, ?_, ?_, ?_⟩ <;> (show @LT.lt Nat _ _ _; omega))
    intro h7 tk7 oc7 st7 F7 c7 N7
    dsimp only
    have X7 := X.keeps F7.keep
    refine execsF_on (assignPairF (tupleF (callNameF ?_)))
    repeat' ((first | (k_unfold; (try dsimp only)) | (k_end; wrow_close) | walk1 | (dsimp only; walk1) | (leave1; walk_say "STEP leave1"; try dsimp only) | fail "no step"))
    obtain ⟨kk, hkk, Lk⟩ := looks_keep (M := model PySem.Challenge.pw_og0154_01 w) (f := .ref 275) (by k_dflt k_is) X7
    refine callWith0F hkk Lk ?_
    refine newhi_c B F7 X T rfl (by ktr_room) (by ktr_units) N7 (fun u1 e1 M1 a1 a2 a3 a4 a5 h8 tk8 F8 N8 o8 n81 n82 n83 => ?_)
    refine callNameF ?_
    repeat' ((first | (k_unfold; (try dsimp only)) | (k_end; wrow_close) | walk1 | (dsimp only; walk1) | (leave1; walk_say "STEP leave1"; try dsimp only) | fail "no step"))
    have X8 := X.keeps F8.keep
    obtain ⟨kk, hkk, Lk⟩ := looks_keep (M := model PySem.Challenge.pw_og0154_01 w) (f := .ref 233) (by k_dflt k_is) X8
    refine callWith0F hkk Lk ?_
    refine newlo_c B F8 X T rfl (by ktr_room) (by ktr_units) N8 (fun u2 e2 M2 b1k b2k b3 b4 b5 h9 tk9 F9 N9 o9 n91 n92 n93 => ?_)
    clear X7 X8 Lk
    have N10 := N9.push F9 (tuObj [.ref u1, .ref u2])
    have F10 := F9.push (tuObj [.ref u1, .ref u2])
    generalize hH : h9.push (tuObj [.ref u1, .ref u2]) = h10 at *
    (try dsimp only)
    repeat' ((first | (k_unfold; (try dsimp only)) | (k_end; wrow_close) | walk1 | (dsimp only; walk1) | (leave1; walk_say "STEP leave1"; try dsimp only) | fail "no step"))
    rename News _ _ _ _ => nS
    rename Fr _ _ _ _ => fS8
    refine execsF_off ?_
    repeat' ((first | (k_unfold; (try dsimp only)) | (k_end; wrow_close) | walk1 | (dsimp only; walk1) | (leave1; walk_say "STEP leave1"; try dsimp only) | fail "no step"))
    rename News _ _ _ _ => nS9
    rename Fr _ _ _ _ => fS9
    have N9 := News.sub nS9 (l' := (CL, LCg.lst ys) :: (L + 1 + 1, oc7) :: (u1, instObj 275 e1) :: (e1, outDict w a1 a2 a3 M1 0 a4 0 a5) :: (M1, baO #[]) :: (u2, instObj 233 e2) :: (e2, outDict w b1k b2k b3 M2 0 b4 0 b5) :: (M2, baO #[]) :: (P, listOf #[.ref C, .int ((ii : Nat) : Int) ti, .int ((rr : Nat) : Int) tr] 0) :: (C, listOf vs.toArray 0) :: (L + 1, oP) :: []) (by kcf_all)
    obtain ⟨vv₀, F9a⟩ := fr_any (z := Str.ofString "value") (fr_know (v := .ref u1) (z := Str.ofString "upper") (fr_know (v := .ref u2) (z := Str.ofString "lower") (fr_know (v := .ref CL) (z := Str.ofString "counts") fS9 (by with_unfolding_all rfl)) (by with_unfolding_all rfl)) (by with_unfolding_all rfl))
    obtain ⟨tt, F9b⟩ := fr_int (n := ((0 : Nat) : Int)) (z := Str.ofString "total") F9a ⟨_, by with_unfolding_all rfl⟩
    refine execsF_on ?_
    refine s10_c (m₀ := _) (st₀ := ⟨0, fun _ => 0, #[], 0, a4, a5, #[], 0, b4, b5, ii, rr, ti, tr, tt, vv₀⟩) B X T F9b N9 hCL2 hLP hLC hCP hPCL (ownOff_ne o8) (ownOff_ne o9) n81 n82 n83 n91 n92 n93 dP c7 hPen hcl hcs ?hJ ?_
    (case hJ => exact ⟨fun _ => Nat.zero_lt_two, fun _ _ => rfl, rfl, Nat.zero_le _, fun _ h => absurd h (Nat.not_lt_zero _), rfl, Nat.zero_le _, fun _ h => absurd h (Nat.not_lt_zero _), Nat.zero_le _, hb⟩)
    clear nS9 N9 fS9 F9a F9b hH o8 o9
    rintro h11 tk11 oc11 ⟨T₀, γ, b1, c1, t1, u1t, b2, c2, t2, u2t, pi, pr, pti, ptr, ptt, vv⟩ ⟨hg, hz, he1, hl1, hm1, he2, hl2, hm2, hT, hp⟩ F11 N11
    dsimp only [led10, m10] at hg hz he1 hl1 hm1 he2 hl2 hm2 hT hp F11 N11 ⊢
    have hU := high_is_low hg hz he1 hl1 hm1 he2 hl2 hm2
    have hS := fill_size (u := (BE γ (8 * b1.size) c1 <<< (8 - c1)).toUInt8) he1 hl1
    have hby : Byte (BE γ (8 * b1.size) c1 <<< (8 - c1)) := by
      rw [BE_fill (by rw [he1]; exact hz) (by omega)]; exact BE8 hg _
    have hby2 : BE γ (8 * b1.size) c1 < 256 := Nat.lt_of_lt_of_le (BE_lt hg _ _) (Nat.pow_le_pow_right (n := 2) (j := 8) (by decide) (by omega))
    have hby3 : LE γ (8 * b2.size) c2 < 256 := Nat.lt_of_lt_of_le (LE_lt hg _ _) (Nat.pow_le_pow_right (n := 2) (j := 8) (by decide) (by omega))
    have hz1 : b1.size ≤ 100 := by omega
    have hz2 : b2.size ≤ 100 := by omega
    clear hm1 hm2 hz
    refine execsF_off ?_
    repeat' ((fail_if_success (with_reducible show wpAny _ _ (call (Value.ref _) _) _ _ _)); (first | (k_unfold; (try dsimp only)) | (k_end; wrow_close) | walk1 | (dsimp only; walk1) | (leave1; walk_say "STEP leave1"; try dsimp only) | fail "no step"))
    have NU := News.sub N11 (l' := (u1, instObj 275 e1) :: (e1, outDict w a1 a2 a3 M1 (BE γ (8 * b1.size) c1) t1 c1 u1t) :: (M1, baO b1) :: (CL, LCg.lst ys) :: (L + 1 + 1, oc11) :: (u2, instObj 233 e2) :: (e2, outDict w b1k b2k b3 M2 (LE γ (8 * b2.size) c2) t2 c2 u2t) :: (M2, baO b2) :: (P, listOf #[.ref C, .int ((pi : Nat) : Int) pti, .int ((pr : Nat) : Int) ptr] 0) :: (C, listOf vs.toArray 0) :: (L + 1, oP) :: []) (by kcf_all)
    refine' octh_c ?B ?F ?X ?T ?hk ?hr ?hu NU hz1 hl1 hby hby2 (fun tU h12 tk12 F12 N12 => ?_)
    (case B => k_asm); (case F => k_asm); (case X => k_asm); (case T => k_asm); (case hk => first | exact rfl | assumption); (case hr => ktr_room); (case hu => ktr_units)
    clear N11 NU
    generalize hUe : (if c1 = 0 then b1 else b1.push (BE γ (8 * b1.size) c1 <<< (8 - c1)).toUInt8) = U at *
    repeat' ((fail_if_success (with_reducible show wpAny _ _ (eval (Expr.ListComp _ _ _ _) _) _ _ _)); (first | (k_unfold; (try dsimp only)) | (k_end; wrow_close) | walk1 | (dsimp only; walk1) | (leave1; walk_say "STEP leave1"; try dsimp only) | fail "no step"))
    have hWe : ∃ W, W = (if c2 = 0 then b2 else b2.push (LE γ (8 * b2.size) c2).toUInt8) := ⟨_, rfl⟩
    obtain ⟨W, hW⟩ := hWe
    rw [← hW] at hU
    have hWz : W.size ≤ 100 := by rw [hW, fill_size he2 hl2]; omega
    have NW := News.sub N12 (l' := (u2, instObj 233 e2) :: (e2, outDict w b1k b2k b3 M2 (LE γ (8 * b2.size) c2) t2 c2 u2t) :: (M2, baO b2) :: (u1, instObj 275 e1) :: (e1, outDict w a1 a2 a3 M1 (BE γ (8 * b1.size) c1) t1 c1 u1t) :: (M1, baO b1) :: (CL, LCg.lst ys) :: (L + 1 + 1, oc11) :: (P, listOf #[.ref C, .int ((pi : Nat) : Int) pti, .int ((pr : Nat) : Int) ptr] 0) :: (C, listOf vs.toArray 0) :: (L + 1, oP) :: []) (by kcf_all)
    clear N12
    refine ListComp_B (b := W) (by k_asm) NW (by rfl) (by rw [PySem.sizeLine_eq]; omega) (by with_unfolding_all rfl) (by decide) (by rfl) (by decide) (by rfl) ?_
    repeat' ((fail_if_success (with_reducible show wpAny _ _ (call (Value.ref _) _) _ _ _)); (first | (k_unfold; (try dsimp only)) | (k_end; wrow_close) | walk1 | (dsimp only; walk1) | (leave1; walk_say "STEP leave1"; try dsimp only) | fail "no step"))
    refine' octl_c ?B ?F ?X ?T ?hk ?hr ?hu NW hz2 hl2 hby3 (fun tW h13 tk13 F13 N13 => ?_)
    (case B => k_asm); (case F => k_asm); (case X => k_asm); (case T => k_asm); (case hk => first | exact rfl | assumption); (case hr => ktr_room); (case hu => ktr_units)
    clear NW
    rw [← hW]
    repeat' ((first | (k_unfold; (try dsimp only)) | (k_end; wrow_close) | walk1 | (dsimp only; walk1) | (leave1; walk_say "STEP leave1"; try dsimp only) | fail "no step"))
    refine ⟨_, rfl, by k_asm, by k_asm, fun gB => ?_⟩
    refine restU (fun i ys => Octs ys ((W.toList.take i).map turnU)) octs_nil ?_ ?_
    · rintro i ys1 v I oI CC oC DD m₂ h tk E' hi hds ⟨c, tv, hcv, rfl⟩ hC hx F4 N4 off ne
      have off0 := off
      simp only [LCg.Off3, and_true] at off
      repeat' ((fail_if_success (with_reducible show wpAny _ _ (call (Value.ref _) _) _ _ _)); (first | (k_unfold; (try dsimp only)) | (k_end; wrow_close) | walk1 | (dsimp only; walk1) | (leave1; walk_say "STEP leave1"; try dsimp only) | fail "no step"))
      refine' turned_c ?B ?F ?X ?N ?T ?hk ?hr ?hu ?hc ?_
      (case B => k_asm); (case F => k_asm); (case X => k_asm); (case N => k_asm); (case T => k_asm); (case hk => first | exact rfl | assumption); (case hr => ktr_room); (case hu => ktr_units)
      (case hc => decide)
      intro t9 h9 tk9 F9 N9
      exact LCg.CompEnd.intro F9 N9 _ (fun _ h => h) off0 trivial ⟨rfl, octs_turn hds (by simpa using hcv)⟩
    · intro ys1 hds
      have eW : W.toList.take W.size = W.toList := by rw [← Array.length_toList]; exact List.take_length
      rw [eW] at hds
      intro DL hA3 tkA3 F7 N7 oo
      k_sweep
      repeat' ((fail_if_success (with_reducible show wpAny _ _ (call (Value.type _) _) _ _ _)); (first | (k_unfold; (try dsimp only)) | (k_end; wrow_close) | walk1 | (dsimp only; walk1) | (leave1; walk_say "STEP leave1"; try dsimp only) | fail "no step"))
      refine' bytesO ?F ?N ?m hds (by rw [List.length_map, Array.length_toList]; omega) (by rfl) ?_
      (case F => k_asm)
      (case N => k_asm)
      (case m => k_mem)
      intro hA4 tT2 tkA4 F8 N8
      rw [← hU]
      clear N7 oo hds eW
      k_sweep
      repeat' ((fail_if_success (with_reducible show wpAny _ _ (call (Value.ref _) _) _ _ _)); (first | (k_unfold; (try dsimp only)) | (k_end; wrow_close) | walk1 | (dsimp only; walk1) | (leave1; walk_say "STEP leave1"; try dsimp only) | fail "no step"))
      · have NU := News.sub N8 (l' := (u1, instObj 275 e1) :: (e1, outDict w a1 a2 a3 M1 (BE γ (8 * b1.size) c1) t1 c1 u1t) :: (M1, baO b1) :: (CL, LCg.lst ys) :: (L + 1 + 1, oc11) :: (L + 1, oP) :: []) (by kcf_all)
        refine' octh_c ?B ?F ?X ?T ?hk ?hr ?hu NU hz1 hl1 hby hby2 (fun tU h12 tk12 F12 N12 => ?_)
        (case B => k_asm); (case F => k_asm); (case X => k_asm); (case T => k_asm); (case hk => first | exact rfl | assumption); (case hr => ktr_room); (case hu => ktr_units)
        rw [hUe]
        clear NU N8
        repeat' ((first | (k_unfold; (try dsimp only)) | (k_end; wrow_close) | walk1 | (dsimp only; walk1) | (leave1; walk_say "STEP leave1"; try dsimp only) | fail "no step"))
        dsimp only
        rw [hS, beq_self_eq_true]
        exact hret _ _ _ F12
      · rename (U.toList == U.toList) = false => hf
        rw [beq_self_eq_true] at hf
        cases hf
end
end

-- part L1
section
theorem idx_1 {ii i d : Nat} (hb : ii ≤ 1 + i) (hi : i < (((d : Nat) : Int) - 0).toNat) (hd : d < 9) : ii ≤ 1000 := by omega
theorem idx_3 {ii i : Nat} (hb : ii ≤ 20 + i) (hi : i < 6) : ii ≤ 1000 := by omega
theorem idx_s {ii i k j : Nat} (h : j ≤ ii + 1) (hb : ii ≤ k + i) : j ≤ k + (i + 1) := by omega
theorem idx_9 {d : Nat} (h : d < 9) : d ≤ 20 := by omega
set_option maxHeartbeats 8000000 in
theorem walk : PySem.Challenge.rw_og0154_01.Holds := by
  w_on
  o_law
  refine Mine.PySem.W.holds_open (q := Pre.hd.view_1) (loose := [Str.ofString "PaperError"]) (Xt := fun s => xlAt Pre.hd.view_1 [] s && recOk (RowW.records (OpenRow.toRowW PySem.Challenge.rw_og0154_01.row)) s) (XP := XL Pre.hd.view_1 [])
    (Yf := Hook.obs (kHook Pre.hd.heap_1 addrK addrK_eq)) (Ya := Hook.val (kHook Pre.hd.heap_1 addrK addrK_eq)) (YP := Hook.says (kHook Pre.hd.heap_1 addrK addrK_eq)) (N := 4390) left_all (Hook.of _) (Hook.keeps _)
    (fun s e => xl_of s (Bool.and_eq_true_iff.mp e).1) XL.keeps (by rfl) (by rfl) (by rfl) (fun s e => recFacts_of (Bool.and_eq_true_iff.mp e).2) (by rfl) (by first | assumption | decide +kernel) (by decide +kernel) ⟨rfl, rfl, rfl, rfl, rfl, by decide +kernel⟩ ?goalW ?goalC
  case goalW => w_witness2
  rename_i said
  clear said
  w_strict (
    k_fill
    intro w s₀ s₁ mg mb G Y fa o pm cd doc dV kV ho hdd hcd hD hmg hg args vals as hpre hlay hrd hwl hlo
    have KX := kIn_of Y
    have X := (Ground.X G).1
    have V := (Ground.X G).2
    refine Ground.open G ?_
    intro T B D TE TW
    try (refine guard_noD D (by decide +kernel) ?_; clear D)
    obtain ⟨_, _, M⟩ := bmod_of_top T
    have TA := at_of_top T
    try (obtain ⟨_, _, he, B0⟩ := based_of_top T rfl hmg ho hdd; have he' : cd = _ := he; subst he'; clear he)
    clear hmg
    wrow_args hpre hlay hrd hwl hlo
    refine guardRun_any ?_ (wpF_call ?_)
    rotate_left
    · w_top on
      have K0 := below_caller (Top.heap T)
      have he := Dflts.none hD rfl
      subst he
      have he := Dflts.noKw hD
      subst he
      refine call_cellsF (by decide) ho (fd_plain hdd) (Top.nolimit T) hcd rfl (kinds_of (by kinds_ok)) (by decide) fun h₁ tk₁ cells F N0 X0 => ?_
      cells_open X0
      rename_i oOth oOne oCnt oPen0 dOth dOne dCnt dPen0
      clear X0
      replace dOth : oOth.data = Data.cell none := dOth
      replace dOne : oOne.data = Data.cell none := dOne
      replace dCnt : oCnt.data = Data.cell none := dCnt
      replace dPen0 : oPen0.data = Data.cell none := dPen0
      clear hdd TA
      k_drop
      (try k_fold)
      refine execsF_off ?_
      repeat' ((first | (k_unfold; (try dsimp only)) | (k_end; wrow_close) | walk1 | (dsimp only; walk1) | (leave1; walk_say "STEP leave1"; try dsimp only) | fail "no step"))
      rename News _ _ _ _ => N1
      rename Fr _ _ _ _ => F1
      clear hcd hD
      rename_i C vs hx2 hVs l1b P hx1 l1c hx0 oP dP
      rename PyData.layable0 _ = true => hLay
      rename List Int => script
      obtain ⟨ns, hns⟩ : ∃ ns : List Int, ns = List.map (fun k' => k') (List.take 40 script) ++ [12, 8] := ⟨_, rfl⟩
      replace hVs : IntsAre vs ns := hns ▸ hVs
      have hlen : 2 ≤ ns.length := by rw [hns, List.length_append]; simp
      have hlen2 : ns.length ≤ 42 := by rw [hns, List.length_append, List.length_map, List.length_take]; simp only [List.length_cons, List.length_nil]; omega
      have hbits : ∀ z ∈ ns, Builtin.Int.intBits z ≤ 1048576 := by
        intro z hz
        rw [hns] at hz
        rcases List.mem_append.mp hz with hz | hz
        · rw [List.map_id'] at hz
          exact PyData.bits_item_of_ints hLay (List.mem_of_mem_take hz)
        · rcases List.mem_cons.mp hz with rfl | hz
          · decide +kernel
          · rcases List.mem_cons.mp hz with rfl | hz
            · decide +kernel
            · nomatch hz
      clear hns
      have hPen : PenOk vs := ⟨ns, hVs, hlen, hlen2, hbits⟩
      clear hVs hlen hlen2 hbits
      have hCP : @Ne Nat C P := Nat.ne_of_lt l1c.1
      obtain ⟨-, -, -, -, p4, p3, p2, p1⟩ := l1c
      have N2 : News s₁.heap s₁.heap.objs.size hx0 ((P, listOf #[.ref C, .int ((0 : Nat) : Int) _, .int ((0 : Nat) : Int) _] 0) :: (C, listOf vs.toArray 0) ::
        (s₁.heap.objs.size + 1, oP) :: (s₁.heap.objs.size + 1 + 1, oCnt) :: (s₁.heap.objs.size + 1 + 1 + 1, oOne) :: (s₁.heap.objs.size + 1 + 1 + 1 + 1, oOth) :: []) := News.sub N1 (by kcf_all)
      have off1 : OwnOff ((s₁.heap.objs.size + 1, oP) :: (s₁.heap.objs.size + 1 + 1, oCnt) :: (s₁.heap.objs.size + 1 + 1 + 1, oOne) :: (s₁.heap.objs.size + 1 + 1 + 1 + 1, oOth) :: []) [P] :=
        ownOff_cons (Nat.ne_of_lt p1) (ownOff_cons (Nat.ne_of_lt p2) (ownOff_cons (Nat.ne_of_lt p3) (ownOff_cons (Nat.ne_of_lt p4) ownOff_nil)))
      have hLC : @LT.lt Nat _ (s₁.heap.objs.size + 1 + 1 + 1 + 1) C := l1b.2.2.2.1
      clear N1 l1b
      k_sweep
      refine execsF_off ?_
      repeat' ((fail_if_success (with_reducible show wpAny _ _ (eval (Expr.ListComp _ _ _ _) _) _ _ _)); (first | (k_unfold; (try dsimp only)) | (k_end; wrow_close) | walk1 | (dsimp only; walk1) | (leave1; walk_say "STEP leave1"; try dsimp only) | fail "no step"))
      refine LCg.ListComp_U (F₀ := by k_asm) (by with_unfolding_all rfl) (by decide) (by rfl) (by decide) (by rfl) ?_
      repeat' ((fail_if_success (with_reducible show wpAny _ _ (call (Value.ref _) _) _ _ _)); (first | (k_unfold; (try dsimp only)) | (k_end; wrow_close) | walk1 | (dsimp only; walk1) | (leave1; walk_say "STEP leave1"; try dsimp only) | fail "no step"))
      refine' draw_p (many := 9) ?B ?F ?X ?T ?hk ?hr ?hu N2 hCP off1 hPen (by decide) (by decide) (by decide) ?_
      (case B => k_asm); (case F => k_asm); (case X => k_asm); (case T => k_asm); (case hk => first | exact rfl | assumption); (case hr => ktr_room); (case hu => ktr_units)
      intro d1 i1 r1 t1 ti1 tr1 hA1 tkA1 hd1 hi1 F3 N3
      repeat' ((fail_if_success (with_reducible show LCg.CompSrc _ _ _ _ _ _ _ _ _ _ _ _ _ _)); (first | (k_unfold; (try dsimp only)) | (k_end; wrow_close) | walk1 | (dsimp only; walk1) | (leave1; walk_say "STEP leave1"; try dsimp only) | fail "no step"))
      rename IsRange _ _ _ _ _ _ _ _ => rg1
      refine LCg.CompSrc.range (by rfl) (by k_asm) (by k_asm) rg1 (small_c (idx_9 hd1)) (rangeSize_nat _ _) (size_c (idx_9 hd1)) ?_
      intro gA
      refine restS (σ := Nat × Nat × Tok × Tok) (fun st => (P, listOf #[.ref C, .int ((st.1 : Nat) : Int) st.2.2.1, .int ((st.2.1 : Nat) : Int) st.2.2.2] 0) :: (C, listOf vs.toArray 0) ::
        (s₁.heap.objs.size + 1, oP) :: (s₁.heap.objs.size + 1 + 1, oCnt) :: (s₁.heap.objs.size + 1 + 1 + 1, oOne) :: (s₁.heap.objs.size + 1 + 1 + 1 + 1, oOth) :: [])
        (fun i st ys => st.1 ≤ 1 + i ∧ ∃ ds : List UInt8, ds.length = i ∧ Octs ys ds) (i1, r1, ti1, tr1) ⟨by omega, [], rfl, octs_nil⟩ ?_ ?_
      · rintro i ⟨ii, rr, ti, tr⟩ ys v I oI CC oC D m₂ h tk E' hi ⟨hb, ds, hdl, hds⟩ ⟨tv, rfl⟩ hC hx F4 N4 off ne
        have off0 := off
        dsimp only at N4 off hb
        repeat' ((fail_if_success (with_reducible show wpAny _ _ (call (Value.ref _) _) _ _ _)); (first | (k_unfold; (try dsimp only)) | (k_end; wrow_close) | walk1 | (dsimp only; walk1) | (leave1; walk_say "STEP leave1"; try dsimp only) | fail "no step"))
        have N5 := News.sub N4 (l' := (P, listOf #[.ref C, .int ((ii : Nat) : Int) ti, .int ((rr : Nat) : Int) tr] 0) :: (C, listOf vs.toArray 0) :: (I, oI) :: (CC, oC) :: (D, LCg.lst ys) ::
          (s₁.heap.objs.size + 1, oP) :: (s₁.heap.objs.size + 1 + 1, oCnt) :: (s₁.heap.objs.size + 1 + 1 + 1, oOne) :: (s₁.heap.objs.size + 1 + 1 + 1 + 1, oOth) :: []) (by kcf_all)
        refine' draw_p (many := 256) ?B ?F ?X ?T ?hk ?hr ?hu N5 hCP (ownOff_cons (Ne.symm off.1.1) (ownOff_cons (Ne.symm off.1.2.1) (ownOff_cons (Ne.symm off.1.2.2) off1))) hPen (by decide) (by decide) (idx_1 hb hi hd1) ?_
        (case B => k_asm); (case F => k_asm); (case X => k_asm); (case T => k_asm); (case hk => first | exact rfl | assumption); (case hr => ktr_room); (case hu => ktr_units)
        intro d2 i2 r2 t2 ti2 tr2 hA2 tkA2 hd2 hi2 F6 N6
        clear N5 N4
        refine LCg.CompEnd.intro F6 N6 (penLed P C vs i2 r2 ti2 tr2 s₁.heap.objs.size oP oCnt oOne oOth) (by dsimp only [penLed]; kcf_all) off0 trivial ⟨(i2, r2, ti2, tr2), rfl, ?_⟩
        exact ⟨idx_s hi2 hb, ds ++ [d2.toUInt8], by rw [List.length_append, hdl]; rfl, octs_snoc hds hd2⟩
      · rintro ⟨ii, rr, ti, tr⟩ ys ⟨hb, D, hdl, hds⟩
        dsimp only at hb ⊢
        have hD8 : D.length ≤ 8 := by omega
        replace hb : ii ≤ 20 := by omega
        clear hdl rg1 hi1 hd1
        intro DL hA3 tkA3 F7 N7 oo
        k_sweep
        repeat' ((fail_if_success (with_reducible show wpAny _ _ (call (Value.type _) _) _ _ _)); (first | (k_unfold; (try dsimp only)) | (k_end; wrow_close) | walk1 | (dsimp only; walk1) | (leave1; walk_say "STEP leave1"; try dsimp only) | fail "no step"))
        refine' bytesO ?F ?N ?m hds (by omega) (by rfl) ?_
        (case F => k_asm)
        (case N => k_asm)
        (case m => k_mem)
        intro hA4 tD tkA4 F8 N8
        replace N8 := News.sub N8 (l' := (P, listOf #[.ref C, .int ((ii : Nat) : Int) ti, .int ((rr : Nat) : Int) tr] 0) :: (C, listOf vs.toArray 0) ::
          (s₁.heap.objs.size + 1, oP) :: (s₁.heap.objs.size + 1 + 1, oCnt) :: (s₁.heap.objs.size + 1 + 1 + 1, oOne) :: (s₁.heap.objs.size + 1 + 1 + 1 + 1, oOth) :: []) (by kcf_all)
        clear N7 oo hds
        k_sweep
        repeat' ((first | (k_unfold; (try dsimp only)) | (k_end; wrow_close) | walk1 | (dsimp only; walk1) | (leave1; walk_say "STEP leave1"; try dsimp only) | fail "no step"))
        -- turned_data
        refine execsF_off ?_
        repeat' ((fail_if_success (with_reducible show wpAny _ _ (eval (Expr.ListComp _ _ _ _) _) _ _ _)); (first | (k_unfold; (try dsimp only)) | (k_end; wrow_close) | walk1 | (dsimp only; walk1) | (leave1; walk_say "STEP leave1"; try dsimp only) | fail "no step"))
        refine ListComp_B (b := D.toArray) (by k_asm) (by k_asm) (by rfl) (by rw [PySem.sizeLine_eq, List.size_toArray]; omega) (by with_unfolding_all rfl) (by decide) (by rfl) (by decide) (by rfl) ?_
        repeat' ((first | (k_unfold; (try dsimp only)) | (k_end; wrow_close) | walk1 | (dsimp only; walk1) | (leave1; walk_say "STEP leave1"; try dsimp only) | fail "no step"))
        refine ⟨_, rfl, by k_asm, by k_asm, fun gB => ?_⟩
        refine restS (σ := Unit) (fun _ => (P, listOf #[.ref C, .int ((ii : Nat) : Int) ti, .int ((rr : Nat) : Int) tr] 0) :: (C, listOf vs.toArray 0) ::
          (s₁.heap.objs.size + 1, oP) :: (s₁.heap.objs.size + 1 + 1, oCnt) :: (s₁.heap.objs.size + 1 + 1 + 1, oOne) :: (s₁.heap.objs.size + 1 + 1 + 1 + 1, oOth) :: [])
          (fun i _ ys => Octs ys ((D.take i).map turnU)) () octs_nil ?_ ?_
        · rintro i - ys v I oI CC oC DD m₂ h tk E' hi hds ⟨c, tv, hcv, rfl⟩ hC hx F4 N4 off ne
          have off0 := off
          try dsimp only at N4 off
          repeat' ((fail_if_success (with_reducible show wpAny _ _ (call (Value.ref _) _) _ _ _)); (first | (k_unfold; (try dsimp only)) | (k_end; wrow_close) | walk1 | (dsimp only; walk1) | (leave1; walk_say "STEP leave1"; try dsimp only) | fail "no step"))
          refine' turned_c ?B ?F ?X ?N ?T ?hk ?hr ?hu ?hc ?_
          (case B => k_asm); (case F => k_asm); (case X => k_asm); (case N => k_asm); (case T => k_asm); (case hk => first | exact rfl | assumption); (case hr => ktr_room); (case hu => ktr_units)
          (case hc => decide)
          intro t9 h9 tk9 F9 N9
          exact LCg.CompEnd.intro F9 N9 _ (fun _ h => h) off0 trivial (ElS.intro () (octs_turn hds (by simpa using hcv)))
        · rintro - ys hds
          try dsimp only at hds
          rw [List.size_toArray, List.take_length] at hds
          intro DL hA3 tkA3 F7 N7 oo
          k_sweep
          repeat' ((fail_if_success (with_reducible show wpAny _ _ (call (Value.type _) _) _ _ _)); (first | (k_unfold; (try dsimp only)) | (k_end; wrow_close) | walk1 | (dsimp only; walk1) | (leave1; walk_say "STEP leave1"; try dsimp only) | fail "no step"))
          refine' bytesO ?F ?N ?m hds (by rw [List.length_map]; omega) (by rfl) ?_
          (case F => k_asm)
          (case N => k_asm)
          (case m => k_mem)
          intro hA4 tT tkA4 F8 N9
          replace N9 := News.sub N9 (l' := (P, listOf #[.ref C, .int ((ii : Nat) : Int) ti, .int ((rr : Nat) : Int) tr] 0) :: (C, listOf vs.toArray 0) ::
          (s₁.heap.objs.size + 1, oP) :: (s₁.heap.objs.size + 1 + 1, oCnt) :: (s₁.heap.objs.size + 1 + 1 + 1, oOne) :: (s₁.heap.objs.size + 1 + 1 + 1 + 1, oOth) :: []) (by kcf_all)
          clear N7 oo hds
          k_sweep
          repeat' ((first | (k_unfold; (try dsimp only)) | (k_end; wrow_close) | walk1 | (dsimp only; walk1) | (leave1; walk_say "STEP leave1"; try dsimp only) | fail "no step"))
          -- counts
          refine execsF_off ?_
          refine LCg.Assign_ListComp_U (F₀ := by k_asm) (by rfl) (by with_unfolding_all rfl) (by with_unfolding_all rfl) (by decide) (by rfl) (by decide) (by rfl) (by rfl) (by rfl) ?_
          repeat' ((fail_if_success (with_reducible show LCg.CompSrc _ _ _ _ _ _ _ _ _ _ _ _ _ _)); (first | (k_unfold; (try dsimp only)) | (k_end; wrow_close) | walk1 | (dsimp only; walk1) | (leave1; walk_say "STEP leave1"; try dsimp only) | fail "no step"))
          rename IsRange _ _ _ _ _ _ _ _ => rg1
          refine LCg.CompSrc.range (n := 6) (by rfl) (by k_asm) (by k_asm) rg1 (small_one (by decide) (by decide) (by decide) (by decide)) (by rfl) (by rw [PySem.sizeLine_eq]; decide) ?_
          intro gA
          refine restS (σ := Nat × Nat × Tok × Tok) (fun st => (P, listOf #[.ref C, .int ((st.1 : Nat) : Int) st.2.2.1, .int ((st.2.1 : Nat) : Int) st.2.2.2] 0) :: (C, listOf vs.toArray 0) ::
          (s₁.heap.objs.size + 1, oP) :: (s₁.heap.objs.size + 1 + 1, oCnt) :: (s₁.heap.objs.size + 1 + 1 + 1, oOne) :: (s₁.heap.objs.size + 1 + 1 + 1 + 1, oOth) :: [])
            (fun i st ys => st.1 ≤ 20 + i ∧ ∃ cs : List Nat, cs.length = i ∧ Cnts ys cs) (ii, rr, ti, tr) ⟨hb, [], rfl, cnts_nil⟩ ?_ ?_
          · rintro i ⟨ii, rr, ti, tr⟩ ys v I oI CC oC DD m₂ h tk E' hi ⟨hb, cs, hcl, hcs⟩ ⟨tv, rfl⟩ hC hx F4 N4 off ne
            have off0 := off
            dsimp only at N4 off hb
            repeat' ((fail_if_success (with_reducible show wpAny _ _ (call (Value.ref _) _) _ _ _)); (first | (k_unfold; (try dsimp only)) | (k_end; wrow_close) | walk1 | (dsimp only; walk1) | (leave1; walk_say "STEP leave1"; try dsimp only) | fail "no step"))
            have N5 := News.sub N4 (l' := (P, listOf #[.ref C, .int ((ii : Nat) : Int) ti, .int ((rr : Nat) : Int) tr] 0) :: (C, listOf vs.toArray 0) :: (I, oI) :: (CC, oC) :: (DD, LCg.lst ys) ::
          (s₁.heap.objs.size + 1, oP) :: (s₁.heap.objs.size + 1 + 1, oCnt) :: (s₁.heap.objs.size + 1 + 1 + 1, oOne) :: (s₁.heap.objs.size + 1 + 1 + 1 + 1, oOth) :: []) (by kcf_all)
            refine' draw_p (many := 21) ?B ?F ?X ?T ?hk ?hr ?hu N5 hCP (ownOff_cons (Ne.symm off.1.1) (ownOff_cons (Ne.symm off.1.2.1) (ownOff_cons (Ne.symm off.1.2.2) off1))) hPen (by decide) (by decide) (idx_3 hb hi) ?_
            (case B => k_asm); (case F => k_asm); (case X => k_asm); (case T => k_asm); (case hk => first | exact rfl | assumption); (case hr => ktr_room); (case hu => ktr_units)
            intro d2 i2 r2 t2 ti2 tr2 hA2 tkA2 hd2 hi2 F6 N6
            clear N5 N4
            refine LCg.CompEnd.intro F6 N6 (penLed P C vs i2 r2 ti2 tr2 s₁.heap.objs.size oP oCnt oOne oOth) (by dsimp only [penLed]; kcf_all) off0 trivial ⟨(i2, r2, ti2, tr2), rfl, ?_⟩
            exact ⟨idx_s hi2 hb, cs ++ [d2], by rw [List.length_append, hcl]; rfl, cnts_snoc hcs hd2⟩
          · rintro ⟨ii, rr, ti, tr⟩ ys ⟨hb, cs, hcl, hcs⟩
            dsimp only at hb ⊢
            replace hb : ii ≤ 26 := hb
            clear rg1
            intro CL hA3 tkA3 F7 N7 oo
            simp only [LCg.Off1, and_true] at oo
            obtain ⟨q1, q2, q3, q4, q5, q6⟩ := oo
            refine tail_c (m₀ := _) (ii := ii) (rr := rr) (ti := ti) (tr := tr) (vs := vs) (ys := ys) (P := P) (C := C) (CL := CL) (tD := tD) (tT := tT) (D := D) (oP := oP) (oCnt := oCnt) (oOne := oOne) (oOth := oOth) K0 KX T
              (fr_know (z := Str.ofString "counts") (fr_know (z := Str.ofString "turned_data") (fr_know (z := Str.ofString "data") F7 (by with_unfolding_all rfl)) (by with_unfolding_all rfl)) (by with_unfolding_all rfl)) N7
              hCP (Ne.symm q4) (Ne.symm q5) (Ne.symm q6) p4 hLC (Ne.symm q1) dP dCnt dOne dOth hPen hD8 hcl hcs hb ?_
            intro h' tk' m' F'
            show GoodWG _ _ _ _ _ _ _
            refine GoodW.toG (goodW_bool (b := true) F' hg (raisesW_false ?_) ?_)
            · wrow_none_raised
            · first | rfl | wrow_post
    · refine GoodW.toG ⟨.inl ⟨.bool true, .bool true, [], rfl, raisesW_false ?_, ReadsW.bool _, ?_, ?_⟩, fun _ _ e => e, rfl, hg⟩
      · wrow_none_raised
      · first | rfl | wrow_post
      · exact unshared_nil)
end

end Mine
end

theorem PySem.Challenge.cw_og0154_01_holds : PySem.Challenge.rw_og0154_01.Holds := by
  exact Mine.walk
