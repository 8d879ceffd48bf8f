import PyProof.Rows.All
import Wide.All
import OpenK.AllK
import Wide.FinOn
import Lean
import PySem.Challenge.RW_nu0061_01
set_option Elab.async false
set_option maxRecDepth 100000
set_option compiler.extract_closed false
section
open PySem PySem.W PyProof.Rows
set_option maxHeartbeats 8000000
namespace Mine
section
local macro_rules | `(tactic| o_head $_) => `(tactic| assumption)
/-- the written part of the heap -/
theorem hd (h : PySem.Challenge.rw_nu0061_01.row.Holds) : PySem.Challenge.rw_nu0061_01.row.Holds := by k_head
end
/-- the statements of the text that the walk may look at -/
noncomputable def seenBody : {x : List Stmt // x = (view PySem.Challenge.rw_nu0061_01.row.toRowW.1 [0, 2, 3, 4, 5, 6, 7, 8, 9, 10, 12, 13, 15, 17, 18, 19, 20, 21, 22, 23, 24, 25, 26, 27, 28, 29, 30, 32, 33, 34, 35, 36, 37, 38, 39, 40, 41, 42, 43]).main.body} := ⟨[_, _, _, _, _, _, _, _, _, _, _, _, _, _, _, _, _, _, _, _, _, _, _, _, _, _, _, _, _, _, _, _, _, _, _, _, _, _, _], rfl⟩
noncomputable def seen : Program := { PySem.Challenge.rw_nu0061_01.row.toRowW.1 with main := { PySem.Challenge.rw_nu0061_01.row.toRowW.1.main with body := seenBody.1 } }
end Mine
end
section
open PySem PySem.W PyProof.Rows PySem.Calls PySem.Spec
set_option maxHeartbeats 2000000
namespace Mine
noncomputable abbrev Led := List (Addr × Obj)
noncomputable abbrev LL : List Str := looseW seen [Str.ofString "DtdFault"]
noncomputable abbrev PR : Program := PySem.Challenge.rw_nu0061_01.row.prog
noncomputable def imm (o : Obj) : Bool := match o.data with
  | .plain => (match o.cls with | .ref _ => true | _ => false)
  | .seq _ _ => o.cls == .type "tuple"
  | _ => false
noncomputable def Kp (M : List Addr) (news news' : Led) : Prop := ∀ p ∈ news, (p.1 ∈ M → imm p.2 = true) → p ∈ news'
theorem Kp.refl {M : List Addr} {news : Led} : Kp M news news := fun _ h _ => h
theorem Kp.cons {M : List Addr} {news news' : Led} {q : Addr × Obj} (k : Kp M news news') : Kp M news (q :: news') := fun p h i => .tail _ (k p h i)
theorem Kp.trans {M : List Addr} {a b c : Led} (x : Kp M a b) (y : Kp M b c) : Kp M a c := fun p h i => y p (x p h i) i
theorem Kp.mono {M M' : List Addr} {a b : Led} (x : Kp M a b) (h : ∀ d ∈ M, d ∈ M') : Kp M' a b := fun p hp i => x p hp fun q => i (h _ q)
theorem Kp.sub {M : List Addr} {a b : Led} (h : ∀ p ∈ a, p ∈ b) : Kp M a b := fun p hp _ => h p hp
theorem Kp.of_nil {a b : Led} (k : Kp [] a b) : ∀ p ∈ a, p ∈ b := fun p h => k p h fun q => nomatch q
/-- the contract of a def -/
noncomputable abbrev Con (w : World) (f : Addr) (args : List Value) (room units : Nat) (news : Led) (M : List Addr) (Post : Value → Led → Prop) (Perr : Prop) : Prop :=
  ∀ (mean : ExcName → Option Value) (mg mb : Str → Option Value) (dp un : Nat) (gd : Option (List Code)) (cn : Str) (cs : Scope) (a : Addr) (ccd : Value) (cl : List (Str × Addr)) (outer : List Env) (A₀ : Around) (base h₀ : Heap) (L : Addr) (m : Str → Option Value) (s : Shared)
    (Q E : Value → Shared → Prop),
    Below A₀ base outer h₀ → Fr h₀ L s.heap m → (hd.heap_1 w.params).In h₀ → News h₀ L s.heap news → Top seen LL mean mg mb h₀ → cs.kind = .function → dp + room < recursionLimit → un + units < cLine →
    (∀ r news' h' tk', Fr h₀ L h' m → News h₀ L h' news' → Kp M news news' → Post r news' → Q r { s with heap := h', toks := tk' }) →
    (Perr → ∀ e t vs news' h' tk' g₂, Fr h₀ L g₂ m → g₂.UpToSlots h' → RaisedK base (envX cn cs L a ccd cl :: outer) e (.ref 111) t vs news' h' → Kp M news news' → E (.ref e) { s with heap := h', toks := tk' }) →
    wpAny (model PR w) (ktrTop dp un gd cn cs L a ccd cl outer) (call (.ref f) args) Q E s
/-- the dict of a scanner -/
noncomputable abbrev scD (w : World) (t1 t2 t3 t4 : Tok) (T : Str) (i : Int) : Obj :=
  dictOf [⟨PyData.keyHash w.params (Str.ofString "text"), .str (Str.ofString "text") t1, .str T t2⟩, ⟨PyData.keyHash w.params (Str.ofString "at"), .str (Str.ofString "at") t3, .int i t4⟩] 2
end Mine
namespace Mine
theorem con_use {w : World} {f : Addr} {args : List Value} {room units : Nat} {news : Led} {M : List Addr} {Post : Value → Led → Prop} {Perr : Prop}
    {mean : ExcName → Option Value} {mg mb : Str → Option Value} {dp un : Nat} {gd : Option (List Code)} {cn : Str} {cs : Scope} {a : Addr} {ccd : Value} {cl : List (Str × Addr)} {outer : List Env} {A₀ : Around} {base h₀ : Heap} {L : Addr} {m : Str → Option Value} {s : Shared}
    {Q E : Value → Shared → Prop} (N : News h₀ L s.heap news) (C : Con w f args room units news M Post Perr) (B : Below A₀ base outer h₀) (F : Fr h₀ L s.heap m) (X : (hd.heap_1 w.params).In h₀) (T : Top seen LL mean mg mb h₀) (hk : cs.kind = .function) (hd : dp + room < recursionLimit) (hu : un + units < cLine)
    (ok : ∀ r news' h' tk', Fr h₀ L h' m → News h₀ L h' news' → Kp M news news' → Post r news' → Q r { s with heap := h', toks := tk' })
    (err : Perr → ∀ e t vs news' h' tk' g₂, Fr h₀ L g₂ m → g₂.UpToSlots h' → RaisedK base (envX cn cs L a ccd cl :: outer) e (.ref 111) t vs news' h' → Kp M news news' → E (.ref e) { s with heap := h', toks := tk' }) :
    wpAny (model PR w) (ktrTop dp un gd cn cs L a ccd cl outer) (call (.ref f) args) Q E s := C _ _ _ _ _ _ _ _ _ _ _ _ _ _ _ _ _ _ _ _ B F X N T hk hd hu ok err
end Mine
namespace Mine
noncomputable abbrev off (d : Addr) (news : Led) : Led := news.filter fun p => decide (p.1 ≠ d)
theorem off_ne {d : Addr} {news : Led} : ∀ p ∈ off d news, p.1 ≠ d := fun _ hp => of_decide_eq_true (List.mem_filter.mp hp).2
theorem off_mem {d : Addr} {news : Led} {p : Addr × Obj} (h : p ∈ news) (n : p.1 ≠ d) : p ∈ off d news := List.mem_filter.mpr ⟨h, decide_eq_true n⟩
theorem off_sub {d : Addr} {news : Led} {p : Addr × Obj} (h : p ∈ off d news) : p ∈ news := (List.mem_filter.mp h).1
theorem news_same {h₀ h : Heap} {L a : Addr} {news : Led} {o o' : Obj} (N : News h₀ L h news) (x : (a, o) ∈ news) (y : (a, o') ∈ news) : o = o' := Option.some.inj ((N.get x).symm.trans (N.get y))
theorem news_front {h₀ h : Heap} {L d : Addr} {news : Led} {o : Obj} (N : News h₀ L h news) (hm : (d, o) ∈ news) : News h₀ L h ((d, o) :: off d news) := fun p hp => (List.mem_cons.mp hp).elim (fun e => N p (e ▸ hm)) fun q => N p (off_sub q)
theorem kp_front {h₀ h : Heap} {L d : Addr} {news : Led} {o : Obj} (N : News h₀ L h news) (hm : (d, o) ∈ news) (ho : imm o = false) (o' : Obj) : Kp [d] news ((d, o') :: off d news) := fun p hp hi => by
  by_cases e : p.1 = d
  · have q := hi (by rw [e]; exact .head _)
    obtain ⟨a, b⟩ := p
    dsimp only at e q
    subst e
    have := news_same N hp hm
    subst this
    rw [ho] at q; cases q
  · exact .tail _ (off_mem hp e)
theorem off_kp {h₀ h : Heap} {L d : Addr} {news : Led} {o : Obj} (N : News h₀ L h news) (hm : (d, o) ∈ news) (ho : imm o = false) : Kp [d] news (off d news) := fun p hp hi => by
  by_cases e : p.1 = d
  · have q := hi (by rw [e]; exact .head _)
    obtain ⟨a, b⟩ := p
    dsimp only at e q
    subst e
    have := news_same N hp hm
    subst this
    rw [ho] at q; cases q
  · exact off_mem hp e
end Mine
end
section
open PySem PySem.W PyProof.Rows PySem.Calls PySem.Spec Builtin Builtin.ObjectAttr
set_option maxHeartbeats 2000000
namespace Mine
section
variable {prog : Program} {w : World} {A : Around} {R : Result → Shared → Prop} {h : Heap} {g : Array GenState} {d : Drawn} {t : Nat} {os : OsState}
variable {nm q : Str} {C N : Addr} {bs bm bmB : List Value} {hdct : Bool} {sn : List Str} {sub : List Value} {ab : Bool} {col : Option Bool} {dd : Option Addr} {k0 k1 k2 k3 k5 : Option Value} {B newId initId : String}
theorem exc_check (F : ExcBaseFacts B newId initId bmB) (hcB : (Value.ref C :: bm).contains (.type B) = true) {M : Model} {E : Value → Shared → Prop} {rest : List Value} {Q : Unit → Shared → Prop} (hC : h.get? C = some (excClassObj nm q C N bs bm hdct sn sub ab col dd k0 k1 k2 k3 k5 newId))
    (hq : Q () ⟨h, g, d, t, os⟩) : wpAny M A (checkBuiltinCall newId ⟨.ref C :: rest, []⟩) Q E ⟨h, g, d, t, os⟩ := by
  have hstar := F.noStar
  simp only [checkBuiltinCall, F.newKind, F.newSplit, F.newRow]
  repeat (first | refine wpAny_loadPart_at hC ?_ | (refine wpAny_isSubtype_exc hC ?_; rw [hcB]) | refine wpAny_staticBase_exc hC ?_ | refine wpAny_madeBy_exc hC ?_ | simp only [bne_self_eq_false, Bool.false_eq_true, if_false] | wp_step)
  exact hq
theorem exc_new (F : ExcBaseFacts B newId initId bmB) (hcB : (Value.ref C :: bm).contains (.type B) = true) (hcA : (Value.ref C :: bm).contains (.type "AttributeError") = false) (hcN : (Value.ref C :: bm).contains (.type "NameError") = false) {rest : List Value}
    (hC : h.get? C = some (excClassObj nm q C N bs bm hdct sn sub ab col dd k0 k1 k2 k3 k5 newId))
    (hq : R (.ok (.ret (.ref (h.objs.size + 1)))) ⟨(h.push { cls := .type "tuple", data := .seq rest.toArray }).push
      { cls := .ref C, data := .fields #[.ref h.objs.size, .none, .none, .none, .bool false, .none] }, g, d, t, os⟩) (hrest : rest.length ≤ sizeLine := by size_fits) :
    codeAny (model prog w) A (.builtin newId ⟨.ref C :: rest, []⟩) R ⟨h, g, d, t, os⟩ := by
  have hends := F.ends
  refine PySem.codeAny_builtinAt F.entry ?_
  unfold Builtin.«BaseException.__new__»
  refine PySem.wpAt_bind ?_
  show PySem.wpAt _ _ _ (stack >>= _) _ _ _
  refine PySem.wpAt_bind (PySem.wpAt_stack fun p below => PySem.wpAt_of_wpAny ?_)
  wp_walk
  refine PySem.wpAt_of_wpAny ?_
  rw [F.owner]
  repeat (first | with_reducible refine wpAny_madeHere_exc F.canon hC ?_ | with_reducible refine wpAny_loadPart_at hC ?_ | (with_reducible refine wpAny_isSubtype_exc hC ?_; first | rw [hcB] | rw [hcA] | rw [hcN]) | wp_step)
  show R _ _
  rw [Heap.size_push]
  exact hq
end
noncomputable abbrev excO (t : Addr) : Obj := { cls := .ref 111, data := .fields #[.ref t, .none, .none, .none, .bool false, .none] }
noncomputable abbrev tupO (vs : List Value) : Obj := { cls := .type "tuple", data := .seq vs.toArray }
theorem look111 (P : Params) : ∃ nm q N bs hdct sn sub ab col dd k0 k1 k2 k3 k5, (hd.heap_1 P).lookup 111 = some (excClassObj nm q 111 N bs [.ref 90, .type "Exception", .type "BaseException", .type "object"] hdct sn sub ab col dd k0 k1 k2 k3 k5 "Exception.__new__") := ⟨_, _, _, _, _, _, _, _, _, _, _, _, _, _, _, by with_unfolding_all rfl⟩
section
variable {prog : Program} {w : World} {A : Around} {s : Shared} {h₀ : Heap} {L : Addr} {m : Str → Option Value} {news : List (Addr × Obj)} {R : Result → Shared → Prop}
theorem make_exc {rest : List Value} (F : Fr h₀ L s.heap m) (N : News h₀ L s.heap news) (X : (hd.heap_1 w.params).In s.heap)
    (h : ∀ x t h', Fr h₀ L h' m → News h₀ L h' ((x, excO t) :: (t, tupO rest) :: news) → (∀ p ∈ news, p.1 < t) → t < x →
      codeAny (model prog w) (A.under (.builtin "type.__call__" ⟨.ref 111 :: rest, []⟩)) (.call (.ref 108) ⟨.ref x :: rest, []⟩) (InitBack x R) { s with heap := h' }) (hrest : rest.length ≤ sizeLine := by size_fits) :
    codeAny (model prog w) A (.call (.ref 111) ⟨rest, []⟩) R s := by
  obtain ⟨nm, q, NN, bs, hdct, sn, sub, ab, col, dd, k0, k1, k2, k3, k5, hl⟩ := look111 w.params
  have hC := X _ _ hl
  have call : Looks (model prog w) s.heap (specialOf (.ref 111) "__call__") (some (.builtin "type.__call__")) := looks_specialIn X (by k_is)
  have typ : Looks (model prog w) s.heap (isInstance (.ref 111) (.type "type")) true := looks_instIn X (by k_is)
  have hi : Looks (model prog w) s.heap (typeLookup (.ref 111) "__init__") (some (.ref 108)) := looks_findIn X (by k_is)
  have hfn : typeIn (hd.heap_1 w.params) (.ref 108) = some (.type "function") := by k_is
  have self : Looks (model prog w) s.heap (isSubtype (.ref 111) (.ref 111)) true := looks_subIn X (by k_is)
  obtain ⟨hh, g, d, tk, os⟩ := s
  refine codeAny_of_tree ?_
  show wpAny _ _ (callAny (.ref 111) _) _ _ _
  refine nd_load hC ?_
  show wpAny _ _ (callAny.viaDunder (.ref 111) _) _ _ _
  unfold callAny.viaDunder
  refine wpAny_bind (call.at ?_)
  dsimp only
  rw [tc_bind]
  refine wpAny_bind (wpAny_pure (wpAny_bind (wpAny_pure ?_)))
  refine wpAny_pure (a := Fin.again (.call (.builtin "type.__call__") ⟨.ref 111 :: rest, []⟩)) (And.intro rfl ?_)
  refine codeAny_call_builtin_at (Code.quiet_builtin _ (by decide +kernel)) entry_typeCall (check_slot tc_kind tc_split typ (tc_args _ _ _) ?_)
  unfold Builtin.«type.__call__»
  repeat (first | with_reducible refine wpAny_loadPart_at hC ?_ | with_reducible refine wpAny_madeBy_exc hC ?_ | wp_step)
  refine codeAny_call_builtin_code (Code.quiet_builtin _ PySem.F.excBase_Exception.quiet) (exc_check PySem.F.excBase_Exception (by rfl) hC ?_)
  refine exc_new PySem.F.excBase_Exception (by rfl) (by rfl) (by rfl) hC ?_ hrest
  show wpAny _ _ _ _ _ _
  have k : ∀ b o, hh.get? b = some o → ((hh.push (tupO rest)).push (excO hh.objs.size)).get? b = some o := fun b o e => Heap.get?_push_of_some _ (Heap.get?_push_of_some _ e)
  have hx : ((hh.push (tupO rest)).push (excO hh.objs.size)).get? (hh.objs.size + 1) = some (excO hh.objs.size) := by heap_get
  have t1 : Looks (model prog w) ((hh.push (tupO rest)).push (excO hh.objs.size)) (typeOf (.ref (hh.objs.size + 1))) (.ref 111) := (Looks.ld hx).andThen .now
  have s1 := self.keeps k
  have i1 := hi.keeps k
  have b1 := bind_fn (M := model prog w) (X.keeps k) (.ref (hh.objs.size + 1)) hfn
  unfold isInstance callSpecial? specialOf
  repeat (first | with_reducible refine wpAny_call ?_ | lk)
  have N2 := (N.push F (tupO rest)).push (F.push _) (excO hh.objs.size)
  rw [Heap.size_push] at N2
  refine codeAny_mono (h _ hh.objs.size _ ((F.push _).push _) N2 (fun p hp => Heap.lt_size (N p hp).1) (Nat.lt_succ_self _)) fun r s' z => ?_
  rcases r with e | (v | _ | _ | _) <;> first | exact z | exact z.elim | skip
  obtain ⟨rfl, z⟩ := z
  exact wpAny_pure (wpAny_pure z)
end
end Mine
end
section
open PySem PySem.W PyProof.Rows PySem.Calls PySem.Spec Builtin Builtin.ObjectAttr
set_option maxHeartbeats 2000000
namespace Mine
theorem refuse_tail (self : Value) : refuseLoop self "__setattr__" [.type "Exception", .type "BaseException", .type "object"] = pure () := by kernel_rfl
theorem putL_len (name : Str) (hh : Int) (k v : Value) (es : List DictEntry) : (putL name hh k v es).length ≤ es.length + 1 := by
  induction es with
  | nil => simp [putL]
  | cons e r ih => unfold putL; split <;> simp <;> omega
section
variable {prog : Program} {w : World} {A : Around} {E : Value → Shared → Prop} {s : Shared} {h₀ : Heap} {L x : Addr} {m : Str → Option Value} {news : List (Addr × Obj)} {R : Result → Shared → Prop} {ox : Obj} {od : Option Obj} {name : Str} {v : Value} {tk : Tok}
theorem osa_open111 (X : (hd.heap_1 w.params).In s.heap) (I : InstAt s.heap x ox 111 od) (ha : findIn (hd.heap_1 w.params) (.ref 111) name = some none)
    (h : wpAny (model prog w) A.in1 (storeInOwnDict (.ref x) (.ref 111) (.str name tk) name v false)
      (fun fin s' => match fin with | .done f => R (.ok f) s' | .again c' => c'.quiet = true ∧ codeAny (model prog w) A c' R s') (fun e s' => R (.error e) s') s) :
    codeAny (model prog w) A (.call (.builtin "object.__setattr__") ⟨[.ref x, .str name tk, v], []⟩) R s := by
  have SF := PySem.F.store_object
  obtain ⟨nm, q, NN, bs, hdct, sn, sub, ab, col, dd, k0, k1, k2, k3, k5, hl⟩ := look111 w.params
  have hC := X _ _ hl
  have sub : Looks (model prog w) s.heap (isInstance (.ref x) (.type "object")) true := I.type.andThen (looks_subIn X (by k_is))
  refine codeAny_call_builtin SF.slot.plain SF.entry (@check_slot (model prog w) _ _ s "object.__setattr__" "object" "__setattr__" (.ref x) [.str name tk, v] [] _ SF.kind SF.split sub (SF.args (.ref x) (.str name tk) v) ?_)
  have hm : Looks (model prog w) s.heap (mroOf (.ref 111)) (.ref 111 :: [.ref 90, .type "Exception", .type "BaseException", .type "object"]) := (looks_clsIn X (by unfold clsIn; rw [hl])).andThen .now
  have L3 : Looks (model prog w) s.heap (storeTaker? none) none := .now
  rw [osa_eq, refuse_eq]
  refine wpAny_bind (wpAny_bind (I.type.here (wpAny_bind (hm.here ?_))))
  rw [refuseLoop_ref, refuseLoop_ref, refuse_tail]
  refine wpAny_pure (wpAny_bind (I.type.here (wpAny_bind ((looks_findIn X ha).here (wpAny_bind (L3.here ?_))))))
  exact h
theorem looks_cls111 {M : Model} {h : Heap} (X : (hd.heap_1 w.params).In h) : ∃ cd, Looks M h (classData 111) cd ∧ cd.hasDict = true := by
  have e : hasDictIn (hd.heap_1 w.params) 111 = true := by k_is
  obtain ⟨cd, hc, hd⟩ := any_some e
  exact ⟨cd, looks_clsIn X hc, hd⟩
/-- the first store: the dict is made -/
theorem set_exc0 {vs : Array Value} {Q : Unit → Shared → Prop} (F : Fr h₀ L s.heap m) (N : News h₀ L s.heap ((x, ⟨.ref 111, none, .fields vs, #[]⟩) :: news)) (hne : ∀ p ∈ news, p.1 ≠ x) (X₀ : (hd.heap_1 w.params).In h₀) (ha : findIn (hd.heap_1 w.params) (.ref 111) name = some none)
    (h : ∀ dn h', Fr h₀ L h' m → News h₀ L h' ((x, ⟨.ref 111, some dn, .fields vs, #[]⟩) :: (dn, dictOf [⟨PyData.keyHash w.params name, .str name (s.toks + 1), v⟩] 1) :: news) → (∀ p ∈ news, p.1 < dn) → x < dn → Q () { s with heap := h', toks := s.toks + 2 }) :
    wpAny (model prog w) A (setAttr (.ref x) name v) Q E s := by
  have X := X₀.keeps F.keep
  have hx := (N _ (.head _)).1
  have I : InstAt s.heap x ⟨.ref 111, none, .fields vs, #[]⟩ 111 none := ⟨hx, rfl, rfl, trivial⟩
  refine set_plain X I (by k_is) (osa_open111 (s := { s with toks := s.toks + 1 }) X I ha ?_)
  obtain ⟨cd, hcd, hhd⟩ := looks_cls111 (M := model prog w) X
  obtain ⟨hh, g, d, t, os⟩ := s
  dsimp only at F N X hx hcd h ⊢
  have F1 := F.push emptyDict
  have N1 := N.push F emptyDict
  have lt : ∀ p ∈ ((x, (⟨.ref 111, none, .fields vs, #[]⟩ : Obj)) :: news), p.1 < hh.objs.size := fun p hp => Heap.lt_size (N p hp).1
  have hxd : x ≠ hh.objs.size := Nat.ne_of_lt (lt _ (.head _))
  obtain ⟨F2, N2⟩ := news_upd (pre := [(hh.objs.size, emptyDict)]) (post := news) (d := x) (o := ⟨.ref 111, none, .fields vs, #[]⟩) (o' := ⟨.ref 111, some hh.objs.size, .fields vs, #[]⟩) (f := fun o => { o with dict := some hh.objs.size }) F1 N1
    (fun p hp => by rw [List.mem_singleton.mp hp]; exact Ne.symm hxd) hne rfl rfl
  have D2 := (N2 (hh.objs.size, emptyDict) (.head _)).1
  obtain ⟨F3, N3⟩ := news_upd (pre := []) (post := (x, ⟨.ref 111, some hh.objs.size, .fields vs, #[]⟩) :: news) (d := hh.objs.size) (o := emptyDict) (o' := dictOf [⟨PyData.keyHash w.params name, .str name (t + 1), v⟩] 1) (f := Obj.putName name (PyData.keyHash w.params name) (.str name (t + 1)) v) F2 N2
    (fun _ q => nomatch q) (fun p hp => by
      rcases List.mem_cons.mp hp with rfl | hp
      · exact hxd
      · exact Nat.ne_of_lt (lt _ (.tail _ hp))) (putName_dict name _ _ _ [] 0) rfl
  have D3 := (N3 _ (.head _)).1
  refine wpAny_bind (wpAny_pure (wpAny_bind ?_))
  show wpAny _ _ (instanceDict x true) _ _ _
  unfold instanceDict
  refine wpAny_bind (wpAny_loadPart hx (wpAny_bind (hcd.here ?_)))
  rw [hhd]
  refine wpAny_bind (wpAny_alloc (wpAny_bind (wpAny_update (o := ⟨.ref 111, none, .fields vs, #[]⟩) (Heap.get?_push_of_some _ hx) ?_)))
  refine wpAny_pure (a := some hh.objs.size) ?_
  refine wpAny_bind (wpAny_pure (wpAny_bind ?_))
  unfold nsSet
  refine wpAny_bind (wpAny_bind (wpAny_askSetting (wpAny_pure (wpAny_bind (wpAny_mkText (wpAny_bind (wpAny_loadPart D2 ?_)))))))
  dsimp only
  rw [aRefKeyMayBeTheName_at, if_neg (by simp)]
  refine wpAny_updatePart (o := emptyDict) (by exact D2) ?_
  refine wpAny_bind (wpAny_lookBehind D3 (pastItsLine_dict (by show 1 ≤ _; decide)) ?_)
  refine wpAny_pure (h hh.objs.size _ F3 (fun p hp => N3 p ?_) (fun p hp => lt p (.tail _ hp)) (lt _ (.head _)))
  simp only [List.nil_append, List.mem_cons] at hp ⊢
  rcases hp with e | e | e
  · exact .inr (.inl e)
  · exact .inl e
  · exact .inr (.inr e)
/-- a later store: the dict stands -/
theorem set_exc1 {vs : Array Value} {dn : Addr} {es : List DictEntry} {n : Nat} {Q : Unit → Shared → Prop} (F : Fr h₀ L s.heap m) (N : News h₀ L s.heap ((x, ⟨.ref 111, some dn, .fields vs, #[]⟩) :: (dn, dictOf es n) :: news)) (hxd : x ≠ dn) (hne : ∀ p ∈ news, p.1 ≠ dn) (X₀ : (hd.heap_1 w.params).In h₀) (ha : findIn (hd.heap_1 w.params) (.ref 111) name = some none)
    (hk : es.any (·.refKey) = false) (hz : es.length ≤ 900)
    (h : ∀ h' es' n', Fr h₀ L h' m → News h₀ L h' ((x, ⟨.ref 111, some dn, .fields vs, #[]⟩) :: (dn, dictOf es' n') :: news) → Q () { s with heap := h', toks := s.toks + 2 }) :
    wpAny (model prog w) A (setAttr (.ref x) name v) Q E s := by
  have X := X₀.keeps F.keep
  have hx := (N _ (.head _)).1
  have D := (N _ (.tail _ (.head _))).1
  have I : InstAt s.heap x ⟨.ref 111, some dn, .fields vs, #[]⟩ 111 (some (dictOf es n)) := ⟨hx, rfl, rfl, D⟩
  refine set_plain X I (by k_is) (osa_open111 (s := { s with toks := s.toks + 1 }) X I ha ?_)
  obtain ⟨cd, hcd, hhd⟩ := looks_cls111 (M := model prog w) X
  obtain ⟨hh, g, d, t, os⟩ := s
  dsimp only at F N X hx hcd h D ⊢
  obtain ⟨F3, N3⟩ := news_upd (pre := [(x, ⟨.ref 111, some dn, .fields vs, #[]⟩)]) (post := news) (d := dn) (o := dictOf es n) (o' := dictOf (putL name (PyData.keyHash w.params name) (.str name (t + 1)) v es) (putN name es n)) (f := Obj.putName name (PyData.keyHash w.params name) (.str name (t + 1)) v) F N
    (fun p hp => by rw [List.mem_singleton.mp hp]; exact hxd) hne (putName_dict name _ _ _ es n) rfl
  have D3 := (N3 (dn, _) (.tail _ (.head _))).1
  refine wpAny_bind (wpAny_pure (wpAny_bind ?_))
  show wpAny _ _ (instanceDict x true) _ _ _
  unfold instanceDict
  refine wpAny_bind (wpAny_loadPart hx (wpAny_bind (hcd.here ?_)))
  rw [hhd]
  refine wpAny_pure (a := some dn) ?_
  refine wpAny_bind (wpAny_pure (wpAny_bind ?_))
  unfold nsSet
  refine wpAny_bind (wpAny_bind (wpAny_askSetting (wpAny_pure (wpAny_bind (wpAny_mkText (wpAny_bind (wpAny_loadPart D ?_)))))))
  dsimp only
  have c : (!es.toArray.any (·.key.isStr name) && es.toArray.any (·.refKey)) = false := by
    rw [← Array.any_toList, ← Array.any_toList]
    dsimp only
    rw [hk, Bool.and_false]
  rw [aRefKeyMayBeTheName_at, c]
  refine wpAny_updatePart (o := dictOf es n) (by exact D) ?_
  refine wpAny_bind (wpAny_lookBehind D3 (pastItsLine_dict ?_) ?_)
  · have := putL_len name (PyData.keyHash w.params name) (.str name (t + 1)) v es
    rw [List.size_toArray, sizeLine_eq]
    omega
  exact wpAny_pure (h _ _ _ F3 N3)
end
section
variable {h : Heap} {g : Array GenState} {d : Drawn} {t : Nat} {os : OsState}
variable {nm q : Str} {C N : Addr} {bs bm bmB : List Value} {hdct : Bool} {sn : List Str} {sub : List Value} {ab : Bool} {col : Option Bool} {dd : Option Addr} {k0 k1 k2 k3 k5 : Option Value} {B newId initId : String}
theorem exc_check_init (F : ExcBaseFacts B newId initId bmB) (hcB : (Value.ref C :: bm).contains (.type B) = true) {M : Model} {A : Around} {E : Value → Shared → Prop} {e : Addr} {oe : Obj} {rest : List Value} {Q : Unit → Shared → Prop}
    (hC : h.get? C = some (excClassObj nm q C N bs bm hdct sn sub ab col dd k0 k1 k2 k3 k5 newId)) (he : h.get? e = some oe) (hcls : oe.cls = .ref C) (hq : Q () ⟨h, g, d, t, os⟩) :
    wpAny M A (checkBuiltinCall initId ⟨.ref e :: rest, []⟩) Q E ⟨h, g, d, t, os⟩ := by
  have hshort := F.noStar
  simp only [checkBuiltinCall, F.initKind, F.initSplit, F.initRow]
  repeat (first | (with_reducible refine wpAny_loadPart_at he ?_; rw [hcls]) | with_reducible refine wpAny_loadPart_at hC ?_ | (with_reducible refine wpAny_isSubtype_exc hC ?_; rw [hcB]) | wp_step)
  refine wpAny_onRaise ?_
  rw [show ∀ (a b : String) (n : Nat), Bind.check ⟨.positional, "*", B, .self, [⟨"args", .varPos, false⟩]⟩ a b n (List.map (fun x => x.fst) ({ pos := Value.ref e :: rest } : Args).kw) = pure () from
    fun a b n => check_star_args _ _ _ _ _ _]
  exact wpAny_pure hq
end
theorem typeOf_exc : typeOf (.type "Exception") = pure (.type "type") := by kernel_rfl
section
variable {prog : Program} {w : World} {A : Around} {E : Value → Shared → Prop} {s : Shared} {h₀ : Heap} {L x : Addr} {m : Str → Option Value} {news : List (Addr × Obj)}
theorem exc_init {te : Addr} {args : List Value} {Q : Value → Shared → Prop} (F : Fr h₀ L s.heap m) (N : News h₀ L s.heap ((x, excO te) :: news)) (hne : ∀ p ∈ news, p.1 ≠ x) (X₀ : (hd.heap_1 w.params).In h₀)
    (h : ∀ tn h', Fr h₀ L h' m → News h₀ L h' ((x, excO tn) :: (tn, tupO args) :: news) → (∀ p ∈ news, p.1 < tn) → x < tn → Q .none { s with heap := h' }) (hz : args.length ≤ sizeLine := by size_fits) :
    wpAny (model prog w) A (call (.builtin "Exception.__init__") (.ref x :: args)) Q E s := by
  have X := X₀.keeps F.keep
  obtain ⟨nm, q, NN, bs, hdct, sn, sub, ab, col, dd, k0, k1, k2, k3, k5, hl⟩ := look111 w.params
  have hC := X _ _ hl
  have hx := (N _ (.head _)).1
  obtain ⟨hh, g, d, t, os⟩ := s
  dsimp only at F N X hx hC h ⊢
  have lt : ∀ p ∈ ((x, excO te) :: news), p.1 < hh.objs.size := fun p hp => Heap.lt_size (N p hp).1
  refine wpAny_call (codeAny_call_builtin PySem.F.excBase_Exception.init.plain PySem.F.excBase_Exception.initEntry (exc_check_init PySem.F.excBase_Exception (by rfl) hC hx rfl ?_))
  unfold Builtin.«BaseException.__init__»
  have F1 := F.push (tupO args)
  have N1 := N.push F (tupO args)
  obtain ⟨F2, N2⟩ := news_upd (pre := [(hh.objs.size, tupO args)]) (post := news) (d := x) (o := excO te) (o' := excO hh.objs.size) (f := Obj.mapFields (·.setIfInBounds 0 (.ref hh.objs.size))) F1 N1
    (fun p hp => by rw [List.mem_singleton.mp hp]; exact Nat.ne_of_gt (lt _ (.head _))) hne rfl rfl
  wp_walk
  refine h hh.objs.size _ F2 (fun p hp => N2 p ?_) (fun p hp => lt p (.tail _ hp)) (lt _ (.head _))
  simp only [List.mem_append, List.mem_cons, List.not_mem_nil, or_false] at hp ⊢
  rcases hp with e | e | e
  · exact .inr (.inl e)
  · exact .inl e
  · exact .inr (.inr e)
end
noncomputable abbrev excD (dn t : Addr) : Obj := ⟨.ref 111, some dn, .fields #[.ref t, .none, .none, .none, .bool false, .none], #[]⟩
noncomputable def raiseTail (v : Value) : Sem Flow := do
  let e ← holding ([] : List Value) (excFromValue v "exceptions must derive from BaseException")
  let e ← if ← isType v then holding [e] (raisedFor v e) else raisedInstance e
  setFlight e none
  raiseNew e
section
variable {prog : Program} {w : World} {A : Around} {E : Value → Shared → Prop} {s : Shared} {x dn t : Addr}
theorem Raise_split {M : Model} {e : Expr} {pos : Pos} {env : Env} {Q : Flow → Shared → Prop} (h : wpAny M A (eval e env) (fun v s' => wpAny M A (raiseTail v) Q E s') E s) : wpAny M A (exec (.Raise (some e) none pos) env) Q E s := by
  show wpAny M A (do standAt pos; raiseStmt env (some (do let v ← eval e env; standAt pos; pure v)) none) Q E s
  unfold raiseStmt
  refine wpAny_bind (wpAny_standAt (wpAny_bind (wpAny_bind (wpAny_mono h (fun v s' z => ?_) fun _ _ z => z))))
  refine wpAny_bind (wpAny_standAt (wpAny_pure ?_))
  exact wpAny_bind (wpAny_pure z)
theorem raiseTail_exc {Q : Flow → Shared → Prop} (X : (hd.heap_1 w.params).In s.heap) (hx : s.heap.get? x = some (excD dn t)) (hh : A.handled = none) (h : E (.ref x) s) : wpAny (model prog w) A (raiseTail (.ref x)) Q E s := by
  have t1 : Looks (model prog w) s.heap (typeOf (.ref x)) (.ref 111) := (Looks.ld hx).andThen .now
  have t2 : Looks (model prog w) s.heap (typeOf (.ref 111)) (.type "type") := looks_typeIn X (by k_is)
  have s1 : Looks (model prog w) s.heap (isSubtype (.ref 111) (.type "BaseException")) true := looks_subIn X (by k_is)
  obtain ⟨hp, g, d, tk, os⟩ := s
  unfold raiseTail excFromValue isExcClass isInstance raisedInstance setFlight raiseNew
  repeat lk
  refine wpAny_handled ?_
  rw [hh]
  repeat lk
  exact wpAny_throw h
end
/-- a fault that a def has made: an object of DtdFault, newer than the ledger of before -/
noncomputable def IsFault (old : Led) (v : Value) (n : Led) : Prop := ∃ e dn t vs, v = .ref e ∧ (e, excD dn t) ∈ n ∧ (t, tupO vs) ∈ n ∧ ∀ p ∈ old, p.1 ≠ e ∧ p.1 ≠ t
section
variable {M : Model} {A : Around} {E : Value → Shared → Prop} {s' : Shared} {base g : Heap} {outer : List Env} {L a x t dn : Addr} {m : Str → Option Value} {name : Str} {scope : Scope} {cd : Value} {Q : Unit → Shared → Prop} {news kept : List (Addr × Obj)}
theorem leave_inst {vs : List Value} (K : Below A base outer g) (he : (x, excD dn t) ∈ news) (ht : (t, tupO vs) ∈ news) (F : Fr g L s'.heap m) (N : News g L s'.heap news) (hk9 : ∀ p ∈ kept, p ∈ news ∧ p.1 ≠ x ∧ p.1 ≠ t)
    (hQ : ∀ h', RaisedK base outer x (.ref 111) t vs kept h' → g.UpToSlots h' → Q () { s' with heap := h' }) (hk : scope.kind = .function := by rfl) :
    wpAny M (A.deeper (envOf name scope L a cd)) (leaving (envOf name scope L a cd) (.ref x)) Q E s' := by
  have K' := K.push (name := name) (a := a) (cd := cd) F hk
  have frOf : ∀ b ∈ (envOf name scope L a cd :: outer).filterMap (·.frame), base.get? b = none := fun b hm => (K'.frames.mem hm).1
  have nx := fresh_of_stays K.stays (N _ he).2.2
  have nt := fresh_of_stays K.stays (N _ ht).2.2
  have hin : ∀ env ∈ (envOf name scope L a cd :: outer), ∀ b, env.frame = some b → b ∈ x :: t :: (envOf name scope L a cd :: outer).filterMap (·.frame) := fun env he b hb => .tail _ (.tail _ (List.mem_filterMap.mpr ⟨env, he, hb⟩))
  have st : base.StaysIn (hideAll s'.heap (x :: t :: (envOf name scope L a cd :: outer).filterMap (·.frame))) := fun b o q => hideAll_get _ (K'.stays b o q) fun hm => by
    rcases List.mem_cons.mp hm with rfl | hm
    · rw [nx] at q; cases q
    · rcases List.mem_cons.mp hm with rfl | hm
      · rw [nt] at q; cases q
      · rw [frOf b hm] at q; cases q
  have offF : ∀ q ∈ news, q.1 ∉ (envOf name scope L a cd :: outer).filterMap (·.frame) := fun q hq hm => by
    obtain ⟨env, he, hf⟩ := List.mem_filterMap.mp hm
    rcases List.mem_cons.mp he with rfl | he
    · exact (N q hq).2.1 (Option.some.inj hf).symm
    · obtain ⟨o, ho, _⟩ := (K.frames.mem (List.mem_filterMap.mpr ⟨env, he, hf⟩)).2
      rw [(N q hq).2.2] at ho; cases ho
  have hl : ∀ q ∈ kept, (hideAll s'.heap (x :: t :: (envOf name scope L a cd :: outer).filterMap (·.frame))).get? q.1 = some q.2 ∧ base.get? q.1 = none := fun q hq => by
    obtain ⟨k1, k2, k3⟩ := hk9 q hq
    refine ⟨hideAll_get _ (N q k1).1 fun hm => ?_, fresh_of_stays K.stays (N q k1).2.2⟩
    rcases List.mem_cons.mp hm with e | hm
    · exact k2 e
    · rcases List.mem_cons.mp hm with e | hm
      · exact k3 e
      · exact offF q k1 hm
  refine wpAny_leaving_firstW (base := hideAll s'.heap (x :: t :: (envOf name scope L a cd :: outer).filterMap (·.frame))) (a0 := .ref t) K'.stack (funFrames_hide K'.frames hin) rfl (N _ he).1 (fun b o q => of_hideAll _ q) (hideAll_none _ (.head _)) rfl rfl rfl fun h' hL => ?_
  obtain ⟨k1, ⟨_, _, k2⟩, k3, k4⟩ := hL
  exact hQ h' ⟨⟨_, st, hl, ⟨k1, hideAll_none _ (.head _), k2, k3⟩, hideAll_none _ (.tail _ (.head _))⟩, Heap.TupAt.of_slots ⟨_, _, (N _ ht).1, rfl, rfl⟩ k4⟩ ((Heap.UpToSlots.of_keeps F.keep).trans k4)
end
end Mine
end
section
open PySem PySem.W PyProof.Rows PySem.Calls PySem.Spec Builtin Builtin.ObjectAttr
set_option maxHeartbeats 2000000
namespace Mine
/-- the end of a turn of a while: the state again with a smaller number, or the loop is left -/
noncomputable def WStep (h₀ : Heap) (L : Addr) (s : Shared) (J : Nat → (Str → Option Value) → Led → Prop) (n : Nat) (Q : Flow → Shared → Prop) (f : Flow) (s₃ : Shared) : Prop := match f with
  | .next => ∃ h' tk m₂ news₂ n', s₃ = { s with heap := h', toks := tk } ∧ Fr h₀ L h' m₂ ∧ News h₀ L h' news₂ ∧ n' < n ∧ J n' m₂ news₂
  | .cont => ∃ h' tk m₂ news₂ n', s₃ = { s with heap := h', toks := tk } ∧ Fr h₀ L h' m₂ ∧ News h₀ L h' news₂ ∧ n' < n ∧ J n' m₂ news₂
  | .brk => Q .next s₃
  | .ret v => Q (.ret v) s₃
section
variable {prog : Program} {w : World} {A : Around} {E : Value → Shared → Prop} {Q : Flow → Shared → Prop} {s : Shared} {env : Env} {h₀ : Heap} {L : Addr}
theorem WStep.next {h' : Heap} {tk n n' : Nat} {J : Nat → (Str → Option Value) → Led → Prop} {m₂ : Str → Option Value} {news₂ : Led} (F : Fr h₀ L h' m₂) (N : News h₀ L h' news₂) (hn : n' < n) (hJ : J n' m₂ news₂) : WStep h₀ L s J n Q .next { s with heap := h', toks := tk } :=
  ⟨h', tk, m₂, news₂, n', rfl, F, N, hn, hJ⟩
theorem WStep.cont {h' : Heap} {tk n n' : Nat} {J : Nat → (Str → Option Value) → Led → Prop} {m₂ : Str → Option Value} {news₂ : Led} (F : Fr h₀ L h' m₂) (N : News h₀ L h' news₂) (hn : n' < n) (hJ : J n' m₂ news₂) : WStep h₀ L s J n Q .cont { s with heap := h', toks := tk } :=
  ⟨h', tk, m₂, news₂, n', rfl, F, N, hn, hJ⟩
theorem While_my {test : Expr} {body : List Stmt} {pos : Pos} {m : Str → Option Value} {news : Led} (J : Nat → (Str → Option Value) → Led → Prop) {n₀ : Nat}
    (F : Fr h₀ L s.heap m) (N : News h₀ L s.heap news) (hJ : J n₀ m news)
    (turn : ∀ n m₁ news₁ h₁ tk₁, Fr h₀ L h₁ m₁ → News h₀ L h₁ news₁ → J n m₁ news₁ →
      wpAny (model prog w) A (isTrue test env (eval test env)) (fun b s₂ =>
        if b = true then wpAny (model prog w) A (execs body env) (WStep h₀ L s J n Q) E s₂ else Q .next s₂) E { s with heap := h₁, toks := tk₁ })
    (hE : PassesOwn (model prog w) A env E := by passes_own) :
    wpAny (model prog w) A (exec (.While test body [] pos) env) Q E s := by
  refine wpAny_While (codeAny_whileLoop (fun n s' => ∃ h₁ tk₁ m₁ news₁, s' = { s with heap := h₁, toks := tk₁ } ∧ Fr h₀ L h₁ m₁ ∧ News h₀ L h₁ news₁ ∧ J n m₁ news₁) ?_ n₀ ⟨s.heap, s.toks, m, news, rfl, F, N, hJ⟩)
  rintro n s' ⟨h₁, tk₁, m₁, news₁, rfl, F₁, N₁, J₁⟩
  refine wpAny_mono (turn n m₁ news₁ h₁ tk₁ F₁ N₁ J₁) (fun b s₂ h₂ => ?_) hE
  cases b with
  | false =>
    simp only [Bool.false_eq_true, if_false] at h₂ ⊢
    exact wpAny_execs_nil h₂
  | true =>
    simp only [if_true] at h₂ ⊢
    refine wpAny_mono h₂ (fun f s₃ h₃ => ?_) hE
    cases f with
    | next =>
      obtain ⟨h', tk, m₂, news₂, n', rfl, F₂, N₂, hn, J₂⟩ := h₃
      exact ⟨n', hn, h', tk, m₂, news₂, rfl, F₂, N₂, J₂⟩
    | cont =>
      obtain ⟨h', tk, m₂, news₂, n', rfl, F₂, N₂, hn, J₂⟩ := h₃
      exact ⟨n', hn, h', tk, m₂, news₂, rfl, F₂, N₂, J₂⟩
    | brk => exact h₃
    | ret v => exact h₃
/-- a while that leaves the frame's names alone -/
theorem While_same {test : Expr} {body : List Stmt} {pos : Pos} {m : Str → Option Value} {news : Led} (J : Nat → Led → Prop) {n₀ : Nat}
    (F : Fr h₀ L s.heap m) (N : News h₀ L s.heap news) (hJ : J n₀ news)
    (turn : ∀ n news₁ h₁ tk₁, Fr h₀ L h₁ m → News h₀ L h₁ news₁ → J n news₁ →
      wpAny (model prog w) A (isTrue test env (eval test env)) (fun b s₂ =>
        if b = true then wpAny (model prog w) A (execs body env) (WStep h₀ L s (fun k m₁ n₁ => m₁ = m ∧ J k n₁) n Q) E s₂ else Q .next s₂) E { s with heap := h₁, toks := tk₁ })
    (hE : PassesOwn (model prog w) A env E := by passes_own) :
    wpAny (model prog w) A (exec (.While test body [] pos) env) Q E s :=
  While_my (fun k m₁ n₁ => m₁ = m ∧ J k n₁) F N ⟨rfl, hJ⟩ (fun n m₁ news₁ h₁ tk₁ F₁ N₁ ⟨e, j⟩ => by subst e; exact turn n news₁ h₁ tk₁ F₁ N₁ j) hE
end
end Mine
end
section
open PySem PySem.W PyProof.Rows PySem.Calls PySem.Spec Builtin Builtin.ObjectAttr
set_option maxHeartbeats 2000000
namespace Mine
noncomputable def isIt (o : Obj) : Bool := match o.cls with
  | .type t => t == "tuple_iterator" || t == "list_iterator" || t == "range_iterator"
  | _ => false
/-- all but the iterator at I is kept -/
noncomputable def KpI (I : Addr) (n n' : Led) : Prop := ∀ p ∈ n, (p.1 = I → isIt p.2 = false) → p ∈ n'
theorem own_keep {h₀ h : Heap} {L : Addr} {M : List Addr} {nx n' own : Led} (N : News h₀ L h nx) (hown : ∀ p ∈ own, p ∈ nx ∧ (isIt p.2 = true ∨ imm p.2 = true)) (K : Kp M nx n') (hM : ∀ d ∈ M, ∃ o, (d, o) ∈ nx ∧ isIt o = false) : ∀ p ∈ own, p ∈ n' := fun p hp => by
  obtain ⟨h1, h2⟩ := hown p hp
  refine K p h1 fun hm => ?_
  rcases h2 with h2 | h2
  · obtain ⟨o, ho, hi⟩ := hM _ hm
    obtain ⟨a, b⟩ := p
    have := news_same N h1 ho
    subst this
    rw [h2] at hi; cases hi
  · exact h2
noncomputable def FStep (h₀ : Heap) (L : Addr) (own : Led) (s : Shared) (J : (Str → Option Value) → Led → Prop) (Q : Flow → Shared → Prop) (f : Flow) (s₃ : Shared) : Prop := match f with
  | .ret v => Q (.ret v) s₃
  | .brk => Q .next s₃
  | _ => ∃ h' tk m' n', s₃ = { s with heap := h', toks := tk } ∧ Fr h₀ L h' m' ∧ News h₀ L h' n' ∧ (∀ p ∈ own, p ∈ n') ∧ J m' n'
section
variable {prog : Program} {w : World} {A : Around} {E : Value → Shared → Prop} {Q : Flow → Shared → Prop} {s : Shared} {env : Env} {h₀ : Heap} {x : Str} {body : List Stmt}
theorem FStep.next {L : Addr} {own : Led} {J : (Str → Option Value) → Led → Prop} {h' : Heap} {tk : Nat} {m' : Str → Option Value} {n' : Led} (F : Fr h₀ L h' m') (N : News h₀ L h' n') (ho : ∀ p ∈ own, p ∈ n') (hJ : J m' n') : FStep h₀ L own s J Q .next { s with heap := h', toks := tk } :=
  ⟨h', tk, m', n', rfl, F, N, ho, hJ⟩
theorem my_loop {I : Addr} {fp : List Addr} {n : Nat} {P : Nat → Value → Prop} {St : Nat → Heap → Prop} {okS : Obj → Prop} {m : Str → Option Value} {news : Led} (J : Nat → (Str → Option Value) → Led → Prop)
    (W : Walks prog w A I fp [I] n P St) (hLf : env.locals ∉ fp) (hI0 : h₀.get? I = none) (hnI : ∀ p ∈ news, p.1 ≠ I) (hst : St 0 s.heap)
    (isI : ∀ i h, St i h → ∃ o, h.get? I = some o ∧ isIt o = true) (hIf : I ∈ fp) (src : ∀ i h, St i h → ∀ b ∈ fp, ∀ o, h₀.get? b = none → h.get? b = some o → isIt o = true ∨ okS o)
    (F : Fr h₀ env.locals s.heap m) (N : News h₀ env.locals s.heap news) (hj : J 0 m news) (clos : ∀ i m n n', KpI I n n' → J i m n → J i m n')
    (turn : ∀ i v m₁ nx own h tk, i < n → P i v → J i m₁ nx → (∀ p ∈ own, p ∈ nx ∧ (isIt p.2 = true ∨ okS p.2)) → Fr h₀ env.locals h (fun y => if y = x then some v else m₁ y) → News h₀ env.locals h nx →
      wpAny (model prog w) A (execs body env) (FStep h₀ env.locals own { s with heap := h, toks := tk } (J (i + 1)) Q) E { s with heap := h, toks := tk })
    (done : ∀ m₁ nx h tk, J n m₁ nx → Fr h₀ env.locals h m₁ → News h₀ env.locals h nx → Q .next { s with heap := h, toks := tk }) :
    LoopAtV prog w A h₀ env x body Q E (.ref I) s := by
  refine ⟨I, fp, [I], n, P, St, m, news, J, rfl, W, hLf, fun b hb => by rw [List.mem_singleton.mp hb]; exact hI0, fun p hp hm => hnI p hp (List.mem_singleton.mp hm), hst, F, N, hj, ?_, ?_⟩
  · rintro i v m₁ news₁ s₁ own ⟨h, tk, rfl⟩ hi hP hJ hoff hown hget hfp hst' F₁ N₁
    have hown' : ∀ p ∈ own, p ∈ own ++ news₁ ∧ (isIt p.2 = true ∨ okS p.2) := fun p hp =>
      ⟨List.mem_append_left _ hp, src _ _ hst' p.1 (hown p hp) p.2 (N₁ p (List.mem_append_left _ hp)).2.2 (hget p hp)⟩
    obtain ⟨oI, hoI, hit⟩ := isI _ _ hst'
    have hIown : (I, oI) ∈ own := hfp I hIf hI0 oI hoI
    refine wpAny_mono (turn i v m₁ (own ++ news₁) own h tk hi hP (clos _ _ _ _ (fun p hp _ => List.mem_append_right _ hp) hJ) hown' F₁ N₁) (fun f s₂ p => ?_) fun _ _ e => e
    have fin : (∃ h' tk' m' n', s₂ = { ({ s with heap := h, toks := tk } : Shared) with heap := h', toks := tk' } ∧ Fr h₀ env.locals h' m' ∧ News h₀ env.locals h' n' ∧ (∀ p ∈ own, p ∈ n') ∧ J (i + 1) m' n') →
        LoopStepU h₀ env.locals [I] own (J (i + 1)) { s with heap := h, toks := tk } .next s₂ := by
      rintro ⟨h', tk', m', n', rfl, F', N', ho, hJ'⟩
      refine ⟨rfl, h', tk', m', off I n', rfl, F', fun p hp => ?_, fun p hp hm => off_ne p hp (List.mem_singleton.mp hm), clos _ _ _ _ (fun p hp hi => off_mem hp fun e => ?_) hJ'⟩
      · exact (List.mem_append.mp hp).elim (fun q => N' p (ho p q)) fun q => N' p (off_sub q)
      · obtain ⟨a, b⟩ := p
        dsimp only at e hi
        replace hi := hi e
        subst e
        have := news_same N' hp (ho _ hIown)
        subst this
        rw [hit] at hi; cases hi
    cases f with
    | ret v => exact .ret p
    | brk => exact .brk p
    | next => exact .next (fin p)
    | cont => exact .cont (fin p)
  · rintro h' tk m' news' F' N' _ hJ
    exact done m' news' h' tk hJ F' N'
/-- a for over a tuple -/
theorem iter_tup {t : Addr} {lo : Obj} {vs : List Value} {nn : Nat} {m : Str → Option Value} {news : Led} (J : Nat → (Str → Option Value) → Led → Prop)
    (hh : A.handled = none) (ht : s.heap.get? t = some lo) (hc : lo.cls = .type "tuple") (hd : lo.data = .seq vs.toArray nn) (htL : t ≠ env.locals) (F : Fr h₀ env.locals s.heap m) (N : News h₀ env.locals s.heap news) (hj : J 0 m news) (clos : ∀ I, (∀ p ∈ news, p.1 ≠ I) → ∀ i m n n', KpI I n n' → J i m n → J i m n')
    (turn : ∀ i v m₁ nx own h tk, vs[i]? = some v → J i m₁ nx → (∀ p ∈ own, p ∈ nx ∧ (isIt p.2 = true ∨ imm p.2 = true)) → Fr h₀ env.locals h (fun y => if y = x then some v else m₁ y) → News h₀ env.locals h nx →
      wpAny (model prog w) A (execs body env) (FStep h₀ env.locals own { s with heap := h, toks := tk } (J (i + 1)) Q) E { s with heap := h, toks := tk })
    (done : ∀ m₁ nx h tk, J vs.length m₁ nx → Fr h₀ env.locals h m₁ → News h₀ env.locals h nx → Q .next { s with heap := h, toks := tk }) :
    wpAny (model prog w) A (pyIter (.ref t)) (fun it s₂ => LoopAtV prog w A h₀ env x body Q E it s₂) E s := by
  have hl : s.heap.IsTuple t vs.toArray := ⟨lo, ht, hc, nn, hd⟩
  have hne : t ≠ s.heap.objs.size := Nat.ne_of_lt (Heap.lt_size ht)
  refine wpAny_pyIter_tuple hl ?_
  have W := Walks.tuple (prog := prog) (w := w) hh s.heap.objs.size t hne vs.toArray
  have hlen : vs.toArray.size = vs.length := by simp
  rw [hlen] at W
  refine my_loop (okS := fun o => imm o = true) J W ?_ (next_is_new F) (fun p hp => Nat.ne_of_lt (Heap.lt_size (N p hp).1)) ⟨⟨_, Heap.get?_push_size _ rfl, rfl, rfl⟩, hl.at fun o e => Heap.get?_push_of_some _ e⟩ ?_ (List.mem_cons_self ..) ?_ (F.push _) (fun p hp => ⟨Heap.get?_push_of_some _ (N p hp).1, (N p hp).2⟩) hj (clos _ (fun p hp => Nat.ne_of_lt (Heap.lt_size (N p hp).1))) (fun i v m₁ nx own h tk hi hP => turn i v m₁ nx own h tk (by simpa using hP)) done
  · intro hm
    rcases List.mem_cons.mp hm with e | hm
    · exact absurd F.ns.lt (e ▸ Nat.lt_irrefl _)
    · exact htL (List.mem_singleton.mp hm).symm
  · rintro i h ⟨⟨o, ho, hc', _⟩, _⟩
    exact ⟨o, ho, by unfold isIt; rw [hc']; rfl⟩
  · rintro i h ⟨⟨o, ho, hc', _⟩, ⟨o2, ho2, hc2, n2, hd2⟩⟩ b hb o' _ hb'
    rcases List.mem_cons.mp hb with e | hb
    · subst e
      rw [ho] at hb'; cases hb'
      exact .inl (by unfold isIt; rw [hc']; rfl)
    · rw [List.mem_singleton.mp hb, ho2] at hb'; cases hb'
      exact .inr (by unfold imm; rw [hd2, hc2]; rfl)
/-- a for over a list that stands in the ledger -/
theorem iter_list {l : Addr} {vs : List Value} {nn : Nat} {m : Str → Option Value} {news : Led} (J : Nat → (Str → Option Value) → Led → Prop)
    (hh : A.handled = none) (hl : (l, listOf vs.toArray nn) ∈ news) (F : Fr h₀ env.locals s.heap m) (N : News h₀ env.locals s.heap news) (hj : J 0 m news) (clos : ∀ I, (∀ p ∈ news, p.1 ≠ I) → ∀ i m n n', KpI I n n' → J i m n → J i m n')
    (turn : ∀ i v m₁ nx own h tk, vs[i]? = some v → J i m₁ nx → (∀ p ∈ own, p ∈ nx ∧ (isIt p.2 = true ∨ ∃ d k sl, p.2 = ⟨.type "list", d, .seq vs.toArray k, sl⟩)) → Fr h₀ env.locals h (fun y => if y = x then some v else m₁ y) → News h₀ env.locals h nx →
      wpAny (model prog w) A (execs body env) (FStep h₀ env.locals own { s with heap := h, toks := tk } (J (i + 1)) Q) E { s with heap := h, toks := tk })
    (done : ∀ m₁ nx h tk, J vs.length m₁ nx → Fr h₀ env.locals h m₁ → News h₀ env.locals h nx → Q .next { s with heap := h, toks := tk }) :
    wpAny (model prog w) A (pyIter (.ref l)) (fun it s₂ => LoopAtV prog w A h₀ env x body Q E it s₂) E s := by
  have hol : s.heap.get? l = some (listOf vs.toArray nn) := (N _ hl).1
  have hls : s.heap.IsList l vs.toArray := ⟨_, hol, rfl, nn, rfl⟩
  have hne : l ≠ s.heap.objs.size := Nat.ne_of_lt (Heap.lt_size hol)
  refine wpAny_pyIter_list hls ?_
  have W := Walks.list (prog := prog) (w := w) hh s.heap.objs.size l hne vs.toArray
  have hlen : vs.toArray.size = vs.length := by simp
  rw [hlen] at W
  refine my_loop (okS := fun o => ∃ d k sl, o = ⟨.type "list", d, .seq vs.toArray k, sl⟩) J W ?_ (next_is_new F) (fun p hp => Nat.ne_of_lt (Heap.lt_size (N p hp).1)) ⟨⟨_, Heap.get?_push_size _ rfl, rfl, rfl⟩, hls.at fun o e => Heap.get?_push_of_some _ e⟩ ?_ (List.mem_cons_self ..) ?_ (F.push _) (fun p hp => ⟨Heap.get?_push_of_some _ (N p hp).1, (N p hp).2⟩) hj (clos _ (fun p hp => Nat.ne_of_lt (Heap.lt_size (N p hp).1))) (fun i v m₁ nx own h tk hi hP => turn i v m₁ nx own h tk (by simpa using hP)) done
  · intro hm
    rcases List.mem_cons.mp hm with e | hm
    · exact absurd F.ns.lt (e ▸ Nat.lt_irrefl _)
    · exact (N _ hl).2.1 (List.mem_singleton.mp hm).symm
  · rintro i h ⟨⟨o, ho, hc', _⟩, _⟩
    exact ⟨o, ho, by unfold isIt; rw [hc']; rfl⟩
  · rintro i h ⟨⟨o, ho, hc', _⟩, ⟨o2, ho2, hc2, n2, hd2⟩⟩ b hb o' _ hb'
    rcases List.mem_cons.mp hb with e | hb
    · subst e
      rw [ho] at hb'; cases hb'
      exact .inl (by unfold isIt; rw [hc']; rfl)
    · rw [List.mem_singleton.mp hb, ho2] at hb'; cases hb'
      obtain ⟨c, d, da, sl⟩ := o2
      dsimp only at hc2 hd2
      subst hc2 hd2
      exact .inr ⟨_, _, _, rfl⟩
/-- a for over a range -/
theorem iter_range {r : Addr} {a₀ b₀ st : Int} {t₀ u₀ v₀ : Tok} {n : Nat} {m : Str → Option Value} {news : Led} (J : Nat → (Str → Option Value) → Led → Prop)
    (hh : A.handled = none) (hr : IsRange s.heap r a₀ b₀ st t₀ u₀ v₀) (hsmall : Builtin.Range.small a₀ b₀ st = true) (hsz : Builtin.Range.rangeSize a₀ b₀ st = (n : Int)) (F : Fr h₀ env.locals s.heap m) (N : News h₀ env.locals s.heap news) (hj : J 0 m news) (clos : ∀ I, (∀ p ∈ news, p.1 ≠ I) → ∀ i m n n', KpI I n n' → J i m n → J i m n')
    (turn : ∀ i t m₁ nx own h tk, i < n → J i m₁ nx → (∀ p ∈ own, p ∈ nx ∧ (isIt p.2 = true ∨ imm p.2 = true)) → Fr h₀ env.locals h (fun y => if y = x then some (.int (a₀ + (i : Int) * st) t) else m₁ y) → News h₀ env.locals h nx →
      wpAny (model prog w) A (execs body env) (FStep h₀ env.locals own { s with heap := h, toks := tk } (J (i + 1)) Q) E { s with heap := h, toks := tk })
    (done : ∀ m₁ nx h tk, J n m₁ nx → Fr h₀ env.locals h m₁ → News h₀ env.locals h nx → Q .next { s with heap := h, toks := tk }) :
    wpAny (model prog w) A (pyIter (.ref r)) (fun it s₂ => LoopAtV prog w A h₀ env x body Q E it s₂) E s := by
  refine wpAny_pyIter_range hr hsmall ?_
  have W := Walks.range (prog := prog) (w := w) hh s.heap.objs.size a₀ st n
  refine my_loop (okS := fun o => imm o = true) J W ?_ (next_is_new F) (fun p hp => Nat.ne_of_lt (Heap.lt_size (N p hp).1)) ?_ ?_ (List.mem_singleton.mpr rfl) ?_ (F.push _) (fun p hp => ⟨Heap.get?_push_of_some _ (N p hp).1, (N p hp).2⟩) hj (clos _ (fun p hp => Nat.ne_of_lt (Heap.lt_size (N p hp).1))) (fun i v m₁ nx own h tk hi hP => ?_) done
  · intro hm
    exact absurd F.ns.lt ((List.mem_singleton.mp hm) ▸ Nat.lt_irrefl _)
  · show IsRangeIter _ _ _ _ _
    rw [hsz]
    simpa using Heap.get?_push_size _ rfl
  · intro i h hi
    exact ⟨_, hi, rfl⟩
  · intro i h hi b hb o' _ hb'
    rw [List.mem_singleton.mp hb] at hb'
    have hi' : h.get? s.heap.objs.size = _ := hi
    rw [hi'] at hb'; cases hb'
    exact .inl rfl
  · obtain ⟨t, rfl⟩ := hP
    exact turn i t m₁ nx own h tk hi
end
end Mine
end
section
open PySem PySem.W PyProof.Rows PySem.Calls PySem.Spec
set_option maxHeartbeats 2000000
namespace Mine
theorem room2 {d x a b R : Nat} (h : d + a < R) (k : Nat.ble (x + b) a = true) : d + x + b < R := by
  have := Nat.le_of_ble_eq_true k
  omega
theorem room1 {d a b R : Nat} (h : d + a < R) (k : Nat.ble b a = true) : d + b < R := by
  have := Nat.le_of_ble_eq_true k
  omega
theorem room0 {d a R : Nat} (h : d + a < R) : d < R := by omega
theorem room3 {d x y a b R : Nat} (h : d + a < R) (k : Nat.ble (x + y + b) a = true) : d + x + y + b < R := by
  have := Nat.le_of_ble_eq_true k
  omega
theorem roomA {d a b x c R : Nat} (h : d + (a + b) < R) (k : Nat.ble (x + c) a = true) : d + x + c < R := by
  have := Nat.le_of_ble_eq_true k
  omega
theorem roomS {d a b k R x : Nat} (h : d + (a + b * (k + 1)) < R) (c : Nat.ble x b = true) : d + x + (a + b * k) < R := by
  have := Nat.le_of_ble_eq_true c
  rw [Nat.mul_succ] at h
  omega
theorem roomM {d b k R x : Nat} (h : d + b * (k + 1) < R) (c : Nat.ble x b = true) : d + x + b * k < R := by
  have := Nat.le_of_ble_eq_true c
  rw [Nat.mul_succ] at h
  omega
theorem roomB {d b k R x c : Nat} (h : d + b * (k + 1) < R) (e : Nat.ble (x + c) b = true) : d + x + c < R := by
  have := Nat.le_of_ble_eq_true e
  rw [Nat.mul_succ] at h
  omega
theorem fold_env {M : Model} {A : Around} {env : Env} {body : List Stmt} {Q : Flow → Shared → Prop} {E : Value → Shared → Prop} {s : Shared} (h : let e₁ := env; let A₁ := A.deeper e₁; wpAny M A₁ (execs body e₁) Q E s) : wpAny M (A.deeper env) (execs body env) Q E s := h
/-- the goal behind one letter, while a hypothesis is opened -/
theorem fold_goal {P : Prop} (h : ∀ G : Prop, (P → G) → G) : P := h P id
/-! what comes back, opened in one go: the goal is told once -/
section
variable {α β γ δ : Type} {v : Value} {G S : Prop}
theorem el_tAS {f : α → Value} {A : Prop} (h : (∃ t, v = f t) ∧ A ∧ S) (k : ∀ t, v = f t → A → S → G) : G := by
  obtain ⟨⟨t, e⟩, a, s⟩ := h; exact k t e a s
theorem el_tS {f : α → Value} (h : (∃ t, v = f t) ∧ S) (k : ∀ t, v = f t → S → G) : G := by
  obtain ⟨⟨t, e⟩, s⟩ := h; exact k t e s
theorem el_abABS {f : α → β → Value} {A B : α → β → Prop} (h : (∃ a b, v = f a b ∧ A a b ∧ B a b) ∧ S) (k : ∀ a b, v = f a b → A a b → B a b → S → G) : G := by
  obtain ⟨⟨a, b, e, x, y⟩, s⟩ := h; exact k a b e x y s
theorem el_DABS {A B : α → Prop} (h : (∃ D, A D ∧ B D) ∧ S) (k : ∀ D, A D → B D → S → G) : G := by
  obtain ⟨⟨D, x, y⟩, s⟩ := h; exact k D x y s
theorem el_DrABS {A B C : α → β → Prop} (h : ∃ D r, A D r ∧ B D r ∧ C D r) (k : ∀ D r, A D r → B D r → C D r → G) : G := by
  obtain ⟨D, r, x, y, s⟩ := h; exact k D r x y s
theorem el_DAB {A B : α → Prop} (h : ∃ D, A D ∧ B D) (k : ∀ D, A D → B D → G) : G := by
  obtain ⟨D, x, y⟩ := h; exact k D x y
theorem el_Xtq {f : α → β → Value} {A : α → β → Prop} (h : ∃ a b, v = f a b ∧ A a b) (k : ∀ a b, v = f a b → A a b → G) : G := by
  obtain ⟨a, b, e, x⟩ := h; exact k a b e x
theorem el12 {f : α → Value} {A B : α → Prop} (h : ∃ a, v = f a ∧ A a ∧ B a) (k : ∀ a, v = f a → A a → B a → G) : G := by
  obtain ⟨a, e, x, y⟩ := h; exact k a e x y
theorem el22 {f : α → β → Value} {A B : α → β → Prop} (h : ∃ a b, v = f a b ∧ A a b ∧ B a b) (k : ∀ a b, v = f a b → A a b → B a b → G) : G := by
  obtain ⟨a, b, e, x, y⟩ := h; exact k a b e x y
theorem el32 {f : α → β → γ → Value} {A B : α → β → γ → Prop} (h : ∃ a b c, v = f a b c ∧ A a b c ∧ B a b c) (k : ∀ a b c, v = f a b c → A a b c → B a b c → G) : G := by
  obtain ⟨a, b, c, e, x, y⟩ := h; exact k a b c e x y
theorem el33 {f : α → β → γ → Value} {A B C : α → β → γ → Prop} (h : ∃ a b c, v = f a b c ∧ A a b c ∧ B a b c ∧ C a b c) (k : ∀ a b c, v = f a b c → A a b c → B a b c → C a b c → G) : G := by
  obtain ⟨a, b, c, e, x, y, z⟩ := h; exact k a b c e x y z
theorem el34 {f : α → β → γ → Value} {A B C D : α → β → γ → Prop} (h : ∃ a b c, v = f a b c ∧ A a b c ∧ B a b c ∧ C a b c ∧ D a b c) (k : ∀ a b c, v = f a b c → A a b c → B a b c → C a b c → D a b c → G) : G := by
  obtain ⟨a, b, c, e, x, y, z, w⟩ := h; exact k a b c e x y z w
theorem el44 {f : α → β → γ → δ → Value} {A B C D : α → β → γ → δ → Prop} (h : ∃ a b c d, v = f a b c d ∧ A a b c d ∧ B a b c d ∧ C a b c d ∧ D a b c d) (k : ∀ a b c d, v = f a b c d → A a b c d → B a b c d → C a b c d → D a b c d → G) : G := by
  obtain ⟨a, b, c, d, e, x, y, z, w⟩ := h; exact k a b c d e x y z w
/-- a scanner or a group opened: And, then five letters, then two -/
theorem el_sc {α₁ α₂ α₃ α₄ α₅ : Type} {A : Prop} {B C : α₁ → α₂ → α₃ → α₄ → α₅ → Prop} (h : A ∧ ∃ a b c d e, B a b c d e ∧ C a b c d e) (k : ∀ a b c d e, A → B a b c d e → C a b c d e → G) : G := by
  obtain ⟨z, a, b, c, d, e, x, y⟩ := h; exact k a b c d e z x y
theorem el_src {α₁ α₂ α₃ α₄ α₅ : Type} {B : α₁ → α₂ → α₃ → α₄ → α₅ → Prop} (h : ∃ a b c d e, B a b c d e) (k : ∀ a b c d e, B a b c d e → G) : G := by
  obtain ⟨a, b, c, d, e, x⟩ := h; exact k a b c d e x
theorem el_gr {α₁ α₂ α₃ α₄ α₅ α₆ : Type} {A : Prop} {B : α₁ → α₂ → α₃ → α₄ → α₅ → α₆ → Prop} (h : A ∧ ∃ a b c d e f, B a b c d e f) (k : ∀ a b c d e f, A → B a b c d e f → G) : G := by
  obtain ⟨z, a, b, c, d, e, f, x⟩ := h; exact k a b c d e f z x
end
end Mine
end
section
open PySem PySem.W PyProof.Rows PySem.Calls PySem.Spec
set_option maxHeartbeats 2000000
namespace Mine
/-- a tree's end told by a word of one's own -/
theorem split_at {α : Type} {M : Model} {A : Around} {t : Sem α} {Q : α → Shared → Prop} {E : Value → Shared → Prop} {s : Shared} {g h : Heap} {L : Addr} {m : Str → Option Value} (_ : Fr g L h m) (P : (Str → Option Value) → α → Shared → Prop)
    (h1 : wpAny M A t (P m) E s) (h2 : ∀ a s', P m a s' → Q a s') : wpAny M A t Q E s := wpAny_mono h1 h2 fun _ _ e => e
/-- behind an if that may store an int to one name -/
inductive CellP (g : Heap) (L : Addr) (x : Str) (n0 : Led) (s : Shared) (m : Str → Option Value) : Flow → Shared → Prop
  | mk {h : Heap} {tk tc : Nat} {c : Int} : Fr g L h (fun y => if y = x then some (.int c tc) else m y) → News g L h n0 → CellP g L x n0 s m .next { s with heap := h, toks := tk }
theorem cell_same {g h : Heap} {L : Addr} {x : Str} {v : Value} {m : Str → Option Value} (F : Fr g L h (fun y => if y = x then some v else m y)) : Fr g L h (fun y => if y = x then some v else if y = x then some v else m y) := by
  have e : (fun y => if y = x then some v else if y = x then some v else m y) = fun y => if y = x then some v else m y := by
    funext y
    by_cases e : y = x
    · rw [if_pos e, if_pos e]
    · rw [if_neg e, if_neg e]
  rw [e]; exact F
/-- a statement that goes on, with the frame's names as they were -/
inductive FlowP (g : Heap) (L : Addr) (n0 : Led) (s : Shared) (m : Str → Option Value) : Flow → Shared → Prop
  | mk {h : Heap} {tk : Nat} {n : Led} : Fr g L h m → News g L h n → (∀ p ∈ n0, p ∈ n) → FlowP g L n0 s m .next { s with heap := h, toks := tk }
/-- an expression that gives a list of strs -/
inductive ToldP (g : Heap) (L : Addr) (n0 : Led) (ns : List Str) (s : Shared) (m : Str → Option Value) : Value → Shared → Prop
  | mk {h : Heap} {tk : Nat} {n : Led} {tl : Addr} {vs : List Value} {k : Nat} : Fr g L h m → News g L h n → (tl, listOf vs.toArray k) ∈ n → StrsAre vs ns → (∀ p ∈ n0, p ∈ n) → ToldP g L n0 ns s m (.ref tl) { s with heap := h, toks := tk }
end Mine
end
section
open PySem PySem.W PyProof.Rows PySem.Calls PySem.Spec
set_option maxHeartbeats 2000000
namespace Mine
/-- where the steps of the walk stop -/
inductive Stop1 : Prop → Prop
  | a {M A Q E s f l} : Stop1 (wpAny M A (PySem.call (.ref f) l) Q E s)
  | b {M A Q E s x y z e} : Stop1 (wpAny M A (exec (Stmt.Raise x y z) e) Q E s)
  | c {M A Q E s x y z t e} : Stop1 (wpAny M A (exec (Stmt.While x y z t) e) Q E s)
  | d {M A Q E s v} : Stop1 (wpAny M A (PySem.pyIter v) Q E s)
  | e {M A Q E s x y z t e} : Stop1 (wpAny M A (PySem.eval (PySem.Expr.ListComp x y z t) e) Q E s)
  | f {M A Q E s e x y z t v w} : Stop1 (wpAny M A (subscriptTail e (PySem.Expr.Slice x y z t) (Value.ref v) (Value.ref w)) Q E s)
  | g {M A Q E s v w} : Stop1 (wpAny M A (PySem.compareOp .NotEq (Value.ref v) (Value.ref w)) Q E s)
  | h {M A Q E s v w} : Stop1 (wpAny M A (PySem.compareOp .Eq (Value.ref v) (Value.ref w)) Q E s)
  | i {M A Q E s x y z t u e} : Stop1 (wpAny M A (exec (Stmt.For x y z t u) e) Q E s)
  | j {a b c d e f g h i j k l m n} : Stop1 (LCg.CompSrc a b c d e f g h i j k l m n)
  | k {a b c d e f g h i j k l m n o} : Stop1 (LCt.CompSrcT a b c d e f g h i j k l m n o)
inductive Stop2 : Prop → Prop
  | a {M A Q E s x y z} : Stop2 (wpAny M A (PySem.binaryOp .Add (Value.str (Str.ofString "(") x) (Value.str y z)) Q E s)
  | b {M A Q E s x y z} : Stop2 (wpAny M A (PySem.compareOp .NotIn (Value.str x y) (Value.ref z)) Q E s)
inductive Stop3 : Prop → Prop
  | a {M A Q E s x y z t e} : Stop3 (wpAny M A (PySem.eval (PySem.Expr.IfExp x y z t) e) Q E s)
  | b {M A Q E s x y z t e} : Stop3 (wpAny M A (exec (Stmt.If x y z t) e) Q E s)
inductive Stop4 : Prop → Prop
  | a {M A Q E s e x v i t} : Stop4 (wpAny M A (subscriptTail e x (Value.ref v) (Value.int i t)) Q E s)
theorem stop_of (S : Prop → Prop) {P : Prop} (_ : S P) (p : P) : P := p
end Mine
end
section
open PySem PySem.W PyProof.Rows PySem.Calls PySem.Spec
set_option maxHeartbeats 2000000
namespace Mine
local macro_rules | `(tactic| k_room) => `(tactic| first | exact room1 (by assumption) rfl | exact room2 (by assumption) rfl | exact room3 (by assumption) rfl)
local macro_rules | `(tactic| k_units) => `(tactic| k_room)
local macro_rules | `(tactic| k_mem) => `(tactic| first | assumption | (refine List.Mem.tail _ ?_; k_mem))
local macro_rules | `(tactic| k_lt $h) => `(tactic| (replace $h:ident := allLt_of $h; dsimp only [AllLt] at $h:ident))
local macro_rules | `(tactic| k_all) => `(tactic| exact off_ne)
local macro_rules | `(tactic| walk_at "mine item") => `(tactic| ((with_reducible show wpAny _ _ (subscriptTail _ _ (Value.ref _) (Value.int _ _)) _ _ _); k_dflt (refine item_tupleT (News.isTup (by k_asm) (by k_mem)) (by decide) (by decide) (by rfl) (by rfl) ?_)))
local macro_rules | `(tactic| walk_at "call builtin:len") => `(tactic| (with_reducible refine P.len_str ?k ?_; (case k => omega)))
noncomputable abbrev one (c : Nat) : Str := ⟨#[c]⟩
noncomputable def isSp (c : Nat) : Bool := c == 32 || c == 9 || c == 10 || c == 13
noncomputable def isLo (c : Nat) : Bool := decide (97 ≤ c) && decide (c ≤ 122)
noncomputable def isNS (c : Nat) : Bool := isLo c || (decide (65 ≤ c) && decide (c ≤ 90)) || c == 95 || c == 58
noncomputable def isNC (c : Nat) : Bool := isNS c || (decide (48 ≤ c) && decide (c ≤ 57)) || c == 45 || c == 46
theorem lt_one (a b : Nat) : [a] < [b] ↔ a < b := by
  have := StrLaws.lt_cons_cons a b [] []
  rw [StrLaws.lt_nil_nil, Bool.and_false, Bool.or_false] at this
  rw [← decide_eq_true_iff (p := [a] < [b]), this, decide_eq_true_iff]
theorem lt_oneB (a b : Nat) : decide ([a] < [b]) = decide (a < b) := by
  rw [Bool.eq_iff_iff, decide_eq_true_iff, decide_eq_true_iff]; exact lt_one a b
theorem sp_cps : (Str.ofString " \t\n\x0d").cps.toList = [32, 9, 10, 13] := by decide +kernel
theorem sp_occ (c : Nat) : (!(Builtin.Str.occurrences (Str.ofString " \t\n\x0d") (one c) 0 (Str.ofString " \t\n\x0d").length 1).isEmpty) = isSp c := by
  rw [StrLaws.found_one, sp_cps]
  unfold isSp
  rw [Bool.eq_iff_iff]
  simp [or_assoc]
theorem one_ne (c : Nat) : (one c != Str.ofString "") = true := by
  have : Str.ofString "" = ⟨#[]⟩ := by decide +kernel
  rw [this]
  simp [one]
theorem of_one (x : String) (c : Nat) (h : Str.ofString x = one c) : (Str.ofString x).cps.toList = [c] := by rw [h]
theorem ofA : Str.ofString "A" = one 65 := by decide +kernel
theorem ofZ : Str.ofString "Z" = one 90 := by decide +kernel
theorem ofa : Str.ofString "a" = one 97 := by decide +kernel
theorem ofz : Str.ofString "z" = one 122 := by decide +kernel
theorem of0 : Str.ofString "0" = one 48 := by decide +kernel
theorem of9 : Str.ofString "9" = one 57 := by decide +kernel
theorem ofU : Str.ofString "_" = one 95 := by decide +kernel
theorem ofC : Str.ofString ":" = one 58 := by decide +kernel
theorem ofM : Str.ofString "-" = one 45 := by decide +kernel
theorem ofD : Str.ofString "." = one 46 := by decide +kernel
theorem one_beq (a b : Nat) : (one a == one b) = (a == b) := by
  rw [Bool.eq_iff_iff]; simp [one]
theorem lo_of (c : Nat) : isLo c = (!decide ((one c).cps.toList < (Str.ofString "a").cps.toList) && !decide ((Str.ofString "z").cps.toList < (one c).cps.toList)) := by
  rw [ofa, ofz]
  show _ = (!decide ([c] < [97]) && !decide ([122] < [c]))
  rw [lt_oneB, lt_oneB, Bool.eq_iff_iff]
  simp [isLo]
theorem ns_of (c : Nat) : isNS c = (isLo c || (!decide ((one c).cps.toList < (Str.ofString "A").cps.toList) && !decide ((Str.ofString "Z").cps.toList < (one c).cps.toList)) || (one c == Str.ofString "_") || (one c == Str.ofString ":")) := by
  rw [ofA, ofZ, ofU, ofC, one_beq, one_beq]
  show _ = (isLo c || (!decide ([c] < [65]) && !decide ([90] < [c])) || c == 95 || c == 58)
  rw [lt_oneB, lt_oneB, Bool.eq_iff_iff]
  simp [isNS]
theorem nc_of (c : Nat) : isNC c = (isNS c || (!decide ((one c).cps.toList < (Str.ofString "0").cps.toList) && !decide ((Str.ofString "9").cps.toList < (one c).cps.toList)) || (one c == Str.ofString "-") || (one c == Str.ofString ".")) := by
  rw [of0, of9, ofM, ofD, one_beq, one_beq]
  show _ = (isNS c || (!decide ([c] < [48]) && !decide ([57] < [c])) || c == 45 || c == 46)
  rw [lt_oneB, lt_oneB, Bool.eq_iff_iff]
  simp [isNC]
theorem is_space {w : World} {c : Nat} {t : Tok} {news : Led} : Con w 52 [.str (one c) t] 10 50 news [] (fun r _ => r = .bool (isSp c)) False := by
  intro mean mg mb dp un gd cn cs a ccd cl outer A₀ base h₀ L m s Q E B F X N Tp hk hd1 hu1 hret herr; refine wpAny_call ?_; k_dflt (refine' code_def (binds := [("sign", .str (one c) t)]) ?k1 ?k2 ?k3 ?k4 ?k5 ?kA ?kF ?kK ?k6 ?k7 ?k8 ?k9 ?kB ?_ ?c2 ?c3 ?c4 ?c5; (case kA => exact rfl); (case kF => exact rfl); (case kK => assumption); (case k1 => k_asm); (case k2 => k_asm); (case k3 => k_asm); (case k4 => k_asm); (case k5 => k_asm); (case k6 => k_is); (case k7 => k_is); (case k8 => first | exact room0 (by assumption) | exact room1 (by assumption) rfl | exact room2 (by assumption) rfl | exact room3 (by assumption) rfl | exact roomA (by assumption) rfl | exact roomS (by assumption) rfl | exact roomM (by assumption) rfl | exact roomB (by assumption) rfl); (case k9 => exact BindsTo.of_eq rfl); (case c5 => decide); (case kB => exact locs rfl); (case c2 => exact rfl); (case c3 => exact rfl); (case c4 => exact rfl); k_whole); intro g' L' hp FG' F' N' B' X' T'; (try dsimp only [List.reverse_cons, List.reverse_nil, List.nil_append, List.cons_append, List.length_cons, List.length_nil, Nat.zero_add] at F' ⊢); k_fold; refine fold_env ?_; intro e₁ A₁
  repeat' (first | ((with_reducible show wpAny _ _ (exec _ _) _ _ _); k_fold) | ((fail_if_success (with_reducible refine stop_of Stop1 (by constructor) ?_)); first | (k_unfold; (try dsimp only)) | (k_end; wrow_close) | walk1 | (dsimp only; walk1) | (leave1; try dsimp only)))
  · exact hret _ _ _ _ (by assumption) (by assumption) Kp.refl (by rw [sp_occ])
  · have a9 : (Builtin.Str.occurrences (Str.ofString " \t\n\x0d") (one c) 0 (Str.ofString " \t\n\x0d").length 1).isEmpty = false := by assumption
    exact hret _ _ _ _ (by assumption) (by assumption) Kp.refl (by rw [one_ne, ← sp_occ, a9]; rfl)
theorem is_small {w : World} {c : Nat} {t : Tok} {news : Led} : Con w 59 [.str (one c) t] 10 50 news [] (fun r _ => r = .bool (isLo c)) False := by
  intro mean mg mb dp un gd cn cs a ccd cl outer A₀ base h₀ L m s Q E B F X N Tp hk hd1 hu1 hret herr; refine wpAny_call ?_; k_dflt (refine' code_def (binds := [("sign", .str (one c) t)]) ?k1 ?k2 ?k3 ?k4 ?k5 ?kA ?kF ?kK ?k6 ?k7 ?k8 ?k9 ?kB ?_ ?c2 ?c3 ?c4 ?c5; (case kA => exact rfl); (case kF => exact rfl); (case kK => assumption); (case k1 => k_asm); (case k2 => k_asm); (case k3 => k_asm); (case k4 => k_asm); (case k5 => k_asm); (case k6 => k_is); (case k7 => k_is); (case k8 => first | exact room0 (by assumption) | exact room1 (by assumption) rfl | exact room2 (by assumption) rfl | exact room3 (by assumption) rfl | exact roomA (by assumption) rfl | exact roomS (by assumption) rfl | exact roomM (by assumption) rfl | exact roomB (by assumption) rfl); (case k9 => exact BindsTo.of_eq rfl); (case c5 => decide); (case kB => exact locs rfl); (case c2 => exact rfl); (case c3 => exact rfl); (case c4 => exact rfl); k_whole); intro g' L' hp FG' F' N' B' X' T'; (try dsimp only [List.reverse_cons, List.reverse_nil, List.nil_append, List.cons_append, List.length_cons, List.length_nil, Nat.zero_add] at F' ⊢); k_fold; refine fold_env ?_; intro e₁ A₁
  repeat' (first | ((with_reducible show wpAny _ _ (exec _ _) _ _ _); k_fold) | ((fail_if_success (with_reducible refine stop_of Stop1 (by constructor) ?_)); first | (k_unfold; (try dsimp only)) | (k_end; wrow_close) | walk1 | (dsimp only; walk1) | (leave1; try dsimp only)))
  all_goals exact hret _ _ _ _ (by assumption) (by assumption) Kp.refl (by rw [lo_of]; clear hret herr; simp_all)
theorem is_start {w : World} {c : Nat} {t : Tok} {news : Led} (hc : c < 128) : Con w 66 [.str (one c) t] 20 100 news [] (fun r _ => r = .bool (isNS c)) False := by
  intro mean mg mb dp un gd cn cs a ccd cl outer A₀ base h₀ L m s Q E B F X N Tp hk hd1 hu1 hret herr; refine wpAny_call ?_; k_dflt (refine' code_def (binds := [("sign", .str (one c) t)]) ?k1 ?k2 ?k3 ?k4 ?k5 ?kA ?kF ?kK ?k6 ?k7 ?k8 ?k9 ?kB ?_ ?c2 ?c3 ?c4 ?c5; (case kA => exact rfl); (case kF => exact rfl); (case kK => assumption); (case k1 => k_asm); (case k2 => k_asm); (case k3 => k_asm); (case k4 => k_asm); (case k5 => k_asm); (case k6 => k_is); (case k7 => k_is); (case k8 => first | exact room0 (by assumption) | exact room1 (by assumption) rfl | exact room2 (by assumption) rfl | exact room3 (by assumption) rfl | exact roomA (by assumption) rfl | exact roomS (by assumption) rfl | exact roomM (by assumption) rfl | exact roomB (by assumption) rfl); (case k9 => exact BindsTo.of_eq rfl); (case c5 => decide); (case kB => exact locs rfl); (case c2 => exact rfl); (case c3 => exact rfl); (case c4 => exact rfl); k_whole); intro g' L' hp FG' F' N' B' X' T'; (try dsimp only [List.reverse_cons, List.reverse_nil, List.nil_append, List.cons_append, List.length_cons, List.length_nil, Nat.zero_add] at F' ⊢); k_fold; refine fold_env ?_; intro e₁ A₁
  repeat' (first | ((with_reducible show wpAny _ _ (exec _ _) _ _ _); k_fold) | ((fail_if_success (with_reducible refine stop_of Stop1 (by constructor) ?_)); first | (k_unfold; (try dsimp only)) | (k_end; wrow_close) | walk1 | (dsimp only; walk1) | (leave1; try dsimp only)))
  (k_dflt (refine' con_use ?kNz1 (is_small) ?kBz1 ?kFz1 ?kXz1 ?kTz1 ?kKz1 ?kDz1 ?kUz1 ?kOkz1 ?kErrz1; (case kNz1 => k_asm); (case kBz1 => k_asm); (case kFz1 => k_asm); (case kXz1 => k_asm); (case kTz1 => k_asm); (case kKz1 => first | exact rfl | assumption); (case kDz1 => first | exact room0 (by assumption) | exact room1 (by assumption) rfl | exact room2 (by assumption) rfl | exact room3 (by assumption) rfl | exact roomA (by assumption) rfl | exact roomS (by assumption) rfl | exact roomM (by assumption) rfl | exact roomB (by assumption) rfl); (case kUz1 => first | exact room0 (by assumption) | exact room1 (by assumption) rfl | exact room2 (by assumption) rfl | exact room3 (by assumption) rfl | exact roomA (by assumption) rfl | exact roomS (by assumption) rfl | exact roomM (by assumption) rfl | exact roomB (by assumption) rfl)))
  case kErrz1 => intro hf; exact hf.elim
  intro r1 news1 hh1 tk1 F1 N1 K1 P1
  subst P1
  repeat' (first | ((with_reducible show wpAny _ _ (exec _ _) _ _ _); k_fold) | ((fail_if_success (with_reducible refine stop_of Stop1 (by constructor) ?_)); first | (k_unfold; (try dsimp only)) | (k_end; wrow_close) | walk1 | (dsimp only; walk1) | (leave1; try dsimp only)))
  all_goals exact hret _ _ _ _ (by assumption) (by assumption) K1 (by rw [ns_of]; clear hret herr; simp_all [-List.not_lt])
theorem is_char {w : World} {c : Nat} {t : Tok} {news : Led} (hc : c < 128) : Con w 73 [.str (one c) t] 40 200 news [] (fun r _ => r = .bool (isNC c)) False := by
  intro mean mg mb dp un gd cn cs a ccd cl outer A₀ base h₀ L m s Q E B F X N Tp hk hd1 hu1 hret herr; refine wpAny_call ?_; k_dflt (refine' code_def (binds := [("sign", .str (one c) t)]) ?k1 ?k2 ?k3 ?k4 ?k5 ?kA ?kF ?kK ?k6 ?k7 ?k8 ?k9 ?kB ?_ ?c2 ?c3 ?c4 ?c5; (case kA => exact rfl); (case kF => exact rfl); (case kK => assumption); (case k1 => k_asm); (case k2 => k_asm); (case k3 => k_asm); (case k4 => k_asm); (case k5 => k_asm); (case k6 => k_is); (case k7 => k_is); (case k8 => first | exact room0 (by assumption) | exact room1 (by assumption) rfl | exact room2 (by assumption) rfl | exact room3 (by assumption) rfl | exact roomA (by assumption) rfl | exact roomS (by assumption) rfl | exact roomM (by assumption) rfl | exact roomB (by assumption) rfl); (case k9 => exact BindsTo.of_eq rfl); (case c5 => decide); (case kB => exact locs rfl); (case c2 => exact rfl); (case c3 => exact rfl); (case c4 => exact rfl); k_whole); intro g' L' hp FG' F' N' B' X' T'; (try dsimp only [List.reverse_cons, List.reverse_nil, List.nil_append, List.cons_append, List.length_cons, List.length_nil, Nat.zero_add] at F' ⊢); k_fold; refine fold_env ?_; intro e₁ A₁
  repeat' (first | ((with_reducible show wpAny _ _ (exec _ _) _ _ _); k_fold) | ((fail_if_success (with_reducible refine stop_of Stop1 (by constructor) ?_)); first | (k_unfold; (try dsimp only)) | (k_end; wrow_close) | walk1 | (dsimp only; walk1) | (leave1; try dsimp only)))
  (k_dflt (refine' con_use ?kNz2 (is_start hc) ?kBz2 ?kFz2 ?kXz2 ?kTz2 ?kKz2 ?kDz2 ?kUz2 ?kOkz2 ?kErrz2; (case kNz2 => k_asm); (case kBz2 => k_asm); (case kFz2 => k_asm); (case kXz2 => k_asm); (case kTz2 => k_asm); (case kKz2 => first | exact rfl | assumption); (case kDz2 => first | exact room0 (by assumption) | exact room1 (by assumption) rfl | exact room2 (by assumption) rfl | exact room3 (by assumption) rfl | exact roomA (by assumption) rfl | exact roomS (by assumption) rfl | exact roomM (by assumption) rfl | exact roomB (by assumption) rfl); (case kUz2 => first | exact room0 (by assumption) | exact room1 (by assumption) rfl | exact room2 (by assumption) rfl | exact room3 (by assumption) rfl | exact roomA (by assumption) rfl | exact roomS (by assumption) rfl | exact roomM (by assumption) rfl | exact roomB (by assumption) rfl)))
  case kErrz2 => intro hf; exact hf.elim
  intro r1 news1 hh1 tk1 F1 N1 K1 P1
  subst P1
  repeat' (first | ((with_reducible show wpAny _ _ (exec _ _) _ _ _); k_fold) | ((fail_if_success (with_reducible refine stop_of Stop1 (by constructor) ?_)); first | (k_unfold; (try dsimp only)) | (k_end; wrow_close) | walk1 | (dsimp only; walk1) | (leave1; try dsimp only)))
  all_goals exact hret _ _ _ _ (by assumption) (by assumption) K1 (by rw [nc_of]; clear hret herr; simp_all [-List.not_lt])
/-- where a scanner stands: what is left of its text -/
noncomputable def At (T : Str) (i : Int) (r : List Nat) : Prop := ∃ k : Nat, i = k ∧ k ≤ T.length ∧ r = T.cps.toList.drop k
theorem At.len {T : Str} {i : Int} {r : List Nat} (h : At T i r) : r.length ≤ T.length := by
  obtain ⟨k, _, _, rfl⟩ := h
  rw [List.length_drop]; exact Nat.le_trans (Nat.sub_le _ _) (Nat.le_refl _)
theorem At.at {T : Str} {i : Int} {r : List Nat} (h : At T i r) : i = (T.length : Int) - r.length := by
  obtain ⟨k, rfl, hk, rfl⟩ := h
  rw [List.length_drop]
  have : T.cps.toList.length = T.length := rfl
  (first | lia | omega)
theorem At.over {T : Str} {i : Int} {r : List Nat} (h : At T i r) : i ≥ T.length ↔ r = [] := by
  have h1 := h.at
  have h2 := h.len
  constructor
  · intro q; exact List.length_eq_zero_iff.mp (by (first | lia | omega))
  · rintro rfl; simp at h1; (first | lia | omega)
theorem At.drop {T : Str} {i : Int} {r : List Nat} (h : At T i r) {n : Nat} (hn : n ≤ r.length) : At T (i + n) (r.drop n) := by
  obtain ⟨k, rfl, hk, rfl⟩ := h
  rw [List.length_drop] at hn
  have : T.cps.toList.length = T.length := rfl
  exact ⟨k + n, by (first | lia | omega), by (first | lia | omega), by rw [List.drop_drop]⟩
theorem At.item {T : Str} {i : Int} {c : Nat} {r : List Nat} (h : At T i (c :: r)) : 0 ≤ i ∧ i < T.length ∧ Txt.item T i = one c := by
  have h1 := h.at
  have h2 := h.len
  obtain ⟨k, rfl, hk, hr⟩ := h
  simp only [List.length_cons] at h1 h2
  refine ⟨by (first | lia | omega), by (first | lia | omega), ?_⟩
  have hc : T.cps.toList[k]? = some c := by
    have := congrArg (·[0]?) hr
    simpa using this.symm
  have e : (seqIndex? (k : Int) T.length).bind (T.cps[·]?) = some c := StrLaws.at_nonneg (Int.natCast_nonneg k) (by rw [← Array.getElem?_toList]; simpa using hc)
  unfold Txt.item Txt.charAt
  rw [e]; rfl
theorem At.starts {T W : Str} {i : Int} {r wl : List Nat} (h : At T i r) (hw : W.cps.toList = wl) : Txt.startswith3 T W i = wl.isPrefixOf r := by
  have h1 := h.at
  have h2 := h.len
  obtain ⟨k, rfl, hk, hr⟩ := h
  subst hw
  have hf : fromIndex T.length (k : Int) = k := by
    unfold fromIndex
    (first | lia | omega)
  unfold Txt.startswith3
  rw [hf, StrLaws.subAt_eq, ← hr]
  have hl : W.cps.toList.length = W.length := rfl
  rw [Bool.eq_iff_iff, Bool.and_eq_true, decide_eq_true_eq, beq_iff_eq, List.isPrefixOf_iff_prefix, List.prefix_iff_eq_take, hl]
  constructor
  · rintro ⟨_, e⟩; exact e.symm
  · intro e
    refine ⟨?_, e.symm⟩
    have := congrArg List.length e
    rw [List.length_take, hl] at this
    (first | lia | omega)
/-- a scanner at x (its dict at d) that has the text r ahead of it -/
noncomputable def Sc (w : World) (T : Str) (x d : Addr) (r : List Nat) (n : Led) : Prop := (x, instObj 221 d) ∈ n ∧ ∃ t1 t2 t3 t4 i, (d, scD w t1 t2 t3 t4 T i) ∈ n ∧ At T i r
theorem Sc.sub {w : World} {T : Str} {x d : Addr} {r : List Nat} {n n' : Led} (h : Sc w T x d r n) (k : ∀ p ∈ n, p ∈ n') : Sc w T x d r n' := by
  refine fold_goal ?_; intro G9 k9; obtain ⟨h2, t1, t2, t3, t4, i, h1, h3⟩ := h; refine k9 ?_; clear k9 G9
  exact ⟨k _ h2, t1, t2, t3, t4, i, k _ h1, h3⟩
theorem Sc.kp {w : World} {T : Str} {x d : Addr} {r : List Nat} {M : List Addr} {n n' : Led} (h : Sc w T x d r n) (k : Kp M n n') (hd : d ∉ M) : Sc w T x d r n' := by
  refine fold_goal ?_; intro G9 k9; obtain ⟨h2, t1, t2, t3, t4, i, h1, h3⟩ := h; refine k9 ?_; clear k9 G9
  exact ⟨k _ h2 fun _ => rfl, t1, t2, t3, t4, i, k _ h1 fun q => absurd q hd, h3⟩
theorem adr_ne {h₀ h : Heap} {L a b : Addr} {news : Led} {o o' : Obj} (N : News h₀ L h news) (x : (a, o) ∈ news) (y : (b, o') ∈ news) (e : imm o = true) (e' : imm o' = false) : a ≠ b := fun q => by
  subst q
  have := news_same N x y
  subst this
  rw [e] at e'; cases e'
noncomputable def tkr (wl r : List Nat) : List Nat := if wl.isPrefixOf r = true then r.drop wl.length else r
theorem looks {w : World} {T W : Str} {wl r : List Nat} {tw : Tok} {x d : Addr} {news : Led} (hw : W.cps.toList = wl) (S : Sc w T x d r news) :
    Con w 148 [.ref x, .str W tw] 10 50 news [] (fun v _ => v = .bool (wl.isPrefixOf r)) False := by
  refine el_sc S ?_
  intro t1 t2 t3 t4 i h2 h1 h3
  intro mean mg mb dp un gd cn cs a ccd cl outer A₀ base h₀ L m s Q E B F X N Tp hk hd1 hu1 hret herr; refine wpAny_call ?_; k_dflt (refine' code_def (binds := [("self", .ref x), ("word", .str W tw)]) ?k1 ?k2 ?k3 ?k4 ?k5 ?kA ?kF ?kK ?k6 ?k7 ?k8 ?k9 ?kB ?_ ?c2 ?c3 ?c4 ?c5; (case kA => exact rfl); (case kF => exact rfl); (case kK => assumption); (case k1 => k_asm); (case k2 => k_asm); (case k3 => k_asm); (case k4 => k_asm); (case k5 => k_asm); (case k6 => k_is); (case k7 => k_is); (case k8 => first | exact room0 (by assumption) | exact room1 (by assumption) rfl | exact room2 (by assumption) rfl | exact room3 (by assumption) rfl | exact roomA (by assumption) rfl | exact roomS (by assumption) rfl | exact roomM (by assumption) rfl | exact roomB (by assumption) rfl); (case k9 => exact BindsTo.of_eq rfl); (case c5 => decide); (case kB => exact locs rfl); (case c2 => exact rfl); (case c3 => exact rfl); (case c4 => exact rfl); k_whole); intro g' L' hp FG' F' N' B' X' T'; (try dsimp only [List.reverse_cons, List.reverse_nil, List.nil_append, List.cons_append, List.length_cons, List.length_nil, Nat.zero_add] at F' ⊢); k_fold; refine fold_env ?_; intro e₁ A₁
  repeat' (first | ((with_reducible show wpAny _ _ (exec _ _) _ _ _); k_fold) | ((fail_if_success (with_reducible refine stop_of Stop1 (by constructor) ?_)); first | (k_unfold; (try dsimp only)) | (k_end; wrow_close) | walk1 | (dsimp only; walk1) | (leave1; try dsimp only)))
  exact hret _ _ _ _ (by assumption) (by assumption) Kp.refl (by rw [h3.starts hw])
theorem takes {w : World} {T W : Str} {wl r : List Nat} {tw : Tok} {x d : Addr} {news : Led} (hw : W.cps.toList = wl) (hl : wl.length ≤ 1000) (S : Sc w T x d r news) :
    Con w 155 [.ref x, .str W tw] 20 100 news [d] (fun v n' => v = .bool (wl.isPrefixOf r) ∧ Sc w T x d (tkr wl r) n') False := by
  have S' := S
  refine el_sc S ?_
  intro t1 t2 t3 t4 i h2 h1 h3
  have hW : W.length = wl.length := by rw [← hw]; rfl
  intro mean mg mb dp un gd cn cs a ccd cl outer A₀ base h₀ L m s Q E B F X N Tp hk hd1 hu1 hret herr; refine wpAny_call ?_; k_dflt (refine' code_def (binds := [("self", .ref x), ("word", .str W tw)]) ?k1 ?k2 ?k3 ?k4 ?k5 ?kA ?kF ?kK ?k6 ?k7 ?k8 ?k9 ?kB ?_ ?c2 ?c3 ?c4 ?c5; (case kA => exact rfl); (case kF => exact rfl); (case kK => assumption); (case k1 => k_asm); (case k2 => k_asm); (case k3 => k_asm); (case k4 => k_asm); (case k5 => k_asm); (case k6 => k_is); (case k7 => k_is); (case k8 => first | exact room0 (by assumption) | exact room1 (by assumption) rfl | exact room2 (by assumption) rfl | exact room3 (by assumption) rfl | exact roomA (by assumption) rfl | exact roomS (by assumption) rfl | exact roomM (by assumption) rfl | exact roomB (by assumption) rfl); (case k9 => exact BindsTo.of_eq rfl); (case c5 => decide); (case kB => exact locs rfl); (case c2 => exact rfl); (case c3 => exact rfl); (case c4 => exact rfl); k_whole); intro g' L' hp FG' F' N' B' X' T'; (try dsimp only [List.reverse_cons, List.reverse_nil, List.nil_append, List.cons_append, List.length_cons, List.length_nil, Nat.zero_add] at F' ⊢); k_fold; refine fold_env ?_; intro e₁ A₁
  repeat' (first | ((with_reducible show wpAny _ _ (exec _ _) _ _ _); k_fold) | ((fail_if_success (with_reducible refine stop_of Stop1 (by constructor) ?_)); first | (k_unfold; (try dsimp only)) | (k_end; wrow_close) | walk1 | (dsimp only; walk1) | (leave1; try dsimp only)))
  (k_dflt (refine' con_use ?kNz3 (looks hw S') ?kBz3 ?kFz3 ?kXz3 ?kTz3 ?kKz3 ?kDz3 ?kUz3 ?kOkz3 ?kErrz3; (case kNz3 => k_asm); (case kBz3 => k_asm); (case kFz3 => k_asm); (case kXz3 => k_asm); (case kTz3 => k_asm); (case kKz3 => first | exact rfl | assumption); (case kDz3 => first | exact room0 (by assumption) | exact room1 (by assumption) rfl | exact room2 (by assumption) rfl | exact room3 (by assumption) rfl | exact roomA (by assumption) rfl | exact roomS (by assumption) rfl | exact roomM (by assumption) rfl | exact roomB (by assumption) rfl); (case kUz3 => first | exact room0 (by assumption) | exact room1 (by assumption) rfl | exact room2 (by assumption) rfl | exact room3 (by assumption) rfl | exact roomA (by assumption) rfl | exact roomS (by assumption) rfl | exact roomM (by assumption) rfl | exact roomB (by assumption) rfl)))
  case kErrz3 => intro hf; exact hf.elim
  intro r1 news1 hh1 tk1 F1 N1 K1 P1
  subst P1
  have g1 := K1 _ h1 (fun q => nomatch q)
  have g2 := K1 _ h2 (fun q => nomatch q)
  have k2 := off_kp N1 g1 rfl
  have g3 := k2 _ g2 fun _ => rfl
  have N2 := news_front N1 g1
  cases hb : wl.isPrefixOf r
  · repeat' (first | ((with_reducible show wpAny _ _ (exec _ _) _ _ _); k_fold) | ((fail_if_success (with_reducible refine stop_of Stop1 (by constructor) ?_)); first | (k_unfold; (try dsimp only)) | (k_end; wrow_close) | walk1 | (dsimp only; walk1) | (leave1; try dsimp only)))
    exact hret _ _ _ _ (by assumption) (by assumption) ((K1.mono (fun _ q => nomatch q)).trans k2.cons) ⟨by rw [hb], .tail _ g3, _, _, _, _, _, .head _, by unfold tkr; rw [if_neg (by rw [hb]; decide)]; exact h3⟩
  · repeat' (first | ((with_reducible show wpAny _ _ (exec _ _) _ _ _); k_fold) | ((fail_if_success (with_reducible refine stop_of Stop1 (by constructor) ?_)); first | (k_unfold; (try dsimp only)) | (k_end; wrow_close) | walk1 | (dsimp only; walk1) | (leave1; try dsimp only)))
    exact hret _ _ _ _ (by assumption) (by assumption) ((K1.mono (fun _ q => nomatch q)).trans k2.cons) ⟨by rw [hb], .tail _ g3, _, _, _, _, _, .head _, by
      unfold tkr; rw [if_pos hb, hW]; exact h3.drop (List.IsPrefix.length_le (List.isPrefixOf_iff_prefix.mp hb))⟩
theorem fault {w : World} {T W : Str} {r : List Nat} {tw : Tok} {x d : Addr} {news : Led} (S : Sc w T x d r news) :
    Con w 134 [.ref x, .str W tw] 20 100 news [] (IsFault news) False := by
  refine el_sc S ?_
  intro t1 t2 t3 t4 i h2 h1 h3
  intro mean mg mb dp un gd cn cs a ccd cl outer A₀ base h₀ L m s Q E B F X N Tp hk hd1 hu1 hret herr; refine wpAny_call ?_; k_dflt (refine' code_def (binds := [("self", .ref x), ("message", .str W tw)]) ?k1 ?k2 ?k3 ?k4 ?k5 ?kA ?kF ?kK ?k6 ?k7 ?k8 ?k9 ?kB ?_ ?c2 ?c3 ?c4 ?c5; (case kA => exact rfl); (case kF => exact rfl); (case kK => assumption); (case k1 => k_asm); (case k2 => k_asm); (case k3 => k_asm); (case k4 => k_asm); (case k5 => k_asm); (case k6 => k_is); (case k7 => k_is); (case k8 => first | exact room0 (by assumption) | exact room1 (by assumption) rfl | exact room2 (by assumption) rfl | exact room3 (by assumption) rfl | exact roomA (by assumption) rfl | exact roomS (by assumption) rfl | exact roomM (by assumption) rfl | exact roomB (by assumption) rfl); (case k9 => exact BindsTo.of_eq rfl); (case c5 => decide); (case kB => exact locs rfl); (case c2 => exact rfl); (case c3 => exact rfl); (case c4 => exact rfl); k_whole); intro g' L' hp FG' F' N' B' X' T'; (try dsimp only [List.reverse_cons, List.reverse_nil, List.nil_append, List.cons_append, List.length_cons, List.length_nil, Nat.zero_add] at F' ⊢); k_fold; refine fold_env ?_; intro e₁ A₁
  repeat' (first | ((with_reducible show wpAny _ _ (exec _ _) _ _ _); k_fold) | ((fail_if_success (with_reducible refine stop_of Stop1 (by constructor) ?_)); first | (k_unfold; (try dsimp only)) | (k_end; wrow_close) | walk1 | (dsimp only; walk1) | (leave1; try dsimp only)))
  refine wpAny_call (make_exc (by assumption) (by assumption) (Frag.In.keeps (by assumption) (Fr.keep (by assumption))) ?_)
  intro xe te h8 F8 N8 l8 l9
  k_enter
  repeat' (first | ((with_reducible show wpAny _ _ (exec _ _) _ _ _); k_fold) | ((fail_if_success (with_reducible refine stop_of Stop1 (by constructor) ?_)); first | (k_unfold; (try dsimp only)) | (k_end; wrow_close) | walk1 | (dsimp only; walk1) | (leave1; try dsimp only)))
  refine wpAny_call ?_
  k_enter
  repeat' (first | ((with_reducible show wpAny _ _ (exec _ _) _ _ _); k_fold) | ((fail_if_success (with_reducible refine stop_of Stop1 (by constructor) ?_)); first | (k_unfold; (try dsimp only)) | (k_end; wrow_close) | walk1 | (dsimp only; walk1) | (leave1; try dsimp only)))
  refine method_type (by assumption) (by assumption) typeOf_exc (by decide +kernel) (v := .builtin "Exception.__init__") (by k_dflt k_is) (by k_handed) ?_
  repeat' (first | ((with_reducible show wpAny _ _ (exec _ _) _ _ _); k_fold) | ((fail_if_success (with_reducible refine stop_of Stop1 (by constructor) ?_)); first | (k_unfold; (try dsimp only)) | (k_end; wrow_close) | walk1 | (dsimp only; walk1) | (leave1; try dsimp only)))
  refine exc_init (by assumption) (by assumption) ?_ (by assumption) ?_
  · intro p hp
    rcases List.mem_cons.mp hp with rfl | hp
    · exact Nat.ne_of_lt l9
    · exact Nat.ne_of_lt (Nat.lt_trans (l8 p hp) l9)
  intro tn h9 F9 N9 m1 m2
  repeat' (first | ((with_reducible show wpAny _ _ (exec _ _) _ _ _); k_fold) | ((fail_if_success (with_reducible refine stop_of Stop1 (by constructor) ?_)); first | (k_unfold; (try dsimp only)) | (k_end; wrow_close) | walk1 | (dsimp only; walk1) | (leave1; try dsimp only)))
  refine set_exc0 (vs := #[.ref tn, .none, .none, .none, .bool false, .none]) (by assumption) (by assumption) ?_ (by assumption) (by k_dflt k_is) ?_
  · intro p hp
    rcases List.mem_cons.mp hp with rfl | hp
    · exact Nat.ne_of_gt m2
    · rcases List.mem_cons.mp hp with rfl | hp
      · exact Nat.ne_of_lt l9
      · exact Nat.ne_of_lt (Nat.lt_trans (l8 p hp) l9)
  intro dn h10 F10 N10 m3 m4
  repeat' (first | ((with_reducible show wpAny _ _ (exec _ _) _ _ _); k_fold) | ((fail_if_success (with_reducible refine stop_of Stop1 (by constructor) ?_)); first | (k_unfold; (try dsimp only)) | (k_end; wrow_close) | walk1 | (dsimp only; walk1) | (leave1; try dsimp only)))
  refine set_exc1 (vs := #[.ref tn, .none, .none, .none, .bool false, .none]) (by assumption) (by assumption) (Nat.ne_of_lt m4) (fun p hp => Nat.ne_of_lt (m3 p hp)) (by assumption) (by k_dflt k_is) rfl (by show 1 ≤ 900; decide) ?_
  intro h11 es' n' F11 N11
  repeat' (first | ((with_reducible show wpAny _ _ (exec _ _) _ _ _); k_fold) | ((fail_if_success (with_reducible refine stop_of Stop1 (by constructor) ?_)); first | (k_unfold; (try dsimp only)) | (k_end; wrow_close) | walk1 | (dsimp only; walk1) | (leave1; try dsimp only)))
  exact hret _ _ _ _ (by assumption) (by assumption) (Kp.sub fun p hp => .tail _ (.tail _ (.tail _ (.tail _ hp)))) ⟨_, _, _, _, rfl, .head _, .tail _ (.tail _ (.head _)), fun p hp => ⟨Nat.ne_of_lt (Nat.lt_trans (l8 p hp) l9), Nat.ne_of_lt (m1 p (.tail _ hp))⟩⟩
theorem expect {w : World} {T W : Str} {wl r : List Nat} {tw : Tok} {x d : Addr} {news : Led} (hw : W.cps.toList = wl) (hl : wl.length ≤ 1000) (S : Sc w T x d r news) :
    Con w 162 [.ref x, .str W tw] 50 300 news [d] (fun _ n' => wl.isPrefixOf r = true ∧ Sc w T x d (r.drop wl.length) n') (wl.isPrefixOf r = false) := by
  refine el_sc S ?_
  intro t1 t2 t3 t4 i h2 h1 h3
  have hW : W.length = wl.length := by rw [← hw]; rfl
  intro mean mg mb dp un gd cn cs a ccd cl outer A₀ base h₀ L m s Q E B F X N Tp hk hd1 hu1 hret herr; refine wpAny_call ?_; k_dflt (refine' code_def (binds := [("self", .ref x), ("word", .str W tw)]) ?k1 ?k2 ?k3 ?k4 ?k5 ?kA ?kF ?kK ?k6 ?k7 ?k8 ?k9 ?kB ?_ ?c2 ?c3 ?c4 ?c5; (case kA => exact rfl); (case kF => exact rfl); (case kK => assumption); (case k1 => k_asm); (case k2 => k_asm); (case k3 => k_asm); (case k4 => k_asm); (case k5 => k_asm); (case k6 => k_is); (case k7 => k_is); (case k8 => first | exact room0 (by assumption) | exact room1 (by assumption) rfl | exact room2 (by assumption) rfl | exact room3 (by assumption) rfl | exact roomA (by assumption) rfl | exact roomS (by assumption) rfl | exact roomM (by assumption) rfl | exact roomB (by assumption) rfl); (case k9 => exact BindsTo.of_eq rfl); (case c5 => decide); (case kB => exact locs rfl); (case c2 => exact rfl); (case c3 => exact rfl); (case c4 => exact rfl); k_whole); intro g' L' hp FG' F' N' B' X' T'; (try dsimp only [List.reverse_cons, List.reverse_nil, List.nil_append, List.cons_append, List.length_cons, List.length_nil, Nat.zero_add] at F' ⊢); k_fold; refine fold_env ?_; intro e₁ A₁
  repeat' (first | ((with_reducible show wpAny _ _ (exec _ _) _ _ _); k_fold) | ((fail_if_success (with_reducible refine stop_of Stop1 (by constructor) ?_)); first | (k_unfold; (try dsimp only)) | (k_end; wrow_close) | walk1 | (dsimp only; walk1) | (leave1; try dsimp only)))
  (k_dflt (refine' con_use ?kNz4 (takes hw hl S) ?kBz4 ?kFz4 ?kXz4 ?kTz4 ?kKz4 ?kDz4 ?kUz4 ?kOkz4 ?kErrz4; (case kNz4 => k_asm); (case kBz4 => k_asm); (case kFz4 => k_asm); (case kXz4 => k_asm); (case kTz4 => k_asm); (case kKz4 => first | exact rfl | assumption); (case kDz4 => first | exact room0 (by assumption) | exact room1 (by assumption) rfl | exact room2 (by assumption) rfl | exact room3 (by assumption) rfl | exact roomA (by assumption) rfl | exact roomS (by assumption) rfl | exact roomM (by assumption) rfl | exact roomB (by assumption) rfl); (case kUz4 => first | exact room0 (by assumption) | exact room1 (by assumption) rfl | exact room2 (by assumption) rfl | exact room3 (by assumption) rfl | exact roomA (by assumption) rfl | exact roomS (by assumption) rfl | exact roomM (by assumption) rfl | exact roomB (by assumption) rfl)))
  case kErrz4 => intro hf; exact hf.elim
  intro r1 news1 hh1 tk1 F1 N1 K1 P1
  have hQ9 := P1.1
  have S1 := P1.2
  subst hQ9
  unfold tkr at S1
  have g2 := S1.1
  cases hb : wl.isPrefixOf r
  · rw [if_neg (by rw [hb]; decide)] at S1
    refine fold_goal ?_; intro G9 k9; obtain ⟨_, t1, t2, t3, t4, i, h1, h3⟩ := id S1; refine k9 ?_; clear k9 G9
    repeat' (first | ((with_reducible show wpAny _ _ (exec _ _) _ _ _); k_fold) | ((fail_if_success (with_reducible refine stop_of Stop1 (by constructor) ?_)); first | (k_unfold; (try dsimp only)) | (k_end; wrow_close) | walk1 | (dsimp only; walk1) | (leave1; try dsimp only)))
    refine Raise_split ?_
    repeat' (first | ((with_reducible show wpAny _ _ (exec _ _) _ _ _); k_fold) | ((fail_if_success (with_reducible refine stop_of Stop1 (by constructor) ?_)); first | (k_unfold; (try dsimp only)) | (k_end; wrow_close) | walk1 | (dsimp only; walk1) | (leave1; try dsimp only)))
    (k_dflt (refine' con_use ?kNz5 (fault S1) ?kBz5 ?kFz5 ?kXz5 ?kTz5 ?kKz5 ?kDz5 ?kUz5 ?kOkz5 ?kErrz5; (case kNz5 => k_asm); (case kBz5 => k_asm); (case kFz5 => k_asm); (case kXz5 => k_asm); (case kTz5 => k_asm); (case kKz5 => first | exact rfl | assumption); (case kDz5 => first | exact room0 (by assumption) | exact room1 (by assumption) rfl | exact room2 (by assumption) rfl | exact room3 (by assumption) rfl | exact roomA (by assumption) rfl | exact roomS (by assumption) rfl | exact roomM (by assumption) rfl | exact roomB (by assumption) rfl); (case kUz5 => first | exact room0 (by assumption) | exact room1 (by assumption) rfl | exact room2 (by assumption) rfl | exact room3 (by assumption) rfl | exact roomA (by assumption) rfl | exact roomS (by assumption) rfl | exact roomM (by assumption) rfl | exact roomB (by assumption) rfl)))
    case kErrz5 => intro hf; exact hf.elim
    intro r2 news2 hh2 tk2 F2 N2 K2 P2
    refine fold_goal ?_; intro G9 k9; obtain ⟨xe, dn, te, vs, rfl, he, ht, hf⟩ := P2; refine k9 ?_; clear k9 G9; refine raiseTail_exc (Frag.In.keeps X' F2.keep) (N2.get he) rfl ?_; (repeat (k_unfold; try dsimp only))
    refine leave_inst (kept := news1) (by assumption) he ht F2 N2 (fun p hp => ⟨K2.of_nil p hp, hf p hp⟩) (fun h' R U => ?_)
    exact herr hb _ _ _ _ _ _ _ FG' U R K1
  · rw [if_pos hb] at S1
    repeat' (first | ((with_reducible show wpAny _ _ (exec _ _) _ _ _); k_fold) | ((fail_if_success (with_reducible refine stop_of Stop1 (by constructor) ?_)); first | (k_unfold; (try dsimp only)) | (k_end; wrow_close) | walk1 | (dsimp only; walk1) | (leave1; try dsimp only)))
    exact hret _ _ _ _ (by assumption) (by assumption) K1 ⟨hb, S1⟩
theorem item_at {prog : Program} {w : World} {A : Around} {E : Value → Shared → Prop} {s : Shared} {value slice : Expr} {T : Str} {t u : Tok} {i : Int} {c : Nat} {r : List Nat} {Q : Value → Shared → Prop} (h : At T i (c :: r)) (hT : T.length ≤ 1000000)
    (hq : Q (.str (one c) s.toks) { s with toks := s.toks + 1 })
    (hs : subscripted slice false (.str T t) (.int i u) = operate [.str T t, .int i u] (getItem (.str T t) (.int i u)) := by with_unfolding_all rfl)
    (ht : ∀ r, letTemporaryGo value (.str T t) r = pure () := by intro _; with_unfolding_all rfl) :
    wpAny (model prog w) A (subscriptTail value slice (.str T t) (.int i u)) Q E s := by
  obtain ⟨a, b, e⟩ := h.item
  exact item_str (fitsSsize_of (N := 9223372036854775808) (by (first | lia | omega)) (by (first | lia | omega)) (Int.le_refl _)) (by (first | lia | omega)) (by (first | lia | omega)) (fun _ => by rw [e]; exact hq) hs ht
theorem At.lt {T : Str} {i : Int} {r : List Nat} (h : At T i r) (hi : i < T.length) : ∃ c r', r = c :: r' := by
  cases r with
  | nil => exact absurd (h.over.mpr rfl) (by (first | lia | omega))
  | cons c r' => exact ⟨c, r', rfl⟩
theorem At.nlt {T : Str} {i : Int} {r : List Nat} (h : At T i r) (hi : ¬ i < T.length) : r = [] := h.over.mp (by (first | lia | omega))
theorem At.next {T : Str} {i : Int} {c : Nat} {r : List Nat} (h : At T i (c :: r)) : At T (i + 1) r := h.drop (n := 1) (by simp)
theorem spaces {w : World} {T : Str} {r : List Nat} {x d : Addr} {news : Led} (hT : T.length ≤ 1000000) (S : Sc w T x d r news) :
    Con w 169 [.ref x] 50 300 news [d] (fun _ n' => Sc w T x d (r.dropWhile isSp) n') False := by
  refine el_sc S ?_
  intro t1 t2 t3 t4 i h2 h1 h3
  intro mean mg mb dp un gd cn cs a ccd cl outer A₀ base h₀ L m s Q E B F X N Tp hk hd1 hu1 hret herr; refine wpAny_call ?_; k_dflt (refine' code_def (binds := [("self", .ref x)]) ?k1 ?k2 ?k3 ?k4 ?k5 ?kA ?kF ?kK ?k6 ?k7 ?k8 ?k9 ?kB ?_ ?c2 ?c3 ?c4 ?c5; (case kA => exact rfl); (case kF => exact rfl); (case kK => assumption); (case k1 => k_asm); (case k2 => k_asm); (case k3 => k_asm); (case k4 => k_asm); (case k5 => k_asm); (case k6 => k_is); (case k7 => k_is); (case k8 => first | exact room0 (by assumption) | exact room1 (by assumption) rfl | exact room2 (by assumption) rfl | exact room3 (by assumption) rfl | exact roomA (by assumption) rfl | exact roomS (by assumption) rfl | exact roomM (by assumption) rfl | exact roomB (by assumption) rfl); (case k9 => exact BindsTo.of_eq rfl); (case c5 => decide); (case kB => exact locs rfl); (case c2 => exact rfl); (case c3 => exact rfl); (case c4 => exact rfl); k_whole); intro g' L' hp FG' F' N' B' X' T'; (try dsimp only [List.reverse_cons, List.reverse_nil, List.nil_append, List.cons_append, List.length_cons, List.length_nil, Nat.zero_add] at F' ⊢); k_fold; refine fold_env ?_; intro e₁ A₁
  repeat' (first | ((with_reducible show wpAny _ _ (exec _ _) _ _ _); k_fold) | ((fail_if_success (with_reducible refine stop_of Stop1 (by constructor) ?_)); first | (k_unfold; (try dsimp only)) | (k_end; wrow_close) | walk1 | (dsimp only; walk1) | (leave1; try dsimp only)))
  refine While_same (fun n n₁ => ∃ r', n = r'.length ∧ Sc w T x d r' n₁ ∧ Kp [d] news n₁ ∧ r'.dropWhile isSp = r.dropWhile isSp) (by assumption) (by assumption) ⟨r, rfl, S, Kp.refl, rfl⟩ ?_
  intro n n1 h9 tk9 F9 N9 J9; refine fold_goal ?_; intro G9 k9; obtain ⟨r', rfl, S9, K9, e9⟩ := J9; refine k9 ?_; clear k9 G9
  refine el_sc S9 ?_
  intro u1 u2 u3 u4 j g2 g1 g3
  repeat' (first | ((with_reducible show wpAny _ _ (exec _ _) _ _ _); k_fold) | ((fail_if_success (with_reducible refine stop_of Stop1 (by constructor) ?_)); first | (k_unfold; (try dsimp only)) | (k_end; wrow_close) | walk1 | (dsimp only; walk1) | (leave1; try dsimp only)))
  · refine fold_goal ?_; intro G9 k9; obtain ⟨c, r9, rfl⟩ := g3.lt (by assumption); refine k9 ?_; clear k9 G9
    refine item_at g3 hT ?_
    repeat' (first | ((with_reducible show wpAny _ _ (exec _ _) _ _ _); k_fold) | ((fail_if_success (with_reducible refine stop_of Stop1 (by constructor) ?_)); first | (k_unfold; (try dsimp only)) | (k_end; wrow_close) | walk1 | (dsimp only; walk1) | (leave1; try dsimp only)))
    (k_dflt (refine' con_use ?kNz6 is_space ?kBz6 ?kFz6 ?kXz6 ?kTz6 ?kKz6 ?kDz6 ?kUz6 ?kOkz6 ?kErrz6; (case kNz6 => k_asm); (case kBz6 => k_asm); (case kFz6 => k_asm); (case kXz6 => k_asm); (case kTz6 => k_asm); (case kKz6 => first | exact rfl | assumption); (case kDz6 => first | exact room0 (by assumption) | exact room1 (by assumption) rfl | exact room2 (by assumption) rfl | exact room3 (by assumption) rfl | exact roomA (by assumption) rfl | exact roomS (by assumption) rfl | exact roomM (by assumption) rfl | exact roomB (by assumption) rfl); (case kUz6 => first | exact room0 (by assumption) | exact room1 (by assumption) rfl | exact room2 (by assumption) rfl | exact room3 (by assumption) rfl | exact roomA (by assumption) rfl | exact roomS (by assumption) rfl | exact roomM (by assumption) rfl | exact roomB (by assumption) rfl)))
    case kErrz6 => intro hf; exact hf.elim
    intro r1 news1 hh1 tk1 F1 N1 K1 P1
    subst P1
    have S2 := S9.kp K1 (fun q => nomatch q)
    have f1 := K1 _ g1 (fun q => nomatch q)
    have f2 := K1 _ g2 (fun q => nomatch q)
    have k2 := off_kp N1 f1 rfl
    have f3 := k2 _ f2 fun _ => rfl
    have N2 := news_front N1 f1
    cases hb : isSp c
    · repeat' (first | ((with_reducible show wpAny _ _ (exec _ _) _ _ _); k_fold) | ((fail_if_success (with_reducible refine stop_of Stop1 (by constructor) ?_)); first | (k_unfold; (try dsimp only)) | (k_end; wrow_close) | walk1 | (dsimp only; walk1) | (leave1; try dsimp only)))
      exact hret _ _ _ _ (by assumption) (by assumption) (K9.trans ((K1.mono fun _ q => nomatch q).trans k2.cons)) (by
        rw [← e9, List.dropWhile_cons, if_neg (by rw [hb]; decide)]
        exact ⟨.tail _ f3, _, _, _, _, _, .head _, g3⟩)
    · repeat' (first | ((with_reducible show wpAny _ _ (exec _ _) _ _ _); k_fold) | ((fail_if_success (with_reducible refine stop_of Stop1 (by constructor) ?_)); first | (k_unfold; (try dsimp only)) | (k_end; wrow_close) | walk1 | (dsimp only; walk1) | (leave1; try dsimp only)))
      refine WStep.next (by assumption) (by assumption) (Nat.lt_succ_self _) ⟨rfl, r9, rfl, ⟨.tail _ f3, _, _, _, _, _, .head _, g3.next⟩, K9.trans ((K1.mono fun _ q => nomatch q).trans k2.cons), ?_⟩
      rw [← e9, List.dropWhile_cons, if_pos hb]
  · have e := g3.nlt (by assumption)
    subst e
    exact hret _ _ _ _ (by assumption) (by assumption) K9 (by rw [← e9]; exact S9)
noncomputable def Asc (T : Str) : Prop := ∀ c ∈ T.cps.toList, c < 128
theorem At.asc {T : Str} {i : Int} {c : Nat} {r : List Nat} (h : At T i (c :: r)) (hA : Asc T) : c < 128 := by
  refine fold_goal ?_; intro G9 k9; obtain ⟨k, _, _, e⟩ := h; refine k9 ?_; clear k9 G9
  exact hA c (List.mem_of_mem_drop (i := k) (by rw [← e]; exact .head _))
noncomputable def headIs (p : Nat → Bool) : List Nat → Bool
  | [] => false
  | c :: _ => p c
theorem is_over {w : World} {T : Str} {r : List Nat} {x d : Addr} {news : Led} (hT : T.length ≤ 1000000) (S : Sc w T x d r news) :
    Con w 141 [.ref x] 10 50 news [] (fun v _ => v = .bool r.isEmpty) False := by
  refine el_sc S ?_
  intro t1 t2 t3 t4 i h2 h1 h3
  intro mean mg mb dp un gd cn cs a ccd cl outer A₀ base h₀ L m s Q E B F X N Tp hk hd1 hu1 hret herr; refine wpAny_call ?_; k_dflt (refine' code_def (binds := [("self", .ref x)]) ?k1 ?k2 ?k3 ?k4 ?k5 ?kA ?kF ?kK ?k6 ?k7 ?k8 ?k9 ?kB ?_ ?c2 ?c3 ?c4 ?c5; (case kA => exact rfl); (case kF => exact rfl); (case kK => assumption); (case k1 => k_asm); (case k2 => k_asm); (case k3 => k_asm); (case k4 => k_asm); (case k5 => k_asm); (case k6 => k_is); (case k7 => k_is); (case k8 => first | exact room0 (by assumption) | exact room1 (by assumption) rfl | exact room2 (by assumption) rfl | exact room3 (by assumption) rfl | exact roomA (by assumption) rfl | exact roomS (by assumption) rfl | exact roomM (by assumption) rfl | exact roomB (by assumption) rfl); (case k9 => exact BindsTo.of_eq rfl); (case c5 => decide); (case kB => exact locs rfl); (case c2 => exact rfl); (case c3 => exact rfl); (case c4 => exact rfl); k_whole); intro g' L' hp FG' F' N' B' X' T'; (try dsimp only [List.reverse_cons, List.reverse_nil, List.nil_append, List.cons_append, List.length_cons, List.length_nil, Nat.zero_add] at F' ⊢); k_fold; refine fold_env ?_; intro e₁ A₁
  repeat' (first | ((with_reducible show wpAny _ _ (exec _ _) _ _ _); k_fold) | ((fail_if_success (with_reducible refine stop_of Stop1 (by constructor) ?_)); first | (k_unfold; (try dsimp only)) | (k_end; wrow_close) | walk1 | (dsimp only; walk1) | (leave1; try dsimp only)))
  exact hret _ _ _ _ (by assumption) (by assumption) Kp.refl (by
    congr 1
    rw [Bool.eq_iff_iff, decide_eq_true_eq, List.isEmpty_iff]
    exact h3.over)
theorem looks_name {w : World} {T : Str} {r : List Nat} {x d : Addr} {news : Led} (hT : T.length ≤ 1000000) (hA : Asc T) (S : Sc w T x d r news) :
    Con w 183 [.ref x] 50 300 news [] (fun v _ => v = .bool (headIs isNS r)) False := by
  refine el_sc S ?_
  intro t1 t2 t3 t4 i h2 h1 h3
  intro mean mg mb dp un gd cn cs a ccd cl outer A₀ base h₀ L m s Q E B F X N Tp hk hd1 hu1 hret herr; refine wpAny_call ?_; k_dflt (refine' code_def (binds := [("self", .ref x)]) ?k1 ?k2 ?k3 ?k4 ?k5 ?kA ?kF ?kK ?k6 ?k7 ?k8 ?k9 ?kB ?_ ?c2 ?c3 ?c4 ?c5; (case kA => exact rfl); (case kF => exact rfl); (case kK => assumption); (case k1 => k_asm); (case k2 => k_asm); (case k3 => k_asm); (case k4 => k_asm); (case k5 => k_asm); (case k6 => k_is); (case k7 => k_is); (case k8 => first | exact room0 (by assumption) | exact room1 (by assumption) rfl | exact room2 (by assumption) rfl | exact room3 (by assumption) rfl | exact roomA (by assumption) rfl | exact roomS (by assumption) rfl | exact roomM (by assumption) rfl | exact roomB (by assumption) rfl); (case k9 => exact BindsTo.of_eq rfl); (case c5 => decide); (case kB => exact locs rfl); (case c2 => exact rfl); (case c3 => exact rfl); (case c4 => exact rfl); k_whole); intro g' L' hp FG' F' N' B' X' T'; (try dsimp only [List.reverse_cons, List.reverse_nil, List.nil_append, List.cons_append, List.length_cons, List.length_nil, Nat.zero_add] at F' ⊢); k_fold; refine fold_env ?_; intro e₁ A₁
  repeat' (first | ((with_reducible show wpAny _ _ (exec _ _) _ _ _); k_fold) | ((fail_if_success (with_reducible refine stop_of Stop1 (by constructor) ?_)); first | (k_unfold; (try dsimp only)) | (k_end; wrow_close) | walk1 | (dsimp only; walk1) | (leave1; try dsimp only)))
  · refine fold_goal ?_; intro G9 k9; obtain ⟨c, r9, rfl⟩ := h3.lt (by assumption); refine k9 ?_; clear k9 G9
    refine item_at h3 hT ?_
    repeat' (first | ((with_reducible show wpAny _ _ (exec _ _) _ _ _); k_fold) | ((fail_if_success (with_reducible refine stop_of Stop1 (by constructor) ?_)); first | (k_unfold; (try dsimp only)) | (k_end; wrow_close) | walk1 | (dsimp only; walk1) | (leave1; try dsimp only)))
    (k_dflt (refine' con_use ?kNz7 (is_start (h3.asc hA)) ?kBz7 ?kFz7 ?kXz7 ?kTz7 ?kKz7 ?kDz7 ?kUz7 ?kOkz7 ?kErrz7; (case kNz7 => k_asm); (case kBz7 => k_asm); (case kFz7 => k_asm); (case kXz7 => k_asm); (case kTz7 => k_asm); (case kKz7 => first | exact rfl | assumption); (case kDz7 => first | exact room0 (by assumption) | exact room1 (by assumption) rfl | exact room2 (by assumption) rfl | exact room3 (by assumption) rfl | exact roomA (by assumption) rfl | exact roomS (by assumption) rfl | exact roomM (by assumption) rfl | exact roomB (by assumption) rfl); (case kUz7 => first | exact room0 (by assumption) | exact room1 (by assumption) rfl | exact room2 (by assumption) rfl | exact room3 (by assumption) rfl | exact roomA (by assumption) rfl | exact roomS (by assumption) rfl | exact roomM (by assumption) rfl | exact roomB (by assumption) rfl)))
    case kErrz7 => intro hf; exact hf.elim
    intro r1 news1 hh1 tk1 F1 N1 K1 P1
    subst P1
    repeat' (first | ((with_reducible show wpAny _ _ (exec _ _) _ _ _); k_fold) | ((fail_if_success (with_reducible refine stop_of Stop1 (by constructor) ?_)); first | (k_unfold; (try dsimp only)) | (k_end; wrow_close) | walk1 | (dsimp only; walk1) | (leave1; try dsimp only)))
    exact hret _ _ _ _ (by assumption) (by assumption) K1 rfl
  · have e9 : ¬ i < T.length := by assumption
    have e := h3.nlt e9
    subst e
    exact hret _ _ _ _ (by assumption) (by assumption) Kp.refl (by rw [decide_eq_false e9]; rfl)
theorem tw_exit {p : Nat → Bool} : ∀ {r : List Nat} {k : Nat}, k ≤ (r.takeWhile p).length → headIs p (r.drop k) = false → (r.takeWhile p).length = k ∧ r.drop k = r.dropWhile p ∧ r.take k = r.takeWhile p
  | [], k, hk, _ => by
    simp only [List.takeWhile_nil, List.length_nil, Nat.le_zero] at hk
    subst hk
    simp
  | c :: r, k, hk, hx => by
    cases hc : p c with
    | false =>
      rw [List.takeWhile_cons, if_neg (by rw [hc]; decide)] at hk
      simp only [List.length_nil, Nat.le_zero] at hk
      subst hk
      rw [List.takeWhile_cons, List.dropWhile_cons, if_neg (by rw [hc]; decide), if_neg (by rw [hc]; decide)]
      simp
    | true =>
      rw [List.takeWhile_cons, List.dropWhile_cons, if_pos hc, if_pos hc]
      rw [List.takeWhile_cons, if_pos hc] at hk
      cases k with
      | zero => rw [List.drop_zero] at hx; simp only [headIs] at hx; rw [hc] at hx; cases hx
      | succ k =>
        obtain ⟨a, b, e⟩ := tw_exit (r := r) (k := k) (by simpa using hk) (by simpa using hx)
        exact ⟨by simp [a], by simpa using b, by simp [e]⟩
theorem tw_more {p : Nat → Bool} : ∀ {r : List Nat} {k : Nat}, k ≤ (r.takeWhile p).length → headIs p (r.drop k) = true → k + 1 ≤ (r.takeWhile p).length
  | [], k, _, hx => by rw [List.drop_nil] at hx; cases hx
  | c :: r, k, hk, hx => by
    cases hc : p c with
    | false =>
      rw [List.takeWhile_cons, if_neg (by rw [hc]; decide)] at hk
      simp only [List.length_nil, Nat.le_zero] at hk
      subst hk
      rw [List.drop_zero] at hx
      simp only [headIs] at hx
      rw [hc] at hx; cases hx
    | true =>
      rw [List.takeWhile_cons, if_pos hc] at hk ⊢
      cases k with
      | zero => simp
      | succ k =>
        have := tw_more (r := r) (k := k) (by simpa using hk) (by simpa using hx)
        simp; omega
theorem At.tok {T : Str} {i j : Int} {r : List Nat} {k : Nat} {p : Nat → Bool} (h : At T i r) (g : At T j (r.drop k)) (hk : k ≤ (r.takeWhile p).length) (hx : headIs p (r.drop k) = false) :
    (j = i ↔ r.takeWhile p = []) ∧ r.drop k = r.dropWhile p ∧ Txt.slice T (some i) (some j) = ⟨(r.takeWhile p).toArray⟩ := by
  obtain ⟨a, b, e⟩ := tw_exit hk hx
  have h1 := h.at
  have h2 := h.len
  have g1 := g.at
  have lt : (r.takeWhile p).length ≤ r.length := (List.takeWhile_sublist p).length_le
  rw [List.length_drop] at g1
  have hj : j = i + k := by omega
  refine ⟨?_, b, ?_⟩
  · rw [← List.length_eq_zero_iff, a]; omega
  · refine fold_goal ?_; intro G9 k9; obtain ⟨q, rfl, hq, hr⟩ := h; refine k9 ?_; clear k9 G9
    have hl : T.cps.toList.length = T.length := rfl
    rw [show Txt.slice T (some (q : Int)) (some j) = _ from StrLaws.sliceText_plain ⟨by omega, by omega, by omega⟩]
    rw [show (j - (q : Int)).toNat = k from by omega, Int.toNat_natCast, ← hr, e]
theorem token {w : World} {T : Str} {r : List Nat} {x d : Addr} {news : Led} (hT : T.length ≤ 1000000) (hA : Asc T) (S : Sc w T x d r news) :
    Con w 190 [.ref x] 60 400 news [d] (fun v n' => (∃ t, v = .str ⟨(r.takeWhile isNC).toArray⟩ t) ∧ r.takeWhile isNC ≠ [] ∧ Sc w T x d (r.dropWhile isNC) n') (r.takeWhile isNC = []) := by
  refine el_sc S ?_
  intro t1 t2 t3 t4 i h2 h1 h3
  intro mean mg mb dp un gd cn cs a ccd cl outer A₀ base h₀ L m s Q E B F X N Tp hk hd1 hu1 hret herr; refine wpAny_call ?_; k_dflt (refine' code_def (binds := [("self", .ref x)]) ?k1 ?k2 ?k3 ?k4 ?k5 ?kA ?kF ?kK ?k6 ?k7 ?k8 ?k9 ?kB ?_ ?c2 ?c3 ?c4 ?c5; (case kA => exact rfl); (case kF => exact rfl); (case kK => assumption); (case k1 => k_asm); (case k2 => k_asm); (case k3 => k_asm); (case k4 => k_asm); (case k5 => k_asm); (case k6 => k_is); (case k7 => k_is); (case k8 => first | exact room0 (by assumption) | exact room1 (by assumption) rfl | exact room2 (by assumption) rfl | exact room3 (by assumption) rfl | exact roomA (by assumption) rfl | exact roomS (by assumption) rfl | exact roomM (by assumption) rfl | exact roomB (by assumption) rfl); (case k9 => exact BindsTo.of_eq rfl); (case c5 => decide); (case kB => exact locs rfl); (case c2 => exact rfl); (case c3 => exact rfl); (case c4 => exact rfl); k_whole); intro g' L' hp FG' F' N' B' X' T'; (try dsimp only [List.reverse_cons, List.reverse_nil, List.nil_append, List.cons_append, List.length_cons, List.length_nil, Nat.zero_add] at F' ⊢); k_fold; refine fold_env ?_; intro e₁ A₁
  repeat' (first | ((with_reducible show wpAny _ _ (exec _ _) _ _ _); k_fold) | ((fail_if_success (with_reducible refine stop_of Stop1 (by constructor) ?_)); first | (k_unfold; (try dsimp only)) | (k_end; wrow_close) | walk1 | (dsimp only; walk1) | (leave1; try dsimp only)))
  refine While_same (fun n n₁ => ∃ k, n = r.length - k ∧ k ≤ (r.takeWhile isNC).length ∧ Sc w T x d (r.drop k) n₁ ∧ Kp [d] news n₁) (by assumption) (by assumption) ⟨0, rfl, Nat.zero_le _, by rw [List.drop_zero]; exact S, Kp.refl⟩ ?_
  intro n n1 h9 tk9 F9 N9 J9; refine fold_goal ?_; intro G9 k9; obtain ⟨k, rfl, hk9, S9, K9⟩ := J9; refine k9 ?_; clear k9 G9
  refine el_sc S9 ?_
  intro u1 u2 u3 u4 j g2 g1 g3
  repeat' (first | ((with_reducible show wpAny _ _ (exec _ _) _ _ _); k_fold) | ((fail_if_success (with_reducible refine stop_of Stop1 (by constructor) ?_)); first | (k_unfold; (try dsimp only)) | (k_end; wrow_close) | walk1 | (dsimp only; walk1) | (leave1; try dsimp only)))
  · obtain ⟨c, r9, er⟩ := g3.lt (by assumption)
    have g4 := g3
    rw [er] at g4
    refine item_at g4 hT ?_
    repeat' (first | ((with_reducible show wpAny _ _ (exec _ _) _ _ _); k_fold) | ((fail_if_success (with_reducible refine stop_of Stop1 (by constructor) ?_)); first | (k_unfold; (try dsimp only)) | (k_end; wrow_close) | walk1 | (dsimp only; walk1) | (leave1; try dsimp only)))
    (k_dflt (refine' con_use ?kNz8 (is_char (g4.asc hA)) ?kBz8 ?kFz8 ?kXz8 ?kTz8 ?kKz8 ?kDz8 ?kUz8 ?kOkz8 ?kErrz8; (case kNz8 => k_asm); (case kBz8 => k_asm); (case kFz8 => k_asm); (case kXz8 => k_asm); (case kTz8 => k_asm); (case kKz8 => first | exact rfl | assumption); (case kDz8 => first | exact room0 (by assumption) | exact room1 (by assumption) rfl | exact room2 (by assumption) rfl | exact room3 (by assumption) rfl | exact roomA (by assumption) rfl | exact roomS (by assumption) rfl | exact roomM (by assumption) rfl | exact roomB (by assumption) rfl); (case kUz8 => first | exact room0 (by assumption) | exact room1 (by assumption) rfl | exact room2 (by assumption) rfl | exact room3 (by assumption) rfl | exact roomA (by assumption) rfl | exact roomS (by assumption) rfl | exact roomM (by assumption) rfl | exact roomB (by assumption) rfl)))
    case kErrz8 => intro hf; exact hf.elim
    intro r1 news1 hh1 tk1 F1 N1 K1 P1
    subst P1
    have S2 := S9.kp K1 (fun q => nomatch q)
    have f1 := K1 _ g1 (fun q => nomatch q)
    have f2 := K1 _ g2 (fun q => nomatch q)
    cases hb : isNC c
    · obtain ⟨e1, e2, e3⟩ := h3.tok (p := isNC) g3 hk9 (by rw [er]; exact hb)
      rw [e2] at S2
      have K2 : Kp [d] news news1 := K9.trans (K1.mono fun _ q => nomatch q)
      repeat' (first | ((with_reducible show wpAny _ _ (exec _ _) _ _ _); k_fold) | ((fail_if_success (with_reducible refine stop_of Stop1 (by constructor) ?_)); first | (k_unfold; (try dsimp only)) | (k_end; wrow_close) | walk1 | (dsimp only; walk1) | (leave1; try dsimp only)))
      · refine Raise_split ?_
        repeat' (first | ((with_reducible show wpAny _ _ (exec _ _) _ _ _); k_fold) | ((fail_if_success (with_reducible refine stop_of Stop1 (by constructor) ?_)); first | (k_unfold; (try dsimp only)) | (k_end; wrow_close) | walk1 | (dsimp only; walk1) | (leave1; try dsimp only)))
        (k_dflt (refine' con_use ?kNz9 (fault S2) ?kBz9 ?kFz9 ?kXz9 ?kTz9 ?kKz9 ?kDz9 ?kUz9 ?kOkz9 ?kErrz9; (case kNz9 => k_asm); (case kBz9 => k_asm); (case kFz9 => k_asm); (case kXz9 => k_asm); (case kTz9 => k_asm); (case kKz9 => first | exact rfl | assumption); (case kDz9 => first | exact room0 (by assumption) | exact room1 (by assumption) rfl | exact room2 (by assumption) rfl | exact room3 (by assumption) rfl | exact roomA (by assumption) rfl | exact roomS (by assumption) rfl | exact roomM (by assumption) rfl | exact roomB (by assumption) rfl); (case kUz9 => first | exact room0 (by assumption) | exact room1 (by assumption) rfl | exact room2 (by assumption) rfl | exact room3 (by assumption) rfl | exact roomA (by assumption) rfl | exact roomS (by assumption) rfl | exact roomM (by assumption) rfl | exact roomB (by assumption) rfl)))
        case kErrz9 => intro hf; exact hf.elim
        intro r5 news5 hh5 tk5 F5 N5 K5 P5
        refine fold_goal ?_; intro G9 k9; obtain ⟨xe, dn, te, vs, rfl, he, ht, hf⟩ := P5; refine k9 ?_; clear k9 G9
        refine raiseTail_exc (Frag.In.keeps X' F5.keep) (N5.get he) rfl ?_
        (repeat (k_unfold; try dsimp only))
        refine leave_inst (kept := news1) (by assumption) he ht F5 N5 (fun p hp => ⟨K5.of_nil p hp, hf p hp⟩) (fun h' R U => ?_)
        exact herr (e1.mp (by assumption)) _ _ _ _ _ _ _ FG' U R K2
      · exact hret _ _ _ _ (by assumption) (by assumption) K2 ⟨⟨_, by rw [e3]⟩, fun q => by have := e1.mpr q; contradiction, S2⟩
    · have k2 := off_kp N1 f1 rfl
      have f3 := k2 _ f2 fun _ => rfl
      have N2 := news_front N1 f1
      repeat' (first | ((with_reducible show wpAny _ _ (exec _ _) _ _ _); k_fold) | ((fail_if_success (with_reducible refine stop_of Stop1 (by constructor) ?_)); first | (k_unfold; (try dsimp only)) | (k_end; wrow_close) | walk1 | (dsimp only; walk1) | (leave1; try dsimp only)))
      have hlt : k < r.length := by
        have := congrArg List.length er
        simp at this; omega
      have hk10 : k + 1 ≤ (r.takeWhile isNC).length := tw_more hk9 (by rw [er]; exact hb)
      exact WStep.next (by assumption) (by assumption) (by show r.length - (k + 1) < r.length - k; omega) ⟨rfl, k + 1, rfl, hk10, ⟨.tail _ f3, _, _, _, _, _, .head _, by
        have := g4.next
        rw [show r.drop (k + 1) = r9 from by rw [← List.drop_drop, er]; rfl]
        exact this⟩, K9.trans ((K1.mono fun _ q => nomatch q).trans k2.cons)⟩
  · have er := g3.nlt (by assumption)
    obtain ⟨e1, e2, e3⟩ := h3.tok (p := isNC) g3 hk9 (by rw [er]; rfl)
    have news1 := n1
    have S2 := S9
    rw [e2] at S2
    have K2 := K9
    refine Raise_split ?_
    repeat' (first | ((with_reducible show wpAny _ _ (exec _ _) _ _ _); k_fold) | ((fail_if_success (with_reducible refine stop_of Stop1 (by constructor) ?_)); first | (k_unfold; (try dsimp only)) | (k_end; wrow_close) | walk1 | (dsimp only; walk1) | (leave1; try dsimp only)))
    (k_dflt (refine' con_use ?kNz10 (fault S2) ?kBz10 ?kFz10 ?kXz10 ?kTz10 ?kKz10 ?kDz10 ?kUz10 ?kOkz10 ?kErrz10; (case kNz10 => k_asm); (case kBz10 => k_asm); (case kFz10 => k_asm); (case kXz10 => k_asm); (case kTz10 => k_asm); (case kKz10 => first | exact rfl | assumption); (case kDz10 => first | exact room0 (by assumption) | exact room1 (by assumption) rfl | exact room2 (by assumption) rfl | exact room3 (by assumption) rfl | exact roomA (by assumption) rfl | exact roomS (by assumption) rfl | exact roomM (by assumption) rfl | exact roomB (by assumption) rfl); (case kUz10 => first | exact room0 (by assumption) | exact room1 (by assumption) rfl | exact room2 (by assumption) rfl | exact room3 (by assumption) rfl | exact roomA (by assumption) rfl | exact roomS (by assumption) rfl | exact roomM (by assumption) rfl | exact roomB (by assumption) rfl)))
    case kErrz10 => intro hf; exact hf.elim
    intro r5 news5 hh5 tk5 F5 N5 K5 P5
    refine fold_goal ?_; intro G9 k9; obtain ⟨xe, dn, te, vs, rfl, he, ht, hf⟩ := P5; refine k9 ?_; clear k9 G9
    refine raiseTail_exc (Frag.In.keeps X' F5.keep) (N5.get he) rfl ?_
    (repeat (k_unfold; try dsimp only))
    refine leave_inst (kept := n1) (by assumption) he ht F5 N5 (fun p hp => ⟨K5.of_nil p hp, hf p hp⟩) (fun h' R U => ?_)
    exact herr (e1.mp (by assumption)) _ _ _ _ _ _ _ FG' U R K2
  · have er := g3.nlt (by assumption)
    obtain ⟨e1, e2, e3⟩ := h3.tok (p := isNC) g3 hk9 (by rw [er]; rfl)
    have S2 := S9
    rw [e2] at S2
    exact hret _ _ _ _ (by assumption) (by assumption) K9 ⟨⟨_, by rw [e3]⟩, fun q => by have := e1.mpr q; contradiction, S2⟩
theorem name {w : World} {T : Str} {r : List Nat} {x d : Addr} {news : Led} (hT : T.length ≤ 1000000) (hA : Asc T) (S : Sc w T x d r news) :
    Con w 197 [.ref x] 80 500 news [d] (fun v n' => (∃ t, v = .str ⟨(r.takeWhile isNC).toArray⟩ t) ∧ headIs isNS r = true ∧ Sc w T x d (r.dropWhile isNC) n') (headIs isNS r = false) := by
  refine el_sc S ?_
  intro t1 t2 t3 t4 i h2 h1 h3
  intro mean mg mb dp un gd cn cs a ccd cl outer A₀ base h₀ L m s Q E B F X N Tp hk hd1 hu1 hret herr; refine wpAny_call ?_; k_dflt (refine' code_def (binds := [("self", .ref x)]) ?k1 ?k2 ?k3 ?k4 ?k5 ?kA ?kF ?kK ?k6 ?k7 ?k8 ?k9 ?kB ?_ ?c2 ?c3 ?c4 ?c5; (case kA => exact rfl); (case kF => exact rfl); (case kK => assumption); (case k1 => k_asm); (case k2 => k_asm); (case k3 => k_asm); (case k4 => k_asm); (case k5 => k_asm); (case k6 => k_is); (case k7 => k_is); (case k8 => first | exact room0 (by assumption) | exact room1 (by assumption) rfl | exact room2 (by assumption) rfl | exact room3 (by assumption) rfl | exact roomA (by assumption) rfl | exact roomS (by assumption) rfl | exact roomM (by assumption) rfl | exact roomB (by assumption) rfl); (case k9 => exact BindsTo.of_eq rfl); (case c5 => decide); (case kB => exact locs rfl); (case c2 => exact rfl); (case c3 => exact rfl); (case c4 => exact rfl); k_whole); intro g' L' hp FG' F' N' B' X' T'; (try dsimp only [List.reverse_cons, List.reverse_nil, List.nil_append, List.cons_append, List.length_cons, List.length_nil, Nat.zero_add] at F' ⊢); k_fold; refine fold_env ?_; intro e₁ A₁
  repeat' (first | ((with_reducible show wpAny _ _ (exec _ _) _ _ _); k_fold) | ((fail_if_success (with_reducible refine stop_of Stop1 (by constructor) ?_)); first | (k_unfold; (try dsimp only)) | (k_end; wrow_close) | walk1 | (dsimp only; walk1) | (leave1; try dsimp only)))
  (k_dflt (refine' con_use ?kNz11 (looks_name hT hA S) ?kBz11 ?kFz11 ?kXz11 ?kTz11 ?kKz11 ?kDz11 ?kUz11 ?kOkz11 ?kErrz11; (case kNz11 => k_asm); (case kBz11 => k_asm); (case kFz11 => k_asm); (case kXz11 => k_asm); (case kTz11 => k_asm); (case kKz11 => first | exact rfl | assumption); (case kDz11 => first | exact room0 (by assumption) | exact room1 (by assumption) rfl | exact room2 (by assumption) rfl | exact room3 (by assumption) rfl | exact roomA (by assumption) rfl | exact roomS (by assumption) rfl | exact roomM (by assumption) rfl | exact roomB (by assumption) rfl); (case kUz11 => first | exact room0 (by assumption) | exact room1 (by assumption) rfl | exact room2 (by assumption) rfl | exact room3 (by assumption) rfl | exact roomA (by assumption) rfl | exact roomS (by assumption) rfl | exact roomM (by assumption) rfl | exact roomB (by assumption) rfl)))
  case kErrz11 => intro hf; exact hf.elim
  intro r1 news1 hh1 tk1 F1 N1 K1 P1
  subst P1
  have S1 := S.kp K1 (fun q => nomatch q)
  have f1 := K1 _ h1 (fun q => nomatch q)
  have f2 := K1 _ h2 (fun q => nomatch q)
  have K1 : Kp [d] news news1 := K1.mono fun _ q => nomatch q
  cases hb : headIs isNS r
  · repeat' (first | ((with_reducible show wpAny _ _ (exec _ _) _ _ _); k_fold) | ((fail_if_success (with_reducible refine stop_of Stop1 (by constructor) ?_)); first | (k_unfold; (try dsimp only)) | (k_end; wrow_close) | walk1 | (dsimp only; walk1) | (leave1; try dsimp only)))
    refine Raise_split ?_
    repeat' (first | ((with_reducible show wpAny _ _ (exec _ _) _ _ _); k_fold) | ((fail_if_success (with_reducible refine stop_of Stop1 (by constructor) ?_)); first | (k_unfold; (try dsimp only)) | (k_end; wrow_close) | walk1 | (dsimp only; walk1) | (leave1; try dsimp only)))
    (k_dflt (refine' con_use ?kNz12 (fault S1) ?kBz12 ?kFz12 ?kXz12 ?kTz12 ?kKz12 ?kDz12 ?kUz12 ?kOkz12 ?kErrz12; (case kNz12 => k_asm); (case kBz12 => k_asm); (case kFz12 => k_asm); (case kXz12 => k_asm); (case kTz12 => k_asm); (case kKz12 => first | exact rfl | assumption); (case kDz12 => first | exact room0 (by assumption) | exact room1 (by assumption) rfl | exact room2 (by assumption) rfl | exact room3 (by assumption) rfl | exact roomA (by assumption) rfl | exact roomS (by assumption) rfl | exact roomM (by assumption) rfl | exact roomB (by assumption) rfl); (case kUz12 => first | exact room0 (by assumption) | exact room1 (by assumption) rfl | exact room2 (by assumption) rfl | exact room3 (by assumption) rfl | exact roomA (by assumption) rfl | exact roomS (by assumption) rfl | exact roomM (by assumption) rfl | exact roomB (by assumption) rfl)))
    case kErrz12 => intro hf; exact hf.elim
    intro r2 news2 hh2 tk2 F2 N2 K2 P2
    refine fold_goal ?_; intro G9 k9; obtain ⟨xe, dn, te, vs, rfl, he, ht, hf⟩ := P2; refine k9 ?_; clear k9 G9; refine raiseTail_exc (Frag.In.keeps X' F2.keep) (N2.get he) rfl ?_; (repeat (k_unfold; try dsimp only))
    refine leave_inst (kept := news1) (by assumption) he ht F2 N2 (fun p hp => ⟨K2.of_nil p hp, hf p hp⟩) (fun h' R U => ?_)
    exact herr hb _ _ _ _ _ _ _ FG' U R K1
  · repeat' (first | ((with_reducible show wpAny _ _ (exec _ _) _ _ _); k_fold) | ((fail_if_success (with_reducible refine stop_of Stop1 (by constructor) ?_)); first | (k_unfold; (try dsimp only)) | (k_end; wrow_close) | walk1 | (dsimp only; walk1) | (leave1; try dsimp only)))
    (k_dflt (refine' con_use ?kNz13 (token hT hA S1) ?kBz13 ?kFz13 ?kXz13 ?kTz13 ?kKz13 ?kDz13 ?kUz13 ?kOkz13 ?kErrz13; (case kNz13 => k_asm); (case kBz13 => k_asm); (case kFz13 => k_asm); (case kXz13 => k_asm); (case kTz13 => k_asm); (case kKz13 => first | exact rfl | assumption); (case kDz13 => first | exact room0 (by assumption) | exact room1 (by assumption) rfl | exact room2 (by assumption) rfl | exact room3 (by assumption) rfl | exact roomA (by assumption) rfl | exact roomS (by assumption) rfl | exact roomM (by assumption) rfl | exact roomB (by assumption) rfl); (case kUz13 => first | exact room0 (by assumption) | exact room1 (by assumption) rfl | exact room2 (by assumption) rfl | exact room3 (by assumption) rfl | exact roomA (by assumption) rfl | exact roomS (by assumption) rfl | exact roomM (by assumption) rfl | exact roomB (by assumption) rfl)))
    case kErrz13 =>
      intro e
      exfalso
      cases r with
      | nil => cases hb
      | cons c r =>
        have q : isNC c = true := by
          have : isNS c = true := hb
          unfold isNC; rw [this]; rfl
        rw [List.takeWhile_cons, if_pos q] at e
        cases e
    intro r2 news2 hh2 tk2 F2 N2 K2 P2
    refine el_tAS P2 ?_
    intro t9 hQ9 e9 S2
    subst hQ9
    repeat' (first | ((with_reducible show wpAny _ _ (exec _ _) _ _ _); k_fold) | ((fail_if_success (with_reducible refine stop_of Stop1 (by constructor) ?_)); first | (k_unfold; (try dsimp only)) | (k_end; wrow_close) | walk1 | (dsimp only; walk1) | (leave1; try dsimp only)))
    exact hret _ _ _ _ (by assumption) (by assumption) (K1.trans K2) ⟨⟨_, rfl⟩, hb, S2⟩
theorem endS {w : World} {T : Str} {r : List Nat} {x d : Addr} {news : Led} (hT : T.length ≤ 1000000) (S : Sc w T x d r news) :
    Con w 218 [.ref x] 80 500 news [d] (fun _ _ => r.dropWhile isSp = []) (r.dropWhile isSp ≠ []) := by
  refine el_sc S ?_
  intro t1 t2 t3 t4 i h2 h1 h3
  intro mean mg mb dp un gd cn cs a ccd cl outer A₀ base h₀ L m s Q E B F X N Tp hk hd1 hu1 hret herr; refine wpAny_call ?_; k_dflt (refine' code_def (binds := [("self", .ref x)]) ?k1 ?k2 ?k3 ?k4 ?k5 ?kA ?kF ?kK ?k6 ?k7 ?k8 ?k9 ?kB ?_ ?c2 ?c3 ?c4 ?c5; (case kA => exact rfl); (case kF => exact rfl); (case kK => assumption); (case k1 => k_asm); (case k2 => k_asm); (case k3 => k_asm); (case k4 => k_asm); (case k5 => k_asm); (case k6 => k_is); (case k7 => k_is); (case k8 => first | exact room0 (by assumption) | exact room1 (by assumption) rfl | exact room2 (by assumption) rfl | exact room3 (by assumption) rfl | exact roomA (by assumption) rfl | exact roomS (by assumption) rfl | exact roomM (by assumption) rfl | exact roomB (by assumption) rfl); (case k9 => exact BindsTo.of_eq rfl); (case c5 => decide); (case kB => exact locs rfl); (case c2 => exact rfl); (case c3 => exact rfl); (case c4 => exact rfl); k_whole); intro g' L' hp FG' F' N' B' X' T'; (try dsimp only [List.reverse_cons, List.reverse_nil, List.nil_append, List.cons_append, List.length_cons, List.length_nil, Nat.zero_add] at F' ⊢); k_fold; refine fold_env ?_; intro e₁ A₁
  repeat' (first | ((with_reducible show wpAny _ _ (exec _ _) _ _ _); k_fold) | ((fail_if_success (with_reducible refine stop_of Stop1 (by constructor) ?_)); first | (k_unfold; (try dsimp only)) | (k_end; wrow_close) | walk1 | (dsimp only; walk1) | (leave1; try dsimp only)))
  (k_dflt (refine' con_use ?kNz14 (spaces hT S) ?kBz14 ?kFz14 ?kXz14 ?kTz14 ?kKz14 ?kDz14 ?kUz14 ?kOkz14 ?kErrz14; (case kNz14 => k_asm); (case kBz14 => k_asm); (case kFz14 => k_asm); (case kXz14 => k_asm); (case kTz14 => k_asm); (case kKz14 => first | exact rfl | assumption); (case kDz14 => first | exact room0 (by assumption) | exact room1 (by assumption) rfl | exact room2 (by assumption) rfl | exact room3 (by assumption) rfl | exact roomA (by assumption) rfl | exact roomS (by assumption) rfl | exact roomM (by assumption) rfl | exact roomB (by assumption) rfl); (case kUz14 => first | exact room0 (by assumption) | exact room1 (by assumption) rfl | exact room2 (by assumption) rfl | exact room3 (by assumption) rfl | exact roomA (by assumption) rfl | exact roomS (by assumption) rfl | exact roomM (by assumption) rfl | exact roomB (by assumption) rfl)))
  case kErrz14 => intro hf; exact hf.elim
  intro r1 news1 hh1 tk1 F1 N1 K1 P1
  refine el_sc P1 ?_
  intro u1 u2 u3 u4 j f2 f1 f3
  repeat' (first | ((with_reducible show wpAny _ _ (exec _ _) _ _ _); k_fold) | ((fail_if_success (with_reducible refine stop_of Stop1 (by constructor) ?_)); first | (k_unfold; (try dsimp only)) | (k_end; wrow_close) | walk1 | (dsimp only; walk1) | (leave1; try dsimp only)))
  (k_dflt (refine' con_use ?kNz15 (is_over hT P1) ?kBz15 ?kFz15 ?kXz15 ?kTz15 ?kKz15 ?kDz15 ?kUz15 ?kOkz15 ?kErrz15; (case kNz15 => k_asm); (case kBz15 => k_asm); (case kFz15 => k_asm); (case kXz15 => k_asm); (case kTz15 => k_asm); (case kKz15 => first | exact rfl | assumption); (case kDz15 => first | exact room0 (by assumption) | exact room1 (by assumption) rfl | exact room2 (by assumption) rfl | exact room3 (by assumption) rfl | exact roomA (by assumption) rfl | exact roomS (by assumption) rfl | exact roomM (by assumption) rfl | exact roomB (by assumption) rfl); (case kUz15 => first | exact room0 (by assumption) | exact room1 (by assumption) rfl | exact room2 (by assumption) rfl | exact room3 (by assumption) rfl | exact roomA (by assumption) rfl | exact roomS (by assumption) rfl | exact roomM (by assumption) rfl | exact roomB (by assumption) rfl)))
  case kErrz15 => intro hf; exact hf.elim
  intro r2 news2 hh2 tk2 F2 N2 K2 P2
  subst P2
  have S2 := P1.kp K2 (fun q => nomatch q)
  have g1 := K2 _ f1 (fun q => nomatch q)
  have g2 := K2 _ f2 (fun q => nomatch q)
  have K2 : Kp [d] news news2 := K1.trans (K2.mono fun _ q => nomatch q)
  cases hb : (r.dropWhile isSp).isEmpty
  · repeat' (first | ((with_reducible show wpAny _ _ (exec _ _) _ _ _); k_fold) | ((fail_if_success (with_reducible refine stop_of Stop1 (by constructor) ?_)); first | (k_unfold; (try dsimp only)) | (k_end; wrow_close) | walk1 | (dsimp only; walk1) | (leave1; try dsimp only)))
    refine Raise_split ?_
    repeat' (first | ((with_reducible show wpAny _ _ (exec _ _) _ _ _); k_fold) | ((fail_if_success (with_reducible refine stop_of Stop1 (by constructor) ?_)); first | (k_unfold; (try dsimp only)) | (k_end; wrow_close) | walk1 | (dsimp only; walk1) | (leave1; try dsimp only)))
    (k_dflt (refine' con_use ?kNz16 (fault S2) ?kBz16 ?kFz16 ?kXz16 ?kTz16 ?kKz16 ?kDz16 ?kUz16 ?kOkz16 ?kErrz16; (case kNz16 => k_asm); (case kBz16 => k_asm); (case kFz16 => k_asm); (case kXz16 => k_asm); (case kTz16 => k_asm); (case kKz16 => first | exact rfl | assumption); (case kDz16 => first | exact room0 (by assumption) | exact room1 (by assumption) rfl | exact room2 (by assumption) rfl | exact room3 (by assumption) rfl | exact roomA (by assumption) rfl | exact roomS (by assumption) rfl | exact roomM (by assumption) rfl | exact roomB (by assumption) rfl); (case kUz16 => first | exact room0 (by assumption) | exact room1 (by assumption) rfl | exact room2 (by assumption) rfl | exact room3 (by assumption) rfl | exact roomA (by assumption) rfl | exact roomS (by assumption) rfl | exact roomM (by assumption) rfl | exact roomB (by assumption) rfl)))
    case kErrz16 => intro hf; exact hf.elim
    intro r3 news3 hh3 tk3 F3 N3 K3 P3
    refine fold_goal ?_; intro G9 k9; obtain ⟨xe, dn, te, vs, rfl, he, ht, hf⟩ := P3; refine k9 ?_; clear k9 G9; refine raiseTail_exc (Frag.In.keeps X' F3.keep) (N3.get he) rfl ?_; (repeat (k_unfold; try dsimp only))
    refine leave_inst (kept := news2) (by assumption) he ht F3 N3 (fun p hp => ⟨K3.of_nil p hp, hf p hp⟩) (fun h' R U => ?_)
    exact herr (fun e => by rw [e] at hb; cases hb) _ _ _ _ _ _ _ FG' U R K2
  · repeat' (first | ((with_reducible show wpAny _ _ (exec _ _) _ _ _); k_fold) | ((fail_if_success (with_reducible refine stop_of Stop1 (by constructor) ?_)); first | (k_unfold; (try dsimp only)) | (k_end; wrow_close) | walk1 | (dsimp only; walk1) | (leave1; try dsimp only)))
    exact hret _ _ _ _ (by assumption) (by assumption) K2 (List.isEmpty_iff.mp hb)
theorem fr_if {h₀ h : Heap} {L : Addr} {x : Str} {v : Value} {m m₁ : Str → Option Value} (hm : ∀ z, z ≠ x → m₁ z = m z) (F : Fr h₀ L h (fun y => if y = x then some v else m₁ y)) : Fr h₀ L h (fun y => if y = x then some v else m y) := by
  have : (fun y => if y = x then some v else m₁ y) = (fun y => if y = x then some v else m y) := by
    funext y
    by_cases e : y = x
    · rw [if_pos e, if_pos e]
    · rw [if_neg e, if_neg e, hm y e]
  rw [this] at F
  exact F
theorem fr_out {h₀ h : Heap} {L : Addr} {x : Str} {m m₁ : Str → Option Value} (hm : ∀ z, z ≠ x → m₁ z = m z) (F : Fr h₀ L h m₁) : Fr h₀ L h (fun y => if y = x then m₁ x else m y) := by
  have : m₁ = (fun y => if y = x then m₁ x else m y) := by
    funext y
    by_cases e : y = x
    · rw [if_pos e, e]
    · rw [if_neg e, hm y e]
  rw [this] at F
  exact F
noncomputable def mkr (r : List Nat) : List Nat × List Nat := match r with
  | c :: r' => if c == 63 || c == 42 || c == 43 then ([c], r') else ([], r)
  | [] => ([], [])
theorem K_ne {g h : Heap} {L a : Addr} {o : Obj} {m : Str → Option Value} (F : Fr g L h m) (ha : g.get? a = some o) : a ≠ L := fun e => absurd (Heap.lt_size ha) (Nat.not_lt.mpr (e ▸ F.above))
theorem KpI.sc {I : Addr} {w : World} {T : Str} {x d : Addr} {r : List Nat} {n n' : Led} (k : KpI I n n') (S : Sc w T x d r n) : Sc w T x d r n' := by
  refine el_sc S ?_
  intro t1 t2 t3 t4 i h2 h1 h3
  exact ⟨k _ h2 fun _ => rfl, t1, t2, t3, t4, i, k _ h1 fun _ => rfl, h3⟩
theorem KpI.kp {I : Addr} {M : List Addr} {a b c : Led} (k : KpI I b c) (hI : ∀ p ∈ a, p.1 ≠ I) (x : Kp M a b) : Kp M a c := fun p h i => k p (x p h i) fun e => absurd e (hI p h)
theorem headIs_iff (c : Nat) (r : List Nat) : [c].isPrefixOf r = headIs (· == c) r := by
  cases r with
  | nil => rfl
  | cons a r =>
    rw [Bool.eq_iff_iff]
    simp only [List.isPrefixOf, headIs, Bool.and_true, beq_iff_eq]
    exact eq_comm
theorem marks {i : Nat} {v : Value} {a b c : Tok} (h : [Value.str (Str.ofString "?") a, .str (Str.ofString "*") b, .str (Str.ofString "+") c][i]? = some v) : ∃ W t k, v = .str W t ∧ W.cps.toList = [k] ∧ [63, 42, 43].take (i + 1) = [63, 42, 43].take i ++ [k] ∧ (k == 63 || k == 42 || k == 43) = true := by
  match i, h with
  | 0, h => cases h; exact ⟨_, _, 63, rfl, by decide +kernel, rfl, rfl⟩
  | 1, h => cases h; exact ⟨_, _, 42, rfl, by decide +kernel, rfl, rfl⟩
  | 2, h => cases h; exact ⟨_, _, 43, rfl, by decide +kernel, rfl, rfl⟩
theorem read_mark {w : World} {T : Str} {r : List Nat} {x d : Addr} {news : Led} (S : Sc w T x d r news) :
    Con w 233 [.ref x] 80 500 news [d] (fun v n' => (∃ t, v = .str ⟨(mkr r).1.toArray⟩ t) ∧ Sc w T x d (mkr r).2 n') False := by
  refine el_sc S ?_
  intro t1 t2 t3 t4 i h2 h1 h3
  intro mean mg mb dp un gd cn cs a ccd cl outer A₀ base h₀ L m s Q E B F X N Tp hk hd1 hu1 hret herr; refine wpAny_call ?_; k_dflt (refine' code_def (binds := [("scanner", .ref x)]) ?k1 ?k2 ?k3 ?k4 ?k5 ?kA ?kF ?kK ?k6 ?k7 ?k8 ?k9 ?kB ?_ ?c2 ?c3 ?c4 ?c5; (case kA => exact rfl); (case kF => exact rfl); (case kK => assumption); (case k1 => k_asm); (case k2 => k_asm); (case k3 => k_asm); (case k4 => k_asm); (case k5 => k_asm); (case k6 => k_is); (case k7 => k_is); (case k8 => first | exact room0 (by assumption) | exact room1 (by assumption) rfl | exact room2 (by assumption) rfl | exact room3 (by assumption) rfl | exact roomA (by assumption) rfl | exact roomS (by assumption) rfl | exact roomM (by assumption) rfl | exact roomB (by assumption) rfl); (case k9 => exact BindsTo.of_eq rfl); (case c5 => decide); (case kB => exact locs rfl); (case c2 => exact rfl); (case c3 => exact rfl); (case c4 => exact rfl); k_whole); intro g' L' hp FG' F' N' B' X' T'; (try dsimp only [List.reverse_cons, List.reverse_nil, List.nil_append, List.cons_append, List.length_cons, List.length_nil, Nat.zero_add] at F' ⊢); k_fold; refine fold_env ?_; intro e₁ A₁
  repeat' (first | ((with_reducible show wpAny _ _ (exec _ _) _ _ _); k_fold) | ((fail_if_success (with_reducible refine stop_of Stop1 (by constructor) ?_)); first | (k_unfold; (try dsimp only)) | (k_end; wrow_close) | walk1 | (dsimp only; walk1) | (leave1; try dsimp only)))
  refine For_invV (h₀ := g') rfl rfl ?_
  repeat' (first | ((with_reducible show wpAny _ _ (exec _ _) _ _ _); k_fold) | ((fail_if_success (with_reducible refine stop_of Stop1 (by constructor) ?_)); first | (k_unfold; (try dsimp only)) | (k_end; wrow_close) | walk1 | (dsimp only; walk1) | (leave1; try dsimp only)))
  refine iter_tup (vs := [.str (Str.ofString "?") _, .str (Str.ofString "*") _, .str (Str.ofString "+") _]) (fun i m₁ nx => (∀ z, z ≠ Str.ofString "mark" → m₁ z = List.lookup z [(Str.ofString "scanner", Value.ref x)]) ∧ Sc w T x d r nx ∧ Kp [d] news nx ∧ ∀ c ∈ [63, 42, 43].take i, headIs (· == c) r = false) rfl (Fr.keep (by assumption) _ _ (X' _ _ (by k_dflt k_is))) rfl rfl (K_ne (by assumption) (X' _ _ (by k_dflt k_is))) (by assumption) (by assumption) ⟨fun _ _ => rfl, S, Kp.refl, fun _ q => nomatch q⟩ (by intro I hI i m n n' k J9; obtain ⟨a, b, c, d⟩ := J9; exact ⟨a, k.sc b, k.kp hI c, d⟩) ?_ ?_
  · intro j v m₁ nx own h9 tk9 hv J9 hown F9 N9; refine fold_goal ?_; intro G9 k9; obtain ⟨a1, a2, a3, a4⟩ := J9; refine k9 ?_; clear k9 G9
    replace F9 := fr_if a1 F9
    refine fold_goal ?_; intro G9 k9; obtain ⟨W, tw, k, rfl, hW, e9, hk⟩ := marks hv; refine k9 ?_; clear k9 G9
    refine el_sc a2 ?_
    intro u1 u2 u3 u4 j2 g2 g1 g3
    repeat' (first | ((with_reducible show wpAny _ _ (exec _ _) _ _ _); k_fold) | ((fail_if_success (with_reducible refine stop_of Stop1 (by constructor) ?_)); first | (k_unfold; (try dsimp only)) | (k_end; wrow_close) | walk1 | (dsimp only; walk1) | (leave1; try dsimp only)))
    (k_dflt (refine' con_use ?kNz17 (takes hW (by show 1 ≤ 1000; decide) a2) ?kBz17 ?kFz17 ?kXz17 ?kTz17 ?kKz17 ?kDz17 ?kUz17 ?kOkz17 ?kErrz17; (case kNz17 => k_asm); (case kBz17 => k_asm); (case kFz17 => k_asm); (case kXz17 => k_asm); (case kTz17 => k_asm); (case kKz17 => first | exact rfl | assumption); (case kDz17 => first | exact room0 (by assumption) | exact room1 (by assumption) rfl | exact room2 (by assumption) rfl | exact room3 (by assumption) rfl | exact roomA (by assumption) rfl | exact roomS (by assumption) rfl | exact roomM (by assumption) rfl | exact roomB (by assumption) rfl); (case kUz17 => first | exact room0 (by assumption) | exact room1 (by assumption) rfl | exact room2 (by assumption) rfl | exact room3 (by assumption) rfl | exact roomA (by assumption) rfl | exact roomS (by assumption) rfl | exact roomM (by assumption) rfl | exact roomB (by assumption) rfl)))
    case kErrz17 => intro hf; exact hf.elim
    intro r1 news1 hh1 tk1 F1 N1 K1 P1
    have hQ9 := P1.1
    have S1 := P1.2
    subst hQ9
    rw [headIs_iff]
    have hk9 : [k].isPrefixOf r = headIs (· == k) r := headIs_iff k r
    cases hb : headIs (· == k) r
    · unfold tkr at S1
      rw [if_neg (by rw [hk9, hb]; decide)] at S1
      repeat' (first | ((with_reducible show wpAny _ _ (exec _ _) _ _ _); k_fold) | ((fail_if_success (with_reducible refine stop_of Stop1 (by constructor) ?_)); first | (k_unfold; (try dsimp only)) | (k_end; wrow_close) | walk1 | (dsimp only; walk1) | (leave1; try dsimp only)))
      exact FStep.next (by assumption) (by assumption) (own_keep N9 hown K1 fun d hd => by rw [List.mem_singleton.mp hd]; exact ⟨_, g1, rfl⟩) ⟨fun z hz => by rw [if_neg hz], S1, a3.trans K1, fun c hc => by
        rw [e9] at hc
        rcases List.mem_append.mp hc with hc | hc
        · exact a4 c hc
        · rw [List.mem_singleton.mp hc]; exact hb⟩
    · unfold tkr at S1
      rw [if_pos (by rw [hk9, hb])] at S1
      repeat' (first | ((with_reducible show wpAny _ _ (exec _ _) _ _ _); k_fold) | ((fail_if_success (with_reducible refine stop_of Stop1 (by constructor) ?_)); first | (k_unfold; (try dsimp only)) | (k_end; wrow_close) | walk1 | (dsimp only; walk1) | (leave1; try dsimp only)))
      dsimp only [FStep]
      repeat' (first | ((with_reducible show wpAny _ _ (exec _ _) _ _ _); k_fold) | ((fail_if_success (with_reducible refine stop_of Stop1 (by constructor) ?_)); first | (k_unfold; (try dsimp only)) | (k_end; wrow_close) | walk1 | (dsimp only; walk1) | (leave1; try dsimp only)))
      have e8 : mkr r = ([k], r.drop 1) := by
        cases r with
        | nil => cases hb
        | cons c r =>
          have : c = k := by simpa [headIs] using hb
          subst this
          simp only [mkr]; rw [if_pos hk]; rfl
      exact hret _ _ _ _ (by assumption) (by assumption) (a3.trans K1) ⟨⟨_, by rw [e8, ← hW]⟩, by rw [e8]; exact S1⟩
  · intro m₁ nx h9 tk9 J9 F9 N9; refine fold_goal ?_; intro G9 k9; obtain ⟨a1, a2, a3, a4⟩ := J9; refine k9 ?_; clear k9 G9
    replace F9 := fr_out a1 F9
    repeat' (first | ((with_reducible show wpAny _ _ (exec _ _) _ _ _); k_fold) | ((fail_if_success (with_reducible refine stop_of Stop1 (by constructor) ?_)); first | (k_unfold; (try dsimp only)) | (k_end; wrow_close) | walk1 | (dsimp only; walk1) | (leave1; try dsimp only)))
    have e8 : mkr r = ([], r) := by
      cases r with
      | nil => rfl
      | cons c r =>
        have b1 := a4 63 (by simp)
        have b2 := a4 42 (by simp)
        have b3 := a4 43 (by simp)
        simp only [headIs] at b1 b2 b3
        simp only [mkr]; rw [if_neg (by rw [b1, b2, b3]; decide)]
    exact hret _ _ _ _ (by assumption) (by assumption) a3 ⟨⟨_, by rw [e8]; rfl⟩, by rw [e8]; exact a2⟩
mutual
/-- a datum of strs and tuples that the ledger bears -/
inductive TIn (news : Led) : Value → Dat → Prop
  | str (x : Str) (t : Tok) : TIn news (Value.str x t) (Dat.str x)
  | tup {a : Addr} {vs : List Value} {n : Nat} {ds : List Dat} : (a, ({ cls := .type "tuple", data := .seq vs.toArray n } : Obj)) ∈ news → TAll news vs ds → TIn news (Value.ref a) (Dat.tuple ds)
inductive TAll (news : Led) : List Value → List Dat → Prop
  | nil : TAll news [] []
  | cons {v : Value} {vs : List Value} {d : Dat} {ds : List Dat} : TIn news v d → TAll news vs ds → TAll news (v :: vs) (d :: ds)
end
mutual
theorem TIn.imm {news news' : Led} (hs : ∀ p ∈ news, imm p.2 = true → p ∈ news') : ∀ {v : Value} {d : Dat}, TIn news v d → TIn news' v d
  | _, _, .str x t => .str x t
  | _, _, .tup h r => .tup (hs _ h rfl) (TAll.imm hs r)
theorem TAll.imm {news news' : Led} (hs : ∀ p ∈ news, imm p.2 = true → p ∈ news') : ∀ {vs : List Value} {ds : List Dat}, TAll news vs ds → TAll news' vs ds
  | _, _, .nil => .nil
  | _, _, .cons h r => .cons (TIn.imm hs h) (TAll.imm hs r)
end
mutual
theorem TIn.dat {news : Led} : ∀ {v : Value} {d : Dat}, TIn news v d → DatIn news v d
  | _, _, .str x t => .str x t
  | _, _, .tup h r => .tuple h (TAll.dat r)
theorem TAll.dat {news : Led} : ∀ {vs : List Value} {ds : List Dat}, TAll news vs ds → DatAll news vs ds
  | _, _, .nil => .nil
  | _, _, .cons h r => .cons (TIn.dat h) (TAll.dat r)
end
theorem Kp.imm {M : List Addr} {a b : Led} (k : Kp M a b) : ∀ p ∈ a, imm p.2 = true → p ∈ b := fun p h i => k p h fun _ => i
theorem TAll.snoc {news : Led} {v : Value} {d : Dat} : ∀ {vs : List Value} {ds : List Dat}, TAll news vs ds → TIn news v d → TAll news (vs ++ [v]) (ds ++ [d])
  | _, _, .nil, h => .cons h .nil
  | _, _, .cons h r, k => .cons h (r.snoc k)
theorem TAll.len {news : Led} : ∀ {vs : List Value} {ds : List Dat}, TAll news vs ds → vs.length = ds.length
  | _, _, .nil => rfl
  | _, _, .cons _ r => by rw [List.length_cons, List.length_cons, r.len]
noncomputable abbrev gD (w : World) (t1 t2 t3 t4 t5 : Tok) (pc : Int) (pl : Addr) (sg : Str) : Obj :=
  dictOf [⟨PyData.keyHash w.params (Str.ofString "place"), .str (Str.ofString "place") t1, .int pc t2⟩, ⟨PyData.keyHash w.params (Str.ofString "particles"), .str (Str.ofString "particles") t3, .ref pl⟩, ⟨PyData.keyHash w.params (Str.ofString "sign"), .str (Str.ofString "sign") t4, .str sg t5⟩] 3
/-- a group at g: its dict at gd, its list at pl -/
noncomputable def GrD (w : World) (g gd pl : Addr) (sg : Str) (n : Led) : Prop := (g, instObj 264 gd) ∈ n ∧ ∃ t1 t2 t3 t4 t5 pc, (gd, gD w t1 t2 t3 t4 t5 pc pl sg) ∈ n
noncomputable def GrL (pl : Addr) (ds : List Dat) (n : Led) : Prop := ∃ vs nn, (pl, listOf vs.toArray nn) ∈ n ∧ TAll n vs ds
theorem adr_ne2 {h₀ h : Heap} {L a b : Addr} {news : Led} {o o' : Obj} (N : News h₀ L h news) (x : (a, o) ∈ news) (y : (b, o') ∈ news) (e : o ≠ o') : a ≠ b := fun q => by
  subst q
  exact e (news_same N x y)
theorem tup_of {prog : Program} {w : World} {A : Around} {E : Value → Shared → Prop} {s : Shared} {h₀ : Heap} {L l : Addr} {m : Str → Option Value} {news : Led} {vs : List Value} {nn : Nat} {Q : Value → Shared → Prop} (F : Fr h₀ L s.heap m) (N : News h₀ L s.heap news) (hl : (l, listOf vs.toArray nn) ∈ news) (hz : vs.length ≤ 1000000)
    (h : ∀ D h', Fr h₀ L h' m → News h₀ L h' ((D, ({ cls := .type "tuple", data := .seq vs.toArray } : Obj)) :: news) → (∀ p ∈ news, p.1 < D) → Q (.ref D) { s with heap := h' }) : wpAny (model prog w) A (call (.type "tuple") [.ref l]) Q E s := by
  refine call_tuple_list ⟨_, N.get hl, rfl, nn, rfl⟩ (fun h' hk => ?_) (by rw [List.size_toArray, sizeLine_eq]; (first | lia | omega))
  have F' : Fr h₀ L h' m := F.keeps hk
  have N' : News h₀ L h' news := fun p hp => ⟨hk _ _ (N p hp).1, (N p hp).2⟩
  exact h _ _ (F'.push _) (N'.push F' _) fun p hp => Heap.lt_size (N' p hp).1
theorem set_sign {w : World} {T sg S : Str} {r : List Nat} {tw : Tok} {x d g q pl : Addr} {news : Led} (Z : Sc w T x d r news) (G : GrD w g q pl sg news) :
    Con w 254 [.ref g, .ref x, .str S tw] 50 300 news [q] (fun _ n' => (sg = Str.ofString "" ∨ sg = S) ∧ GrD w g q pl S n') (sg ≠ Str.ofString "" ∧ sg ≠ S) := by
  refine el_sc Z ?_
  intro t1 t2 t3 t4 i h2 h1 h3
  refine fold_goal ?_; intro G9 k9; obtain ⟨g2, u1, u2, u3, u4, u5, pc, g1⟩ := id G; refine k9 ?_; clear k9 G9
  intro mean mg mb dp un gd cn cs a ccd cl outer A₀ base h₀ L m s Q E B F X N Tp hk hd1 hu1 hret herr; refine wpAny_call ?_; k_dflt (refine' code_def (binds := [("self", .ref g), ("scanner", .ref x), ("sign", .str S tw)]) ?k1 ?k2 ?k3 ?k4 ?k5 ?kA ?kF ?kK ?k6 ?k7 ?k8 ?k9 ?kB ?_ ?c2 ?c3 ?c4 ?c5; (case kA => exact rfl); (case kF => exact rfl); (case kK => assumption); (case k1 => k_asm); (case k2 => k_asm); (case k3 => k_asm); (case k4 => k_asm); (case k5 => k_asm); (case k6 => k_is); (case k7 => k_is); (case k8 => first | exact room0 (by assumption) | exact room1 (by assumption) rfl | exact room2 (by assumption) rfl | exact room3 (by assumption) rfl | exact roomA (by assumption) rfl | exact roomS (by assumption) rfl | exact roomM (by assumption) rfl | exact roomB (by assumption) rfl); (case k9 => exact BindsTo.of_eq rfl); (case c5 => decide); (case kB => exact locs rfl); (case c2 => exact rfl); (case c3 => exact rfl); (case c4 => exact rfl); k_whole); intro g' L' hp FG' F' N' B' X' T'; (try dsimp only [List.reverse_cons, List.reverse_nil, List.nil_append, List.cons_append, List.length_cons, List.length_nil, Nat.zero_add] at F' ⊢); k_fold; refine fold_env ?_; intro e₁ A₁
  have N0 := news_front N' g1
  have k0 := off_kp N' g1 rfl
  have f2 := k0 _ g2 fun _ => rfl
  repeat' (first | ((with_reducible show wpAny _ _ (exec _ _) _ _ _); k_fold) | ((fail_if_success (with_reducible refine stop_of Stop1 (by constructor) ?_)); first | (k_unfold; (try dsimp only)) | (k_end; wrow_close) | walk1 | (dsimp only; walk1) | (leave1; try dsimp only)))
  · have a : (sg == Str.ofString "") = true := by assumption
    exact hret _ _ _ _ (by assumption) (by assumption) k0.cons ⟨.inl (by simpa using a), .tail _ f2, _, _, _, _, _, _, .head _⟩
  · have a : (sg == Str.ofString "") = false := by assumption
    have b : (sg != S) = true := by assumption
    refine Raise_split ?_
    clear N0
    repeat' (first | ((with_reducible show wpAny _ _ (exec _ _) _ _ _); k_fold) | ((fail_if_success (with_reducible refine stop_of Stop1 (by constructor) ?_)); first | (k_unfold; (try dsimp only)) | (k_end; wrow_close) | walk1 | (dsimp only; walk1) | (leave1; try dsimp only)))
    (k_dflt (refine' con_use ?kNz18 (fault Z) ?kBz18 ?kFz18 ?kXz18 ?kTz18 ?kKz18 ?kDz18 ?kUz18 ?kOkz18 ?kErrz18; (case kNz18 => k_asm); (case kBz18 => k_asm); (case kFz18 => k_asm); (case kXz18 => k_asm); (case kTz18 => k_asm); (case kKz18 => first | exact rfl | assumption); (case kDz18 => first | exact room0 (by assumption) | exact room1 (by assumption) rfl | exact room2 (by assumption) rfl | exact room3 (by assumption) rfl | exact roomA (by assumption) rfl | exact roomS (by assumption) rfl | exact roomM (by assumption) rfl | exact roomB (by assumption) rfl); (case kUz18 => first | exact room0 (by assumption) | exact room1 (by assumption) rfl | exact room2 (by assumption) rfl | exact room3 (by assumption) rfl | exact roomA (by assumption) rfl | exact roomS (by assumption) rfl | exact roomM (by assumption) rfl | exact roomB (by assumption) rfl)))
    case kErrz18 => intro hf; exact hf.elim
    intro r3 news3 hh3 tk3 F3 N3 K3 P3
    refine fold_goal ?_; intro G9 k9; obtain ⟨xe, dn, te, vs, rfl, he, ht, hf⟩ := P3; refine k9 ?_; clear k9 G9; refine raiseTail_exc (Frag.In.keeps X' F3.keep) (N3.get he) rfl ?_; (repeat (k_unfold; try dsimp only))
    refine leave_inst (kept := news) (by assumption) he ht F3 N3 (fun p hp => ⟨K3.of_nil p hp, hf p hp⟩) (fun h' R U => ?_)
    exact herr ⟨by simpa using a, by simpa using b⟩ _ _ _ _ _ _ _ FG' U R Kp.refl
  · have b : (sg != S) = false := by assumption
    have e : sg = S := by simpa using b
    exact hret _ _ _ _ (by assumption) (by assumption) k0.cons ⟨.inr e, .tail _ f2, _, _, _, _, _, _, by rw [← e]; exact .head _⟩
theorem particle {w : World} {sg S : Str} {ds : List Dat} {tw : Tok} {g q pl : Addr} {news : Led} (G : GrD w g q pl sg news) (Z : GrL pl ds news) (hz : ds.length ≤ 1000000) :
    Con w 261 [.ref g, .str S tw] 50 300 news [] (fun v n' => TIn n' v (.tuple [.str (if sg = Str.ofString "|" then Str.ofString "choice" else Str.ofString "seq"), .tuple ds, .str S])) False := by
  refine fold_goal ?_; intro G9 k9; obtain ⟨g2, u1, u2, u3, u4, u5, pc, g1⟩ := id G; refine k9 ?_; clear k9 G9
  refine fold_goal ?_; intro G9 k9; obtain ⟨vs, nn, l1, l2⟩ := id Z; refine k9 ?_; clear k9 G9
  intro mean mg mb dp un gd cn cs a ccd cl outer A₀ base h₀ L m s Q E B F X N Tp hk hd1 hu1 hret herr; refine wpAny_call ?_; k_dflt (refine' code_def (binds := [("self", .ref g), ("mark", .str S tw)]) ?k1 ?k2 ?k3 ?k4 ?k5 ?kA ?kF ?kK ?k6 ?k7 ?k8 ?k9 ?kB ?_ ?c2 ?c3 ?c4 ?c5; (case kA => exact rfl); (case kF => exact rfl); (case kK => assumption); (case k1 => k_asm); (case k2 => k_asm); (case k3 => k_asm); (case k4 => k_asm); (case k5 => k_asm); (case k6 => k_is); (case k7 => k_is); (case k8 => first | exact room0 (by assumption) | exact room1 (by assumption) rfl | exact room2 (by assumption) rfl | exact room3 (by assumption) rfl | exact roomA (by assumption) rfl | exact roomS (by assumption) rfl | exact roomM (by assumption) rfl | exact roomB (by assumption) rfl); (case k9 => exact BindsTo.of_eq rfl); (case c5 => decide); (case kB => exact locs rfl); (case c2 => exact rfl); (case c3 => exact rfl); (case c4 => exact rfl); k_whole); intro g' L' hp FG' F' N' B' X' T'; (try dsimp only [List.reverse_cons, List.reverse_nil, List.nil_append, List.cons_append, List.length_cons, List.length_nil, Nat.zero_add] at F' ⊢); k_fold; refine fold_env ?_; intro e₁ A₁
  repeat' (first | ((with_reducible show wpAny _ _ (exec _ _) _ _ _); k_fold) | ((fail_if_success (with_reducible refine stop_of Stop1 (by constructor) ?_)); first | (k_unfold; (try dsimp only)) | (k_end; wrow_close) | walk1 | (dsimp only; walk1) | (leave1; try dsimp only)))
  · have a : (sg == Str.ofString "|") = true := by assumption
    refine tup_of (by assumption) (by assumption) l1 (by rw [l2.len]; exact hz) ?_
    intro D h9 F9 N9 m9
    repeat' (first | ((with_reducible show wpAny _ _ (exec _ _) _ _ _); k_fold) | ((fail_if_success (with_reducible refine stop_of Stop1 (by constructor) ?_)); first | (k_unfold; (try dsimp only)) | (k_end; wrow_close) | walk1 | (dsimp only; walk1) | (leave1; try dsimp only)))
    refine hret _ _ _ _ (by assumption) (by assumption) (Kp.sub fun p hp => .tail _ (.tail _ hp)) ?_
    rw [if_pos (by simpa using a)]
    exact .tup (.head _) (.cons (.str _ _) (.cons (.tup (.tail _ (.head _)) (l2.imm fun p hp _ => .tail _ (.tail _ hp))) (.cons (.str _ _) .nil)))
  · have a : (sg == Str.ofString "|") = false := by assumption
    refine tup_of (by assumption) (by assumption) l1 (by rw [l2.len]; exact hz) ?_
    intro D h9 F9 N9 m9
    repeat' (first | ((with_reducible show wpAny _ _ (exec _ _) _ _ _); k_fold) | ((fail_if_success (with_reducible refine stop_of Stop1 (by constructor) ?_)); first | (k_unfold; (try dsimp only)) | (k_end; wrow_close) | walk1 | (dsimp only; walk1) | (leave1; try dsimp only)))
    refine hret _ _ _ _ (by assumption) (by assumption) (Kp.sub fun p hp => .tail _ (.tail _ hp)) ?_
    rw [if_neg (by simpa using a)]
    exact .tup (.head _) (.cons (.str _ _) (.cons (.tup (.tail _ (.head _)) (l2.imm fun p hp _ => .tail _ (.tail _ hp))) (.cons (.str _ _) .nil)))
noncomputable def goesR (sg : Str) (r : List Nat) : Option (Bool × List Nat × Str) := match r with
  | c :: r2 => if c == 44 || c == 124 then (if sg = Str.ofString "" ∨ sg = one c then some (true, r2, one c) else none) else if c == 41 then some (false, r2, sg) else none
  | [] => none
theorem imm_noIt {o : Obj} (h : imm o = true) : isIt o = false := by
  refine fold_goal ?_; intro G9 k9; obtain ⟨c, d, da, sl⟩ := o; refine k9 ?_; clear k9 G9
  unfold imm at h
  dsimp only at h
  split at h
  · split at h
    · rfl
    · cases h
  · have e : c = .type "tuple" := by simpa using h
    subst e
    rfl
  · cases h
theorem KpI.imm {I : Addr} {n n' : Led} (k : KpI I n n') : ∀ p ∈ n, imm p.2 = true → p ∈ n' := fun p h i => k p h fun _ => imm_noIt i
theorem KpI.grd {I : Addr} {w : World} {g q pl : Addr} {sg : Str} {n n' : Led} (k : KpI I n n') (G : GrD w g q pl sg n) : GrD w g q pl sg n' := by
  refine fold_goal ?_; intro G9 k9; obtain ⟨g2, u1, u2, u3, u4, u5, pc, g1⟩ := G; refine k9 ?_; clear k9 G9
  exact ⟨k _ g2 fun _ => rfl, u1, u2, u3, u4, u5, pc, k _ g1 fun _ => rfl⟩
theorem GrD.kp {w : World} {g q pl : Addr} {sg : Str} {M : List Addr} {n n' : Led} (h : GrD w g q pl sg n) (k : Kp M n n') (hd : q ∉ M) : GrD w g q pl sg n' := by
  refine fold_goal ?_; intro G9 k9; obtain ⟨g2, u1, u2, u3, u4, u5, pc, g1⟩ := h; refine k9 ?_; clear k9 G9
  exact ⟨k _ g2 fun _ => rfl, u1, u2, u3, u4, u5, pc, k _ g1 fun e => absurd e hd⟩
theorem seps {i : Nat} {v : Value} {a b : Tok} (h : [Value.str (Str.ofString ",") a, .str (Str.ofString "|") b][i]? = some v) : ∃ W t k, v = .str W t ∧ W.cps.toList = [k] ∧ W = one k ∧ [44, 124].take (i + 1) = [44, 124].take i ++ [k] ∧ (k == 44 || k == 124) = true := by
  match i, h with
  | 0, h => cases h; exact ⟨_, _, 44, rfl, by decide +kernel, by decide +kernel, rfl, rfl⟩
  | 1, h => cases h; exact ⟨_, _, 124, rfl, by decide +kernel, by decide +kernel, rfl, rfl⟩
theorem goes_on {w : World} {T sg : Str} {r : List Nat} {x d g q pl : Addr} {news : Led} (hT : T.length ≤ 1000000) (hdq : d ≠ q) (Z : Sc w T x d r news) (G : GrD w g q pl sg news) :
    Con w 282 [.ref x, .ref g] 100 600 news [d, q] (fun v n' => ∃ b r2 sg', goesR sg (r.dropWhile isSp) = some (b, r2, sg') ∧ v = .bool b ∧ Sc w T x d r2 n' ∧ GrD w g q pl sg' n') (goesR sg (r.dropWhile isSp) = none) := by
  refine el_sc Z ?_
  intro t1 t2 t3 t4 i h2 h1 h3
  intro mean mg mb dp un gd cn cs a ccd cl outer A₀ base h₀ L m s Q E B F X N Tp hk hd1 hu1 hret herr; refine wpAny_call ?_; k_dflt (refine' code_def (binds := [("scanner", .ref x), ("group", .ref g)]) ?k1 ?k2 ?k3 ?k4 ?k5 ?kA ?kF ?kK ?k6 ?k7 ?k8 ?k9 ?kB ?_ ?c2 ?c3 ?c4 ?c5; (case kA => exact rfl); (case kF => exact rfl); (case kK => assumption); (case k1 => k_asm); (case k2 => k_asm); (case k3 => k_asm); (case k4 => k_asm); (case k5 => k_asm); (case k6 => k_is); (case k7 => k_is); (case k8 => first | exact room0 (by assumption) | exact room1 (by assumption) rfl | exact room2 (by assumption) rfl | exact room3 (by assumption) rfl | exact roomA (by assumption) rfl | exact roomS (by assumption) rfl | exact roomM (by assumption) rfl | exact roomB (by assumption) rfl); (case k9 => exact BindsTo.of_eq rfl); (case c5 => decide); (case kB => exact locs rfl); (case c2 => exact rfl); (case c3 => exact rfl); (case c4 => exact rfl); k_whole); intro g' L' hp FG' F' N' B' X' T'; (try dsimp only [List.reverse_cons, List.reverse_nil, List.nil_append, List.cons_append, List.length_cons, List.length_nil, Nat.zero_add] at F' ⊢); k_fold; refine fold_env ?_; intro e₁ A₁
  repeat' (first | ((with_reducible show wpAny _ _ (exec _ _) _ _ _); k_fold) | ((fail_if_success (with_reducible refine stop_of Stop1 (by constructor) ?_)); first | (k_unfold; (try dsimp only)) | (k_end; wrow_close) | walk1 | (dsimp only; walk1) | (leave1; try dsimp only)))
  (k_dflt (refine' con_use ?kNz19 (spaces hT Z) ?kBz19 ?kFz19 ?kXz19 ?kTz19 ?kKz19 ?kDz19 ?kUz19 ?kOkz19 ?kErrz19; (case kNz19 => k_asm); (case kBz19 => k_asm); (case kFz19 => k_asm); (case kXz19 => k_asm); (case kTz19 => k_asm); (case kKz19 => first | exact rfl | assumption); (case kDz19 => first | exact room0 (by assumption) | exact room1 (by assumption) rfl | exact room2 (by assumption) rfl | exact room3 (by assumption) rfl | exact roomA (by assumption) rfl | exact roomS (by assumption) rfl | exact roomM (by assumption) rfl | exact roomB (by assumption) rfl); (case kUz19 => first | exact room0 (by assumption) | exact room1 (by assumption) rfl | exact room2 (by assumption) rfl | exact room3 (by assumption) rfl | exact roomA (by assumption) rfl | exact roomS (by assumption) rfl | exact roomM (by assumption) rfl | exact roomB (by assumption) rfl)))
  case kErrz19 => intro hf; exact hf.elim
  intro r1 news1 hh1 tk1 F1 N1 K1 P1
  repeat' (first | ((with_reducible show wpAny _ _ (exec _ _) _ _ _); k_fold) | ((fail_if_success (with_reducible refine stop_of Stop1 (by constructor) ?_)); first | (k_unfold; (try dsimp only)) | (k_end; wrow_close) | walk1 | (dsimp only; walk1) | (leave1; try dsimp only)))
  refine For_invV (h₀ := g') rfl rfl ?_
  repeat' (first | ((with_reducible show wpAny _ _ (exec _ _) _ _ _); k_fold) | ((fail_if_success (with_reducible refine stop_of Stop1 (by constructor) ?_)); first | (k_unfold; (try dsimp only)) | (k_end; wrow_close) | walk1 | (dsimp only; walk1) | (leave1; try dsimp only)))
  have g1 := G.kp K1 (fun e => hdq (List.mem_singleton.mp e).symm)
  rename News _ _ _ (_ :: news1) => N9
  have hD := N9 _ (.head _)
  refine iter_tup (vs := [.str (Str.ofString ",") _, .str (Str.ofString "|") _]) (fun i m₁ nx => (∀ z, z ≠ Str.ofString "sign" → m₁ z = List.lookup z [(Str.ofString "group", Value.ref g), (Str.ofString "scanner", Value.ref x)]) ∧ Sc w T x d (r.dropWhile isSp) nx ∧ GrD w g q pl sg nx ∧ Kp [d] news1 nx ∧ ∀ c ∈ [44, 124].take i, headIs (· == c) (r.dropWhile isSp) = false) rfl hD.1 rfl rfl hD.2.1 (by assumption) (by assumption) ⟨fun _ _ => rfl, P1.sub fun p hp => .tail _ hp, ⟨.tail _ g1.1, by refine fold_goal ?_; intro G9 k9; obtain ⟨_, u1, u2, u3, u4, u5, pc, f1⟩ := g1; refine k9 ?_; clear k9 G9; exact ⟨u1, u2, u3, u4, u5, pc, .tail _ f1⟩⟩, Kp.sub fun p hp => .tail _ hp, fun _ q => nomatch q⟩ (by intro I hI i m n n' k J9; obtain ⟨a, b, c, d, e⟩ := J9; exact ⟨a, k.sc b, k.grd c, k.kp (fun p hp => hI p (.tail _ hp)) d, e⟩) ?_ ?_
  · intro j v m₁ nx own h9 tk9 hv J9 hown F9 N9; refine fold_goal ?_; intro G9 k9; obtain ⟨a1, a2, a3, a4, a5⟩ := J9; refine k9 ?_; clear k9 G9
    replace F9 := fr_if a1 F9
    refine fold_goal ?_; intro G9 k9; obtain ⟨W, tw, k, rfl, hW, hWk, e9, hk⟩ := seps hv; refine k9 ?_; clear k9 G9
    generalize hr2 : r.dropWhile isSp = rr at *
    refine el_sc a2 ?_
    intro u1 u2 u3 u4 j2 y2 y1 y3
    repeat' (first | ((with_reducible show wpAny _ _ (exec _ _) _ _ _); k_fold) | ((fail_if_success (with_reducible refine stop_of Stop1 (by constructor) ?_)); first | (k_unfold; (try dsimp only)) | (k_end; wrow_close) | walk1 | (dsimp only; walk1) | (leave1; try dsimp only)))
    (k_dflt (refine' con_use ?kNz20 (takes hW (by show 1 ≤ 1000; decide) a2) ?kBz20 ?kFz20 ?kXz20 ?kTz20 ?kKz20 ?kDz20 ?kUz20 ?kOkz20 ?kErrz20; (case kNz20 => k_asm); (case kBz20 => k_asm); (case kFz20 => k_asm); (case kXz20 => k_asm); (case kTz20 => k_asm); (case kKz20 => first | exact rfl | assumption); (case kDz20 => first | exact room0 (by assumption) | exact room1 (by assumption) rfl | exact room2 (by assumption) rfl | exact room3 (by assumption) rfl | exact roomA (by assumption) rfl | exact roomS (by assumption) rfl | exact roomM (by assumption) rfl | exact roomB (by assumption) rfl); (case kUz20 => first | exact room0 (by assumption) | exact room1 (by assumption) rfl | exact room2 (by assumption) rfl | exact room3 (by assumption) rfl | exact roomA (by assumption) rfl | exact roomS (by assumption) rfl | exact roomM (by assumption) rfl | exact roomB (by assumption) rfl)))
    case kErrz20 => intro hf; exact hf.elim
    intro r2 news2 hh2 tk2 F2 N2 K2 P2
    have hQ9 := P2.1
    have S1 := P2.2
    subst hQ9
    rw [headIs_iff]
    have hk9 : [k].isPrefixOf rr = headIs (· == k) rr := headIs_iff k rr
    have z3 := a3.kp K2 (fun e => hdq (List.mem_singleton.mp e).symm)
    cases hb : headIs (· == k) rr
    · unfold tkr at S1
      rw [if_neg (by rw [hk9, hb]; decide)] at S1
      repeat' (first | ((with_reducible show wpAny _ _ (exec _ _) _ _ _); k_fold) | ((fail_if_success (with_reducible refine stop_of Stop1 (by constructor) ?_)); first | (k_unfold; (try dsimp only)) | (k_end; wrow_close) | walk1 | (dsimp only; walk1) | (leave1; try dsimp only)))
      exact FStep.next (by assumption) (by assumption) (own_keep N9 hown K2 fun d hd => by rw [List.mem_singleton.mp hd]; exact ⟨_, y1, rfl⟩) ⟨fun z hz => by rw [if_neg hz], S1, z3, a4.trans K2, fun c hc => by
        rw [e9] at hc
        rcases List.mem_append.mp hc with hc | hc
        · exact a5 c hc
        · rw [List.mem_singleton.mp hc]; exact hb⟩
    · unfold tkr at S1
      rw [if_pos (by rw [hk9, hb])] at S1
      have e8 : goesR sg rr = if sg = Str.ofString "" ∨ sg = one k then some (true, rr.drop 1, one k) else none := by
        cases rr with
        | nil => cases hb
        | cons c r =>
          have : c = k := by simpa [headIs] using hb
          subst this
          simp only [goesR]; rw [if_pos hk]; rfl
      have kk : Kp [d, q] news news2 := (K1.trans (a4.trans K2)).mono fun _ q => by rw [List.mem_singleton.mp q]; exact .head _
      refine fold_goal ?_; intro G9 k9; obtain ⟨zg, v1, v2, v3, v4, v5, pc, zd⟩ := id z3; refine k9 ?_; clear k9 G9
      repeat' (first | ((with_reducible show wpAny _ _ (exec _ _) _ _ _); k_fold) | ((fail_if_success (with_reducible refine stop_of Stop1 (by constructor) ?_)); first | (k_unfold; (try dsimp only)) | (k_end; wrow_close) | walk1 | (dsimp only; walk1) | (leave1; try dsimp only)))
      (k_dflt (refine' con_use ?kNz21 (set_sign S1 z3) ?kBz21 ?kFz21 ?kXz21 ?kTz21 ?kKz21 ?kDz21 ?kUz21 ?kOkz21 ?kErrz21; (case kNz21 => k_asm); (case kBz21 => k_asm); (case kFz21 => k_asm); (case kXz21 => k_asm); (case kTz21 => k_asm); (case kKz21 => first | exact rfl | assumption); (case kDz21 => first | exact room0 (by assumption) | exact room1 (by assumption) rfl | exact room2 (by assumption) rfl | exact room3 (by assumption) rfl | exact roomA (by assumption) rfl | exact roomS (by assumption) rfl | exact roomM (by assumption) rfl | exact roomB (by assumption) rfl); (case kUz21 => first | exact room0 (by assumption) | exact room1 (by assumption) rfl | exact room2 (by assumption) rfl | exact room3 (by assumption) rfl | exact roomA (by assumption) rfl | exact roomS (by assumption) rfl | exact roomM (by assumption) rfl | exact roomB (by assumption) rfl)))
      case kErrz21 =>
        intro hp e t vs n9 h9 tk9 g9 Fg U R K9
        (repeat (k_unfold; try dsimp only))
        refine leave_onK (by assumption) Fg R U (fun h'' R' U' => ?_)
        exact herr (by rw [e8, if_neg (fun o => o.elim hp.1 (fun e => hp.2 (by rw [e, hWk])))]) _ _ _ _ _ _ _ FG' U' R' (kk.trans (K9.mono fun _ q => .tail _ q))
      intro r3 news3 hh3 tk3 F3 N3 K3 P3
      repeat' (first | ((with_reducible show wpAny _ _ (exec _ _) _ _ _); k_fold) | ((fail_if_success (with_reducible refine stop_of Stop1 (by constructor) ?_)); first | (k_unfold; (try dsimp only)) | (k_end; wrow_close) | walk1 | (dsimp only; walk1) | (leave1; try dsimp only)))
      dsimp only [FStep]
      repeat' (first | ((with_reducible show wpAny _ _ (exec _ _) _ _ _); k_fold) | ((fail_if_success (with_reducible refine stop_of Stop1 (by constructor) ?_)); first | (k_unfold; (try dsimp only)) | (k_end; wrow_close) | walk1 | (dsimp only; walk1) | (leave1; try dsimp only)))
      exact hret _ _ _ _ (by assumption) (by assumption) (kk.trans (K3.mono fun _ q => .tail _ q)) ⟨_, _, one k, by rw [e8, if_pos (by rw [← hWk]; exact P3.1)]; rfl, rfl, S1.kp K3 (fun e => hdq (List.mem_singleton.mp e)), by rw [← hWk]; exact P3.2⟩
  · intro m₁ nx h9 tk9 J9 F9 N9; refine fold_goal ?_; intro G9 k9; obtain ⟨a1, a2, a3, a4, a5⟩ := J9; refine k9 ?_; clear k9 G9
    replace F9 := fr_out a1 F9
    generalize hr2 : r.dropWhile isSp = rr at *
    refine el_sc a2 ?_
    intro u1 u2 u3 u4 j2 y2 y1 y3
    have e8 : goesR sg rr = if headIs (· == 41) rr then some (false, rr.drop 1, sg) else none := by
      cases rr with
      | nil => rfl
      | cons c r =>
        have b1 := a5 44 (by simp)
        have b2 := a5 124 (by simp)
        simp only [headIs] at b1 b2 ⊢
        simp only [goesR]; rw [if_neg (by rw [b1, b2]; decide)]; rfl
    have kk : Kp [d, q] news nx := (K1.trans a4).mono fun _ q => by rw [List.mem_singleton.mp q]; exact .head _
    repeat' (first | ((with_reducible show wpAny _ _ (exec _ _) _ _ _); k_fold) | ((fail_if_success (with_reducible refine stop_of Stop1 (by constructor) ?_)); first | (k_unfold; (try dsimp only)) | (k_end; wrow_close) | walk1 | (dsimp only; walk1) | (leave1; try dsimp only)))
    (k_dflt (refine' con_use ?kNz22 (expect (wl := [41]) (by decide +kernel) (by show 1 ≤ 1000; decide) a2) ?kBz22 ?kFz22 ?kXz22 ?kTz22 ?kKz22 ?kDz22 ?kUz22 ?kOkz22 ?kErrz22; (case kNz22 => k_asm); (case kBz22 => k_asm); (case kFz22 => k_asm); (case kXz22 => k_asm); (case kTz22 => k_asm); (case kKz22 => first | exact rfl | assumption); (case kDz22 => first | exact room0 (by assumption) | exact room1 (by assumption) rfl | exact room2 (by assumption) rfl | exact room3 (by assumption) rfl | exact roomA (by assumption) rfl | exact roomS (by assumption) rfl | exact roomM (by assumption) rfl | exact roomB (by assumption) rfl); (case kUz22 => first | exact room0 (by assumption) | exact room1 (by assumption) rfl | exact room2 (by assumption) rfl | exact room3 (by assumption) rfl | exact roomA (by assumption) rfl | exact roomS (by assumption) rfl | exact roomM (by assumption) rfl | exact roomB (by assumption) rfl)))
    case kErrz22 =>
      intro hp e t vs n9 h9 tk9 g9 Fg U R K9
      (repeat (k_unfold; try dsimp only))
      refine leave_onK (by assumption) Fg R U (fun h'' R' U' => ?_)
      rw [headIs_iff] at hp
      exact herr (by rw [e8, hp]; rfl) _ _ _ _ _ _ _ FG' U' R' (kk.trans (K9.mono fun _ q => by rw [List.mem_singleton.mp q]; exact .head _))
    intro r3 news3 hh3 tk3 F3 N3 K3 P3
    have q1 := P3.1
    have q2 := P3.2
    rw [headIs_iff] at q1
    repeat' (first | ((with_reducible show wpAny _ _ (exec _ _) _ _ _); k_fold) | ((fail_if_success (with_reducible refine stop_of Stop1 (by constructor) ?_)); first | (k_unfold; (try dsimp only)) | (k_end; wrow_close) | walk1 | (dsimp only; walk1) | (leave1; try dsimp only)))
    exact hret _ _ _ _ (by assumption) (by assumption) (kk.trans (K3.mono fun _ q => by rw [List.mem_singleton.mp q]; exact .head _)) ⟨_, _, _, by rw [e8, if_pos q1]; rfl, rfl, q2, a3.kp K3 (fun e => hdq (List.mem_singleton.mp e).symm)⟩
inductive St where
  | grp (out : Bool) (st : List (Str × List Dat)) (r : List Nat)
  | mix (names : List Str) (r : List Nat)
noncomputable def pushD (d : Dat) : List (Str × List Dat) → List (Str × List Dat)
  | [] => []
  | (s, ds) :: st => (s, ds ++ [d]) :: st
noncomputable def gDat (sg : Str) (ds : List Dat) (mk : List Nat) : Dat := .tuple [.str (if sg = Str.ofString "|" then Str.ofString "choice" else Str.ofString "seq"), .tuple ds, .str ⟨mk.toArray⟩]
noncomputable def nDat (nm mk : List Nat) : Dat := .tuple [.str (Str.ofString "name"), .str ⟨nm.toArray⟩, .str ⟨mk.toArray⟩]
noncomputable def mDat (names : List Str) : Dat := .tuple [.str (Str.ofString "mixed"), .tuple (names.map Dat.str)]
noncomputable def stepG : St → St ⊕ Option (Dat × List Nat)
  | .grp true st r =>
    if headIs (· == 40) (r.dropWhile isSp) = true then .inl (.grp true ((Str.ofString "", []) :: st) ((r.dropWhile isSp).drop 1))
    else if headIs isNS (r.dropWhile isSp) = true then .inl (.grp false (pushD (nDat ((r.dropWhile isSp).takeWhile isNC) (mkr ((r.dropWhile isSp).dropWhile isNC)).1) st) (mkr ((r.dropWhile isSp).dropWhile isNC)).2)
    else .inr none
  | .grp false [] _ => .inr none
  | .grp false ((sg, ds) :: st) r => match goesR sg (r.dropWhile isSp) with
    | none => .inr none
    | some (true, r2, sg') => .inl (.grp true ((sg', ds) :: st) r2)
    | some (false, r2, sg') => match st with
      | [] => .inr (some (gDat sg' ds (mkr r2).1, (mkr r2).2))
      | p :: st => .inl (.grp false (pushD (gDat sg' ds (mkr r2).1) (p :: st)) (mkr r2).2)
  | .mix names r =>
    if headIs (· == 124) r = true then
      if headIs isNS ((r.drop 1).dropWhile isSp) = true then
        if (⟨(((r.drop 1).dropWhile isSp).takeWhile isNC).toArray⟩ : Str) ∈ names then .inr none
        else .inl (.mix (names ++ [⟨(((r.drop 1).dropWhile isSp).takeWhile isNC).toArray⟩]) ((((r.drop 1).dropWhile isSp).dropWhile isNC).dropWhile isSp))
      else .inr none
    else if headIs (· == 41) r = true then
      if headIs (· == 42) (r.drop 1) = true then .inr (some (mDat names, (r.drop 1).drop 1))
      else if names = [] then .inr (some (mDat names, r.drop 1)) else .inr none
    else .inr none
inductive Ev : St → Option (Dat × List Nat) → Prop
  | stop {s : St} {x : Option (Dat × List Nat)} : stepG s = .inr x → Ev s x
  | go {s s' : St} {x : Option (Dat × List Nat)} : stepG s = .inl s' → Ev s' x → Ev s x
theorem Ev.det {s : St} {x y : Option (Dat × List Nat)} (h : Ev s x) (k : Ev s y) : x = y := by
  induction h with
  | stop e =>
    cases k with
    | stop f => rw [e] at f; cases f; rfl
    | go f _ => rw [e] at f; cases f
  | go e _ ih =>
    cases k with
    | stop f => rw [e] at f; cases f
    | go f k => rw [e] at f; cases f; exact ih k
theorem Kp.less {M : List Addr} {a b : Led} {l : Addr} (k : Kp (l :: M) a b) (h : ∀ p ∈ a, p.1 ≠ l) : Kp M a b := fun p hp hi => k p hp fun hm => by
  rcases List.mem_cons.mp hm with e | hm
  · exact absurd e (h p hp)
  · exact hi hm
theorem len_dropWhile {f : Nat → Bool} : ∀ (r : List Nat), (r.dropWhile f).length ≤ r.length
  | [] => Nat.le_refl _
  | c :: r => by
    rw [List.dropWhile_cons]
    split
    · exact Nat.le_succ_of_le (len_dropWhile r)
    · exact Nat.le_refl _
theorem len_mkr (r : List Nat) : (mkr r).2.length ≤ r.length := by
  unfold mkr
  split
  · split
    · exact Nat.le_succ _
    · exact Nat.le_refl _
  · exact Nat.le_refl _
theorem len_name {r : List Nat} (h : headIs isNS r = true) : (r.dropWhile isNC).length < r.length := by
  cases r with
  | nil => cases h
  | cons c r =>
    have q : isNC c = true := by
      have : isNS c = true := h
      unfold isNC; rw [this]; rfl
    rw [List.dropWhile_cons, if_pos q]
    exact Nat.lt_succ_of_le (len_dropWhile r)
theorem len_head {f : Nat → Bool} {r : List Nat} (h : headIs f r = true) : (r.drop 1).length < r.length := by
  cases r with
  | nil => cases h
  | cons c r => exact Nat.lt_succ_self _
theorem eq_nilK {prog : Program} {w : World} {A : Around} {E : Value → Shared → Prop} {s : Shared} {h₀ : Heap} {L a b : Addr} {news : Led} {vs : List Value} {n k : Nat} {Q : Value → Shared → Prop} (N : News h₀ L s.heap news) (ha : (a, listOf vs.toArray n) ∈ news) (hb : (b, listOf #[] k) ∈ news) (hu : A.units < cLine) (h : Q (.bool vs.isEmpty) s) :
    wpAny (model prog w) A (compareOp .Eq (.ref a) (.ref b)) Q E s := by
  have hl := N.isList ha
  have hk := N.isList hb
  cases vs with
  | nil => exact PySem.SeqAt.eq_listAt (e := fun _ => true) hl hk rfl hu (fun j h1 => absurd h1 (Nat.not_lt_zero j)) h
  | cons v vs => exact PySem.SeqAt.eq_list_lengthsAt hl hk (by simp) hu h
theorem ne_nilK {prog : Program} {w : World} {A : Around} {E : Value → Shared → Prop} {s : Shared} {h₀ : Heap} {L a b : Addr} {news : Led} {vs : List Value} {n k : Nat} {Q : Value → Shared → Prop} (N : News h₀ L s.heap news) (ha : (a, listOf vs.toArray n) ∈ news) (hb : (b, listOf #[] k) ∈ news) (hu : A.units < cLine) (h : Q (.bool (!vs.isEmpty)) s) :
    wpAny (model prog w) A (compareOp .NotEq (.ref a) (.ref b)) Q E s := by
  have hl := N.isList ha
  have hk := N.isList hb
  cases vs with
  | nil => exact PySem.SeqAt.RcNeAt.lists (e := fun _ => true) hl hk rfl hu (fun j h1 => absurd h1 (Nat.not_lt_zero j)) prog w E Q h
  | cons v vs => exact PySem.SeqAt.RcNeAt.lists_lengths hl hk (by simp) hu prog w E Q h
theorem StrsAre.tall {news : Led} : ∀ {vs : List Value} {ns : List Str}, StrsAre vs ns → TAll news vs (ns.map Dat.str)
  | _, _, .nil => .nil
  | _, _, .cons n t h => .cons (.str _ _) (StrsAre.tall h)
theorem mixm {h₀ h : Heap} {L : Addr} {v : Option Value} {x : Value} {a b : Value} (F : Fr h₀ L h (fun y => if y = Str.ofString "name" then some x else if y = Str.ofString "name" then v else List.lookup y [(Str.ofString "names", a), (Str.ofString "scanner", b)])) :
   Fr h₀ L h (fun y => if y = Str.ofString "name" then some x else List.lookup y [(Str.ofString "names", a), (Str.ofString "scanner", b)]) := fr_if (fun z hz => if_neg hz) F
theorem lk_cons (y a : Str) (v : Value) (l : List (Str × Value)) : (if y = a then some v else List.lookup y l) = List.lookup y ((a, v) :: l) := by
  by_cases h : y = a
  · subst h; rw [if_pos rfl, List.lookup_cons_self]
  · rw [if_neg h, List.lookup_cons, beq_eq_false_iff_ne.mpr h]
theorem read_mixed {w : World} {T : Str} {r : List Nat} {x d : Addr} {news : Led} (hT : T.length ≤ 1000000) (hA : Asc T) (Z : Sc w T x d r news) :
    Con w 289 [.ref x] 200 1000 news [d] (fun v n' => ∃ D r', Ev (.mix [] (r.dropWhile isSp)) (some (D, r')) ∧ TIn n' v D ∧ Sc w T x d r' n') (Ev (.mix [] (r.dropWhile isSp)) none) := by
  refine el_sc Z ?_
  intro t1 t2 t3 t4 i h2 h1 h3
  intro mean mg mb dp un gd cn cs a ccd cl outer A₀ base h₀ L m s Q E B F X N Tp hk hd1 hu1 hret herr; refine wpAny_call ?_; k_dflt (refine' code_def (binds := [("scanner", .ref x)]) ?k1 ?k2 ?k3 ?k4 ?k5 ?kA ?kF ?kK ?k6 ?k7 ?k8 ?k9 ?kB ?_ ?c2 ?c3 ?c4 ?c5; (case kA => exact rfl); (case kF => exact rfl); (case kK => assumption); (case k1 => k_asm); (case k2 => k_asm); (case k3 => k_asm); (case k4 => k_asm); (case k5 => k_asm); (case k6 => k_is); (case k7 => k_is); (case k8 => first | exact room0 (by assumption) | exact room1 (by assumption) rfl | exact room2 (by assumption) rfl | exact room3 (by assumption) rfl | exact roomA (by assumption) rfl | exact roomS (by assumption) rfl | exact roomM (by assumption) rfl | exact roomB (by assumption) rfl); (case k9 => exact BindsTo.of_eq rfl); (case c5 => decide); (case kB => exact locs rfl); (case c2 => exact rfl); (case c3 => exact rfl); (case c4 => exact rfl); k_whole); intro g' L' hp FG' F' N' B' X' T'; (try dsimp only [List.reverse_cons, List.reverse_nil, List.nil_append, List.cons_append, List.length_cons, List.length_nil, Nat.zero_add] at F' ⊢); k_fold; refine fold_env ?_; intro e₁ A₁
  repeat' (first | ((with_reducible show wpAny _ _ (exec _ _) _ _ _); k_fold) | ((fail_if_success (with_reducible refine stop_of Stop1 (by constructor) ?_)); first | (k_unfold; (try dsimp only)) | (k_end; wrow_close) | walk1 | (dsimp only; walk1) | (leave1; try dsimp only)))
  rename_i nl h8 l9 h9 F9 N9
  have Z1 : ∀ q, Sc w T x d r (q :: news) := fun q => Z.sub fun p hp => .tail _ hp
  have hnew : ∀ p ∈ news, p.1 ≠ nl := fun p hp => Nat.ne_of_lt (l9 p hp)
  (k_dflt (refine' con_use ?kNz23 (spaces hT (Z1 _)) ?kBz23 ?kFz23 ?kXz23 ?kTz23 ?kKz23 ?kDz23 ?kUz23 ?kOkz23 ?kErrz23; (case kNz23 => k_asm); (case kBz23 => k_asm); (case kFz23 => k_asm); (case kXz23 => k_asm); (case kTz23 => k_asm); (case kKz23 => first | exact rfl | assumption); (case kDz23 => first | exact room0 (by assumption) | exact room1 (by assumption) rfl | exact room2 (by assumption) rfl | exact room3 (by assumption) rfl | exact roomA (by assumption) rfl | exact roomS (by assumption) rfl | exact roomM (by assumption) rfl | exact roomB (by assumption) rfl); (case kUz23 => first | exact room0 (by assumption) | exact room1 (by assumption) rfl | exact room2 (by assumption) rfl | exact room3 (by assumption) rfl | exact roomA (by assumption) rfl | exact roomS (by assumption) rfl | exact roomM (by assumption) rfl | exact roomB (by assumption) rfl)))
  case kErrz23 => intro hf; exact hf.elim
  intro r1 news1 hh1 tk1 F1 N1 K1 P1
  repeat' (first | ((with_reducible show wpAny _ _ (exec _ _) _ _ _); k_fold) | ((fail_if_success (with_reducible refine stop_of Stop1 (by constructor) ?_)); first | (k_unfold; (try dsimp only)) | (k_end; wrow_close) | walk1 | (dsimp only; walk1) | (leave1; try dsimp only)))
  have hdn : d ≠ nl := hnew _ h1
  generalize hr0 : r.dropWhile isSp = r0 at *
  refine While_my (n₀ := r0.length) (fun n m₁ nx => ∃ names r1 vn vs nn, m₁ = (fun y => if y = Str.ofString "name" then vn else List.lookup y [(Str.ofString "names", .ref nl), (Str.ofString "scanner", .ref x)]) ∧ r1.length = n ∧ (∀ X, Ev (.mix names r1) X → Ev (.mix [] r0) X) ∧ Sc w T x d r1 nx ∧ (nl, listOf vs.toArray nn) ∈ nx ∧ StrsAre vs names ∧ names.length + r1.length ≤ T.length ∧ Kp [nl, d] news nx) (by assumption) (by assumption) ⟨[], r0, none, [], 0, ?_, rfl, fun _ h => h, P1, ?_, .nil, ?_, ?_⟩ ?_
  · funext y
    by_cases e : y = Str.ofString "name"
    · subst e; rfl
    · rw [if_neg e]; exact lk_cons _ _ _ _
  · exact K1 _ (.head _) (fun e => absurd (List.mem_singleton.mp e).symm hdn)
  · rw [List.length_nil, Nat.zero_add, ← hr0]
    exact Nat.le_trans (len_dropWhile r) h3.len
  · exact (Kp.cons Kp.refl).trans (K1.mono fun _ q => .tail _ q)
  · intro n m₁ nx h8 tk8 F8 N8 J9; refine fold_goal ?_; intro G9 k9; obtain ⟨names, r1, vn, vs, nn, rfl, rfl, a1, a2, a3, a4, a5, a6⟩ := J9; refine k9 ?_; clear k9 G9
    refine el_sc a2 ?_
    intro u1 u2 u3 u4 j y2 y1 y3
    repeat' (first | ((with_reducible show wpAny _ _ (exec _ _) _ _ _); k_fold) | ((fail_if_success (with_reducible refine stop_of Stop1 (by constructor) ?_)); first | (k_unfold; (try dsimp only)) | (k_end; wrow_close) | walk1 | (dsimp only; walk1) | (leave1; try dsimp only)))
    (k_dflt (refine' con_use ?kNz24 (takes (wl := [124]) (by decide +kernel) (by show 1 ≤ 1000; decide) a2) ?kBz24 ?kFz24 ?kXz24 ?kTz24 ?kKz24 ?kDz24 ?kUz24 ?kOkz24 ?kErrz24; (case kNz24 => k_asm); (case kBz24 => k_asm); (case kFz24 => k_asm); (case kXz24 => k_asm); (case kTz24 => k_asm); (case kKz24 => first | exact rfl | assumption); (case kDz24 => first | exact room0 (by assumption) | exact room1 (by assumption) rfl | exact room2 (by assumption) rfl | exact room3 (by assumption) rfl | exact roomA (by assumption) rfl | exact roomS (by assumption) rfl | exact roomM (by assumption) rfl | exact roomB (by assumption) rfl); (case kUz24 => first | exact room0 (by assumption) | exact room1 (by assumption) rfl | exact room2 (by assumption) rfl | exact room3 (by assumption) rfl | exact roomA (by assumption) rfl | exact roomS (by assumption) rfl | exact roomM (by assumption) rfl | exact roomB (by assumption) rfl)))
    case kErrz24 => intro hf; exact hf.elim
    intro r2 news2 hh2 tk2 F2 N2 K2 P2
    have hQ9 := P2.1
    have S1 := P2.2
    subst hQ9
    have b3 := K2 _ a3 (fun e => absurd (List.mem_singleton.mp e).symm hdn)
    have b6 := a6.trans (K2.mono fun _ q => .tail _ q)
    rw [headIs_iff]
    have hk9 : [124].isPrefixOf r1 = headIs (· == 124) r1 := headIs_iff 124 r1
    unfold tkr at S1
    simp only [List.length_cons, List.length_nil, Nat.zero_add] at S1
    cases hb : headIs (· == 124) r1
    · rw [if_neg (by rw [hk9, hb]; decide)] at S1
      refine el_sc S1 ?_
      intro v1 v2 v3 v4 j2 y4 y5 y6
      repeat' (first | ((with_reducible show wpAny _ _ (exec _ _) _ _ _); k_fold) | ((fail_if_success (with_reducible refine stop_of Stop1 (by constructor) ?_)); first | (k_unfold; (try dsimp only)) | (k_end; wrow_close) | walk1 | (dsimp only; walk1) | (leave1; try dsimp only)))
      (k_dflt (refine' con_use ?kNz25 (expect (wl := [41]) (by decide +kernel) (by show 1 ≤ 1000; decide) S1) ?kBz25 ?kFz25 ?kXz25 ?kTz25 ?kKz25 ?kDz25 ?kUz25 ?kOkz25 ?kErrz25; (case kNz25 => k_asm); (case kBz25 => k_asm); (case kFz25 => k_asm); (case kXz25 => k_asm); (case kTz25 => k_asm); (case kKz25 => first | exact rfl | assumption); (case kDz25 => first | exact room0 (by assumption) | exact room1 (by assumption) rfl | exact room2 (by assumption) rfl | exact room3 (by assumption) rfl | exact roomA (by assumption) rfl | exact roomS (by assumption) rfl | exact roomM (by assumption) rfl | exact roomB (by assumption) rfl); (case kUz25 => first | exact room0 (by assumption) | exact room1 (by assumption) rfl | exact room2 (by assumption) rfl | exact room3 (by assumption) rfl | exact roomA (by assumption) rfl | exact roomS (by assumption) rfl | exact roomM (by assumption) rfl | exact roomB (by assumption) rfl)))
      case kErrz25 =>
        intro hp e t vs n9 h9 tk9 g9 Fg U R K9; (repeat (k_unfold; try dsimp only)); refine leave_onK (by assumption) Fg R U (fun h'' R' U' => ?_)
        rw [headIs_iff] at hp
        exact herr (a1 _ (.stop (by simp only [stepG]; rw [if_neg (by rw [hb]; decide), if_neg (by rw [hp]; decide)]))) _ _ _ _ _ _ _ FG' U' R' ((b6.trans (K9.mono fun _ q => .tail _ q)).less hnew)
      intro r3 news3 hh3 tk3 F3 N3 K3 P3
      have q1 := P3.1
      have S3 := P3.2
      rw [headIs_iff] at q1
      have c3 := K3 _ b3 (fun e => absurd (List.mem_singleton.mp e).symm hdn)
      have c6 := b6.trans (K3.mono fun _ q => .tail _ q)
      refine el_sc S3 ?_
      intro w1 w2 w3 w4 j3 y7 y8 y9
      repeat' (first | ((with_reducible show wpAny _ _ (exec _ _) _ _ _); k_fold) | ((fail_if_success (with_reducible refine stop_of Stop1 (by constructor) ?_)); first | (k_unfold; (try dsimp only)) | (k_end; wrow_close) | walk1 | (dsimp only; walk1) | (leave1; try dsimp only)))
      (k_dflt (refine' con_use ?kNz26 (takes (wl := [42]) (by decide +kernel) (by show 1 ≤ 1000; decide) S3) ?kBz26 ?kFz26 ?kXz26 ?kTz26 ?kKz26 ?kDz26 ?kUz26 ?kOkz26 ?kErrz26; (case kNz26 => k_asm); (case kBz26 => k_asm); (case kFz26 => k_asm); (case kXz26 => k_asm); (case kTz26 => k_asm); (case kKz26 => first | exact rfl | assumption); (case kDz26 => first | exact room0 (by assumption) | exact room1 (by assumption) rfl | exact room2 (by assumption) rfl | exact room3 (by assumption) rfl | exact roomA (by assumption) rfl | exact roomS (by assumption) rfl | exact roomM (by assumption) rfl | exact roomB (by assumption) rfl); (case kUz26 => first | exact room0 (by assumption) | exact room1 (by assumption) rfl | exact room2 (by assumption) rfl | exact room3 (by assumption) rfl | exact roomA (by assumption) rfl | exact roomS (by assumption) rfl | exact roomM (by assumption) rfl | exact roomB (by assumption) rfl)))
      case kErrz26 => intro hf; exact hf.elim
      intro r4 news4 hh4 tk4 F4 N4 K4 P4
      have hQ9 := P4.1
      have S4 := P4.2
      subst hQ9
      have d3 := K4 _ c3 (fun e => absurd (List.mem_singleton.mp e).symm hdn)
      have d6 := c6.trans (K4.mono fun _ q => .tail _ q)
      have d3h : ∀ q, (nl, listOf vs.toArray nn) ∈ q :: news4 := fun q => .tail _ d3
      rw [headIs_iff]
      have hk8 : [42].isPrefixOf (r1.drop 1) = headIs (· == 42) (r1.drop 1) := headIs_iff 42 _
      unfold tkr at S4
      simp only [List.length_cons, List.length_nil, Nat.zero_add] at S3 S4
      cases hb2 : headIs (· == 42) (r1.drop 1)
      · rw [if_neg (by show ¬ [42].isPrefixOf (r1.drop 1) = true; rw [hk8, hb2]; decide)] at S4
        show wpAny _ _ _ _ _ _
        repeat' (first | ((with_reducible show wpAny _ _ (exec _ _) _ _ _); k_fold) | ((fail_if_success (with_reducible refine stop_of Stop1 (by constructor) ?_)); first | (k_unfold; (try dsimp only)) | (k_end; wrow_close) | walk1 | (dsimp only; walk1) | (leave1; try dsimp only)))
        refine ne_nilK (by assumption) (d3h _) (.head _) (by first | exact room0 (by assumption) | exact room1 (by assumption) rfl | exact room2 (by assumption) rfl | exact room3 (by assumption) rfl | exact roomA (by assumption) rfl | exact roomS (by assumption) rfl | exact roomM (by assumption) rfl | exact roomB (by assumption) rfl) ?_
        cases hn : names with
        | nil =>
          subst hn
          cases a4
          repeat' (first | ((with_reducible show wpAny _ _ (exec _ _) _ _ _); k_fold) | ((fail_if_success (with_reducible refine stop_of Stop1 (by constructor) ?_)); first | (k_unfold; (try dsimp only)) | (k_end; wrow_close) | walk1 | (dsimp only; walk1) | (leave1; try dsimp only)))
          refine hret _ _ _ _ (by assumption) (by assumption) (Kp.trans (d6.less hnew) (Kp.sub fun p hp => .tail _ (.tail _ (.tail _ hp)))) ⟨_, _, a1 _ (.stop (by simp only [stepG]; rw [if_neg (by rw [hb]; decide), if_pos q1, if_neg (by rw [hb2]; decide), if_pos True.intro])), ?_, S4.sub fun p hp => .tail _ (.tail _ (.tail _ hp))⟩
          exact .tup (.head _) (.cons (.str _ _) (.cons (.tup (.tail _ (.head _)) .nil) .nil))
        | cons nm rest =>
          have hv : vs.isEmpty = false := by
            rw [hn] at a4
            cases a4 with
            | cons n t h => rfl
          rw [hv]
          have S5 := S4
          refine el_sc S5 ?_
          intro z2 z3 z4 z5 z6 z1 z7 z8
          repeat' (first | ((with_reducible show wpAny _ _ (exec _ _) _ _ _); k_fold) | ((fail_if_success (with_reducible refine stop_of Stop1 (by constructor) ?_)); first | (k_unfold; (try dsimp only)) | (k_end; wrow_close) | walk1 | (dsimp only; walk1) | (leave1; try dsimp only)))
          refine Raise_split ?_
          repeat' (first | ((with_reducible show wpAny _ _ (exec _ _) _ _ _); k_fold) | ((fail_if_success (with_reducible refine stop_of Stop1 (by constructor) ?_)); first | (k_unfold; (try dsimp only)) | (k_end; wrow_close) | walk1 | (dsimp only; walk1) | (leave1; try dsimp only)))
          have S6 : ∀ q, Sc w T x d _ (q :: news4) := fun q => S5.sub fun p hp => .tail _ hp
          (k_dflt (refine' con_use ?kNz27 (fault (S6 _)) ?kBz27 ?kFz27 ?kXz27 ?kTz27 ?kKz27 ?kDz27 ?kUz27 ?kOkz27 ?kErrz27; (case kNz27 => k_asm); (case kBz27 => k_asm); (case kFz27 => k_asm); (case kXz27 => k_asm); (case kTz27 => k_asm); (case kKz27 => first | exact rfl | assumption); (case kDz27 => first | exact room0 (by assumption) | exact room1 (by assumption) rfl | exact room2 (by assumption) rfl | exact room3 (by assumption) rfl | exact roomA (by assumption) rfl | exact roomS (by assumption) rfl | exact roomM (by assumption) rfl | exact roomB (by assumption) rfl); (case kUz27 => first | exact room0 (by assumption) | exact room1 (by assumption) rfl | exact room2 (by assumption) rfl | exact room3 (by assumption) rfl | exact roomA (by assumption) rfl | exact roomS (by assumption) rfl | exact roomM (by assumption) rfl | exact roomB (by assumption) rfl)))
          case kErrz27 => intro hf; exact hf.elim
          intro r5 news5 hh5 tk5 F5 N5 K5 P5
          refine fold_goal ?_; intro G9 k9; obtain ⟨xe, dn, te, vs, rfl, he, ht, hf⟩ := P5; refine k9 ?_; clear k9 G9; refine raiseTail_exc (Frag.In.keeps X' F5.keep) (N5.get he) rfl ?_; (repeat (k_unfold; try dsimp only))
          refine leave_inst (kept := news4) (by assumption) he ht F5 N5 (fun p hp => ⟨K5.of_nil p (.tail _ hp), hf p (.tail _ hp)⟩) (fun h' R U => ?_)
          exact herr (a1 _ (.stop (by simp only [stepG]; rw [if_neg (by rw [hb]; decide), if_pos q1, if_neg (by rw [hb2]; decide), if_neg (by rw [hn]; exact fun e => nomatch e)]))) _ _ _ _ _ _ _ FG' U R (d6.less hnew)
      · rw [if_pos (by show [42].isPrefixOf (r1.drop 1) = true; rw [hk8, hb2])] at S4
        repeat' (first | ((with_reducible show wpAny _ _ (exec _ _) _ _ _); k_fold) | ((fail_if_success (with_reducible refine stop_of Stop1 (by constructor) ?_)); first | (k_unfold; (try dsimp only)) | (k_end; wrow_close) | walk1 | (dsimp only; walk1) | (leave1; try dsimp only)))
        refine tup_of (by assumption) (by assumption) d3 (by rw [strs_len_eq a4]; (first | lia | omega)) ?_
        intro D h8 F8 N8 m8
        repeat' (first | ((with_reducible show wpAny _ _ (exec _ _) _ _ _); k_fold) | ((fail_if_success (with_reducible refine stop_of Stop1 (by constructor) ?_)); first | (k_unfold; (try dsimp only)) | (k_end; wrow_close) | walk1 | (dsimp only; walk1) | (leave1; try dsimp only)))
        refine hret _ _ _ _ (by assumption) (by assumption) (Kp.trans (d6.less hnew) (Kp.sub fun p hp => .tail _ (.tail _ hp))) ⟨_, _, a1 _ (.stop (by simp only [stepG]; rw [if_neg (by rw [hb]; decide), if_pos q1, if_pos hb2])), ?_, S4.sub fun p hp => .tail _ (.tail _ hp)⟩
        exact .tup (.head _) (.cons (.str _ _) (.cons (.tup (.tail _ (.head _)) (StrsAre.tall a4)) .nil))
    · rw [if_pos (by rw [hk9, hb])] at S1
      refine el_sc S1 ?_
      intro v1 v2 v3 v4 j2 y4 y5 y6
      repeat' (first | ((with_reducible show wpAny _ _ (exec _ _) _ _ _); k_fold) | ((fail_if_success (with_reducible refine stop_of Stop1 (by constructor) ?_)); first | (k_unfold; (try dsimp only)) | (k_end; wrow_close) | walk1 | (dsimp only; walk1) | (leave1; try dsimp only)))
      (k_dflt (refine' con_use ?kNz28 (spaces hT S1) ?kBz28 ?kFz28 ?kXz28 ?kTz28 ?kKz28 ?kDz28 ?kUz28 ?kOkz28 ?kErrz28; (case kNz28 => k_asm); (case kBz28 => k_asm); (case kFz28 => k_asm); (case kXz28 => k_asm); (case kTz28 => k_asm); (case kKz28 => first | exact rfl | assumption); (case kDz28 => first | exact room0 (by assumption) | exact room1 (by assumption) rfl | exact room2 (by assumption) rfl | exact room3 (by assumption) rfl | exact roomA (by assumption) rfl | exact roomS (by assumption) rfl | exact roomM (by assumption) rfl | exact roomB (by assumption) rfl); (case kUz28 => first | exact room0 (by assumption) | exact room1 (by assumption) rfl | exact room2 (by assumption) rfl | exact room3 (by assumption) rfl | exact roomA (by assumption) rfl | exact roomS (by assumption) rfl | exact roomM (by assumption) rfl | exact roomB (by assumption) rfl)))
      case kErrz28 => intro hf; exact hf.elim
      intro r3 news3 hh3 tk3 F3 N3 K3 P3
      have c3 := K3 _ b3 (fun e => absurd (List.mem_singleton.mp e).symm hdn)
      have c6 := b6.trans (K3.mono fun _ q => .tail _ q)
      refine el_sc P3 ?_
      intro w1 w2 w3 w4 j3 y7 y8 y9
      repeat' (first | ((with_reducible show wpAny _ _ (exec _ _) _ _ _); k_fold) | ((fail_if_success (with_reducible refine stop_of Stop1 (by constructor) ?_)); first | (k_unfold; (try dsimp only)) | (k_end; wrow_close) | walk1 | (dsimp only; walk1) | (leave1; try dsimp only)))
      (k_dflt (refine' con_use ?kNz29 (name hT hA P3) ?kBz29 ?kFz29 ?kXz29 ?kTz29 ?kKz29 ?kDz29 ?kUz29 ?kOkz29 ?kErrz29; (case kNz29 => k_asm); (case kBz29 => k_asm); (case kFz29 => k_asm); (case kXz29 => k_asm); (case kTz29 => k_asm); (case kKz29 => first | exact rfl | assumption); (case kDz29 => first | exact room0 (by assumption) | exact room1 (by assumption) rfl | exact room2 (by assumption) rfl | exact room3 (by assumption) rfl | exact roomA (by assumption) rfl | exact roomS (by assumption) rfl | exact roomM (by assumption) rfl | exact roomB (by assumption) rfl); (case kUz29 => first | exact room0 (by assumption) | exact room1 (by assumption) rfl | exact room2 (by assumption) rfl | exact room3 (by assumption) rfl | exact roomA (by assumption) rfl | exact roomS (by assumption) rfl | exact roomM (by assumption) rfl | exact roomB (by assumption) rfl)))
      case kErrz29 =>
        intro hp e t vs n9 h9 tk9 g9 Fg U R K9; (repeat (k_unfold; try dsimp only)); refine leave_onK (by assumption) Fg R U (fun h'' R' U' => ?_)
        exact herr (a1 _ (.stop (by simp only [stepG]; rw [if_pos hb, if_neg (by rw [hp]; decide)]))) _ _ _ _ _ _ _ FG' U' R' ((c6.trans (K9.mono fun _ q => .tail _ q)).less hnew)
      intro r4 news4 hh4 tk4 F4 N4 K4 P4
      refine el_tAS P4 ?_
      intro t9 hQ9 q1 S4
      subst hQ9
      have d3 := K4 _ c3 (fun e => absurd (List.mem_singleton.mp e).symm hdn)
      have d6 := c6.trans (K4.mono fun _ q => .tail _ q)
      repeat' (first | ((with_reducible show wpAny _ _ (exec _ _) _ _ _); k_fold) | ((fail_if_success (with_reducible refine stop_of Stop1 (by constructor) ?_)); first | (k_unfold; (try dsimp only)) | (k_end; wrow_close) | walk1 | (dsimp only; walk1) | (leave1; try dsimp only)))
      refine in_list_strs (News.isList (by assumption) d3) a4 ?_
      have hany : names.any (· == (⟨(((r1.drop 1).dropWhile isSp).takeWhile isNC).toArray⟩ : Str)) = decide ((⟨(((r1.drop 1).dropWhile isSp).takeWhile isNC).toArray⟩ : Str) ∈ names) := by
        rw [Bool.eq_iff_iff, List.any_eq_true, decide_eq_true_iff]
        constructor
        · intro J9; refine fold_goal ?_; intro G9 k9; obtain ⟨y, h1, h2⟩ := J9; refine k9 ?_; clear k9 G9; rw [← beq_iff_eq.mp h2]; exact h1
        · intro h; exact ⟨_, h, beq_self_eq_true _⟩
      rw [hany]
      by_cases hin : (⟨(((r1.drop 1).dropWhile isSp).takeWhile isNC).toArray⟩ : Str) ∈ names
      · rw [decide_eq_true hin]
        refine el_sc S4 ?_
        intro z2 z3 z4 z5 z6 z1 z7 z8
        repeat' (first | ((with_reducible show wpAny _ _ (exec _ _) _ _ _); k_fold) | ((fail_if_success (with_reducible refine stop_of Stop1 (by constructor) ?_)); first | (k_unfold; (try dsimp only)) | (k_end; wrow_close) | walk1 | (dsimp only; walk1) | (leave1; try dsimp only)))
        refine Raise_split ?_
        repeat' (first | ((with_reducible show wpAny _ _ (exec _ _) _ _ _); k_fold) | ((fail_if_success (with_reducible refine stop_of Stop1 (by constructor) ?_)); first | (k_unfold; (try dsimp only)) | (k_end; wrow_close) | walk1 | (dsimp only; walk1) | (leave1; try dsimp only)))
        (k_dflt (refine' con_use ?kNz30 (fault S4) ?kBz30 ?kFz30 ?kXz30 ?kTz30 ?kKz30 ?kDz30 ?kUz30 ?kOkz30 ?kErrz30; (case kNz30 => k_asm); (case kBz30 => k_asm); (case kFz30 => k_asm); (case kXz30 => k_asm); (case kTz30 => k_asm); (case kKz30 => first | exact rfl | assumption); (case kDz30 => first | exact room0 (by assumption) | exact room1 (by assumption) rfl | exact room2 (by assumption) rfl | exact room3 (by assumption) rfl | exact roomA (by assumption) rfl | exact roomS (by assumption) rfl | exact roomM (by assumption) rfl | exact roomB (by assumption) rfl); (case kUz30 => first | exact room0 (by assumption) | exact room1 (by assumption) rfl | exact room2 (by assumption) rfl | exact room3 (by assumption) rfl | exact roomA (by assumption) rfl | exact roomS (by assumption) rfl | exact roomM (by assumption) rfl | exact roomB (by assumption) rfl)))
        case kErrz30 => intro hf; exact hf.elim
        intro r5 news5 hh5 tk5 F5 N5 K5 P5
        refine fold_goal ?_; intro G9 k9; obtain ⟨xe, dn, te, vs, rfl, he, ht, hf⟩ := P5; refine k9 ?_; clear k9 G9; refine raiseTail_exc (Frag.In.keeps X' F5.keep) (N5.get he) rfl ?_; (repeat (k_unfold; try dsimp only))
        refine leave_inst (kept := news4) (by assumption) he ht F5 N5 (fun p hp => ⟨K5.of_nil p hp, hf p hp⟩) (fun h' R U => ?_)
        exact herr (a1 _ (.stop (by simp only [stepG]; rw [if_pos hb, if_pos q1, if_pos hin]))) _ _ _ _ _ _ _ FG' U R (d6.less hnew)
      · rw [decide_eq_false hin]
        refine el_sc S4 ?_
        intro z2 z3 z4 z5 z6 z1 z7 z8
        rename News _ _ _ news4 => N4
        have N4' := news_front N4 d3
        have k4 := off_kp N4 d3 rfl
        have S5 := S4.kp k4 (fun e => hdn (List.mem_singleton.mp e))
        repeat' (first | ((with_reducible show wpAny _ _ (exec _ _) _ _ _); k_fold) | ((fail_if_success (with_reducible refine stop_of Stop1 (by constructor) ?_)); first | (k_unfold; (try dsimp only)) | (k_end; wrow_close) | walk1 | (dsimp only; walk1) | (leave1; try dsimp only)))
        rename News _ _ _ ((nl, _) :: off nl news4) => N4
        rw [List.push_toArray] at N4
        have S6 : ∀ q, Sc w T x d ((((r1.drop 1).dropWhile isSp).dropWhile isNC)) (q :: off nl news4) := fun q => S5.sub fun p hp => .tail _ hp
        refine el_sc S5 ?_
        intro z2 z3 z4 z5 z6 z1 z7 z8
        repeat' (first | ((with_reducible show wpAny _ _ (exec _ _) _ _ _); k_fold) | ((fail_if_success (with_reducible refine stop_of Stop1 (by constructor) ?_)); first | (k_unfold; (try dsimp only)) | (k_end; wrow_close) | walk1 | (dsimp only; walk1) | (leave1; try dsimp only)))
        (k_dflt (refine' con_use ?kNz31 (spaces hT (S6 _)) ?kBz31 ?kFz31 ?kXz31 ?kTz31 ?kKz31 ?kDz31 ?kUz31 ?kOkz31 ?kErrz31; (case kNz31 => k_asm); (case kBz31 => k_asm); (case kFz31 => k_asm); (case kXz31 => k_asm); (case kTz31 => k_asm); (case kKz31 => first | exact rfl | assumption); (case kDz31 => first | exact room0 (by assumption) | exact room1 (by assumption) rfl | exact room2 (by assumption) rfl | exact room3 (by assumption) rfl | exact roomA (by assumption) rfl | exact roomS (by assumption) rfl | exact roomM (by assumption) rfl | exact roomB (by assumption) rfl); (case kUz31 => first | exact room0 (by assumption) | exact room1 (by assumption) rfl | exact room2 (by assumption) rfl | exact room3 (by assumption) rfl | exact roomA (by assumption) rfl | exact roomS (by assumption) rfl | exact roomM (by assumption) rfl | exact roomB (by assumption) rfl)))
        case kErrz31 => intro hf; exact hf.elim
        intro r5 news5 hh5 tk5 F5 N5 K5 P5
        have e3 := K5 _ (.head _) (fun e => absurd (List.mem_singleton.mp e).symm hdn)
        repeat' (first | ((with_reducible show wpAny _ _ (exec _ _) _ _ _); k_fold) | ((fail_if_success (with_reducible refine stop_of Stop1 (by constructor) ?_)); first | (k_unfold; (try dsimp only)) | (k_end; wrow_close) | walk1 | (dsimp only; walk1) | (leave1; try dsimp only)))
        refine WStep.next (mixm (by assumption)) (by assumption) ?_ ⟨_, _, _, _, _, funext fun y => rfl, rfl, fun X hX => a1 _ (.go (by simp only [stepG]; rw [if_pos hb, if_pos q1, if_neg hin]) hX), P5, e3, a4.append' (.cons _ _ .nil), ?_, ?_⟩
        · have l1 := len_head hb
          have l2 := len_dropWhile (f := isSp) (r1.drop 1)
          have l3 := len_name q1
          have l4 := len_dropWhile (f := isSp) (((r1.drop 1).dropWhile isSp).dropWhile isNC)
          (first | lia | omega)
        · have l1 := len_head hb
          have l2 := len_dropWhile (f := isSp) (r1.drop 1)
          have l3 := len_name q1
          have l4 := len_dropWhile (f := isSp) (((r1.drop 1).dropWhile isSp).dropWhile isNC)
          rw [List.length_append, List.length_singleton]
          (first | lia | omega)
        · exact d6.trans (((k4.cons).mono fun _ q => by rw [List.mem_singleton.mp q]; exact .head _).trans (K5.mono fun _ q => .tail _ q))
theorem Kp.trF {M M' : List Addr} {a b c : Led} (k1 : Kp M a b) (k2 : Kp M' b c) (h : ∀ p ∈ a, p.1 ∈ M' → p.1 ∈ M) : Kp M a c := fun p hp hi => k2 p (k1 p hp hi) fun hm => hi (h p hp hm)
theorem Kp.off {M : List Addr} {a b : Led} {l : Addr} (k : Kp M a b) (h : ∀ p ∈ a, p.1 ≠ l) : Kp M a (off l b) := fun p hp hi => off_mem (k p hp hi) (h p hp)
structure Gr where
  g : Addr
  q : Addr
  pl : Addr
  sg : Str
  ds : List Dat
noncomputable def Gr.pure (z : Gr) : Str × List Dat := (z.sg, z.ds)
noncomputable def Stk (w : World) (gl : Addr) (st : List Gr) (n : Led) : Prop := (∃ nn, (gl, listOf ((st.map fun z => Value.ref z.g).reverse).toArray nn) ∈ n) ∧ ∀ z ∈ st, GrD w z.g z.q z.pl z.sg n ∧ GrL z.pl z.ds n
noncomputable def Own (gl : Addr) : List Gr → Prop
  | [] => True
  | z :: st => z.q ≠ gl ∧ z.pl ≠ gl ∧ z.q ≠ z.pl ∧ (∀ y ∈ st, y.q ≠ z.q ∧ y.pl ≠ z.q ∧ y.q ≠ z.pl ∧ y.pl ≠ z.pl) ∧ Own gl st
noncomputable def Fresh (news : Led) (st : List Gr) : Prop := ∀ z ∈ st, ∀ p ∈ news, p.1 ≠ z.q ∧ p.1 ≠ z.pl
noncomputable def tot : List Gr → Nat
  | [] => 0
  | z :: st => z.ds.length + 1 + tot st
theorem tot_len : ∀ st : List Gr, st.length ≤ tot st
  | [] => Nat.le_refl _
  | z :: st => by
    have := tot_len st
    simp only [List.length_cons, tot]; (first | lia | omega)
theorem Own.away {gl : Addr} : ∀ {st : List Gr}, Own gl st → ∀ z ∈ st, z.q ≠ gl ∧ z.pl ≠ gl
  | _ :: _, h, z, hz => by
    rcases List.mem_cons.mp hz with rfl | hz
    · exact ⟨h.1, h.2.1⟩
    · exact h.2.2.2.2.away z hz
theorem GrL.kp {pl : Addr} {ds : List Dat} {M : List Addr} {n n' : Led} (h : GrL pl ds n) (k : Kp M n n') (hd : pl ∉ M) : GrL pl ds n' := by
  obtain ⟨vs, nn, h1, h2⟩ := h
  exact ⟨vs, nn, k _ h1 fun e => absurd e hd, h2.imm k.imm⟩
theorem Stk.kp {w : World} {gl : Addr} {st : List Gr} {M : List Addr} {n n' : Led} (h : Stk w gl st n) (k : Kp M n n') (hg : gl ∉ M) (hs : ∀ z ∈ st, z.q ∉ M ∧ z.pl ∉ M) : Stk w gl st n' := by
  obtain ⟨⟨nn, h1⟩, h2⟩ := h
  exact ⟨⟨nn, k _ h1 fun e => absurd e hg⟩, fun z hz => ⟨(h2 z hz).1.kp k (hs z hz).1, (h2 z hz).2.kp k (hs z hz).2⟩⟩
theorem Stk.kpd {w : World} {gl d : Addr} {st : List Gr} {news n n' : Led} {o : Obj} (h : Stk w gl st n) (k : Kp [d] n n') (hd : (d, o) ∈ news) (hg : ∀ p ∈ news, p.1 ≠ gl) (hf : Fresh news st) : Stk w gl st n' :=
  h.kp k (fun e => hg _ hd (List.mem_singleton.mp e).symm) fun z hz => ⟨fun e => (hf z hz _ hd).1 (List.mem_singleton.mp e).symm, fun e => (hf z hz _ hd).2 (List.mem_singleton.mp e).symm⟩
noncomputable def mG (gl x : Addr) (fv nv : Option Value) : Str → Option Value := fun y => if y = Str.ofString "found" then fv else if y = Str.ofString "name" then nv else List.lookup y [(Str.ofString "groups", Value.ref gl), (Str.ofString "scanner", Value.ref x)]
theorem idx_neg {α : Type} (l : List α) (a : α) : seqIndex? (-1) (l ++ [a]).length = some l.length ∧ (l ++ [a])[l.length]? = some a := by
  refine ⟨?_, by simp⟩
  unfold seqIndex?
  simp only [List.length_append, List.length_singleton]
  have : ((-1 : Int) + ((l.length + 1 : Nat) : Int)) = (l.length : Int) := by (first | lia | omega)
  simp
  refine ⟨⟨by (first | lia | omega), by (first | lia | omega)⟩, by (first | lia | omega)⟩
theorem kl_last_app (p : List Value) (y : Value) : kl_last (p ++ [y]) = some (p, y) := by
  induction p with
  | nil => rfl
  | cons x p ih => simp only [List.cons_append, kl_last, ih]
theorem group_new {w : World} {pc : Int} {tp : Tok} {news : Led} :
    Con w 264 [.int pc tp] 30 200 news [] (fun v n' => ∃ g q pl, v = .ref g ∧ GrD w g q pl (Str.ofString "") n' ∧ GrL pl [] n' ∧ q ≠ pl ∧ ∀ p ∈ news, p.1 ≠ q ∧ p.1 ≠ pl) False := by
  intro mean mg mb dp un gd cn cs a ccd cl outer A₀ base h₀ L m s Q E B F X N Tp hk hd1 hu1 hret herr; refine call_cls F X N (by k_dflt k_is) (by k_dflt k_is) (by k_dflt k_is) ?_; intro ci cd h1 F1 N1 l1 l2; (try k_lt l1); (try k_lt2 l2); (try k_sweep); k_dflt (refine' code_def (binds := [("self", .ref ci), ("place", .int pc tp)]) ?k1 ?k2 ?k3 ?k4 ?k5 ?kA ?kF ?kK ?k6 ?k7 ?k8 ?k9 ?kB ?_ ?c2 ?c3 ?c4 ?c5; (case kA => exact rfl); (case kF => exact rfl); (case kK => assumption); (case k1 => k_asm); (case k2 => k_asm); (case k3 => k_asm); (case k4 => k_asm); (case k5 => k_asm); (case k6 => k_is); (case k7 => k_is); (case k8 => first | exact room0 (by assumption) | exact room1 (by assumption) rfl | exact room2 (by assumption) rfl | exact room3 (by assumption) rfl | exact roomA (by assumption) rfl | exact roomS (by assumption) rfl | exact roomM (by assumption) rfl | exact roomB (by assumption) rfl); (case k9 => exact BindsTo.of_eq rfl); (case c5 => decide); (case kB => exact locs rfl); (case c2 => exact rfl); (case c3 => exact rfl); (case c4 => exact rfl); k_whole); intro g' L' hp FG' F' N' B' X' T'; (try dsimp only [List.reverse_cons, List.reverse_nil, List.nil_append, List.cons_append, List.length_cons, List.length_nil, Nat.zero_add] at F' ⊢); k_fold; refine fold_env ?_; intro e₁ A₁
  repeat' (first | ((with_reducible show wpAny _ _ (exec _ _) _ _ _); k_fold) | ((fail_if_success (with_reducible refine stop_of Stop1 (by constructor) ?_)); first | (k_unfold; (try dsimp only)) | (k_end; wrow_close) | walk1 | (dsimp only; walk1) | (leave1; try dsimp only)))
  rename _ ∧ _ ∧ _ => l3
  exact hret _ _ _ _ (by assumption) (by assumption) (Kp.sub fun p hp => .tail _ (.tail _ (.tail _ hp))) ⟨ci, cd, _, rfl, ⟨.tail _ (.head _), _, _, _, _, _, _, .tail _ (.tail _ (.head _))⟩, ⟨[], _, .head _, .nil⟩, Nat.ne_of_lt l3.2.1, fun p hp => ⟨Nat.ne_of_lt (l1 p hp), Nat.ne_of_lt (Nat.lt_trans (l1 p hp) l3.2.1)⟩⟩
theorem Fresh.cons {news : Led} {z : Gr} {st : List Gr} (h : ∀ p ∈ news, p.1 ≠ z.q ∧ p.1 ≠ z.pl) (k : Fresh news st) : Fresh news (z :: st) := fun y hy => by
  rcases List.mem_cons.mp hy with rfl | hy
  · exact h
  · exact k y hy
theorem Fresh.tail {news : Led} {z : Gr} {st : List Gr} (k : Fresh news (z :: st)) : Fresh news st := fun y hy => k y (.tail _ hy)
theorem Fresh.upd {news : Led} {z : Gr} {st : List Gr} {sg : Str} {ds : List Dat} (k : Fresh news (z :: st)) : Fresh news (⟨z.g, z.q, z.pl, sg, ds⟩ :: st) := Fresh.cons (k z (.head _)) k.tail
theorem Stk.push {w : World} {gl : Addr} {z : Gr} {st : List Gr} {n n' : Led} {h₀ h : Heap} {L : Addr} {vs : List Value} {nn k : Nat} {v : Value} {D : Dat} (N : News h₀ L h n) (S : Stk w gl (z :: st) n) (O : Own gl (z :: st)) (hm : (z.pl, listOf vs.toArray nn) ∈ n) (hT : TAll n vs z.ds) (hs : ∀ p ∈ off z.pl n, p ∈ n')
    (hl : (z.pl, listOf (vs ++ [v]).toArray k) ∈ n') (hv : TIn n' v D) : Stk w gl (⟨z.g, z.q, z.pl, z.sg, z.ds ++ [D]⟩ :: st) n' := by
  have kk : Kp [z.pl] n n' := (off_kp N hm rfl).trans (Kp.sub hs)
  obtain ⟨o1, o2, o3, o4, o5⟩ := O
  obtain ⟨⟨nn, s1⟩, s2⟩ := S
  refine ⟨⟨nn, kk _ s1 fun e => absurd (List.mem_singleton.mp e).symm o2⟩, fun y hy => ?_⟩
  rcases List.mem_cons.mp hy with rfl | hy
  · exact ⟨(s2 z (.head _)).1.kp kk (fun e => o3 (List.mem_singleton.mp e)), _, _, hl, (hT.imm kk.imm).snoc hv⟩
  · obtain ⟨q1, q2, q3, q4⟩ := o4 y hy
    exact ⟨(s2 y (.tail _ hy)).1.kp kk (fun e => q3 (List.mem_singleton.mp e)), (s2 y (.tail _ hy)).2.kp kk (fun e => q4 (List.mem_singleton.mp e))⟩
theorem Stk.sign {w : World} {gl d : Addr} {z : Gr} {st : List Gr} {news n n' : Led} {o : Obj} {sg : Str} (S : Stk w gl (z :: st) n) (O : Own gl (z :: st)) (K : Kp [d, z.q] n n') (hd : (d, o) ∈ news) (hg : ∀ p ∈ news, p.1 ≠ gl) (hf : Fresh news (z :: st)) (G : GrD w z.g z.q z.pl sg n') : Stk w gl (⟨z.g, z.q, z.pl, sg, z.ds⟩ :: st) n' := by
  obtain ⟨o1, o2, o3, o4, o5⟩ := O
  obtain ⟨⟨nn, s1⟩, s2⟩ := S
  have two : ∀ a : Addr, a ≠ d → a ≠ z.q → a ∉ [d, z.q] := fun a x y e => by
    rcases List.mem_cons.mp e with e | e
    · exact x e
    · exact y (List.mem_singleton.mp e)
  refine ⟨⟨nn, K _ s1 fun e => absurd e (two _ (fun e => hg _ hd e.symm) o1.symm)⟩, fun y hy => ?_⟩
  rcases List.mem_cons.mp hy with rfl | hy
  · exact ⟨G, (s2 z (.head _)).2.kp K (two _ (fun e => (hf z (.head _) _ hd).2 e.symm) o3.symm)⟩
  · obtain ⟨q1, q2, q3, q4⟩ := o4 y hy
    exact ⟨(s2 y (.tail _ hy)).1.kp K (two _ (fun e => (hf y (.tail _ hy) _ hd).1 e.symm) q1), (s2 y (.tail _ hy)).2.kp K (two _ (fun e => (hf y (.tail _ hy) _ hd).2 e.symm) q2)⟩
theorem mG_name {h₀ h : Heap} {L gl x : Addr} {fv nv : Option Value} {v : Value} (F : Fr h₀ L h (fun y => if y = Str.ofString "name" then some v else mG gl x fv nv y)) : Fr h₀ L h (mG gl x fv (some v)) := by
  have e : (fun y => if y = Str.ofString "name" then some v else mG gl x fv nv y) = mG gl x fv (some v) := by
    funext y
    unfold mG
    by_cases e1 : y = Str.ofString "name"
    · subst e1
      rw [if_pos rfl, if_neg (by decide +kernel), if_pos rfl]
    · rw [if_neg e1, if_neg e1, if_neg e1]
  rw [e] at F
  exact F
theorem mG_found {h₀ h : Heap} {L gl x : Addr} {fv nv : Option Value} {v : Value} (F : Fr h₀ L h (fun y => if y = Str.ofString "found" then some v else mG gl x fv nv y)) : Fr h₀ L h (mG gl x (some v) nv) := by
  have e : (fun y => if y = Str.ofString "found" then some v else mG gl x fv nv y) = mG gl x (some v) nv := by
    funext y
    unfold mG
    by_cases e1 : y = Str.ofString "found"
    · rw [if_pos e1, if_pos e1]
    · rw [if_neg e1, if_neg e1, if_neg e1]
  rw [e] at F
  exact F
theorem fresh_of {news n : Led} {d a b : Addr} {o : Obj} (K : Kp [d] news n) (hd : (d, o) ∈ n) (h : ∀ p ∈ n, p.1 ≠ a ∧ p.1 ≠ b) : ∀ p ∈ news, p.1 ≠ a ∧ p.1 ≠ b := fun p hp => by
  by_cases e : p.1 = d
  · rw [e]; exact h _ hd
  · exact h p (K p hp fun q => absurd (List.mem_singleton.mp q) e)
theorem news_tail {h₀ h : Heap} {L : Addr} {news : Led} {o : Addr × Obj} (N : News h₀ L h (o :: news)) : News h₀ L h news := fun p hp => N p (.tail _ hp)
theorem two_fresh {news : Led} {d a : Addr} (h : ∀ p ∈ news, p.1 ≠ a) : ∀ p ∈ news, p.1 ∈ [d, a] → p.1 ∈ [d] := fun p hp e => by
  rcases List.mem_cons.mp e with e | e
  · rw [e]; exact .head _
  · exact absurd (List.mem_singleton.mp e) (h p hp)
theorem len_goesR {sg sg' : Str} {r r2 : List Nat} {b : Bool} (h : goesR sg r = some (b, r2, sg')) : r2.length < r.length := by
  cases r with
  | nil => cases h
  | cons c r =>
    simp only [goesR] at h
    split at h
    · split at h
      · cases h; exact Nat.lt_succ_self _
      · cases h
    · split at h
      · cases h; exact Nat.lt_succ_self _
      · cases h
theorem read_group {w : World} {T : Str} {r : List Nat} {x d : Addr} {news : Led} (hT : T.length ≤ 1000000) (hA : Asc T) (Z : Sc w T x d r news) :
    Con w 275 [.ref x] 300 2000 news [d] (fun v n' => ∃ D r', Ev (.grp true [(Str.ofString "", [])] r) (some (D, r')) ∧ TIn n' v D ∧ Sc w T x d r' n') (Ev (.grp true [(Str.ofString "", [])] r) none) := by
  refine el_sc Z ?_
  intro t1 t2 t3 t4 i h2 h1 h3
  intro mean mg mb dp un gd cn cs a ccd cl outer A₀ base h₀ L m s Q E B F X N Tp hk hd1 hu1 hret herr; refine wpAny_call ?_; k_dflt (refine' code_def (binds := [("scanner", .ref x)]) ?k1 ?k2 ?k3 ?k4 ?k5 ?kA ?kF ?kK ?k6 ?k7 ?k8 ?k9 ?kB ?_ ?c2 ?c3 ?c4 ?c5; (case kA => exact rfl); (case kF => exact rfl); (case kK => assumption); (case k1 => k_asm); (case k2 => k_asm); (case k3 => k_asm); (case k4 => k_asm); (case k5 => k_asm); (case k6 => k_is); (case k7 => k_is); (case k8 => first | exact room0 (by assumption) | exact room1 (by assumption) rfl | exact room2 (by assumption) rfl | exact room3 (by assumption) rfl | exact roomA (by assumption) rfl | exact roomS (by assumption) rfl | exact roomM (by assumption) rfl | exact roomB (by assumption) rfl); (case k9 => exact BindsTo.of_eq rfl); (case c5 => decide); (case kB => exact locs rfl); (case c2 => exact rfl); (case c3 => exact rfl); (case c4 => exact rfl); k_whole); intro g' L' hp FG' F' N' B' X' T'; (try dsimp only [List.reverse_cons, List.reverse_nil, List.nil_append, List.cons_append, List.length_cons, List.length_nil, Nat.zero_add] at F' ⊢); k_fold; refine fold_env ?_; intro e₁ A₁
  repeat' (first | ((with_reducible show wpAny _ _ (exec _ _) _ _ _); k_fold) | ((fail_if_success (with_reducible refine stop_of Stop4 (by constructor) ?_)); (fail_if_success (with_reducible refine stop_of Stop1 (by constructor) ?_)); first | (k_unfold; (try dsimp only)) | (k_end; wrow_close) | walk1 | (dsimp only; walk1) | (leave1; try dsimp only)) | walk_at "mine item" | fail)
  (k_dflt (refine' con_use ?kNz32 group_new ?kBz32 ?kFz32 ?kXz32 ?kTz32 ?kKz32 ?kDz32 ?kUz32 ?kOkz32 ?kErrz32; (case kNz32 => k_asm); (case kBz32 => k_asm); (case kFz32 => k_asm); (case kXz32 => k_asm); (case kTz32 => k_asm); (case kKz32 => first | exact rfl | assumption); (case kDz32 => first | exact room0 (by assumption) | exact room1 (by assumption) rfl | exact room2 (by assumption) rfl | exact room3 (by assumption) rfl | exact roomA (by assumption) rfl | exact roomS (by assumption) rfl | exact roomM (by assumption) rfl | exact roomB (by assumption) rfl); (case kUz32 => first | exact room0 (by assumption) | exact room1 (by assumption) rfl | exact room2 (by assumption) rfl | exact room3 (by assumption) rfl | exact roomA (by assumption) rfl | exact roomS (by assumption) rfl | exact roomM (by assumption) rfl | exact roomB (by assumption) rfl)))
  case kErrz32 => intro hf; exact hf.elim
  intro r1 news1 hh1 tk1 F1 N1 K1 P1
  refine el34 P1 ?_
  intro g q pl hQ9 G1 G2 hqp hfr
  subst hQ9
  repeat' (first | ((with_reducible show wpAny _ _ (exec _ _) _ _ _); k_fold) | ((fail_if_success (with_reducible refine stop_of Stop4 (by constructor) ?_)); (fail_if_success (with_reducible refine stop_of Stop1 (by constructor) ?_)); first | (k_unfold; (try dsimp only)) | (k_end; wrow_close) | walk1 | (dsimp only; walk1) | (leave1; try dsimp only)) | walk_at "mine item" | fail)
  rename_i gl h8 l9 h9 F9 N9
  have hgl : ∀ p ∈ news, p.1 ≠ gl := fun p hp => Nat.ne_of_lt (l9 p (K1.of_nil p hp))
  refine While_my (n₀ := r.length) (fun n m₁ nx => ∃ st r1 fv nv, m₁ = mG gl x fv nv ∧ r1.length = n ∧ st ≠ [] ∧ (∀ X, Ev (.grp true (st.map Gr.pure) r1) X → Ev (.grp true [(Str.ofString "", [])] r) X) ∧ Sc w T x d r1 nx ∧ Stk w gl st nx ∧ Own gl st ∧ Fresh news st ∧ Kp [d] news nx ∧ tot st + r1.length ≤ T.length + 1) (by assumption) (by assumption) ⟨[⟨g, q, pl, Str.ofString "", []⟩], r, none, none, ?_, rfl, (fun e => nomatch e), fun _ h => h, ?_, ?_, ?_, ?_, ?_, ?_⟩ ?_
  · funext y
    unfold mG
    by_cases e : y = Str.ofString "found"
    · subst e; rfl
    · rw [if_neg e]
      by_cases e : y = Str.ofString "name"
      · subst e; rfl
      · rw [if_neg e]; exact lk_cons _ _ _ _
  · exact (Z.kp K1 (fun e => nomatch e)).sub fun p hp => .tail _ hp
  · refine ⟨⟨_, .head _⟩, fun y hy => ?_⟩
    rw [List.mem_singleton.mp hy]
    exact ⟨GrD.kp (M := []) G1 (Kp.cons Kp.refl) (fun e => nomatch e), G2.kp (M := []) (Kp.cons Kp.refl) (fun e => nomatch e)⟩
  · refine fold_goal ?_; intro G9 k9; obtain ⟨i3, e1, e2, e3, e4, e5, pc, i4⟩ := id G1; refine k9 ?_; clear k9 G9
    refine fold_goal ?_; intro G9 k9; obtain ⟨vs, ni, i5, i6⟩ := id G2; refine k9 ?_; clear k9 G9
    exact ⟨Nat.ne_of_lt (l9 _ i4), Nat.ne_of_lt (l9 _ i5), hqp, fun y hy => (nomatch hy), trivial⟩
  · exact Fresh.cons hfr fun _ q => nomatch q
  · exact Kp.cons (K1.mono fun _ e => nomatch e)
  · have := h3.len
    simp only [tot, List.length_nil]; (first | lia | omega)
  · intro n m₁ nx h8 tk8 F8 N8 J9; refine fold_goal ?_; intro G9 k9; obtain ⟨st, r1, fv, nv, rfl, rfl, a0, a1, a2, a3, a4, a5, a6, a7⟩ := J9; refine k9 ?_; clear k9 G9
    refine el_sc a2 ?_
    intro u1 u2 u3 u4 j y2 y1 y3
    repeat' (first | ((with_reducible show wpAny _ _ (exec _ _) _ _ _); k_fold) | ((fail_if_success (with_reducible refine stop_of Stop4 (by constructor) ?_)); (fail_if_success (with_reducible refine stop_of Stop1 (by constructor) ?_)); first | (k_unfold; (try dsimp only)) | (k_end; wrow_close) | walk1 | (dsimp only; walk1) | (leave1; try dsimp only)) | walk_at "mine item" | fail)
    (k_dflt (refine' con_use ?kNz33 (spaces hT a2) ?kBz33 ?kFz33 ?kXz33 ?kTz33 ?kKz33 ?kDz33 ?kUz33 ?kOkz33 ?kErrz33; (case kNz33 => k_asm); (case kBz33 => k_asm); (case kFz33 => k_asm); (case kXz33 => k_asm); (case kTz33 => k_asm); (case kKz33 => first | exact rfl | assumption); (case kDz33 => first | exact room0 (by assumption) | exact room1 (by assumption) rfl | exact room2 (by assumption) rfl | exact room3 (by assumption) rfl | exact roomA (by assumption) rfl | exact roomS (by assumption) rfl | exact roomM (by assumption) rfl | exact roomB (by assumption) rfl); (case kUz33 => first | exact room0 (by assumption) | exact room1 (by assumption) rfl | exact room2 (by assumption) rfl | exact room3 (by assumption) rfl | exact roomA (by assumption) rfl | exact roomS (by assumption) rfl | exact roomM (by assumption) rfl | exact roomB (by assumption) rfl)))
    case kErrz33 => intro hf; exact hf.elim
    intro r2 news2 hh2 tk2 F2 N2 K2 P2
    have b3 := a3.kpd K2 h1 hgl a5
    have b6 := a6.trans K2
    have l2 := len_dropWhile (f := isSp) r1
    generalize hr1 : r1.dropWhile isSp = r2 at P2 l2
    refine el_sc P2 ?_
    intro v1 v2 v3 v4 j2 y4 y5 y6
    repeat' (first | ((with_reducible show wpAny _ _ (exec _ _) _ _ _); k_fold) | ((fail_if_success (with_reducible refine stop_of Stop4 (by constructor) ?_)); (fail_if_success (with_reducible refine stop_of Stop1 (by constructor) ?_)); first | (k_unfold; (try dsimp only)) | (k_end; wrow_close) | walk1 | (dsimp only; walk1) | (leave1; try dsimp only)) | walk_at "mine item" | fail)
    (k_dflt (refine' con_use ?kNz34 (takes (wl := [40]) (by decide +kernel) (by show 1 ≤ 1000; decide) P2) ?kBz34 ?kFz34 ?kXz34 ?kTz34 ?kKz34 ?kDz34 ?kUz34 ?kOkz34 ?kErrz34; (case kNz34 => k_asm); (case kBz34 => k_asm); (case kFz34 => k_asm); (case kXz34 => k_asm); (case kTz34 => k_asm); (case kKz34 => first | exact rfl | assumption); (case kDz34 => first | exact room0 (by assumption) | exact room1 (by assumption) rfl | exact room2 (by assumption) rfl | exact room3 (by assumption) rfl | exact roomA (by assumption) rfl | exact roomS (by assumption) rfl | exact roomM (by assumption) rfl | exact roomB (by assumption) rfl); (case kUz34 => first | exact room0 (by assumption) | exact room1 (by assumption) rfl | exact room2 (by assumption) rfl | exact room3 (by assumption) rfl | exact roomA (by assumption) rfl | exact roomS (by assumption) rfl | exact roomM (by assumption) rfl | exact roomB (by assumption) rfl)))
    case kErrz34 => intro hf; exact hf.elim
    intro r3 news3 hh3 tk3 F3 N3 K3 P3
    have hQ9 := P3.1
    have S3 := P3.2
    subst hQ9
    have c3 := b3.kpd K3 h1 hgl a5
    have c6 := b6.trans K3
    rw [headIs_iff]
    have hk9 : [40].isPrefixOf r2 = headIs (· == 40) r2 := headIs_iff 40 r2
    unfold tkr at S3
    simp only [List.length_cons, List.length_nil, Nat.zero_add] at S3
    cases hb : headIs (· == 40) r2
    · rw [if_neg (by rw [hk9, hb]; decide)] at S3
      refine el_sc S3 ?_
      intro w1 w2 w3 w4 j3 y7 y8 y9
      repeat' (first | ((with_reducible show wpAny _ _ (exec _ _) _ _ _); k_fold) | ((fail_if_success (with_reducible refine stop_of Stop4 (by constructor) ?_)); (fail_if_success (with_reducible refine stop_of Stop1 (by constructor) ?_)); first | (k_unfold; (try dsimp only)) | (k_end; wrow_close) | walk1 | (dsimp only; walk1) | (leave1; try dsimp only)) | walk_at "mine item" | fail)
      (k_dflt (refine' con_use ?kNz35 (name hT hA S3) ?kBz35 ?kFz35 ?kXz35 ?kTz35 ?kKz35 ?kDz35 ?kUz35 ?kOkz35 ?kErrz35; (case kNz35 => k_asm); (case kBz35 => k_asm); (case kFz35 => k_asm); (case kXz35 => k_asm); (case kTz35 => k_asm); (case kKz35 => first | exact rfl | assumption); (case kDz35 => first | exact room0 (by assumption) | exact room1 (by assumption) rfl | exact room2 (by assumption) rfl | exact room3 (by assumption) rfl | exact roomA (by assumption) rfl | exact roomS (by assumption) rfl | exact roomM (by assumption) rfl | exact roomB (by assumption) rfl); (case kUz35 => first | exact room0 (by assumption) | exact room1 (by assumption) rfl | exact room2 (by assumption) rfl | exact room3 (by assumption) rfl | exact roomA (by assumption) rfl | exact roomS (by assumption) rfl | exact roomM (by assumption) rfl | exact roomB (by assumption) rfl)))
      case kErrz35 =>
        intro hp e t vs n9 h9 tk9 g9 Fg U R K9; (repeat (k_unfold; try dsimp only)); refine leave_onK (by assumption) Fg R U (fun h'' R' U' => ?_)
        exact herr (a1 _ (.stop (by simp only [stepG]; rw [hr1, if_neg (by rw [hb]; decide), if_neg (by rw [hp]; decide)]))) _ _ _ _ _ _ _ FG' U' R' (c6.trans K9)
      intro r4 news4 hh4 tk4 F4 N4 K4 P4
      refine el_tAS P4 ?_
      intro t9 hQ9 q1 S4
      subst hQ9
      have d3 := c3.kpd K4 h1 hgl a5
      have d6 := c6.trans K4
      refine el_sc S4 ?_
      intro z2 z3 z4 z5 z6 z1 z7 z8
      cases st with
      | nil => exact absurd rfl a0
      | cons z st =>
        obtain ⟨⟨nn, i1⟩, i2⟩ := id d3
        refine fold_goal ?_; intro G9 k9; obtain ⟨⟨i3, e1, e2, e3, e4, e5, pc, i4⟩, vs, ni, i5, i6⟩ := i2 z (.head _); refine k9 ?_; clear k9 G9
        rw [List.map_cons, List.reverse_cons] at i1
        have ix := idx_neg ((st.map fun z => Value.ref z.g).reverse) (Value.ref z.g)
        repeat' (first | ((with_reducible show wpAny _ _ (exec _ _) _ _ _); k_fold) | ((fail_if_success (with_reducible refine stop_of Stop4 (by constructor) ?_)); (fail_if_success (with_reducible refine stop_of Stop1 (by constructor) ?_)); first | (k_unfold; (try dsimp only)) | (k_end; wrow_close) | walk1 | (dsimp only; walk1) | (leave1; try dsimp only)) | walk_at "mine item" | fail)
        refine kde_neg (News.isList (by assumption) i1) (by decide) (by decide) ix.1 ix.2 ?_
        repeat' (first | ((with_reducible show wpAny _ _ (exec _ _) _ _ _); k_fold) | ((fail_if_success (with_reducible refine stop_of Stop4 (by constructor) ?_)); (fail_if_success (with_reducible refine stop_of Stop1 (by constructor) ?_)); first | (k_unfold; (try dsimp only)) | (k_end; wrow_close) | walk1 | (dsimp only; walk1) | (leave1; try dsimp only)) | walk_at "mine item" | fail)
        (k_dflt (refine' con_use ?kNz36 (read_mark S4) ?kBz36 ?kFz36 ?kXz36 ?kTz36 ?kKz36 ?kDz36 ?kUz36 ?kOkz36 ?kErrz36; (case kNz36 => k_asm); (case kBz36 => k_asm); (case kFz36 => k_asm); (case kXz36 => k_asm); (case kTz36 => k_asm); (case kKz36 => first | exact rfl | assumption); (case kDz36 => first | exact room0 (by assumption) | exact room1 (by assumption) rfl | exact room2 (by assumption) rfl | exact room3 (by assumption) rfl | exact roomA (by assumption) rfl | exact roomS (by assumption) rfl | exact roomM (by assumption) rfl | exact roomB (by assumption) rfl); (case kUz36 => first | exact room0 (by assumption) | exact room1 (by assumption) rfl | exact room2 (by assumption) rfl | exact room3 (by assumption) rfl | exact roomA (by assumption) rfl | exact roomS (by assumption) rfl | exact roomM (by assumption) rfl | exact roomB (by assumption) rfl)))
        case kErrz36 => intro hf; exact hf.elim
        intro r5 news5 hh5 tk5 F5 N5 K5 P5
        refine el_tS P5 ?_
        intro t8 hQ9 S5
        subst hQ9
        have g3 := d3.kpd K5 h1 hgl a5
        have g6 := d6.trans K5
        obtain ⟨⟨nn5, j1⟩, j2⟩ := id g3
        refine fold_goal ?_; intro G9 k9; obtain ⟨⟨j3, e1, e2, e3, e4, e5, pc, j4⟩, vs5, ni5, j5, j6⟩ := j2 z (.head _); refine k9 ?_; clear k9 G9
        have hpush := fun v D n' k => Stk.push (k := k) (v := v) (D := D) (n' := n') N5 g3 a4 j5 j6
        have N6 := news_front N5 j5
        have kp5 := off_kp N5 j5 rfl
        have kpn : ∀ o o', Kp [z.pl] news5 (o :: o' :: off z.pl news5) := fun o o' => kp5.cons.cons
        have hz5 : vs5.toArray.size ≤ sizeLine := by
          rw [List.size_toArray, j6.len, sizeLine_eq]; simp only [tot] at a7; (first | lia | omega)
        repeat' (first | ((with_reducible show wpAny _ _ (exec _ _) _ _ _); k_fold) | ((fail_if_success (with_reducible refine stop_of Stop4 (by constructor) ?_)); (fail_if_success (with_reducible refine stop_of Stop1 (by constructor) ?_)); first | (k_unfold; (try dsimp only)) | (k_end; wrow_close) | walk1 | (dsimp only; walk1) | (leave1; try dsimp only)) | walk_at "mine item" | fail)
        rename News _ _ _ ((_, Obj.mk _ _ _ _) :: (z.pl, _) :: off z.pl news5) => N7
        rw [List.push_toArray] at N7
        refine While_my (n₀ := (mkr (r2.dropWhile isNC)).2.length) (fun n m₁ nx => ∃ st r3 fv nv, m₁ = mG gl x fv nv ∧ r3.length = n ∧ st ≠ [] ∧ (∀ X, Ev (.grp false (st.map Gr.pure) r3) X → Ev (.grp true [(Str.ofString "", [])] r) X) ∧ Sc w T x d r3 nx ∧ Stk w gl st nx ∧ Own gl st ∧ Fresh news st ∧ Kp [d] news nx ∧ tot st + r3.length ≤ T.length + 1 ∧ r3.length < r1.length) (mG_name (by assumption)) N7 ⟨_ :: st, _, fv, _, rfl, rfl, (fun e => nomatch e), fun X hX => a1 _ (.go (by simp only [stepG]; rw [hr1, if_neg (by rw [hb]; decide), if_pos q1]; (try rfl)) hX), ?_, hpush _ _ _ _ (fun p hp => .tail _ (.tail _ hp)) (.tail _ (.head _)) ?_, a4, a5.upd, ?_, ?_, ?_⟩ ?_
        · exact S5.kp (kpn _ _) (fun e => (a5 z (.head _) _ h1).2 (List.mem_singleton.mp e))
        · exact .tup (.head _) (.cons (.str _ _) (.cons (.str _ _) (.cons (.str _ _) .nil)))
        · exact g6.trF (kpn _ _) (fun p hp e => absurd (List.mem_singleton.mp e) (a5 z (.head _) p hp).2)
        · have m1 := len_name q1
          have m2 := len_mkr (r2.dropWhile isNC)
          simp only [tot, List.length_append, List.length_singleton] at a7 ⊢
          (first | lia | omega)
        · have m1 := len_name q1
          have m2 := len_mkr (r2.dropWhile isNC)
          (first | lia | omega)
        · intro n m₁ nx h8 tk8 F8 N8 J9; refine fold_goal ?_; intro G9 k9; obtain ⟨st, r3, fv, nv, rfl, rfl, p0, p1, p2, p3, p4, p5, p6, p7, p8⟩ := J9; refine k9 ?_; clear k9 G9
          cases st with
          | nil => exact absurd rfl p0
          | cons z st =>
          obtain ⟨⟨nn, i1⟩, i2⟩ := id p3
          refine fold_goal ?_; intro G9 k9; obtain ⟨⟨i3, e1, e2, e3, e4, e5, pc, i4⟩, vs, ni, i5, i6⟩ := i2 z (.head _); refine k9 ?_; clear k9 G9
          rw [List.map_cons, List.reverse_cons] at i1
          have ix := idx_neg ((st.map fun z => Value.ref z.g).reverse) (Value.ref z.g)
          repeat' (first | ((with_reducible show wpAny _ _ (exec _ _) _ _ _); k_fold) | ((fail_if_success (with_reducible refine stop_of Stop4 (by constructor) ?_)); (fail_if_success (with_reducible refine stop_of Stop1 (by constructor) ?_)); first | (k_unfold; (try dsimp only)) | (k_end; wrow_close) | walk1 | (dsimp only; walk1) | (leave1; try dsimp only)) | walk_at "mine item" | fail)
          refine kde_neg (News.isList (by assumption) i1) (by decide) (by decide) ix.1 ix.2 ?_
          repeat' (first | ((with_reducible show wpAny _ _ (exec _ _) _ _ _); k_fold) | ((fail_if_success (with_reducible refine stop_of Stop4 (by constructor) ?_)); (fail_if_success (with_reducible refine stop_of Stop1 (by constructor) ?_)); first | (k_unfold; (try dsimp only)) | (k_end; wrow_close) | walk1 | (dsimp only; walk1) | (leave1; try dsimp only)) | walk_at "mine item" | fail)
          have hdq : d ≠ z.q := (p5 z (.head _) _ h1).1
          (k_dflt (refine' con_use ?kNz37 (goes_on hT hdq p2 (i2 z (.head _)).1) ?kBz37 ?kFz37 ?kXz37 ?kTz37 ?kKz37 ?kDz37 ?kUz37 ?kOkz37 ?kErrz37; (case kNz37 => k_asm); (case kBz37 => k_asm); (case kFz37 => k_asm); (case kXz37 => k_asm); (case kTz37 => k_asm); (case kKz37 => first | exact rfl | assumption); (case kDz37 => first | exact room0 (by assumption) | exact room1 (by assumption) rfl | exact room2 (by assumption) rfl | exact room3 (by assumption) rfl | exact roomA (by assumption) rfl | exact roomS (by assumption) rfl | exact roomM (by assumption) rfl | exact roomB (by assumption) rfl); (case kUz37 => first | exact room0 (by assumption) | exact room1 (by assumption) rfl | exact room2 (by assumption) rfl | exact room3 (by assumption) rfl | exact roomA (by assumption) rfl | exact roomS (by assumption) rfl | exact roomM (by assumption) rfl | exact roomB (by assumption) rfl)))
          case kErrz37 =>
            intro hp e t vs n9 h9 tk9 g9 Fg U R K9; (repeat (k_unfold; try dsimp only)); refine leave_onK (by assumption) Fg R U (fun h'' R' U' => ?_)
            exact herr (p1 _ (.stop (by simp only [List.map_cons, Gr.pure, stepG]; rw [hp]))) _ _ _ _ _ _ _ FG' U' R' (p6.trF K9 (two_fresh fun p hp => (p5 z (.head _) p hp).1))
          intro r2 news2 hh2 tk2 F2 N2 K2 P2
          refine fold_goal ?_; intro G9 k9; obtain ⟨b, rr4, sg2, eg, rfl, S2, H2⟩ := P2; refine k9 ?_; clear k9 G9
          have q3 := p3.sign p4 K2 h1 hgl p5 H2
          have q6 := p6.trF K2 (two_fresh fun p hp => (p5 z (.head _) p hp).1)
          have lg := len_goesR eg
          have lg2 := len_dropWhile (f := isSp) r3
          cases b
          · obtain ⟨⟨nn2, m1⟩, m2⟩ := id q3
            refine fold_goal ?_; intro G9 k9; obtain ⟨⟨m3, c1, c2, c3, c4, c5, pc2, m4⟩, vs2, ni2, m5, m6⟩ := m2 _ (.head _); refine k9 ?_; clear k9 G9
            rw [List.map_cons, List.reverse_cons] at m1
            dsimp only at m1 m3 m4 m5 m6
            have N6 := news_front N2 m1
            have k6 := off_kp N2 m1 rfl
            have S6 := S2.kp k6 (fun e => hgl _ h1 (List.mem_singleton.mp e))
            have hz9 : ((st.map fun z => Value.ref z.g).reverse ++ [Value.ref z.g]).length ≤ sizeLine := by
              have t1 : st.length + 1 ≤ tot (z :: st) := tot_len (z :: st)
              rw [List.length_append, List.length_reverse, List.length_map, List.length_singleton, sizeLine_eq]
              (first | lia | omega)
            have hz10 : z.ds.length ≤ 1000000 := by
              have t1 : tot (z :: st) = z.ds.length + 1 + tot st := rfl
              (first | lia | omega)
            have m3' := k6 _ m3 fun _ => rfl
            have m4' := k6 _ m4 fun e => absurd (List.mem_singleton.mp e) p4.1
            repeat' (first | ((with_reducible show wpAny _ _ (exec _ _) _ _ _); k_fold) | ((fail_if_success (with_reducible refine stop_of Stop4 (by constructor) ?_)); (fail_if_success (with_reducible refine stop_of Stop1 (by constructor) ?_)); first | (k_unfold; (try dsimp only)) | (k_end; wrow_close) | walk1 | (dsimp only; walk1) | (leave1; try dsimp only)) | walk_at "mine item" | fail)
            refine kl_pop (by assumption) (by assumption) (kl_last_app _ _) (by k_upd) ?_ ?_
            · exact hz9
            intro h9 F9 N9
            have k7 := fun o => Kp.cons (q := o) k6
            have S7 := S2.kp (k7 (gl, listOf ((st.map fun z => Value.ref z.g).reverse).toArray (nn2 + 1))) (fun e => hgl _ h1 (List.mem_singleton.mp e))
            have st7 : Stk w gl st ((gl, listOf ((st.map fun z => Value.ref z.g).reverse).toArray (nn2 + 1)) :: off gl news2) := ⟨⟨_, .head _⟩, fun y hy => ⟨(m2 y (.tail _ hy)).1.kp (k7 _) (fun e => (p4.2.2.2.2.away y hy).1 (List.mem_singleton.mp e)), (m2 y (.tail _ hy)).2.kp (k7 _) (fun e => (p4.2.2.2.2.away y hy).2 (List.mem_singleton.mp e))⟩⟩
            have G7 := (m2 _ (.head _)).1.kp (k7 (gl, listOf ((st.map fun z => Value.ref z.g).reverse).toArray (nn2 + 1))) (fun e => p4.1 (List.mem_singleton.mp e))
            have L7 := (m2 _ (.head _)).2.kp (k7 (gl, listOf ((st.map fun z => Value.ref z.g).reverse).toArray (nn2 + 1))) (fun e => p4.2.1 (List.mem_singleton.mp e))
            dsimp only at G7 L7
            have w6 := q6.trF (k7 (gl, listOf ((st.map fun z => Value.ref z.g).reverse).toArray (nn2 + 1))) (fun p hp e => absurd (List.mem_singleton.mp e) (hgl p hp))
            have p5t := p5.tail
            have O5 := p4.2.2.2.2
            repeat' (first | ((with_reducible show wpAny _ _ (exec _ _) _ _ _); k_fold) | ((fail_if_success (with_reducible refine stop_of Stop4 (by constructor) ?_)); (fail_if_success (with_reducible refine stop_of Stop1 (by constructor) ?_)); first | (k_unfold; (try dsimp only)) | (k_end; wrow_close) | walk1 | (dsimp only; walk1) | (leave1; try dsimp only)) | walk_at "mine item" | fail)
            (k_dflt (refine' con_use ?kNz38 (read_mark S7) ?kBz38 ?kFz38 ?kXz38 ?kTz38 ?kKz38 ?kDz38 ?kUz38 ?kOkz38 ?kErrz38; (case kNz38 => k_asm); (case kBz38 => k_asm); (case kFz38 => k_asm); (case kXz38 => k_asm); (case kTz38 => k_asm); (case kKz38 => first | exact rfl | assumption); (case kDz38 => first | exact room0 (by assumption) | exact room1 (by assumption) rfl | exact room2 (by assumption) rfl | exact room3 (by assumption) rfl | exact roomA (by assumption) rfl | exact roomS (by assumption) rfl | exact roomM (by assumption) rfl | exact roomB (by assumption) rfl); (case kUz38 => first | exact room0 (by assumption) | exact room1 (by assumption) rfl | exact room2 (by assumption) rfl | exact room3 (by assumption) rfl | exact roomA (by assumption) rfl | exact roomS (by assumption) rfl | exact roomM (by assumption) rfl | exact roomB (by assumption) rfl)))
            case kErrz38 => intro hf; exact hf.elim
            intro r3 news3 hh3 tk3 F3 N3 K3 P3
            refine el_tS P3 ?_
            intro t8 hQ9 S8
            subst hQ9
            have st8 := st7.kpd K3 h1 hgl p5t
            have G8 := G7.kp K3 (fun e => (p5 z (.head _) _ h1).1 (List.mem_singleton.mp e).symm)
            have L8 := L7.kp K3 (fun e => (p5 z (.head _) _ h1).2 (List.mem_singleton.mp e).symm)
            have w8 := w6.trans K3
            repeat' (first | ((with_reducible show wpAny _ _ (exec _ _) _ _ _); k_fold) | ((fail_if_success (with_reducible refine stop_of Stop4 (by constructor) ?_)); (fail_if_success (with_reducible refine stop_of Stop1 (by constructor) ?_)); first | (k_unfold; (try dsimp only)) | (k_end; wrow_close) | walk1 | (dsimp only; walk1) | (leave1; try dsimp only)) | walk_at "mine item" | fail)
            (k_dflt (refine' con_use ?kNz39 (particle G8 L8 hz10) ?kBz39 ?kFz39 ?kXz39 ?kTz39 ?kKz39 ?kDz39 ?kUz39 ?kOkz39 ?kErrz39; (case kNz39 => k_asm); (case kBz39 => k_asm); (case kFz39 => k_asm); (case kXz39 => k_asm); (case kTz39 => k_asm); (case kKz39 => first | exact rfl | assumption); (case kDz39 => first | exact room0 (by assumption) | exact room1 (by assumption) rfl | exact room2 (by assumption) rfl | exact room3 (by assumption) rfl | exact roomA (by assumption) rfl | exact roomS (by assumption) rfl | exact roomM (by assumption) rfl | exact roomB (by assumption) rfl); (case kUz39 => first | exact room0 (by assumption) | exact room1 (by assumption) rfl | exact room2 (by assumption) rfl | exact room3 (by assumption) rfl | exact roomA (by assumption) rfl | exact roomS (by assumption) rfl | exact roomM (by assumption) rfl | exact roomB (by assumption) rfl)))
            case kErrz39 => intro hf; exact hf.elim
            intro r4 news4 hh4 tk4 F4 N4 K4 P4
            have st9 := st8.kp K4 (fun e => nomatch e) (fun y hy => ⟨(fun e => nomatch e), fun e => nomatch e⟩)
            have S9 := S8.kp K4 (fun e => nomatch e)
            have w9 := w8.trans (K4.mono fun _ e => nomatch e)
            obtain ⟨⟨nn9, l7⟩, l8⟩ := id st9
            have l7' : ∀ o, (gl, listOf ((st.map fun z => Value.ref z.g).reverse).toArray nn9) ∈ o :: news4 := fun o => .tail _ l7
            repeat' (first | ((with_reducible show wpAny _ _ (exec _ _) _ _ _); k_fold) | ((fail_if_success (with_reducible refine stop_of Stop4 (by constructor) ?_)); (fail_if_success (with_reducible refine stop_of Stop1 (by constructor) ?_)); first | (k_unfold; (try dsimp only)) | (k_end; wrow_close) | walk1 | (dsimp only; walk1) | (leave1; try dsimp only)) | walk_at "mine item" | fail)
            refine eq_nilK (by assumption) (l7' _) (.head _) (by first | exact room0 (by assumption) | exact room1 (by assumption) rfl | exact room2 (by assumption) rfl | exact room3 (by assumption) rfl | exact roomA (by assumption) rfl | exact roomS (by assumption) rfl | exact roomM (by assumption) rfl | exact roomB (by assumption) rfl) ?_
            rename News _ _ _ (_ :: news4) => N10
            have N11 := news_tail N10
            have ee : stepG (.grp false ((z :: st).map Gr.pure) r3) = (match st.map Gr.pure with
              | [] => .inr (some (gDat sg2 z.ds (mkr rr4).1, (mkr rr4).2))
              | p :: st => .inl (.grp false (pushD (gDat sg2 z.ds (mkr rr4).1) (p :: st)) (mkr rr4).2)) := by
              simp only [List.map_cons, Gr.pure, stepG]
              rw [eg] <;> (generalize List.map Gr.pure st = u; cases u <;> rfl)
            cases st with
            | nil =>
              repeat' (first | ((with_reducible show wpAny _ _ (exec _ _) _ _ _); k_fold) | ((fail_if_success (with_reducible refine stop_of Stop4 (by constructor) ?_)); (fail_if_success (with_reducible refine stop_of Stop1 (by constructor) ?_)); first | (k_unfold; (try dsimp only)) | (k_end; wrow_close) | walk1 | (dsimp only; walk1) | (leave1; try dsimp only)) | walk_at "mine item" | fail)
              all_goals (try dsimp only [WStep])
              repeat' (first | ((with_reducible show wpAny _ _ (exec _ _) _ _ _); k_fold) | ((fail_if_success (with_reducible refine stop_of Stop4 (by constructor) ?_)); (fail_if_success (with_reducible refine stop_of Stop1 (by constructor) ?_)); first | (k_unfold; (try dsimp only)) | (k_end; wrow_close) | walk1 | (dsimp only; walk1) | (leave1; try dsimp only)) | walk_at "mine item" | fail)
              all_goals (try dsimp only [WStep])
              repeat' (first | ((with_reducible show wpAny _ _ (exec _ _) _ _ _); k_fold) | ((fail_if_success (with_reducible refine stop_of Stop4 (by constructor) ?_)); (fail_if_success (with_reducible refine stop_of Stop1 (by constructor) ?_)); first | (k_unfold; (try dsimp only)) | (k_end; wrow_close) | walk1 | (dsimp only; walk1) | (leave1; try dsimp only)) | walk_at "mine item" | fail)
              all_goals exact hret _ _ _ _ (by assumption) (by assumption) w9 ⟨_, _, p1 _ (.stop ee), P4, S9⟩
            | cons y st =>
              have hne : ((y :: st).map fun z => Value.ref z.g).reverse.isEmpty = false := by simp
              rw [hne]
              refine fold_goal ?_; intro G9 k9; obtain ⟨⟨f3, e1, e2, e3, e4, e5, pc3, f4⟩, vs3, ni3, f5, f6⟩ := l8 y (.head _); refine k9 ?_; clear k9 G9
              rw [List.map_cons, List.reverse_cons] at l7
              have ix := idx_neg ((st.map fun z => Value.ref z.g).reverse) (Value.ref y.g)
              have hpush := fun v D n' k => Stk.push (k := k) (v := v) (D := D) (n' := n') N11 st9 O5 f5 f6
              have kp5 := off_kp N11 f5 rfl
              have kpn : ∀ o, Kp [y.pl] news4 (o :: off y.pl news4) := fun o => kp5.cons
              have N12 := news_front N11 f5
              have f3' := kp5 _ f3 fun _ => rfl
              have f4' := kp5 _ f4 fun e => absurd (List.mem_singleton.mp e) O5.2.2.1
              have hz5 : vs3.toArray.size ≤ sizeLine := by
                have t1 : tot (z :: y :: st) = z.ds.length + 1 + (y.ds.length + 1 + tot st) := rfl
                rw [List.size_toArray, f6.len, sizeLine_eq]; (first | lia | omega)
              repeat' (first | ((with_reducible show wpAny _ _ (exec _ _) _ _ _); k_fold) | ((fail_if_success (with_reducible refine stop_of Stop4 (by constructor) ?_)); (fail_if_success (with_reducible refine stop_of Stop1 (by constructor) ?_)); first | (k_unfold; (try dsimp only)) | (k_end; wrow_close) | walk1 | (dsimp only; walk1) | (leave1; try dsimp only)) | walk_at "mine item" | fail)
              refine kde_neg (News.isList (by assumption) l7) (by decide) (by decide) ix.1 ix.2 ?_
              repeat' (first | ((with_reducible show wpAny _ _ (exec _ _) _ _ _); k_fold) | ((fail_if_success (with_reducible refine stop_of Stop4 (by constructor) ?_)); (fail_if_success (with_reducible refine stop_of Stop1 (by constructor) ?_)); first | (k_unfold; (try dsimp only)) | (k_end; wrow_close) | walk1 | (dsimp only; walk1) | (leave1; try dsimp only)) | walk_at "mine item" | fail)
              rename News _ _ _ ((y.pl, _) :: off y.pl news4) => N13
              rw [List.push_toArray] at N13
              have t1 : tot (z :: y :: st) = z.ds.length + 1 + (y.ds.length + 1 + tot st) := rfl
              have t2 := len_mkr rr4
              refine WStep.next (mG_found (by assumption)) N13 (by (first | lia | omega)) ⟨⟨y.g, y.q, y.pl, y.sg, y.ds ++ [gDat sg2 z.ds (mkr rr4).1]⟩ :: st, (mkr rr4).2, _, nv, rfl, rfl, (fun e => nomatch e), fun X hX => p1 _ (.go (ee.trans rfl) hX), S9.kp (kpn _) (fun e => (p5t y (.head _) _ h1).2 (List.mem_singleton.mp e)), hpush _ _ _ _ (fun p hp => .tail _ hp) (.head _) (P4.imm (kpn _).imm), O5, p5t.upd, w9.trF (kpn _) (fun p hp e => absurd (List.mem_singleton.mp e) (p5t y (.head _) p hp).2), ?_, ?_⟩
              · simp only [tot, List.length_append, List.length_singleton]
                (first | lia | omega)
              · (first | lia | omega)
          · repeat' (first | ((with_reducible show wpAny _ _ (exec _ _) _ _ _); k_fold) | ((fail_if_success (with_reducible refine stop_of Stop4 (by constructor) ?_)); (fail_if_success (with_reducible refine stop_of Stop1 (by constructor) ?_)); first | (k_unfold; (try dsimp only)) | (k_end; wrow_close) | walk1 | (dsimp only; walk1) | (leave1; try dsimp only)) | walk_at "mine item" | fail)
            refine WStep.next (by assumption) (by assumption) (Nat.lt_of_le_of_lt (Nat.le_of_lt (Nat.lt_of_lt_of_le lg lg2)) p8) ⟨_ :: st, _, fv, nv, rfl, rfl, (fun e => nomatch e), fun X hX => p1 _ (.go (by simp only [List.map_cons, Gr.pure, stepG]; rw [eg]; (try rfl)) hX), S2, q3, p4, p5.upd, q6, ?_⟩
            have t1 : tot (z :: st) = z.ds.length + 1 + tot st := rfl
            simp only [tot]
            (first | lia | omega)
    · rw [if_pos (by rw [hk9, hb])] at S3
      refine el_sc S3 ?_
      intro w1 w2 w3 w4 j3 y7 y8 y9
      obtain ⟨⟨nn, i1⟩, i2⟩ := id c3
      repeat' (first | ((with_reducible show wpAny _ _ (exec _ _) _ _ _); k_fold) | ((fail_if_success (with_reducible refine stop_of Stop4 (by constructor) ?_)); (fail_if_success (with_reducible refine stop_of Stop1 (by constructor) ?_)); first | (k_unfold; (try dsimp only)) | (k_end; wrow_close) | walk1 | (dsimp only; walk1) | (leave1; try dsimp only)) | walk_at "mine item" | fail)
      (k_dflt (refine' con_use ?kNz40 group_new ?kBz40 ?kFz40 ?kXz40 ?kTz40 ?kKz40 ?kDz40 ?kUz40 ?kOkz40 ?kErrz40; (case kNz40 => k_asm); (case kBz40 => k_asm); (case kFz40 => k_asm); (case kXz40 => k_asm); (case kTz40 => k_asm); (case kKz40 => first | exact rfl | assumption); (case kDz40 => first | exact room0 (by assumption) | exact room1 (by assumption) rfl | exact room2 (by assumption) rfl | exact room3 (by assumption) rfl | exact roomA (by assumption) rfl | exact roomS (by assumption) rfl | exact roomM (by assumption) rfl | exact roomB (by assumption) rfl); (case kUz40 => first | exact room0 (by assumption) | exact room1 (by assumption) rfl | exact room2 (by assumption) rfl | exact room3 (by assumption) rfl | exact roomA (by assumption) rfl | exact roomS (by assumption) rfl | exact roomM (by assumption) rfl | exact roomB (by assumption) rfl)))
      case kErrz40 => intro hf; exact hf.elim
      intro r4 news4 hh4 tk4 F4 N4 K4 P4
      refine el34 P4 ?_
      intro g2 q2 pl2 hQ9 H1 H2 hqp2 hfr2
      subst hQ9
      have i1' := K4.of_nil _ i1
      have N5 := news_front N4 i1'
      have k5 := off_kp N4 i1' rfl
      have hz5 : (st.map fun z => Value.ref z.g).reverse.toArray.size ≤ sizeLine := by
        have := tot_len st
        rw [List.size_toArray, List.length_reverse, List.length_map, sizeLine_eq]; (first | lia | omega)
      repeat' (first | ((with_reducible show wpAny _ _ (exec _ _) _ _ _); k_fold) | ((fail_if_success (with_reducible refine stop_of Stop4 (by constructor) ?_)); (fail_if_success (with_reducible refine stop_of Stop1 (by constructor) ?_)); first | (k_unfold; (try dsimp only)) | (k_end; wrow_close) | walk1 | (dsimp only; walk1) | (leave1; try dsimp only)) | walk_at "mine item" | fail)
      try dsimp only
      rename News _ _ _ ((gl, _) :: off gl news4) => N6
      rw [List.push_toArray] at N6
      have k6 := fun o => Kp.cons (q := o) k5
      have hgq := hfr2 _ i1
      refine WStep.cont (by assumption) N6 ?_ ⟨⟨g2, q2, pl2, Str.ofString "", []⟩ :: st, _, fv, nv, rfl, rfl, (fun e => nomatch e), fun X hX => a1 _ (.go (by simp only [stepG]; rw [hr1, if_pos hb]; (try rfl)) hX), (S3.kp K4 (fun e => nomatch e)).kp (k6 _) (fun e => hgl _ h1 (List.mem_singleton.mp e)), ⟨⟨_, by rw [List.map_cons, List.reverse_cons]; exact .head _⟩, fun y hy => ?_⟩, ⟨hgq.1.symm, hgq.2.symm, hqp2, fun y hy => ?_, a4⟩, Fresh.cons (fresh_of c6 y8 hfr2) a5, (c6.trans (K4.mono fun _ e => nomatch e)).trF (k6 _) (fun p hp e => absurd (List.mem_singleton.mp e) (hgl p hp)), ?_⟩
      · have := len_head hb
        (first | lia | omega)
      · rcases List.mem_cons.mp hy with rfl | hy
        · exact ⟨GrD.kp H1 (k6 _) (fun e => hgq.1 (List.mem_singleton.mp e).symm), GrL.kp H2 (k6 _) (fun e => hgq.2 (List.mem_singleton.mp e).symm)⟩
        · have z4 := c3.kp K4 (fun e => nomatch e) (fun y hy => ⟨(fun e => nomatch e), fun e => nomatch e⟩)
          exact ⟨(z4.2 y hy).1.kp (k6 _) (fun e => (a4.away y hy).1 (List.mem_singleton.mp e)), (z4.2 y hy).2.kp (k6 _) (fun e => (a4.away y hy).2 (List.mem_singleton.mp e))⟩
      · refine fold_goal ?_; intro G9 k9; obtain ⟨⟨_, _, _, _, _, _, _, m1⟩, _, _, m2, _⟩ := i2 y hy; refine k9 ?_; clear k9 G9
        exact ⟨(hfr2 _ m1).1, (hfr2 _ m2).1, (hfr2 _ m1).2, (hfr2 _ m2).2⟩
      · have := len_head hb
        simp only [tot, List.length_nil]
        (first | lia | omega)
noncomputable def eE : List Nat := [69, 77, 80, 84, 89]
noncomputable def eA : List Nat := [65, 78, 89]
noncomputable def eP : List Nat := [35, 80, 67, 68, 65, 84, 65]
inductive RSp : List Nat → Option (Dat × List Nat) → Prop
  | empty {r : List Nat} : eE.isPrefixOf r = true → RSp r (some (.tuple [.str (Str.ofString "empty")], r.drop 5))
  | any {r : List Nat} : eE.isPrefixOf r = false → eA.isPrefixOf r = true → RSp r (some (.tuple [.str (Str.ofString "any")], r.drop 3))
  | nope {r : List Nat} : eE.isPrefixOf r = false → eA.isPrefixOf r = false → headIs (· == 40) r = false → RSp r none
  | mix {r : List Nat} {X : Option (Dat × List Nat)} : eE.isPrefixOf r = false → eA.isPrefixOf r = false → headIs (· == 40) r = true → eP.isPrefixOf ((r.drop 1).dropWhile isSp) = true →
      Ev (.mix [] ((((r.drop 1).dropWhile isSp).drop 7).dropWhile isSp)) X → RSp r X
  | kids {r : List Nat} {X : Option (Dat × List Nat)} : eE.isPrefixOf r = false → eA.isPrefixOf r = false → headIs (· == 40) r = true → eP.isPrefixOf ((r.drop 1).dropWhile isSp) = false →
      Ev (.grp true [(Str.ofString "", [])] ((r.drop 1).dropWhile isSp)) X → RSp r (X.map fun p => (.tuple [.str (Str.ofString "children"), p.1], p.2))
theorem RSp.det {r : List Nat} {X Y : Option (Dat × List Nat)} (h : RSp r X) (k : RSp r Y) : X = Y := by
  cases h with
  | empty h1 => cases k <;> first | rfl | simp_all
  | any h1 h2 => cases k <;> first | rfl | simp_all
  | nope h1 h2 h3 => cases k <;> first | rfl | simp_all
  | mix h1 h2 h3 h4 h5 =>
    cases k with
    | mix k1 k2 k3 k4 k5 => exact h5.det k5
    | kids k1 k2 k3 k4 k5 => rw [h4] at k4; cases k4
    | _ => simp_all
  | kids h1 h2 h3 h4 h5 =>
    cases k with
    | kids k1 k2 k3 k4 k5 => rw [h5.det k5]
    | mix k1 k2 k3 k4 k5 => rw [h4] at k4; cases k4
    | _ => simp_all
noncomputable def RMod (r : List Nat) (X : Option Dat) : Prop := (RSp (r.dropWhile isSp) none ∧ X = none) ∨ ∃ D r', RSp (r.dropWhile isSp) (some (D, r')) ∧ X = if r'.dropWhile isSp = [] then some D else none
theorem RMod.det {r : List Nat} {X Y : Option Dat} (h : RMod r X) (k : RMod r Y) : X = Y := by
  rcases h with ⟨h, rfl⟩ | ⟨D, r', h, rfl⟩ <;> rcases k with ⟨k, rfl⟩ | ⟨E, s', k, rfl⟩
  · rfl
  · cases h.det k
  · cases h.det k
  · cases h.det k; rfl
theorem scanner_new {w : World} {T : Str} {tp : Tok} {news : Led} :
    Con w 221 [.str T tp] 30 200 news [] (fun v n' => ∃ x d, v = .ref x ∧ Sc w T x d T.cps.toList n' ∧ ∀ p ∈ news, p.1 ≠ d) False := by
  intro mean mg mb dp un gd cn cs a ccd cl outer A₀ base h₀ L m s Q E B F X N Tp hk hd1 hu1 hret herr; refine call_cls F X N (by k_dflt k_is) (by k_dflt k_is) (by k_dflt k_is) ?_; intro ci cd h1 F1 N1 l1 l2; (try k_lt l1); (try k_lt2 l2); (try k_sweep); k_dflt (refine' code_def (binds := [("self", .ref ci), ("text", .str T tp)]) ?k1 ?k2 ?k3 ?k4 ?k5 ?kA ?kF ?kK ?k6 ?k7 ?k8 ?k9 ?kB ?_ ?c2 ?c3 ?c4 ?c5; (case kA => exact rfl); (case kF => exact rfl); (case kK => assumption); (case k1 => k_asm); (case k2 => k_asm); (case k3 => k_asm); (case k4 => k_asm); (case k5 => k_asm); (case k6 => k_is); (case k7 => k_is); (case k8 => first | exact room0 (by assumption) | exact room1 (by assumption) rfl | exact room2 (by assumption) rfl | exact room3 (by assumption) rfl | exact roomA (by assumption) rfl | exact roomS (by assumption) rfl | exact roomM (by assumption) rfl | exact roomB (by assumption) rfl); (case k9 => exact BindsTo.of_eq rfl); (case c5 => decide); (case kB => exact locs rfl); (case c2 => exact rfl); (case c3 => exact rfl); (case c4 => exact rfl); k_whole); intro g' L' hp FG' F' N' B' X' T'; (try dsimp only [List.reverse_cons, List.reverse_nil, List.nil_append, List.cons_append, List.length_cons, List.length_nil, Nat.zero_add] at F' ⊢); k_fold; refine fold_env ?_; intro e₁ A₁
  repeat' (first | ((with_reducible show wpAny _ _ (exec _ _) _ _ _); k_fold) | ((fail_if_success (with_reducible refine stop_of Stop1 (by constructor) ?_)); first | (k_unfold; (try dsimp only)) | (k_end; wrow_close) | walk1 | (dsimp only; walk1) | (leave1; try dsimp only)))
  exact hret _ _ _ _ (by assumption) (by assumption) (Kp.sub fun p hp => .tail _ (.tail _ hp)) ⟨ci, cd, rfl, ⟨.head _, _, _, _, _, _, .tail _ (.head _), ⟨0, rfl, Nat.zero_le _, rfl⟩⟩, fun p hp => Nat.ne_of_lt (l1 p hp)⟩
theorem read_spec {w : World} {T : Str} {r : List Nat} {x d : Addr} {news : Led} (hT : T.length ≤ 1000000) (hA : Asc T) (Z : Sc w T x d r news) :
    Con w 296 [.ref x] 400 3000 news [d] (fun v n' => ∃ D r', RSp r (some (D, r')) ∧ TIn n' v D ∧ Sc w T x d r' n') (RSp r none) := by
  refine el_sc Z ?_
  intro t1 t2 t3 t4 i h2 h1 h3
  intro mean mg mb dp un gd cn cs a ccd cl outer A₀ base h₀ L m s Q E B F X N Tp hk hd1 hu1 hret herr; refine wpAny_call ?_; k_dflt (refine' code_def (binds := [("scanner", .ref x)]) ?k1 ?k2 ?k3 ?k4 ?k5 ?kA ?kF ?kK ?k6 ?k7 ?k8 ?k9 ?kB ?_ ?c2 ?c3 ?c4 ?c5; (case kA => exact rfl); (case kF => exact rfl); (case kK => assumption); (case k1 => k_asm); (case k2 => k_asm); (case k3 => k_asm); (case k4 => k_asm); (case k5 => k_asm); (case k6 => k_is); (case k7 => k_is); (case k8 => first | exact room0 (by assumption) | exact room1 (by assumption) rfl | exact room2 (by assumption) rfl | exact room3 (by assumption) rfl | exact roomA (by assumption) rfl | exact roomS (by assumption) rfl | exact roomM (by assumption) rfl | exact roomB (by assumption) rfl); (case k9 => exact BindsTo.of_eq rfl); (case c5 => decide); (case kB => exact locs rfl); (case c2 => exact rfl); (case c3 => exact rfl); (case c4 => exact rfl); k_whole); intro g' L' hp FG' F' N' B' X' T'; (try dsimp only [List.reverse_cons, List.reverse_nil, List.nil_append, List.cons_append, List.length_cons, List.length_nil, Nat.zero_add] at F' ⊢); k_fold; refine fold_env ?_; intro e₁ A₁
  repeat' (first | ((with_reducible show wpAny _ _ (exec _ _) _ _ _); k_fold) | ((fail_if_success (with_reducible refine stop_of Stop1 (by constructor) ?_)); first | (k_unfold; (try dsimp only)) | (k_end; wrow_close) | walk1 | (dsimp only; walk1) | (leave1; try dsimp only)))
  (k_dflt (refine' con_use ?kNz41 (takes (wl := eE) (by decide +kernel) (by show 5 ≤ 1000; decide) Z) ?kBz41 ?kFz41 ?kXz41 ?kTz41 ?kKz41 ?kDz41 ?kUz41 ?kOkz41 ?kErrz41; (case kNz41 => k_asm); (case kBz41 => k_asm); (case kFz41 => k_asm); (case kXz41 => k_asm); (case kTz41 => k_asm); (case kKz41 => first | exact rfl | assumption); (case kDz41 => first | exact room0 (by assumption) | exact room1 (by assumption) rfl | exact room2 (by assumption) rfl | exact room3 (by assumption) rfl | exact roomA (by assumption) rfl | exact roomS (by assumption) rfl | exact roomM (by assumption) rfl | exact roomB (by assumption) rfl); (case kUz41 => first | exact room0 (by assumption) | exact room1 (by assumption) rfl | exact room2 (by assumption) rfl | exact room3 (by assumption) rfl | exact roomA (by assumption) rfl | exact roomS (by assumption) rfl | exact roomM (by assumption) rfl | exact roomB (by assumption) rfl)))
  case kErrz41 => intro hf; exact hf.elim
  intro r1 news1 hh1 tk1 F1 N1 K1 P1
  have hQ9 := P1.1
  have S1 := P1.2
  subst hQ9
  unfold tkr at S1
  cases hb : eE.isPrefixOf r
  · rw [if_neg (by rw [hb]; decide)] at S1
    refine el_sc S1 ?_
    intro u1 u2 u3 u4 j y2 y1 y3
    repeat' (first | ((with_reducible show wpAny _ _ (exec _ _) _ _ _); k_fold) | ((fail_if_success (with_reducible refine stop_of Stop1 (by constructor) ?_)); first | (k_unfold; (try dsimp only)) | (k_end; wrow_close) | walk1 | (dsimp only; walk1) | (leave1; try dsimp only)))
    (k_dflt (refine' con_use ?kNz42 (takes (wl := eA) (by decide +kernel) (by show 3 ≤ 1000; decide) S1) ?kBz42 ?kFz42 ?kXz42 ?kTz42 ?kKz42 ?kDz42 ?kUz42 ?kOkz42 ?kErrz42; (case kNz42 => k_asm); (case kBz42 => k_asm); (case kFz42 => k_asm); (case kXz42 => k_asm); (case kTz42 => k_asm); (case kKz42 => first | exact rfl | assumption); (case kDz42 => first | exact room0 (by assumption) | exact room1 (by assumption) rfl | exact room2 (by assumption) rfl | exact room3 (by assumption) rfl | exact roomA (by assumption) rfl | exact roomS (by assumption) rfl | exact roomM (by assumption) rfl | exact roomB (by assumption) rfl); (case kUz42 => first | exact room0 (by assumption) | exact room1 (by assumption) rfl | exact room2 (by assumption) rfl | exact room3 (by assumption) rfl | exact roomA (by assumption) rfl | exact roomS (by assumption) rfl | exact roomM (by assumption) rfl | exact roomB (by assumption) rfl)))
    case kErrz42 => intro hf; exact hf.elim
    intro r2 news2 hh2 tk2 F2 N2 K2 P2
    have hQ9 := P2.1
    have S2 := P2.2
    subst hQ9
    have c2 := K1.trans K2
    unfold tkr at S2
    cases hc : eA.isPrefixOf r
    · rw [if_neg (by rw [hc]; decide)] at S2
      refine el_sc S2 ?_
      intro v1 v2 v3 v4 j2 y4 y5 y6
      repeat' (first | ((with_reducible show wpAny _ _ (exec _ _) _ _ _); k_fold) | ((fail_if_success (with_reducible refine stop_of Stop1 (by constructor) ?_)); first | (k_unfold; (try dsimp only)) | (k_end; wrow_close) | walk1 | (dsimp only; walk1) | (leave1; try dsimp only)))
      (k_dflt (refine' con_use ?kNz43 (expect (wl := [40]) (by decide +kernel) (by show 1 ≤ 1000; decide) S2) ?kBz43 ?kFz43 ?kXz43 ?kTz43 ?kKz43 ?kDz43 ?kUz43 ?kOkz43 ?kErrz43; (case kNz43 => k_asm); (case kBz43 => k_asm); (case kFz43 => k_asm); (case kXz43 => k_asm); (case kTz43 => k_asm); (case kKz43 => first | exact rfl | assumption); (case kDz43 => first | exact room0 (by assumption) | exact room1 (by assumption) rfl | exact room2 (by assumption) rfl | exact room3 (by assumption) rfl | exact roomA (by assumption) rfl | exact roomS (by assumption) rfl | exact roomM (by assumption) rfl | exact roomB (by assumption) rfl); (case kUz43 => first | exact room0 (by assumption) | exact room1 (by assumption) rfl | exact room2 (by assumption) rfl | exact room3 (by assumption) rfl | exact roomA (by assumption) rfl | exact roomS (by assumption) rfl | exact roomM (by assumption) rfl | exact roomB (by assumption) rfl)))
      case kErrz43 =>
        intro hp e t vs n9 h9 tk9 g9 Fg U R K9; (repeat (k_unfold; try dsimp only)); refine leave_onK (by assumption) Fg R U (fun h'' R' U' => ?_)
        rw [headIs_iff] at hp
        exact herr (.nope hb hc hp) _ _ _ _ _ _ _ FG' U' R' (c2.trans K9)
      intro r3 news3 hh3 tk3 F3 N3 K3 P3
      have q1 := P3.1
      have S3 := P3.2
      rw [headIs_iff] at q1
      simp only [List.length_cons, List.length_nil, Nat.zero_add] at S3
      have c3 := c2.trans K3
      refine el_sc S3 ?_
      intro w1 w2 w3 w4 j3 y7 y8 y9
      repeat' (first | ((with_reducible show wpAny _ _ (exec _ _) _ _ _); k_fold) | ((fail_if_success (with_reducible refine stop_of Stop1 (by constructor) ?_)); first | (k_unfold; (try dsimp only)) | (k_end; wrow_close) | walk1 | (dsimp only; walk1) | (leave1; try dsimp only)))
      (k_dflt (refine' con_use ?kNz44 (spaces hT S3) ?kBz44 ?kFz44 ?kXz44 ?kTz44 ?kKz44 ?kDz44 ?kUz44 ?kOkz44 ?kErrz44; (case kNz44 => k_asm); (case kBz44 => k_asm); (case kFz44 => k_asm); (case kXz44 => k_asm); (case kTz44 => k_asm); (case kKz44 => first | exact rfl | assumption); (case kDz44 => first | exact room0 (by assumption) | exact room1 (by assumption) rfl | exact room2 (by assumption) rfl | exact room3 (by assumption) rfl | exact roomA (by assumption) rfl | exact roomS (by assumption) rfl | exact roomM (by assumption) rfl | exact roomB (by assumption) rfl); (case kUz44 => first | exact room0 (by assumption) | exact room1 (by assumption) rfl | exact room2 (by assumption) rfl | exact room3 (by assumption) rfl | exact roomA (by assumption) rfl | exact roomS (by assumption) rfl | exact roomM (by assumption) rfl | exact roomB (by assumption) rfl)))
      case kErrz44 => intro hf; exact hf.elim
      intro r4 news4 hh4 tk4 F4 N4 K4 P4
      have c4 := c3.trans K4
      refine el_sc P4 ?_
      intro o1 o2 o3 o4 j4 z7 z8 z9
      repeat' (first | ((with_reducible show wpAny _ _ (exec _ _) _ _ _); k_fold) | ((fail_if_success (with_reducible refine stop_of Stop1 (by constructor) ?_)); first | (k_unfold; (try dsimp only)) | (k_end; wrow_close) | walk1 | (dsimp only; walk1) | (leave1; try dsimp only)))
      (k_dflt (refine' con_use ?kNz45 (takes (wl := eP) (by decide +kernel) (by show 7 ≤ 1000; decide) P4) ?kBz45 ?kFz45 ?kXz45 ?kTz45 ?kKz45 ?kDz45 ?kUz45 ?kOkz45 ?kErrz45; (case kNz45 => k_asm); (case kBz45 => k_asm); (case kFz45 => k_asm); (case kXz45 => k_asm); (case kTz45 => k_asm); (case kKz45 => first | exact rfl | assumption); (case kDz45 => first | exact room0 (by assumption) | exact room1 (by assumption) rfl | exact room2 (by assumption) rfl | exact room3 (by assumption) rfl | exact roomA (by assumption) rfl | exact roomS (by assumption) rfl | exact roomM (by assumption) rfl | exact roomB (by assumption) rfl); (case kUz45 => first | exact room0 (by assumption) | exact room1 (by assumption) rfl | exact room2 (by assumption) rfl | exact room3 (by assumption) rfl | exact roomA (by assumption) rfl | exact roomS (by assumption) rfl | exact roomM (by assumption) rfl | exact roomB (by assumption) rfl)))
      case kErrz45 => intro hf; exact hf.elim
      intro r5 news5 hh5 tk5 F5 N5 K5 P5
      have hQ9 := P5.1
      have S5 := P5.2
      subst hQ9
      have c5 := c4.trans K5
      unfold tkr at S5
      cases he : eP.isPrefixOf ((r.drop 1).dropWhile isSp)
      · rw [if_neg (by rw [he]; decide)] at S5
        have S6 : ∀ o, Sc w T x d ((r.drop 1).dropWhile isSp) (o :: news5) := fun o => S5.sub fun p hp => .tail _ hp
        repeat' (first | ((with_reducible show wpAny _ _ (exec _ _) _ _ _); k_fold) | ((fail_if_success (with_reducible refine stop_of Stop1 (by constructor) ?_)); first | (k_unfold; (try dsimp only)) | (k_end; wrow_close) | walk1 | (dsimp only; walk1) | (leave1; try dsimp only)))
        (k_dflt (refine' con_use ?kNz46 (read_group hT hA S5) ?kBz46 ?kFz46 ?kXz46 ?kTz46 ?kKz46 ?kDz46 ?kUz46 ?kOkz46 ?kErrz46; (case kNz46 => k_asm); (case kBz46 => k_asm); (case kFz46 => k_asm); (case kXz46 => k_asm); (case kTz46 => k_asm); (case kKz46 => first | exact rfl | assumption); (case kDz46 => first | exact room0 (by assumption) | exact room1 (by assumption) rfl | exact room2 (by assumption) rfl | exact room3 (by assumption) rfl | exact roomA (by assumption) rfl | exact roomS (by assumption) rfl | exact roomM (by assumption) rfl | exact roomB (by assumption) rfl); (case kUz46 => first | exact room0 (by assumption) | exact room1 (by assumption) rfl | exact room2 (by assumption) rfl | exact room3 (by assumption) rfl | exact roomA (by assumption) rfl | exact roomS (by assumption) rfl | exact roomM (by assumption) rfl | exact roomB (by assumption) rfl)))
        case kErrz46 =>
          intro hp e t vs n9 h9 tk9 g9 Fg U R K9; (repeat (k_unfold; try dsimp only)); refine leave_onK (by assumption) Fg R U (fun h'' R' U' => ?_)
          exact herr (.kids hb hc q1 he hp) _ _ _ _ _ _ _ FG' U' R' (c5.trans K9)
        intro r6 news6 hh6 tk6 F6 N6 K6 P6
        refine el_DrABS P6 ?_
        intro D r7 e1 e2 S7
        repeat' (first | ((with_reducible show wpAny _ _ (exec _ _) _ _ _); k_fold) | ((fail_if_success (with_reducible refine stop_of Stop1 (by constructor) ?_)); first | (k_unfold; (try dsimp only)) | (k_end; wrow_close) | walk1 | (dsimp only; walk1) | (leave1; try dsimp only)))
        exact hret _ _ _ _ (by assumption) (by assumption) (c5.trans K6).cons ⟨_, _, .kids hb hc q1 he e1, .tup (.head _) (.cons (.str _ _) (.cons (e2.imm fun p hp _ => .tail _ hp) .nil)), S7.sub fun p hp => .tail _ hp⟩
      · rw [if_pos he] at S5
        repeat' (first | ((with_reducible show wpAny _ _ (exec _ _) _ _ _); k_fold) | ((fail_if_success (with_reducible refine stop_of Stop1 (by constructor) ?_)); first | (k_unfold; (try dsimp only)) | (k_end; wrow_close) | walk1 | (dsimp only; walk1) | (leave1; try dsimp only)))
        (k_dflt (refine' con_use ?kNz47 (read_mixed hT hA S5) ?kBz47 ?kFz47 ?kXz47 ?kTz47 ?kKz47 ?kDz47 ?kUz47 ?kOkz47 ?kErrz47; (case kNz47 => k_asm); (case kBz47 => k_asm); (case kFz47 => k_asm); (case kXz47 => k_asm); (case kTz47 => k_asm); (case kKz47 => first | exact rfl | assumption); (case kDz47 => first | exact room0 (by assumption) | exact room1 (by assumption) rfl | exact room2 (by assumption) rfl | exact room3 (by assumption) rfl | exact roomA (by assumption) rfl | exact roomS (by assumption) rfl | exact roomM (by assumption) rfl | exact roomB (by assumption) rfl); (case kUz47 => first | exact room0 (by assumption) | exact room1 (by assumption) rfl | exact room2 (by assumption) rfl | exact room3 (by assumption) rfl | exact roomA (by assumption) rfl | exact roomS (by assumption) rfl | exact roomM (by assumption) rfl | exact roomB (by assumption) rfl)))
        case kErrz47 =>
          intro hp e t vs n9 h9 tk9 g9 Fg U R K9; (repeat (k_unfold; try dsimp only)); refine leave_onK (by assumption) Fg R U (fun h'' R' U' => ?_)
          exact herr (.mix hb hc q1 he hp) _ _ _ _ _ _ _ FG' U' R' (c5.trans K9)
        intro r6 news6 hh6 tk6 F6 N6 K6 P6
        refine el_DrABS P6 ?_
        intro D r7 e1 e2 S7
        repeat' (first | ((with_reducible show wpAny _ _ (exec _ _) _ _ _); k_fold) | ((fail_if_success (with_reducible refine stop_of Stop1 (by constructor) ?_)); first | (k_unfold; (try dsimp only)) | (k_end; wrow_close) | walk1 | (dsimp only; walk1) | (leave1; try dsimp only)))
        exact hret _ _ _ _ (by assumption) (by assumption) (c5.trans K6) ⟨_, _, .mix hb hc q1 he e1, e2, S7⟩
    · rw [if_pos hc] at S2
      repeat' (first | ((with_reducible show wpAny _ _ (exec _ _) _ _ _); k_fold) | ((fail_if_success (with_reducible refine stop_of Stop1 (by constructor) ?_)); first | (k_unfold; (try dsimp only)) | (k_end; wrow_close) | walk1 | (dsimp only; walk1) | (leave1; try dsimp only)))
      exact hret _ _ _ _ (by assumption) (by assumption) c2.cons ⟨_, _, .any hb hc, .tup (.head _) (.cons (.str _ _) .nil), S2.sub fun p hp => .tail _ hp⟩
  · rw [if_pos hb] at S1
    repeat' (first | ((with_reducible show wpAny _ _ (exec _ _) _ _ _); k_fold) | ((fail_if_success (with_reducible refine stop_of Stop1 (by constructor) ?_)); first | (k_unfold; (try dsimp only)) | (k_end; wrow_close) | walk1 | (dsimp only; walk1) | (leave1; try dsimp only)))
    exact hret _ _ _ _ (by assumption) (by assumption) K1.cons ⟨_, _, .empty hb, .tup (.head _) (.cons (.str _ _) .nil), S1.sub fun p hp => .tail _ hp⟩
theorem read_model {w : World} {T : Str} {tp : Tok} {news : Led} (hT : T.length ≤ 1000000) (hA : Asc T) :
    Con w 303 [.str T tp] 500 4000 news [] (fun v n' => ∃ D, RMod T.cps.toList (some D) ∧ TIn n' v D) (RMod T.cps.toList none) := by
  intro mean mg mb dp un gd cn cs a ccd cl outer A₀ base h₀ L m s Q E B F X N Tp hk hd1 hu1 hret herr; refine wpAny_call ?_; k_dflt (refine' code_def (binds := [("text", .str T tp)]) ?k1 ?k2 ?k3 ?k4 ?k5 ?kA ?kF ?kK ?k6 ?k7 ?k8 ?k9 ?kB ?_ ?c2 ?c3 ?c4 ?c5; (case kA => exact rfl); (case kF => exact rfl); (case kK => assumption); (case k1 => k_asm); (case k2 => k_asm); (case k3 => k_asm); (case k4 => k_asm); (case k5 => k_asm); (case k6 => k_is); (case k7 => k_is); (case k8 => first | exact room0 (by assumption) | exact room1 (by assumption) rfl | exact room2 (by assumption) rfl | exact room3 (by assumption) rfl | exact roomA (by assumption) rfl | exact roomS (by assumption) rfl | exact roomM (by assumption) rfl | exact roomB (by assumption) rfl); (case k9 => exact BindsTo.of_eq rfl); (case c5 => decide); (case kB => exact locs rfl); (case c2 => exact rfl); (case c3 => exact rfl); (case c4 => exact rfl); k_whole); intro g' L' hp FG' F' N' B' X' T'; (try dsimp only [List.reverse_cons, List.reverse_nil, List.nil_append, List.cons_append, List.length_cons, List.length_nil, Nat.zero_add] at F' ⊢); k_fold; refine fold_env ?_; intro e₁ A₁
  repeat' (first | ((with_reducible show wpAny _ _ (exec _ _) _ _ _); k_fold) | ((fail_if_success (with_reducible refine stop_of Stop1 (by constructor) ?_)); first | (k_unfold; (try dsimp only)) | (k_end; wrow_close) | walk1 | (dsimp only; walk1) | (leave1; try dsimp only)))
  (k_dflt (refine' con_use ?kNz48 scanner_new ?kBz48 ?kFz48 ?kXz48 ?kTz48 ?kKz48 ?kDz48 ?kUz48 ?kOkz48 ?kErrz48; (case kNz48 => k_asm); (case kBz48 => k_asm); (case kFz48 => k_asm); (case kXz48 => k_asm); (case kTz48 => k_asm); (case kKz48 => first | exact rfl | assumption); (case kDz48 => first | exact room0 (by assumption) | exact room1 (by assumption) rfl | exact room2 (by assumption) rfl | exact room3 (by assumption) rfl | exact roomA (by assumption) rfl | exact roomS (by assumption) rfl | exact roomM (by assumption) rfl | exact roomB (by assumption) rfl); (case kUz48 => first | exact room0 (by assumption) | exact room1 (by assumption) rfl | exact room2 (by assumption) rfl | exact room3 (by assumption) rfl | exact roomA (by assumption) rfl | exact roomS (by assumption) rfl | exact roomM (by assumption) rfl | exact roomB (by assumption) rfl)))
  case kErrz48 => intro hf; exact hf.elim
  intro r1 news1 hh1 tk1 F1 N1 K1 P1
  refine el22 P1 ?_
  intro x d hQ9 Z hd
  subst hQ9
  have kd : ∀ {n : Led}, Kp [d] news1 n → Kp [] news n := fun k => K1.trF k fun p hp e => absurd (List.mem_singleton.mp e) (hd p hp)
  refine el_sc Z ?_
  intro t1 t2 t3 t4 i h2 h1 h3
  repeat' (first | ((with_reducible show wpAny _ _ (exec _ _) _ _ _); k_fold) | ((fail_if_success (with_reducible refine stop_of Stop1 (by constructor) ?_)); first | (k_unfold; (try dsimp only)) | (k_end; wrow_close) | walk1 | (dsimp only; walk1) | (leave1; try dsimp only)))
  (k_dflt (refine' con_use ?kNz49 (spaces hT Z) ?kBz49 ?kFz49 ?kXz49 ?kTz49 ?kKz49 ?kDz49 ?kUz49 ?kOkz49 ?kErrz49; (case kNz49 => k_asm); (case kBz49 => k_asm); (case kFz49 => k_asm); (case kXz49 => k_asm); (case kTz49 => k_asm); (case kKz49 => first | exact rfl | assumption); (case kDz49 => first | exact room0 (by assumption) | exact room1 (by assumption) rfl | exact room2 (by assumption) rfl | exact room3 (by assumption) rfl | exact roomA (by assumption) rfl | exact roomS (by assumption) rfl | exact roomM (by assumption) rfl | exact roomB (by assumption) rfl); (case kUz49 => first | exact room0 (by assumption) | exact room1 (by assumption) rfl | exact room2 (by assumption) rfl | exact room3 (by assumption) rfl | exact roomA (by assumption) rfl | exact roomS (by assumption) rfl | exact roomM (by assumption) rfl | exact roomB (by assumption) rfl)))
  case kErrz49 => intro hf; exact hf.elim
  intro r2 news2 hh2 tk2 F2 N2 K2 P2
  refine el_sc P2 ?_
  intro v1 v2 v3 v4 j2 y4 y5 y6
  repeat' (first | ((with_reducible show wpAny _ _ (exec _ _) _ _ _); k_fold) | ((fail_if_success (with_reducible refine stop_of Stop1 (by constructor) ?_)); first | (k_unfold; (try dsimp only)) | (k_end; wrow_close) | walk1 | (dsimp only; walk1) | (leave1; try dsimp only)))
  (k_dflt (refine' con_use ?kNz50 (read_spec hT hA P2) ?kBz50 ?kFz50 ?kXz50 ?kTz50 ?kKz50 ?kDz50 ?kUz50 ?kOkz50 ?kErrz50; (case kNz50 => k_asm); (case kBz50 => k_asm); (case kFz50 => k_asm); (case kXz50 => k_asm); (case kTz50 => k_asm); (case kKz50 => first | exact rfl | assumption); (case kDz50 => first | exact room0 (by assumption) | exact room1 (by assumption) rfl | exact room2 (by assumption) rfl | exact room3 (by assumption) rfl | exact roomA (by assumption) rfl | exact roomS (by assumption) rfl | exact roomM (by assumption) rfl | exact roomB (by assumption) rfl); (case kUz50 => first | exact room0 (by assumption) | exact room1 (by assumption) rfl | exact room2 (by assumption) rfl | exact room3 (by assumption) rfl | exact roomA (by assumption) rfl | exact roomS (by assumption) rfl | exact roomM (by assumption) rfl | exact roomB (by assumption) rfl)))
  case kErrz50 =>
    intro hp e t vs n9 h9 tk9 g9 Fg U R K9; (repeat (k_unfold; try dsimp only)); refine leave_onK (by assumption) Fg R U (fun h'' R' U' => ?_)
    exact herr (.inl ⟨hp, rfl⟩) _ _ _ _ _ _ _ FG' U' R' (kd (K2.trans K9))
  intro r3 news3 hh3 tk3 F3 N3 K3 P3
  refine el_DrABS P3 ?_
  intro D r4 e1 e2 S3
  refine el_sc S3 ?_
  intro w1 w2 w3 w4 j3 z4 z5 z6
  repeat' (first | ((with_reducible show wpAny _ _ (exec _ _) _ _ _); k_fold) | ((fail_if_success (with_reducible refine stop_of Stop1 (by constructor) ?_)); first | (k_unfold; (try dsimp only)) | (k_end; wrow_close) | walk1 | (dsimp only; walk1) | (leave1; try dsimp only)))
  (k_dflt (refine' con_use ?kNz51 (endS hT S3) ?kBz51 ?kFz51 ?kXz51 ?kTz51 ?kKz51 ?kDz51 ?kUz51 ?kOkz51 ?kErrz51; (case kNz51 => k_asm); (case kBz51 => k_asm); (case kFz51 => k_asm); (case kXz51 => k_asm); (case kTz51 => k_asm); (case kKz51 => first | exact rfl | assumption); (case kDz51 => first | exact room0 (by assumption) | exact room1 (by assumption) rfl | exact room2 (by assumption) rfl | exact room3 (by assumption) rfl | exact roomA (by assumption) rfl | exact roomS (by assumption) rfl | exact roomM (by assumption) rfl | exact roomB (by assumption) rfl); (case kUz51 => first | exact room0 (by assumption) | exact room1 (by assumption) rfl | exact room2 (by assumption) rfl | exact room3 (by assumption) rfl | exact roomA (by assumption) rfl | exact roomS (by assumption) rfl | exact roomM (by assumption) rfl | exact roomB (by assumption) rfl)))
  case kErrz51 =>
    intro hp e t vs n9 h9 tk9 g9 Fg U R K9; (repeat (k_unfold; try dsimp only)); refine leave_onK (by assumption) Fg R U (fun h'' R' U' => ?_)
    exact herr (.inr ⟨_, _, e1, by rw [if_neg hp]⟩) _ _ _ _ _ _ _ FG' U' R' (kd ((K2.trans K3).trans K9))
  intro r4 news4 hh4 tk4 F4 N4 K4 P4
  repeat' (first | ((with_reducible show wpAny _ _ (exec _ _) _ _ _); k_fold) | ((fail_if_success (with_reducible refine stop_of Stop1 (by constructor) ?_)); first | (k_unfold; (try dsimp only)) | (k_end; wrow_close) | walk1 | (dsimp only; walk1) | (leave1; try dsimp only)))
  exact hret _ _ _ _ (by assumption) (by assumption) (kd ((K2.trans K3).trans K4)) ⟨D, .inr ⟨_, _, e1, by rw [if_pos P4]⟩, e2.imm K4.imm⟩
section
variable {prog : Program} {w : World} {A : Around} {E : Value → Shared → Prop} {Q : Flow → Shared → Prop} {s : Shared} {env : Env} {h₀ : Heap} {x : Str} {body : List Stmt}
theorem iter_range1 {r : Addr} {a₀ b₀ st : Int} {t₀ u₀ v₀ : Tok} {n : Nat} {m : Str → Option Value} {news : Led} (J : Nat → Led → Prop)
    (hh : A.handled = none) (hr : IsRange s.heap r a₀ b₀ st t₀ u₀ v₀) (hsmall : Builtin.Range.small a₀ b₀ st = true) (hsz : Builtin.Range.rangeSize a₀ b₀ st = (n : Int)) (F : Fr h₀ env.locals s.heap m) (N : News h₀ env.locals s.heap news) (hj : J 0 news) (clos : ∀ I, (∀ p ∈ news, p.1 ≠ I) → ∀ i n n', KpI I n n' → J i n → J i n')
    (turn : ∀ i t nx own h tk, i < n → J i nx → (∀ p ∈ own, p ∈ nx ∧ (isIt p.2 = true ∨ imm p.2 = true)) → Fr h₀ env.locals h (fun y => if y = x then some (.int (a₀ + (i : Int) * st) t) else m y) → News h₀ env.locals h nx →
      wpAny (model prog w) A (execs body env) (FStep h₀ env.locals own { s with heap := h, toks := tk } (fun m₁ n' => (∀ z, z ≠ x → m₁ z = m z) ∧ J (i + 1) n') Q) E { s with heap := h, toks := tk })
    (done : ∀ mx nx h tk, J n nx → Fr h₀ env.locals h (fun y => if y = x then mx else m y) → News h₀ env.locals h nx → Q .next { s with heap := h, toks := tk }) :
    wpAny (model prog w) A (pyIter (.ref r)) (fun it s₂ => LoopAtV prog w A h₀ env x body Q E it s₂) E s := by
  refine iter_range (fun i m₁ nx => (∀ z, z ≠ x → m₁ z = m z) ∧ J i nx) hh hr hsmall hsz F N ⟨fun _ _ => rfl, hj⟩ (by intro I hI i m n n' k J9; obtain ⟨a, b⟩ := J9; exact ⟨a, clos I hI i n n' k b⟩) ?_ ?_
  · rintro i t m₁ nx own h tk hi ⟨a, b⟩ ho F9 N9
    exact turn i t nx own h tk hi b ho (fr_if a F9) N9
  · rintro m₁ nx h tk ⟨a, b⟩ F9 N9
    exact done _ nx h tk b (fr_out a F9) N9
theorem iter_tup1 {t : Addr} {vs : List Value} {nn : Nat} {m : Str → Option Value} {news : Led} (J : Nat → Led → Prop)
    (hh : A.handled = none) (ht : (t, (⟨.type "tuple", none, .seq vs.toArray nn, #[]⟩ : Obj)) ∈ news) (F : Fr h₀ env.locals s.heap m) (N : News h₀ env.locals s.heap news) (hj : J 0 news) (clos : ∀ I, (∀ p ∈ news, p.1 ≠ I) → ∀ i n n', KpI I n n' → J i n → J i n')
    (turn : ∀ i v nx own h tk, vs[i]? = some v → J i nx → (∀ p ∈ own, p ∈ nx ∧ (isIt p.2 = true ∨ imm p.2 = true)) → Fr h₀ env.locals h (fun y => if y = x then some v else m y) → News h₀ env.locals h nx →
      wpAny (model prog w) A (execs body env) (FStep h₀ env.locals own { s with heap := h, toks := tk } (fun m₁ n' => (∀ z, z ≠ x → m₁ z = m z) ∧ J (i + 1) n') Q) E { s with heap := h, toks := tk })
    (done : ∀ mx nx h tk, J vs.length nx → Fr h₀ env.locals h (fun y => if y = x then mx else m y) → News h₀ env.locals h nx → Q .next { s with heap := h, toks := tk }) :
    wpAny (model prog w) A (pyIter (.ref t)) (fun it s₂ => LoopAtV prog w A h₀ env x body Q E it s₂) E s := by
  refine iter_tup (fun i m₁ nx => (∀ z, z ≠ x → m₁ z = m z) ∧ J i nx) hh (N.get ht) rfl rfl (N _ ht).2.1 F N ⟨fun _ _ => rfl, hj⟩ (by intro I hI i m n n' k J9; obtain ⟨a, b⟩ := J9; exact ⟨a, clos I hI i n n' k b⟩) ?_ ?_
  · rintro i v m₁ nx own h tk hi ⟨a, b⟩ ho F9 N9
    exact turn i v nx own h tk hi b ho (fr_if a F9) N9
  · rintro m₁ nx h tk ⟨a, b⟩ F9 N9
    exact done _ nx h tk b (fr_out a F9) N9
theorem iter_list1 {l : Addr} {vs : List Value} {nn : Nat} {m : Str → Option Value} {news : Led} (J : Nat → Led → Prop)
    (hh : A.handled = none) (hl : (l, listOf vs.toArray nn) ∈ news) (F : Fr h₀ env.locals s.heap m) (N : News h₀ env.locals s.heap news) (hj : J 0 news) (clos : ∀ I, (∀ p ∈ news, p.1 ≠ I) → ∀ i n n', KpI I n n' → J i n → J i n')
    (turn : ∀ i v nx own h tk, vs[i]? = some v → J i nx → (∀ p ∈ own, p ∈ nx ∧ (isIt p.2 = true ∨ ∃ d k sl, p.2 = ⟨.type "list", d, .seq vs.toArray k, sl⟩)) → Fr h₀ env.locals h (fun y => if y = x then some v else m y) → News h₀ env.locals h nx →
      wpAny (model prog w) A (execs body env) (FStep h₀ env.locals own { s with heap := h, toks := tk } (fun m₁ n' => (∀ z, z ≠ x → m₁ z = m z) ∧ J (i + 1) n') Q) E { s with heap := h, toks := tk })
    (done : ∀ mx nx h tk, J vs.length nx → Fr h₀ env.locals h (fun y => if y = x then mx else m y) → News h₀ env.locals h nx → Q .next { s with heap := h, toks := tk }) :
    wpAny (model prog w) A (pyIter (.ref l)) (fun it s₂ => LoopAtV prog w A h₀ env x body Q E it s₂) E s := by
  refine iter_list (fun i m₁ nx => (∀ z, z ≠ x → m₁ z = m z) ∧ J i nx) hh hl F N ⟨fun _ _ => rfl, hj⟩ (by intro I hI i m n n' k J9; obtain ⟨a, b⟩ := J9; exact ⟨a, clos I hI i n n' k b⟩) ?_ ?_
  · rintro i v m₁ nx own h tk hi ⟨a, b⟩ ho F9 N9
    exact turn i v nx own h tk hi b ho (fr_if a F9) N9
  · rintro m₁ nx h tk ⟨a, b⟩ F9 N9
    exact done _ nx h tk b (fr_out a F9) N9
end
noncomputable abbrev tupK (vs : List Value) (n : Nat) : Obj := ⟨.type "tuple", none, .seq vs.toArray n, #[]⟩
theorem tin3 {news : Led} {v : Value} {kd mk : Str} {ds : List Dat} (h : TIn news v (.tuple [.str kd, .tuple ds, .str mk])) : ∃ a tl t1 t2 k n1 vs, v = .ref a ∧ (a, tupK [.str kd t1, .ref tl, .str mk t2] n1) ∈ news ∧ (tl, tupK vs k) ∈ news ∧ TAll news vs ds := by
  cases h with
  | tup h r =>
    cases r with
    | cons h1 r =>
      cases r with
      | cons h2 r =>
        cases r with
        | cons h3 r =>
          cases r
          cases h1
          cases h3
          cases h2 with
          | tup h2 r2 => exact ⟨_, _, _, _, _, _, _, rfl, h, h2, r2⟩
theorem tinN {news : Led} {v : Value} {kd nm mk : Str} (h : TIn news v (.tuple [.str kd, .str nm, .str mk])) : ∃ a t1 t2 t3 n1, v = .ref a ∧ (a, tupK [.str kd t1, .str nm t2, .str mk t3] n1) ∈ news := by
  cases h with
  | tup h r =>
    cases r with
    | cons h1 r =>
      cases r with
      | cons h2 r =>
        cases r with
        | cons h3 r =>
          cases r
          cases h1
          cases h2
          cases h3
          exact ⟨_, _, _, _, _, rfl, h⟩
noncomputable def tf (sg fst : Str) : List Dat → List Dat
  | [] => []
  | d :: ds => .str fst :: d :: tf sg sg ds
theorem tf_next {sg y : Str} {e : Dat} {ds : List Dat} {i : Nat} (hi : i < ds.length) : (tf sg y (ds.drop (ds.length - (i + 1))) ++ [e]).reverse = ((tf sg sg (ds.drop (ds.length - i)) ++ [e]).reverse ++ [ds[ds.length - (i + 1)]'(by omega)]) ++ [Dat.str y] := by
  have h1 : ds.length - (i + 1) < ds.length := by omega
  have h2 : ds.length - (i + 1) + 1 = ds.length - i := by omega
  rw [List.drop_eq_getElem_cons h1, h2]
  simp only [tf, List.cons_append, List.reverse_cons]
theorem TAll.get {news : Led} : ∀ {vs : List Value} {ds : List Dat}, TAll news vs ds → ∀ (j : Nat) (h : j < ds.length), ∃ v, vs[j]? = some v ∧ TIn news v ds[j]
  | _, _, .nil, j, h => absurd h (Nat.not_lt_zero j)
  | _, _, .cons a r, 0, h => ⟨_, rfl, a⟩
  | _, _, .cons a r, j + 1, h => by
    obtain ⟨v, h1, h2⟩ := r.get j (Nat.lt_of_succ_lt_succ h)
    exact ⟨v, by simpa using h1, h2⟩
theorem idx_pos {k : Int} {n : Nat} (h0 : 0 ≤ k) (h1 : k < n) : seqIndex? k n = some k.toNat := by
  unfold seqIndex?
  simp [show ¬ k < 0 by omega, h0, h1]
theorem group_pieces {w : World} {v : Value} {kd mk : Str} {ds : List Dat} {news : Led} (H : TIn news v (.tuple [.str kd, .tuple ds, .str mk])) (h3 : ds.length ≤ 1000) (h4 : mk.length ≤ 1000) :
    Con w 317 [v] 50 300 news [] (fun v n' => ∃ l vs k, v = .ref l ∧ (l, listOf vs.toArray k) ∈ n' ∧ (∀ p ∈ news, p.1 ≠ l) ∧ TAll n' vs (tf (if kd = Str.ofString "choice" then Str.ofString "|" else Str.ofString ",") (Str.ofString "(") ds ++ [Dat.str (Str.ofString ")" ++ mk)]).reverse) False := by
  refine fold_goal ?_; intro G9 k9; obtain ⟨g, tl, t1, t2, k, n1, vs, rfl, h1, h2, hT⟩ := tin3 H; refine k9 ?_; clear k9 G9
  intro mean mg mb dp un gd cn cs a ccd cl outer A₀ base h₀ L m s Q E B F X N Tp hk hd1 hu1 hret herr; refine wpAny_call ?_; k_dflt (refine' code_def (binds := [("group", .ref g)]) ?k1 ?k2 ?k3 ?k4 ?k5 ?kA ?kF ?kK ?k6 ?k7 ?k8 ?k9 ?kB ?_ ?c2 ?c3 ?c4 ?c5; (case kA => exact rfl); (case kF => exact rfl); (case kK => assumption); (case k1 => k_asm); (case k2 => k_asm); (case k3 => k_asm); (case k4 => k_asm); (case k5 => k_asm); (case k6 => k_is); (case k7 => k_is); (case k8 => first | exact room0 (by assumption) | exact room1 (by assumption) rfl | exact room2 (by assumption) rfl | exact room3 (by assumption) rfl | exact roomA (by assumption) rfl | exact roomS (by assumption) rfl | exact roomM (by assumption) rfl | exact roomB (by assumption) rfl); (case k9 => exact BindsTo.of_eq rfl); (case c5 => decide); (case kB => exact locs rfl); (case c2 => exact rfl); (case c3 => exact rfl); (case c4 => exact rfl); k_whole); intro g' L' hp FG' F' N' B' X' T'; (try dsimp only [List.reverse_cons, List.reverse_nil, List.nil_append, List.cons_append, List.length_cons, List.length_nil, Nat.zero_add] at F' ⊢); k_fold; refine fold_env ?_; intro e₁ A₁
  have hl := hT.len
  have h2' : ∀ o, (tl, tupK vs k) ∈ o :: news := fun o => .tail _ h2
  repeat' (first | ((with_reducible show wpAny _ _ (exec _ _) _ _ _); k_fold) | ((fail_if_success (with_reducible refine stop_of Stop4 (by constructor) ?_)); (fail_if_success (with_reducible refine stop_of Stop1 (by constructor) ?_)); first | (k_unfold; (try dsimp only)) | (k_end; wrow_close) | walk1 | (dsimp only; walk1) | (leave1; try dsimp only)) | walk_at "mine item" | fail)
  all_goals
    rename_i lf h8 l9 h9 F9 N9
    refine For_invV (h₀ := g') rfl rfl ?_
    repeat' (first | ((with_reducible show wpAny _ _ (exec _ _) _ _ _); k_fold) | ((fail_if_success (with_reducible refine stop_of Stop4 (by constructor) ?_)); (fail_if_success (with_reducible refine stop_of Stop1 (by constructor) ?_)); first | (k_unfold; (try dsimp only)) | (k_end; wrow_close) | walk1 | (dsimp only; walk1) | (leave1; try dsimp only)) | walk_at "mine item" | fail)
    refine len_tuple (News.isTup (by assumption) (h2' _)) (by rw [List.size_toArray]; omega) ?_
    repeat' (first | ((with_reducible show wpAny _ _ (exec _ _) _ _ _); k_fold) | ((fail_if_success (with_reducible refine stop_of Stop4 (by constructor) ?_)); (fail_if_success (with_reducible refine stop_of Stop1 (by constructor) ?_)); first | (k_unfold; (try dsimp only)) | (k_end; wrow_close) | walk1 | (dsimp only; walk1) | (leave1; try dsimp only)) | walk_at "mine item" | fail)
    have hnl : ∀ p ∈ news, p.1 ≠ lf := fun p hp => Nat.ne_of_lt (l9 p hp)
  · have hs : (if kd = Str.ofString "choice" then Str.ofString "|" else Str.ofString ",") = Str.ofString "|" := if_pos (by simpa using (by assumption : (kd == Str.ofString "choice") = true))
    rw [hs] at hret
    refine iter_range1 (n := ds.length) (fun i nx => ∃ us k', (lf, listOf us.toArray k') ∈ nx ∧ us.length = 2 * i + 1 ∧ TAll nx us (tf (Str.ofString "|") (if i < ds.length then Str.ofString "|" else Str.ofString "(") (ds.drop (ds.length - i)) ++ [Dat.str (Str.ofString ")" ++ mk)]).reverse ∧ ∀ p ∈ news, p ∈ nx) rfl (by assumption) (small_down (by rw [List.size_toArray]; omega) (by rw [List.size_toArray]; omega) (by decide) (by decide)) (by rw [rangeSize_downNat, List.size_toArray, hl]; congr 1; omega) (by assumption) (by assumption) ⟨[_], 0, .head _, rfl, ?_, fun p hp => .tail _ hp⟩ (by intro I hI i n n' k J9; obtain ⟨us, k', a, b, c, d⟩ := J9; exact ⟨us, k', k _ a fun _ => rfl, b, c.imm k.imm, fun p hp => k _ (d p hp) fun q => absurd q (hI p (.tail _ hp))⟩) ?_ ?_
    · rw [Nat.sub_zero, List.drop_length]
      exact .cons (.str _ _) .nil
    · intro i t nx own h7 tk7 hi J9 hown F7 N7; refine fold_goal ?_; intro G9 k9; obtain ⟨us, k', a1, a2, a3, a4⟩ := J9; refine k9 ?_; clear k9 G9
      rw [if_pos hi] at a3
      have N8 := news_front N7 a1
      have k8 := off_kp N7 a1 rfl
      have g1 := off_mem (a4 _ h1) (hnl _ h1)
      have g2 := off_mem (a4 _ h2) (hnl _ h2)
      have hk7 := fun o => own_keep N7 hown (Kp.cons (q := o) k8) fun d hd => by rw [List.mem_singleton.mp hd]; exact ⟨_, a1, rfl⟩
      have hz : us.toArray.size ≤ sizeLine := by rw [List.size_toArray, a2, sizeLine_eq]; omega
      obtain ⟨v, e1, e2⟩ := hT.get (ds.length - (i + 1)) (by omega)
      have e3 := e2.imm fun p hp _ => a4 p hp
      have hat : ((vs.toArray.size : Int) - 1 + (i : Int) * -1) = ((ds.length - (i + 1) : Nat) : Int) := by rw [List.size_toArray]; omega
      rw [hat] at F7
      repeat' (first | ((with_reducible show wpAny _ _ (exec _ _) _ _ _); k_fold) | ((fail_if_success (with_reducible refine stop_of Stop4 (by constructor) ?_)); (fail_if_success (with_reducible refine stop_of Stop1 (by constructor) ?_)); first | (k_unfold; (try dsimp only)) | (k_end; wrow_close) | walk1 | (dsimp only; walk1) | (leave1; try dsimp only)) | walk_at "mine item" | fail)
      walk_at "last subscriptTail"
      refine item_tupleL (News.isTup (by assumption) (a4 _ h2)) (by omega) (by omega) (idx_pos (by omega) (by omega)) (by rw [Int.toNat_natCast]; exact e1) ?_
      repeat' (first | ((with_reducible show wpAny _ _ (exec _ _) _ _ _); k_fold) | ((fail_if_success (with_reducible refine stop_of Stop4 (by constructor) ?_)); (fail_if_success (with_reducible refine stop_of Stop1 (by constructor) ?_)); first | (k_unfold; (try dsimp only)) | (k_end; wrow_close) | walk1 | (dsimp only; walk1) | (leave1; try dsimp only)) | walk_at "mine item" | fail)
      · have hc : i + 1 < ds.length := by omega
        rename News _ _ _ ((lf, _) :: off lf nx) => N5
        rw [List.push_toArray, List.push_toArray] at N5
        refine FStep.next (by assumption) N5 (hk7 _) ⟨fun z hz => if_neg hz, _, _, .head _, ?_, ?_, fun p hp => .tail _ (off_mem (a4 p hp) (hnl p hp))⟩
        · simp only [List.length_append, List.length_singleton]; omega
        · rw [if_pos hc, tf_next hi]
          exact ((a3.imm k8.cons.imm).snoc (e3.imm k8.cons.imm)).snoc (.str _ _)
      · have hc : ¬ i + 1 < ds.length := by omega
        rename News _ _ _ ((lf, _) :: off lf nx) => N5
        rw [List.push_toArray, List.push_toArray] at N5
        refine FStep.next (by assumption) N5 (hk7 _) ⟨fun z hz => if_neg hz, _, _, .head _, ?_, ?_, fun p hp => .tail _ (off_mem (a4 p hp) (hnl p hp))⟩
        · simp only [List.length_append, List.length_singleton]; omega
        · rw [if_neg hc, tf_next hi]
          exact ((a3.imm k8.cons.imm).snoc (e3.imm k8.cons.imm)).snoc (.str _ _)
    · intro mx nx h7 tk7 J9 F7 N7; refine fold_goal ?_; intro G9 k9; obtain ⟨us, k', a1, a2, a3, a4⟩ := J9; refine k9 ?_; clear k9 G9
      rw [if_neg (Nat.lt_irrefl _), Nat.sub_self, List.drop_zero] at a3
      repeat' (first | ((with_reducible show wpAny _ _ (exec _ _) _ _ _); k_fold) | ((fail_if_success (with_reducible refine stop_of Stop4 (by constructor) ?_)); (fail_if_success (with_reducible refine stop_of Stop1 (by constructor) ?_)); first | (k_unfold; (try dsimp only)) | (k_end; wrow_close) | walk1 | (dsimp only; walk1) | (leave1; try dsimp only)) | walk_at "mine item" | fail)
      exact hret _ _ _ _ (by assumption) (by assumption) (Kp.sub a4) ⟨_, _, _, rfl, a1, hnl, a3⟩
  · have hs : (if kd = Str.ofString "choice" then Str.ofString "|" else Str.ofString ",") = Str.ofString "," := if_neg (by simpa using (by assumption : (kd == Str.ofString "choice") = false))
    rw [hs] at hret
    refine iter_range1 (n := ds.length) (fun i nx => ∃ us k', (lf, listOf us.toArray k') ∈ nx ∧ us.length = 2 * i + 1 ∧ TAll nx us (tf (Str.ofString ",") (if i < ds.length then Str.ofString "," else Str.ofString "(") (ds.drop (ds.length - i)) ++ [Dat.str (Str.ofString ")" ++ mk)]).reverse ∧ ∀ p ∈ news, p ∈ nx) rfl (by assumption) (small_down (by rw [List.size_toArray]; omega) (by rw [List.size_toArray]; omega) (by decide) (by decide)) (by rw [rangeSize_downNat, List.size_toArray, hl]; congr 1; omega) (by assumption) (by assumption) ⟨[_], 0, .head _, rfl, ?_, fun p hp => .tail _ hp⟩ (by intro I hI i n n' k J9; obtain ⟨us, k', a, b, c, d⟩ := J9; exact ⟨us, k', k _ a fun _ => rfl, b, c.imm k.imm, fun p hp => k _ (d p hp) fun q => absurd q (hI p (.tail _ hp))⟩) ?_ ?_
    · rw [Nat.sub_zero, List.drop_length]
      exact .cons (.str _ _) .nil
    · intro i t nx own h7 tk7 hi J9 hown F7 N7; refine fold_goal ?_; intro G9 k9; obtain ⟨us, k', a1, a2, a3, a4⟩ := J9; refine k9 ?_; clear k9 G9
      rw [if_pos hi] at a3
      have N8 := news_front N7 a1
      have k8 := off_kp N7 a1 rfl
      have g1 := off_mem (a4 _ h1) (hnl _ h1)
      have g2 := off_mem (a4 _ h2) (hnl _ h2)
      have hk7 := fun o => own_keep N7 hown (Kp.cons (q := o) k8) fun d hd => by rw [List.mem_singleton.mp hd]; exact ⟨_, a1, rfl⟩
      have hz : us.toArray.size ≤ sizeLine := by rw [List.size_toArray, a2, sizeLine_eq]; omega
      obtain ⟨v, e1, e2⟩ := hT.get (ds.length - (i + 1)) (by omega)
      have e3 := e2.imm fun p hp _ => a4 p hp
      have hat : ((vs.toArray.size : Int) - 1 + (i : Int) * -1) = ((ds.length - (i + 1) : Nat) : Int) := by rw [List.size_toArray]; omega
      rw [hat] at F7
      repeat' (first | ((with_reducible show wpAny _ _ (exec _ _) _ _ _); k_fold) | ((fail_if_success (with_reducible refine stop_of Stop4 (by constructor) ?_)); (fail_if_success (with_reducible refine stop_of Stop1 (by constructor) ?_)); first | (k_unfold; (try dsimp only)) | (k_end; wrow_close) | walk1 | (dsimp only; walk1) | (leave1; try dsimp only)) | walk_at "mine item" | fail)
      walk_at "last subscriptTail"
      refine item_tupleL (News.isTup (by assumption) (a4 _ h2)) (by omega) (by omega) (idx_pos (by omega) (by omega)) (by rw [Int.toNat_natCast]; exact e1) ?_
      repeat' (first | ((with_reducible show wpAny _ _ (exec _ _) _ _ _); k_fold) | ((fail_if_success (with_reducible refine stop_of Stop4 (by constructor) ?_)); (fail_if_success (with_reducible refine stop_of Stop1 (by constructor) ?_)); first | (k_unfold; (try dsimp only)) | (k_end; wrow_close) | walk1 | (dsimp only; walk1) | (leave1; try dsimp only)) | walk_at "mine item" | fail)
      · have hc : i + 1 < ds.length := by omega
        rename News _ _ _ ((lf, _) :: off lf nx) => N5
        rw [List.push_toArray, List.push_toArray] at N5
        refine FStep.next (by assumption) N5 (hk7 _) ⟨fun z hz => if_neg hz, _, _, .head _, ?_, ?_, fun p hp => .tail _ (off_mem (a4 p hp) (hnl p hp))⟩
        · simp only [List.length_append, List.length_singleton]; omega
        · rw [if_pos hc, tf_next hi]
          exact ((a3.imm k8.cons.imm).snoc (e3.imm k8.cons.imm)).snoc (.str _ _)
      · have hc : ¬ i + 1 < ds.length := by omega
        rename News _ _ _ ((lf, _) :: off lf nx) => N5
        rw [List.push_toArray, List.push_toArray] at N5
        refine FStep.next (by assumption) N5 (hk7 _) ⟨fun z hz => if_neg hz, _, _, .head _, ?_, ?_, fun p hp => .tail _ (off_mem (a4 p hp) (hnl p hp))⟩
        · simp only [List.length_append, List.length_singleton]; omega
        · rw [if_neg hc, tf_next hi]
          exact ((a3.imm k8.cons.imm).snoc (e3.imm k8.cons.imm)).snoc (.str _ _)
    · intro mx nx h7 tk7 J9 F7 N7; refine fold_goal ?_; intro G9 k9; obtain ⟨us, k', a1, a2, a3, a4⟩ := J9; refine k9 ?_; clear k9 G9
      rw [if_neg (Nat.lt_irrefl _), Nat.sub_self, List.drop_zero] at a3
      repeat' (first | ((with_reducible show wpAny _ _ (exec _ _) _ _ _); k_fold) | ((fail_if_success (with_reducible refine stop_of Stop4 (by constructor) ?_)); (fail_if_success (with_reducible refine stop_of Stop1 (by constructor) ?_)); first | (k_unfold; (try dsimp only)) | (k_end; wrow_close) | walk1 | (dsimp only; walk1) | (leave1; try dsimp only)) | walk_at "mine item" | fail)
      exact hret _ _ _ _ (by assumption) (by assumption) (Kp.sub a4) ⟨_, _, _, rfl, a1, hnl, a3⟩
noncomputable def names5 : List Str := [Str.ofString "a", Str.ofString "b", Str.ofString "c", Str.ofString "x:y", Str.ofString "d-1."]
noncomputable def marks4 : List Str := [Str.ofString "", Str.ofString "?", Str.ofString "*", Str.ofString "+"]
noncomputable def spOk (sp : Bool) (s : List Nat) : Prop := s = [] ∨ (sp = true ∧ (s = [32] ∨ s = [10, 9]))
noncomputable def sgOf (kd : Str) : Nat := if kd = Str.ofString "choice" then 124 else 44
mutual
/-- a particle and a text of it, with spaces where sp allows them -/
inductive Wr (sp : Bool) : Dat → List Nat → Prop
  | name {nm mk : Str} : nm ∈ names5 → mk ∈ marks4 → Wr sp (Dat.tuple [Dat.str (Str.ofString "name"), Dat.str nm, Dat.str mk]) (nm.cps.toList ++ mk.cps.toList)
  | grp {kd mk : Str} {ds : List Dat} {u : List Nat} : (kd = Str.ofString "choice" ∧ 2 ≤ ds.length ∨ kd = Str.ofString "seq" ∧ 1 ≤ ds.length) → ds.length ≤ 3 → mk ∈ marks4 → WrL sp (sgOf kd) true ds u →
      Wr sp (Dat.tuple [Dat.str kd, Dat.tuple ds, Dat.str mk]) (40 :: (u ++ 41 :: mk.cps.toList))
inductive WrL (sp : Bool) : Nat → Bool → List Dat → List Nat → Prop
  | nil {sg : Nat} {b : Bool} : WrL sp sg b [] []
  | cons {sg : Nat} {b : Bool} {d : Dat} {ds : List Dat} {s1 t s2 u : List Nat} : spOk sp s1 → spOk sp s2 → Wr sp d t → WrL sp sg false ds u → WrL sp sg b (d :: ds) ((if b = true then [] else [sg]) ++ (s1 ++ (t ++ (s2 ++ u))))
end
mutual
theorem Wr.one {d : Dat} {t t' : List Nat} : Wr false d t → Wr false d t' → t = t'
  | .name _ _, h => by cases h; rfl
  | .grp a b c r, h => by
    cases h with
    | grp a' b' c' r' => rw [WrL.one r r']
theorem WrL.one {sg : Nat} {b : Bool} {ds : List Dat} {u u' : List Nat} : WrL false sg b ds u → WrL false sg b ds u' → u = u'
  | .nil, h => by cases h; rfl
  | .cons a b c r, h => by
    cases h with
    | cons a' b' c' r' =>
      rcases a with rfl | a
      · rcases b with rfl | b
        · rcases a' with rfl | a'
          · rcases b' with rfl | b'
            · rw [Wr.one c c', WrL.one r r']
            · cases b'.1
          · cases a'.1
        · cases b.1
      · cases a.1
end
theorem Wr.pos {sp : Bool} {d : Dat} {t : List Nat} (h : Wr sp d t) : 1 ≤ t.length := by
  cases h with
  | name a b =>
    have : ∀ nm ∈ names5, 1 ≤ nm.cps.toList.length := by decide +kernel
    have := this _ a
    rw [List.length_append]; (first | lia | omega)
  | grp a b c r => exact Nat.succ_le_succ (Nat.zero_le _)
/-- a stack of strs and particles (top first), its text, the count of its strs -/
inductive TX : List Dat → List Nat → Nat → Prop
  | nil : TX [] [] 0
  | str {x : Str} {L : List Dat} {u : List Nat} {k : Nat} : 1 ≤ x.length → TX L u k → TX (Dat.str x :: L) (x.cps.toList ++ u) (k + 1)
  | part {d : Dat} {t : List Nat} {L : List Dat} {u : List Nat} {k : Nat} : Wr false d t → TX L u k → TX (d :: L) (t ++ u) k
theorem TX.len {L : List Dat} {u : List Nat} {k : Nat} (h : TX L u k) : k ≤ u.length ∧ L.length ≤ u.length := by
  induction h with
  | nil => exact ⟨Nat.le_refl _, Nat.le_refl _⟩
  | str a r ih =>
    rename_i x L u k
    have : x.cps.toList.length = x.length := rfl
    rw [List.length_append, List.length_cons]; (first | lia | omega)
  | part a r ih =>
    have := a.pos
    rw [List.length_append, List.length_cons]; (first | lia | omega)
theorem TX.group {S : Str} {sg : Nat} (hS : S.cps.toList = [sg]) {ds : List Dat} {u w : List Nat} {L : List Dat} {k : Nat} (hL : TX L w k) : WrL false sg false ds u → TX (tf S S ds ++ L) (u ++ w) (ds.length + k)
  | .nil => by rw [List.length_nil, Nat.zero_add]; exact hL
  | .cons (d := d) (ds := ds) (s1 := s1) (t := t) (s2 := s2) (u := u) a b c r => by
    rcases a with rfl | a
    · rcases b with rfl | b
      · have ih := TX.group hS hL r
        have e : ((if false = true then [] else [sg]) ++ ([] ++ (t ++ ([] ++ u)))) ++ w = S.cps.toList ++ (t ++ (u ++ w)) := by
          rw [hS]; simp
        rw [e, show (d :: ds).length + k = (ds.length + k) + 1 by rw [List.length_cons]; (first | lia | omega)]
        exact .str (by have : S.length = S.cps.toList.length := rfl; rw [this, hS]; exact Nat.le_refl _) (.part c ih)
      · cases b.1
    · cases a.1
theorem TX.first {F S : Str} {sg f : Nat} (hF : F.cps.toList = [f]) (hS : S.cps.toList = [sg]) {ds : List Dat} {u w : List Nat} {L : List Dat} {k : Nat} (hL : TX L w k) (hd : 1 ≤ ds.length) (h : WrL false sg true ds u) : TX (tf S F ds ++ L) (f :: (u ++ w)) (ds.length + k) := by
  cases h with
  | nil => exact absurd hd (by decide)
  | cons a b c r =>
    rename_i d ds s1 t s2 u
    rcases a with rfl | a
    · rcases b with rfl | b
      · have ih := TX.group hS hL r
        have e : f :: (((if true = true then [] else [sg]) ++ ([] ++ (t ++ ([] ++ u)))) ++ w) = F.cps.toList ++ (t ++ (u ++ w)) := by
          rw [hF]; simp
        rw [e, show (d :: ds).length + k = (ds.length + k) + 1 by rw [List.length_cons]; (first | lia | omega)]
        exact .str (by have : F.length = F.cps.toList.length := rfl; rw [this, hF]; exact Nat.le_refl _) (.part c ih)
      · cases b.1
    · cases a.1
theorem TAll.split {news : Led} {ds : List Dat} {d : Dat} : ∀ {vs : List Value}, TAll news vs (ds ++ [d]) → ∃ us v, vs = us ++ [v] ∧ TAll news us ds ∧ TIn news v d := by
  induction ds with
  | nil =>
    intro vs h
    cases h with
    | cons a r => cases r; exact ⟨[], _, rfl, .nil, a⟩
  | cons e ds ih =>
    intro vs h
    cases h with
    | cons a r =>
      obtain ⟨us, v, rfl, h1, h2⟩ := ih r
      exact ⟨_ :: us, v, rfl, .cons a h1, h2⟩
theorem app_cps (x y : Str) : (x ++ y).cps.toList = x.cps.toList ++ y.cps.toList := by
  show (x.cps ++ y.cps).toList = _
  rw [Array.toList_append]
theorem join_cons (sep x y : Str) (ys : List Str) : (Txt.join sep (x :: y :: ys)).cps.toList = x.cps.toList ++ (sep.cps.toList ++ (Txt.join sep (y :: ys)).cps.toList) := by
  have e : ∀ l, Txt.join sep l = Str.join sep l := StrLaws.glued_eq_join sep
  rw [e, e]
  show (x ++ sep ++ Str.join sep (y :: ys)).cps.toList = _
  rw [app_cps, app_cps, List.append_assoc]
theorem join_nil (sep : Str) : (Txt.join sep []).cps.toList = [] := by
  have e : ∀ l, Txt.join sep l = Str.join sep l := StrLaws.glued_eq_join sep
  rw [e]; rfl
theorem join_one (sep x : Str) : (Txt.join sep [x]).cps.toList = x.cps.toList := by
  have e : ∀ l, Txt.join sep l = Str.join sep l := StrLaws.glued_eq_join sep
  rw [e]; rfl
theorem join0 : ∀ ys : List Str, (Txt.join (Str.ofString "") ys).cps.toList = (ys.map fun y => y.cps.toList).flatten
  | [] => join_nil _
  | [x] => by rw [join_one]; simp
  | x :: y :: ys => by
    have e : (Str.ofString "").cps.toList = [] := by decide +kernel
    rw [join_cons, e, join0 (y :: ys)]
    simp
theorem len_cps (x : Str) : x.cps.toList.length = x.length := rfl
theorem TAll.append {news : Led} {us : List Value} {es : List Dat} (k : TAll news us es) : ∀ {vs : List Value} {ds : List Dat}, TAll news vs ds → TAll news (vs ++ us) (ds ++ es)
  | _, _, .nil => k
  | _, _, .cons h r => .cons h (TAll.append k r)
theorem tf_len (sg : Str) : ∀ (f : Str) (ds : List Dat), (tf sg f ds).length = 2 * ds.length
  | _, [] => rfl
  | f, d :: ds => by simp only [tf, List.length_cons, tf_len sg sg ds]; (first | lia | omega)
section
variable {prog : Program} {w : World} {A : Around} {E : Value → Shared → Prop} {Q : Flow → Shared → Prop} {s : Shared} {env : Env} {h₀ : Heap} {L : Addr}
theorem While1 (x : Str) {test : Expr} {body : List Stmt} {pos : Pos} {m : Str → Option Value} {news : Led} (J : Nat → Led → Prop) {n₀ : Nat}
    (F : Fr h₀ L s.heap m) (N : News h₀ L s.heap news) (hJ : J n₀ news)
    (turn : ∀ n mx news₁ h₁ tk₁, Fr h₀ L h₁ (fun y => if y = x then mx else m y) → News h₀ L h₁ news₁ → J n news₁ →
      wpAny (model prog w) A (isTrue test env (eval test env)) (fun b s₂ =>
        if b = true then wpAny (model prog w) A (execs body env) (WStep h₀ L s (fun k m₁ n₁ => (∀ z, z ≠ x → m₁ z = m z) ∧ J k n₁) n Q) E s₂ else Q .next s₂) E { s with heap := h₁, toks := tk₁ })
    (hE : PassesOwn (model prog w) A env E := by passes_own) :
    wpAny (model prog w) A (exec (.While test body [] pos) env) Q E s :=
  While_my (fun k m₁ n₁ => (∀ z, z ≠ x → m₁ z = m z) ∧ J k n₁) F N ⟨fun _ _ => rfl, hJ⟩ (fun n m₁ news₁ h₁ tk₁ F₁ N₁ ⟨e, j⟩ => turn n (m₁ x) news₁ h₁ tk₁ (fr_out e F₁) N₁ j) hE
end
theorem names5_len : ∀ nm ∈ names5, nm.length ≤ 10 := by decide +kernel
theorem marks4_len : ∀ nm ∈ marks4, nm.length ≤ 10 := by decide +kernel
theorem flat_len : ∀ ps : List Str, ((ps.map fun y => y.cps.toList).flatten).length = (ps.map (·.length)).sum
  | [] => rfl
  | p :: ps => by
    simp only [List.map_cons, List.flatten_cons, List.length_append, List.sum_cons, flat_len ps]
    rfl
theorem write_particle {w : World} {v : Value} {D : Dat} {t : List Nat} {news : Led} (H : TIn news v D) (hW : Wr false D t) (ht : t.length ≤ 1000) :
    Con w 310 [v] 100 600 news [] (fun v n' => ∃ tk, v = .str ⟨t.toArray⟩ tk) False := by
  have hv : ∃ a, v = .ref a := by
    cases hW with
    | name a b => cases H; exact ⟨_, rfl⟩
    | grp a b c r => cases H; exact ⟨_, rfl⟩
  obtain ⟨va, rfl⟩ := hv
  intro mean mg mb dp un gd cn cs a ccd cl outer A₀ base h₀ L m s Q E B F X N Tp hk hd1 hu1 hret herr; refine wpAny_call ?_; k_dflt (refine' code_def (binds := [("particle", .ref va)]) ?k1 ?k2 ?k3 ?k4 ?k5 ?kA ?kF ?kK ?k6 ?k7 ?k8 ?k9 ?kB ?_ ?c2 ?c3 ?c4 ?c5; (case kA => exact rfl); (case kF => exact rfl); (case kK => assumption); (case k1 => k_asm); (case k2 => k_asm); (case k3 => k_asm); (case k4 => k_asm); (case k5 => k_asm); (case k6 => k_is); (case k7 => k_is); (case k8 => first | exact room0 (by assumption) | exact room1 (by assumption) rfl | exact room2 (by assumption) rfl | exact room3 (by assumption) rfl | exact roomA (by assumption) rfl | exact roomS (by assumption) rfl | exact roomM (by assumption) rfl | exact roomB (by assumption) rfl); (case k9 => exact BindsTo.of_eq rfl); (case c5 => decide); (case kB => exact locs rfl); (case c2 => exact rfl); (case c3 => exact rfl); (case c4 => exact rfl); k_whole); intro g' L' hp FG' F' N' B' X' T'; (try dsimp only [List.reverse_cons, List.reverse_nil, List.nil_append, List.cons_append, List.length_cons, List.length_nil, Nat.zero_add] at F' ⊢); k_fold; refine fold_env ?_; intro e₁ A₁
  repeat' (first | ((with_reducible show wpAny _ _ (exec _ _) _ _ _); k_fold) | ((fail_if_success (with_reducible refine stop_of Stop4 (by constructor) ?_)); (fail_if_success (with_reducible refine stop_of Stop1 (by constructor) ?_)); first | (k_unfold; (try dsimp only)) | (k_end; wrow_close) | walk1 | (dsimp only; walk1) | (leave1; try dsimp only)) | walk_at "mine item" | fail)
  rename_i pl h5 l1 ll h4 l2 Dt h3 l3 h2 h1 h0 F9 N9
  have hpl : ∀ p ∈ news, p.1 ≠ pl := fun p hp => Nat.ne_of_lt (l1 p hp)
  have hll : ∀ p ∈ news, p.1 ≠ ll := fun p hp => Nat.ne_of_lt (Nat.lt_trans (l1 p hp) l2.1)
  have hne : pl ≠ ll := Nat.ne_of_lt l2.1
  refine While1 (Str.ofString "one") (n₀ := 2 * t.length) (fun n nx => ∃ stk u k lv pv ps nl np, (ll, listOf lv.toArray nl) ∈ nx ∧ (pl, listOf pv.toArray np) ∈ nx ∧ TAll nx lv stk.reverse ∧ StrsAre pv ps ∧ TX stk u k ∧ (ps.map fun y => y.cps.toList).flatten ++ u = t ∧ ps.length + u.length ≤ t.length ∧ (∀ p ∈ news, p ∈ nx) ∧ 2 * u.length - k ≤ n) (by assumption) (by assumption) ⟨[D], t, 0, [.ref va], [], [], 0, 0, .tail _ (.head _), .tail _ (.tail _ (.head _)), .cons (H.imm fun p hp _ => .tail _ (.tail _ (.tail _ hp))) .nil, .nil, by have := TX.part hW .nil; rw [List.append_nil] at this; exact this, rfl, by simp, fun p hp => .tail _ (.tail _ (.tail _ hp)), Nat.le_refl _⟩ ?_
  intro n mx nx h8 tk8 F8 N8 J9; refine fold_goal ?_; intro G9 k9; obtain ⟨stk, u, k, lv, pv, ps, nl, np, a1, a2, a3, a4, a5, a6, a7, a8, a9⟩ := J9; refine k9 ?_; clear k9 G9
  have hps : (ps.map (·.length)).sum + u.length = t.length := by
    rw [← a6, List.length_append, flat_len]
  have a1' : ∀ o, (ll, listOf lv.toArray nl) ∈ o :: nx := fun o => .tail _ a1
  have a2' : ∀ o, (pl, listOf pv.toArray np) ∈ o :: nx := fun o => .tail _ a2
  repeat' (first | ((with_reducible show wpAny _ _ (exec _ _) _ _ _); k_fold) | ((fail_if_success (with_reducible refine stop_of Stop4 (by constructor) ?_)); (fail_if_success (with_reducible refine stop_of Stop1 (by constructor) ?_)); first | (k_unfold; (try dsimp only)) | (k_end; wrow_close) | walk1 | (dsimp only; walk1) | (leave1; try dsimp only)) | walk_at "mine item" | fail)
  refine ne_nilK (by assumption) (a1' _) (.head _) (by first | exact room0 (by assumption) | exact room1 (by assumption) rfl | exact room2 (by assumption) rfl | exact room3 (by assumption) rfl | exact roomA (by assumption) rfl | exact roomS (by assumption) rfl | exact roomM (by assumption) rfl | exact roomB (by assumption) rfl) ?_
  cases stk with
  | nil =>
    cases a3
    cases a5
    repeat' (first | ((with_reducible show wpAny _ _ (exec _ _) _ _ _); k_fold) | ((fail_if_success (with_reducible refine stop_of Stop4 (by constructor) ?_)); (fail_if_success (with_reducible refine stop_of Stop1 (by constructor) ?_)); first | (k_unfold; (try dsimp only)) | (k_end; wrow_close) | walk1 | (dsimp only; walk1) | (leave1; try dsimp only)) | walk_at "mine item" | fail)
    refine join_listW (News.isList (by assumption) (a2' _)) (by rw [List.toList_toArray]; exact a4) (by decide +kernel) (by simp only [List.length_nil] at hps a7; (first | lia | omega)) ?_
    intro t' k'
    repeat' (first | ((with_reducible show wpAny _ _ (exec _ _) _ _ _); k_fold) | ((fail_if_success (with_reducible refine stop_of Stop4 (by constructor) ?_)); (fail_if_success (with_reducible refine stop_of Stop1 (by constructor) ?_)); first | (k_unfold; (try dsimp only)) | (k_end; wrow_close) | walk1 | (dsimp only; walk1) | (leave1; try dsimp only)) | walk_at "mine item" | fail)
    exact hret _ _ _ _ (by assumption) (by assumption) (Kp.sub fun p hp => .tail _ (a8 p hp)) ⟨t', by rw [← a6, List.append_nil, ← join0]⟩
  | cons d stk =>
    rw [List.reverse_cons] at a3
    refine fold_goal ?_; intro G9 k9; obtain ⟨us, v, rfl, b1, b2⟩ := a3.split; refine k9 ?_; clear k9 G9
    have hem : (us ++ [v]).isEmpty = false := by simp
    rw [hem]
    rename News _ _ _ (_ :: nx) => N10
    have N11 := news_tail N10
    have N12 := news_front N11 a1
    have k12 := off_kp N11 a1 rfl
    have c2 := off_mem a2 hne
    have hz : us.length + 1 ≤ 1001 := by
      have := b1.len
      have t2 := a5.len.2
      rw [List.length_reverse] at this
      rw [List.length_cons] at t2
      (first | lia | omega)
    have hz2 : pv.toArray.size ≤ sizeLine := by
      rw [List.size_toArray, strs_len_eq a4, sizeLine_eq]; (first | lia | omega)
    have c8 : ∀ p ∈ news, p ∈ off ll nx := fun p hp => off_mem (a8 p hp) (hll p hp)
    cases a5 with
    | str e1 e2 =>
      rename_i x2 u2 k2
      cases b2
      rename_i tx2
      repeat' (first | ((with_reducible show wpAny _ _ (exec _ _) _ _ _); k_fold) | ((fail_if_success (with_reducible refine stop_of Stop4 (by constructor) ?_)); (fail_if_success (with_reducible refine stop_of Stop1 (by constructor) ?_)); first | (k_unfold; (try dsimp only)) | (k_end; wrow_close) | walk1 | (dsimp only; walk1) | (leave1; try dsimp only)) | walk_at "mine item" | fail)
      refine kl_pop (by assumption) (by assumption) (kl_last_app _ _) (by k_upd) (by rw [List.length_append, sizeLine_eq]; exact Nat.le_trans hz (by decide)) ?_
      intro h13 F13 N13
      repeat' (first | ((with_reducible show wpAny _ _ (exec _ _) _ _ _); k_fold) | ((fail_if_success (with_reducible refine stop_of Stop4 (by constructor) ?_)); (fail_if_success (with_reducible refine stop_of Stop1 (by constructor) ?_)); first | (k_unfold; (try dsimp only)) | (k_end; wrow_close) | walk1 | (dsimp only; walk1) | (leave1; try dsimp only)) | walk_at "mine item" | fail)
      rename News _ _ _ ((ll, _) :: off ll nx) => N14
      have c2' := List.Mem.tail (ll, listOf us.toArray (nl + 1)) c2
      have N15 := news_front N14 c2'
      have k15 := off_kp N14 c2' rfl
      repeat' (first | ((with_reducible show wpAny _ _ (exec _ _) _ _ _); k_fold) | ((fail_if_success (with_reducible refine stop_of Stop4 (by constructor) ?_)); (fail_if_success (with_reducible refine stop_of Stop1 (by constructor) ?_)); first | (k_unfold; (try dsimp only)) | (k_end; wrow_close) | walk1 | (dsimp only; walk1) | (leave1; try dsimp only)) | walk_at "mine item" | fail)
      rename News _ _ _ ((pl, _) :: off pl _) => N16
      rw [List.push_toArray] at N16
      refine WStep.next (by assumption) N16 (n' := 2 * u2.length - k2) ?_ ⟨fun z hz => by rw [if_neg hz, if_neg hz], stk, u2, k2, us, _, _, _, _, .tail _ (off_mem (.head _) hne.symm), .head _, b1.imm (fun p hp i => (k15.cons).imm p (k12.cons.imm p hp i) i), a4.append' (.cons x2 tx2 .nil), e2, by rw [← a6]; simp, ?_, fun p hp => .tail _ (off_mem (.tail _ (c8 p hp)) (hpl p hp)), Nat.le_refl _⟩
      · have := e2.len.1
        rw [List.length_append, len_cps] at a9
        (first | lia | omega)
      · rw [List.length_append, len_cps] at a7
        rw [List.length_append, List.length_singleton]
        (first | lia | omega)
    | part e1 e2 =>
      rename_i t0 u2
      cases e1 with
      | name f1 f2 =>
        rename_i nm mk
        refine fold_goal ?_; intro G9 k9; obtain ⟨a, t1, t2, t3, n1, rfl, g1⟩ := tinN b2; refine k9 ?_; clear k9 G9
        have g1' := k12.imm _ g1 rfl
        have l10 := names5_len _ f1
        have l11 := marks4_len _ f2
        repeat' (first | ((with_reducible show wpAny _ _ (exec _ _) _ _ _); k_fold) | ((fail_if_success (with_reducible refine stop_of Stop4 (by constructor) ?_)); (fail_if_success (with_reducible refine stop_of Stop1 (by constructor) ?_)); first | (k_unfold; (try dsimp only)) | (k_end; wrow_close) | walk1 | (dsimp only; walk1) | (leave1; try dsimp only)) | walk_at "mine item" | fail)
        refine kl_pop (by assumption) (by assumption) (kl_last_app _ _) (by k_upd) (by rw [List.length_append, sizeLine_eq]; exact Nat.le_trans hz (by decide)) ?_
        intro h13 F13 N13
        repeat' (first | ((with_reducible show wpAny _ _ (exec _ _) _ _ _); k_fold) | ((fail_if_success (with_reducible refine stop_of Stop4 (by constructor) ?_)); (fail_if_success (with_reducible refine stop_of Stop1 (by constructor) ?_)); first | (k_unfold; (try dsimp only)) | (k_end; wrow_close) | walk1 | (dsimp only; walk1) | (leave1; try dsimp only)) | walk_at "mine item" | fail)
        rename News _ _ _ ((ll, _) :: off ll nx) => N14
        have c2' := List.Mem.tail (ll, listOf us.toArray (nl + 1)) c2
        have N15 := news_front N14 c2'
        have k15 := off_kp N14 c2' rfl
        repeat' (first | ((with_reducible show wpAny _ _ (exec _ _) _ _ _); k_fold) | ((fail_if_success (with_reducible refine stop_of Stop4 (by constructor) ?_)); (fail_if_success (with_reducible refine stop_of Stop1 (by constructor) ?_)); first | (k_unfold; (try dsimp only)) | (k_end; wrow_close) | walk1 | (dsimp only; walk1) | (leave1; try dsimp only)) | walk_at "mine item" | fail)
        rename News _ _ _ ((pl, _) :: off pl _) => N16
        rw [List.push_toArray] at N16
        have hpos : 1 ≤ nm.cps.toList.length := (by decide +kernel : ∀ nm ∈ names5, 1 ≤ nm.cps.toList.length) _ f1
        refine WStep.next (by assumption) N16 (n' := 2 * u2.length - k) ?_ ⟨fun z hz => by rw [if_neg hz, if_neg hz], stk, u2, k, us, _, _, _, _, .tail _ (off_mem (.head _) hne.symm), .head _, b1.imm (fun p hp i => (k15.cons).imm p (k12.cons.imm p hp i) i), a4.append' (.cons (nm ++ mk) _ .nil), e2, by rw [← a6]; simp [app_cps], ?_, fun p hp => .tail _ (off_mem (.tail _ (c8 p hp)) (hpl p hp)), Nat.le_refl _⟩
        · have := e2.len.1
          rw [List.length_append, List.length_append] at a9
          (first | lia | omega)
        · rw [List.length_append, List.length_append] at a7
          rw [List.length_append, List.length_singleton]
          (first | lia | omega)
      | grp f1 f2 f3 f4 =>
        rename_i kd mk ds u0
        have hk : v = v := rfl
        refine fold_goal ?_; intro G9 k9; obtain ⟨a, tl, t1, t2, k3, n1, vs3, rfl, g1, g2, g3⟩ := tin3 b2; refine k9 ?_; clear k9 G9
        have g1' := k12.imm _ g1 rfl
        have l11 := marks4_len _ f3
        have b2' := fun o => b2.imm (Kp.cons (q := o) k12).imm
        have hkn : (kd == Str.ofString "name") = false := by rcases f1 with ⟨rfl, _⟩ | ⟨rfl, _⟩ <;> decide +kernel
        repeat' (first | ((with_reducible show wpAny _ _ (exec _ _) _ _ _); k_fold) | ((fail_if_success (with_reducible refine stop_of Stop4 (by constructor) ?_)); (fail_if_success (with_reducible refine stop_of Stop1 (by constructor) ?_)); first | (k_unfold; (try dsimp only)) | (k_end; wrow_close) | walk1 | (dsimp only; walk1) | (leave1; try dsimp only)) | walk_at "mine item" | fail)
        refine kl_pop (by assumption) (by assumption) (kl_last_app _ _) (by k_upd) (by rw [List.length_append, sizeLine_eq]; exact Nat.le_trans hz (by decide)) ?_
        intro h13 F13 N13
        repeat' (first | ((with_reducible show wpAny _ _ (exec _ _) _ _ _); k_fold) | ((fail_if_success (with_reducible refine stop_of Stop4 (by constructor) ?_)); (fail_if_success (with_reducible refine stop_of Stop1 (by constructor) ?_)); first | (k_unfold; (try dsimp only)) | (k_end; wrow_close) | walk1 | (dsimp only; walk1) | (leave1; try dsimp only)) | walk_at "mine item" | fail)
        (k_dflt (refine' con_use ?kNz52 (group_pieces (b2' _) (Nat.le_trans f2 (by decide)) (Nat.le_trans l11 (by decide))) ?kBz52 ?kFz52 ?kXz52 ?kTz52 ?kKz52 ?kDz52 ?kUz52 ?kOkz52 ?kErrz52; (case kNz52 => k_asm); (case kBz52 => k_asm); (case kFz52 => k_asm); (case kXz52 => k_asm); (case kTz52 => k_asm); (case kKz52 => first | exact rfl | assumption); (case kDz52 => first | exact room0 (by assumption) | exact room1 (by assumption) rfl | exact room2 (by assumption) rfl | exact room3 (by assumption) rfl | exact roomA (by assumption) rfl | exact roomS (by assumption) rfl | exact roomM (by assumption) rfl | exact roomB (by assumption) rfl); (case kUz52 => first | exact room0 (by assumption) | exact room1 (by assumption) rfl | exact room2 (by assumption) rfl | exact room3 (by assumption) rfl | exact roomA (by assumption) rfl | exact roomS (by assumption) rfl | exact roomM (by assumption) rfl | exact roomB (by assumption) rfl)))
        case kErrz52 => intro hf; exact hf.elim
        intro r5 news5 hh5 tk5 F5 N5 K5 P5
        refine el33 P5 ?_
        intro l2 vs5 k5 hQ9 d1 d2 d3
        subst hQ9
        have K6 := K5.of_nil
        have hl5 : l2 ≠ ll := fun e => d2 _ (.head _) e.symm
        have m1 := K6 _ (.head _)
        have N17 := news_front N5 m1
        have k17 := off_kp N5 m1 rfl
        have d1' := off_mem d1 hl5
        have hv5 : vs5.length = 2 * ds.length + 1 := by
          rw [d3.len, List.length_reverse, List.length_append, tf_len]; rfl
        repeat' (first | ((with_reducible show wpAny _ _ (exec _ _) _ _ _); k_fold) | ((fail_if_success (with_reducible refine stop_of Stop4 (by constructor) ?_)); (fail_if_success (with_reducible refine stop_of Stop1 (by constructor) ?_)); first | (k_unfold; (try dsimp only)) | (k_end; wrow_close) | walk1 | (dsimp only; walk1) | (leave1; try dsimp only)) | walk_at "mine item" | fail)
        refine' kl_extend (l := us ++ vs5) ?xF ?xN ?xb ?xe ?xn ?xU ?xd ?xz ?xy ?_
        case xN => exact N17
        case xF => assumption
        case xb => exact .tail _ d1'
        case xe => rfl
        case xn => rw [List.toList_toArray, hv5]; (first | lia | omega)
        case xU => k_upd
        case xz => rw [List.toList_toArray, sizeLine_eq]; (first | lia | omega)
        case xy => rw [List.size_toArray, List.size_toArray, hv5, sizeLine_eq]; (first | lia | omega)
        case xd =>
          unfold Builtin.List.listTooLong
          rw [List.size_toArray, List.size_toArray, hv5, decide_eq_false (by rw [sizeLine_eq]; (first | lia | omega))]
          simp
        intro h18 F18 N18
        repeat' (first | ((with_reducible show wpAny _ _ (exec _ _) _ _ _); k_fold) | ((fail_if_success (with_reducible refine stop_of Stop4 (by constructor) ?_)); (fail_if_success (with_reducible refine stop_of Stop1 (by constructor) ?_)); first | (k_unfold; (try dsimp only)) | (k_end; wrow_close) | walk1 | (dsimp only; walk1) | (leave1; try dsimp only)) | walk_at "mine item" | fail)
        have sub5 : ∀ p ∈ news5, p.1 ≠ ll → p ∈ (ll, listOf (us ++ vs5).toArray (nl + 1 + 1)) :: off ll news5 := fun p hp e => .tail _ (off_mem hp e)
        have kx := fun o => Kp.cons (q := o) k17
        have hsg : (if kd = Str.ofString "choice" then Str.ofString "|" else Str.ofString ",").cps.toList = [sgOf kd] := by
          unfold sgOf
          rcases f1 with ⟨rfl, _⟩ | ⟨rfl, _⟩ <;> decide +kernel
        have hlen1 : 1 ≤ ds.length := by rcases f1 with ⟨_, h⟩ | ⟨_, h⟩ <;> (first | lia | omega)
        have tx := TX.first (F := Str.ofString "(") (by decide +kernel : (Str.ofString "(").cps.toList = [40]) hsg (TX.str (x := Str.ofString ")" ++ mk) (by rw [← len_cps, app_cps, show (Str.ofString ")").cps.toList = [41] by decide +kernel]; simp) e2) hlen1 f4
        rw [app_cps, show (Str.ofString ")").cps.toList = [41] by decide +kernel] at tx
        have hu : 40 :: (u0 ++ ([41] ++ mk.cps.toList ++ u2)) = 40 :: (u0 ++ 41 :: mk.cps.toList) ++ u2 := by simp
        rw [hu] at tx
        refine WStep.next (by assumption) N18 (n' := 2 * (40 :: (u0 ++ 41 :: mk.cps.toList) ++ u2).length - (ds.length + (k + 1))) ?_ ⟨fun z hz => by rw [if_neg hz, if_neg hz], _, _, _, _, pv, ps, _, _, .head _, sub5 _ (K6 _ (.tail _ c2)) hne, ?_, a4, tx, a6, a7, fun p hp => sub5 _ (K6 _ (.tail _ (c8 p hp))) (hll p hp), Nat.le_refl _⟩
        · have t1 := tx.len.1
          have t2 := e2.len.1
          simp only [List.length_append, List.length_cons] at a9 t1 ⊢
          (first | lia | omega)
        · rw [show (tf (if kd = Str.ofString "choice" then Str.ofString "|" else Str.ofString ",") (Str.ofString "(") ds ++ Dat.str (Str.ofString ")" ++ mk) :: stk).reverse = stk.reverse ++ (tf (if kd = Str.ofString "choice" then Str.ofString "|" else Str.ofString ",") (Str.ofString "(") ds ++ [Dat.str (Str.ofString ")" ++ mk)]).reverse by simp]
          exact TAll.append (d3.imm (kx _).imm) (b1.imm fun p hp i => (kx _).imm _ (K6 _ (.tail _ (k12.imm _ hp i))) i)
noncomputable def Go (s s' : St) : Prop := ∀ x, Ev s' x → Ev s x
theorem Go.step {s s' : St} (h : stepG s = .inl s') : Go s s' := fun _ k => .go h k
theorem Go.trans {a b c : St} (x : Go a b) (y : Go b c) : Go a c := fun z k => x z (y z k)
theorem Go.refl {a : St} : Go a a := fun _ k => k
theorem Go.same {a b : St} (h : stepG a = stepG b) : Go a b := fun x k => by
  cases k with
  | stop e => exact .stop (h.trans e)
  | go e k => exact .go (h.trans e) k
noncomputable abbrev mkc (c : Nat) : Bool := c == 63 || c == 42 || c == 43
structure okR (r : List Nat) : Prop where
  nc : headIs isNC r = false
  mc : headIs mkc r = false
theorem tw_app {p : Nat → Bool} : ∀ {a b : List Nat}, (∀ c ∈ a, p c = true) → headIs p b = false → (a ++ b).takeWhile p = a ∧ (a ++ b).dropWhile p = b
  | [], [], _, _ => ⟨rfl, rfl⟩
  | [], c :: b, _, h => by
    have h : p c = false := h
    simp [h]
  | c :: a, b, h, k => by
    have := tw_app (a := a) (b := b) (fun c hc => h c (.tail _ hc)) k
    simp [h c (.head _), this.1, this.2]
theorem dw_app {p : Nat → Bool} {b : List Nat} : ∀ {a : List Nat}, (∀ c ∈ a, p c = true) → (a ++ b).dropWhile p = b.dropWhile p
  | [], _ => rfl
  | c :: a, h => by
    rw [List.cons_append, List.dropWhile_cons, if_pos (h c (.head _)), dw_app fun c hc => h c (.tail _ hc)]
theorem dw_no {p : Nat → Bool} {b : List Nat} (h : headIs p b = false) : b.dropWhile p = b := by
  cases b with
  | nil => rfl
  | cons c b => rw [List.dropWhile_cons, if_neg (by have : p c = false := h; rw [this]; decide)]
theorem sp_all {sp : Bool} {s : List Nat} (h : spOk sp s) : ∀ c ∈ s, isSp c = true := by
  rcases h with rfl | ⟨_, rfl | rfl⟩
  · exact fun _ h => nomatch h
  · decide
  · decide
theorem mk_cps {mk : Str} (h : mk ∈ marks4) : mk.cps.toList = [] ∨ ∃ c, mk.cps.toList = [c] ∧ mkc c = true ∧ isNC c = false := by
  simp only [marks4, List.mem_cons, List.not_mem_nil, or_false] at h
  rcases h with rfl | rfl | rfl | rfl
  · exact .inl (by decide +kernel)
  · exact .inr ⟨63, by decide +kernel, rfl, rfl⟩
  · exact .inr ⟨42, by decide +kernel, rfl, rfl⟩
  · exact .inr ⟨43, by decide +kernel, rfl, rfl⟩
theorem mkr_app {mk : Str} (h : mk ∈ marks4) {r : List Nat} (hr : headIs mkc r = false) : mkr (mk.cps.toList ++ r) = (mk.cps.toList, r) := by
  rcases mk_cps h with e | ⟨c, e, hc, _⟩
  · rw [e]
    cases r with
    | nil => rfl
    | cons c r =>
      have hr : mkc c = false := hr
      show (if mkc c = true then _ else _) = _
      rw [hr]; rfl
  · rw [e]
    show (if mkc c = true then _ else _) = _
    rw [hc]; rfl
theorem nm_cps {nm : Str} (h : nm ∈ names5) : ∃ c tl, nm.cps.toList = c :: tl ∧ isNS c = true ∧ isSp c = false ∧ (c == 40) = false ∧ (35 == c) = false ∧ (69 == c) = false ∧ (65 == c) = false ∧ ∀ z ∈ c :: tl, isNC z = true := by
  simp only [names5, List.mem_cons, List.not_mem_nil, or_false] at h
  rcases h with rfl | rfl | rfl | rfl | rfl
  · exact ⟨97, [], by decide +kernel, by decide⟩
  · exact ⟨98, [], by decide +kernel, by decide⟩
  · exact ⟨99, [], by decide +kernel, by decide⟩
  · exact ⟨120, [58, 121], by decide +kernel, by decide⟩
  · exact ⟨100, [45, 49, 46], by decide +kernel, by decide⟩
theorem str_eta (x : Str) : (⟨x.cps.toList.toArray⟩ : Str) = x := by cases x; simp
theorem sp_grp {b : Bool} {st : List (Str × List Dat)} {r r' : List Nat} (h : r.dropWhile isSp = r'.dropWhile isSp) : stepG (.grp b st r) = stepG (.grp b st r') := by
  cases b with
  | true => simp only [stepG, h]
  | false =>
    cases st with
    | nil => rfl
    | cons p st => obtain ⟨sg, ds⟩ := p; simp only [stepG, h]
theorem go_sp {b : Bool} {st : List (Str × List Dat)} {s r : List Nat} (h : ∀ c ∈ s, isSp c = true) : Go (.grp b st (s ++ r)) (.grp b st r) := Go.same (sp_grp (dw_app h))
theorem dw_dw {p : Nat → Bool} : ∀ (r : List Nat), (r.dropWhile p).dropWhile p = r.dropWhile p
  | [] => rfl
  | c :: r => by
    rw [List.dropWhile_cons]
    split
    · exact dw_dw r
    · rename_i h
      rw [List.dropWhile_cons, if_neg h]
theorem go_name {nm mk : Str} (h1 : nm ∈ names5) (h2 : mk ∈ marks4) {r : List Nat} (hr : okR r) (st : List (Str × List Dat)) :
    Go (.grp true st (nm.cps.toList ++ mk.cps.toList ++ r)) (.grp false (pushD (Dat.tuple [Dat.str (Str.ofString "name"), Dat.str nm, Dat.str mk]) st) r) := by
  obtain ⟨c, tl, e, a1, a2, a3, _, _, _, a4⟩ := nm_cps h1
  have e1 : (nm.cps.toList ++ mk.cps.toList ++ r).dropWhile isSp = nm.cps.toList ++ (mk.cps.toList ++ r) := by
    rw [List.append_assoc]
    exact dw_no (by rw [e]; exact a2)
  have e2 : headIs isNC (mk.cps.toList ++ r) = false := by
    rcases mk_cps h2 with q | ⟨c, q, _, q2⟩
    · rw [q]; exact hr.nc
    · rw [q]; exact q2
  obtain ⟨e3, e4⟩ := tw_app (p := isNC) (a := nm.cps.toList) (b := mk.cps.toList ++ r) (by rw [e]; exact a4) e2
  have e5 : headIs (· == 40) (nm.cps.toList ++ (mk.cps.toList ++ r)) = false := by rw [e]; exact a3
  have e6 : headIs isNS (nm.cps.toList ++ (mk.cps.toList ++ r)) = true := by rw [e]; exact a1
  refine Go.step ?_
  simp only [stepG, e1, e3, e4, e5, e6, mkr_app h2 (hr.mc : headIs mkc r = false), nDat, str_eta]
  rfl
noncomputable def sgY (sg : Nat) (ds : List Dat) : Str := if ds.length ≤ 1 then Str.ofString "" else one sg
theorem empty_cps : (Str.ofString "") = (⟨#[]⟩ : Str) := by decide +kernel
theorem bar_eq : Str.ofString "|" = one 124 := by decide +kernel
theorem gDat_eq {kd mk : Str} {ds : List Dat} (h : kd = Str.ofString "choice" ∧ 2 ≤ ds.length ∨ kd = Str.ofString "seq" ∧ 1 ≤ ds.length) : gDat (sgY (sgOf kd) ds) ds mk.cps.toList = Dat.tuple [Dat.str kd, Dat.tuple ds, Dat.str mk] := by
  unfold gDat
  rw [str_eta]
  rcases h with ⟨rfl, h⟩ | ⟨rfl, h⟩
  · have : sgY (sgOf (Str.ofString "choice")) ds = Str.ofString "|" := by
      unfold sgY sgOf
      rw [if_neg (by (first | lia | omega)), if_pos rfl, bar_eq]
    rw [if_pos this]
  · have : sgY (sgOf (Str.ofString "seq")) ds ≠ Str.ofString "|" := by
      unfold sgY sgOf
      rw [if_neg (by decide +kernel : Str.ofString "seq" ≠ Str.ofString "choice"), bar_eq]
      split
      · rw [empty_cps]; simp [one]
      · simp [one]
    rw [if_neg this]
theorem go_grp {kd mk : Str} {ds : List Dat} {u r : List Nat} {st : List (Str × List Dat)} (hk : kd = Str.ofString "choice" ∧ 2 ≤ ds.length ∨ kd = Str.ofString "seq" ∧ 1 ≤ ds.length) (hm : mk ∈ marks4) (hst : st ≠ []) (hr : headIs mkc r = false)
    (h : Go (.grp true ((Str.ofString "", []) :: st) (u ++ 41 :: (mk.cps.toList ++ r))) (.grp false ((sgY (sgOf kd) ds, ds) :: st) (41 :: (mk.cps.toList ++ r)))) :
    Go (.grp true st (40 :: (u ++ 41 :: mk.cps.toList) ++ r)) (.grp false (pushD (Dat.tuple [Dat.str kd, Dat.tuple ds, Dat.str mk]) st) r) := by
  have e : 40 :: (u ++ 41 :: mk.cps.toList) ++ r = 40 :: (u ++ 41 :: (mk.cps.toList ++ r)) := by simp
  rw [e]
  refine (Go.step (s' := .grp true ((Str.ofString "", []) :: st) (u ++ 41 :: (mk.cps.toList ++ r))) rfl).trans (h.trans (Go.step ?_))
  obtain ⟨p, st, rfl⟩ : ∃ p q, st = p :: q := by
    cases st with
    | nil => exact absurd rfl hst
    | cons p q => exact ⟨p, q, rfl⟩
  have e2 : (41 :: (mk.cps.toList ++ r)).dropWhile isSp = 41 :: (mk.cps.toList ++ r) := rfl
  have e3 : goesR (sgY (sgOf kd) ds) (41 :: (mk.cps.toList ++ r)) = some (false, mk.cps.toList ++ r, sgY (sgOf kd) ds) := rfl
  simp only [stepG, e2, e3, mkr_app hm hr, gDat_eq hk]
theorem ok_sp {s r : List Nat} (hs : ∀ c ∈ s, isSp c = true) (hr : okR r) : okR (s ++ r) := by
  cases s with
  | nil => exact hr
  | cons c s =>
    have h := hs c (.head _)
    have : c = 32 ∨ c = 9 ∨ c = 10 ∨ c = 13 := by simpa [isSp, or_assoc] using h
    rcases this with rfl | rfl | rfl | rfl <;> exact ⟨rfl, rfl⟩
theorem ok_rest {sp : Bool} {sg : Nat} (hsg : sg = 44 ∨ sg = 124) {ds : List Dat} {u w : List Nat} (hw : okR w) (h : WrL sp sg false ds u) : okR (u ++ w) := by
  cases h with
  | nil => exact hw
  | cons a b c r => rcases hsg with rfl | rfl <;> exact ⟨rfl, rfl⟩
theorem sgOf_or (kd : Str) : sgOf kd = 44 ∨ sgOf kd = 124 := by unfold sgOf; split <;> simp
mutual
theorem go_part {sp : Bool} {d : Dat} {t : List Nat} : Wr sp d t → ∀ (st : List (Str × List Dat)) (r : List Nat), st ≠ [] → okR r → Go (.grp true st (t ++ r)) (.grp false (pushD d st) r)
  | .name a b, st, _, _, hr => go_name a b hr st
  | .grp (kd := kd) a _ c e, st, _, hst, hr => go_grp a c hst hr.mc (go_body (sgOf_or kd) e (by rcases a with ⟨_, a⟩ | ⟨_, a⟩ <;> (first | lia | omega)) st _ ⟨rfl, rfl⟩)
theorem go_body {sp : Bool} {sg : Nat} (hsg : sg = 44 ∨ sg = 124) {ds : List Dat} {u : List Nat} : WrL sp sg true ds u → 1 ≤ ds.length → ∀ (st : List (Str × List Dat)) (w : List Nat), okR w → Go (.grp true ((Str.ofString "", []) :: st) (u ++ w)) (.grp false ((sgY sg ds, ds) :: st) w)
  | .nil, h, _, _, _ => absurd h (by decide)
  | .cons (d := d) (ds := ds) (s1 := s1) (t := t) (s2 := s2) (u := u) a b c r, _, st, w, hw => by
    have e : ((if true = true then [] else [sg]) ++ (s1 ++ (t ++ (s2 ++ u)))) ++ w = s1 ++ (t ++ (s2 ++ (u ++ w))) := by simp
    rw [e]
    refine (go_sp (sp_all a)).trans ((go_part c ((Str.ofString "", []) :: st) (s2 ++ (u ++ w)) (List.cons_ne_nil _ _) (ok_sp (sp_all b) (ok_rest hsg hw r))).trans ((go_sp (sp_all b)).trans ?_))
    have := go_rest hsg r [d] (Str.ofString "") st w (.inl rfl) hw
    have e2 : (if ds.length = 0 then Str.ofString "" else one sg) = sgY sg (d :: ds) := by
      unfold sgY
      rw [List.length_cons]
      by_cases h : ds.length = 0
      · rw [if_pos h, if_pos (by (first | lia | omega))]
      · rw [if_neg h, if_neg (by (first | lia | omega))]
    rw [e2] at this
    exact this
theorem go_rest {sp : Bool} {sg : Nat} (hsg : sg = 44 ∨ sg = 124) {ds : List Dat} {u : List Nat} : WrL sp sg false ds u → ∀ (acc : List Dat) (sx : Str) (st : List (Str × List Dat)) (w : List Nat), (sx = Str.ofString "" ∨ sx = one sg) → okR w → Go (.grp false ((sx, acc) :: st) (u ++ w)) (.grp false ((if ds.length = 0 then sx else one sg, acc ++ ds) :: st) w)
  | .nil, acc, sx, st, w, _, _ => by
    rw [List.append_nil, if_pos List.length_nil]; exact Go.refl
  | .cons (d := d) (ds := ds) (s1 := s1) (t := t) (s2 := s2) (u := u) a b c r, acc, sx, st, w, hx, hw => by
    have e : ((if false = true then [] else [sg]) ++ (s1 ++ (t ++ (s2 ++ u)))) ++ w = sg :: (s1 ++ (t ++ (s2 ++ (u ++ w)))) := by simp
    rw [e]
    have st1 : Go (.grp false ((sx, acc) :: st) (sg :: (s1 ++ (t ++ (s2 ++ (u ++ w)))))) (.grp true ((one sg, acc) :: st) (s1 ++ (t ++ (s2 ++ (u ++ w))))) := by
      refine Go.step ?_
      have e2 : (sg :: (s1 ++ (t ++ (s2 ++ (u ++ w))))).dropWhile isSp = sg :: (s1 ++ (t ++ (s2 ++ (u ++ w)))) := dw_no (by rcases hsg with rfl | rfl <;> rfl)
      have e3 : goesR sx (sg :: (s1 ++ (t ++ (s2 ++ (u ++ w))))) = some (true, s1 ++ (t ++ (s2 ++ (u ++ w))), one sg) := by
        have : (sg == 44 || sg == 124) = true := by rcases hsg with rfl | rfl <;> decide
        simp only [goesR, this, if_true, if_pos hx]
      simp only [stepG, e2, e3]
    refine st1.trans ((go_sp (sp_all a)).trans ((go_part c ((one sg, acc) :: st) (s2 ++ (u ++ w)) (List.cons_ne_nil _ _) (ok_sp (sp_all b) (ok_rest hsg hw r))).trans ((go_sp (sp_all b)).trans ?_)))
    have := go_rest hsg r (acc ++ [d]) (one sg) st w (.inr rfl) hw
    have e2 : (if ds.length = 0 then one sg else one sg) = if (d :: ds).length = 0 then sx else one sg := by
      rw [if_neg (by rw [List.length_cons]; (first | lia | omega) : ¬ (d :: ds).length = 0)]; split <;> rfl
    rw [e2, List.append_assoc] at this
    exact this
end
/-- the text of a group with text, behind #PCDATA -/
inductive MixT (sp : Bool) : List Str → List Nat → Prop
  | nil : MixT sp [] []
  | cons {nm : Str} {ns : List Str} {s1 s2 u : List Nat} : spOk sp s1 → spOk sp s2 → nm ∈ names5 → MixT sp ns u → MixT sp (nm :: ns) (s1 ++ 124 :: (s2 ++ (nm.cps.toList ++ u)))
theorem MixT.snoc {sp : Bool} {nm : Str} {s1 s2 : List Nat} (h1 : spOk sp s1) (h2 : spOk sp s2) (h3 : nm ∈ names5) : ∀ {ns : List Str} {u : List Nat}, MixT sp ns u → MixT sp (ns ++ [nm]) (u ++ (s1 ++ 124 :: (s2 ++ nm.cps.toList)))
  | _, _, .nil => by
    have := MixT.cons h1 h2 h3 .nil
    rw [List.append_nil] at this
    exact this
  | _, _, .cons (nm := n2) (s1 := r1) (s2 := r2) (u := u) a b c r => by
    have := MixT.cons a b c (MixT.snoc h1 h2 h3 r)
    have e : (r1 ++ 124 :: (r2 ++ (n2.cps.toList ++ u))) ++ (s1 ++ 124 :: (s2 ++ nm.cps.toList)) = r1 ++ 124 :: (r2 ++ (n2.cps.toList ++ (u ++ (s1 ++ 124 :: (s2 ++ nm.cps.toList))))) := by simp
    rw [e]; exact this
/-- a model and a text of it -/
inductive Tx (sp : Bool) : Dat → List Nat → Prop
  | empty : Tx sp (Dat.tuple [Dat.str (Str.ofString "empty")]) eE
  | any : Tx sp (Dat.tuple [Dat.str (Str.ofString "any")]) eA
  | kids {kd mk : Str} {ds : List Dat} {t : List Nat} : Wr sp (Dat.tuple [Dat.str kd, Dat.tuple ds, Dat.str mk]) t → Tx sp (Dat.tuple [Dat.str (Str.ofString "children"), Dat.tuple [Dat.str kd, Dat.tuple ds, Dat.str mk]]) t
  | mixed {ns : List Str} {s1 u s2 st : List Nat} : spOk sp s1 → MixT sp ns u → spOk sp s2 → (st = [42] ∨ st = [] ∧ ns = []) → (sp = false → ns = [] → st = []) → ns.Nodup →
      Tx sp (Dat.tuple [Dat.str (Str.ofString "mixed"), Dat.tuple (ns.map Dat.str)]) (40 :: (s1 ++ (eP ++ (u ++ (s2 ++ 41 :: st)))))
theorem spF {s : List Nat} (h : spOk false s) : s = [] := by
  rcases h with h | h
  · exact h
  · cases h.1
theorem MixT.one {ns : List Str} {u : List Nat} (h : MixT false ns u) : ∀ {u' : List Nat}, MixT false ns u' → u = u' := by
  induction h with
  | nil => intro u' k; cases k; rfl
  | cons a b c r ih =>
    intro u' k
    cases k with
    | cons a' b' c' r' => rw [spF a, spF b, spF a', spF b', ih r']
theorem strs_inj {a b : List Str} (h : a.map Dat.str = b.map Dat.str) : a = b := by
  induction a generalizing b with
  | nil => cases b with
    | nil => rfl
    | cons => cases h
  | cons x a ih => cases b with
    | nil => cases h
    | cons y b =>
      simp only [List.map_cons, List.cons.injEq, Dat.str.injEq] at h
      rw [h.1, ih h.2]
theorem hne_of {a b : String} (h : Str.ofString a ≠ Str.ofString b) {x y : Dat} : Dat.tuple [Dat.str (Str.ofString a), x] ≠ Dat.tuple [Dat.str (Str.ofString b), y] := fun e => by
  simp only [Dat.tuple.injEq, List.cons.injEq, Dat.str.injEq] at e
  exact h e.1
/-- the text without spaces is one alone -/
theorem Tx.one {D : Dat} {t t' : List Nat} (h : Tx false D t) (k : Tx false D t') : t = t' := by
  generalize hD : D = D' at k
  cases h with
  | empty =>
    cases k with
    | empty => rfl
    | any => simp only [Dat.tuple.injEq, List.cons.injEq, Dat.str.injEq] at hD; exact absurd hD.1 (by decide +kernel)
    | kids => simp only [Dat.tuple.injEq, List.cons.injEq] at hD; cases hD.2
    | mixed => simp only [Dat.tuple.injEq, List.cons.injEq] at hD; cases hD.2
  | any =>
    cases k with
    | empty => simp only [Dat.tuple.injEq, List.cons.injEq, Dat.str.injEq] at hD; exact absurd hD.1 (by decide +kernel)
    | any => rfl
    | kids => simp only [Dat.tuple.injEq, List.cons.injEq] at hD; cases hD.2
    | mixed => simp only [Dat.tuple.injEq, List.cons.injEq] at hD; cases hD.2
  | kids x =>
    cases k with
    | empty => simp only [Dat.tuple.injEq, List.cons.injEq] at hD; cases hD.2
    | any => simp only [Dat.tuple.injEq, List.cons.injEq] at hD; cases hD.2
    | kids y =>
      simp only [Dat.tuple.injEq, List.cons.injEq, Dat.str.injEq, true_and, and_true] at hD
      obtain ⟨rfl, rfl, rfl⟩ := hD
      exact Wr.one x y
    | mixed => exact absurd hD (hne_of (by decide +kernel))
  | mixed a b c d e f =>
    cases k with
    | empty => simp only [Dat.tuple.injEq, List.cons.injEq] at hD; cases hD.2
    | any => simp only [Dat.tuple.injEq, List.cons.injEq] at hD; cases hD.2
    | kids y => exact absurd hD (hne_of (by decide +kernel))
    | mixed a' b' c' d' e' f' =>
      simp only [Dat.tuple.injEq, List.cons.injEq, true_and, and_true] at hD
      obtain rfl := strs_inj hD
      rw [spF a, spF a', spF c, spF c', b.one b']
      have : ∀ {st st' : List Nat} {ns : List Str}, (st = [42] ∨ st = [] ∧ ns = []) → (st' = [42] ∨ st' = [] ∧ ns = []) → (false = false → ns = [] → st = []) → (false = false → ns = [] → st' = []) → st = st' := by
        intro st st' ns h1 h2 h3 h4
        rcases h1 with rfl | ⟨rfl, hn⟩
        · rcases h2 with rfl | ⟨rfl, hn⟩
          · rfl
          · exact h3 rfl hn
        · exact (h4 rfl hn).symm
      rw [this d d' e e']
theorem ev_top {sp : Bool} {kd mk : Str} {ds : List Dat} {u : List Nat} (hk : kd = Str.ofString "choice" ∧ 2 ≤ ds.length ∨ kd = Str.ofString "seq" ∧ 1 ≤ ds.length) (hm : mk ∈ marks4) (hu : WrL sp (sgOf kd) true ds u) {r : List Nat} (hr : headIs mkc r = false) :
    Ev (.grp true [(Str.ofString "", [])] (u ++ 41 :: (mk.cps.toList ++ r))) (some (Dat.tuple [Dat.str kd, Dat.tuple ds, Dat.str mk], r)) := by
  refine go_body (sgOf_or kd) hu (by rcases hk with ⟨_, a⟩ | ⟨_, a⟩ <;> (first | lia | omega)) [] _ ⟨rfl, rfl⟩ _ (.stop ?_)
  have e2 : (41 :: (mk.cps.toList ++ r)).dropWhile isSp = 41 :: (mk.cps.toList ++ r) := rfl
  have e3 : goesR (sgY (sgOf kd) ds) (41 :: (mk.cps.toList ++ r)) = some (false, mk.cps.toList ++ r, sgY (sgOf kd) ds) := rfl
  simp only [stepG, e2, e3, mkr_app hm hr, gDat_eq hk]
/-- the machine forgets spaces ahead -/
theorem ev_dw {b : Bool} {st : List (Str × List Dat)} {r : List Nat} {x : Option (Dat × List Nat)} (h : Ev (.grp b st r) x) : Ev (.grp b st (r.dropWhile isSp)) x :=
  Go.same (sp_grp (dw_dw r)) x h
theorem Wr.head {sp : Bool} {d : Dat} {t : List Nat} (h : Wr sp d t) : ∃ c tl, t = c :: tl ∧ isSp c = false ∧ (35 == c) = false ∧ (69 == c) = false ∧ (65 == c) = false := by
  cases h with
  | name a b =>
    obtain ⟨c, tl, e, _, a2, _, a3, a4, a5, _⟩ := nm_cps a
    exact ⟨c, _, by rw [e]; rfl, a2, a3, a4, a5⟩
  | grp a b c e => exact ⟨40, _, rfl, rfl, rfl, rfl, rfl⟩
theorem pre_no {a c : Nat} {l tl : List Nat} (h : (a == c) = false) : (a :: l).isPrefixOf (c :: tl) = false := by
  rw [List.isPrefixOf_cons₂, h]; rfl
theorem WrL.noP {sp : Bool} {sg : Nat} {ds : List Dat} {u w : List Nat} (h : WrL sp sg true ds u) (hd : 1 ≤ ds.length) : eP.isPrefixOf ((u ++ w).dropWhile isSp) = false := by
  cases h with
  | nil => exact absurd hd (by decide)
  | cons a b c r =>
    rename_i d ds s1 t s2 u
    obtain ⟨x, tl, rfl, h1, h2, _⟩ := c.head
    have e : ((if true = true then [] else [sg]) ++ (s1 ++ (x :: tl ++ (s2 ++ u)))) ++ w = s1 ++ (x :: (tl ++ (s2 ++ (u ++ w)))) := by simp
    rw [e, dw_app (sp_all a), dw_no (show headIs isSp (x :: _) = false from h1)]
    exact pre_no h2
theorem rsp_group {r : List Nat} {X : Option (Dat × List Nat)} (h : eP.isPrefixOf (r.dropWhile isSp) = false) (k : Ev (.grp true [(Str.ofString "", [])] r) X) : RSp (40 :: r) (X.map fun p => (.tuple [.str (Str.ofString "children"), p.1], p.2)) :=
  .kids rfl rfl rfl h (ev_dw k)
theorem wr_rsp {sp : Bool} {kd mk : Str} {ds : List Dat} {t : List Nat} (h : Wr sp (Dat.tuple [Dat.str kd, Dat.tuple ds, Dat.str mk]) t) {r : List Nat} (hr : headIs mkc r = false) :
    RSp (t ++ r) (some (Dat.tuple [Dat.str (Str.ofString "children"), Dat.tuple [Dat.str kd, Dat.tuple ds, Dat.str mk]], r)) := by
  cases h with
  | grp a b c e =>
    rename_i u
    have q : 40 :: (u ++ 41 :: mk.cps.toList) ++ r = 40 :: (u ++ 41 :: (mk.cps.toList ++ r)) := by simp
    rw [q]
    exact rsp_group (e.noP (by rcases a with ⟨_, a⟩ | ⟨_, a⟩ <;> (first | lia | omega))) (ev_top a c e hr)
theorem go_mix {sp : Bool} {ns : List Str} {u : List Nat} (h : MixT sp ns u) : ∀ {acc : List Str} {w : List Nat}, headIs isNC w = false → (acc ++ ns).Nodup → Go (.mix acc ((u ++ w).dropWhile isSp)) (.mix (acc ++ ns) (w.dropWhile isSp)) := by
  induction h with
  | nil => intro acc w _ _; rw [List.append_nil]; exact Go.refl
  | cons a b c r ih =>
    rename_i nm ns s1 s2 u
    intro acc w hw hn
    have e : (s1 ++ 124 :: (s2 ++ (nm.cps.toList ++ u))) ++ w = s1 ++ (124 :: (s2 ++ (nm.cps.toList ++ (u ++ w)))) := by simp
    obtain ⟨x, tl, e1, a1, a2, _, _, _, _, a4⟩ := nm_cps c
    have hu : headIs isNC (u ++ w) = false := by
      cases r with
      | nil => exact hw
      | cons p q r' s =>
        rename_i s3 s4 u3
        rcases p with rfl | ⟨_, rfl | rfl⟩ <;> rfl
    rw [e, dw_app (sp_all a), dw_no (show headIs isSp (124 :: _) = false from rfl)]
    obtain ⟨e3, e4⟩ := tw_app (p := isNC) (a := nm.cps.toList) (b := u ++ w) (by rw [e1]; exact a4) hu
    have e5 : (s2 ++ (nm.cps.toList ++ (u ++ w))).dropWhile isSp = nm.cps.toList ++ (u ++ w) := by
      rw [dw_app (sp_all b)]
      exact dw_no (by rw [e1]; exact a2)
    have e6 : headIs isNS (nm.cps.toList ++ (u ++ w)) = true := by rw [e1]; exact a1
    have hnm : nm ∉ acc := fun hm => by
      have := (List.nodup_append.mp hn).2.2 nm hm nm (.head _)
      exact this rfl
    have st1 : Go (.mix acc (124 :: (s2 ++ (nm.cps.toList ++ (u ++ w))))) (.mix (acc ++ [nm]) ((u ++ w).dropWhile isSp)) := by
      refine Go.step ?_
      have h0 : headIs (· == 124) (124 :: (s2 ++ (nm.cps.toList ++ (u ++ w)))) = true := rfl
      simp only [stepG, h0, if_true, List.drop_succ_cons, List.drop_zero, e5, e6, e3, e4, str_eta, if_neg hnm]
    refine st1.trans ?_
    have := ih (acc := acc ++ [nm]) hw (by rw [List.append_assoc]; exact hn)
    rw [List.append_assoc] at this
    exact this
theorem ev_mix {ns : List Str} {st r : List Nat} (h : st = [42] ∨ st = [] ∧ ns = []) (hr : headIs mkc r = false) : Ev (.mix ns (41 :: (st ++ r))) (some (mDat ns, r)) := by
  refine .stop ?_
  rcases h with rfl | ⟨rfl, rfl⟩
  · rfl
  · have h1 : headIs (· == 124) (41 :: ([] ++ r)) = false := rfl
    have h2 : headIs (· == 41) (41 :: ([] ++ r)) = true := rfl
    have h3 : headIs (· == 42) ((41 :: ([] ++ r)).drop 1) = false := by
      cases r with
      | nil => rfl
      | cons c r =>
        have hr : (c == 63 || c == 42 || c == 43) = false := hr
        simp only [Bool.or_eq_false_iff] at hr
        exact hr.1.2
    simp only [stepG, h1, h2, h3, Bool.false_eq_true, if_false, if_true]
    rfl
/-- what is written is read -/
theorem Tx.rsp {sp : Bool} {D : Dat} {t : List Nat} (h : Tx sp D t) {r : List Nat} (hr : headIs mkc r = false) : RSp (t ++ r) (some (D, r)) := by
  cases h with
  | empty => exact .empty rfl
  | any => exact .any rfl rfl
  | kids x => exact wr_rsp x hr
  | mixed a b c d e f =>
    rename_i ns s1 u s2 st
    have q : 40 :: (s1 ++ (eP ++ (u ++ (s2 ++ 41 :: st)))) ++ r = 40 :: (s1 ++ (eP ++ (u ++ (s2 ++ 41 :: (st ++ r))))) := by simp
    have q2 : (s1 ++ (eP ++ (u ++ (s2 ++ 41 :: (st ++ r))))).dropWhile isSp = eP ++ (u ++ (s2 ++ 41 :: (st ++ r))) := by
      rw [dw_app (sp_all a)]; rfl
    rw [q]
    refine .mix rfl rfl rfl ?_ ?_
    · show eP.isPrefixOf ((s1 ++ (eP ++ (u ++ (s2 ++ 41 :: (st ++ r))))).dropWhile isSp) = true
      rw [q2]; rfl
    · show Ev (.mix [] ((((s1 ++ (eP ++ (u ++ (s2 ++ 41 :: (st ++ r))))).dropWhile isSp).drop 7).dropWhile isSp)) _
      rw [q2]
      show Ev (.mix [] ((u ++ (s2 ++ 41 :: (st ++ r))).dropWhile isSp)) _
      have hw : headIs isNC (s2 ++ 41 :: (st ++ r)) = false := by rcases c with rfl | ⟨_, rfl | rfl⟩ <;> rfl
      refine go_mix b (acc := []) hw f _ ?_
      have q3 : (s2 ++ 41 :: (st ++ r)).dropWhile isSp = 41 :: (st ++ r) := by rw [dw_app (sp_all c)]; rfl
      rw [q3, List.nil_append]
      exact ev_mix d hr
theorem Tx.head {sp : Bool} {D : Dat} {t : List Nat} (h : Tx sp D t) : headIs isSp t = false := by
  cases h with
  | empty => rfl
  | any => rfl
  | kids x => cases x with | grp => rfl
  | mixed => rfl
theorem tx_ne {sp : Bool} {D : Dat} {t : List Nat} (h : Tx sp D t) (r : List Nat) : headIs isSp (t ++ r) = false := by
  cases h with
  | empty => rfl
  | any => rfl
  | kids x => cases x with | grp => rfl
  | mixed => rfl
theorem dw_all {s : List Nat} (h : ∀ c ∈ s, isSp c = true) : s.dropWhile isSp = [] := by
  have := dw_app (p := isSp) (b := []) h
  rwa [List.append_nil] at this
theorem sp_mkc {s : List Nat} (h : ∀ c ∈ s, isSp c = true) : headIs mkc s = false := by
  have := (ok_sp h ⟨rfl, rfl⟩ : okR (s ++ [])).mc
  rwa [List.append_nil] at this
theorem Tx.mod {sp : Bool} {D : Dat} {t : List Nat} (h : Tx sp D t) {a b : List Nat} (ha : ∀ c ∈ a, isSp c = true) (hb : ∀ c ∈ b, isSp c = true) : RMod (a ++ (t ++ b)) (some D) := by
  refine .inr ⟨D, b, ?_, by rw [dw_all hb, if_pos rfl]⟩
  rw [dw_app ha, dw_no (tx_ne h b)]
  exact h.rsp (sp_mkc hb)
theorem Tx.more {sp : Bool} {D : Dat} {t : List Nat} (h : Tx sp D t) {r : List Nat} (hr : headIs mkc r = false) (hn : r.dropWhile isSp ≠ []) : RMod (t ++ r) none := by
  refine .inr ⟨D, r, ?_, by rw [if_neg hn]⟩
  rw [dw_no (tx_ne h r)]
  exact h.rsp hr
theorem rmod_none {r : List Nat} (h : headIs isSp r = false) (k : RSp r none) : RMod r none := .inl ⟨by rw [dw_no h]; exact k, rfl⟩
/-- the bent texts of a group -/
theorem bent_kids {kd mk : Str} {ds : List Dat} {u : List Nat} (h : Wr false (Dat.tuple [Dat.str kd, Dat.tuple ds, Dat.str mk]) (40 :: (u ++ 41 :: mk.cps.toList))) (hu : WrL false (sgOf kd) true ds u) (hk : kd = Str.ofString "choice" ∧ 2 ≤ ds.length ∨ kd = Str.ofString "seq" ∧ 1 ≤ ds.length) :
    RMod (u ++ 41 :: mk.cps.toList) none ∧ RMod (40 :: u) none ∧ RMod (40 :: 40 :: (u ++ 41 :: mk.cps.toList)) none ∧ RMod (40 :: 41 :: (u ++ 41 :: mk.cps.toList)) none := by
  have hd : 1 ≤ ds.length := by rcases hk with ⟨_, a⟩ | ⟨_, a⟩ <;> (first | lia | omega)
  refine ⟨?_, ?_, ?_, ?_⟩
  · cases hu with
    | nil => exact absurd hd (by decide)
    | cons a b c r =>
      rename_i d ds s1 t s2 u
      obtain rfl := spF a
      obtain rfl := spF b
      have e : (if true = true then ([] : List Nat) else [sgOf kd]) ++ ([] ++ (t ++ ([] ++ u))) ++ 41 :: mk.cps.toList = t ++ (u ++ 41 :: mk.cps.toList) := by simp
      rw [e]
      have h9 : headIs mkc (u ++ 41 :: mk.cps.toList) = false := (ok_rest (sgOf_or kd) (w := 41 :: mk.cps.toList) ⟨rfl, rfl⟩ r).mc
      have h8 : (u ++ 41 :: mk.cps.toList).dropWhile isSp ≠ [] := by
        cases r with
        | nil => exact fun e => nomatch e
        | cons => rcases sgOf_or kd with q | q <;> rw [q] <;> exact fun e => nomatch e
      cases c with
      | name f1 f2 =>
        rename_i nm mk2
        obtain ⟨c, tl, e1, _, a2, a3, _, a5, a6, _⟩ := nm_cps f1
        refine rmod_none (by rw [e1]; exact a2) ?_
        rw [e1]
        exact .nope (pre_no a5) (pre_no a6) a3
      | grp f1 f2 f3 f4 =>
        have w := Wr.grp f1 f2 f3 f4
        exact (Tx.kids w).more h9 h8
  · refine rmod_none rfl (rsp_group (X := none) ?_ ?_)
    · have := hu.noP (w := []) hd
      rwa [List.append_nil] at this
    · have := go_body (sgOf_or kd) hu hd [] [] ⟨rfl, rfl⟩ none (.stop rfl)
      rwa [List.append_nil] at this
  · refine rmod_none rfl (rsp_group (X := none) rfl ?_)
    have := go_part h [(Str.ofString "", [])] [] (List.cons_ne_nil _ _) ⟨rfl, rfl⟩ none (.stop rfl)
    rwa [List.append_nil] at this
  · exact rmod_none rfl (rsp_group (X := none) rfl (.stop rfl))
section
variable {prog : Program} {w : World} {A : Around} {E : Value → Shared → Prop} {s : Shared}
theorem adjust_rev (n : Nat) : Builtin.Slice.sliceAdjust none none (-1) (n : Int) = ((n : Int) - 1, -1) := by
  unfold Builtin.Slice.sliceAdjust
  simp
theorem places_rev (n : Nat) : Builtin.Slice.slicePlaces ((n : Int) - 1) (-1) (-1) = n := by
  unfold Builtin.Slice.slicePlaces
  have h1 : ¬ ((-1 : Int) > 0) := by (first | lia | omega)
  simp only [h1, if_false, show (-(-1) : Int) = 1 from rfl, Int.ediv_one]
  split <;> (first | lia | omega)
theorem sliceApplied_rev {sl : Addr} {n : Nat} {u : Tok} {Q : Int × Int × Nat → Shared → Prop} (hs : s.heap.IsSliceOf sl .none .none (.int (-1) u)) (h : Q ((n : Int) - 1, -1, n) s) :
    wpAny (model prog w) A (Builtin.Slice.sliceApplied (.ref sl) (pure (n : Int))) Q E s := by
  refine fold_goal ?_; intro G9 k9; obtain ⟨os, hos, hcs, hds⟩ := id hs; refine k9 ?_; clear k9 G9
  unfold Builtin.Slice.sliceApplied Builtin.Slice.sliceFields
  refine wpAny_bind (wpAny_bind (wpAny_field hos hds (x := .none) rfl (wpAny_bind (wpAny_field hos hds (x := .none) rfl (wpAny_bind (wpAny_field hos hds (x := .int (-1) u) rfl (wpAny_pure ?_)))))))
  refine wpAny_bind (slicePart_int ?_)
  show wpAny _ _ (if ((-1 : Int) == 0) = true then _ else _) _ _ s
  rw [if_neg (by decide)]
  refine wpAny_bind (slicePart_none (wpAny_bind (slicePart_none (wpAny_bind (wpAny_pure ?_)))))
  show wpAny _ _ (match Builtin.Slice.sliceAdjust none none (-1) (n : Int) with | (lo, hi) => pure (lo, (-1 : Int), Builtin.Slice.slicePlaces lo hi (-1))) _ _ s
  rw [adjust_rev n]
  show wpAny _ _ (pure ((n : Int) - 1, (-1 : Int), Builtin.Slice.slicePlaces ((n : Int) - 1) (-1) (-1))) _ _ s
  rw [places_rev n]
  exact wpAny_pure h
theorem fm_congr {α β : Type} {f g : α → Option β} : ∀ (l : List α), (∀ k ∈ l, f k = g k) → l.filterMap f = l.filterMap g
  | [], _ => rfl
  | a :: l, h => by
    rw [List.filterMap_cons, List.filterMap_cons, h a (.head _), fm_congr l fun k hk => h k (.tail _ hk)]
theorem pick_rev (xs : Array Value) : ((List.range xs.size).filterMap fun (k : Nat) => xs[(((xs.size : Int) - 1) + (k : Int) * (-1)).toNat]?).toArray = xs.toList.reverse.toArray := by
  have e : ((List.range xs.size).filterMap fun (k : Nat) => xs[(((xs.size : Int) - 1) + (k : Int) * (-1)).toNat]?) = ((List.range xs.size).map fun k => xs.size - 1 - k).filterMap (xs[·]?) := by
    rw [List.filterMap_map]
    refine fm_congr _ fun k hk => ?_
    have := List.mem_range.mp hk
    show _ = xs[xs.size - 1 - k]?
    congr 1
    (first | lia | omega)
  rw [e, krv_range, List.filterMap_reverse, krv_all]
theorem getItem_tuple_rev {t sl : Addr} {items : Array Value} {u : Tok} {Q : Value → Shared → Prop} (ht : IsTup s.heap t items) (hs : s.heap.IsSliceOf sl .none .none (.int (-1) u))
    (h : Q (.ref s.heap.objs.size) { s with heap := s.heap.push { cls := .type "tuple", data := .seq items.toList.reverse.toArray } })
    (hsz : items.size ≤ sizeLine) : wpAny (model prog w) A (getItem (.ref t) (.ref sl)) Q E s := by
  have hdrop : sizeOk (.seq items.toList.reverse.toArray) := by
    show items.toList.reverse.toArray.size ≤ sizeLine
    rw [List.size_toArray, List.length_reverse, Array.length_toList]
    exact hsz
  refine fold_goal ?_; intro G9 k9; obtain ⟨os, hos, hcs, hds⟩ := id hs; refine k9 ?_; clear k9 G9
  have hTs : s.TypeIs (.ref sl) "slice" := ⟨os, hos, hcs⟩
  unfold getItem
  try with_reducible refine wpAny_holding ?_
  first | refine wpAny_bind (wpAny_pure ?_) | skip
  refine wpAny_bind (wpAny_sequenceKey ht.typeIs (by decide) ?_)
  refine wpAny_bind (wpAny_callSpecial?_slot (name := Str.ofString "__getitem__") ht.typeIs slot_tuple_getitem
    (wpAny_call_entry slot_tuple_getitem ht.typeIs entry_tuple_getitem ?_ (args_tuple_getitem _ _)))
  show wpAny _ _ (Builtin.Tuple.tupleItemsOf (.ref t) >>= _) _ _ s
  refine wpAny_bind (tupleItemsOf_ ht ?_)
  refine wpAny_bind (wpAny_typeOf hTs ?_)
  rw [if_pos (by decide)]
  refine wpAny_bind (sliceApplied_rev hs ?_)
  have hno : ¬ (((items.size : Int) - 1 == 0 && (-1 : Int) == 1 && items.size == items.size) = true) := by
    rw [show ((-1 : Int) == 1) = false from rfl]; simp
  show wpAny _ _ (if ((items.size : Int) - 1 == 0 && (-1 : Int) == 1 && items.size == items.size) = true then _ else _) _ _ s
  rw [if_neg hno, pick_rev items]
  first
    | exact wpAny_bind (m := Builtin.Tuple.tupleExact _) (wpAny_newObj_type (wpAny_pure ⟨_, rfl, wpAny_pure h⟩) hdrop)
    | exact wpAny_bind (m := Builtin.Tuple.tupleExact _) (wpAny_newObj_type (wpAny_bind (wpAny_pure (wpAny_pure ⟨_, rfl, wpAny_pure h⟩))) hdrop)
    | exact wpAny_bind (wpAny_bind (m := Builtin.Tuple.tupleExact _) (wpAny_newObj_type (wpAny_pure (wpAny_pure ⟨_, rfl, wpAny_pure h⟩)) hdrop))
    | exact wpAny_bind (wpAny_bind (m := Builtin.Tuple.tupleExact _) (wpAny_newObj_type (wpAny_pure ⟨_, rfl, wpAny_pure h⟩) hdrop))
theorem slice_tuple_rev {value slice : Expr} {t : Addr} {h₀ : Heap} {L : Addr} {m : Str → Option Value} {news : Led} {items : Array Value} {u : Tok} {ops : List Value} {Q : Value → Shared → Prop}
    (F : Fr h₀ L s.heap m) (N : News h₀ L s.heap news) (ht : IsTup s.heap t items)
    (h : ∀ D h', Fr h₀ L h' m → News h₀ L h' ((D, { cls := .type "tuple", data := .seq items.toList.reverse.toArray }) :: news) → (∀ p ∈ news, p.1 < D) → Q (.ref D) { s with heap := h' })
    (hs : subscripted slice false (.ref t) (.ref s.heap.objs.size) = operate ops (getItem (.ref t) (.ref s.heap.objs.size)))
    (hsz : items.size ≤ sizeLine) :
    wpAny (model prog w) A (subscriptTail value slice (.ref t) (.ref s.heap.objs.size)) Q E { s with heap := s.heap.push { cls := .type "slice", data := .fields #[.none, .none, .int (-1) u] } } := by
  have ht' : IsTup (s.heap.push { cls := .type "slice", data := .fields #[.none, .none, .int (-1) u] }) t items := ht.keeps fun _ _ e => Heap.get?_push_of_some _ e
  refine tail_any (s := { s with heap := s.heap.push { cls := .type "slice", data := .fields #[.none, .none, .int (-1) u] } }) ht'.typeIs slot_tuple_getitem.lookup
    (getItem_tuple_rev ht' (Heap.IsSliceOf.new ..) ?_ hsz) hs
  have N1 := News.push (F.push { cls := .type "slice", data := .fields #[.none, .none, .int (-1) u] }) (N.grown fun _ _ e => Heap.get?_push_of_some _ e) { cls := .type "tuple", data := .seq items.toList.reverse.toArray }
  rw [Heap.size_push] at N1
  show Q (.ref (s.heap.push _).objs.size) _
  rw [Heap.size_push]
  exact h _ _ ((F.push _).push _) N1 fun p hp => Nat.lt_succ_of_lt (Heap.lt_size (N p hp).1)
theorem kup_extendG {h₀ : Heap} {L D b : Addr} {m : Str → Option Value} {nw nw' : Led} {its its2 : Array Value} {n n2 : Nat} {l : List Value} {Q : Value → Shared → Prop} (F : Fr h₀ L s.heap m) (N : News h₀ L s.heap nw) (hb : (b, ({ cls := .type "tuple", data := .seq its2 n2 } : Obj)) ∈ nw) (e : its.toList ++ its2.toList = l)
    (U : Upd D (listOf its n) (listOf l.toArray (n + 1)) nw nw') (hz : its.toList.length ≤ 1001) (hy : its2.toList.length ≤ 1001) (hne : its2.toList.length ≠ 0)
    (h : ∀ h', Fr h₀ L h' m → News h₀ L h' nw' → Q .none { s with heap := h' }) : wpAny (model prog w) A (call (.builtin "list.extend") [.ref D, .ref b]) Q E s := by
  refine kup_extend F N hb e hne U ?_ (by rw [sizeLine_eq]; (first | lia | omega)) ?_ h
  · unfold Builtin.List.listTooLong
    have : its.size + its2.size ≤ 2002 := by rw [← Array.length_toList, ← Array.length_toList]; (first | lia | omega)
    rw [decide_eq_false (by rw [sizeLine_eq]; (first | lia | omega))]
    simp
  · rw [sizeLine_eq, ← Array.length_toList, ← Array.length_toList]; (first | lia | omega)
end
mutual
/-- the names of a particle, left to right -/
inductive Nm : Dat → List Str → Prop
  | name {nm mk : Str} : nm ∈ names5 → Nm (Dat.tuple [Dat.str (Str.ofString "name"), Dat.str nm, Dat.str mk]) [nm]
  | grp {kd mk : Str} {ds : List Dat} {ns : List Str} : kd ≠ Str.ofString "name" → 1 ≤ ds.length ∧ ds.length ≤ 3 → NmL ds ns → Nm (Dat.tuple [Dat.str kd, Dat.tuple ds, Dat.str mk]) ns
inductive NmL : List Dat → List Str → Prop
  | nil : NmL [] []
  | cons {d : Dat} {ds : List Dat} {a b : List Str} : Nm d a → NmL ds b → NmL (d :: ds) (a ++ b)
end
mutual
theorem Nm.one {d : Dat} {a b : List Str} : Nm d a → Nm d b → a = b
  | .name _, h => by cases h; rfl
  | .grp _ _ r, h => by cases h with | grp _ _ r' => exact NmL.one r r'
theorem NmL.one {ds : List Dat} {a b : List Str} : NmL ds a → NmL ds b → a = b
  | .nil, h => by cases h; rfl
  | .cons x y, h => by
    cases h with
    | cons x' y' => rw [Nm.one x x', NmL.one y y']
end
/-- a stack of particles (top first), its names, its size -/
inductive NS : List Dat → List Str → Prop
  | nil : NS [] []
  | cons {d : Dat} {L : List Dat} {a b : List Str} : Nm d a → NS L b → NS (d :: L) (a ++ b)
theorem NS.app {L : List Dat} {b : List Str} (h : NS L b) : ∀ {ds : List Dat} {a : List Str}, NmL ds a → NS (ds ++ L) (a ++ b)
  | _, _, .nil => h
  | _, _, .cons x y => by
    rw [List.append_assoc, List.cons_append]
    exact .cons x (NS.app h y)
mutual
noncomputable def szD : Dat → Nat
  | .tuple ds => 1 + szL ds
  | _ => 1
noncomputable def szL : List Dat → Nat
  | [] => 0
  | d :: ds => szD d + szL ds
end
theorem szD_pos (d : Dat) : 1 ≤ szD d := by cases d <;> simp [szD] <;> (first | lia | omega)
theorem szL_app : ∀ (a b : List Dat), szL (a ++ b) = szL a + szL b
  | [], b => by simp [szL]
  | d :: a, b => by simp only [List.cons_append, szL, szL_app a b]; (first | lia | omega)
theorem szL_len : ∀ (a : List Dat), a.length ≤ szL a
  | [] => Nat.le_refl _
  | d :: a => by
    have := szL_len a
    have := szD_pos d
    simp only [szL, List.length_cons]; (first | lia | omega)
theorem TAll.rev {news : Led} : ∀ {vs : List Value} {ds : List Dat}, TAll news vs ds → TAll news vs.reverse ds.reverse
  | _, _, .nil => .nil
  | _, _, .cons h r => by rw [List.reverse_cons, List.reverse_cons]; exact (r.rev).snoc h
theorem particle_names {w : World} {v : Value} {D : Dat} {ns : List Str} {news : Led} (H : TIn news v D) (hN : Nm D ns) (ht : szD D ≤ 1000) :
    Con w 331 [v] 50 300 news [] (fun v n' => ∃ l vs k, v = .ref l ∧ (l, listOf vs.toArray k) ∈ n' ∧ (∀ p ∈ news, p.1 ≠ l) ∧ StrsAre vs ns) False := by
  have hv : ∃ a, v = .ref a := by
    cases hN with
    | name a => cases H; exact ⟨_, rfl⟩
    | grp a b r => cases H; exact ⟨_, rfl⟩
  obtain ⟨va, rfl⟩ := hv
  intro mean mg mb dp un gd cn cs a ccd cl outer A₀ base h₀ L m s Q E B F X N Tp hk hd1 hu1 hret herr; refine wpAny_call ?_; k_dflt (refine' code_def (binds := [("particle", .ref va)]) ?k1 ?k2 ?k3 ?k4 ?k5 ?kA ?kF ?kK ?k6 ?k7 ?k8 ?k9 ?kB ?_ ?c2 ?c3 ?c4 ?c5; (case kA => exact rfl); (case kF => exact rfl); (case kK => assumption); (case k1 => k_asm); (case k2 => k_asm); (case k3 => k_asm); (case k4 => k_asm); (case k5 => k_asm); (case k6 => k_is); (case k7 => k_is); (case k8 => first | exact room0 (by assumption) | exact room1 (by assumption) rfl | exact room2 (by assumption) rfl | exact room3 (by assumption) rfl | exact roomA (by assumption) rfl | exact roomS (by assumption) rfl | exact roomM (by assumption) rfl | exact roomB (by assumption) rfl); (case k9 => exact BindsTo.of_eq rfl); (case c5 => decide); (case kB => exact locs rfl); (case c2 => exact rfl); (case c3 => exact rfl); (case c4 => exact rfl); k_whole); intro g' L' hp FG' F' N' B' X' T'; (try dsimp only [List.reverse_cons, List.reverse_nil, List.nil_append, List.cons_append, List.length_cons, List.length_nil, Nat.zero_add] at F' ⊢); k_fold; refine fold_env ?_; intro e₁ A₁
  repeat' (first | ((with_reducible show wpAny _ _ (exec _ _) _ _ _); k_fold) | ((fail_if_success (with_reducible refine stop_of Stop4 (by constructor) ?_)); (fail_if_success (with_reducible refine stop_of Stop1 (by constructor) ?_)); first | (k_unfold; (try dsimp only)) | (k_end; wrow_close) | walk1 | (dsimp only; walk1) | (leave1; try dsimp only)) | walk_at "mine item" | fail)
  rename_i pl h5 l1 ll h4 l2 Dt h3 l3 h2 h1 h0 F9 N9
  have hpl : ∀ p ∈ news, p.1 ≠ pl := fun p hp => Nat.ne_of_lt (l1 p hp)
  have hll : ∀ p ∈ news, p.1 ≠ ll := fun p hp => Nat.ne_of_lt (Nat.lt_trans (l1 p hp) l2.1)
  have hne : pl ≠ ll := Nat.ne_of_lt l2.1
  refine While1 (Str.ofString "one") (n₀ := szL [D]) (fun n nx => ∃ stk u lv pv ps nl np, (ll, listOf lv.toArray nl) ∈ nx ∧ (pl, listOf pv.toArray np) ∈ nx ∧ TAll nx lv stk.reverse ∧ StrsAre pv ps ∧ NS stk u ∧ ps ++ u = ns ∧ ps.length + szL stk ≤ 1000 ∧ (∀ p ∈ news, p ∈ nx) ∧ szL stk ≤ n) (by assumption) (by assumption) ⟨[D], ns, [.ref va], [], [], 0, 0, .tail _ (.head _), .tail _ (.tail _ (.head _)), .cons (H.imm fun p hp _ => .tail _ (.tail _ (.tail _ hp))) .nil, .nil, by have := NS.cons hN .nil; rw [List.append_nil] at this; exact this, rfl, by simp only [szL, List.length_nil]; (first | lia | omega), fun p hp => .tail _ (.tail _ (.tail _ hp)), Nat.le_refl _⟩ ?_
  intro n mx nx h8 tk8 F8 N8 J9; refine fold_goal ?_; intro G9 k9; obtain ⟨stk, u, lv, pv, ps, nl, np, a1, a2, a3, a4, a5, a6, a7, a8, a9⟩ := J9; refine k9 ?_; clear k9 G9
  have a1' : ∀ o, (ll, listOf lv.toArray nl) ∈ o :: nx := fun o => .tail _ a1
  have a2' : ∀ o, (pl, listOf pv.toArray np) ∈ o :: nx := fun o => .tail _ a2
  repeat' (first | ((with_reducible show wpAny _ _ (exec _ _) _ _ _); k_fold) | ((fail_if_success (with_reducible refine stop_of Stop4 (by constructor) ?_)); (fail_if_success (with_reducible refine stop_of Stop1 (by constructor) ?_)); first | (k_unfold; (try dsimp only)) | (k_end; wrow_close) | walk1 | (dsimp only; walk1) | (leave1; try dsimp only)) | walk_at "mine item" | fail)
  refine ne_nilK (by assumption) (a1' _) (.head _) (by first | exact room0 (by assumption) | exact room1 (by assumption) rfl | exact room2 (by assumption) rfl | exact room3 (by assumption) rfl | exact roomA (by assumption) rfl | exact roomS (by assumption) rfl | exact roomM (by assumption) rfl | exact roomB (by assumption) rfl) ?_
  cases stk with
  | nil =>
    cases a3
    cases a5
    rw [List.append_nil] at a6
    subst a6
    repeat' (first | ((with_reducible show wpAny _ _ (exec _ _) _ _ _); k_fold) | ((fail_if_success (with_reducible refine stop_of Stop4 (by constructor) ?_)); (fail_if_success (with_reducible refine stop_of Stop1 (by constructor) ?_)); first | (k_unfold; (try dsimp only)) | (k_end; wrow_close) | walk1 | (dsimp only; walk1) | (leave1; try dsimp only)) | walk_at "mine item" | fail)
    exact hret _ _ _ _ (by assumption) (by assumption) (Kp.sub fun p hp => .tail _ (a8 p hp)) ⟨pl, pv, np, rfl, a2' _, hpl, a4⟩
  | cons d stk =>
    rw [List.reverse_cons] at a3
    refine fold_goal ?_; intro G9 k9; obtain ⟨us, v, rfl, b1, b2⟩ := a3.split; refine k9 ?_; clear k9 G9
    have hem : (us ++ [v]).isEmpty = false := by simp
    rw [hem]
    rename News _ _ _ (_ :: nx) => N10
    have N11 := news_tail N10
    have N12 := news_front N11 a1
    have k12 := off_kp N11 a1 rfl
    have c2 := off_mem a2 hne
    have hsz : szL (d :: stk) = szD d + szL stk := rfl
    have hdp := szD_pos d
    have hz : us.length + 1 ≤ 1001 := by
      have := b1.len
      have t2 := szL_len stk
      rw [List.length_reverse] at this
      (first | lia | omega)
    have hz2 : pv.toArray.size ≤ sizeLine := by
      rw [List.size_toArray, strs_len_eq a4, sizeLine_eq]; (first | lia | omega)
    have c8 : ∀ p ∈ news, p ∈ off ll nx := fun p hp => off_mem (a8 p hp) (hll p hp)
    cases a5 with
    | cons e1 e2 =>
      rename_i x1 u2
      cases e1 with
      | name f1 =>
        rename_i nm mk
        refine fold_goal ?_; intro G9 k9; obtain ⟨a, t1, t2, t3, n1, rfl, g1⟩ := tinN b2; refine k9 ?_; clear k9 G9
        have g1' := k12.imm _ g1 rfl
        repeat' (first | ((with_reducible show wpAny _ _ (exec _ _) _ _ _); k_fold) | ((fail_if_success (with_reducible refine stop_of Stop4 (by constructor) ?_)); (fail_if_success (with_reducible refine stop_of Stop1 (by constructor) ?_)); first | (k_unfold; (try dsimp only)) | (k_end; wrow_close) | walk1 | (dsimp only; walk1) | (leave1; try dsimp only)) | walk_at "mine item" | fail)
        refine kl_pop (by assumption) (by assumption) (kl_last_app _ _) (by k_upd) (by rw [List.length_append, sizeLine_eq]; exact Nat.le_trans hz (by decide)) ?_
        intro h13 F13 N13
        repeat' (first | ((with_reducible show wpAny _ _ (exec _ _) _ _ _); k_fold) | ((fail_if_success (with_reducible refine stop_of Stop4 (by constructor) ?_)); (fail_if_success (with_reducible refine stop_of Stop1 (by constructor) ?_)); first | (k_unfold; (try dsimp only)) | (k_end; wrow_close) | walk1 | (dsimp only; walk1) | (leave1; try dsimp only)) | walk_at "mine item" | fail)
        rename News _ _ _ ((ll, _) :: off ll nx) => N14
        have c2' := List.Mem.tail (ll, listOf us.toArray (nl + 1)) c2
        have N15 := news_front N14 c2'
        have k15 := off_kp N14 c2' rfl
        have g1'' := k15.imm _ (List.Mem.tail _ g1') rfl
        repeat' (first | ((with_reducible show wpAny _ _ (exec _ _) _ _ _); k_fold) | ((fail_if_success (with_reducible refine stop_of Stop4 (by constructor) ?_)); (fail_if_success (with_reducible refine stop_of Stop1 (by constructor) ?_)); first | (k_unfold; (try dsimp only)) | (k_end; wrow_close) | walk1 | (dsimp only; walk1) | (leave1; try dsimp only)) | walk_at "mine item" | fail)
        rename News _ _ _ ((pl, _) :: off pl _) => N16
        rw [List.push_toArray] at N16
        refine WStep.next (by assumption) N16 (n' := szL stk) (by (first | lia | omega)) ⟨fun z hz => by rw [if_neg hz, if_neg hz], stk, u2, us, _, _, _, _, .tail _ (off_mem (.head _) hne.symm), .head _, b1.imm (fun p hp i => (k15.cons).imm p (k12.cons.imm p hp i) i), a4.append' (.cons nm _ .nil), e2, by rw [← a6]; simp, ?_, fun p hp => .tail _ (off_mem (.tail _ (c8 p hp)) (hpl p hp)), Nat.le_refl _⟩
        rw [List.length_append, List.length_singleton]; (first | lia | omega)
      | grp f1 f2 f3 =>
        rename_i kd mk ds
        refine fold_goal ?_; intro G9 k9; obtain ⟨a, tl, t1, t2, k3, n1, vs3, rfl, g1, g2, g3⟩ := tin3 b2; refine k9 ?_; clear k9 G9
        have g1' := k12.imm _ g1 rfl
        have g2' := k12.imm _ g2 rfl
        have g3' := g3.imm k12.imm
        have hkn : (kd == Str.ofString "name") = false := beq_eq_false_iff_ne.mpr f1
        have hl3 := g3.len
        repeat' (first | ((with_reducible show wpAny _ _ (exec _ _) _ _ _); k_fold) | ((fail_if_success (with_reducible refine stop_of Stop4 (by constructor) ?_)); (fail_if_success (with_reducible refine stop_of Stop1 (by constructor) ?_)); first | (k_unfold; (try dsimp only)) | (k_end; wrow_close) | walk1 | (dsimp only; walk1) | (leave1; try dsimp only)) | walk_at "mine item" | fail)
        refine kl_pop (by assumption) (by assumption) (kl_last_app _ _) (by k_upd) (by rw [List.length_append, sizeLine_eq]; exact Nat.le_trans hz (by decide)) ?_
        intro h13 F13 N13
        repeat' (first | ((with_reducible show wpAny _ _ (exec _ _) _ _ _); k_fold) | ((fail_if_success (with_reducible refine stop_of Stop4 (by constructor) ?_)); (fail_if_success (with_reducible refine stop_of Stop1 (by constructor) ?_)); first | (k_unfold; (try dsimp only)) | (k_end; wrow_close) | walk1 | (dsimp only; walk1) | (leave1; try dsimp only)) | walk_at "mine item" | fail)
        refine' slice_tuple_rev ?xF ?xN ?xt ?_ ?xs ?xz
        case xF => k_asm
        case xN => k_asm
        case xt => exact News.isTup (by assumption) (List.Mem.tail _ g2')
        case xs => with_unfolding_all rfl
        case xz => rw [List.size_toArray, hl3, sizeLine_eq]; (first | lia | omega)
        intro D5 h5 F5 N5 l5
        repeat' (first | ((with_reducible show wpAny _ _ (exec _ _) _ _ _); k_fold) | ((fail_if_success (with_reducible refine stop_of Stop4 (by constructor) ?_)); (fail_if_success (with_reducible refine stop_of Stop1 (by constructor) ?_)); first | (k_unfold; (try dsimp only)) | (k_end; wrow_close) | walk1 | (dsimp only; walk1) | (leave1; try dsimp only)) | walk_at "mine item" | fail)
        have D5ne : D5 ≠ ll := fun e => absurd (l5 _ (.head _)) (by rw [e]; exact Nat.lt_irrefl _)
        have hv5 : vs3.reverse.length = ds.length := by rw [List.length_reverse, hl3]
        rename News _ _ _ (_ :: (ll, _) :: off ll nx) => N14
        have N17 := news_front N14 (List.Mem.tail _ (.head _))
        have k17 := off_kp N14 (List.Mem.tail _ (.head _)) rfl
        have hsd : szD (Dat.tuple [Dat.str kd, Dat.tuple ds, Dat.str mk]) = 4 + szL ds := by simp only [szD, szL]; (first | lia | omega)
        refine' kup_extendG (b := D5) (l := us ++ vs3.reverse) ?xF ?xN ?xb ?xe ?xU ?xz ?xy ?xn ?_
        case xn => show vs3.reverse.length ≠ 0; (first | lia | omega)
        case xN => exact N17
        case xF => assumption
        case xb => exact .tail _ (off_mem (.head _) D5ne)
        case xe => rfl
        case xU => k_upd
        case xz => rw [List.toList_toArray]; (first | lia | omega)
        case xy => show vs3.reverse.length ≤ 1001; (first | lia | omega)
        intro h18 F18 N18
        repeat' (first | ((with_reducible show wpAny _ _ (exec _ _) _ _ _); k_fold) | ((fail_if_success (with_reducible refine stop_of Stop4 (by constructor) ?_)); (fail_if_success (with_reducible refine stop_of Stop1 (by constructor) ?_)); first | (k_unfold; (try dsimp only)) | (k_end; wrow_close) | walk1 | (dsimp only; walk1) | (leave1; try dsimp only)) | walk_at "mine item" | fail)
        have kx := fun o => Kp.cons (q := o) k17
        have cm := fun p (hp : p ∈ nx) i => (kx (ll, listOf (us ++ vs3.reverse).toArray (nl + 1 + 1))).imm p (.tail _ (.tail _ (k12.imm p hp i))) i
        refine WStep.next (by assumption) N18 (n' := szL (ds ++ stk)) (by rw [szL_app]; (first | lia | omega)) ⟨fun z hz => by rw [if_neg hz, if_neg hz], ds ++ stk, _, _, pv, ps, _, _, .head _, .tail _ (off_mem (.tail _ (.tail _ c2)) hne), ?_, a4, e2.app f3, a6, by rw [szL_app]; (first | lia | omega), fun p hp => .tail _ (off_mem (.tail _ (.tail _ (c8 p hp))) (hll p hp)), Nat.le_refl _⟩
        rw [List.reverse_append]
        exact TAll.append ((g3.imm cm).rev) (b1.imm cm)
/-- the law's source: a list of two ints -/
noncomputable def Src (sl : Addr) (n : Led) : Prop := ∃ a b ta tb nn, (sl, listOf #[.int a ta, .int b tb] nn) ∈ n
theorem Src.kp {sl : Addr} {M : List Addr} {n n' : Led} (h : Src sl n) (k : Kp M n n') (hd : sl ∉ M) : Src sl n' := by
  refine fold_goal ?_; intro G9 k9; obtain ⟨a, b, ta, tb, nn, h⟩ := h; refine k9 ?_; clear k9 G9
  exact ⟨a, b, ta, tb, nn, k _ h fun e => absurd e hd⟩
theorem mul_of_mod (a : Int) : IntMulOk (a.fmod 2147483647) (a.fmod 2147483647) := by
  have h1 := Int.fmod_nonneg_of_pos a (b := 2147483647) (by decide)
  have h2 := Int.fmod_lt_of_pos a (b := 2147483647) (by decide)
  exact IntMulOk.of_left (intBits_le_64 (by omega) (by omega))
theorem law_take {w : World} {sl : Addr} {top : Int} {tt : Tok} {news : Led} (h0 : 0 < top) (h9 : top ≤ 1000) (S : Src sl news) :
    Con w 352 [.ref sl, .int top tt] 30 200 news [sl] (fun v n' => (∃ r t, v = .int r t ∧ 0 ≤ r ∧ r < top) ∧ Src sl n') False := by
  refine fold_goal ?_; intro G9 k9; obtain ⟨a, b, ta, tb, nn, h1⟩ := S; refine k9 ?_; clear k9 G9
  intro mean mg mb dp un gd cn cs a ccd cl outer A₀ base h₀ L m s Q E B F X N Tp hk hd1 hu1 hret herr; refine wpAny_call ?_; k_dflt (refine' code_def (binds := [("source", .ref sl), ("top", .int top tt)]) ?k1 ?k2 ?k3 ?k4 ?k5 ?kA ?kF ?kK ?k6 ?k7 ?k8 ?k9 ?kB ?_ ?c2 ?c3 ?c4 ?c5; (case kA => exact rfl); (case kF => exact rfl); (case kK => assumption); (case k1 => k_asm); (case k2 => k_asm); (case k3 => k_asm); (case k4 => k_asm); (case k5 => k_asm); (case k6 => k_is); (case k7 => k_is); (case k8 => first | exact room0 (by assumption) | exact room1 (by assumption) rfl | exact room2 (by assumption) rfl | exact room3 (by assumption) rfl | exact roomA (by assumption) rfl | exact roomS (by assumption) rfl | exact roomM (by assumption) rfl | exact roomB (by assumption) rfl); (case k9 => exact BindsTo.of_eq rfl); (case c5 => decide); (case kB => exact locs rfl); (case c2 => exact rfl); (case c3 => exact rfl); (case c4 => exact rfl); k_whole); intro g' L' hp FG' F' N' B' X' T'; (try dsimp only [List.reverse_cons, List.reverse_nil, List.nil_append, List.cons_append, List.length_cons, List.length_nil, Nat.zero_add] at F' ⊢); k_fold; refine fold_env ?_; intro e₁ A₁
  have N0 := news_front N' h1
  have k0 := off_kp N' h1 rfl
  repeat' (first | ((with_reducible show wpAny _ _ (exec _ _) _ _ _); k_fold) | ((fail_if_success (with_reducible refine stop_of Stop1 (by constructor) ?_)); first | (k_unfold; (try dsimp only)) | (k_end; wrow_close) | walk1 | (dsimp only; walk1) | (leave1; try dsimp only)))
  · exact hret _ _ _ _ (by assumption) (by assumption) k0.cons ⟨⟨_, _, rfl, Int.fmod_nonneg_of_pos _ h0, Int.fmod_lt_of_pos _ h0⟩, _, _, _, _, _, .head _⟩
  · refine mul_int ?_ (mul_of_mod _)
    repeat' (first | ((with_reducible show wpAny _ _ (exec _ _) _ _ _); k_fold) | ((fail_if_success (with_reducible refine stop_of Stop1 (by constructor) ?_)); first | (k_unfold; (try dsimp only)) | (k_end; wrow_close) | walk1 | (dsimp only; walk1) | (leave1; try dsimp only)))
    exact hret _ _ _ _ (by assumption) (by assumption) k0.cons ⟨⟨_, _, rfl, Int.fmod_nonneg_of_pos _ h0, Int.fmod_lt_of_pos _ h0⟩, _, _, _, _, _, .head _⟩
theorem law_one {w : World} {sl tl : Addr} {vs : List Value} {k : Nat} {news : Led} (h0 : 0 < vs.length) (h9 : vs.length ≤ 1000) (hn : tl ≠ sl) (h2 : (tl, listOf vs.toArray k) ∈ news) (S : Src sl news) :
    Con w 359 [.ref sl, .ref tl] 60 400 news [sl] (fun v n' => v ∈ vs ∧ Src sl n') False := by
  intro mean mg mb dp un gd cn cs a ccd cl outer A₀ base h₀ L m s Q E B F X N Tp hk hd1 hu1 hret herr; refine wpAny_call ?_; k_dflt (refine' code_def (binds := [("source", .ref sl), ("things", .ref tl)]) ?k1 ?k2 ?k3 ?k4 ?k5 ?kA ?kF ?kK ?k6 ?k7 ?k8 ?k9 ?kB ?_ ?c2 ?c3 ?c4 ?c5; (case kA => exact rfl); (case kF => exact rfl); (case kK => assumption); (case k1 => k_asm); (case k2 => k_asm); (case k3 => k_asm); (case k4 => k_asm); (case k5 => k_asm); (case k6 => k_is); (case k7 => k_is); (case k8 => first | exact room0 (by assumption) | exact room1 (by assumption) rfl | exact room2 (by assumption) rfl | exact room3 (by assumption) rfl | exact roomA (by assumption) rfl | exact roomS (by assumption) rfl | exact roomM (by assumption) rfl | exact roomB (by assumption) rfl); (case k9 => exact BindsTo.of_eq rfl); (case c5 => decide); (case kB => exact locs rfl); (case c2 => exact rfl); (case c3 => exact rfl); (case c4 => exact rfl); k_whole); intro g' L' hp FG' F' N' B' X' T'; (try dsimp only [List.reverse_cons, List.reverse_nil, List.nil_append, List.cons_append, List.length_cons, List.length_nil, Nat.zero_add] at F' ⊢); k_fold; refine fold_env ?_; intro e₁ A₁
  repeat' (first | ((with_reducible show wpAny _ _ (exec _ _) _ _ _); k_fold) | ((fail_if_success (with_reducible refine stop_of Stop1 (by constructor) ?_)); first | (k_unfold; (try dsimp only)) | (k_end; wrow_close) | walk1 | (dsimp only; walk1) | (leave1; try dsimp only)))
  refine len_list (News.isList (by assumption) h2) (by rw [List.size_toArray]; omega) ?_
  repeat' (first | ((with_reducible show wpAny _ _ (exec _ _) _ _ _); k_fold) | ((fail_if_success (with_reducible refine stop_of Stop1 (by constructor) ?_)); first | (k_unfold; (try dsimp only)) | (k_end; wrow_close) | walk1 | (dsimp only; walk1) | (leave1; try dsimp only)))
  (k_dflt (refine' con_use ?kNz53 (law_take (by rw [List.size_toArray]; omega) (by rw [List.size_toArray]; omega) S) ?kBz53 ?kFz53 ?kXz53 ?kTz53 ?kKz53 ?kDz53 ?kUz53 ?kOkz53 ?kErrz53; (case kNz53 => k_asm); (case kBz53 => k_asm); (case kFz53 => k_asm); (case kXz53 => k_asm); (case kTz53 => k_asm); (case kKz53 => first | exact rfl | assumption); (case kDz53 => first | exact room0 (by assumption) | exact room1 (by assumption) rfl | exact room2 (by assumption) rfl | exact room3 (by assumption) rfl | exact roomA (by assumption) rfl | exact roomS (by assumption) rfl | exact roomM (by assumption) rfl | exact roomB (by assumption) rfl); (case kUz53 => first | exact room0 (by assumption) | exact room1 (by assumption) rfl | exact room2 (by assumption) rfl | exact room3 (by assumption) rfl | exact roomA (by assumption) rfl | exact roomS (by assumption) rfl | exact roomM (by assumption) rfl | exact roomB (by assumption) rfl)))
  case kErrz53 => intro hf; exact hf.elim
  intro r1 news1 hh1 tk1 F1 N1 K1 P1
  refine el_abABS P1 ?_
  intro r t hQ9 b1 b2 S1
  subst hQ9
  rw [List.size_toArray] at b2
  have f2 := K1 _ h2 fun e => absurd (List.mem_singleton.mp e) hn
  have hi : r.toNat < vs.length := by omega
  repeat' (first | ((with_reducible show wpAny _ _ (exec _ _) _ _ _); k_fold) | ((fail_if_success (with_reducible refine stop_of Stop1 (by constructor) ?_)); first | (k_unfold; (try dsimp only)) | (k_end; wrow_close) | walk1 | (dsimp only; walk1) | (leave1; try dsimp only)))
  refine item_listL (News.isList (by assumption) f2) b1 (by omega) (List.getElem?_eq_getElem hi) ?_
  repeat' (first | ((with_reducible show wpAny _ _ (exec _ _) _ _ _); k_fold) | ((fail_if_success (with_reducible refine stop_of Stop1 (by constructor) ?_)); first | (k_unfold; (try dsimp only)) | (k_end; wrow_close) | walk1 | (dsimp only; walk1) | (leave1; try dsimp only)))
  exact hret _ _ _ _ (by assumption) (by assumption) K1 ⟨List.getElem_mem hi, S1⟩
theorem space3 {t1 t2 t3 : Tok} {v : Value} (h : v ∈ [Value.str (Str.ofString "") t1, .str (Str.ofString " ") t2, .str (Str.ofString "\n\t") t3]) : ∃ x t, v = .str x t ∧ spOk true x.cps.toList ∧ x.length ≤ 2 := by
  simp only [List.mem_cons, List.not_mem_nil, or_false] at h
  rcases h with rfl | rfl | rfl
  · exact ⟨_, _, rfl, .inl (by decide +kernel), by decide +kernel⟩
  · exact ⟨_, _, rfl, .inr ⟨rfl, .inl (by decide +kernel)⟩, by decide +kernel⟩
  · exact ⟨_, _, rfl, .inr ⟨rfl, .inr (by decide +kernel)⟩, by decide +kernel⟩
theorem law_space {w : World} {sl : Addr} {b : Bool} {news : Led} (S : Src sl news) :
    Con w 378 [.ref sl, .bool b] 90 600 news [sl] (fun v n' => (∃ x t, v = .str x t ∧ spOk b x.cps.toList ∧ x.length ≤ 2) ∧ Src sl n') False := by
  intro mean mg mb dp un gd cn cs a ccd cl outer A₀ base h₀ L m s Q E B F X N Tp hk hd1 hu1 hret herr; refine wpAny_call ?_; k_dflt (refine' code_def (binds := [("source", .ref sl), ("spaced", .bool b)]) ?k1 ?k2 ?k3 ?k4 ?k5 ?kA ?kF ?kK ?k6 ?k7 ?k8 ?k9 ?kB ?_ ?c2 ?c3 ?c4 ?c5; (case kA => exact rfl); (case kF => exact rfl); (case kK => assumption); (case k1 => k_asm); (case k2 => k_asm); (case k3 => k_asm); (case k4 => k_asm); (case k5 => k_asm); (case k6 => k_is); (case k7 => k_is); (case k8 => first | exact room0 (by assumption) | exact room1 (by assumption) rfl | exact room2 (by assumption) rfl | exact room3 (by assumption) rfl | exact roomA (by assumption) rfl | exact roomS (by assumption) rfl | exact roomM (by assumption) rfl | exact roomB (by assumption) rfl); (case k9 => exact BindsTo.of_eq rfl); (case c5 => decide); (case kB => exact locs rfl); (case c2 => exact rfl); (case c3 => exact rfl); (case c4 => exact rfl); k_whole); intro g' L' hp FG' F' N' B' X' T'; (try dsimp only [List.reverse_cons, List.reverse_nil, List.nil_append, List.cons_append, List.length_cons, List.length_nil, Nat.zero_add] at F' ⊢); k_fold; refine fold_env ?_; intro e₁ A₁
  cases b
  · repeat' (first | ((with_reducible show wpAny _ _ (exec _ _) _ _ _); k_fold) | ((fail_if_success (with_reducible refine stop_of Stop1 (by constructor) ?_)); first | (k_unfold; (try dsimp only)) | (k_end; wrow_close) | walk1 | (dsimp only; walk1) | (leave1; try dsimp only)))
    exact hret _ _ _ _ (by assumption) (by assumption) Kp.refl ⟨⟨_, _, rfl, .inl (by decide +kernel), by decide +kernel⟩, S⟩
  · refine fold_goal ?_; intro G9 k9; obtain ⟨a, b, ta, tb, nn, h1⟩ := id S; refine k9 ?_; clear k9 G9
    have S' : ∀ o, Src sl (o :: news) := fun o => ⟨a, b, ta, tb, nn, .tail _ h1⟩
    repeat' (first | ((with_reducible show wpAny _ _ (exec _ _) _ _ _); k_fold) | ((fail_if_success (with_reducible refine stop_of Stop1 (by constructor) ?_)); first | (k_unfold; (try dsimp only)) | (k_end; wrow_close) | walk1 | (dsimp only; walk1) | (leave1; try dsimp only)))
    rename ∀ (p : Addr × Obj), p ∈ news → p.1 < _ => hl
    (k_dflt (refine' con_use ?kNz54 (law_one (vs := [_, _, _]) (Nat.succ_pos _) (by show 3 ≤ 1000; decide) (Nat.ne_of_gt (hl _ h1)) (.head _) (S' _)) ?kBz54 ?kFz54 ?kXz54 ?kTz54 ?kKz54 ?kDz54 ?kUz54 ?kOkz54 ?kErrz54; (case kNz54 => k_asm); (case kBz54 => k_asm); (case kFz54 => k_asm); (case kXz54 => k_asm); (case kTz54 => k_asm); (case kKz54 => first | exact rfl | assumption); (case kDz54 => first | exact room0 (by assumption) | exact room1 (by assumption) rfl | exact room2 (by assumption) rfl | exact room3 (by assumption) rfl | exact roomA (by assumption) rfl | exact roomS (by assumption) rfl | exact roomM (by assumption) rfl | exact roomB (by assumption) rfl); (case kUz54 => first | exact room0 (by assumption) | exact room1 (by assumption) rfl | exact room2 (by assumption) rfl | exact room3 (by assumption) rfl | exact roomA (by assumption) rfl | exact roomS (by assumption) rfl | exact roomM (by assumption) rfl | exact roomB (by assumption) rfl)))
    case kErrz54 => intro hf; exact hf.elim
    intro r1 news1 hh1 tk1 F1 N1 K1 P1
    have hv := P1.1
    have S1 := P1.2
    refine fold_goal ?_; intro G9 k9; obtain ⟨x, t, rfl, e1, e2⟩ := space3 hv; refine k9 ?_; clear k9 G9
    repeat' (first | ((with_reducible show wpAny _ _ (exec _ _) _ _ _); k_fold) | ((fail_if_success (with_reducible refine stop_of Stop1 (by constructor) ?_)); first | (k_unfold; (try dsimp only)) | (k_end; wrow_close) | walk1 | (dsimp only; walk1) | (leave1; try dsimp only)))
    exact hret _ _ _ _ (by assumption) (by assumption) ((Kp.cons Kp.refl).trans K1) ⟨⟨_, _, rfl, e1, e2⟩, S1⟩
/-- the part of n' that is newer than all of news -/
noncomputable abbrev nw (news n' : Led) : Led := n'.filter fun p => news.all fun q => decide (q.1 < p.1)
theorem nw_mem {news n' : Led} {p : Addr × Obj} (h : p ∈ n') (k : ∀ q ∈ news, q.1 < p.1) : p ∈ nw news n' :=
  List.mem_filter.mpr ⟨h, List.all_eq_true.mpr fun q hq => decide_eq_true (k q hq)⟩
theorem nw_sub {news n' : Led} {p : Addr × Obj} (h : p ∈ nw news n') : p ∈ n' ∧ ∀ q ∈ news, q.1 < p.1 :=
  ⟨(List.mem_filter.mp h).1, fun q hq => of_decide_eq_true (List.all_eq_true.mp (List.mem_filter.mp h).2 q hq)⟩
/-- what is newer than b is newer than a -/
theorem up_kp {sl : Addr} {a b : Led} {x : Addr} (k : Kp [sl] a b) (S : Src sl b) (h : ∀ p ∈ b, p.1 < x) : ∀ p ∈ a, p.1 < x := fun p hp => by
  by_cases e : p.1 = sl
  · obtain ⟨_, _, _, _, _, z⟩ := S
    rw [e]; exact h _ z
  · exact h p (k p hp fun q => absurd (List.mem_singleton.mp q) e)
theorem nw_up {sl : Addr} {a b c : Led} {v : Value} {D : Dat} (k : Kp [sl] a b) (S : Src sl b) (h : TIn (nw b c) v D) : TIn (nw a c) v D :=
  h.imm fun p hp _ => nw_mem (nw_sub hp).1 (up_kp k S (nw_sub hp).2)
theorem nw_all {a b c : Led} {sl : Addr} {M : List Addr} {vs : List Value} {ds : List Dat} (k : Kp M b c) (h : TAll (nw a b) vs ds) : TAll (nw a c) vs ds :=
  h.imm fun p hp i => nw_mem (k.imm p (nw_sub hp).1 i) (nw_sub hp).2
theorem TIn.nw {a b : Led} {v : Value} {D : Dat} (h : TIn (nw a b) v D) : TIn b v D := h.imm fun _ hp _ => (nw_sub hp).1
theorem TAll.nw {a b : Led} {v : List Value} {D : List Dat} (h : TAll (Mine.nw a b) v D) : TAll b v D := h.imm fun _ hp _ => (nw_sub hp).1
theorem CompEnd.mono {h₀ : Heap} {L : Addr} {m : Str → Option Value} {s₁ : Shared} {I : Addr} {oI : Obj} {C : Addr} {oC : Obj} {D : Addr} {oD : Obj} {S : Led → Prop} {rest rest' : Value → Led → Prop} {y : Value} {s₂ : Shared}
    (h : LCg.CompEnd h₀ L m s₁ I oI C oC D oD S rest y s₂) (k : ∀ n', rest y n' → rest' y n') : LCg.CompEnd h₀ L m s₁ I oI C oC D oD S rest' y s₂ := by
  obtain ⟨h', tk, news', e, F, N, o, hS, r⟩ := h
  exact ⟨h', tk, news', e, F, N, o, hS, k _ r⟩
section
variable {prog : Program} {w : World} {A : Around} {s : Shared} {h₀ : Heap} {L : Addr} {m : Str → Option Value} {env : Env}
theorem comp_all {elt : Expr} {x : Str} {scope : Scope} {cl : List (Str × Addr)} {S : Led → Prop} {P : Nat → Value → Prop} {Fin : List Value → Led → Prop} {n : Nat} (J : Nat → List Value → Led → Prop)
    (turn : ∀ i ys news, i < n → J i ys news → ∀ v I oI C oC D m₂ h tk (E' : Value → Shared → Prop), P i v → LCg.NsObj oC m₂ → m₂ x = some v → Fr h₀ L h m → News h₀ L h ((I, oI) :: (C, oC) :: (D, LCg.lst ys) :: news) → LCg.Off3 I C D news → ((@Ne Nat I C) ∧ (@Ne Nat I D) ∧ (@Ne Nat C D)) →
      wpAny (model prog w) A (eval elt (compEnvC scope cl C env)) (LCg.CompEnd h₀ L m { s with heap := h, toks := tk } I oI C oC D (LCg.lst ys) S (fun y news' => J (i + 1) (ys ++ [y]) news')) E' { s with heap := h, toks := tk })
    (done : ∀ ys news, J n ys news → Fin ys news) : ∀ k i ys news, i + k = n → J i ys news → LCg.CompRest prog w A h₀ L m env elt x scope cl s S P Fin k i ys news
  | 0, i, ys, news, e, j => done ys news (by rw [Nat.add_zero] at e; exact e ▸ j)
  | k + 1, i, ys, news, e, j => LCg.CompRest.succ fun v I oI C oC D m₂ h tk E' hP hN hm F N o3 hne =>
    wpAny_mono (turn i ys news (by (first | lia | omega)) j v I oI C oC D m₂ h tk E' hP hN hm F N o3 hne) (fun y s₂ z => CompEnd.mono z fun n' r => comp_all J turn done k (i + 1) _ n' (by (first | lia | omega)) r) (fun _ _ e => e)
theorem comp_allT {ct elt : Expr} {x : Str} {scope : Scope} {cl : List (Str × Addr)} {S : Led → Prop} {P : Nat → Value → Prop} {Fin : List Value → Led → Prop} {n : Nat} (J : Nat → List Value → Led → Prop)
    (turn : ∀ i ys news, i < n → J i ys news → ∀ v I oI C oC D m₂ h tk (E' : Value → Shared → Prop), P i v → LCg.NsObj oC m₂ → m₂ x = some v → Fr h₀ L h m → News h₀ L h ((I, oI) :: (C, oC) :: (D, LCg.lst ys) :: news) → LCg.Off3 I C D news → ((@Ne Nat I C) ∧ (@Ne Nat I D) ∧ (@Ne Nat C D)) →
      wpAny (model prog w) A (isTrue ct (compEnvC scope cl C env) (eval ct (compEnvC scope cl C env))) (fun ok s' => if ok = true then
        wpAny (model prog w) A (eval elt (compEnvC scope cl C env)) (LCg.CompEnd h₀ L m { s with heap := h, toks := tk } I oI C oC D (LCg.lst ys) S (fun y news' => J (i + 1) (ys ++ [y]) news')) E' s'
        else LCg.CompEnd h₀ L m { s with heap := h, toks := tk } I oI C oC D (LCg.lst ys) S (fun _ news' => J (i + 1) ys news') Value.none s') E' { s with heap := h, toks := tk })
    (done : ∀ ys news, J n ys news → Fin ys news) : ∀ k i ys news, i + k = n → J i ys news → LCt.CompRestT prog w A h₀ L m env ct elt x scope cl s S P Fin k i ys news
  | 0, i, ys, news, e, j => done ys news (by rw [Nat.add_zero] at e; exact e ▸ j)
  | k + 1, i, ys, news, e, j => LCt.CompRestT.succ fun v I oI C oC D m₂ h tk E' hP hN hm F N o3 hne =>
    wpAny_mono (turn i ys news (by (first | lia | omega)) j v I oI C oC D m₂ h tk E' hP hN hm F N o3 hne) (fun ok s' z => by
      cases ok with
      | true =>
        simp only [if_true] at z ⊢
        exact wpAny_mono z (fun y s₂ z => CompEnd.mono z fun n' r => comp_allT J turn done k (i + 1) _ n' (by (first | lia | omega)) r) (fun _ _ e => e)
      | false =>
        simp only [Bool.false_eq_true, if_false] at z ⊢
        exact CompEnd.mono z fun n' r => comp_allT J turn done k (i + 1) _ n' (by (first | lia | omega)) r) (fun _ _ e => e)
end
theorem small3 {n : Nat} (h : n ≤ 3) : Builtin.Range.small 0 (n : Int) 1 = true ∧ Builtin.Range.rangeSize 0 (n : Int) 1 = (n : Int) := by
  rcases (by (first | lia | omega) : n = 0 ∨ n = 1 ∨ n = 2 ∨ n = 3) with rfl | rfl | rfl | rfl <;> decide
/-- the three of a comprehension stand behind a call -/
theorem off3_kp {sl I C D : Addr} {oI oC oD : Obj} {nx n5 : Led} (K : Kp [sl] ((I, oI) :: (C, oC) :: (D, oD) :: nx) n5) (S : Src sl nx) (o3 : LCg.Off3 I C D nx) :
    (∀ p ∈ (I, oI) :: (C, oC) :: (D, oD) :: off I (off C (off D n5)), p ∈ n5) ∧ LCg.Off3 I C D (off I (off C (off D n5))) ∧ Kp [sl] nx (off I (off C (off D n5))) ∧ (∀ p ∈ n5, p.1 ≠ I → p.1 ≠ C → p.1 ≠ D → p ∈ off I (off C (off D n5))) := by
  obtain ⟨_, _, _, _, _, z⟩ := S
  have h := o3.mem _ z
  have f : ∀ p ∈ n5, p.1 ≠ I → p.1 ≠ C → p.1 ≠ D → p ∈ off I (off C (off D n5)) := fun p hp a b c => off_mem (off_mem (off_mem hp c) b) a
  refine ⟨fun p hp => ?_, LCg.Off3.of fun p hp => ⟨off_ne p hp, off_ne p (off_sub hp), off_ne p (off_sub (off_sub hp))⟩, fun p hp i => ?_, f⟩
  · rcases List.mem_cons.mp hp with rfl | hp
    · exact K _ (.head _) fun e => absurd (List.mem_singleton.mp e) (Ne.symm h.1)
    · rcases List.mem_cons.mp hp with rfl | hp
      · exact K _ (.tail _ (.head _)) fun e => absurd (List.mem_singleton.mp e) (Ne.symm h.2.1)
      · rcases List.mem_cons.mp hp with rfl | hp
        · exact K _ (.tail _ (.tail _ (.head _))) fun e => absurd (List.mem_singleton.mp e) (Ne.symm h.2.2)
        · exact off_sub (off_sub (off_sub hp))
  · have := o3.mem p hp
    exact f p (K p (.tail _ (.tail _ (.tail _ hp))) i) this.1 this.2.1 this.2.2
theorem allLt_mem {d : Addr} {l : List (Addr × Obj)} (h : AllLt d l) : ∀ p ∈ l, p.1 < d := by
  induction l with
  | nil => exact fun p hp => absurd hp List.not_mem_nil
  | cons q l ih =>
    intro p hp
    have h2 : q.1 < d ∧ AllLt d l := h
    rcases List.mem_cons.mp hp with e | hp
    · rw [e]; exact h2.1
    · exact ih h2.2 p hp
theorem ne_lt {d a : Addr} {o : Obj} {l : List (Addr × Obj)} (h : AllLt d l) (m : (a, o) ∈ l) : d ≠ a := fun e => absurd (allLt_mem h _ m) (by rw [e]; exact Nat.lt_irrefl _)
inductive PT : Nat → Dat → Prop
  | name {k : Nat} {nm mk : Str} : nm ∈ names5 → mk ∈ marks4 → PT k (Dat.tuple [Dat.str (Str.ofString "name"), Dat.str nm, Dat.str mk])
  | grp {k : Nat} {kd mk : Str} {ds : List Dat} : (kd = Str.ofString "choice" ∧ 2 ≤ ds.length ∨ kd = Str.ofString "seq" ∧ 1 ≤ ds.length) → ds.length ≤ 3 → mk ∈ marks4 → (∀ d ∈ ds, PT k d) → PT (k + 1) (Dat.tuple [Dat.str kd, Dat.tuple ds, Dat.str mk])
theorem mark5 {a b c d e : Tok} {v : Value} (h : v ∈ [Value.str (Str.ofString "") a, .str (Str.ofString "") b, .str (Str.ofString "?") c, .str (Str.ofString "*") d, .str (Str.ofString "+") e]) : ∃ x t, v = .str x t ∧ x ∈ marks4 := by
  simp only [List.mem_cons, List.not_mem_nil, or_false] at h
  rcases h with rfl | rfl | rfl | rfl | rfl <;> exact ⟨_, _, rfl, by simp [marks4, names5]⟩
theorem name5 {a b c d e : Tok} {v : Value} (h : v ∈ [Value.str (Str.ofString "a") a, .str (Str.ofString "b") b, .str (Str.ofString "c") c, .str (Str.ofString "x:y") d, .str (Str.ofString "d-1.") e]) : ∃ x t, v = .str x t ∧ x ∈ names5 := by
  simp only [List.mem_cons, List.not_mem_nil, or_false] at h
  rcases h with rfl | rfl | rfl | rfl | rfl <;> exact ⟨_, _, rfl, by simp [marks4, names5]⟩
theorem kind2 {a b : Tok} {v : Value} (h : v ∈ [Value.str (Str.ofString "seq") a, .str (Str.ofString "choice") b]) : ∃ x t, v = .str x t ∧ (x = Str.ofString "choice" ∨ x = Str.ofString "seq") := by
  simp only [List.mem_cons, List.not_mem_nil, or_false] at h
  rcases h with rfl | rfl
  · exact ⟨_, _, rfl, .inr rfl⟩
  · exact ⟨_, _, rfl, .inl rfl⟩
theorem law_particle {w : World} {sl : Addr} : ∀ (k : Nat) {kk : Int} (_ : kk = k) {tk : Tok} {news : Led} (_ : Src sl news), Con w 364 [.ref sl, .int kk tk] (100 * (k + 1)) (600 * (k + 1)) news [sl] (fun v n' => (∃ D, PT k D ∧ TIn (nw news n') v D) ∧ Src sl n') False := by
  intro k
  induction k with
  | zero =>
    intro kk hkk tk news S
    obtain rfl : kk = 0 := hkk
    intro mean mg mb dp un gd cn cs a ccd cl outer A₀ base h₀ L m s Q E B F X N Tp hk hd1 hu1 hret herr; refine wpAny_call ?_; k_dflt (refine' code_defC (binds := [("source", .ref sl), ("deep", .int 0 tk)]) ?k1 ?k2 ?k3 ?k4 ?k5 ?kA ?kF ?kK ?k6 ?k7 ?k8 ?k9 ?kB ?kD ?_ ?c2 ?c3 ?c4; (case kA => exact rfl); (case kF => exact rfl); (case kK => assumption); (case k1 => k_asm); (case k2 => k_asm); (case k3 => k_asm); (case k4 => k_asm); (case k5 => k_asm); (case k6 => k_is); (case k7 => k_is); (case k8 => first | exact room0 (by assumption) | exact room1 (by assumption) rfl | exact room2 (by assumption) rfl | exact room3 (by assumption) rfl | exact roomA (by assumption) rfl | exact roomS (by assumption) rfl | exact roomM (by assumption) rfl | exact roomB (by assumption) rfl); (case k9 => exact BindsTo.of_eq rfl); (case kB => exact rfl); (case kD => decide +kernel); (case c2 => exact rfl); (case c3 => exact rfl); (case c4 => exact rfl); k_whole); intro g' L' hp tk' cells' FG' F' N' Y' B' X' T' l1; (try k_lt l1); k_cells Y'; (try simp only [List.cons_append, List.nil_append] at N'); (try dsimp only); (try k_fold); refine fold_env ?_; intro e₁ A₁
    refine fold_goal ?_; intro G9 k9; obtain ⟨a, b, ta, tb, nn, h1⟩ := id S; refine k9 ?_; clear k9 G9
    have S' : ∀ x y z, Src sl (x :: y :: z :: news) := fun x y z => ⟨a, b, ta, tb, nn, .tail _ (.tail _ (.tail _ h1))⟩
    repeat' (first | ((with_reducible show wpAny _ _ (exec _ _) _ _ _); k_fold) | ((fail_if_success (with_reducible refine stop_of Stop1 (by constructor) ?_)); first | (k_unfold; (try dsimp only)) | (k_end; wrow_close) | walk1 | (dsimp only; walk1) | (leave1; try dsimp only)))
    rename _ ∧ _ ∧ AllLt _ news => hl
    (k_dflt (refine' con_use ?kNz55 (law_one (vs := [_, _, _, _, _]) (Nat.succ_pos _) (by show 5 ≤ 1000; decide) (ne_lt hl.2.2 h1) (.head _) (S' _ _ _)) ?kBz55 ?kFz55 ?kXz55 ?kTz55 ?kKz55 ?kDz55 ?kUz55 ?kOkz55 ?kErrz55; (case kNz55 => k_asm); (case kBz55 => k_asm); (case kFz55 => k_asm); (case kXz55 => k_asm); (case kTz55 => k_asm); (case kKz55 => first | exact rfl | assumption); (case kDz55 => first | exact room0 (by assumption) | exact room1 (by assumption) rfl | exact room2 (by assumption) rfl | exact room3 (by assumption) rfl | exact roomA (by assumption) rfl | exact roomS (by assumption) rfl | exact roomM (by assumption) rfl | exact roomB (by assumption) rfl); (case kUz55 => first | exact room0 (by assumption) | exact room1 (by assumption) rfl | exact room2 (by assumption) rfl | exact room3 (by assumption) rfl | exact roomA (by assumption) rfl | exact roomS (by assumption) rfl | exact roomM (by assumption) rfl | exact roomB (by assumption) rfl)))
    case kErrz55 => intro hf; exact hf.elim
    intro r1 news1 hh1 tk1 F1 N1 K1 P1
    have hv := P1.1
    have S1 := P1.2
    refine fold_goal ?_; intro G9 k9; obtain ⟨mk, t, rfl, hmk⟩ := mark5 hv; refine k9 ?_; clear k9 G9
    have hsl : sl < L' := l1 _ h1
    have c1 := K1 _ (.tail _ (.head _)) (fun e => absurd (List.mem_singleton.mp e) (Nat.ne_of_gt (Nat.lt_succ_of_lt (Nat.lt_succ_of_lt hsl))))
    have c2 := K1 _ (.tail _ (.tail _ (.head _))) (fun e => absurd (List.mem_singleton.mp e) (Nat.ne_of_gt (Nat.lt_succ_of_lt hsl)))
    have hs1 : ∀ o, Src sl (o :: news1) := fun o => by
      refine fold_goal ?_; intro G9 k9; obtain ⟨a, b, ta, tb, nn, h⟩ := S1; refine k9 ?_; clear k9 G9
      exact ⟨a, b, ta, tb, nn, .tail _ h⟩
    refine fold_goal ?_; intro G9 k9; obtain ⟨a2, b2, ta2, tb2, nn2, h2⟩ := id S1; refine k9 ?_; clear k9 G9
    repeat' (first | ((with_reducible show wpAny _ _ (exec _ _) _ _ _); k_fold) | ((fail_if_success (with_reducible refine stop_of Stop1 (by constructor) ?_)); first | (k_unfold; (try dsimp only)) | (k_end; wrow_close) | walk1 | (dsimp only; walk1) | (leave1; try dsimp only)))
    rename ∀ (p : Addr × Obj), p ∈ news1 → p.1 < _ => hl2
    (k_dflt (refine' con_use ?kNz56 (law_one (vs := [_, _, _, _, _]) (Nat.succ_pos _) (by show 5 ≤ 1000; decide) (Nat.ne_of_gt (hl2 _ h2)) (.head _) (hs1 _)) ?kBz56 ?kFz56 ?kXz56 ?kTz56 ?kKz56 ?kDz56 ?kUz56 ?kOkz56 ?kErrz56; (case kNz56 => k_asm); (case kBz56 => k_asm); (case kFz56 => k_asm); (case kXz56 => k_asm); (case kTz56 => k_asm); (case kKz56 => first | exact rfl | assumption); (case kDz56 => first | exact room0 (by assumption) | exact room1 (by assumption) rfl | exact room2 (by assumption) rfl | exact room3 (by assumption) rfl | exact roomA (by assumption) rfl | exact roomS (by assumption) rfl | exact roomM (by assumption) rfl | exact roomB (by assumption) rfl); (case kUz56 => first | exact room0 (by assumption) | exact room1 (by assumption) rfl | exact room2 (by assumption) rfl | exact room3 (by assumption) rfl | exact roomA (by assumption) rfl | exact roomS (by assumption) rfl | exact roomM (by assumption) rfl | exact roomB (by assumption) rfl)))
    case kErrz56 => intro hf; exact hf.elim
    intro r2 news2 hh2 tk2 F2 N2 K2 P2
    have hv2 := P2.1
    have S2 := P2.2
    refine fold_goal ?_; intro G9 k9; obtain ⟨nm, t2, rfl, hnm⟩ := name5 hv2; refine k9 ?_; clear k9 G9
    have c3 := K2 _ (.tail _ c1) (fun e => absurd (List.mem_singleton.mp e) (Nat.ne_of_gt (Nat.lt_succ_of_lt (Nat.lt_succ_of_lt hsl))))
    have c4 := K2 _ (.tail _ c2) (fun e => absurd (List.mem_singleton.mp e) (Nat.ne_of_gt (Nat.lt_succ_of_lt hsl)))
    have kk : Kp [sl] news news2 := ((Kp.sub fun p hp => .tail _ (.tail _ (.tail _ hp))).trans K1).trans ((Kp.sub fun p hp => .tail _ hp).trans K2)
    repeat' (first | ((with_reducible show wpAny _ _ (exec _ _) _ _ _); k_fold) | ((fail_if_success (with_reducible refine stop_of Stop1 (by constructor) ?_)); first | (k_unfold; (try dsimp only)) | (k_end; wrow_close) | walk1 | (dsimp only; walk1) | (leave1; try dsimp only)))
    rename ∀ (p : Addr × Obj), p ∈ news2 → p.1 < _ => hl3
    exact hret _ _ _ _ (by assumption) (by assumption) kk.cons ⟨⟨_, .name hnm hmk, .tup (nw_mem (.head _) (up_kp kk S2 hl3)) (.cons (.str _ _) (.cons (.str _ _) (.cons (.str _ _) .nil)))⟩, by
      refine fold_goal ?_; intro G9 k9; obtain ⟨a, b, ta, tb, nn, h⟩ := S2; refine k9 ?_; clear k9 G9
      exact ⟨a, b, ta, tb, nn, .tail _ h⟩⟩
  | succ k ih =>
    intro kk hkk tk news S
    have hb : (kk == 0) = false := by rw [beq_eq_false_iff_ne]; (first | lia | omega)
    intro mean mg mb dp un gd cn cs a ccd cl outer A₀ base h₀ L m s Q E B F X N Tp hk hd1 hu1 hret herr; refine wpAny_call ?_; k_dflt (refine' code_defC (binds := [("source", .ref sl), ("deep", .int kk tk)]) ?k1 ?k2 ?k3 ?k4 ?k5 ?kA ?kF ?kK ?k6 ?k7 ?k8 ?k9 ?kB ?kD ?_ ?c2 ?c3 ?c4; (case kA => exact rfl); (case kF => exact rfl); (case kK => assumption); (case k1 => k_asm); (case k2 => k_asm); (case k3 => k_asm); (case k4 => k_asm); (case k5 => k_asm); (case k6 => k_is); (case k7 => k_is); (case k8 => first | exact room0 (by assumption) | exact room1 (by assumption) rfl | exact room2 (by assumption) rfl | exact room3 (by assumption) rfl | exact roomA (by assumption) rfl | exact roomS (by assumption) rfl | exact roomM (by assumption) rfl | exact roomB (by assumption) rfl); (case k9 => exact BindsTo.of_eq rfl); (case kB => exact rfl); (case kD => decide +kernel); (case c2 => exact rfl); (case c3 => exact rfl); (case c4 => exact rfl); k_whole); intro g' L' hp tk' cells' FG' F' N' Y' B' X' T' l1; (try k_lt l1); k_cells Y'; (try simp only [List.cons_append, List.nil_append] at N'); (try dsimp only); (try k_fold); refine fold_env ?_; intro e₁ A₁
    refine fold_goal ?_; intro G9 k9; obtain ⟨a, b, ta, tb, nn, h1⟩ := id S; refine k9 ?_; clear k9 G9
    have S' : ∀ x y z, Src sl (x :: y :: z :: news) := fun x y z => ⟨a, b, ta, tb, nn, .tail _ (.tail _ (.tail _ h1))⟩
    repeat' (first | ((with_reducible show wpAny _ _ (exec _ _) _ _ _); k_fold) | ((fail_if_success (with_reducible refine stop_of Stop1 (by constructor) ?_)); first | (k_unfold; (try dsimp only)) | (k_end; wrow_close) | walk1 | (dsimp only; walk1) | (leave1; try dsimp only)))
    rename _ ∧ _ ∧ AllLt _ news => hl
    (k_dflt (refine' con_use ?kNz57 (law_one (vs := [_, _, _, _, _]) (Nat.succ_pos _) (by show 5 ≤ 1000; decide) (ne_lt hl.2.2 h1) (.head _) (S' _ _ _)) ?kBz57 ?kFz57 ?kXz57 ?kTz57 ?kKz57 ?kDz57 ?kUz57 ?kOkz57 ?kErrz57; (case kNz57 => k_asm); (case kBz57 => k_asm); (case kFz57 => k_asm); (case kXz57 => k_asm); (case kTz57 => k_asm); (case kKz57 => first | exact rfl | assumption); (case kDz57 => first | exact room0 (by assumption) | exact room1 (by assumption) rfl | exact room2 (by assumption) rfl | exact room3 (by assumption) rfl | exact roomA (by assumption) rfl | exact roomS (by assumption) rfl | exact roomM (by assumption) rfl | exact roomB (by assumption) rfl); (case kUz57 => first | exact room0 (by assumption) | exact room1 (by assumption) rfl | exact room2 (by assumption) rfl | exact room3 (by assumption) rfl | exact roomA (by assumption) rfl | exact roomS (by assumption) rfl | exact roomM (by assumption) rfl | exact roomB (by assumption) rfl)))
    case kErrz57 => intro hf; exact hf.elim
    intro r1 news1 hh1 tk1 F1 N1 K1 P1
    have hv := P1.1
    have S1 := P1.2
    refine fold_goal ?_; intro G9 k9; obtain ⟨mk, t, rfl, hmk⟩ := mark5 hv; refine k9 ?_; clear k9 G9
    have hsl : sl < L' := l1 _ h1
    have c1 := K1 _ (.tail _ (.head _)) (fun e => absurd (List.mem_singleton.mp e) (Nat.ne_of_gt (Nat.lt_succ_of_lt (Nat.lt_succ_of_lt hsl))))
    have c2 := K1 _ (.tail _ (.tail _ (.head _))) (fun e => absurd (List.mem_singleton.mp e) (Nat.ne_of_gt (Nat.lt_succ_of_lt hsl)))
    have k1 : Kp [sl] news news1 := (Kp.sub fun p hp => .tail _ (.tail _ (.tail _ hp))).trans K1
    repeat' (first | ((with_reducible show wpAny _ _ (exec _ _) _ _ _); k_fold) | ((fail_if_success (with_reducible refine stop_of Stop1 (by constructor) ?_)); first | (k_unfold; (try dsimp only)) | (k_end; wrow_close) | walk1 | (dsimp only; walk1) | (leave1; try dsimp only)))
    (k_dflt (refine' con_use ?kNz58 (law_take (top := 3) (by decide) (by decide) S1) ?kBz58 ?kFz58 ?kXz58 ?kTz58 ?kKz58 ?kDz58 ?kUz58 ?kOkz58 ?kErrz58; (case kNz58 => k_asm); (case kBz58 => k_asm); (case kFz58 => k_asm); (case kXz58 => k_asm); (case kTz58 => k_asm); (case kKz58 => first | exact rfl | assumption); (case kDz58 => first | exact room0 (by assumption) | exact room1 (by assumption) rfl | exact room2 (by assumption) rfl | exact room3 (by assumption) rfl | exact roomA (by assumption) rfl | exact roomS (by assumption) rfl | exact roomM (by assumption) rfl | exact roomB (by assumption) rfl); (case kUz58 => first | exact room0 (by assumption) | exact room1 (by assumption) rfl | exact room2 (by assumption) rfl | exact room3 (by assumption) rfl | exact roomA (by assumption) rfl | exact roomS (by assumption) rfl | exact roomM (by assumption) rfl | exact roomB (by assumption) rfl)))
    case kErrz58 => intro hf; exact hf.elim
    intro r2 news2 hh2 tk2 F2 N2 K2 P2
    refine el_abABS P2 ?_
    intro r t2 hQ9 b1 b2 S2
    subst hQ9
    have c3 := K2 _ c1 (fun e => absurd (List.mem_singleton.mp e) (Nat.ne_of_gt (Nat.lt_succ_of_lt (Nat.lt_succ_of_lt hsl))))
    have c4 := K2 _ c2 (fun e => absurd (List.mem_singleton.mp e) (Nat.ne_of_gt (Nat.lt_succ_of_lt hsl)))
    have k2 : Kp [sl] news news2 := k1.trans K2
    have hs2 : ∀ o, Src sl (o :: news2) := fun o => by
      refine fold_goal ?_; intro G9 k9; obtain ⟨a, b, ta, tb, nn, h⟩ := S2; refine k9 ?_; clear k9 G9
      exact ⟨a, b, ta, tb, nn, .tail _ h⟩
    refine fold_goal ?_; intro G9 k9; obtain ⟨a2, b2', ta2, tb2, nn2, h2⟩ := id S2; refine k9 ?_; clear k9 G9
    cases hb2 : (r == 0)
    · repeat' (first | ((with_reducible show wpAny _ _ (exec _ _) _ _ _); k_fold) | ((fail_if_success (with_reducible refine stop_of Stop1 (by constructor) ?_)); first | (k_unfold; (try dsimp only)) | (k_end; wrow_close) | walk1 | (dsimp only; walk1) | (leave1; try dsimp only)))
      rename ∀ (p : Addr × Obj), p ∈ news2 → p.1 < _ => hl2
      (k_dflt (refine' con_use ?kNz59 (law_one (vs := [_, _]) (Nat.succ_pos _) (by show 2 ≤ 1000; decide) (Nat.ne_of_gt (hl2 _ h2)) (.head _) (hs2 _)) ?kBz59 ?kFz59 ?kXz59 ?kTz59 ?kKz59 ?kDz59 ?kUz59 ?kOkz59 ?kErrz59; (case kNz59 => k_asm); (case kBz59 => k_asm); (case kFz59 => k_asm); (case kXz59 => k_asm); (case kTz59 => k_asm); (case kKz59 => first | exact rfl | assumption); (case kDz59 => first | exact room0 (by assumption) | exact room1 (by assumption) rfl | exact room2 (by assumption) rfl | exact room3 (by assumption) rfl | exact roomA (by assumption) rfl | exact roomS (by assumption) rfl | exact roomM (by assumption) rfl | exact roomB (by assumption) rfl); (case kUz59 => first | exact room0 (by assumption) | exact room1 (by assumption) rfl | exact room2 (by assumption) rfl | exact room3 (by assumption) rfl | exact roomA (by assumption) rfl | exact roomS (by assumption) rfl | exact roomM (by assumption) rfl | exact roomB (by assumption) rfl)))
      case kErrz59 => intro hf; exact hf.elim
      intro r3 news3 hh3 tk3 F3 N3 K3 P3
      have hv3 := P3.1
      have S3 := P3.2
      refine fold_goal ?_; intro G9 k9; obtain ⟨kd, t3, rfl, hkd⟩ := kind2 hv3; refine k9 ?_; clear k9 G9
      have c5 := K3 _ (.tail _ c3) (fun e => absurd (List.mem_singleton.mp e) (Nat.ne_of_gt (Nat.lt_succ_of_lt (Nat.lt_succ_of_lt hsl))))
      have c6 := K3 _ (.tail _ c4) (fun e => absurd (List.mem_singleton.mp e) (Nat.ne_of_gt (Nat.lt_succ_of_lt hsl)))
      have k3 : Kp [sl] news news3 := k2.trans ((Kp.sub fun p hp => .tail _ hp).trans K3)
      repeat' (first | ((with_reducible show wpAny _ _ (exec _ _) _ _ _); k_fold) | ((fail_if_success (with_reducible refine stop_of Stop1 (by constructor) ?_)); first | (k_unfold; (try dsimp only)) | (k_end; wrow_close) | walk1 | (dsimp only; walk1) | (leave1; try dsimp only)))
      (k_dflt (refine' con_use ?kNz60 (law_take (top := 2) (by decide) (by decide) S3) ?kBz60 ?kFz60 ?kXz60 ?kTz60 ?kKz60 ?kDz60 ?kUz60 ?kOkz60 ?kErrz60; (case kNz60 => k_asm); (case kBz60 => k_asm); (case kFz60 => k_asm); (case kXz60 => k_asm); (case kTz60 => k_asm); (case kKz60 => first | exact rfl | assumption); (case kDz60 => first | exact room0 (by assumption) | exact room1 (by assumption) rfl | exact room2 (by assumption) rfl | exact room3 (by assumption) rfl | exact roomA (by assumption) rfl | exact roomS (by assumption) rfl | exact roomM (by assumption) rfl | exact roomB (by assumption) rfl); (case kUz60 => first | exact room0 (by assumption) | exact room1 (by assumption) rfl | exact room2 (by assumption) rfl | exact room3 (by assumption) rfl | exact roomA (by assumption) rfl | exact roomS (by assumption) rfl | exact roomM (by assumption) rfl | exact roomB (by assumption) rfl)))
      case kErrz60 => intro hf; exact hf.elim
      intro r4 news4 hh4 tk4 F4 N4 K4 P4
      refine el_abABS P4 ?_
      intro r9 t4 hQ9 b3 b4 S4
      subst hQ9
      have c7 := K4 _ c5 (fun e => absurd (List.mem_singleton.mp e) (Nat.ne_of_gt (Nat.lt_succ_of_lt (Nat.lt_succ_of_lt hsl))))
      have c8 := K4 _ c6 (fun e => absurd (List.mem_singleton.mp e) (Nat.ne_of_gt (Nat.lt_succ_of_lt hsl)))
      have k4 : Kp [sl] news news4 := k3.trans K4
      obtain ⟨n, hn, hn1, hn3, hn2⟩ : ∃ n : Nat, (1 + r9 + (if (kd == Str.ofString "choice") = true then 1 else 0) : Int) = n ∧ 1 ≤ n ∧ n ≤ 3 ∧ (kd = Str.ofString "choice" → 2 ≤ n) := by
        refine ⟨(1 + r9 + (if (kd == Str.ofString "choice") = true then 1 else 0) : Int).toNat, ?_, ?_, ?_, fun e => ?_⟩
        · split <;> (first | lia | omega)
        · split <;> (first | lia | omega)
        · split <;> (first | lia | omega)
        · rw [if_pos (by rw [e]; exact beq_self_eq_true _)]; (first | lia | omega)
      repeat' (first | ((with_reducible show wpAny _ _ (exec _ _) _ _ _); k_fold) | ((fail_if_success (with_reducible refine stop_of Stop1 (by constructor) ?_)); first | (k_unfold; (try dsimp only)) | (k_end; wrow_close) | walk1 | (dsimp only; walk1) | (leave1; try dsimp only)))
      refine LCg.ListComp_U (F₀ := by assumption) (by rfl) (by decide) (by rfl) (by decide) (by rfl) ?_
      repeat' (first | ((with_reducible show wpAny _ _ (exec _ _) _ _ _); k_fold) | ((fail_if_success (with_reducible refine stop_of Stop1 (by constructor) ?_)); first | (k_unfold; (try dsimp only)) | (k_end; wrow_close) | walk1 | (dsimp only; walk1) | (leave1; try dsimp only)))
      refine LCg.CompSrc.range (n := n) rfl (by assumption) (by assumption) (by assumption) (by rw [hn]; exact (small3 hn3).1) (by rw [hn]; exact (small3 hn3).2) (by rw [sizeLine_eq]; (first | lia | omega)) ?_
      intro gg
      refine comp_all (n := n) (fun i ys nx => ys.length = i ∧ (∃ ds, TAll (nw news nx) ys ds ∧ ∀ d ∈ ds, PT k d) ∧ Src sl nx ∧ Kp [sl] news4 nx) ?_ ?_ n 0 [] _ (Nat.zero_add _) ⟨rfl, ⟨[], .nil, fun _ h => nomatch h⟩, S4, Kp.refl⟩
      · intro i ys nx hi J9 v I oI C oC D m₂ h tk9 E' hP hN hm F9 N9 o3 hne; refine fold_goal ?_; intro G9 k9; obtain ⟨a1, ⟨ds, a2, a3⟩, a4, a5⟩ := J9; refine k9 ?_; clear k9 G9
        have d1 := a5 _ c7 (fun e => absurd (List.mem_singleton.mp e) (Nat.ne_of_gt (Nat.lt_succ_of_lt (Nat.lt_succ_of_lt hsl))))
        have d2 := a5 _ c8 (fun e => absurd (List.mem_singleton.mp e) (Nat.ne_of_gt (Nat.lt_succ_of_lt hsl)))
        have S9 : Src sl ((I, oI) :: (C, oC) :: (D, LCg.lst ys) :: nx) := a4.kp (M := []) (Kp.sub fun p hp => .tail _ (.tail _ (.tail _ hp))) (fun e => nomatch e)
        repeat' (first | ((with_reducible show wpAny _ _ (exec _ _) _ _ _); k_fold) | ((fail_if_success (with_reducible refine stop_of Stop1 (by constructor) ?_)); first | (k_unfold; (try dsimp only)) | (k_end; wrow_close) | walk1 | (dsimp only; walk1) | (leave1; try dsimp only)))
        (k_dflt (refine' con_use ?kNz61 (ih (by (first | lia | omega)) S9) ?kBz61 ?kFz61 ?kXz61 ?kTz61 ?kKz61 ?kDz61 ?kUz61 ?kOkz61 ?kErrz61; (case kNz61 => k_asm); (case kBz61 => k_asm); (case kFz61 => k_asm); (case kXz61 => k_asm); (case kTz61 => k_asm); (case kKz61 => first | exact rfl | assumption); (case kDz61 => first | exact room0 (by assumption) | exact room1 (by assumption) rfl | exact room2 (by assumption) rfl | exact room3 (by assumption) rfl | exact roomA (by assumption) rfl | exact roomS (by assumption) rfl | exact roomM (by assumption) rfl | exact roomB (by assumption) rfl); (case kUz61 => first | exact room0 (by assumption) | exact room1 (by assumption) rfl | exact room2 (by assumption) rfl | exact room3 (by assumption) rfl | exact roomA (by assumption) rfl | exact roomS (by assumption) rfl | exact roomM (by assumption) rfl | exact roomB (by assumption) rfl)))
        case kErrz61 => intro hf; exact hf.elim
        intro r5 news5 hh5 tk5 F5 N5 K5 P5
        refine el_DABS P5 ?_
        intro D0 hD0 hT0 S5
        refine fold_goal ?_; intro G9 k9; obtain ⟨o4, o5, o6, o7⟩ := off3_kp K5 a4 o3; refine k9 ?_; clear k9 G9
        have k5 : Kp [sl] news nx := k4.trans a5
        refine LCg.CompEnd.intro (by assumption) (by assumption) _ o4 o5 trivial ⟨by rw [List.length_append, List.length_singleton, a1], ⟨ds ++ [D0], ?_, ?_⟩, ?_, a5.trans o6⟩
        · refine TAll.snoc (nw_all (sl := sl) o6 a2) (hT0.imm fun p hp _ => ?_)
          obtain ⟨z1, z2⟩ := nw_sub hp
          exact nw_mem (o7 p z1 (Nat.ne_of_gt (z2 _ (.head _))) (Nat.ne_of_gt (z2 _ (.tail _ (.head _)))) (Nat.ne_of_gt (z2 _ (.tail _ (.tail _ (.head _)))))) (up_kp k5 a4 fun q hq => z2 q (.tail _ (.tail _ (.tail _ hq))))
        · intro d hd
          rcases List.mem_append.mp hd with hd | hd
          · exact a3 d hd
          · rw [List.mem_singleton.mp hd]; exact hD0
        · refine fold_goal ?_; intro G9 k9; obtain ⟨a, b, ta, tb, nn, h⟩ := S5; refine k9 ?_; clear k9 G9
          refine fold_goal ?_; intro G9 k9; obtain ⟨_, _, _, _, _, z⟩ := a4; refine k9 ?_; clear k9 G9
          have z := o3.mem _ z
          exact ⟨a, b, ta, tb, nn, o7 _ h z.1 z.2.1 z.2.2⟩
      · intro ys nx J9; refine fold_goal ?_; intro G9 k9; obtain ⟨a1, ⟨ds, a2, a3⟩, a4, a5⟩ := J9; refine k9 ?_; clear k9 G9
        intro D h tk9 F9 N9 o1
        have hl := a2.len
        have k5 : Kp [sl] news nx := k4.trans a5
        (first | ((with_reducible show wpAny _ _ (exec _ _) _ _ _); k_fold) | ((fail_if_success (with_reducible refine stop_of Stop1 (by constructor) ?_)); first | (k_unfold; (try dsimp only)) | (k_end; wrow_close) | walk1 | (dsimp only; walk1) | (leave1; try dsimp only)))
        refine tup_of (vs := ys) (nn := ys.length) (by assumption) (by assumption) (.head _) (by rw [a1]; (first | lia | omega)) ?_
        intro D2 h9 F10 N10 m9
        repeat' (first | ((with_reducible show wpAny _ _ (exec _ _) _ _ _); k_fold) | ((fail_if_success (with_reducible refine stop_of Stop1 (by constructor) ?_)); first | (k_unfold; (try dsimp only)) | (k_end; wrow_close) | walk1 | (dsimp only; walk1) | (leave1; try dsimp only)))
        rename _ ∧ _ ∧ AllLt _ nx => l9
        have S8 : ∀ x y z, Src sl (x :: y :: z :: nx) := fun x y z => by
          refine fold_goal ?_; intro G9 k9; obtain ⟨a, b, ta, tb, nn, h⟩ := a4; refine k9 ?_; clear k9 G9
          exact ⟨a, b, ta, tb, nn, .tail _ (.tail _ (.tail _ h))⟩
        refine hret _ _ _ _ (by assumption) (by assumption) (((k5.cons).cons).cons) ⟨⟨_, .grp ?_ (by rw [← hl, a1]; exact hn3) hmk a3, .tup (nw_mem (.head _) (up_kp k5 a4 (allLt_mem l9.2.2))) (.cons (.str _ _) (.cons (.tup (nw_mem (.tail _ (.head _)) (up_kp k5 a4 fun p hp => m9 p (.tail _ hp))) (a2.imm fun p hp _ => nw_mem (.tail _ (.tail _ (.tail _ (nw_sub hp).1))) (nw_sub hp).2)) (.cons (.str _ _) .nil)))⟩, S8 _ _ _⟩
        rw [← hl, a1]
        rcases hkd with e | e
        · exact .inl ⟨e, hn2 e⟩
        · exact .inr ⟨e, hn1⟩
    · repeat' (first | ((with_reducible show wpAny _ _ (exec _ _) _ _ _); k_fold) | ((fail_if_success (with_reducible refine stop_of Stop1 (by constructor) ?_)); first | (k_unfold; (try dsimp only)) | (k_end; wrow_close) | walk1 | (dsimp only; walk1) | (leave1; try dsimp only)))
      rename ∀ (p : Addr × Obj), p ∈ news2 → p.1 < _ => hl2
      (k_dflt (refine' con_use ?kNz62 (law_one (vs := [_, _, _, _, _]) (Nat.succ_pos _) (by show 5 ≤ 1000; decide) (Nat.ne_of_gt (hl2 _ h2)) (.head _) (hs2 _)) ?kBz62 ?kFz62 ?kXz62 ?kTz62 ?kKz62 ?kDz62 ?kUz62 ?kOkz62 ?kErrz62; (case kNz62 => k_asm); (case kBz62 => k_asm); (case kFz62 => k_asm); (case kXz62 => k_asm); (case kTz62 => k_asm); (case kKz62 => first | exact rfl | assumption); (case kDz62 => first | exact room0 (by assumption) | exact room1 (by assumption) rfl | exact room2 (by assumption) rfl | exact room3 (by assumption) rfl | exact roomA (by assumption) rfl | exact roomS (by assumption) rfl | exact roomM (by assumption) rfl | exact roomB (by assumption) rfl); (case kUz62 => first | exact room0 (by assumption) | exact room1 (by assumption) rfl | exact room2 (by assumption) rfl | exact room3 (by assumption) rfl | exact roomA (by assumption) rfl | exact roomS (by assumption) rfl | exact roomM (by assumption) rfl | exact roomB (by assumption) rfl)))
      case kErrz62 => intro hf; exact hf.elim
      intro r3 news3 hh3 tk3 F3 N3 K3 P3
      have hv3 := P3.1
      have S3 := P3.2
      refine fold_goal ?_; intro G9 k9; obtain ⟨nm, t3, rfl, hnm⟩ := name5 hv3; refine k9 ?_; clear k9 G9
      have c5 := K3 _ (.tail _ c3) (fun e => absurd (List.mem_singleton.mp e) (Nat.ne_of_gt (Nat.lt_succ_of_lt (Nat.lt_succ_of_lt hsl))))
      have c6 := K3 _ (.tail _ c4) (fun e => absurd (List.mem_singleton.mp e) (Nat.ne_of_gt (Nat.lt_succ_of_lt hsl)))
      have k3 : Kp [sl] news news3 := k2.trans ((Kp.sub fun p hp => .tail _ hp).trans K3)
      repeat' (first | ((with_reducible show wpAny _ _ (exec _ _) _ _ _); k_fold) | ((fail_if_success (with_reducible refine stop_of Stop1 (by constructor) ?_)); first | (k_unfold; (try dsimp only)) | (k_end; wrow_close) | walk1 | (dsimp only; walk1) | (leave1; try dsimp only)))
      rename ∀ (p : Addr × Obj), p ∈ news3 → p.1 < _ => hl3
      exact hret _ _ _ _ (by assumption) (by assumption) k3.cons ⟨⟨_, .name hnm hmk, .tup (nw_mem (.head _) (up_kp k3 S3 hl3)) (.cons (.str _ _) (.cons (.str _ _) (.cons (.str _ _) .nil)))⟩, by
        refine fold_goal ?_; intro G9 k9; obtain ⟨a, b, ta, tb, nn, h⟩ := S3; refine k9 ?_; clear k9 G9
        exact ⟨a, b, ta, tb, nn, .tail _ h⟩⟩
noncomputable def mixes : List (List Str) := [[], [Str.ofString "a"], [Str.ofString "b", Str.ofString "a"], [Str.ofString "x:y", Str.ofString "a", Str.ofString "c"]]
/-- the law's models -/
inductive Mo : Dat → Prop
  | empty : Mo (Dat.tuple [Dat.str (Str.ofString "empty")])
  | any : Mo (Dat.tuple [Dat.str (Str.ofString "any")])
  | mixed {ns : List Str} : ns ∈ mixes → Mo (Dat.tuple [Dat.str (Str.ofString "mixed"), Dat.tuple (ns.map Dat.str)])
  | kids {kd mk : Str} {ds : List Dat} : PT 3 (Dat.tuple [Dat.str kd, Dat.tuple ds, Dat.str mk]) → Mo (Dat.tuple [Dat.str (Str.ofString "children"), Dat.tuple [Dat.str kd, Dat.tuple ds, Dat.str mk]])
theorem PT.up {k : Nat} {D : Dat} (h : PT k D) : PT (k + 1) D := by
  induction h with
  | name a b => exact .name a b
  | grp a b c _ ih => exact .grp a b c ih
theorem law_model {w : World} {sl : Addr} {news : Led} (S : Src sl news) : Con w 371 [.ref sl] 500 3000 news [sl] (fun v n' => (∃ D, Mo D ∧ TIn n' v D) ∧ Src sl n') False := by
  intro mean mg mb dp un gd cn cs a ccd cl outer A₀ base h₀ L m s Q E B F X N Tp hk hd1 hu1 hret herr; refine wpAny_call ?_; k_dflt (refine' code_def (binds := [("source", .ref sl)]) ?k1 ?k2 ?k3 ?k4 ?k5 ?kA ?kF ?kK ?k6 ?k7 ?k8 ?k9 ?kB ?_ ?c2 ?c3 ?c4 ?c5; (case kA => exact rfl); (case kF => exact rfl); (case kK => assumption); (case k1 => k_asm); (case k2 => k_asm); (case k3 => k_asm); (case k4 => k_asm); (case k5 => k_asm); (case k6 => k_is); (case k7 => k_is); (case k8 => first | exact room0 (by assumption) | exact room1 (by assumption) rfl | exact room2 (by assumption) rfl | exact room3 (by assumption) rfl | exact roomA (by assumption) rfl | exact roomS (by assumption) rfl | exact roomM (by assumption) rfl | exact roomB (by assumption) rfl); (case k9 => exact BindsTo.of_eq rfl); (case c5 => decide); (case kB => exact locs rfl); (case c2 => exact rfl); (case c3 => exact rfl); (case c4 => exact rfl); k_whole); intro g' L' hp FG' F' N' B' X' T'; (try dsimp only [List.reverse_cons, List.reverse_nil, List.nil_append, List.cons_append, List.length_cons, List.length_nil, Nat.zero_add] at F' ⊢); k_fold; refine fold_env ?_; intro e₁ A₁
  repeat' (first | ((with_reducible show wpAny _ _ (exec _ _) _ _ _); k_fold) | ((fail_if_success (with_reducible refine stop_of Stop1 (by constructor) ?_)); first | (k_unfold; (try dsimp only)) | (k_end; wrow_close) | walk1 | (dsimp only; walk1) | (leave1; try dsimp only)))
  (k_dflt (refine' con_use ?kNz63 (law_take (top := 8) (by decide) (by decide) S) ?kBz63 ?kFz63 ?kXz63 ?kTz63 ?kKz63 ?kDz63 ?kUz63 ?kOkz63 ?kErrz63; (case kNz63 => k_asm); (case kBz63 => k_asm); (case kFz63 => k_asm); (case kXz63 => k_asm); (case kTz63 => k_asm); (case kKz63 => first | exact rfl | assumption); (case kDz63 => first | exact room0 (by assumption) | exact room1 (by assumption) rfl | exact room2 (by assumption) rfl | exact room3 (by assumption) rfl | exact roomA (by assumption) rfl | exact roomS (by assumption) rfl | exact roomM (by assumption) rfl | exact roomB (by assumption) rfl); (case kUz63 => first | exact room0 (by assumption) | exact room1 (by assumption) rfl | exact room2 (by assumption) rfl | exact room3 (by assumption) rfl | exact roomA (by assumption) rfl | exact roomS (by assumption) rfl | exact roomM (by assumption) rfl | exact roomB (by assumption) rfl)))
  case kErrz63 => intro hf; exact hf.elim
  intro r1 news1 hh1 tk1 F1 N1 K1 P1
  refine el_abABS P1 ?_
  intro r t hQ9 b1 b2 S1
  subst hQ9
  have hs1 : ∀ o, Src sl (o :: news1) := fun o => by
    refine fold_goal ?_; intro G9 k9; obtain ⟨a, b, ta, tb, nn, h⟩ := S1; refine k9 ?_; clear k9 G9
    exact ⟨a, b, ta, tb, nn, .tail _ h⟩
  refine fold_goal ?_; intro G9 k9; obtain ⟨a1, a2, ta1, ta2, nn1, z1⟩ := id S1; refine k9 ?_; clear k9 G9
  repeat' (first | ((with_reducible show wpAny _ _ (exec _ _) _ _ _); k_fold) | ((fail_if_success (with_reducible refine stop_of Stop1 (by constructor) ?_)); first | (k_unfold; (try dsimp only)) | (k_end; wrow_close) | walk1 | (dsimp only; walk1) | (leave1; try dsimp only)))
  · exact hret _ _ _ _ (by assumption) (by assumption) K1.cons ⟨⟨_, .empty, .tup (.head _) (.cons (.str _ _) .nil)⟩, hs1 _⟩
  · exact hret _ _ _ _ (by assumption) (by assumption) K1.cons ⟨⟨_, .any, .tup (.head _) (.cons (.str _ _) .nil)⟩, hs1 _⟩
  · rename _ ∧ _ ∧ _ ∧ _ ∧ AllLt _ news1 => hl
    have S' : ∀ a b c d e, Src sl (a :: b :: c :: d :: e :: news1) := fun x y z u v => ⟨_, _, _, _, _, .tail _ (.tail _ (.tail _ (.tail _ (.tail _ z1))))⟩
    (k_dflt (refine' con_use ?kNz64 (law_one (vs := [_, _, _, _]) (Nat.succ_pos _) (by show 4 ≤ 1000; decide) (ne_lt hl.2.2.2.2 z1) (.head _) (S' _ _ _ _ _)) ?kBz64 ?kFz64 ?kXz64 ?kTz64 ?kKz64 ?kDz64 ?kUz64 ?kOkz64 ?kErrz64; (case kNz64 => k_asm); (case kBz64 => k_asm); (case kFz64 => k_asm); (case kXz64 => k_asm); (case kTz64 => k_asm); (case kKz64 => first | exact rfl | assumption); (case kDz64 => first | exact room0 (by assumption) | exact room1 (by assumption) rfl | exact room2 (by assumption) rfl | exact room3 (by assumption) rfl | exact roomA (by assumption) rfl | exact roomS (by assumption) rfl | exact roomM (by assumption) rfl | exact roomB (by assumption) rfl); (case kUz64 => first | exact room0 (by assumption) | exact room1 (by assumption) rfl | exact room2 (by assumption) rfl | exact room3 (by assumption) rfl | exact roomA (by assumption) rfl | exact roomS (by assumption) rfl | exact roomM (by assumption) rfl | exact roomB (by assumption) rfl)))
    case kErrz64 => intro hf; exact hf.elim
    intro r2 news2 hh2 tk2 F2 N2 K2 P2
    have hv := P2.1
    have S2 := P2.2
    have hs2 : ∀ o, Src sl (o :: news2) := fun o => by
      refine fold_goal ?_; intro G9 k9; obtain ⟨a, b, ta, tb, nn, h⟩ := S2; refine k9 ?_; clear k9 G9
      exact ⟨a, b, ta, tb, nn, .tail _ h⟩
    obtain ⟨ns, e1, e2⟩ : ∃ ns ∈ mixes, TIn news2 r2 (Dat.tuple (ns.map Dat.str)) := by
      have t1 := K2.imm _ (.tail _ (.head _)) rfl
      have t2 := K2.imm _ (.tail _ (.tail _ (.head _))) rfl
      have t3 := K2.imm _ (.tail _ (.tail _ (.tail _ (.head _)))) rfl
      have t4 := K2.imm _ (.tail _ (.tail _ (.tail _ (.tail _ (.head _))))) rfl
      simp only [List.mem_cons, List.not_mem_nil, or_false] at hv
      rcases hv with rfl | rfl | rfl | rfl
      · exact ⟨_, .head _, .tup t4 .nil⟩
      · exact ⟨_, .tail _ (.head _), .tup t3 (.cons (.str _ _) .nil)⟩
      · exact ⟨_, .tail _ (.tail _ (.head _)), .tup t2 (.cons (.str _ _) (.cons (.str _ _) .nil))⟩
      · exact ⟨_, .tail _ (.tail _ (.tail _ (.head _))), .tup t1 (.cons (.str _ _) (.cons (.str _ _) (.cons (.str _ _) .nil)))⟩
    have k2 : Kp [sl] news news2 := K1.trans ((Kp.sub fun p hp => .tail _ (.tail _ (.tail _ (.tail _ (.tail _ hp))))).trans K2)
    repeat' (first | ((with_reducible show wpAny _ _ (exec _ _) _ _ _); k_fold) | ((fail_if_success (with_reducible refine stop_of Stop1 (by constructor) ?_)); first | (k_unfold; (try dsimp only)) | (k_end; wrow_close) | walk1 | (dsimp only; walk1) | (leave1; try dsimp only)))
    exact hret _ _ _ _ (by assumption) (by assumption) k2.cons ⟨⟨_, .mixed e1, .tup (.head _) (.cons (.str _ _) (.cons (e2.imm fun p hp _ => .tail _ hp) .nil))⟩, hs2 _⟩
  · (k_dflt (refine' con_use ?kNz65 (law_particle 2 rfl S1) ?kBz65 ?kFz65 ?kXz65 ?kTz65 ?kKz65 ?kDz65 ?kUz65 ?kOkz65 ?kErrz65; (case kNz65 => k_asm); (case kBz65 => k_asm); (case kFz65 => k_asm); (case kXz65 => k_asm); (case kTz65 => k_asm); (case kKz65 => first | exact rfl | assumption); (case kDz65 => first | exact room0 (by assumption) | exact room1 (by assumption) rfl | exact room2 (by assumption) rfl | exact room3 (by assumption) rfl | exact roomA (by assumption) rfl | exact roomS (by assumption) rfl | exact roomM (by assumption) rfl | exact roomB (by assumption) rfl); (case kUz65 => first | exact room0 (by assumption) | exact room1 (by assumption) rfl | exact room2 (by assumption) rfl | exact room3 (by assumption) rfl | exact roomA (by assumption) rfl | exact roomS (by assumption) rfl | exact roomM (by assumption) rfl | exact roomB (by assumption) rfl)))
    case kErrz65 => intro hf; exact hf.elim
    intro r2 news2 hh2 tk2 F2 N2 K2 P2
    refine el_DABS P2 ?_
    intro D hD hT S2
    replace hT := hT.nw
    have k2 := K1.trans K2
    refine fold_goal ?_; intro G9 k9; obtain ⟨a3, b3, ta3, tb3, nn3, z2⟩ := id S2; refine k9 ?_; clear k9 G9
    cases hD with
    | name f1 f2 =>
      refine fold_goal ?_; intro G9 k9; obtain ⟨a, t1, t2, t3, n1, rfl, g1⟩ := tinN hT; refine k9 ?_; clear k9 G9
      have hs2 : ∀ o p, Src sl (o :: p :: news2) := fun o p => ⟨_, _, _, _, _, .tail _ (.tail _ z2)⟩
      repeat' (first | ((with_reducible show wpAny _ _ (exec _ _) _ _ _); k_fold) | ((fail_if_success (with_reducible refine stop_of Stop1 (by constructor) ?_)); first | (k_unfold; (try dsimp only)) | (k_end; wrow_close) | walk1 | (dsimp only; walk1) | (leave1; try dsimp only)))
      rename _ ∧ AllLt _ news2 => hl
      (k_dflt (refine' con_use ?kNz66 (law_one (vs := [_, _]) (Nat.succ_pos _) (by show 2 ≤ 1000; decide) (ne_lt hl.2 z2) (.head _) (hs2 _ _)) ?kBz66 ?kFz66 ?kXz66 ?kTz66 ?kKz66 ?kDz66 ?kUz66 ?kOkz66 ?kErrz66; (case kNz66 => k_asm); (case kBz66 => k_asm); (case kFz66 => k_asm); (case kXz66 => k_asm); (case kTz66 => k_asm); (case kKz66 => first | exact rfl | assumption); (case kDz66 => first | exact room0 (by assumption) | exact room1 (by assumption) rfl | exact room2 (by assumption) rfl | exact room3 (by assumption) rfl | exact roomA (by assumption) rfl | exact roomS (by assumption) rfl | exact roomM (by assumption) rfl | exact roomB (by assumption) rfl); (case kUz66 => first | exact room0 (by assumption) | exact room1 (by assumption) rfl | exact room2 (by assumption) rfl | exact room3 (by assumption) rfl | exact roomA (by assumption) rfl | exact roomS (by assumption) rfl | exact roomM (by assumption) rfl | exact roomB (by assumption) rfl)))
      case kErrz66 => intro hf; exact hf.elim
      intro r3 news3 hh3 tk3 F3 N3 K3 P3
      have hv := P3.1
      have S3 := P3.2
      have hs3 : ∀ o p, Src sl (o :: p :: news3) := fun o p => by
        refine fold_goal ?_; intro G9 k9; obtain ⟨a, b, ta, tb, nn, h⟩ := S3; refine k9 ?_; clear k9 G9
        exact ⟨a, b, ta, tb, nn, .tail _ (.tail _ h)⟩
      obtain ⟨mk, t4, rfl, e1⟩ : ∃ x t, r3 = .str x t ∧ x ∈ marks4 := by
        simp only [List.mem_cons, List.not_mem_nil, or_false] at hv
        rcases hv with rfl | rfl <;> exact ⟨_, _, rfl, by simp [marks4]⟩
      have k3 : Kp [sl] news news3 := k2.trans ((Kp.sub fun p hp => .tail _ (.tail _ hp)).trans K3)
      have t5 := K3.imm _ (.tail _ (.head _)) rfl
      have hT3 : ∀ o p, TIn (o :: p :: news3) _ _ := fun o p => hT.imm fun q hq i => .tail _ (.tail _ (K3.imm _ (.tail _ (.tail _ hq)) i))
      repeat' (first | ((with_reducible show wpAny _ _ (exec _ _) _ _ _); k_fold) | ((fail_if_success (with_reducible refine stop_of Stop1 (by constructor) ?_)); first | (k_unfold; (try dsimp only)) | (k_end; wrow_close) | walk1 | (dsimp only; walk1) | (leave1; try dsimp only)))
      exact hret _ _ _ _ (by assumption) (by assumption) (k3.cons).cons ⟨⟨_, .kids (kd := Str.ofString "seq") (.grp (ds := [_]) (.inr ⟨rfl, Nat.le_refl 1⟩) (by show 1 ≤ 3; decide) e1 (fun d hd => by rw [List.mem_singleton.mp hd]; exact PT.name f1 f2)), .tup (.head _) (.cons (.str _ _) (.cons (.tup (.tail _ (.head _)) (.cons (.str _ _) (.cons (.tup (.tail _ (.tail _ t5)) (.cons (hT3 _ _) .nil)) (.cons (.str _ _) .nil)))) .nil))⟩, hs3 _ _⟩
    | grp f1 f2 f3 f4 =>
      rename_i kd mk ds
      refine fold_goal ?_; intro G9 k9; obtain ⟨a, tl, t1, t2, k3, n1, vs3, rfl, g1, g2, g3⟩ := tin3 hT; refine k9 ?_; clear k9 G9
      have hkn : (kd == Str.ofString "name") = false := by rcases f1 with ⟨rfl, _⟩ | ⟨rfl, _⟩ <;> decide +kernel
      have hs2 : ∀ o, Src sl (o :: news2) := fun o => ⟨_, _, _, _, _, .tail _ z2⟩
      have hkm : (kd != Str.ofString "name") = true := by unfold bne; rw [hkn]; rfl
      repeat' (first | ((with_reducible show wpAny _ _ (exec _ _) _ _ _); k_fold) | ((fail_if_success (with_reducible refine stop_of Stop1 (by constructor) ?_)); first | (k_unfold; (try dsimp only)) | (k_end; wrow_close) | walk1 | (dsimp only; walk1) | (leave1; try dsimp only)))
      exact hret _ _ _ _ (by assumption) (by assumption) k2.cons ⟨⟨_, .kids (PT.grp f1 f2 f3 f4).up, .tup (.head _) (.cons (.str _ _) (.cons (hT.imm fun p hp _ => .tail _ hp) .nil))⟩, hs2 _⟩
theorem fr_eq {g h : Heap} {L : Addr} {m m' : Str → Option Value} (F : Fr g L h m) (e : m = m') : Fr g L h m' := e ▸ F
section
variable {prog : Program} {w : World} {A : Around} {E : Value → Shared → Prop} {Q : Flow → Shared → Prop} {s : Shared} {env : Env} {h₀ : Heap} {x : Str} {body : List Stmt}
theorem map_x {m m₁ : Str → Option Value} {x x2 : Str} {v : Value} {vx : Option Value} (a : ∀ z, z ≠ x → z ≠ x2 → m₁ z = m z) (b : m₁ x2 = some v) (hx : x2 ≠ x) : (fun y => if y = x then vx else m₁ y) = fun y => if y = x then vx else if y = x2 then some v else m y := by
  funext y
  by_cases e1 : y = x
  · rw [if_pos e1, if_pos e1]
  · by_cases e2 : y = x2
    · rw [if_neg e1, if_neg e1, if_pos e2, e2, b]
    · rw [if_neg e1, if_neg e1, if_neg e2, a y e1 e2]
theorem iter_range2 (x2 : Str) {r : Addr} {a₀ b₀ st : Int} {t₀ u₀ v₀ : Tok} {n : Nat} {m : Str → Option Value} {news : Led} {v0 : Value} (J : Nat → Value → Led → Prop)
    (hh : A.handled = none) (hr : IsRange s.heap r a₀ b₀ st t₀ u₀ v₀) (hsmall : Builtin.Range.small a₀ b₀ st = true) (hsz : Builtin.Range.rangeSize a₀ b₀ st = (n : Int)) (F : Fr h₀ env.locals s.heap m) (N : News h₀ env.locals s.heap news) (hx : x2 ≠ x) (hm : m x2 = some v0) (hj : J 0 v0 news) (clos : ∀ I, (∀ p ∈ news, p.1 ≠ I) → ∀ i v n n', KpI I n n' → J i v n → J i v n')
    (turn : ∀ i t v nx own h tk, i < n → J i v nx → (∀ p ∈ own, p ∈ nx ∧ (isIt p.2 = true ∨ imm p.2 = true)) → Fr h₀ env.locals h (fun y => if y = x then some (.int (a₀ + (i : Int) * st) t) else if y = x2 then some v else m y) → News h₀ env.locals h nx →
      wpAny (model prog w) A (execs body env) (FStep h₀ env.locals own { s with heap := h, toks := tk } (fun m₁ n' => (∀ z, z ≠ x → z ≠ x2 → m₁ z = m z) ∧ ∃ v', m₁ x2 = some v' ∧ J (i + 1) v' n') Q) E { s with heap := h, toks := tk })
    (done : ∀ mx v nx h tk, J n v nx → Fr h₀ env.locals h (fun y => if y = x then mx else if y = x2 then some v else m y) → News h₀ env.locals h nx → Q .next { s with heap := h, toks := tk }) :
    wpAny (model prog w) A (pyIter (.ref r)) (fun it s₂ => LoopAtV prog w A h₀ env x body Q E it s₂) E s := by
  refine iter_range (fun i m₁ nx => (∀ z, z ≠ x → z ≠ x2 → m₁ z = m z) ∧ ∃ v, m₁ x2 = some v ∧ J i v nx) hh hr hsmall hsz F N ⟨fun _ _ _ => rfl, _, hm, hj⟩ (by intro I hI i m n n' k J9; obtain ⟨a, v, c, b⟩ := J9; exact ⟨a, v, c, clos I hI i v n n' k b⟩) ?_ ?_
  · intro i t m₁ nx own h tk hi J9 ho F9 N9; refine fold_goal ?_; intro G9 k9; obtain ⟨a, v, c, b⟩ := J9; refine k9 ?_; clear k9 G9
    exact turn i t v nx own h tk hi b ho (fr_eq F9 (map_x a c hx)) N9
  · intro m₁ nx h tk J9 F9 N9; refine fold_goal ?_; intro G9 k9; obtain ⟨a, v, c, b⟩ := J9; refine k9 ?_; clear k9 G9
    refine done (m₁ x) v nx h tk b (fr_eq F9 ?_) N9
    rw [← map_x a c hx]
    funext y
    by_cases e : y = x
    · rw [if_pos e, e]
    · rw [if_neg e]
theorem iter_tup2 (x2 : Str) {t : Addr} {vs : List Value} {nn : Nat} {m : Str → Option Value} {news : Led} {v0 : Value} (J : Nat → Value → Led → Prop)
    (hh : A.handled = none) (ht : (t, (⟨.type "tuple", none, .seq vs.toArray nn, #[]⟩ : Obj)) ∈ news) (F : Fr h₀ env.locals s.heap m) (N : News h₀ env.locals s.heap news) (hx : x2 ≠ x) (hm : m x2 = some v0) (hj : J 0 v0 news) (clos : ∀ I, (∀ p ∈ news, p.1 ≠ I) → ∀ i v n n', KpI I n n' → J i v n → J i v n')
    (turn : ∀ i u v nx own h tk, vs[i]? = some u → J i v nx → (∀ p ∈ own, p ∈ nx ∧ (isIt p.2 = true ∨ imm p.2 = true)) → Fr h₀ env.locals h (fun y => if y = x then some u else if y = x2 then some v else m y) → News h₀ env.locals h nx →
      wpAny (model prog w) A (execs body env) (FStep h₀ env.locals own { s with heap := h, toks := tk } (fun m₁ n' => (∀ z, z ≠ x → z ≠ x2 → m₁ z = m z) ∧ ∃ v', m₁ x2 = some v' ∧ J (i + 1) v' n') Q) E { s with heap := h, toks := tk })
    (done : ∀ mx v nx h tk, J vs.length v nx → Fr h₀ env.locals h (fun y => if y = x then mx else if y = x2 then some v else m y) → News h₀ env.locals h nx → Q .next { s with heap := h, toks := tk }) :
    wpAny (model prog w) A (pyIter (.ref t)) (fun it s₂ => LoopAtV prog w A h₀ env x body Q E it s₂) E s := by
  refine iter_tup (fun i m₁ nx => (∀ z, z ≠ x → z ≠ x2 → m₁ z = m z) ∧ ∃ v, m₁ x2 = some v ∧ J i v nx) hh (N.get ht) rfl rfl (N _ ht).2.1 F N ⟨fun _ _ _ => rfl, _, hm, hj⟩ (by intro I hI i m n n' k J9; obtain ⟨a, v, c, b⟩ := J9; exact ⟨a, v, c, clos I hI i v n n' k b⟩) ?_ ?_
  · intro i u m₁ nx own h tk hi J9 ho F9 N9; refine fold_goal ?_; intro G9 k9; obtain ⟨a, v, c, b⟩ := J9; refine k9 ?_; clear k9 G9
    exact turn i u v nx own h tk hi b ho (fr_eq F9 (map_x a c hx)) N9
  · intro m₁ nx h tk J9 F9 N9; refine fold_goal ?_; intro G9 k9; obtain ⟨a, v, c, b⟩ := J9; refine k9 ?_; clear k9 G9
    refine done (m₁ x) v nx h tk b (fr_eq F9 ?_) N9
    rw [← map_x a c hx]
    funext y
    by_cases e : y = x
    · rw [if_pos e, e]
    · rw [if_neg e]
end
theorem Src.kpi {sl I : Addr} {n n' : Led} (h : Src sl n) (k : KpI I n n') : Src sl n' := by
  refine fold_goal ?_; intro G9 k9; obtain ⟨a, b, ta, tb, nn, h⟩ := h; refine k9 ?_; clear k9 G9
  exact ⟨a, b, ta, tb, nn, k _ h fun _ => rfl⟩
theorem Src.own {sl : Addr} {n : Led} (h : Src sl n) : ∀ d ∈ [sl], ∃ o, (d, o) ∈ n ∧ isIt o = false := fun d hd => by
  refine fold_goal ?_; intro G9 k9; obtain ⟨a, b, ta, tb, nn, h⟩ := h; refine k9 ?_; clear k9 G9
  rw [List.mem_singleton.mp hd]
  exact ⟨_, h, rfl⟩
theorem Src.cons {sl : Addr} {n : Led} (h : Src sl n) (o : Addr × Obj) : Src sl (o :: n) := by
  refine fold_goal ?_; intro G9 k9; obtain ⟨a, b, ta, tb, nn, h⟩ := h; refine k9 ?_; clear k9 G9
  exact ⟨a, b, ta, tb, nn, .tail _ h⟩
noncomputable def lb : Nat → Nat
  | 0 => 5
  | k + 1 => 3 + 3 * (lb k + 5)
theorem lb_le : ∀ k, lb k ≤ lb (k + 1)
  | k => by simp only [lb]; (first | lia | omega)
theorem PT.get {k : Nat} {ds : List Dat} (h : ∀ d ∈ ds, PT k d) (i : Nat) (hi : i < ds.length) : PT k ds[i] := h _ (List.getElem_mem hi)
theorem WrL.snoc {sp : Bool} {sg : Nat} {d : Dat} {s1 t s2 : List Nat} (h1 : spOk sp s1) (h2 : spOk sp s2) (h3 : Wr sp d t) : ∀ {bb : Bool} {ds : List Dat} {u : List Nat}, WrL sp sg bb ds u → WrL sp sg bb (ds ++ [d]) (u ++ ((if bb = true ∧ ds.length = 0 then [] else [sg]) ++ (s1 ++ (t ++ s2))))
  | bb, [], _, .nil => by
    have := WrL.cons (sg := sg) (b := bb) h1 h2 h3 .nil
    cases bb
    · simpa using this
    · simpa using this
  | bb, d0 :: ds, _, .cons (s1 := r1) (t := r2) (s2 := r3) (u := u) a b c r => by
    have ih := WrL.snoc h1 h2 h3 r
    have := WrL.cons (sg := sg) (b := bb) a b c ih
    rw [List.cons_append]
    have e : ∀ x : List Nat, ((if bb = true then [] else [sg]) ++ (r1 ++ (r2 ++ (r3 ++ u)))) ++ x = (if bb = true then [] else [sg]) ++ (r1 ++ (r2 ++ (r3 ++ (u ++ x)))) := fun x => by simp
    rw [e]
    have e2 : (if bb = true ∧ (d0 :: ds).length = 0 then ([] : List Nat) else [sg]) = [sg] := if_neg fun h => by have := h.2; rw [List.length_cons] at this; (first | lia | omega)
    have e3 : (if false = true ∧ ds.length = 0 then ([] : List Nat) else [sg]) = [sg] := if_neg fun h => by cases h.1
    rw [e2]
    rw [e3] at this
    exact this
theorem map_two {m m0 : Str → Option Value} {a b : Str} (h : ∀ z, z ≠ a → z ≠ b → m z = m0 z) : m = fun y => if y = a then m a else if y = b then m b else m0 y := by
  funext y
  by_cases e1 : y = a
  · rw [if_pos e1, e1]
  · by_cases e2 : y = b
    · rw [if_neg e1, if_pos e2, e2]
    · rw [if_neg e1, if_neg e2, h y e1 e2]
theorem lb_five : ∀ k, 5 ≤ lb k
  | 0 => Nat.le_refl _
  | k + 1 => by simp only [lb]; (first | lia | omega)
theorem len_nm {nm mk : Str} (h1 : nm ∈ names5) (h2 : mk ∈ marks4) (k : Nat) : (nm.cps.toList ++ mk.cps.toList).length ≤ lb k := by
  have a := (by decide +kernel : ∀ nm ∈ names5, nm.cps.toList.length ≤ 4) _ h1
  have b := (by decide +kernel : ∀ nm ∈ marks4, nm.cps.toList.length ≤ 1) _ h2
  have c := lb_five k
  rw [List.length_append]; (first | lia | omega)
theorem lb3 {k : Nat} (h : k ≤ 3) : lb k ≤ 369 := by
  rcases (by (first | lia | omega) : k = 0 ∨ k = 1 ∨ k = 2 ∨ k = 3) with rfl | rfl | rfl | rfl <;> decide
theorem mul_first {S : Str} {c : Nat} (h0 : (Txt.mul S 0).cps.toList = []) (h1 : (Txt.mul S 1).cps.toList = [c]) (i : Nat) : (Txt.mul S (if decide (0 < (i : Int)) = true then 1 else 0)).cps.toList = if i = 0 then [] else [c] := by
  by_cases e : i = 0
  · subst e; rw [if_pos rfl]; exact h0
  · rw [if_neg e, if_pos (decide_eq_true (by (first | lia | omega)))]; exact h1
theorem take_snoc {α : Type} (l : List α) (i : Nat) (h : i < l.length) : l.take (i + 1) = l.take i ++ [l[i]] := by
  rw [List.take_add_one, List.getElem?_eq_getElem h]; rfl
theorem law_written {w : World} {sl : Addr} {b : Bool} : ∀ (k : Nat) (_ : k ≤ 3) {v : Value} {D : Dat} {news : Led} (_ : PT k D) (_ : TIn news v D) (_ : Src sl news), Con w 385 [.ref sl, v, .bool b] (120 + 20 * k) (800 + 200 * k) news [sl] (fun v n' => (∃ X tk, v = .str X tk ∧ Wr b D X.cps.toList ∧ X.length ≤ lb k) ∧ Src sl n') False := by
  intro k
  induction k with
  | zero =>
    intro hk3 v D news hD hT S
    cases hD with
    | name f1 f2 =>
      rename_i nm mk
      refine fold_goal ?_; intro G9 k9; obtain ⟨pa, t1, t2, t3, n1, rfl, g1⟩ := tinN hT; refine k9 ?_; clear k9 G9
      have l10 := names5_len _ f1
      have l11 := marks4_len _ f2
      intro mean mg mb dp un gd cn cs a ccd cl outer A₀ base h₀ L m s Q E B F X N Tp hk hd1 hu1 hret herr; refine wpAny_call ?_; k_dflt (refine' code_def (binds := [("source", .ref sl), ("particle", .ref pa), ("spaced", .bool b)]) ?k1 ?k2 ?k3 ?k4 ?k5 ?kA ?kF ?kK ?k6 ?k7 ?k8 ?k9 ?kB ?_ ?c2 ?c3 ?c4 ?c5; (case kA => exact rfl); (case kF => exact rfl); (case kK => assumption); (case k1 => k_asm); (case k2 => k_asm); (case k3 => k_asm); (case k4 => k_asm); (case k5 => k_asm); (case k6 => k_is); (case k7 => k_is); (case k8 => first | exact room0 (by assumption) | exact room1 (by assumption) rfl | exact room2 (by assumption) rfl | exact room3 (by assumption) rfl | exact roomA (by assumption) rfl | exact roomS (by assumption) rfl | exact roomM (by assumption) rfl | exact roomB (by assumption) rfl); (case k9 => exact BindsTo.of_eq rfl); (case c5 => decide); (case kB => exact locs rfl); (case c2 => exact rfl); (case c3 => exact rfl); (case c4 => exact rfl); k_whole); intro g' L' hp FG' F' N' B' X' T'; (try dsimp only [List.reverse_cons, List.reverse_nil, List.nil_append, List.cons_append, List.length_cons, List.length_nil, Nat.zero_add] at F' ⊢); k_fold; refine fold_env ?_; intro e₁ A₁
      repeat' (first | ((with_reducible show wpAny _ _ (exec _ _) _ _ _); k_fold) | ((fail_if_success (with_reducible refine stop_of Stop4 (by constructor) ?_)); (fail_if_success (with_reducible refine stop_of Stop1 (by constructor) ?_)); first | (k_unfold; (try dsimp only)) | (k_end; wrow_close) | walk1 | (dsimp only; walk1) | (leave1; try dsimp only)) | walk_at "mine item" | fail)
      exact hret _ _ _ _ (by assumption) (by assumption) Kp.refl ⟨⟨nm ++ mk, _, rfl, by rw [app_cps]; exact .name f1 f2, by rw [← len_cps, app_cps]; exact len_nm f1 f2 _⟩, S⟩
  | succ k ih =>
    intro hk3 v D news hD hT S
    cases hD with
    | name f1 f2 =>
      rename_i nm mk
      refine fold_goal ?_; intro G9 k9; obtain ⟨pa, t1, t2, t3, n1, rfl, g1⟩ := tinN hT; refine k9 ?_; clear k9 G9
      have l10 := names5_len _ f1
      have l11 := marks4_len _ f2
      intro mean mg mb dp un gd cn cs a ccd cl outer A₀ base h₀ L m s Q E B F X N Tp hk hd1 hu1 hret herr; refine wpAny_call ?_; k_dflt (refine' code_def (binds := [("source", .ref sl), ("particle", .ref pa), ("spaced", .bool b)]) ?k1 ?k2 ?k3 ?k4 ?k5 ?kA ?kF ?kK ?k6 ?k7 ?k8 ?k9 ?kB ?_ ?c2 ?c3 ?c4 ?c5; (case kA => exact rfl); (case kF => exact rfl); (case kK => assumption); (case k1 => k_asm); (case k2 => k_asm); (case k3 => k_asm); (case k4 => k_asm); (case k5 => k_asm); (case k6 => k_is); (case k7 => k_is); (case k8 => first | exact room0 (by assumption) | exact room1 (by assumption) rfl | exact room2 (by assumption) rfl | exact room3 (by assumption) rfl | exact roomA (by assumption) rfl | exact roomS (by assumption) rfl | exact roomM (by assumption) rfl | exact roomB (by assumption) rfl); (case k9 => exact BindsTo.of_eq rfl); (case c5 => decide); (case kB => exact locs rfl); (case c2 => exact rfl); (case c3 => exact rfl); (case c4 => exact rfl); k_whole); intro g' L' hp FG' F' N' B' X' T'; (try dsimp only [List.reverse_cons, List.reverse_nil, List.nil_append, List.cons_append, List.length_cons, List.length_nil, Nat.zero_add] at F' ⊢); k_fold; refine fold_env ?_; intro e₁ A₁
      repeat' (first | ((with_reducible show wpAny _ _ (exec _ _) _ _ _); k_fold) | ((fail_if_success (with_reducible refine stop_of Stop4 (by constructor) ?_)); (fail_if_success (with_reducible refine stop_of Stop1 (by constructor) ?_)); first | (k_unfold; (try dsimp only)) | (k_end; wrow_close) | walk1 | (dsimp only; walk1) | (leave1; try dsimp only)) | walk_at "mine item" | fail)
      exact hret _ _ _ _ (by assumption) (by assumption) Kp.refl ⟨⟨nm ++ mk, _, rfl, by rw [app_cps]; exact .name f1 f2, by rw [← len_cps, app_cps]; exact len_nm f1 f2 _⟩, S⟩
    | grp f1 f2 f3 f4 =>
      rename_i kd mk ds
      refine fold_goal ?_; intro G9 k9; obtain ⟨pa, tl, t1, t2, k3, n1, vs3, rfl, g1, g2, g3⟩ := tin3 hT; refine k9 ?_; clear k9 G9
      have hkn : (kd == Str.ofString "name") = false := by rcases f1 with ⟨rfl, _⟩ | ⟨rfl, _⟩ <;> decide +kernel
      have hl := g3.len
      have g2' : ∀ o, (tl, tupK vs3 k3) ∈ o :: news := fun o => .tail _ g2
      have hlb := lb3 (Nat.le_of_succ_le hk3)
      have l11 := marks4_len _ f3
      intro mean mg mb dp un gd cn cs a ccd cl outer A₀ base h₀ L m s Q E B F X N Tp hk hd1 hu1 hret herr; refine wpAny_call ?_; k_dflt (refine' code_def (binds := [("source", .ref sl), ("particle", .ref pa), ("spaced", .bool b)]) ?k1 ?k2 ?k3 ?k4 ?k5 ?kA ?kF ?kK ?k6 ?k7 ?k8 ?k9 ?kB ?_ ?c2 ?c3 ?c4 ?c5; (case kA => exact rfl); (case kF => exact rfl); (case kK => assumption); (case k1 => k_asm); (case k2 => k_asm); (case k3 => k_asm); (case k4 => k_asm); (case k5 => k_asm); (case k6 => k_is); (case k7 => k_is); (case k8 => first | exact room0 (by assumption) | exact room1 (by assumption) rfl | exact room2 (by assumption) rfl | exact room3 (by assumption) rfl | exact roomA (by assumption) rfl | exact roomS (by assumption) rfl | exact roomM (by assumption) rfl | exact roomB (by assumption) rfl); (case k9 => exact BindsTo.of_eq rfl); (case c5 => decide); (case kB => exact locs rfl); (case c2 => exact rfl); (case c3 => exact rfl); (case c4 => exact rfl); k_whole); intro g' L' hp FG' F' N' B' X' T'; (try dsimp only [List.reverse_cons, List.reverse_nil, List.nil_append, List.cons_append, List.length_cons, List.length_nil, Nat.zero_add] at F' ⊢); k_fold; refine fold_env ?_; intro e₁ A₁
      repeat' (first | ((with_reducible show wpAny _ _ (exec _ _) _ _ _); k_fold) | ((fail_if_success (with_reducible refine stop_of Stop4 (by constructor) ?_)); (fail_if_success (with_reducible refine stop_of Stop1 (by constructor) ?_)); first | (k_unfold; (try dsimp only)) | (k_end; wrow_close) | walk1 | (dsimp only; walk1) | (leave1; try dsimp only)) | walk_at "mine item" | fail)
      all_goals
        refine For_invV (h₀ := g') rfl rfl ?_
        repeat' (first | ((with_reducible show wpAny _ _ (exec _ _) _ _ _); k_fold) | ((fail_if_success (with_reducible refine stop_of Stop4 (by constructor) ?_)); (fail_if_success (with_reducible refine stop_of Stop1 (by constructor) ?_)); first | (k_unfold; (try dsimp only)) | (k_end; wrow_close) | walk1 | (dsimp only; walk1) | (leave1; try dsimp only)) | walk_at "mine item" | fail)
      · have hsg : sgOf kd = 124 := by
          have a : (kd == Str.ofString "choice") = true := by assumption
          unfold sgOf; rw [if_pos (by simpa using a)]
        refine len_tuple (News.isTup (by assumption) (g2' _)) (by rw [List.size_toArray]; (first | lia | omega)) ?_
        repeat' (first | ((with_reducible show wpAny _ _ (exec _ _) _ _ _); k_fold) | ((fail_if_success (with_reducible refine stop_of Stop4 (by constructor) ?_)); (fail_if_success (with_reducible refine stop_of Stop1 (by constructor) ?_)); first | (k_unfold; (try dsimp only)) | (k_end; wrow_close) | walk1 | (dsimp only; walk1) | (leave1; try dsimp only)) | walk_at "mine item" | fail)
        rename News _ _ _ (_ :: news) => N8
        refine iter_range2 (n := ds.length) (Str.ofString "found") (fun i v nx => ∃ X tk' u, v = .str X tk' ∧ X.cps.toList = 40 :: u ∧ X.length ≤ 1 + i * (lb k + 5) ∧ WrL b (sgOf kd) true (ds.take i) u ∧ Src sl nx ∧ Kp [sl] news nx) rfl (by assumption) (by rw [List.size_toArray, hl]; exact (small3 f2).1) (by rw [List.size_toArray, hl]; exact (small3 f2).2) (by assumption) N8 (by decide +kernel) rfl ⟨_, _, [], rfl, by decide +kernel, Nat.le_trans (by decide +kernel : _ ≤ 1) (Nat.le_add_right 1 _), .nil, S.cons _, Kp.sub fun p hp => .tail _ hp⟩ (by intro I hI i v n n' k J9; obtain ⟨X, t, u, x1, x2, x3, x4, x5, x6⟩ := J9; exact ⟨X, t, u, x1, x2, x3, x4, x5.kpi k, k.kp (fun p hp => hI p (.tail _ hp)) x6⟩) ?_ ?_
        · intro i t v nx own h tk9 hi J9 hown F9 N9; refine fold_goal ?_; intro G9 k9; obtain ⟨X, tk', u, x1, x2, x3, x4, x5, x6⟩ := J9; refine k9 ?_; clear k9 G9
          subst x1
          rw [Int.zero_add, Int.mul_one] at F9
          have hX : X.length ≤ 1200 := by
            have : i * (lb k + 5) ≤ 2 * (lb k + 5) := Nat.mul_le_mul_right _ (by (first | lia | omega))
            (first | lia | omega)
          have y1 := x6.imm _ g1 rfl
          have y2 := x6.imm _ g2 rfl
          have y3 := g3.imm x6.imm
          repeat' (first | ((with_reducible show wpAny _ _ (exec _ _) _ _ _); k_fold) | ((fail_if_success (with_reducible refine stop_of Stop4 (by constructor) ?_)); (fail_if_success (with_reducible refine stop_of Stop1 (by constructor) ?_)); first | (k_unfold; (try dsimp only)) | (k_end; wrow_close) | walk1 | (dsimp only; walk1) | (leave1; try dsimp only)) | walk_at "mine item" | fail)
          have hMu := mul_first (S := Str.ofString "|") (c := sgOf kd) (by decide +kernel) (by rw [hsg]; decide +kernel) i
          generalize Txt.mul (Str.ofString "|") (if decide (0 < (i : Int)) = true then 1 else 0) = Mu at *
          have hMl : Mu.length ≤ 1 := by rw [← len_cps, hMu]; split <;> simp
          repeat' (first | ((with_reducible show wpAny _ _ (exec _ _) _ _ _); k_fold) | ((fail_if_success (with_reducible refine stop_of Stop4 (by constructor) ?_)); (fail_if_success (with_reducible refine stop_of Stop1 (by constructor) ?_)); first | (k_unfold; (try dsimp only)) | (k_end; wrow_close) | walk1 | (dsimp only; walk1) | (leave1; try dsimp only)) | walk_at "mine item" | fail)
          (k_dflt (refine' con_use ?kNz67 (law_space x5) ?kBz67 ?kFz67 ?kXz67 ?kTz67 ?kKz67 ?kDz67 ?kUz67 ?kOkz67 ?kErrz67; (case kNz67 => k_asm); (case kBz67 => k_asm); (case kFz67 => k_asm); (case kXz67 => k_asm); (case kTz67 => k_asm); (case kKz67 => first | exact rfl | assumption); (case kDz67 => first | exact room0 (by assumption) | exact room1 (by assumption) rfl | exact room2 (by assumption) rfl | exact room3 (by assumption) rfl | exact roomA (by assumption) rfl | exact roomS (by assumption) rfl | exact roomM (by assumption) rfl | exact roomB (by assumption) rfl); (case kUz67 => first | exact room0 (by assumption) | exact room1 (by assumption) rfl | exact room2 (by assumption) rfl | exact room3 (by assumption) rfl | exact roomA (by assumption) rfl | exact roomS (by assumption) rfl | exact roomM (by assumption) rfl | exact roomB (by assumption) rfl)))
          case kErrz67 => intro hf; exact hf.elim
          intro r1 news1 hh1 tk1 F1 N1 K1 P1
          refine el_abABS P1 ?_
          intro s1 t1' hQ9 o1 o2 S1
          subst hQ9
          have y4 := K1.imm _ y1 rfl
          have y5 := K1.imm _ y2 rfl
          have y6 := y3.imm K1.imm
          obtain ⟨pv, e1, e2⟩ := y6.get i hi
          repeat' (first | ((with_reducible show wpAny _ _ (exec _ _) _ _ _); k_fold) | ((fail_if_success (with_reducible refine stop_of Stop4 (by constructor) ?_)); (fail_if_success (with_reducible refine stop_of Stop1 (by constructor) ?_)); first | (k_unfold; (try dsimp only)) | (k_end; wrow_close) | walk1 | (dsimp only; walk1) | (leave1; try dsimp only)) | walk_at "mine item" | fail)
          walk_at "last subscriptTail"
          refine item_tupleL (News.isTup (by assumption) y5) (by (first | lia | omega)) (by (first | lia | omega)) (idx_pos (by (first | lia | omega)) (by (first | lia | omega))) (by rw [Int.toNat_natCast]; exact e1) ?_
          repeat' (first | ((with_reducible show wpAny _ _ (exec _ _) _ _ _); k_fold) | ((fail_if_success (with_reducible refine stop_of Stop4 (by constructor) ?_)); (fail_if_success (with_reducible refine stop_of Stop1 (by constructor) ?_)); first | (k_unfold; (try dsimp only)) | (k_end; wrow_close) | walk1 | (dsimp only; walk1) | (leave1; try dsimp only)) | walk_at "mine item" | fail)
          (k_dflt (refine' con_use ?kNz68 (ih (Nat.le_of_succ_le hk3) (f4 _ (List.getElem_mem hi)) e2 S1) ?kBz68 ?kFz68 ?kXz68 ?kTz68 ?kKz68 ?kDz68 ?kUz68 ?kOkz68 ?kErrz68; (case kNz68 => k_asm); (case kBz68 => k_asm); (case kFz68 => k_asm); (case kXz68 => k_asm); (case kTz68 => k_asm); (case kKz68 => first | exact rfl | assumption); (case kDz68 => first | exact room0 (by assumption) | exact room1 (by assumption) rfl | exact room2 (by assumption) rfl | exact room3 (by assumption) rfl | exact roomA (by assumption) rfl | exact roomS (by assumption) rfl | exact roomM (by assumption) rfl | exact roomB (by assumption) rfl); (case kUz68 => first | exact room0 (by assumption) | exact room1 (by assumption) rfl | exact room2 (by assumption) rfl | exact room3 (by assumption) rfl | exact roomA (by assumption) rfl | exact roomS (by assumption) rfl | exact roomM (by assumption) rfl | exact roomB (by assumption) rfl)))
          case kErrz68 => intro hf; exact hf.elim
          intro r2 news2 hh2 tk2 F2 N2 K2 P2
          refine el_abABS P2 ?_
          intro T t2' hQ9 o3 o4 S2
          subst hQ9
          repeat' (first | ((with_reducible show wpAny _ _ (exec _ _) _ _ _); k_fold) | ((fail_if_success (with_reducible refine stop_of Stop4 (by constructor) ?_)); (fail_if_success (with_reducible refine stop_of Stop1 (by constructor) ?_)); first | (k_unfold; (try dsimp only)) | (k_end; wrow_close) | walk1 | (dsimp only; walk1) | (leave1; try dsimp only)) | walk_at "mine item" | fail)
          (k_dflt (refine' con_use ?kNz69 (law_space S2) ?kBz69 ?kFz69 ?kXz69 ?kTz69 ?kKz69 ?kDz69 ?kUz69 ?kOkz69 ?kErrz69; (case kNz69 => k_asm); (case kBz69 => k_asm); (case kFz69 => k_asm); (case kXz69 => k_asm); (case kTz69 => k_asm); (case kKz69 => first | exact rfl | assumption); (case kDz69 => first | exact room0 (by assumption) | exact room1 (by assumption) rfl | exact room2 (by assumption) rfl | exact room3 (by assumption) rfl | exact roomA (by assumption) rfl | exact roomS (by assumption) rfl | exact roomM (by assumption) rfl | exact roomB (by assumption) rfl); (case kUz69 => first | exact room0 (by assumption) | exact room1 (by assumption) rfl | exact room2 (by assumption) rfl | exact room3 (by assumption) rfl | exact roomA (by assumption) rfl | exact roomS (by assumption) rfl | exact roomM (by assumption) rfl | exact roomB (by assumption) rfl)))
          case kErrz69 => intro hf; exact hf.elim
          intro r3 news3 hh3 tk3 F3 N3 K3 P3
          refine el_abABS P3 ?_
          intro s2 t3' hQ9 o5 o6 S3
          subst hQ9
          repeat' (first | ((with_reducible show wpAny _ _ (exec _ _) _ _ _); k_fold) | ((fail_if_success (with_reducible refine stop_of Stop4 (by constructor) ?_)); (fail_if_success (with_reducible refine stop_of Stop1 (by constructor) ?_)); first | (k_unfold; (try dsimp only)) | (k_end; wrow_close) | walk1 | (dsimp only; walk1) | (leave1; try dsimp only)) | walk_at "mine item" | fail)
          have kk := (K1.trans K2).trans K3
          refine FStep.next (by assumption) (by assumption) (own_keep N9 hown kk x5.own) ⟨fun z z1 z2 => by simp only [if_neg z1, if_neg z2], _, if_pos rfl, X ++ Mu ++ s1 ++ T ++ s2, _, _, rfl, ?_, ?_, by rw [take_snoc _ _ hi]; exact WrL.snoc o1 o5 o3 x4, S3, x6.trans kk⟩
          · have e9 : (ds.take i).length = i := by rw [List.length_take]; (first | lia | omega)
            simp only [app_cps, x2, hMu, e9, true_and, List.cons_append, List.append_assoc]
          · rw [Nat.succ_mul]; (first | lia | omega)
        · intro mx v nx h tk9 J9 F9 N9; refine fold_goal ?_; intro G9 k9; obtain ⟨X, tk', u, x1, x2, x3, x4, x5, x6⟩ := J9; refine k9 ?_; clear k9 G9
          subst x1
          rw [List.take_length] at x4
          have hX : X.length ≤ 1200 := by
            have : ds.length * (lb k + 5) ≤ 3 * (lb k + 5) := Nat.mul_le_mul_right _ (by (first | lia | omega))
            (first | lia | omega)
          have y1 := x6.imm _ g1 rfl
          have y2 := x6.imm _ g2 rfl
          repeat' (first | ((with_reducible show wpAny _ _ (exec _ _) _ _ _); k_fold) | ((fail_if_success (with_reducible refine stop_of Stop4 (by constructor) ?_)); (fail_if_success (with_reducible refine stop_of Stop1 (by constructor) ?_)); first | (k_unfold; (try dsimp only)) | (k_end; wrow_close) | walk1 | (dsimp only; walk1) | (leave1; try dsimp only)) | walk_at "mine item" | fail)
          have lmk : mk.length ≤ 1 := (by decide +kernel : ∀ nm ∈ marks4, nm.length ≤ 1) _ f3
          have lc : (Str.ofString ")").length = 1 := by decide +kernel
          have le9 : ds.length * (lb k + 5) ≤ 3 * (lb k + 5) := Nat.mul_le_mul_right _ f2
          refine hret _ _ _ _ (by assumption) (by assumption) x6 ⟨⟨_, _, rfl, ?_, ?_⟩, x5⟩
          · rw [app_cps, app_cps, x2, show (Str.ofString ")").cps.toList = [41] by decide +kernel]
            have := Wr.grp f1 f2 f3 x4
            simpa using this
          · simp only [lb]; (first | lia | omega)

      · have hsg : sgOf kd = 44 := by
          have a : (kd == Str.ofString "choice") = false := by assumption
          unfold sgOf; rw [if_neg (by simpa using a)]
        refine len_tuple (News.isTup (by assumption) (g2' _)) (by rw [List.size_toArray]; (first | lia | omega)) ?_
        repeat' (first | ((with_reducible show wpAny _ _ (exec _ _) _ _ _); k_fold) | ((fail_if_success (with_reducible refine stop_of Stop4 (by constructor) ?_)); (fail_if_success (with_reducible refine stop_of Stop1 (by constructor) ?_)); first | (k_unfold; (try dsimp only)) | (k_end; wrow_close) | walk1 | (dsimp only; walk1) | (leave1; try dsimp only)) | walk_at "mine item" | fail)
        rename News _ _ _ (_ :: news) => N8
        refine iter_range2 (n := ds.length) (Str.ofString "found") (fun i v nx => ∃ X tk' u, v = .str X tk' ∧ X.cps.toList = 40 :: u ∧ X.length ≤ 1 + i * (lb k + 5) ∧ WrL b (sgOf kd) true (ds.take i) u ∧ Src sl nx ∧ Kp [sl] news nx) rfl (by assumption) (by rw [List.size_toArray, hl]; exact (small3 f2).1) (by rw [List.size_toArray, hl]; exact (small3 f2).2) (by assumption) N8 (by decide +kernel) rfl ⟨_, _, [], rfl, by decide +kernel, Nat.le_trans (by decide +kernel : _ ≤ 1) (Nat.le_add_right 1 _), .nil, S.cons _, Kp.sub fun p hp => .tail _ hp⟩ (by intro I hI i v n n' k J9; obtain ⟨X, t, u, x1, x2, x3, x4, x5, x6⟩ := J9; exact ⟨X, t, u, x1, x2, x3, x4, x5.kpi k, k.kp (fun p hp => hI p (.tail _ hp)) x6⟩) ?_ ?_
        · intro i t v nx own h tk9 hi J9 hown F9 N9; refine fold_goal ?_; intro G9 k9; obtain ⟨X, tk', u, x1, x2, x3, x4, x5, x6⟩ := J9; refine k9 ?_; clear k9 G9
          subst x1
          rw [Int.zero_add, Int.mul_one] at F9
          have hX : X.length ≤ 1200 := by
            have : i * (lb k + 5) ≤ 2 * (lb k + 5) := Nat.mul_le_mul_right _ (by (first | lia | omega))
            (first | lia | omega)
          have y1 := x6.imm _ g1 rfl
          have y2 := x6.imm _ g2 rfl
          have y3 := g3.imm x6.imm
          repeat' (first | ((with_reducible show wpAny _ _ (exec _ _) _ _ _); k_fold) | ((fail_if_success (with_reducible refine stop_of Stop4 (by constructor) ?_)); (fail_if_success (with_reducible refine stop_of Stop1 (by constructor) ?_)); first | (k_unfold; (try dsimp only)) | (k_end; wrow_close) | walk1 | (dsimp only; walk1) | (leave1; try dsimp only)) | walk_at "mine item" | fail)
          have hMu := mul_first (S := Str.ofString ",") (c := sgOf kd) (by decide +kernel) (by rw [hsg]; decide +kernel) i
          generalize Txt.mul (Str.ofString ",") (if decide (0 < (i : Int)) = true then 1 else 0) = Mu at *
          have hMl : Mu.length ≤ 1 := by rw [← len_cps, hMu]; split <;> simp
          repeat' (first | ((with_reducible show wpAny _ _ (exec _ _) _ _ _); k_fold) | ((fail_if_success (with_reducible refine stop_of Stop4 (by constructor) ?_)); (fail_if_success (with_reducible refine stop_of Stop1 (by constructor) ?_)); first | (k_unfold; (try dsimp only)) | (k_end; wrow_close) | walk1 | (dsimp only; walk1) | (leave1; try dsimp only)) | walk_at "mine item" | fail)
          (k_dflt (refine' con_use ?kNz70 (law_space x5) ?kBz70 ?kFz70 ?kXz70 ?kTz70 ?kKz70 ?kDz70 ?kUz70 ?kOkz70 ?kErrz70; (case kNz70 => k_asm); (case kBz70 => k_asm); (case kFz70 => k_asm); (case kXz70 => k_asm); (case kTz70 => k_asm); (case kKz70 => first | exact rfl | assumption); (case kDz70 => first | exact room0 (by assumption) | exact room1 (by assumption) rfl | exact room2 (by assumption) rfl | exact room3 (by assumption) rfl | exact roomA (by assumption) rfl | exact roomS (by assumption) rfl | exact roomM (by assumption) rfl | exact roomB (by assumption) rfl); (case kUz70 => first | exact room0 (by assumption) | exact room1 (by assumption) rfl | exact room2 (by assumption) rfl | exact room3 (by assumption) rfl | exact roomA (by assumption) rfl | exact roomS (by assumption) rfl | exact roomM (by assumption) rfl | exact roomB (by assumption) rfl)))
          case kErrz70 => intro hf; exact hf.elim
          intro r1 news1 hh1 tk1 F1 N1 K1 P1
          refine el_abABS P1 ?_
          intro s1 t1' hQ9 o1 o2 S1
          subst hQ9
          have y4 := K1.imm _ y1 rfl
          have y5 := K1.imm _ y2 rfl
          have y6 := y3.imm K1.imm
          obtain ⟨pv, e1, e2⟩ := y6.get i hi
          repeat' (first | ((with_reducible show wpAny _ _ (exec _ _) _ _ _); k_fold) | ((fail_if_success (with_reducible refine stop_of Stop4 (by constructor) ?_)); (fail_if_success (with_reducible refine stop_of Stop1 (by constructor) ?_)); first | (k_unfold; (try dsimp only)) | (k_end; wrow_close) | walk1 | (dsimp only; walk1) | (leave1; try dsimp only)) | walk_at "mine item" | fail)
          walk_at "last subscriptTail"
          refine item_tupleL (News.isTup (by assumption) y5) (by (first | lia | omega)) (by (first | lia | omega)) (idx_pos (by (first | lia | omega)) (by (first | lia | omega))) (by rw [Int.toNat_natCast]; exact e1) ?_
          repeat' (first | ((with_reducible show wpAny _ _ (exec _ _) _ _ _); k_fold) | ((fail_if_success (with_reducible refine stop_of Stop4 (by constructor) ?_)); (fail_if_success (with_reducible refine stop_of Stop1 (by constructor) ?_)); first | (k_unfold; (try dsimp only)) | (k_end; wrow_close) | walk1 | (dsimp only; walk1) | (leave1; try dsimp only)) | walk_at "mine item" | fail)
          (k_dflt (refine' con_use ?kNz71 (ih (Nat.le_of_succ_le hk3) (f4 _ (List.getElem_mem hi)) e2 S1) ?kBz71 ?kFz71 ?kXz71 ?kTz71 ?kKz71 ?kDz71 ?kUz71 ?kOkz71 ?kErrz71; (case kNz71 => k_asm); (case kBz71 => k_asm); (case kFz71 => k_asm); (case kXz71 => k_asm); (case kTz71 => k_asm); (case kKz71 => first | exact rfl | assumption); (case kDz71 => first | exact room0 (by assumption) | exact room1 (by assumption) rfl | exact room2 (by assumption) rfl | exact room3 (by assumption) rfl | exact roomA (by assumption) rfl | exact roomS (by assumption) rfl | exact roomM (by assumption) rfl | exact roomB (by assumption) rfl); (case kUz71 => first | exact room0 (by assumption) | exact room1 (by assumption) rfl | exact room2 (by assumption) rfl | exact room3 (by assumption) rfl | exact roomA (by assumption) rfl | exact roomS (by assumption) rfl | exact roomM (by assumption) rfl | exact roomB (by assumption) rfl)))
          case kErrz71 => intro hf; exact hf.elim
          intro r2 news2 hh2 tk2 F2 N2 K2 P2
          refine el_abABS P2 ?_
          intro T t2' hQ9 o3 o4 S2
          subst hQ9
          repeat' (first | ((with_reducible show wpAny _ _ (exec _ _) _ _ _); k_fold) | ((fail_if_success (with_reducible refine stop_of Stop4 (by constructor) ?_)); (fail_if_success (with_reducible refine stop_of Stop1 (by constructor) ?_)); first | (k_unfold; (try dsimp only)) | (k_end; wrow_close) | walk1 | (dsimp only; walk1) | (leave1; try dsimp only)) | walk_at "mine item" | fail)
          (k_dflt (refine' con_use ?kNz72 (law_space S2) ?kBz72 ?kFz72 ?kXz72 ?kTz72 ?kKz72 ?kDz72 ?kUz72 ?kOkz72 ?kErrz72; (case kNz72 => k_asm); (case kBz72 => k_asm); (case kFz72 => k_asm); (case kXz72 => k_asm); (case kTz72 => k_asm); (case kKz72 => first | exact rfl | assumption); (case kDz72 => first | exact room0 (by assumption) | exact room1 (by assumption) rfl | exact room2 (by assumption) rfl | exact room3 (by assumption) rfl | exact roomA (by assumption) rfl | exact roomS (by assumption) rfl | exact roomM (by assumption) rfl | exact roomB (by assumption) rfl); (case kUz72 => first | exact room0 (by assumption) | exact room1 (by assumption) rfl | exact room2 (by assumption) rfl | exact room3 (by assumption) rfl | exact roomA (by assumption) rfl | exact roomS (by assumption) rfl | exact roomM (by assumption) rfl | exact roomB (by assumption) rfl)))
          case kErrz72 => intro hf; exact hf.elim
          intro r3 news3 hh3 tk3 F3 N3 K3 P3
          refine el_abABS P3 ?_
          intro s2 t3' hQ9 o5 o6 S3
          subst hQ9
          repeat' (first | ((with_reducible show wpAny _ _ (exec _ _) _ _ _); k_fold) | ((fail_if_success (with_reducible refine stop_of Stop4 (by constructor) ?_)); (fail_if_success (with_reducible refine stop_of Stop1 (by constructor) ?_)); first | (k_unfold; (try dsimp only)) | (k_end; wrow_close) | walk1 | (dsimp only; walk1) | (leave1; try dsimp only)) | walk_at "mine item" | fail)
          have kk := (K1.trans K2).trans K3
          refine FStep.next (by assumption) (by assumption) (own_keep N9 hown kk x5.own) ⟨fun z z1 z2 => by simp only [if_neg z1, if_neg z2], _, if_pos rfl, X ++ Mu ++ s1 ++ T ++ s2, _, _, rfl, ?_, ?_, by rw [take_snoc _ _ hi]; exact WrL.snoc o1 o5 o3 x4, S3, x6.trans kk⟩
          · have e9 : (ds.take i).length = i := by rw [List.length_take]; (first | lia | omega)
            simp only [app_cps, x2, hMu, e9, true_and, List.cons_append, List.append_assoc]
          · rw [Nat.succ_mul]; (first | lia | omega)
        · intro mx v nx h tk9 J9 F9 N9; refine fold_goal ?_; intro G9 k9; obtain ⟨X, tk', u, x1, x2, x3, x4, x5, x6⟩ := J9; refine k9 ?_; clear k9 G9
          subst x1
          rw [List.take_length] at x4
          have hX : X.length ≤ 1200 := by
            have : ds.length * (lb k + 5) ≤ 3 * (lb k + 5) := Nat.mul_le_mul_right _ (by (first | lia | omega))
            (first | lia | omega)
          have y1 := x6.imm _ g1 rfl
          have y2 := x6.imm _ g2 rfl
          repeat' (first | ((with_reducible show wpAny _ _ (exec _ _) _ _ _); k_fold) | ((fail_if_success (with_reducible refine stop_of Stop4 (by constructor) ?_)); (fail_if_success (with_reducible refine stop_of Stop1 (by constructor) ?_)); first | (k_unfold; (try dsimp only)) | (k_end; wrow_close) | walk1 | (dsimp only; walk1) | (leave1; try dsimp only)) | walk_at "mine item" | fail)
          have lmk : mk.length ≤ 1 := (by decide +kernel : ∀ nm ∈ marks4, nm.length ≤ 1) _ f3
          have lc : (Str.ofString ")").length = 1 := by decide +kernel
          have le9 : ds.length * (lb k + 5) ≤ 3 * (lb k + 5) := Nat.mul_le_mul_right _ f2
          refine hret _ _ _ _ (by assumption) (by assumption) x6 ⟨⟨_, _, rfl, ?_, ?_⟩, x5⟩
          · rw [app_cps, app_cps, x2, show (Str.ofString ")").cps.toList = [41] by decide +kernel]
            have := Wr.grp f1 f2 f3 x4
            simpa using this
          · simp only [lb]; (first | lia | omega)

theorem mixes_in {ns : List Str} (h : ns ∈ mixes) : ns.length ≤ 3 ∧ ns.Nodup ∧ ∀ x ∈ ns, x ∈ names5 := by
  simp only [mixes, List.mem_cons, List.not_mem_nil, or_false] at h
  rcases h with rfl | rfl | rfl | rfl
  · decide +kernel
  · decide +kernel
  · decide +kernel
  · decide +kernel
theorem ne_nilT {prog : Program} {w : World} {A : Around} {E : Value → Shared → Prop} {s : Shared} {h₀ : Heap} {L a b : Addr} {news : Led} {vs : List Value} {n k : Nat} {Q : Value → Shared → Prop} (N : News h₀ L s.heap news) (ha : (a, tupK vs n) ∈ news) (hb : (b, tupK [] k) ∈ news) (hu : A.units < cLine) (h : Q (.bool (!vs.isEmpty)) s) :
    wpAny (model prog w) A (compareOp .NotEq (.ref a) (.ref b)) Q E s := by
  have hl := News.isTup N ha
  have hk := News.isTup N hb
  have e : (!((List.range (min vs.toArray.size ([] : List Value).toArray.size)).all (fun _ => true) && vs.toArray.size == ([] : List Value).toArray.size)) = !vs.isEmpty := by
    cases vs <;> simp
  exact PySem.SeqAt.RcNeAt.tuples (e := fun _ => true) hl hk hu (fun j h1 h2 => absurd h2 (Nat.not_lt_zero j)) prog w E Q (by rw [e]; exact h)
theorem tall_str {news : Led} {vs : List Value} {ns : List Str} (h : TAll news vs (ns.map Dat.str)) (i : Nat) (hi : i < ns.length) : ∃ t, vs[i]? = some (.str ns[i] t) := by
  obtain ⟨v, e1, e2⟩ := h.get i (by rw [List.length_map]; exact hi)
  rw [List.getElem_map] at e2
  cases e2
  exact ⟨_, e1⟩
theorem fin_cps {X s2 st : Str} {u : List Nat} (h : X.cps.toList = u) : (X ++ s2 ++ Str.ofString ")" ++ st).cps.toList = u ++ (s2.cps.toList ++ 41 :: st.cps.toList) := by
  rw [app_cps, app_cps, app_cps, h, show (Str.ofString ")").cps.toList = [41] by decide +kernel]
  simp
theorem fin_tx {b : Bool} {X s2 st : Str} {s1 u st' : List Nat} {ns : List Str} (h : X.cps.toList = 40 :: (s1 ++ (eP ++ u))) (h1 : spOk b s1) (h2 : MixT b ns u) (h3 : spOk b s2.cps.toList) (hs : st.cps.toList = st') (h4 : st' = [42] ∨ st' = [] ∧ ns = []) (h5 : b = false → ns = [] → st' = []) (h6 : ns.Nodup) : Tx b (Dat.tuple [Dat.str (Str.ofString "mixed"), Dat.tuple (ns.map Dat.str)]) (X ++ s2 ++ Str.ofString ")" ++ st).cps.toList := by
  rw [fin_cps h, hs]
  have := Tx.mixed h1 h2 h3 h4 h5 h6
  simpa using this
theorem law_text {w : World} {sl : Addr} {b : Bool} {v : Value} {D : Dat} {news : Led} (hD : Mo D) (hT : TIn news v D) (S : Src sl news) : Con w 392 [.ref sl, v, .bool b] 250 1800 news [sl] (fun v n' => (∃ X tk, v = .str X tk ∧ Tx b D X.cps.toList ∧ X.length ≤ 400) ∧ Src sl n') False := by
  cases hD with
  | empty =>
    cases hT with
    | tup hm hr =>
      rename_i pa vs n1
      cases hr with
      | cons h1 h2 =>
        cases h1; cases h2
        intro mean mg mb dp un gd cn cs a ccd cl outer A₀ base h₀ L m s Q E B F X N Tp hk hd1 hu1 hret herr; refine wpAny_call ?_; k_dflt (refine' code_def (binds := [("source", .ref sl), ("model", .ref pa), ("spaced", .bool b)]) ?k1 ?k2 ?k3 ?k4 ?k5 ?kA ?kF ?kK ?k6 ?k7 ?k8 ?k9 ?kB ?_ ?c2 ?c3 ?c4 ?c5; (case kA => exact rfl); (case kF => exact rfl); (case kK => assumption); (case k1 => k_asm); (case k2 => k_asm); (case k3 => k_asm); (case k4 => k_asm); (case k5 => k_asm); (case k6 => k_is); (case k7 => k_is); (case k8 => first | exact room0 (by assumption) | exact room1 (by assumption) rfl | exact room2 (by assumption) rfl | exact room3 (by assumption) rfl | exact roomA (by assumption) rfl | exact roomS (by assumption) rfl | exact roomM (by assumption) rfl | exact roomB (by assumption) rfl); (case k9 => exact BindsTo.of_eq rfl); (case c5 => decide); (case kB => exact locs rfl); (case c2 => exact rfl); (case c3 => exact rfl); (case c4 => exact rfl); k_whole); intro g' L' hp FG' F' N' B' X' T'; (try dsimp only [List.reverse_cons, List.reverse_nil, List.nil_append, List.cons_append, List.length_cons, List.length_nil, Nat.zero_add] at F' ⊢); k_fold; refine fold_env ?_; intro e₁ A₁
        repeat' (first | ((with_reducible show wpAny _ _ (exec _ _) _ _ _); k_fold) | ((fail_if_success (with_reducible refine stop_of Stop4 (by constructor) ?_)); (fail_if_success (with_reducible refine stop_of Stop1 (by constructor) ?_)); first | (k_unfold; (try dsimp only)) | (k_end; wrow_close) | walk1 | (dsimp only; walk1) | (leave1; try dsimp only)) | walk_at "mine item" | fail)
        exact hret _ _ _ _ (by assumption) (by assumption) (Kp.cons Kp.refl) ⟨⟨_, _, rfl, by rw [show (Str.ofString "EMPTY").cps.toList = eE by decide +kernel]; exact .empty, by decide +kernel⟩, S.cons _⟩
  | any =>
    cases hT with
    | tup hm hr =>
      rename_i pa vs n1
      cases hr with
      | cons h1 h2 =>
        cases h1; cases h2
        intro mean mg mb dp un gd cn cs a ccd cl outer A₀ base h₀ L m s Q E B F X N Tp hk hd1 hu1 hret herr; refine wpAny_call ?_; k_dflt (refine' code_def (binds := [("source", .ref sl), ("model", .ref pa), ("spaced", .bool b)]) ?k1 ?k2 ?k3 ?k4 ?k5 ?kA ?kF ?kK ?k6 ?k7 ?k8 ?k9 ?kB ?_ ?c2 ?c3 ?c4 ?c5; (case kA => exact rfl); (case kF => exact rfl); (case kK => assumption); (case k1 => k_asm); (case k2 => k_asm); (case k3 => k_asm); (case k4 => k_asm); (case k5 => k_asm); (case k6 => k_is); (case k7 => k_is); (case k8 => first | exact room0 (by assumption) | exact room1 (by assumption) rfl | exact room2 (by assumption) rfl | exact room3 (by assumption) rfl | exact roomA (by assumption) rfl | exact roomS (by assumption) rfl | exact roomM (by assumption) rfl | exact roomB (by assumption) rfl); (case k9 => exact BindsTo.of_eq rfl); (case c5 => decide); (case kB => exact locs rfl); (case c2 => exact rfl); (case c3 => exact rfl); (case c4 => exact rfl); k_whole); intro g' L' hp FG' F' N' B' X' T'; (try dsimp only [List.reverse_cons, List.reverse_nil, List.nil_append, List.cons_append, List.length_cons, List.length_nil, Nat.zero_add] at F' ⊢); k_fold; refine fold_env ?_; intro e₁ A₁
        repeat' (first | ((with_reducible show wpAny _ _ (exec _ _) _ _ _); k_fold) | ((fail_if_success (with_reducible refine stop_of Stop4 (by constructor) ?_)); (fail_if_success (with_reducible refine stop_of Stop1 (by constructor) ?_)); first | (k_unfold; (try dsimp only)) | (k_end; wrow_close) | walk1 | (dsimp only; walk1) | (leave1; try dsimp only)) | walk_at "mine item" | fail)
        exact hret _ _ _ _ (by assumption) (by assumption) (Kp.cons Kp.refl) ⟨⟨_, _, rfl, by rw [show (Str.ofString "ANY").cps.toList = eA by decide +kernel]; exact .any, by decide +kernel⟩, S.cons _⟩
  | kids hP =>
    rename_i kd mk ds
    cases hT with
    | tup hm hr =>
      rename_i pa vs n1
      cases hr with
      | cons h1 hr =>
        cases hr with
        | cons h2 h3 =>
          cases h1; cases h3
          rename_i pv
          intro mean mg mb dp un gd cn cs a ccd cl outer A₀ base h₀ L m s Q E B F X N Tp hk hd1 hu1 hret herr; refine wpAny_call ?_; k_dflt (refine' code_def (binds := [("source", .ref sl), ("model", .ref pa), ("spaced", .bool b)]) ?k1 ?k2 ?k3 ?k4 ?k5 ?kA ?kF ?kK ?k6 ?k7 ?k8 ?k9 ?kB ?_ ?c2 ?c3 ?c4 ?c5; (case kA => exact rfl); (case kF => exact rfl); (case kK => assumption); (case k1 => k_asm); (case k2 => k_asm); (case k3 => k_asm); (case k4 => k_asm); (case k5 => k_asm); (case k6 => k_is); (case k7 => k_is); (case k8 => first | exact room0 (by assumption) | exact room1 (by assumption) rfl | exact room2 (by assumption) rfl | exact room3 (by assumption) rfl | exact roomA (by assumption) rfl | exact roomS (by assumption) rfl | exact roomM (by assumption) rfl | exact roomB (by assumption) rfl); (case k9 => exact BindsTo.of_eq rfl); (case c5 => decide); (case kB => exact locs rfl); (case c2 => exact rfl); (case c3 => exact rfl); (case c4 => exact rfl); k_whole); intro g' L' hp FG' F' N' B' X' T'; (try dsimp only [List.reverse_cons, List.reverse_nil, List.nil_append, List.cons_append, List.length_cons, List.length_nil, Nat.zero_add] at F' ⊢); k_fold; refine fold_env ?_; intro e₁ A₁
          repeat' (first | ((with_reducible show wpAny _ _ (exec _ _) _ _ _); k_fold) | ((fail_if_success (with_reducible refine stop_of Stop4 (by constructor) ?_)); (fail_if_success (with_reducible refine stop_of Stop1 (by constructor) ?_)); first | (k_unfold; (try dsimp only)) | (k_end; wrow_close) | walk1 | (dsimp only; walk1) | (leave1; try dsimp only)) | walk_at "mine item" | fail)
          (k_dflt (refine' con_use ?kNz73 (law_written 3 (Nat.le_refl 3) hP (h2.imm fun p hp _ => .tail _ hp) (S.cons _)) ?kBz73 ?kFz73 ?kXz73 ?kTz73 ?kKz73 ?kDz73 ?kUz73 ?kOkz73 ?kErrz73; (case kNz73 => k_asm); (case kBz73 => k_asm); (case kFz73 => k_asm); (case kXz73 => k_asm); (case kTz73 => k_asm); (case kKz73 => first | exact rfl | assumption); (case kDz73 => first | exact room0 (by assumption) | exact room1 (by assumption) rfl | exact room2 (by assumption) rfl | exact room3 (by assumption) rfl | exact roomA (by assumption) rfl | exact roomS (by assumption) rfl | exact roomM (by assumption) rfl | exact roomB (by assumption) rfl); (case kUz73 => first | exact room0 (by assumption) | exact room1 (by assumption) rfl | exact room2 (by assumption) rfl | exact room3 (by assumption) rfl | exact roomA (by assumption) rfl | exact roomS (by assumption) rfl | exact roomM (by assumption) rfl | exact roomB (by assumption) rfl)))
          case kErrz73 => intro hf; exact hf.elim
          intro r1 news1 hh1 tk1 F1 N1 K1 P1
          refine el_abABS P1 ?_
          intro X tx hQ9 e1 e2 S1
          subst hQ9
          repeat' (first | ((with_reducible show wpAny _ _ (exec _ _) _ _ _); k_fold) | ((fail_if_success (with_reducible refine stop_of Stop4 (by constructor) ?_)); (fail_if_success (with_reducible refine stop_of Stop1 (by constructor) ?_)); first | (k_unfold; (try dsimp only)) | (k_end; wrow_close) | walk1 | (dsimp only; walk1) | (leave1; try dsimp only)) | walk_at "mine item" | fail)
          exact hret _ _ _ _ (by assumption) (by assumption) ((Kp.cons Kp.refl).trans K1) ⟨⟨_, _, rfl, .kids e1, Nat.le_trans e2 (Nat.le_trans (lb3 (Nat.le_refl 3)) (by decide))⟩, S1⟩
  | mixed hN =>
    rename_i ns
    obtain ⟨i1, i2, i3⟩ := mixes_in hN
    cases hT with
    | tup hm hr =>
      rename_i pa vs n1
      cases hr with
      | cons h1 hr =>
        cases hr with
        | cons h2 h3 =>
          cases h1; cases h3
          cases h2 with
          | tup hm2 hr2 =>
          rename_i tl vs2 n2
          have hl2 := hr2.len
          rw [List.length_map] at hl2
          intro mean mg mb dp un gd cn cs a ccd cl outer A₀ base h₀ L m s Q E B F X N Tp hk hd1 hu1 hret herr; refine wpAny_call ?_; k_dflt (refine' code_def (binds := [("source", .ref sl), ("model", .ref pa), ("spaced", .bool b)]) ?k1 ?k2 ?k3 ?k4 ?k5 ?kA ?kF ?kK ?k6 ?k7 ?k8 ?k9 ?kB ?_ ?c2 ?c3 ?c4 ?c5; (case kA => exact rfl); (case kF => exact rfl); (case kK => assumption); (case k1 => k_asm); (case k2 => k_asm); (case k3 => k_asm); (case k4 => k_asm); (case k5 => k_asm); (case k6 => k_is); (case k7 => k_is); (case k8 => first | exact room0 (by assumption) | exact room1 (by assumption) rfl | exact room2 (by assumption) rfl | exact room3 (by assumption) rfl | exact roomA (by assumption) rfl | exact roomS (by assumption) rfl | exact roomM (by assumption) rfl | exact roomB (by assumption) rfl); (case k9 => exact BindsTo.of_eq rfl); (case c5 => decide); (case kB => exact locs rfl); (case c2 => exact rfl); (case c3 => exact rfl); (case c4 => exact rfl); k_whole); intro g' L' hp FG' F' N' B' X' T'; (try dsimp only [List.reverse_cons, List.reverse_nil, List.nil_append, List.cons_append, List.length_cons, List.length_nil, Nat.zero_add] at F' ⊢); k_fold; refine fold_env ?_; intro e₁ A₁
          repeat' (first | ((with_reducible show wpAny _ _ (exec _ _) _ _ _); k_fold) | ((fail_if_success (with_reducible refine stop_of Stop4 (by constructor) ?_)); (fail_if_success (with_reducible refine stop_of Stop1 (by constructor) ?_)); first | (k_unfold; (try dsimp only)) | (k_end; wrow_close) | walk1 | (dsimp only; walk1) | (leave1; try dsimp only)) | walk_at "mine item" | fail)
          (k_dflt (refine' con_use ?kNz74 (law_space (S.cons _)) ?kBz74 ?kFz74 ?kXz74 ?kTz74 ?kKz74 ?kDz74 ?kUz74 ?kOkz74 ?kErrz74; (case kNz74 => k_asm); (case kBz74 => k_asm); (case kFz74 => k_asm); (case kXz74 => k_asm); (case kTz74 => k_asm); (case kKz74 => first | exact rfl | assumption); (case kDz74 => first | exact room0 (by assumption) | exact room1 (by assumption) rfl | exact room2 (by assumption) rfl | exact room3 (by assumption) rfl | exact roomA (by assumption) rfl | exact roomS (by assumption) rfl | exact roomM (by assumption) rfl | exact roomB (by assumption) rfl); (case kUz74 => first | exact room0 (by assumption) | exact room1 (by assumption) rfl | exact room2 (by assumption) rfl | exact room3 (by assumption) rfl | exact roomA (by assumption) rfl | exact roomS (by assumption) rfl | exact roomM (by assumption) rfl | exact roomB (by assumption) rfl)))
          case kErrz74 => intro hf; exact hf.elim
          intro r1 news1 hh1 tk1 F1 N1 K1 P1
          refine el_abABS P1 ?_
          intro s1 t1' hQ9 o1 o2 S1
          subst hQ9
          have y1 := K1.imm _ (.tail _ hm) rfl
          have y2 := K1.imm _ (.tail _ hm2) rfl
          repeat' (first | ((with_reducible show wpAny _ _ (exec _ _) _ _ _); k_fold) | ((fail_if_success (with_reducible refine stop_of Stop4 (by constructor) ?_)); (fail_if_success (with_reducible refine stop_of Stop1 (by constructor) ?_)); first | (k_unfold; (try dsimp only)) | (k_end; wrow_close) | walk1 | (dsimp only; walk1) | (leave1; try dsimp only)) | walk_at "mine item" | fail)
          refine For_invV (h₀ := g') rfl rfl ?_
          repeat' (first | ((with_reducible show wpAny _ _ (exec _ _) _ _ _); k_fold) | ((fail_if_success (with_reducible refine stop_of Stop4 (by constructor) ?_)); (fail_if_success (with_reducible refine stop_of Stop1 (by constructor) ?_)); first | (k_unfold; (try dsimp only)) | (k_end; wrow_close) | walk1 | (dsimp only; walk1) | (leave1; try dsimp only)) | walk_at "mine item" | fail)
          refine iter_tup2 (vs := vs2) (Str.ofString "found") (fun i v nx => ∃ X tk' u, v = .str X tk' ∧ X.cps.toList = 40 :: (s1.cps.toList ++ (eP ++ u)) ∧ X.length ≤ 10 + i * 30 ∧ MixT b (ns.take i) u ∧ Src sl nx ∧ Kp [sl] news1 nx) rfl y2 (by assumption) (by assumption) (by decide +kernel) rfl ⟨_, _, [], rfl, ?_, ?_, .nil, S1, Kp.refl⟩ (by intro I hI i v n n' k J9; obtain ⟨X, t, u, x1, x2, x3, x4, x5, x6⟩ := J9; exact ⟨X, t, u, x1, x2, x3, x4, x5.kpi k, k.kp hI x6⟩) ?_ ?_
          · rw [app_cps, app_cps, show (Str.ofString "(").cps.toList = [40] by decide +kernel, show (Str.ofString "#PCDATA").cps.toList = eP by decide +kernel, List.append_nil, List.append_assoc]; rfl
          · rw [← len_cps, app_cps, app_cps, show (Str.ofString "(").cps.toList = [40] by decide +kernel, show (Str.ofString "#PCDATA").cps.toList = eP by decide +kernel]
            have : s1.cps.toList.length ≤ 2 := o2
            simp only [List.length_append, List.length_cons, List.length_nil, eP]; (first | lia | omega)
          · intro i u v nx own h tk9 hu J9 hown F9 N9; refine fold_goal ?_; intro G9 k9; obtain ⟨X, tk', u9, x1, x2, x3, x4, x5, x6⟩ := J9; refine k9 ?_; clear k9 G9
            subst x1
            have hi : i < ns.length := by
              rw [← hl2]
              exact (List.getElem?_eq_some_iff.mp hu).1
            obtain ⟨tt, ht⟩ := tall_str hr2 i hi
            rw [hu] at ht
            obtain rfl := Option.some.inj ht
            have hnm := i3 _ (List.getElem_mem hi)
            have l10 := names5_len _ hnm
            repeat' (first | ((with_reducible show wpAny _ _ (exec _ _) _ _ _); k_fold) | ((fail_if_success (with_reducible refine stop_of Stop4 (by constructor) ?_)); (fail_if_success (with_reducible refine stop_of Stop1 (by constructor) ?_)); first | (k_unfold; (try dsimp only)) | (k_end; wrow_close) | walk1 | (dsimp only; walk1) | (leave1; try dsimp only)) | walk_at "mine item" | fail)
            (k_dflt (refine' con_use ?kNz75 (law_space x5) ?kBz75 ?kFz75 ?kXz75 ?kTz75 ?kKz75 ?kDz75 ?kUz75 ?kOkz75 ?kErrz75; (case kNz75 => k_asm); (case kBz75 => k_asm); (case kFz75 => k_asm); (case kXz75 => k_asm); (case kTz75 => k_asm); (case kKz75 => first | exact rfl | assumption); (case kDz75 => first | exact room0 (by assumption) | exact room1 (by assumption) rfl | exact room2 (by assumption) rfl | exact room3 (by assumption) rfl | exact roomA (by assumption) rfl | exact roomS (by assumption) rfl | exact roomM (by assumption) rfl | exact roomB (by assumption) rfl); (case kUz75 => first | exact room0 (by assumption) | exact room1 (by assumption) rfl | exact room2 (by assumption) rfl | exact room3 (by assumption) rfl | exact roomA (by assumption) rfl | exact roomS (by assumption) rfl | exact roomM (by assumption) rfl | exact roomB (by assumption) rfl)))
            case kErrz75 => intro hf; exact hf.elim
            intro r2 news2 hh2 tk2 F2 N2 K2 P2
            refine el_abABS P2 ?_
            intro s2 t2' hQ9 o3 o4 S2
            subst hQ9
            repeat' (first | ((with_reducible show wpAny _ _ (exec _ _) _ _ _); k_fold) | ((fail_if_success (with_reducible refine stop_of Stop4 (by constructor) ?_)); (fail_if_success (with_reducible refine stop_of Stop1 (by constructor) ?_)); first | (k_unfold; (try dsimp only)) | (k_end; wrow_close) | walk1 | (dsimp only; walk1) | (leave1; try dsimp only)) | walk_at "mine item" | fail)
            (k_dflt (refine' con_use ?kNz76 (law_space S2) ?kBz76 ?kFz76 ?kXz76 ?kTz76 ?kKz76 ?kDz76 ?kUz76 ?kOkz76 ?kErrz76; (case kNz76 => k_asm); (case kBz76 => k_asm); (case kFz76 => k_asm); (case kXz76 => k_asm); (case kTz76 => k_asm); (case kKz76 => first | exact rfl | assumption); (case kDz76 => first | exact room0 (by assumption) | exact room1 (by assumption) rfl | exact room2 (by assumption) rfl | exact room3 (by assumption) rfl | exact roomA (by assumption) rfl | exact roomS (by assumption) rfl | exact roomM (by assumption) rfl | exact roomB (by assumption) rfl); (case kUz76 => first | exact room0 (by assumption) | exact room1 (by assumption) rfl | exact room2 (by assumption) rfl | exact room3 (by assumption) rfl | exact roomA (by assumption) rfl | exact roomS (by assumption) rfl | exact roomM (by assumption) rfl | exact roomB (by assumption) rfl)))
            case kErrz76 => intro hf; exact hf.elim
            intro r3 news3 hh3 tk3 F3 N3 K3 P3
            refine el_abABS P3 ?_
            intro s3 t3' hQ9 o5 o6 S3
            subst hQ9
            generalize hnn : ns[i] = nm at *
            repeat' (first | ((with_reducible show wpAny _ _ (exec _ _) _ _ _); k_fold) | ((fail_if_success (with_reducible refine stop_of Stop4 (by constructor) ?_)); (fail_if_success (with_reducible refine stop_of Stop1 (by constructor) ?_)); first | (k_unfold; (try dsimp only)) | (k_end; wrow_close) | walk1 | (dsimp only; walk1) | (leave1; try dsimp only)) | walk_at "mine item" | fail)
            have kk := K2.trans K3
            refine FStep.next (by assumption) (by assumption) (own_keep N9 hown kk x5.own) ⟨fun z z1 z2 => by simp only [if_neg z1, if_neg z2], _, if_pos rfl, X ++ s2 ++ Str.ofString "|" ++ s3 ++ nm, _, _, rfl, ?_, ?_, by rw [take_snoc _ _ hi, hnn]; exact MixT.snoc o3 o5 hnm x4, S3, x6.trans kk⟩
            · simp only [app_cps, x2, show (Str.ofString "|").cps.toList = [124] by decide +kernel, List.cons_append, List.append_assoc, List.nil_append]
            · have lb1 : (Str.ofString "|").length = 1 := by decide +kernel
              (first | lia | omega)
          · intro mx v nx h tk9 J9 F9 N9; refine fold_goal ?_; intro G9 k9; obtain ⟨X, tk', u9, x1, x2, x3, x4, x5, x6⟩ := J9; refine k9 ?_; clear k9 G9
            subst x1
            rw [hl2, List.take_length] at x4
            rw [hl2] at x3
            have hX : X.length ≤ 100 := by (first | lia | omega)
            have z1 := x6.imm _ y1 rfl
            have z2 := x6.imm _ y2 rfl
            have k9 : Kp [sl] news nx := ((Kp.cons Kp.refl).trans K1).trans x6
            repeat' (first | ((with_reducible show wpAny _ _ (exec _ _) _ _ _); k_fold) | ((fail_if_success (with_reducible refine stop_of Stop4 (by constructor) ?_)); (fail_if_success (with_reducible refine stop_of Stop1 (by constructor) ?_)); first | (k_unfold; (try dsimp only)) | (k_end; wrow_close) | walk1 | (dsimp only; walk1) | (leave1; try dsimp only)) | walk_at "mine item" | fail)
            refine ne_nilT (by assumption) (.tail _ z2) (.head _) (by first | exact room0 (by assumption) | exact room1 (by assumption) rfl | exact room2 (by assumption) rfl | exact room3 (by assumption) rfl | exact roomA (by assumption) rfl | exact roomS (by assumption) rfl | exact roomM (by assumption) rfl | exact roomB (by assumption) rfl) ?_
            have lc : (Str.ofString ")").length = 1 := by decide +kernel
            have lst : (Str.ofString "*").length = 1 := by decide +kernel
            have lse : (Str.ofString "").length = 0 := by decide +kernel
            have S2 := x5.cons
            by_cases hns : ns = []
            · subst hns
              obtain rfl : vs2 = [] := List.length_eq_zero_iff.mp hl2
              cases b
              · repeat' (first | ((with_reducible show wpAny _ _ (exec _ _) _ _ _); k_fold) | ((fail_if_success (with_reducible refine stop_of Stop4 (by constructor) ?_)); (fail_if_success (with_reducible refine stop_of Stop1 (by constructor) ?_)); first | (k_unfold; (try dsimp only)) | (k_end; wrow_close) | walk1 | (dsimp only; walk1) | (leave1; try dsimp only)) | walk_at "mine item" | fail)
                (k_dflt (refine' con_use ?kNz77 (law_space (S2 _)) ?kBz77 ?kFz77 ?kXz77 ?kTz77 ?kKz77 ?kDz77 ?kUz77 ?kOkz77 ?kErrz77; (case kNz77 => k_asm); (case kBz77 => k_asm); (case kFz77 => k_asm); (case kXz77 => k_asm); (case kTz77 => k_asm); (case kKz77 => first | exact rfl | assumption); (case kDz77 => first | exact room0 (by assumption) | exact room1 (by assumption) rfl | exact room2 (by assumption) rfl | exact room3 (by assumption) rfl | exact roomA (by assumption) rfl | exact roomS (by assumption) rfl | exact roomM (by assumption) rfl | exact roomB (by assumption) rfl); (case kUz77 => first | exact room0 (by assumption) | exact room1 (by assumption) rfl | exact room2 (by assumption) rfl | exact room3 (by assumption) rfl | exact roomA (by assumption) rfl | exact roomS (by assumption) rfl | exact roomM (by assumption) rfl | exact roomB (by assumption) rfl)))
                case kErrz77 => intro hf; exact hf.elim
                intro r2 news2 hh2 tk2 F2 N2 K2 P2
                refine el_abABS P2 ?_
                intro s2 t2' hQ9 o3 o4 S3
                subst hQ9
                repeat' (first | ((with_reducible show wpAny _ _ (exec _ _) _ _ _); k_fold) | ((fail_if_success (with_reducible refine stop_of Stop4 (by constructor) ?_)); (fail_if_success (with_reducible refine stop_of Stop1 (by constructor) ?_)); first | (k_unfold; (try dsimp only)) | (k_end; wrow_close) | walk1 | (dsimp only; walk1) | (leave1; try dsimp only)) | walk_at "mine item" | fail)
                exact hret _ _ _ _ (by assumption) (by assumption) (k9.cons.trans K2) ⟨⟨_, _, rfl, fin_tx x2 o1 x4 o3 (by decide +kernel) (.inr ⟨rfl, rfl⟩) (fun _ _ => rfl) i2, by (first | lia | omega)⟩, S3⟩
              · repeat' (first | ((with_reducible show wpAny _ _ (exec _ _) _ _ _); k_fold) | ((fail_if_success (with_reducible refine stop_of Stop4 (by constructor) ?_)); (fail_if_success (with_reducible refine stop_of Stop1 (by constructor) ?_)); first | (k_unfold; (try dsimp only)) | (k_end; wrow_close) | walk1 | (dsimp only; walk1) | (leave1; try dsimp only)) | walk_at "mine item" | fail)
                (k_dflt (refine' con_use ?kNz78 (law_take (top := 2) (by decide) (by decide) (S2 _)) ?kBz78 ?kFz78 ?kXz78 ?kTz78 ?kKz78 ?kDz78 ?kUz78 ?kOkz78 ?kErrz78; (case kNz78 => k_asm); (case kBz78 => k_asm); (case kFz78 => k_asm); (case kXz78 => k_asm); (case kTz78 => k_asm); (case kKz78 => first | exact rfl | assumption); (case kDz78 => first | exact room0 (by assumption) | exact room1 (by assumption) rfl | exact room2 (by assumption) rfl | exact room3 (by assumption) rfl | exact roomA (by assumption) rfl | exact roomS (by assumption) rfl | exact roomM (by assumption) rfl | exact roomB (by assumption) rfl); (case kUz78 => first | exact room0 (by assumption) | exact room1 (by assumption) rfl | exact room2 (by assumption) rfl | exact room3 (by assumption) rfl | exact roomA (by assumption) rfl | exact roomS (by assumption) rfl | exact roomM (by assumption) rfl | exact roomB (by assumption) rfl)))
                case kErrz78 => intro hf; exact hf.elim
                intro r2 news2 hh2 tk2 F2 N2 K2 P2
                refine el_abABS P2 ?_
                intro r9 t4 hQ9 b3 b4 S3
                subst hQ9
                cases hb9 : (r9 == 0)
                · repeat' (first | ((with_reducible show wpAny _ _ (exec _ _) _ _ _); k_fold) | ((fail_if_success (with_reducible refine stop_of Stop4 (by constructor) ?_)); (fail_if_success (with_reducible refine stop_of Stop1 (by constructor) ?_)); first | (k_unfold; (try dsimp only)) | (k_end; wrow_close) | walk1 | (dsimp only; walk1) | (leave1; try dsimp only)) | walk_at "mine item" | fail)
                  (k_dflt (refine' con_use ?kNz79 (law_space S3) ?kBz79 ?kFz79 ?kXz79 ?kTz79 ?kKz79 ?kDz79 ?kUz79 ?kOkz79 ?kErrz79; (case kNz79 => k_asm); (case kBz79 => k_asm); (case kFz79 => k_asm); (case kXz79 => k_asm); (case kTz79 => k_asm); (case kKz79 => first | exact rfl | assumption); (case kDz79 => first | exact room0 (by assumption) | exact room1 (by assumption) rfl | exact room2 (by assumption) rfl | exact room3 (by assumption) rfl | exact roomA (by assumption) rfl | exact roomS (by assumption) rfl | exact roomM (by assumption) rfl | exact roomB (by assumption) rfl); (case kUz79 => first | exact room0 (by assumption) | exact room1 (by assumption) rfl | exact room2 (by assumption) rfl | exact room3 (by assumption) rfl | exact roomA (by assumption) rfl | exact roomS (by assumption) rfl | exact roomM (by assumption) rfl | exact roomB (by assumption) rfl)))
                  case kErrz79 => intro hf; exact hf.elim
                  intro r3 news3 hh3 tk3 F3 N3 K3 P3
                  refine el_abABS P3 ?_
                  intro s2 t2' hQ9 o3 o4 S4
                  subst hQ9
                  repeat' (first | ((with_reducible show wpAny _ _ (exec _ _) _ _ _); k_fold) | ((fail_if_success (with_reducible refine stop_of Stop4 (by constructor) ?_)); (fail_if_success (with_reducible refine stop_of Stop1 (by constructor) ?_)); first | (k_unfold; (try dsimp only)) | (k_end; wrow_close) | walk1 | (dsimp only; walk1) | (leave1; try dsimp only)) | walk_at "mine item" | fail)
                  exact hret _ _ _ _ (by assumption) (by assumption) ((k9.cons.trans K2).trans K3) ⟨⟨_, _, rfl, fin_tx x2 o1 x4 o3 (by decide +kernel) (.inr ⟨rfl, rfl⟩) (fun _ _ => rfl) i2, by (first | lia | omega)⟩, S4⟩
                · repeat' (first | ((with_reducible show wpAny _ _ (exec _ _) _ _ _); k_fold) | ((fail_if_success (with_reducible refine stop_of Stop4 (by constructor) ?_)); (fail_if_success (with_reducible refine stop_of Stop1 (by constructor) ?_)); first | (k_unfold; (try dsimp only)) | (k_end; wrow_close) | walk1 | (dsimp only; walk1) | (leave1; try dsimp only)) | walk_at "mine item" | fail)
                  (k_dflt (refine' con_use ?kNz80 (law_space S3) ?kBz80 ?kFz80 ?kXz80 ?kTz80 ?kKz80 ?kDz80 ?kUz80 ?kOkz80 ?kErrz80; (case kNz80 => k_asm); (case kBz80 => k_asm); (case kFz80 => k_asm); (case kXz80 => k_asm); (case kTz80 => k_asm); (case kKz80 => first | exact rfl | assumption); (case kDz80 => first | exact room0 (by assumption) | exact room1 (by assumption) rfl | exact room2 (by assumption) rfl | exact room3 (by assumption) rfl | exact roomA (by assumption) rfl | exact roomS (by assumption) rfl | exact roomM (by assumption) rfl | exact roomB (by assumption) rfl); (case kUz80 => first | exact room0 (by assumption) | exact room1 (by assumption) rfl | exact room2 (by assumption) rfl | exact room3 (by assumption) rfl | exact roomA (by assumption) rfl | exact roomS (by assumption) rfl | exact roomM (by assumption) rfl | exact roomB (by assumption) rfl)))
                  case kErrz80 => intro hf; exact hf.elim
                  intro r3 news3 hh3 tk3 F3 N3 K3 P3
                  refine el_abABS P3 ?_
                  intro s2 t2' hQ9 o3 o4 S4
                  subst hQ9
                  repeat' (first | ((with_reducible show wpAny _ _ (exec _ _) _ _ _); k_fold) | ((fail_if_success (with_reducible refine stop_of Stop4 (by constructor) ?_)); (fail_if_success (with_reducible refine stop_of Stop1 (by constructor) ?_)); first | (k_unfold; (try dsimp only)) | (k_end; wrow_close) | walk1 | (dsimp only; walk1) | (leave1; try dsimp only)) | walk_at "mine item" | fail)
                  exact hret _ _ _ _ (by assumption) (by assumption) ((k9.cons.trans K2).trans K3) ⟨⟨_, _, rfl, fin_tx x2 o1 x4 o3 (by decide +kernel) (.inl rfl) (fun e => nomatch e) i2, by (first | lia | omega)⟩, S4⟩
            · have hem : vs2.isEmpty = false := by
                cases vs2 with
                | nil => exact absurd (List.length_eq_zero_iff.mp hl2.symm) hns
                | cons => rfl
              rw [hem]
              repeat' (first | ((with_reducible show wpAny _ _ (exec _ _) _ _ _); k_fold) | ((fail_if_success (with_reducible refine stop_of Stop4 (by constructor) ?_)); (fail_if_success (with_reducible refine stop_of Stop1 (by constructor) ?_)); first | (k_unfold; (try dsimp only)) | (k_end; wrow_close) | walk1 | (dsimp only; walk1) | (leave1; try dsimp only)) | walk_at "mine item" | fail)
              (k_dflt (refine' con_use ?kNz81 (law_space (S2 _)) ?kBz81 ?kFz81 ?kXz81 ?kTz81 ?kKz81 ?kDz81 ?kUz81 ?kOkz81 ?kErrz81; (case kNz81 => k_asm); (case kBz81 => k_asm); (case kFz81 => k_asm); (case kXz81 => k_asm); (case kTz81 => k_asm); (case kKz81 => first | exact rfl | assumption); (case kDz81 => first | exact room0 (by assumption) | exact room1 (by assumption) rfl | exact room2 (by assumption) rfl | exact room3 (by assumption) rfl | exact roomA (by assumption) rfl | exact roomS (by assumption) rfl | exact roomM (by assumption) rfl | exact roomB (by assumption) rfl); (case kUz81 => first | exact room0 (by assumption) | exact room1 (by assumption) rfl | exact room2 (by assumption) rfl | exact room3 (by assumption) rfl | exact roomA (by assumption) rfl | exact roomS (by assumption) rfl | exact roomM (by assumption) rfl | exact roomB (by assumption) rfl)))
              case kErrz81 => intro hf; exact hf.elim
              intro r2 news2 hh2 tk2 F2 N2 K2 P2
              refine el_abABS P2 ?_
              intro s2 t2' hQ9 o3 o4 S3
              subst hQ9
              repeat' (first | ((with_reducible show wpAny _ _ (exec _ _) _ _ _); k_fold) | ((fail_if_success (with_reducible refine stop_of Stop4 (by constructor) ?_)); (fail_if_success (with_reducible refine stop_of Stop1 (by constructor) ?_)); first | (k_unfold; (try dsimp only)) | (k_end; wrow_close) | walk1 | (dsimp only; walk1) | (leave1; try dsimp only)) | walk_at "mine item" | fail)
              exact hret _ _ _ _ (by assumption) (by assumption) (k9.cons.trans K2) ⟨⟨_, _, rfl, fin_tx x2 o1 x4 o3 (by decide +kernel) (.inl rfl) (fun _ e => absurd e hns) i2, by (first | lia | omega)⟩, S3⟩
theorem add_listsK {prog : Program} {w : World} {A : Around} {E : Value → Shared → Prop} {s : Shared} {h₀ : Heap} {L a b : Addr} {m : Str → Option Value} {news : Led} {vs ws : List Value} {n k : Nat} {Q : Value → Shared → Prop} (F : Fr h₀ L s.heap m) (N : News h₀ L s.heap news) (ha : (a, listOf vs.toArray n) ∈ news) (hb : (b, listOf ws.toArray k) ∈ news) (hz : vs.length + ws.length ≤ 1000)
    (h : ∀ D h', Fr h₀ L h' m → News h₀ L h' ((D, listOf (vs ++ ws).toArray 0) :: news) → (∀ p ∈ news, p.1 < D) → Q (.ref D) { s with heap := h' }) : wpAny (model prog w) A (binaryOp .Add (.ref a) (.ref b)) Q E s :=
  add_lists (hsz := by rw [sizeLine_eq]; (first | lia | omega)) F N (News.isList N ha) (News.isList N hb) fun h' F' N' => h _ h' F' N' fun p hp => Heap.lt_size (N p hp).1
noncomputable def nb : Nat → Nat
  | 0 => 1
  | k + 1 => 3 * nb k + 1
theorem nb3 {k : Nat} (h : k ≤ 3) : 1 ≤ nb k ∧ nb k ≤ 40 := by
  rcases (by (first | lia | omega) : k = 0 ∨ k = 1 ∨ k = 2 ∨ k = 3) with rfl | rfl | rfl | rfl <;> decide
theorem NmL.snoc {d : Dat} {b : List Str} (h : Nm d b) : ∀ {ds : List Dat} {a : List Str}, NmL ds a → NmL (ds ++ [d]) (a ++ b)
  | _, _, .nil => by
    have := NmL.cons h .nil
    rw [List.append_nil] at this
    exact this
  | _, _, .cons x y => by
    rw [List.append_assoc]
    exact .cons x (NmL.snoc h y)
theorem law_names {w : World} : ∀ (k : Nat) (_ : k ≤ 3) {v : Value} {D : Dat} {news : Led} (_ : PT k D) (_ : TIn news v D), Con w 399 [v] (60 + 20 * k) (300 + 200 * k) news [] (fun v n' => ∃ l vs nn ns, v = .ref l ∧ (l, listOf vs.toArray nn) ∈ n' ∧ StrsAre vs ns ∧ Nm D ns ∧ ns.length ≤ nb k) False := by
  intro k
  induction k with
  | zero =>
    intro hk3 v D news hD hT
    cases hD with
    | name f1 f2 =>
      rename_i nm mk
      refine fold_goal ?_; intro G9 k9; obtain ⟨pa, t1, t2, t3, n1, rfl, g1⟩ := tinN hT; refine k9 ?_; clear k9 G9
      intro mean mg mb dp un gd cn cs a ccd cl outer A₀ base h₀ L m s Q E B F X N Tp hk hd1 hu1 hret herr; refine wpAny_call ?_; k_dflt (refine' code_def (binds := [("particle", .ref pa)]) ?k1 ?k2 ?k3 ?k4 ?k5 ?kA ?kF ?kK ?k6 ?k7 ?k8 ?k9 ?kB ?_ ?c2 ?c3 ?c4 ?c5; (case kA => exact rfl); (case kF => exact rfl); (case kK => assumption); (case k1 => k_asm); (case k2 => k_asm); (case k3 => k_asm); (case k4 => k_asm); (case k5 => k_asm); (case k6 => k_is); (case k7 => k_is); (case k8 => first | exact room0 (by assumption) | exact room1 (by assumption) rfl | exact room2 (by assumption) rfl | exact room3 (by assumption) rfl | exact roomA (by assumption) rfl | exact roomS (by assumption) rfl | exact roomM (by assumption) rfl | exact roomB (by assumption) rfl); (case k9 => exact BindsTo.of_eq rfl); (case c5 => decide); (case kB => exact locs rfl); (case c2 => exact rfl); (case c3 => exact rfl); (case c4 => exact rfl); k_whole); intro g' L' hp FG' F' N' B' X' T'; (try dsimp only [List.reverse_cons, List.reverse_nil, List.nil_append, List.cons_append, List.length_cons, List.length_nil, Nat.zero_add] at F' ⊢); k_fold; refine fold_env ?_; intro e₁ A₁
      repeat' (first | ((with_reducible show wpAny _ _ (exec _ _) _ _ _); k_fold) | ((fail_if_success (with_reducible refine stop_of Stop4 (by constructor) ?_)); (fail_if_success (with_reducible refine stop_of Stop1 (by constructor) ?_)); first | (k_unfold; (try dsimp only)) | (k_end; wrow_close) | walk1 | (dsimp only; walk1) | (leave1; try dsimp only)) | walk_at "mine item" | fail)
      exact hret _ _ _ _ (by assumption) (by assumption) (Kp.cons Kp.refl) ⟨_, [_], _, [nm], rfl, .head _, .cons _ _ .nil, .name f1, (nb3 hk3).1⟩
  | succ k ih =>
    intro hk3 v D news hD hT
    cases hD with
    | name f1 f2 =>
      rename_i nm mk
      refine fold_goal ?_; intro G9 k9; obtain ⟨pa, t1, t2, t3, n1, rfl, g1⟩ := tinN hT; refine k9 ?_; clear k9 G9
      intro mean mg mb dp un gd cn cs a ccd cl outer A₀ base h₀ L m s Q E B F X N Tp hk hd1 hu1 hret herr; refine wpAny_call ?_; k_dflt (refine' code_def (binds := [("particle", .ref pa)]) ?k1 ?k2 ?k3 ?k4 ?k5 ?kA ?kF ?kK ?k6 ?k7 ?k8 ?k9 ?kB ?_ ?c2 ?c3 ?c4 ?c5; (case kA => exact rfl); (case kF => exact rfl); (case kK => assumption); (case k1 => k_asm); (case k2 => k_asm); (case k3 => k_asm); (case k4 => k_asm); (case k5 => k_asm); (case k6 => k_is); (case k7 => k_is); (case k8 => first | exact room0 (by assumption) | exact room1 (by assumption) rfl | exact room2 (by assumption) rfl | exact room3 (by assumption) rfl | exact roomA (by assumption) rfl | exact roomS (by assumption) rfl | exact roomM (by assumption) rfl | exact roomB (by assumption) rfl); (case k9 => exact BindsTo.of_eq rfl); (case c5 => decide); (case kB => exact locs rfl); (case c2 => exact rfl); (case c3 => exact rfl); (case c4 => exact rfl); k_whole); intro g' L' hp FG' F' N' B' X' T'; (try dsimp only [List.reverse_cons, List.reverse_nil, List.nil_append, List.cons_append, List.length_cons, List.length_nil, Nat.zero_add] at F' ⊢); k_fold; refine fold_env ?_; intro e₁ A₁
      repeat' (first | ((with_reducible show wpAny _ _ (exec _ _) _ _ _); k_fold) | ((fail_if_success (with_reducible refine stop_of Stop4 (by constructor) ?_)); (fail_if_success (with_reducible refine stop_of Stop1 (by constructor) ?_)); first | (k_unfold; (try dsimp only)) | (k_end; wrow_close) | walk1 | (dsimp only; walk1) | (leave1; try dsimp only)) | walk_at "mine item" | fail)
      exact hret _ _ _ _ (by assumption) (by assumption) (Kp.cons Kp.refl) ⟨_, [_], _, [nm], rfl, .head _, .cons _ _ .nil, .name f1, (nb3 hk3).1⟩
    | grp f1 f2 f3 f4 =>
      rename_i kd mk ds
      refine fold_goal ?_; intro G9 k9; obtain ⟨pa, tl, t1, t2, k3, n1, vs3, rfl, g1, g2, g3⟩ := tin3 hT; refine k9 ?_; clear k9 G9
      have hkn : (kd == Str.ofString "name") = false := by rcases f1 with ⟨rfl, _⟩ | ⟨rfl, _⟩ <;> decide +kernel
      have hl := g3.len
      have hk2 : k ≤ 3 := Nat.le_of_succ_le hk3
      have hnb := (nb3 hk2).2
      intro mean mg mb dp un gd cn cs a ccd cl outer A₀ base h₀ L m s Q E B F X N Tp hk hd1 hu1 hret herr; refine wpAny_call ?_; k_dflt (refine' code_def (binds := [("particle", .ref pa)]) ?k1 ?k2 ?k3 ?k4 ?k5 ?kA ?kF ?kK ?k6 ?k7 ?k8 ?k9 ?kB ?_ ?c2 ?c3 ?c4 ?c5; (case kA => exact rfl); (case kF => exact rfl); (case kK => assumption); (case k1 => k_asm); (case k2 => k_asm); (case k3 => k_asm); (case k4 => k_asm); (case k5 => k_asm); (case k6 => k_is); (case k7 => k_is); (case k8 => first | exact room0 (by assumption) | exact room1 (by assumption) rfl | exact room2 (by assumption) rfl | exact room3 (by assumption) rfl | exact roomA (by assumption) rfl | exact roomS (by assumption) rfl | exact roomM (by assumption) rfl | exact roomB (by assumption) rfl); (case k9 => exact BindsTo.of_eq rfl); (case c5 => decide); (case kB => exact locs rfl); (case c2 => exact rfl); (case c3 => exact rfl); (case c4 => exact rfl); k_whole); intro g' L' hp FG' F' N' B' X' T'; (try dsimp only [List.reverse_cons, List.reverse_nil, List.nil_append, List.cons_append, List.length_cons, List.length_nil, Nat.zero_add] at F' ⊢); k_fold; refine fold_env ?_; intro e₁ A₁
      repeat' (first | ((with_reducible show wpAny _ _ (exec _ _) _ _ _); k_fold) | ((fail_if_success (with_reducible refine stop_of Stop4 (by constructor) ?_)); (fail_if_success (with_reducible refine stop_of Stop1 (by constructor) ?_)); first | (k_unfold; (try dsimp only)) | (k_end; wrow_close) | walk1 | (dsimp only; walk1) | (leave1; try dsimp only)) | walk_at "mine item" | fail)
      rename News _ _ _ (_ :: news) => N8
      refine For_invV (h₀ := g') rfl rfl ?_
      repeat' (first | ((with_reducible show wpAny _ _ (exec _ _) _ _ _); k_fold) | ((fail_if_success (with_reducible refine stop_of Stop4 (by constructor) ?_)); (fail_if_success (with_reducible refine stop_of Stop1 (by constructor) ?_)); first | (k_unfold; (try dsimp only)) | (k_end; wrow_close) | walk1 | (dsimp only; walk1) | (leave1; try dsimp only)) | walk_at "mine item" | fail)
      refine iter_tup2 (vs := vs3) (Str.ofString "found") (fun i v nx => ∃ l us k' ns, v = .ref l ∧ (l, listOf us.toArray k') ∈ nx ∧ StrsAre us ns ∧ NmL (ds.take i) ns ∧ ns.length ≤ i * nb k ∧ ∀ p ∈ news, p ∈ nx) rfl (.tail _ g2) (by assumption) N8 (by decide +kernel) rfl ⟨_, [], _, [], rfl, .head _, .nil, .nil, Nat.zero_le _, fun p hp => .tail _ hp⟩ (fun I hI i v n n' kI j => by
        refine fold_goal ?_; intro G9 k9; obtain ⟨l, us, k', ns, x1, x2, x3, x4, x5, x6⟩ := j; refine k9 ?_; clear k9 G9
        exact ⟨l, us, k', ns, x1, kI _ x2 (fun _ => rfl), x3, x4, x5, fun p hp => kI p (x6 p hp) fun e => absurd e (hI p (.tail _ hp))⟩) ?_ ?_
      · intro i u v nx own h tk9 hu J9 hown F9 N9; refine fold_goal ?_; intro G9 k9; obtain ⟨l, us, k', ns, x1, x2, x3, x4, x5, x6⟩ := J9; refine k9 ?_; clear k9 G9
        subst x1
        have hi : i < ds.length := by
          rw [← hl]
          exact (List.getElem?_eq_some_iff.mp hu).1
        obtain ⟨pv, e1, e2⟩ := g3.get i hi
        rw [hu] at e1
        obtain rfl := Option.some.inj e1
        have e3 := e2.imm fun p hp _ => x6 p hp
        repeat' (first | ((with_reducible show wpAny _ _ (exec _ _) _ _ _); k_fold) | ((fail_if_success (with_reducible refine stop_of Stop4 (by constructor) ?_)); (fail_if_success (with_reducible refine stop_of Stop1 (by constructor) ?_)); first | (k_unfold; (try dsimp only)) | (k_end; wrow_close) | walk1 | (dsimp only; walk1) | (leave1; try dsimp only)) | walk_at "mine item" | fail)
        (k_dflt (refine' con_use ?kNz82 (ih hk2 (f4 _ (List.getElem_mem hi)) e3) ?kBz82 ?kFz82 ?kXz82 ?kTz82 ?kKz82 ?kDz82 ?kUz82 ?kOkz82 ?kErrz82; (case kNz82 => k_asm); (case kBz82 => k_asm); (case kFz82 => k_asm); (case kXz82 => k_asm); (case kTz82 => k_asm); (case kKz82 => first | exact rfl | assumption); (case kDz82 => first | exact room0 (by assumption) | exact room1 (by assumption) rfl | exact room2 (by assumption) rfl | exact room3 (by assumption) rfl | exact roomA (by assumption) rfl | exact roomS (by assumption) rfl | exact roomM (by assumption) rfl | exact roomB (by assumption) rfl); (case kUz82 => first | exact room0 (by assumption) | exact room1 (by assumption) rfl | exact room2 (by assumption) rfl | exact room3 (by assumption) rfl | exact roomA (by assumption) rfl | exact roomS (by assumption) rfl | exact roomM (by assumption) rfl | exact roomB (by assumption) rfl)))
        case kErrz82 => intro hf; exact hf.elim
        intro r1 news1 hh1 tk1 F1 N1 K1 P1
        refine el44 P1 ?_
        intro l2 us2 k2 ns2 hQ9 y1 y2 y3 y4
        subst hQ9
        have z1 := K1.of_nil _ x2
        have hz1 := strs_len_eq x3
        have hz2 := strs_len_eq y2
        repeat' (first | ((with_reducible show wpAny _ _ (exec _ _) _ _ _); k_fold) | ((fail_if_success (with_reducible refine stop_of Stop4 (by constructor) ?_)); (fail_if_success (with_reducible refine stop_of Stop1 (by constructor) ?_)); first | (k_unfold; (try dsimp only)) | (k_end; wrow_close) | walk1 | (dsimp only; walk1) | (leave1; try dsimp only)) | walk_at "mine item" | fail)
        have hle : i * nb k ≤ 2 * nb k := Nat.mul_le_mul_right _ (by (first | lia | omega))
        refine add_listsK (by assumption) (by assumption) z1 y1 (by (first | lia | omega)) ?_
        intro D9 h9 F10 N10 l10
        repeat' (first | ((with_reducible show wpAny _ _ (exec _ _) _ _ _); k_fold) | ((fail_if_success (with_reducible refine stop_of Stop4 (by constructor) ?_)); (fail_if_success (with_reducible refine stop_of Stop1 (by constructor) ?_)); first | (k_unfold; (try dsimp only)) | (k_end; wrow_close) | walk1 | (dsimp only; walk1) | (leave1; try dsimp only)) | walk_at "mine item" | fail)
        refine FStep.next (by assumption) (by assumption) (fun p hp => .tail _ (own_keep N9 hown K1 (fun d hd => nomatch hd) p hp)) ⟨fun z z1 z2 => by simp only [if_neg z1, if_neg z2], _, if_pos rfl, _, us ++ us2, _, ns ++ ns2, rfl, .head _, x3.append' y2, by rw [take_snoc _ _ hi]; exact x4.snoc y3, ?_, fun p hp => .tail _ (K1.of_nil _ (x6 p hp))⟩
        rw [List.length_append, Nat.succ_mul]; (first | lia | omega)
      · intro mx v nx h tk9 J9 F9 N9; refine fold_goal ?_; intro G9 k9; obtain ⟨l, us, k', ns, x1, x2, x3, x4, x5, x6⟩ := J9; refine k9 ?_; clear k9 G9
        subst x1
        rw [hl] at x4 x5
        rw [List.take_length] at x4
        repeat' (first | ((with_reducible show wpAny _ _ (exec _ _) _ _ _); k_fold) | ((fail_if_success (with_reducible refine stop_of Stop4 (by constructor) ?_)); (fail_if_success (with_reducible refine stop_of Stop1 (by constructor) ?_)); first | (k_unfold; (try dsimp only)) | (k_end; wrow_close) | walk1 | (dsimp only; walk1) | (leave1; try dsimp only)) | walk_at "mine item" | fail)
        have hle : ds.length * nb k ≤ 3 * nb k := Nat.mul_le_mul_right _ f2
        exact hret _ _ _ _ (by assumption) (by assumption) (Kp.sub x6) ⟨_, us, _, ns, rfl, x2, x3, .grp (by rcases f1 with ⟨rfl, _⟩ | ⟨rfl, _⟩ <;> decide +kernel) ⟨by rcases f1 with ⟨_, h⟩ | ⟨_, h⟩ <;> (first | lia | omega), f2⟩ x4, by simp only [nb]; (first | lia | omega)⟩
theorem eq_nilT {prog : Program} {w : World} {A : Around} {E : Value → Shared → Prop} {s : Shared} {h₀ : Heap} {L a b : Addr} {news : Led} {vs : List Value} {n k : Nat} {Q : Value → Shared → Prop} (N : News h₀ L s.heap news) (ha : (a, tupK vs n) ∈ news) (hb : (b, tupK [] k) ∈ news) (hu : A.units < cLine) (h : Q (.bool vs.isEmpty) s) :
    wpAny (model prog w) A (compareOp .Eq (.ref a) (.ref b)) Q E s := by
  have hl := News.isTup N ha
  have hk := News.isTup N hb
  have e : ((List.range (min vs.toArray.size ([] : List Value).toArray.size)).all (fun _ => true) && vs.toArray.size == ([] : List Value).toArray.size) = vs.isEmpty := by
    cases vs <;> simp
  exact PySem.SeqAt.eq_tupleAt (e := fun _ => true) hl hk hu (fun j h1 h2 => absurd h2 (Nat.not_lt_zero j)) (by rw [e]; exact h)
noncomputable def mixU : List Str → List Nat
  | [] => []
  | n :: ns => 124 :: (n.cps.toList ++ mixU ns)
noncomputable def mixP (ns : List Str) : List Nat := 40 :: (eP ++ (mixU ns ++ 41 :: (if ns.length = 0 then [] else [42])))
theorem mixT_plain : ∀ {ns : List Str}, (∀ x ∈ ns, x ∈ names5) → MixT false ns (mixU ns)
  | [], _ => .nil
  | _ :: _, h => .cons (.inl rfl) (.inl rfl) (h _ (.head _)) (mixT_plain fun x hx => h x (.tail _ hx))
theorem tx_plain {ns : List Str} (h : ns ∈ mixes) : Tx false (Dat.tuple [Dat.str (Str.ofString "mixed"), Dat.tuple (ns.map Dat.str)]) (mixP ns) := by
  obtain ⟨_, h2, h3⟩ := mixes_in h
  have := Tx.mixed (sp := false) (s1 := []) (s2 := []) (st := if ns.length = 0 then [] else [42]) (.inl rfl) (mixT_plain h3) (.inl rfl) (by
    by_cases e : ns.length = 0
    · rw [if_pos e]; exact .inr ⟨rfl, List.length_eq_zero_iff.mp e⟩
    · rw [if_neg e]; exact .inl rfl) (fun _ e => by rw [if_pos (by rw [e]; rfl)]) h2
  exact this
/-- a ref to a model, opened -/
theorem tin1 {G : Prop} {n : Led} {a : Addr} {x : Str} (h : TIn n (.ref a) (Dat.tuple [Dat.str x])) (k : ∀ t n1, (a, tupK [.str x t] n1) ∈ n → G) : G := by
  cases h with
  | tup m r => cases r with
    | cons h1 r => cases r; cases h1; exact k _ _ m
theorem tin2 {G : Prop} {n : Led} {a : Addr} {x : Str} {D : Dat} (h : TIn n (.ref a) (Dat.tuple [Dat.str x, D])) (k : ∀ t v n1, (a, tupK [.str x t, v] n1) ∈ n → TIn n v D → G) : G := by
  cases h with
  | tup m r => cases r with
    | cons h1 r => cases r with
      | cons h2 r => cases r; cases h1; exact k _ _ _ m h2
theorem tinT {G : Prop} {n : Led} {v : Value} {ds : List Dat} (h : TIn n v (Dat.tuple ds)) (k : ∀ a vs n1, v = .ref a → (a, tupK vs n1) ∈ n → TAll n vs ds → G) : G := by
  cases h with
  | tup m r => exact k _ _ _ rfl m r
theorem TAll.strs {news : Led} : ∀ {vs : List Value} {ns : List Str}, TAll news vs (ns.map Dat.str) → StrsAre vs ns
  | _, [], .nil => .nil
  | _, _ :: _, .cons a r => by
    cases a
    exact .cons _ _ (TAll.strs r)
theorem mix_sum {ns : List Str} (h : ns ∈ mixes) : (((Str.ofString "#PCDATA") :: ns).map (·.length)).sum + ((Str.ofString "#PCDATA") :: ns).length * 64 ≤ 16777216 := by
  have : ∀ ns ∈ mixes, (((Str.ofString "#PCDATA") :: ns).map (·.length)).sum + ((Str.ofString "#PCDATA") :: ns).length * 64 ≤ 16777216 := by decide +kernel
  exact this _ h
theorem mix_len {ns : List Str} (h : ns ∈ mixes) : (Txt.join (Str.ofString "|") (Str.ofString "#PCDATA" :: ns)).length ≤ 100 := by
  have : ∀ ns ∈ mixes, (Txt.join (Str.ofString "|") (Str.ofString "#PCDATA" :: ns)).length ≤ 100 := by decide +kernel
  exact this _ h
theorem mix_text {ns : List Str} (h : ns ∈ mixes) (hn : ns ≠ []) : (Str.ofString "(" ++ Txt.join (Str.ofString "|") (Str.ofString "#PCDATA" :: ns) ++ Str.ofString ")*").cps.toList = mixP ns := by
  have : ∀ ns ∈ mixes, ns ≠ [] → (Str.ofString "(" ++ Txt.join (Str.ofString "|") (Str.ofString "#PCDATA" :: ns) ++ Str.ofString ")*").cps.toList = mixP ns := by decide +kernel
  exact this _ h hn
theorem write_model {w : World} {v : Value} {D : Dat} {t : List Nat} {news : Led} (hD : Mo D) (hT : TIn news v D) (hX : Tx false D t) (hz : t.length ≤ 400) : Con w 324 [v] 150 800 news [] (fun v n' => ∃ X tk, v = .str X tk ∧ X.cps.toList = t) False := by
  cases hD with
  | empty =>
    cases hT with
    | tup hm hr =>
      rename_i pa vs n1
      cases hr with
      | cons h1 h2 =>
        cases h1; cases h2
        intro mean mg mb dp un gd cn cs a ccd cl outer A₀ base h₀ L m s Q E B F X N Tp hk hd1 hu1 hret herr; refine wpAny_call ?_; k_dflt (refine' code_def (binds := [("model", .ref pa)]) ?k1 ?k2 ?k3 ?k4 ?k5 ?kA ?kF ?kK ?k6 ?k7 ?k8 ?k9 ?kB ?_ ?c2 ?c3 ?c4 ?c5; (case kA => exact rfl); (case kF => exact rfl); (case kK => assumption); (case k1 => k_asm); (case k2 => k_asm); (case k3 => k_asm); (case k4 => k_asm); (case k5 => k_asm); (case k6 => k_is); (case k7 => k_is); (case k8 => first | exact room0 (by assumption) | exact room1 (by assumption) rfl | exact room2 (by assumption) rfl | exact room3 (by assumption) rfl | exact roomA (by assumption) rfl | exact roomS (by assumption) rfl | exact roomM (by assumption) rfl | exact roomB (by assumption) rfl); (case k9 => exact BindsTo.of_eq rfl); (case c5 => decide); (case kB => exact locs rfl); (case c2 => exact rfl); (case c3 => exact rfl); (case c4 => exact rfl); k_whole); intro g' L' hp FG' F' N' B' X' T'; (try dsimp only [List.reverse_cons, List.reverse_nil, List.nil_append, List.cons_append, List.length_cons, List.length_nil, Nat.zero_add] at F' ⊢); k_fold; refine fold_env ?_; intro e₁ A₁
        repeat' (first | ((with_reducible show wpAny _ _ (exec _ _) _ _ _); k_fold) | ((fail_if_success (with_reducible refine stop_of Stop4 (by constructor) ?_)); (fail_if_success (with_reducible refine stop_of Stop1 (by constructor) ?_)); first | (k_unfold; (try dsimp only)) | (k_end; wrow_close) | walk1 | (dsimp only; walk1) | (leave1; try dsimp only)) | walk_at "mine item" | fail)
        exact hret _ _ _ _ (by assumption) (by assumption) Kp.refl ⟨_, _, rfl, by rw [hX.one .empty]; decide +kernel⟩
  | any =>
    cases hT with
    | tup hm hr =>
      rename_i pa vs n1
      cases hr with
      | cons h1 h2 =>
        cases h1; cases h2
        intro mean mg mb dp un gd cn cs a ccd cl outer A₀ base h₀ L m s Q E B F X N Tp hk hd1 hu1 hret herr; refine wpAny_call ?_; k_dflt (refine' code_def (binds := [("model", .ref pa)]) ?k1 ?k2 ?k3 ?k4 ?k5 ?kA ?kF ?kK ?k6 ?k7 ?k8 ?k9 ?kB ?_ ?c2 ?c3 ?c4 ?c5; (case kA => exact rfl); (case kF => exact rfl); (case kK => assumption); (case k1 => k_asm); (case k2 => k_asm); (case k3 => k_asm); (case k4 => k_asm); (case k5 => k_asm); (case k6 => k_is); (case k7 => k_is); (case k8 => first | exact room0 (by assumption) | exact room1 (by assumption) rfl | exact room2 (by assumption) rfl | exact room3 (by assumption) rfl | exact roomA (by assumption) rfl | exact roomS (by assumption) rfl | exact roomM (by assumption) rfl | exact roomB (by assumption) rfl); (case k9 => exact BindsTo.of_eq rfl); (case c5 => decide); (case kB => exact locs rfl); (case c2 => exact rfl); (case c3 => exact rfl); (case c4 => exact rfl); k_whole); intro g' L' hp FG' F' N' B' X' T'; (try dsimp only [List.reverse_cons, List.reverse_nil, List.nil_append, List.cons_append, List.length_cons, List.length_nil, Nat.zero_add] at F' ⊢); k_fold; refine fold_env ?_; intro e₁ A₁
        repeat' (first | ((with_reducible show wpAny _ _ (exec _ _) _ _ _); k_fold) | ((fail_if_success (with_reducible refine stop_of Stop4 (by constructor) ?_)); (fail_if_success (with_reducible refine stop_of Stop1 (by constructor) ?_)); first | (k_unfold; (try dsimp only)) | (k_end; wrow_close) | walk1 | (dsimp only; walk1) | (leave1; try dsimp only)) | walk_at "mine item" | fail)
        exact hret _ _ _ _ (by assumption) (by assumption) Kp.refl ⟨_, _, rfl, by rw [hX.one .any]; decide +kernel⟩
  | kids hP =>
    rename_i kd mk ds
    cases hT with
    | tup hm hr =>
      rename_i pa vs n1
      cases hr with
      | cons h1 hr =>
        cases hr with
        | cons h2 h3 =>
          cases h1; cases h3
          rename_i pv
          have hW : Wr false (Dat.tuple [Dat.str kd, Dat.tuple ds, Dat.str mk]) t := by
            generalize hg : Dat.tuple [Dat.str (Str.ofString "children"), Dat.tuple [Dat.str kd, Dat.tuple ds, Dat.str mk]] = D9 at hX
            cases hX with
            | empty => simp only [Dat.tuple.injEq, List.cons.injEq] at hg; cases hg.2
            | any => simp only [Dat.tuple.injEq, List.cons.injEq] at hg; cases hg.2
            | kids x =>
              simp only [Dat.tuple.injEq, List.cons.injEq, Dat.str.injEq, true_and, and_true] at hg
              refine fold_goal ?_; intro G9 k9; obtain ⟨rfl, rfl, rfl⟩ := hg; refine k9 ?_; clear k9 G9
              exact x
            | mixed => exact absurd hg (hne_of (by decide +kernel))
          intro mean mg mb dp un gd cn cs a ccd cl outer A₀ base h₀ L m s Q E B F X N Tp hk hd1 hu1 hret herr; refine wpAny_call ?_; k_dflt (refine' code_def (binds := [("model", .ref pa)]) ?k1 ?k2 ?k3 ?k4 ?k5 ?kA ?kF ?kK ?k6 ?k7 ?k8 ?k9 ?kB ?_ ?c2 ?c3 ?c4 ?c5; (case kA => exact rfl); (case kF => exact rfl); (case kK => assumption); (case k1 => k_asm); (case k2 => k_asm); (case k3 => k_asm); (case k4 => k_asm); (case k5 => k_asm); (case k6 => k_is); (case k7 => k_is); (case k8 => first | exact room0 (by assumption) | exact room1 (by assumption) rfl | exact room2 (by assumption) rfl | exact room3 (by assumption) rfl | exact roomA (by assumption) rfl | exact roomS (by assumption) rfl | exact roomM (by assumption) rfl | exact roomB (by assumption) rfl); (case k9 => exact BindsTo.of_eq rfl); (case c5 => decide); (case kB => exact locs rfl); (case c2 => exact rfl); (case c3 => exact rfl); (case c4 => exact rfl); k_whole); intro g' L' hp FG' F' N' B' X' T'; (try dsimp only [List.reverse_cons, List.reverse_nil, List.nil_append, List.cons_append, List.length_cons, List.length_nil, Nat.zero_add] at F' ⊢); k_fold; refine fold_env ?_; intro e₁ A₁
          repeat' (first | ((with_reducible show wpAny _ _ (exec _ _) _ _ _); k_fold) | ((fail_if_success (with_reducible refine stop_of Stop4 (by constructor) ?_)); (fail_if_success (with_reducible refine stop_of Stop1 (by constructor) ?_)); first | (k_unfold; (try dsimp only)) | (k_end; wrow_close) | walk1 | (dsimp only; walk1) | (leave1; try dsimp only)) | walk_at "mine item" | fail)
          (k_dflt (refine' con_use ?kNz83 (write_particle h2 hW (Nat.le_trans hz (by decide))) ?kBz83 ?kFz83 ?kXz83 ?kTz83 ?kKz83 ?kDz83 ?kUz83 ?kOkz83 ?kErrz83; (case kNz83 => k_asm); (case kBz83 => k_asm); (case kFz83 => k_asm); (case kXz83 => k_asm); (case kTz83 => k_asm); (case kKz83 => first | exact rfl | assumption); (case kDz83 => first | exact room0 (by assumption) | exact room1 (by assumption) rfl | exact room2 (by assumption) rfl | exact room3 (by assumption) rfl | exact roomA (by assumption) rfl | exact roomS (by assumption) rfl | exact roomM (by assumption) rfl | exact roomB (by assumption) rfl); (case kUz83 => first | exact room0 (by assumption) | exact room1 (by assumption) rfl | exact room2 (by assumption) rfl | exact room3 (by assumption) rfl | exact roomA (by assumption) rfl | exact roomS (by assumption) rfl | exact roomM (by assumption) rfl | exact roomB (by assumption) rfl)))
          case kErrz83 => intro hf; exact hf.elim
          intro r1 news1 hh1 tk1 F1 N1 K1 P1
          obtain ⟨tk9, rfl⟩ := P1
          repeat' (first | ((with_reducible show wpAny _ _ (exec _ _) _ _ _); k_fold) | ((fail_if_success (with_reducible refine stop_of Stop4 (by constructor) ?_)); (fail_if_success (with_reducible refine stop_of Stop1 (by constructor) ?_)); first | (k_unfold; (try dsimp only)) | (k_end; wrow_close) | walk1 | (dsimp only; walk1) | (leave1; try dsimp only)) | walk_at "mine item" | fail)
          exact hret _ _ _ _ (by assumption) (by assumption) K1 ⟨_, _, rfl, by simp⟩
  | mixed hN =>
    rename_i ns
    obtain ⟨pa, rfl⟩ : ∃ va, v = .ref va := by cases hT; exact ⟨_, rfl⟩
    have hT9 := hX.one (tx_plain hN)
    have i1 := mixes_in hN
    refine tin2 hT fun t1 v1 n1 hm h2 => ?_
    refine tinT h2 fun tl vs2 n2 e hm2 hr2 => ?_
    subst e
    have q2 := hr2.strs
    have hl2 := strs_len_eq q2
    intro mean mg mb dp un gd cn cs a ccd cl outer A₀ base h₀ L m s Q E B F X N Tp hk hd1 hu1 hret herr; refine wpAny_call ?_; k_dflt (refine' code_def (binds := [("model", .ref pa)]) ?k1 ?k2 ?k3 ?k4 ?k5 ?kA ?kF ?kK ?k6 ?k7 ?k8 ?k9 ?kB ?_ ?c2 ?c3 ?c4 ?c5; (case kA => exact rfl); (case kF => exact rfl); (case kK => assumption); (case k1 => k_asm); (case k2 => k_asm); (case k3 => k_asm); (case k4 => k_asm); (case k5 => k_asm); (case k6 => k_is); (case k7 => k_is); (case k8 => first | exact room0 (by assumption) | exact room1 (by assumption) rfl | exact room2 (by assumption) rfl | exact room3 (by assumption) rfl | exact roomA (by assumption) rfl | exact roomS (by assumption) rfl | exact roomM (by assumption) rfl | exact roomB (by assumption) rfl); (case k9 => exact BindsTo.of_eq rfl); (case c5 => decide); (case kB => exact locs rfl); (case c2 => exact rfl); (case c3 => exact rfl); (case c4 => exact rfl); k_whole); intro g' L' hp FG' F' N' B' X' T'; (try dsimp only [List.reverse_cons, List.reverse_nil, List.nil_append, List.cons_append, List.length_cons, List.length_nil, Nat.zero_add] at F' ⊢); k_fold; refine fold_env ?_; intro e₁ A₁
    repeat' (first | ((with_reducible show wpAny _ _ (exec _ _) _ _ _); k_fold) | ((fail_if_success (with_reducible refine stop_of Stop4 (by constructor) ?_)); (fail_if_success (with_reducible refine stop_of Stop1 (by constructor) ?_)); first | (k_unfold; (try dsimp only)) | (k_end; wrow_close) | walk1 | (dsimp only; walk1) | (leave1; try dsimp only)) | walk_at "mine item" | fail)
    refine eq_nilT (vs := vs2) (by assumption) (.tail _ hm2) (.head _) (by first | exact room0 (by assumption) | exact room1 (by assumption) rfl | exact room2 (by assumption) rfl | exact room3 (by assumption) rfl | exact roomA (by assumption) rfl | exact roomS (by assumption) rfl | exact roomM (by assumption) rfl | exact roomB (by assumption) rfl) ?_
    cases hn : vs2.isEmpty
    · have hne : vs2 ≠ [] := fun e => by rw [e] at hn; cases hn
      have hnn : ns ≠ [] := fun e => hne (by rw [e] at hl2; exact List.length_eq_zero_iff.mp hl2)
      repeat' (first | ((with_reducible show wpAny _ _ (exec _ _) _ _ _); k_fold) | ((fail_if_success (with_reducible refine stop_of Stop4 (by constructor) ?_)); (fail_if_success (with_reducible refine stop_of Stop1 (by constructor) ?_)); first | (k_unfold; (try dsimp only)) | (k_end; wrow_close) | walk1 | (dsimp only; walk1) | (leave1; try dsimp only)) | walk_at "mine item" | fail)
      refine add_tuples (vs := [_]) (by assumption) (by assumption) (News.isTup (by assumption) (.head _)) (News.isTup (by assumption) (.tail _ (.tail _ hm2))) (fun e => nomatch e) (fun _ e => absurd e hne) ?_ (by rw [sizeLine_eq, List.length_singleton]; (first | lia | omega))
      intro _ _ h7 F7 N7
      repeat' (first | ((with_reducible show wpAny _ _ (exec _ _) _ _ _); k_fold) | ((fail_if_success (with_reducible refine stop_of Stop4 (by constructor) ?_)); (fail_if_success (with_reducible refine stop_of Stop1 (by constructor) ?_)); first | (k_unfold; (try dsimp only)) | (k_end; wrow_close) | walk1 | (dsimp only; walk1) | (leave1; try dsimp only)) | walk_at "mine item" | fail)
      refine join_tupleC (News.isTup (by assumption) (.head _)) (.cons _ _ q2) (by decide +kernel) (mix_sum hN) ?_
      intro t8 k8
      have hjl := mix_len hN
      repeat' (first | ((with_reducible show wpAny _ _ (exec _ _) _ _ _); k_fold) | ((fail_if_success (with_reducible refine stop_of Stop4 (by constructor) ?_)); (fail_if_success (with_reducible refine stop_of Stop1 (by constructor) ?_)); first | (k_unfold; (try dsimp only)) | (k_end; wrow_close) | walk1 | (dsimp only; walk1) | (leave1; try dsimp only)) | walk_at "mine item" | fail)
      exact hret _ _ _ _ (by assumption) (by assumption) (Kp.sub fun p hp => .tail _ (.tail _ (.tail _ hp))) ⟨_, _, rfl, by rw [hT9]; exact mix_text hN hnn⟩
    · repeat' (first | ((with_reducible show wpAny _ _ (exec _ _) _ _ _); k_fold) | ((fail_if_success (with_reducible refine stop_of Stop4 (by constructor) ?_)); (fail_if_success (with_reducible refine stop_of Stop1 (by constructor) ?_)); first | (k_unfold; (try dsimp only)) | (k_end; wrow_close) | walk1 | (dsimp only; walk1) | (leave1; try dsimp only)) | walk_at "mine item" | fail)
      have hz : ns = [] := by
        have := List.isEmpty_iff.mp hn
        rw [this] at hl2
        exact List.length_eq_zero_iff.mp hl2.symm
      subst hz
      exact hret _ _ _ _ (by assumption) (by assumption) (Kp.cons Kp.refl) ⟨_, _, rfl, by rw [hT9]; decide +kernel⟩
/-- the names of a model -/
inductive NmM : Dat → List Str → Prop
  | empty : NmM (Dat.tuple [Dat.str (Str.ofString "empty")]) []
  | any : NmM (Dat.tuple [Dat.str (Str.ofString "any")]) []
  | mixed {ns : List Str} : ns ∈ mixes → NmM (Dat.tuple [Dat.str (Str.ofString "mixed"), Dat.tuple (ns.map Dat.str)]) ns
  | kids {D : Dat} {ns : List Str} : Nm D ns → NmM (Dat.tuple [Dat.str (Str.ofString "children"), D]) ns
/-- each name once -/
noncomputable def dd : List Str → List Str → List Str
  | acc, [] => acc
  | acc, n :: ns => dd (if n ∈ acc then acc else acc ++ [n]) ns
theorem dd_snoc (n : Str) : ∀ (ns acc : List Str), dd acc (ns ++ [n]) = if n ∈ dd acc ns then dd acc ns else dd acc ns ++ [n]
  | [], acc => rfl
  | x :: ns, acc => by simp only [List.cons_append, dd]; exact dd_snoc n ns _
theorem dd_mem (x : Str) : ∀ (ns acc : List Str), x ∈ dd acc ns ↔ x ∈ acc ∨ x ∈ ns
  | [], acc => by simp [dd]
  | n :: ns, acc => by
    simp only [dd]
    rw [dd_mem x ns]
    by_cases h : n ∈ acc
    · rw [if_pos h]
      constructor
      · rintro (a | a)
        · exact .inl a
        · exact .inr (.tail _ a)
      · rintro (a | a)
        · exact .inl a
        · rcases List.mem_cons.mp a with rfl | a
          · exact .inl h
          · exact .inr a
    · rw [if_neg h, List.mem_append, List.mem_singleton, List.mem_cons, or_assoc]
theorem dd_len : ∀ (ns acc : List Str), (dd acc ns).length ≤ acc.length + ns.length
  | [], acc => Nat.le_refl _
  | n :: ns, acc => by
    simp only [dd]
    refine Nat.le_trans (dd_len ns _) ?_
    split
    · rw [List.length_cons]; (first | lia | omega)
    · rw [List.length_append, List.length_singleton, List.length_cons]; (first | lia | omega)
theorem own_keepL {h₀ h : Heap} {L : Addr} {M : List Addr} {nx n' own : Led} {vs : List Value} (N : News h₀ L h nx) (hown : ∀ p ∈ own, p ∈ nx ∧ (isIt p.2 = true ∨ ∃ d k sl, p.2 = (⟨.type "list", d, .seq vs.toArray k, sl⟩ : Obj))) (K : Kp M nx n') (hM : ∀ d ∈ M, ∃ o, (d, o) ∈ nx ∧ isIt o = false ∧ ∀ d k sl, o ≠ (⟨.type "list", d, .seq vs.toArray k, sl⟩ : Obj)) : ∀ p ∈ own, p ∈ n' := fun p hp => by
  obtain ⟨h1, h2⟩ := hown p hp
  refine K p h1 fun hm => ?_
  refine fold_goal ?_; intro G9 k9; obtain ⟨o, ho, hi, hl⟩ := hM _ hm; refine k9 ?_; clear k9 G9
  obtain ⟨a, b⟩ := p
  have := news_same N h1 ho
  subst this
  rcases h2 with h2 | ⟨d, k, sl, h2⟩
  · rw [h2] at hi; cases hi
  · exact absurd h2 (hl d k sl)
theorem names_mixed {ns0 ns : List Str} (hN : NmM (Dat.tuple [Dat.str (Str.ofString "mixed"), Dat.tuple (ns0.map Dat.str)]) ns) : ns = ns0 := by
  generalize hg : Dat.tuple [Dat.str (Str.ofString "mixed"), Dat.tuple (List.map Dat.str ns0)] = D9 at hN
  cases hN with
  | empty => simp only [Dat.tuple.injEq, List.cons.injEq] at hg; cases hg.2
  | any => simp only [Dat.tuple.injEq, List.cons.injEq] at hg; cases hg.2
  | kids => exact absurd hg (hne_of (by decide +kernel))
  | mixed =>
    simp only [Dat.tuple.injEq, List.cons.injEq, true_and, and_true] at hg
    exact (strs_inj hg).symm
theorem names_kids {D : Dat} {ns : List Str} (hN : NmM (Dat.tuple [Dat.str (Str.ofString "children"), D]) ns) : Nm D ns := by
  generalize hg : Dat.tuple [Dat.str (Str.ofString "children"), D] = D9 at hN
  cases hN with
  | empty => simp only [Dat.tuple.injEq, List.cons.injEq] at hg; cases hg.2
  | any => simp only [Dat.tuple.injEq, List.cons.injEq] at hg; cases hg.2
  | kids h =>
    simp only [Dat.tuple.injEq, List.cons.injEq, true_and, and_true] at hg
    rw [hg]; exact h
  | mixed => exact absurd hg (hne_of (by decide +kernel))
/-- the two kinds of model that have names -/
inductive MK : Dat → Prop
  | mixed {ns : List Str} : ns ∈ mixes → MK (Dat.tuple [Dat.str (Str.ofString "mixed"), Dat.tuple (ns.map Dat.str)])
  | kids {D : Dat} : MK (Dat.tuple [Dat.str (Str.ofString "children"), D])
theorem model_names2 {w : World} {va : Addr} {D : Dat} {ns : List Str} {news : Led} (hD : MK D) (hT : TIn news (.ref va) D) (hN : NmM D ns) (hz : ns.length ≤ 40) (hs : szD D ≤ 1000) : Con w 338 [.ref va] 150 800 news [] (fun v n' => ∃ l vs k, v = .ref l ∧ (l, listOf vs.toArray k) ∈ n' ∧ StrsAre vs (dd [] ns)) False := by
  intro mean mg mb dp un gd cn cs a ccd cl outer A₀ base h₀ L m s Q E B F X N Tp hk hd1 hu1 hret herr; refine wpAny_call ?_; k_dflt (refine' code_def (binds := [("model", .ref va)]) ?k1 ?k2 ?k3 ?k4 ?k5 ?kA ?kF ?kK ?k6 ?k7 ?k8 ?k9 ?kB ?_ ?c2 ?c3 ?c4 ?c5; (case kA => exact rfl); (case kF => exact rfl); (case kK => assumption); (case k1 => k_asm); (case k2 => k_asm); (case k3 => k_asm); (case k4 => k_asm); (case k5 => k_asm); (case k6 => k_is); (case k7 => k_is); (case k8 => first | exact room0 (by assumption) | exact room1 (by assumption) rfl | exact room2 (by assumption) rfl | exact room3 (by assumption) rfl | exact roomA (by assumption) rfl | exact roomS (by assumption) rfl | exact roomM (by assumption) rfl | exact roomB (by assumption) rfl); (case k9 => exact BindsTo.of_eq rfl); (case c5 => decide); (case kB => exact locs rfl); (case c2 => exact rfl); (case c3 => exact rfl); (case c4 => exact rfl); k_whole); intro g' L' hp FG' F' N' B' X' T'; (try dsimp only [List.reverse_cons, List.reverse_nil, List.nil_append, List.cons_append, List.length_cons, List.length_nil, Nat.zero_add] at F' ⊢); k_fold; refine fold_env ?_; intro e₁ A₁
  repeat' (first | ((with_reducible show wpAny _ _ (exec _ _) _ _ _); k_fold) | ((fail_if_success (with_reducible refine stop_of Stop4 (by constructor) ?_)); (fail_if_success (with_reducible refine stop_of Stop3 (by constructor) ?_)); (fail_if_success (with_reducible refine stop_of Stop1 (by constructor) ?_)); first | (k_unfold; (try dsimp only)) | (k_end; wrow_close) | walk1 | (dsimp only; walk1) | (leave1; try dsimp only)) | walk_at "mine item" | fail)
  refine split_at F' (fun mm fl s' => FlowP g' L' news s mm fl s') ?_ (fun fl s' hv => ?_)
  · cases hD with
    | mixed _ =>
      refine tin2 hT fun t v n1 hm _ => ?_
      repeat' (first | ((with_reducible show wpAny _ _ (exec _ _) _ _ _); k_fold) | ((fail_if_success (with_reducible refine stop_of Stop4 (by constructor) ?_)); (fail_if_success (with_reducible refine stop_of Stop1 (by constructor) ?_)); first | (k_unfold; (try dsimp only)) | (k_end; wrow_close) | walk1 | (dsimp only; walk1) | (leave1; try dsimp only)) | walk_at "mine item" | fail)
      exact .mk (by assumption) (by assumption) (fun p hp => .tail _ hp)
    | kids =>
      refine tin2 hT fun t v n1 hm _ => ?_
      repeat' (first | ((with_reducible show wpAny _ _ (exec _ _) _ _ _); k_fold) | ((fail_if_success (with_reducible refine stop_of Stop4 (by constructor) ?_)); (fail_if_success (with_reducible refine stop_of Stop1 (by constructor) ?_)); first | (k_unfold; (try dsimp only)) | (k_end; wrow_close) | walk1 | (dsimp only; walk1) | (leave1; try dsimp only)) | walk_at "mine item" | fail)
      exact .mk (by assumption) (by assumption) (fun p hp => .tail _ hp)
  · obtain ⟨F9, N9, K9⟩ := hv
    rename_i h9 tk9 n9
    clear N' F'
    have hT9 := hT.imm fun p hp _ => K9 p hp
    repeat' (first | ((with_reducible show wpAny _ _ (exec _ _) _ _ _); k_fold) | ((fail_if_success (with_reducible refine stop_of Stop4 (by constructor) ?_)); (fail_if_success (with_reducible refine stop_of Stop3 (by constructor) ?_)); (fail_if_success (with_reducible refine stop_of Stop1 (by constructor) ?_)); first | (k_unfold; (try dsimp only)) | (k_end; wrow_close) | walk1 | (dsimp only; walk1) | (leave1; try dsimp only)) | walk_at "mine item" | fail)
    refine split_at F9 (fun mm v s' => ToldP g' L' news ns s mm v s') ?_ (fun v s' hv => ?_)
    · cases hD with
      | mixed _ =>
        obtain rfl := names_mixed hN
        refine tin2 hT9 fun t v n1 hm h2 => ?_
        refine tinT h2 fun b vs2 n2 e hm2 hr2 => ?_
        subst e
        have q2 := hr2.strs
        have hl2 := strs_len_eq q2
        repeat' (first | ((with_reducible show wpAny _ _ (exec _ _) _ _ _); k_fold) | ((fail_if_success (with_reducible refine stop_of Stop4 (by constructor) ?_)); (fail_if_success (with_reducible refine stop_of Stop1 (by constructor) ?_)); first | (k_unfold; (try dsimp only)) | (k_end; wrow_close) | walk1 | (dsimp only; walk1) | (leave1; try dsimp only)) | walk_at "mine item" | fail)
        refine kup_listOfT (zs := vs2) (by assumption) (by assumption) hm2 rfl ?_ (by rw [List.toList_toArray, sizeLine_eq]; (first | lia | omega))
        intro D9 c9 h9 F10 N10 l9
        repeat' (first | ((with_reducible show wpAny _ _ (exec _ _) _ _ _); k_fold) | ((fail_if_success (with_reducible refine stop_of Stop4 (by constructor) ?_)); (fail_if_success (with_reducible refine stop_of Stop1 (by constructor) ?_)); first | (k_unfold; (try dsimp only)) | (k_end; wrow_close) | walk1 | (dsimp only; walk1) | (leave1; try dsimp only)) | walk_at "mine item" | fail)
        exact .mk (by assumption) (by assumption) (.head _) q2 (fun p hp => .tail _ (K9 p hp))
      | kids =>
        refine tin2 hT9 fun t v n1 hm h2 => ?_
        repeat' (first | ((with_reducible show wpAny _ _ (exec _ _) _ _ _); k_fold) | ((fail_if_success (with_reducible refine stop_of Stop4 (by constructor) ?_)); (fail_if_success (with_reducible refine stop_of Stop1 (by constructor) ?_)); first | (k_unfold; (try dsimp only)) | (k_end; wrow_close) | walk1 | (dsimp only; walk1) | (leave1; try dsimp only)) | walk_at "mine item" | fail)
        (k_dflt (refine' con_use ?kNz84 (particle_names h2 (names_kids hN) (by simp only [szD, szL] at hs ⊢; (first | lia | omega))) ?kBz84 ?kFz84 ?kXz84 ?kTz84 ?kKz84 ?kDz84 ?kUz84 ?kOkz84 ?kErrz84; (case kNz84 => k_asm); (case kBz84 => k_asm); (case kFz84 => k_asm); (case kXz84 => k_asm); (case kTz84 => k_asm); (case kKz84 => first | exact rfl | assumption); (case kDz84 => first | exact room0 (by assumption) | exact room1 (by assumption) rfl | exact room2 (by assumption) rfl | exact room3 (by assumption) rfl | exact roomA (by assumption) rfl | exact roomS (by assumption) rfl | exact roomM (by assumption) rfl | exact roomB (by assumption) rfl); (case kUz84 => first | exact room0 (by assumption) | exact room1 (by assumption) rfl | exact room2 (by assumption) rfl | exact room3 (by assumption) rfl | exact roomA (by assumption) rfl | exact roomS (by assumption) rfl | exact roomM (by assumption) rfl | exact roomB (by assumption) rfl)))
        case kErrz84 => intro hf; exact hf.elim
        intro r1 news1 hh1 tk1 F1 N1 K1 P1
        refine el33 P1 ?_
        intro tl vs k1 hQ9 q1 q0 q2
        subst hQ9
        repeat' (first | ((with_reducible show wpAny _ _ (exec _ _) _ _ _); k_fold) | ((fail_if_success (with_reducible refine stop_of Stop4 (by constructor) ?_)); (fail_if_success (with_reducible refine stop_of Stop1 (by constructor) ?_)); first | (k_unfold; (try dsimp only)) | (k_end; wrow_close) | walk1 | (dsimp only; walk1) | (leave1; try dsimp only)) | walk_at "mine item" | fail)
        exact .mk (by assumption) (by assumption) q1 q2 (fun p hp => K1.of_nil _ (K9 p hp))
    · refine fold_goal ?_; intro G9 k9; obtain ⟨F10, N10, q1, q2, K10⟩ := hv; refine k9 ?_; clear k9 G9
      rename_i h10 tk10 news1 tl vs k1
      clear N9 F9 hT9 K9
      repeat' (first | ((with_reducible show wpAny _ _ (exec _ _) _ _ _); k_fold) | ((fail_if_success (with_reducible refine stop_of Stop4 (by constructor) ?_)); (fail_if_success (with_reducible refine stop_of Stop1 (by constructor) ?_)); first | (k_unfold; (try dsimp only)) | (k_end; wrow_close) | walk1 | (dsimp only; walk1) | (leave1; try dsimp only)) | walk_at "mine item" | fail)
      rename_i fl h8 l9 h9x F9x N8
      have kq : Kp [] news news1 := Kp.sub K10
      have hlv := strs_len_eq q2
      refine For_invV (h₀ := g') rfl rfl ?_
      repeat' (first | ((with_reducible show wpAny _ _ (exec _ _) _ _ _); k_fold) | ((fail_if_success (with_reducible refine stop_of Stop4 (by constructor) ?_)); (fail_if_success (with_reducible refine stop_of Stop1 (by constructor) ?_)); first | (k_unfold; (try dsimp only)) | (k_end; wrow_close) | walk1 | (dsimp only; walk1) | (leave1; try dsimp only)) | walk_at "mine item" | fail)
      refine iter_list1 (vs := vs) (fun i nx => ∃ us k', (fl, listOf us.toArray k') ∈ nx ∧ StrsAre us (dd [] (ns.take i)) ∧ ∀ p ∈ news1, p ∈ nx) rfl (.tail _ q1) (by assumption) N8 ⟨[], _, .head _, .nil, fun p hp => .tail _ hp⟩ (fun I hI i n n' kI j => by
        refine fold_goal ?_; intro G9 k9; obtain ⟨us, k', x1, x2, x3⟩ := j; refine k9 ?_; clear k9 G9
        exact ⟨us, k', kI _ x1 (fun _ => rfl), x2, fun p hp => kI p (x3 p hp) fun e => absurd e (hI p (.tail _ hp))⟩) ?_ ?_
      · intro i v nx own h tk9 hu J9 hown F9 N9; refine fold_goal ?_; intro G9 k9; obtain ⟨us, k', x1, x2, x3⟩ := J9; refine k9 ?_; clear k9 G9
        have hi : i < ns.length := by
          rw [← hlv]
          exact (List.getElem?_eq_some_iff.mp hu).1
        obtain ⟨tt, ht⟩ := tall_str (StrsAre.tall (news := []) q2) i hi
        rw [hu] at ht
        obtain rfl := Option.some.inj ht
        have hul := strs_len_eq x2
        have hdl := dd_len (ns.take i) []
        rw [List.length_take, List.length_nil] at hdl
        have N10 := news_front N9 x1
        have k10 := off_kp N9 x1 rfl
        have hown2 : ∀ {o : Obj} , ∀ p ∈ own, p ∈ (fl, o) :: off fl nx := fun {o} => own_keepL N9 hown (Kp.cons (q := (fl, o)) k10) fun d hd => by
          rw [List.mem_singleton.mp hd]
          exact ⟨_, x1, rfl, fun d k sl e => by
            have := congrArg (fun o => match o.data with | .seq x _ => x.size | _ => 0) e
            simp only [List.size_toArray] at this
            (first | lia | omega)⟩
        have hz : us.toArray.size ≤ sizeLine := by rw [List.size_toArray, sizeLine_eq]; (first | lia | omega)
        have hfl : ∀ p ∈ news1, p.1 ≠ fl := fun p hp => Nat.ne_of_lt (l9 p hp)
        have hst := fun o => own_keepL N9 hown (Kp.cons (q := o) k10)
        generalize hnn : ns[i] = nm at *
        repeat' (first | ((with_reducible show wpAny _ _ (exec _ _) _ _ _); k_fold) | ((fail_if_success (with_reducible refine stop_of Stop4 (by constructor) ?_)); (fail_if_success (with_reducible refine stop_of Stop1 (by constructor) ?_)); first | (k_unfold; (try dsimp only)) | (k_end; wrow_close) | walk1 | (dsimp only; walk1) | (leave1; try dsimp only)) | walk_at "mine item" | fail)
        · have hin : (dd [] (ns.take i)).any (· == nm) = true := by assumption
          have hni : nm ∈ dd [] (ns.take i) := by
            obtain ⟨z, z1, z2⟩ := List.any_eq_true.mp hin
            rw [← eq_of_beq z2]; exact z1
          refine FStep.next (by assumption) N10 hown2 ⟨fun z hz => if_neg hz, us, _, .head _, ?_, fun p hp => .tail _ (off_mem (x3 p hp) (hfl p hp))⟩
          rw [take_snoc _ _ hi, dd_snoc, hnn, if_pos hni]
          exact x2
        · have hin : (dd [] (ns.take i)).any (· == nm) = false := by assumption
          have hni : nm ∉ dd [] (ns.take i) := fun hm => by
            have : (dd [] (ns.take i)).any (· == nm) = true := List.any_eq_true.mpr ⟨nm, hm, beq_self_eq_true nm⟩
            rw [hin] at this; cases this
          rename News _ _ _ ((fl, _) :: off fl nx) => N11
          rw [List.push_toArray] at N11
          refine FStep.next (by assumption) N11 hown2 ⟨fun z hz => if_neg hz, _, _, .head _, ?_, fun p hp => .tail _ (off_mem (x3 p hp) (hfl p hp))⟩
          rw [take_snoc _ _ hi, dd_snoc, hnn, if_neg hni]
          exact x2.append' (.cons _ _ .nil)
      · intro mx nx h tk9 J9 F9 N9; refine fold_goal ?_; intro G9 k9; obtain ⟨us, k', x1, x2, x3⟩ := J9; refine k9 ?_; clear k9 G9
        rw [hlv, List.take_length] at x2
        repeat' (first | ((with_reducible show wpAny _ _ (exec _ _) _ _ _); k_fold) | ((fail_if_success (with_reducible refine stop_of Stop4 (by constructor) ?_)); (fail_if_success (with_reducible refine stop_of Stop1 (by constructor) ?_)); first | (k_unfold; (try dsimp only)) | (k_end; wrow_close) | walk1 | (dsimp only; walk1) | (leave1; try dsimp only)) | walk_at "mine item" | fail)
        exact hret _ _ _ _ (by assumption) (by assumption) (kq.trans (Kp.sub x3)) ⟨_, us, _, rfl, x1, x2⟩
theorem model_names {w : World} {v : Value} {D : Dat} {ns : List Str} {news : Led} (hD : Mo D) (hT : TIn news v D) (hN : NmM D ns) (hz : ns.length ≤ 40) (hs : szD D ≤ 1000) : Con w 338 [v] 150 800 news [] (fun v n' => ∃ l vs k, v = .ref l ∧ (l, listOf vs.toArray k) ∈ n' ∧ StrsAre vs (dd [] ns)) False := by
  obtain ⟨pa, rfl⟩ : ∃ va, v = .ref va := by cases hD <;> cases hT <;> exact ⟨_, rfl⟩
  cases hD with
  | empty =>
    refine tin1 hT fun t n1 hm => ?_
    cases hN
    intro mean mg mb dp un gd cn cs a ccd cl outer A₀ base h₀ L m s Q E B F X N Tp hk hd1 hu1 hret herr; refine wpAny_call ?_; k_dflt (refine' code_def (binds := [("model", .ref pa)]) ?k1 ?k2 ?k3 ?k4 ?k5 ?kA ?kF ?kK ?k6 ?k7 ?k8 ?k9 ?kB ?_ ?c2 ?c3 ?c4 ?c5; (case kA => exact rfl); (case kF => exact rfl); (case kK => assumption); (case k1 => k_asm); (case k2 => k_asm); (case k3 => k_asm); (case k4 => k_asm); (case k5 => k_asm); (case k6 => k_is); (case k7 => k_is); (case k8 => first | exact room0 (by assumption) | exact room1 (by assumption) rfl | exact room2 (by assumption) rfl | exact room3 (by assumption) rfl | exact roomA (by assumption) rfl | exact roomS (by assumption) rfl | exact roomM (by assumption) rfl | exact roomB (by assumption) rfl); (case k9 => exact BindsTo.of_eq rfl); (case c5 => decide); (case kB => exact locs rfl); (case c2 => exact rfl); (case c3 => exact rfl); (case c4 => exact rfl); k_whole); intro g' L' hp FG' F' N' B' X' T'; (try dsimp only [List.reverse_cons, List.reverse_nil, List.nil_append, List.cons_append, List.length_cons, List.length_nil, Nat.zero_add] at F' ⊢); k_fold; refine fold_env ?_; intro e₁ A₁
    repeat' (first | ((with_reducible show wpAny _ _ (exec _ _) _ _ _); k_fold) | ((fail_if_success (with_reducible refine stop_of Stop4 (by constructor) ?_)); (fail_if_success (with_reducible refine stop_of Stop1 (by constructor) ?_)); first | (k_unfold; (try dsimp only)) | (k_end; wrow_close) | walk1 | (dsimp only; walk1) | (leave1; try dsimp only)) | walk_at "mine item" | fail)
    exact hret _ _ _ _ (by assumption) (by assumption) (Kp.sub fun p hp => .tail _ (.tail _ hp)) ⟨_, [], _, rfl, .head _, .nil⟩
  | any =>
    refine tin1 hT fun t n1 hm => ?_
    cases hN
    intro mean mg mb dp un gd cn cs a ccd cl outer A₀ base h₀ L m s Q E B F X N Tp hk hd1 hu1 hret herr; refine wpAny_call ?_; k_dflt (refine' code_def (binds := [("model", .ref pa)]) ?k1 ?k2 ?k3 ?k4 ?k5 ?kA ?kF ?kK ?k6 ?k7 ?k8 ?k9 ?kB ?_ ?c2 ?c3 ?c4 ?c5; (case kA => exact rfl); (case kF => exact rfl); (case kK => assumption); (case k1 => k_asm); (case k2 => k_asm); (case k3 => k_asm); (case k4 => k_asm); (case k5 => k_asm); (case k6 => k_is); (case k7 => k_is); (case k8 => first | exact room0 (by assumption) | exact room1 (by assumption) rfl | exact room2 (by assumption) rfl | exact room3 (by assumption) rfl | exact roomA (by assumption) rfl | exact roomS (by assumption) rfl | exact roomM (by assumption) rfl | exact roomB (by assumption) rfl); (case k9 => exact BindsTo.of_eq rfl); (case c5 => decide); (case kB => exact locs rfl); (case c2 => exact rfl); (case c3 => exact rfl); (case c4 => exact rfl); k_whole); intro g' L' hp FG' F' N' B' X' T'; (try dsimp only [List.reverse_cons, List.reverse_nil, List.nil_append, List.cons_append, List.length_cons, List.length_nil, Nat.zero_add] at F' ⊢); k_fold; refine fold_env ?_; intro e₁ A₁
    repeat' (first | ((with_reducible show wpAny _ _ (exec _ _) _ _ _); k_fold) | ((fail_if_success (with_reducible refine stop_of Stop4 (by constructor) ?_)); (fail_if_success (with_reducible refine stop_of Stop1 (by constructor) ?_)); first | (k_unfold; (try dsimp only)) | (k_end; wrow_close) | walk1 | (dsimp only; walk1) | (leave1; try dsimp only)) | walk_at "mine item" | fail)
    exact hret _ _ _ _ (by assumption) (by assumption) (Kp.sub fun p hp => .tail _ (.tail _ hp)) ⟨_, [], _, rfl, .head _, .nil⟩
  | kids hP => exact model_names2 .kids hT hN hz hs
  | mixed h => exact model_names2 (.mixed h) hT hN hz hs
/-- the frames below stand in the ledger -/
noncomputable def OutL (outer : List Env) (news : Led) : Prop := ∀ env ∈ outer, env.scope.kind = .function ∧ ∃ b o, env.frame = some b ∧ (b, o) ∈ news ∧ ∃ es n, o.data = .dict es n
noncomputable abbrev frs (outer : List Env) : List Addr := outer.filterMap (·.frame)
/-- kept, but for the slots of the frames below -/
noncomputable def KpS (fs : List Addr) (news news' : Led) : Prop := ∀ p ∈ news, (p.1 ∉ fs → p ∈ news') ∧ (p.1 ∈ fs → ∃ sl, (p.1, ({ p.2 with slots := sl } : Obj)) ∈ news')
noncomputable abbrev nfr (fs : List Addr) (news : Led) : Led := news.filter fun p => decide (p.1 ∉ fs)
theorem nfr_mem {fs : List Addr} {news : Led} {p : Addr × Obj} (h : p ∈ news) (k : p.1 ∉ fs) : p ∈ nfr fs news := List.mem_filter.mpr ⟨h, decide_eq_true k⟩
theorem nfr_sub {fs : List Addr} {news : Led} {p : Addr × Obj} (h : p ∈ nfr fs news) : p ∈ news ∧ p.1 ∉ fs := ⟨(List.mem_filter.mp h).1, of_decide_eq_true (List.mem_filter.mp h).2⟩
theorem funL {g base : Heap} : ∀ {outer : List Env}, (∀ env ∈ outer, env.scope.kind = .function ∧ ∃ b o, env.frame = some b ∧ base.get? b = none ∧ g.get? b = some o ∧ ∃ es n, o.data = .dict es n) → g.FunFrames base outer
  | [], _ => trivial
  | env :: _, h => by
    obtain ⟨h1, b, o, h2, h3, h4, es, n, h5⟩ := h env (.head _)
    exact ⟨by rw [h1]; decide, ⟨b, o, h2, h3, h4, fun vs e => by rw [h5] at e; cases e⟩, funL fun e he => h e (.tail _ he)⟩
section
variable {prog : Program} {w : World} {s : Shared} {gw : Heap} {outer : List Env} {dp un : Nat} {gd : Option (List Code)} {cn : Str} {cs : Scope} {L a : Addr} {ccd : Value} {cl : List (Str × Addr)} {m : Str → Option Value} {news : Led} {K : Frag} {p : Program} {loose : List Str} {mean : ExcName → Option Value} {mg mb : Str → Option Value}
/-- the ground of a def that may turn the frames below, and what its leaving gives -/
theorem groundF (O : OutL outer news) (F : Fr gw L s.heap m) (X : K.In gw) (N : News gw L s.heap news) (T : Top p loose mean mg mb gw) (hk : cs.kind = .function) :
    ∃ g base, g = hideAll s.heap ((nfr (frs outer) news).map (·.1)) ∧ Below (ktrTop dp un gd cn cs L a ccd cl outer) base (envX cn cs L a ccd cl :: outer) g ∧ K.In g ∧ Top p loose mean mg mb g ∧ K.In base ∧ Top p loose mean mg mb base ∧ KtsDicts ((envX cn cs L a ccd cl :: outer).filterMap (·.frame)) g ∧ (∀ b o, g.get? b = some o → b ∉ (envX cn cs L a ccd cl :: outer).filterMap (·.frame) → base.get? b = some o) ∧
      ∀ g' L' m' h' nl', KtsTurn ((envX cn cs L a ccd cl :: outer).filterMap (·.frame)) g g' → Fr g' L' h' m' → News g' L' h' nl' → Kp [] (nfr (frs outer) news) nl' →
        ∃ news', Fr gw L h' m ∧ News gw L h' news' ∧ KpS (frs outer) news news' := by
  have hmem : ∀ b ∈ frs outer, ∃ o, (b, o) ∈ news ∧ ∃ es n, o.data = .dict es n := fun b hb => by
    obtain ⟨env, he, hf⟩ := List.mem_filterMap.mp hb
    obtain ⟨_, b', o, h2, h3, h4⟩ := O env he
    rw [hf] at h2
    cases h2
    exact ⟨o, h3, h4⟩
  have nm : ∀ b o, gw.get? b = some o → b ∉ news.map (·.1) := fun b o e q => by
    obtain ⟨p, hp, rfl⟩ := List.mem_map.mp q
    rw [(N p hp).2.2] at e; cases e
  have nn : ∀ b, b ∉ news.map (·.1) → b ∉ (nfr (frs outer) news).map (·.1) := fun b h q => by
    obtain ⟨p, hp, rfl⟩ := List.mem_map.mp q
    exact h (List.mem_map_of_mem (nfr_sub hp).1)
  have nf : ∀ b ∈ frs outer, b ∉ (nfr (frs outer) news).map (·.1) := fun b h q => by
    obtain ⟨p, hp, rfl⟩ := List.mem_map.mp q
    exact (nfr_sub hp).2 h
  have nL : L ∉ news.map (·.1) := fun q => by
    obtain ⟨p, hp, e⟩ := List.mem_map.mp q
    exact (N p hp).2.1 e
  obtain ⟨oL, es, ep, hL, hLd, hLk, hLf⟩ := F.ns
  generalize hg : hideAll s.heap ((nfr (frs outer) news).map (·.1)) = g
  have gL : g.get? L = some oL := hg ▸ hideAll_get _ hL (nn _ nL)
  have gf : ∀ b ∈ frs outer, ∃ o, (b, o) ∈ news ∧ g.get? b = some o ∧ ∃ es n, o.data = .dict es n := fun b hb => by
    obtain ⟨o, h1, h2⟩ := hmem b hb
    exact ⟨o, h1, hg ▸ hideAll_get _ (N _ h1).1 (nf b hb), h2⟩
  have st : gw.StaysIn g := fun b o e => hg ▸ hideAll_get _ (F.keep b o e) (nn _ (nm b o e))
  have gwL : gw.get? L = none := kts_self F
  have fsn : ∀ b ∈ L :: frs outer, gw.get? b = none := fun b hb => by
    rcases List.mem_cons.mp hb with rfl | hb
    · exact gwL
    · obtain ⟨o, h1, _⟩ := hmem b hb
      exact (N _ h1).2.2
  have fse : (envX cn cs L a ccd cl :: outer).filterMap (·.frame) = L :: frs outer := rfl
  have st2 : gw.StaysIn (hideAll g (L :: frs outer)) := fun b o e => hideAll_get _ (st b o e) fun hm => by
    rw [fsn b hm] at e; cases e
  refine ⟨g, hideAll g (L :: frs outer), rfl, ⟨rfl, fun b o e => of_hideAll _ e, ⟨by show cs.kind ≠ _; rw [hk]; decide, ⟨L, oL, rfl, hideAll_none _ (.head _), gL, fun vs e => by rw [hLd] at e; cases e⟩, funL fun env he => ?_⟩⟩, X.keeps st, T.keeps st, X.keeps st2, T.keeps st2, ?_, fun b o e hn => hideAll_get _ e (fse ▸ hn), ?_⟩
  · obtain ⟨h1, b, o, h2, h3, h4⟩ := O env he
    have hb : b ∈ frs outer := List.mem_filterMap.mpr ⟨env, he, h2⟩
    obtain ⟨o', h5, h6, h7⟩ := gf b hb
    exact ⟨h1, b, o', h2, hideAll_none _ (.tail _ hb), h6, h7⟩
  · intro b hb
    rcases List.mem_cons.mp (fse ▸ hb) with rfl | hb
    · exact ⟨oL, es, ep, gL, hLd⟩
    · obtain ⟨o, _, h2, es, n, h3⟩ := gf b hb
      exact ⟨o, es, n, h2, h3⟩
  · intro g' L' m' h' nl' TT F' N' kk
    rw [fse] at TT
    obtain ⟨sl, hsl⟩ := TT.frame L oL gL (.head _)
    refine ⟨nl' ++ (frs outer).filterMap (fun b => (h'.get? b).map fun o => (b, o)), ⟨⟨_, es, ep, F'.keep _ _ hsl, hLd, hLk, hLf⟩, fun b o e => F'.keep b o (TT.other b o (st b o e) fun hm => by rw [fsn b hm] at e; cases e), F.above⟩, fun q hq => ?_, fun q hq => ⟨fun hn => ?_, fun hm => ?_⟩⟩
    · rcases List.mem_append.mp hq with hq | hq
      · refine ⟨(N' q hq).1, fun e => ?_, ?_⟩
        · have := (N' q hq).2.2
          rw [e, hsl] at this; cases this
        · cases e : gw.get? q.1 with
          | none => rfl
          | some o =>
            have := TT.other _ _ (st _ _ e) fun hm => by rw [fsn _ hm] at e; cases e
            rw [(N' q hq).2.2] at this; cases this
      · obtain ⟨b, hb, e⟩ := List.mem_filterMap.mp hq
        obtain ⟨o, h1, h2⟩ := Option.map_eq_some_iff.mp e
        subst h2
        obtain ⟨o', h3, _⟩ := hmem b hb
        exact ⟨h1, (N _ h3).2.1, (N _ h3).2.2⟩
    · exact List.mem_append_left _ (kk q (nfr_mem hq hn) fun e => nomatch e)
    · obtain ⟨o, h1, h2, _⟩ := gf q.1 hm
      have : o = q.2 := by
        have z1 := (N _ h1).1
        rw [(N _ hq).1] at z1
        exact (Option.some.inj z1).symm
      subst this
      obtain ⟨sl, hsl⟩ := TT.frame q.1 q.2 h2 (.tail _ hm)
      exact ⟨sl, List.mem_append_right _ (List.mem_filterMap.mpr ⟨q.1, hm, by rw [F'.keep _ _ hsl]; rfl⟩)⟩
end
section
variable {prog : Program} {w : World} {A : Around} {s : Shared} {gw : Heap} {outer : List Env} {cn : Str} {cs : Scope} {L a : Addr} {ccd : Value} {cl : List (Str × Addr)} {m : Str → Option Value} {news : Led} {K : Frag} {p : Program} {loose : List Str} {mean : ExcName → Option Value} {mg mb : Str → Option Value}
  {R : Result → Shared → Prop} {name qual : Str} {params : Arguments} {body : List Stmt} {scope : Scope} {dV kV doc pm cdv ct oc : Value} {an od : Option Addr} {osl : Array (Option Value)} {f : Addr} {args : Args} {binds : List (Str × Value)}
theorem code_defF (O : OutL outer news) (F : Fr gw L s.heap m) (X : K.In gw) (N : News gw L s.heap news) (T : Top p loose mean mg mb gw) (hA : A.frames = some (envX cn cs L a ccd cl :: outer)) (hk : cs.kind = .function)
    (ho : K.lookup f = some ⟨oc, od, .func (fnOf name qual params body scope dV kV doc pm an cdv ct), osl⟩) (hcd : codeIn K cdv qual = true) (hroom : A.depth < recursionLimit)
    (hbind : BindsTo s (fnOf name qual params body scope dV kV doc pm an cdv ct) args binds) (hloc : ∀ y ∈ binds, scope.names.lookup y.1 = some .local)
    (h : ∀ g base L' h₁, Fr g L' h₁ (fun y => binds.reverse.lookup y) → News g L' h₁ (nfr (frs outer) news) → Below A base (envX cn cs L a ccd cl :: outer) g → K.In g → Top p loose mean mg mb g → K.In base → Top p loose mean mg mb base → KtsDicts ((envX cn cs L a ccd cl :: outer).filterMap (·.frame)) g → (∀ b o, g.get? b = some o → b ∉ (envX cn cs L a ccd cl :: outer).filterMap (·.frame) → base.get? b = some o) →
      (∀ v g' L'' m' nl' s', KtsTurn ((envX cn cs L a ccd cl :: outer).filterMap (·.frame)) g g' → Fr g' L'' s'.heap m' → News g' L'' s'.heap nl' → Kp [] (nfr (frs outer) news) nl' → (∀ news', Fr gw L s'.heap m → News gw L s'.heap news' → KpS (frs outer) news news' → R (.ok (.ret v)) s') → R (.ok (.ret v)) s') →
      wpAny (model prog w) (A.deeper (envOf qual scope L' f cdv)) (execs body (envOf qual scope L' f cdv))
        (fun fl s' => R (.ok (.ret (match fl with | .ret v => v | _ => .none))) s')
        (fun e s' => wpAny (model prog w) (A.deeper (envOf qual scope L' f cdv)) (leaving (envOf qual scope L' f cdv) e) (fun _ s'' => R (.error e) s'') (fun e' s'' => R (.error e') s'') s')
        { s with heap := h₁, toks := s.toks + binds.length })
    (hco : scope.isCoroutine = false) (hgen : scope.isGenerator = false) (hks : scope.kind = .function)
    (hcell : ∀ x ∈ scope.names, x.2 ≠ .cell) : codeAny (model prog w) A (.call (.ref f) args) R s := by
  obtain ⟨g, base, hg, B, X₁, T₁, X₂, T₂, D, hb, ex⟩ := groundF (dp := 0) (un := 0) (gd := none) (cn := cn) (a := a) (ccd := ccd) (cl := cl) O F X N T hk
  have X' := X.keeps F.keep
  refine codeAny_call_def (fd := fnOf name qual params body scope dV kV doc pm an cdv ct) (body := body) (binds := binds) hroom (X' _ _ ho) rfl (T.nolimit.keeps F.keep) (codeRec_of X' hcd) rfl hbind hcell hloc (fun h₁ hns hk₁ => ?_) hco hgen hks
  subst hg
  exact h _ base s.heap.objs.size h₁ ⟨hns, fun b o e => hk₁ b o (of_hideAll _ e), Nat.le_of_eq (hideAll_size _ _)⟩
    (fun p hp => ⟨hk₁ _ _ (N p (nfr_sub hp).1).1, Nat.ne_of_lt (Heap.lt_size (N p (nfr_sub hp).1).1), hideAll_none _ (List.mem_map_of_mem hp)⟩) ⟨hA, B.stays, B.frames⟩ X₁ T₁ X₂ T₂ D hb
    (fun v g' L'' m' nl' s' t1 t2 t3 t4 k => by
      obtain ⟨news', z1, z2, z3⟩ := ex g' L'' m' s'.heap nl' t1 t2 t3 t4
      exact k news' z1 z2 z3)
end
/-- what flies is seen from a ground that holds no more than the def's own -/
theorem toS {base g g₂ h' : Heap} {env : Env} {outer : List Env} {e t L : Addr} {cls : Value} {vs : List Value} {m : Str → Option Value} {news : Led} (hb : ∀ b o, g.get? b = some o → b ∉ outer.filterMap (·.frame) → base.get? b = some o) (F : Fr g L g₂ m) (hf : env.frame = some L) (R : RaisedK base (env :: outer) e cls t vs news h') (U : g₂.UpToSlots h') :
    ∃ G, Fr g L G m ∧ G.UpToSlots h' ∧ RaisedS base G (env :: outer) e cls t vs news h' := by
  obtain ⟨⟨B, hB, hl, hfl, hnew⟩, htup⟩ := R
  have fse : ∀ b, b ∈ (env :: outer).filterMap (·.frame) ↔ b = L ∨ b ∈ outer.filterMap (·.frame) := fun b => by
    rw [List.filterMap_cons, hf]
    exact List.mem_cons
  have fB : ∀ b ∈ (env :: outer).filterMap (·.frame), B.get? b = none := fun b hm => (hfl.2.2.1.mem hm).1
  let as := (List.range g₂.objs.size).filter fun b => (g.get? b).isNone && b != L
  have has : ∀ b, b ∈ as ↔ b < g₂.objs.size ∧ g.get? b = none ∧ b ≠ L := fun b => by
    show b ∈ (List.range g₂.objs.size).filter _ ↔ _
    rw [List.mem_filter, List.mem_range, Bool.and_eq_true, Option.isNone_iff_eq_none, bne_iff_ne]
  have hG : ∀ b o, (hideAll g₂ as).get? b = some o → g₂.get? b = some o ∧ (b = L ∨ ∃ o', g.get? b = some o') := fun b o e => by
    have e2 := of_hideAll _ e
    refine ⟨e2, ?_⟩
    by_cases h1 : b = L
    · exact .inl h1
    · cases h2 : g.get? b with
      | some o' => exact .inr ⟨o', rfl⟩
      | none =>
        have := hideAll_none (h := g₂) as ((has b).mpr ⟨Heap.lt_size e2, h2, h1⟩)
        rw [this] at e; cases e
  refine ⟨hideAll g₂ as, ⟨F.ns.at' fun o e => hideAll_get _ e fun hm => ((has _).mp hm).2.2 rfl, fun b o e => hideAll_get _ (F.keep b o e) fun hm => (by
    have := ((has _).mp hm).2.1
    rw [e] at this; cases this), F.above⟩, fun b o e k => U b o (of_hideAll _ e) k, ⟨⟨B, hB, fun b o e nm => ?_, fun q hq => ⟨(hl q hq).1, ?_, (hl q hq).2⟩, hfl, hnew⟩, htup⟩⟩
  · obtain ⟨e2, h | ⟨o', h⟩⟩ := hG b o e
    · exact absurd ((fse b).mpr (.inl h)) nm
    · have := F.keep b o' h
      rw [e2] at this
      cases this
      exact hB _ _ (hb b o h fun hm => nm ((fse b).mpr (.inr hm)))
  · cases e : (hideAll g₂ as).get? q.1 with
    | none => rfl
    | some o =>
      have hq1 := (hl q hq).1
      obtain ⟨e2, h | ⟨o', h⟩⟩ := hG _ _ e
      · rw [fB _ ((fse _).mpr (.inl h))] at hq1; cases hq1
      · by_cases hm : q.1 ∈ outer.filterMap (·.frame)
        · rw [fB _ ((fse _).mpr (.inr hm))] at hq1; cases hq1
        · have := hb _ _ h hm
          rw [(hl q hq).2] at this; cases this
/-- the contract of a def that may turn the frames below -/
noncomputable abbrev ConF (w : World) (f : Addr) (args : List Value) (room units : Nat) (news : Led) (Post : Value → Prop) : Prop :=
  ∀ (mean : ExcName → Option Value) (mg mb : Str → Option Value) (dp un : Nat) (gd : Option (List Code)) (cn : Str) (cs : Scope) (a : Addr) (ccd : Value) (cl : List (Str × Addr)) (outer : List Env) (gw : Heap) (L : Addr) (m : Str → Option Value) (s : Shared)
    (Q E : Value → Shared → Prop),
    OutL outer news → Fr gw L s.heap m → (hd.heap_1 w.params).In gw → News gw L s.heap news → Top seen LL mean mg mb gw → cs.kind = .function → dp + room < recursionLimit → un + units < cLine →
    (∀ r news' h' tk', Fr gw L h' m → News gw L h' news' → KpS (frs outer) news news' → Post r → Q r { s with heap := h', toks := tk' }) →
    wpAny (model PR w) (ktrTop dp un gd cn cs L a ccd cl outer) (call (.ref f) args) Q E s
theorem law_refused {w : World} {T : Str} {tp : Tok} {news : Led} (hT : T.length ≤ 1000000) (hA : Asc T) :
    ConF w 406 [.str T tp] 520 4200 news (fun v => (v = .bool true ∧ RMod T.cps.toList none) ∨ (v = .bool false ∧ ∃ D, RMod T.cps.toList (some D))) := by
  intro mean mg mb dp un gd cn cs a ccd cl outer gw L m s Q E O F X N Tp hk hd1 hu1 hret
  refine wpAny_call ?_
  k_dflt (refine' code_defF (binds := [("text", .str T tp)]) ?k1 ?k2 ?k3 ?k4 ?k5 ?kA ?kK ?k6 ?k7 ?k8 ?k9 ?kB ?_ ?c2 ?c3 ?c4 ?c5; (case kA => exact rfl); (case kK => assumption); (case k1 => k_asm); (case k2 => k_asm); (case k3 => k_asm); (case k4 => k_asm); (case k5 => k_asm); (case k6 => k_is); (case k7 => k_is); (case k8 => first | exact room0 (by assumption) | exact room1 (by assumption) rfl | exact room2 (by assumption) rfl | exact room3 (by assumption) rfl | exact roomA (by assumption) rfl | exact roomS (by assumption) rfl | exact roomM (by assumption) rfl | exact roomB (by assumption) rfl); (case k9 => exact BindsTo.of_eq rfl); (case c5 => decide); (case kB => exact locs rfl); (case c2 => exact rfl); (case c3 => exact rfl); (case c4 => exact rfl); k_whole)
  intro g' base L' hp F' N' B' X' T' XB TB D' hb ex
  (try dsimp only [List.reverse_cons, List.reverse_nil, List.nil_append, List.cons_append, List.length_cons, List.length_nil, Nat.zero_add] at F' ⊢)
  k_fold
  repeat' (first | ((with_reducible show wpAny _ _ (exec _ _) _ _ _); k_fold) | ((fail_if_success (with_reducible refine stop_of Stop1 (by constructor) ?_)); first | (k_unfold; (try dsimp only)) | (k_end; wrow_close) | walk1 | (dsimp only; walk1) | (leave1; try dsimp only)))
  (k_dflt (refine' con_use ?kNz85 (read_model hT hA) ?kBz85 ?kFz85 ?kXz85 ?kTz85 ?kKz85 ?kDz85 ?kUz85 ?kOkz85 ?kErrz85; (case kNz85 => k_asm); (case kBz85 => k_asm); (case kFz85 => k_asm); (case kXz85 => k_asm); (case kTz85 => k_asm); (case kKz85 => first | exact rfl | assumption); (case kDz85 => first | exact room0 (by assumption) | exact room1 (by assumption) rfl | exact room2 (by assumption) rfl | exact room3 (by assumption) rfl | exact roomA (by assumption) rfl | exact roomS (by assumption) rfl | exact roomM (by assumption) rfl | exact roomB (by assumption) rfl); (case kUz85 => first | exact room0 (by assumption) | exact room1 (by assumption) rfl | exact room2 (by assumption) rfl | exact room3 (by assumption) rfl | exact roomA (by assumption) rfl | exact roomS (by assumption) rfl | exact roomM (by assumption) rfl | exact roomB (by assumption) rfl)))
  case kErrz85 =>
    intro hp e t vs n9 h9 tk9 g9 Fg U R K9
    obtain ⟨G, FG, UG, RS⟩ := toS hb Fg rfl R U
    k_dflt (refine' caught_SO0 RS FG B' UG XB TB D' KtsTurn.refl ?ke ?kq ?_; (case ke => k_is); (case kq => kts_isx))
    intro h' g₂ news₂ T1 F1 N1 Got1 N2 B2 X2 T2 D2
    repeat' (first | ((with_reducible show wpAny _ _ (exec _ _) _ _ _); k_fold) | ((fail_if_success (with_reducible refine stop_of Stop1 (by constructor) ?_)); first | (k_unfold; (try dsimp only)) | (k_end; wrow_close) | walk1 | (dsimp only; walk1) | (leave1; try dsimp only)))
    try dsimp only
    repeat (k_unfold; try dsimp only)
    try dsimp only
    exact ex _ _ _ _ _ _ T1 F1 N2 K9 fun news' z1 z2 z3 => hret _ news' _ _ z1 z2 z3 (.inl ⟨rfl, hp⟩)
  intro r1 news1 hh1 tk1 F1 N1 K1 P1
  refine el_DAB P1 ?_
  intro D d1 d2
  repeat' (first | ((with_reducible show wpAny _ _ (exec _ _) _ _ _); k_fold) | ((fail_if_success (with_reducible refine stop_of Stop1 (by constructor) ?_)); first | (k_unfold; (try dsimp only)) | (k_end; wrow_close) | walk1 | (dsimp only; walk1) | (leave1; try dsimp only)))
  try dsimp only
  repeat (k_unfold; try dsimp only)
  try dsimp only
  exact ex _ _ _ _ _ _ KtsTurn.refl F1 N1 K1 fun news' z1 z2 z3 => hret _ news' _ _ z1 z2 z3 (.inr ⟨rfl, D, d1⟩)
theorem law_pool {w : World} {sa : Addr} {items : List Value} {xs : List Int} {kk : Int} {tk : Tok} {news : Led} (hkk : kk = 0 ∨ kk = 1) (hI : IntsAre items xs) (hlen : xs.length ≤ 63) :
    ∀ (mean : ExcName → Option Value) (mg mb : Str → Option Value) (dp un : Nat) (gd : Option (List Code)) (cn : Str) (cs : Scope) (a : Addr) (ccd : Value) (cl : List (Str × Addr)) (outer : List Env) (A₀ : Around) (base h₀ : Heap) (L : Addr) (m : Str → Option Value) (s : Shared)
    (Q E : Value → Shared → Prop), h₀.IsList sa items.toArray →
    Below A₀ base outer h₀ → Fr h₀ L s.heap m → (hd.heap_1 w.params).In h₀ → News h₀ L s.heap news → Top seen LL mean mg mb h₀ → cs.kind = .function → dp + 30 < recursionLimit → un + 200 < cLine →
    (∀ r news' h' tk', Fr h₀ L h' m → News h₀ L h' news' → Kp [] news news' → (∃ sl, r = .ref sl ∧ Src sl news' ∧ ∀ p ∈ news, p.1 < sl) → Q r { s with heap := h', toks := tk' }) →
    wpAny (model PR w) (ktrTop dp un gd cn cs L a ccd cl outer) (call (.ref 345) [.ref sa, .int kk tk]) Q E s := by
  intro mean mg mb dp un gd cn cs a ccd cl outer A₀ base h₀ L m s Q E hL B F X N Tp hk hd1 hu1 hret
  refine wpAny_call ?_
  k_dflt (refine' code_def (binds := [("script", .ref sa), ("k", .int kk tk)]) ?k1 ?k2 ?k3 ?k4 ?k5 ?kA ?kF ?kK ?k6 ?k7 ?k8 ?k9 ?kB ?_ ?c2 ?c3 ?c4 ?c5; (case kA => exact rfl); (case kF => exact rfl); (case kK => assumption); (case k1 => k_asm); (case k2 => k_asm); (case k3 => k_asm); (case k4 => k_asm); (case k5 => k_asm); (case k6 => k_is); (case k7 => k_is); (case k8 => first | exact room0 (by assumption) | exact room1 (by assumption) rfl | exact room2 (by assumption) rfl | exact room3 (by assumption) rfl | exact roomA (by assumption) rfl | exact roomS (by assumption) rfl | exact roomM (by assumption) rfl | exact roomB (by assumption) rfl); (case k9 => exact BindsTo.of_eq rfl); (case c5 => decide); (case kB => exact locs rfl); (case c2 => exact rfl); (case c3 => exact rfl); (case c4 => exact rfl); k_whole)
  intro g' L' hp FG' F' N' B' X' T'
  (try dsimp only [List.reverse_cons, List.reverse_nil, List.nil_append, List.cons_append, List.length_cons, List.length_nil, Nat.zero_add] at F' ⊢)
  k_fold
  have hL' : g'.IsList sa items.toArray := by
    obtain ⟨o, e, h⟩ := hL
    exact ⟨o, FG'.keep _ _ e, h⟩
  have hk0 : 0 ≤ kk := by (first | lia | omega)
  have hk1 : kk ≤ 1 := by (first | lia | omega)
  repeat' (first | ((with_reducible show wpAny _ _ (exec _ _) _ _ _); k_fold) | ((fail_if_success (with_reducible refine stop_of Stop3 (by constructor) ?_)); (fail_if_success (with_reducible refine stop_of Stop1 (by constructor) ?_)); first | (k_unfold; (try dsimp only)) | (k_end; wrow_close) | walk1 | (dsimp only; walk1) | (leave1; try dsimp only)))
  rename Fr g' L' _ _ => F12
  refine split_at F12 (fun mm fl s' => CellP g' L' (Str.ofString "cell") news s mm fl s') ?_ (fun fl s' hv => ?_)
  · repeat' (first | ((with_reducible show wpAny _ _ (exec _ _) _ _ _); k_fold) | ((fail_if_success (with_reducible refine stop_of Stop1 (by constructor) ?_)); first | (k_unfold; (try dsimp only)) | (k_end; wrow_close) | walk1 | (dsimp only; walk1) | (leave1; try dsimp only)))
    · exact .mk (by assumption) (by assumption)
    · exact .mk (cell_same (by assumption)) (by assumption)
  · obtain ⟨F13, N13⟩ := hv
    clear F12
    repeat' (first | ((with_reducible show wpAny _ _ (exec _ _) _ _ _); k_fold) | ((fail_if_success (with_reducible refine stop_of Stop3 (by constructor) ?_)); (fail_if_success (with_reducible refine stop_of Stop1 (by constructor) ?_)); first | (k_unfold; (try dsimp only)) | (k_end; wrow_close) | walk1 | (dsimp only; walk1) | (leave1; try dsimp only)))
    rename ∀ (p : Addr × Obj), p ∈ news → p.1 < _ => hlt
    exact hret _ _ _ _ (by assumption) (by assumption) (Kp.cons Kp.refl) ⟨_, rfl, ⟨_, _, _, _, _, .head _⟩, hlt⟩
noncomputable abbrev A7 (l : List Nat) : Prop := ∀ c ∈ l, c < 128
theorem names5_asc : ∀ nm ∈ names5, A7 nm.cps.toList := by decide +kernel
theorem marks4_asc : ∀ mk ∈ marks4, A7 mk.cps.toList := by decide +kernel
theorem app_asc {a b : List Nat} (h : A7 a) (k : A7 b) : A7 (a ++ b) := fun c hc => (List.mem_append.mp hc).elim (h c) (k c)
theorem cons_asc {a : Nat} {b : List Nat} (h : a < 128) (k : A7 b) : A7 (a :: b) := fun c hc => (List.mem_cons.mp hc).elim (fun e => e ▸ h) (k c)
theorem nil_asc : A7 [] := fun _ h => nomatch h
theorem sp_asc {sp : Bool} {s : List Nat} (h : spOk sp s) : A7 s := by
  rcases h with rfl | ⟨_, rfl | rfl⟩
  · exact nil_asc
  · exact cons_asc (by decide) nil_asc
  · exact cons_asc (by decide) (cons_asc (by decide) nil_asc)
theorem sg_asc (kd : Str) : sgOf kd < 128 := by rcases sgOf_or kd with h | h <;> rw [h] <;> decide
mutual
theorem Wr.asc {sp : Bool} {d : Dat} {t : List Nat} : Wr sp d t → A7 t
  | .name a b => app_asc (names5_asc _ a) (marks4_asc _ b)
  | .grp (kd := kd) _ _ c r => cons_asc (by decide) (app_asc (WrL.asc (sg_asc kd) r) (cons_asc (by decide) (marks4_asc _ c)))
theorem WrL.asc {sp : Bool} {sg : Nat} (hs : sg < 128) {b : Bool} {ds : List Dat} {u : List Nat} : WrL sp sg b ds u → A7 u
  | .nil => nil_asc
  | .cons a b c r => app_asc (by split; exact nil_asc; exact cons_asc hs nil_asc) (app_asc (sp_asc a) (app_asc (Wr.asc c) (app_asc (sp_asc b) (WrL.asc hs r))))
end
theorem MixT.asc {sp : Bool} {ns : List Str} {u : List Nat} (h : MixT sp ns u) : A7 u := by
  induction h with
  | nil => exact nil_asc
  | cons a b c r ih => exact app_asc (sp_asc a) (cons_asc (by decide) (app_asc (sp_asc b) (app_asc (names5_asc _ c) ih)))
theorem Tx.asc {sp : Bool} {D : Dat} {t : List Nat} (h : Tx sp D t) : A7 t := by
  cases h with
  | empty => exact (by decide : A7 eE)
  | any => exact (by decide : A7 eA)
  | kids x => exact x.asc
  | mixed a b c d e f =>
    refine cons_asc (by decide) (app_asc (sp_asc a) (app_asc (by decide : A7 eP) (app_asc b.asc (app_asc (sp_asc c) (cons_asc (by decide) ?_)))))
    rcases d with rfl | ⟨rfl, _⟩
    · exact cons_asc (by decide) nil_asc
    · exact nil_asc
/-- the machine with fuel -/
noncomputable def runG : Nat → St → Option (Option (Dat × List Nat))
  | 0, _ => none
  | n + 1, s => match stepG s with
    | .inl s' => runG n s'
    | .inr x => some x
theorem runG_ok : ∀ (n : Nat) {s : St} {x : Option (Dat × List Nat)}, runG n s = some x → Ev s x
  | 0, _, _, h => by cases h
  | n + 1, s, x, h => by
    unfold runG at h
    cases e : stepG s with
    | inl s' => rw [e] at h; exact .go e (runG_ok n h)
    | inr y => rw [e] at h; cases h; exact .stop e
/-- what is left is told refused: none, or a rest that is not spaces alone -/
noncomputable def bad (x : Option (Option (Dat × List Nat))) : Bool := match x with
  | none => false
  | some none => true
  | some (some (_, r)) => !(r.dropWhile isSp).isEmpty
noncomputable def refB (T : List Nat) : Bool :=
  let r := T.dropWhile isSp
  if eE.isPrefixOf r then !((r.drop 5).dropWhile isSp).isEmpty
  else if eA.isPrefixOf r then !((r.drop 3).dropWhile isSp).isEmpty
  else if headIs (· == 40) r then
    if eP.isPrefixOf ((r.drop 1).dropWhile isSp) then bad (runG 60 (.mix [] ((((r.drop 1).dropWhile isSp).drop 7).dropWhile isSp)))
    else bad (runG 60 (.grp true [(Str.ofString "", [])] ((r.drop 1).dropWhile isSp)))
  else true
theorem more_none {T : List Nat} {D : Dat} {r : List Nat} (h : RSp (T.dropWhile isSp) (some (D, r))) (k : (!(r.dropWhile isSp).isEmpty) = true) : RMod T none :=
  .inr ⟨D, r, h, by rw [if_neg (by intro e; rw [e] at k; cases k)]⟩
theorem refB_ok {T : List Nat} (h : refB T = true) : RMod T none := by
  unfold refB at h
  dsimp only at h
  by_cases h1 : eE.isPrefixOf (T.dropWhile isSp) = true
  · rw [if_pos h1] at h
    exact more_none (.empty h1) h
  · rw [if_neg h1] at h
    replace h1 := Bool.eq_false_iff.mpr h1
    by_cases h2 : eA.isPrefixOf (T.dropWhile isSp) = true
    · rw [if_pos h2] at h
      exact more_none (.any h1 h2) h
    · rw [if_neg h2] at h
      replace h2 := Bool.eq_false_iff.mpr h2
      by_cases h3 : headIs (· == 40) (T.dropWhile isSp) = true
      · rw [if_pos h3] at h
        by_cases h4 : eP.isPrefixOf (((T.dropWhile isSp).drop 1).dropWhile isSp) = true
        · rw [if_pos h4] at h
          generalize e : runG 60 (.mix [] (((((T.dropWhile isSp).drop 1).dropWhile isSp).drop 7).dropWhile isSp)) = X at h
          match X, h with
          | some none, _ => exact .inl ⟨.mix h1 h2 h3 h4 (runG_ok _ e), rfl⟩
          | some (some (D, r)), h => exact more_none (.mix h1 h2 h3 h4 (runG_ok _ e)) h
        · rw [if_neg h4] at h
          replace h4 := Bool.eq_false_iff.mpr h4
          generalize e : runG 60 (.grp true [(Str.ofString "", [])] (((T.dropWhile isSp).drop 1).dropWhile isSp)) = X at h
          match X, h with
          | some none, _ => exact .inl ⟨.kids h1 h2 h3 h4 (runG_ok _ e), rfl⟩
          | some (some (D, r)), h => exact more_none (.kids (X := some (D, r)) h1 h2 h3 h4 (runG_ok _ e)) h
      · exact .inl ⟨.nope h1 h2 (Bool.eq_false_iff.mpr h3), rfl⟩
noncomputable def sb : Nat → Nat
  | 0 => 4
  | k + 1 => 4 + 3 * sb k
theorem szL_le {n : Nat} : ∀ (ds : List Dat), (∀ d ∈ ds, szD d ≤ n) → szL ds ≤ ds.length * n
  | [], _ => by simp [szL]
  | d :: ds, h => by
    have h1 := h d (.head _)
    have h2 := szL_le ds fun x hx => h x (.tail _ hx)
    simp only [szL, List.length_cons, Nat.succ_mul]; (first | lia | omega)
section
open PySem.Builtin.Str
theorem occ_stay (s sub : Str) (hi limit : Nat) : ∀ (l : List Nat) (st : Array Nat × Nat), limit ≤ st.fst.size → (forIn l st (StrLaws.occBody s sub hi limit)).run.fst = st.fst
  | [], _, _ => rfl
  | a :: l, st, h => by
    rw [List.forIn_cons]
    unfold StrLaws.occBody
    rw [if_neg fun q => absurd q.1.1.1 (by (first | lia | omega))]
    exact occ_stay s sub hi limit l (st.fst, st.snd) h
theorem occ_first {x : Str} {c : Nat} {r : List Nat} (hx : x.cps.toList = c :: r) : occurrences x (one c) 0 x.length 1 = [0] := by
  have hl : 1 ≤ x.length := by
    have : x.cps.toList.length = x.length := rfl
    rw [← this, hx, List.length_cons]; (first | lia | omega)
  have hs : subAt x (one c) 0 = true := by
    rw [StrLaws.subAt_eq, hx]
    show ([c] == [c]) = true
    exact beq_self_eq_true _
  rw [StrLaws.occ_eq, show x.length + 1 - 0 = x.length + 1 by (first | lia | omega), List.range'_succ, List.forIn_cons]
  unfold StrLaws.occBody
  rw [if_pos ⟨⟨⟨by simp, by simp⟩, by show 0 + 1 ≤ _; (first | lia | omega)⟩, hs⟩]
  have := occ_stay x (one c) x.length 1 (List.range' (0 + 1) x.length) (((#[] : Array Nat)).push 0, 0 + (one c).length) (by simp)
  show (forIn (List.range' (0 + 1) x.length) (((#[] : Array Nat)).push 0, 0 + (one c).length) (StrLaws.occBody x (one c) x.length 1)).run.fst.toList = [0]
  rw [this]; rfl
theorem glued_first {x z : Str} {c : Nat} {r : List Nat} (hx : x.cps.toList = c :: r) : (glued z (partsBetween x [0] 1)).cps.toList = z.cps.toList ++ r := by
  have hl : x.cps.size = r.length + 1 := by rw [← Array.length_toList, hx, List.length_cons]
  show (((strSub x 0 0).cps ++ z.cps) ++ (strSub x 1 x.length).cps).toList = _
  rw [Array.toList_append, Array.toList_append]
  have e1 : (strSub x 0 0).cps.toList = [] := by
    show (x.cps.extract 0 0).toList = []
    simp
  have e2 : (strSub x 1 x.length).cps.toList = r := by
    show (x.cps.extract 1 x.cps.size).toList = r
    rw [Array.toList_extract, hx]
    simp [hl]
  rw [e1, e2]; rfl
theorem gives_replace1 (x y z : Str) (t u v w : Tok) (ho : occurrences x y 0 x.length 1 = [0]) (hy : y.length = 1) (h0 : (u == 0 || v == 0) = false) (huv : (u == v) = false) (hyz : (y == z) = false) (hl : tooLong (x.length + 1 * z.length) = false) :
    PySem.Gives (PySem.Builtin.«str.replace» ⟨[.str x t, .str y u, .str z v, .int 1 w], []⟩) (.str (glued z (partsBetween x [0] 1))) := by
  show PySem.Gives (do
    let limit ← countLimit "str.replace" (some (.int 1 w)) (x.length + 1)
    let cuts := occurrences x y 0 x.length limit
    if (cuts.isEmpty || (y.length == 0 && z.length == 0)) = true then (do rule "str.replace.nothing"; ret (.str x t)) else
      (do let same ← isSame (.str y u) (.str z v)
          if same = true then (do rule "str.replace.old-is-new"; ret (.str x t)) else
          if tooLong (x.length + cuts.length * z.length) = true then unsupported "str.replace:memory" else
          retStr (glued z (partsBetween x cuts y.length)))) _
  rw [countLimit_int "str.replace" 1 w (x.length + 1) (by decide)]
  show PySem.Gives (if ((occurrences x y 0 x.length 1).isEmpty || (y.length == 0 && z.length == 0)) = true then (do rule "str.replace.nothing"; ret (.str x t)) else
      (do let same ← isSame (.str y u) (.str z v)
          if same = true then (do rule "str.replace.old-is-new"; ret (.str x t)) else
          if tooLong (x.length + (occurrences x y 0 x.length 1).length * z.length) = true then unsupported "str.replace:memory" else
          retStr (glued z (partsBetween x (occurrences x y 0 x.length 1) y.length)))) _
  rw [ho, hy, isSame_str_other y z u v h0 huv hyz]
  show PySem.Gives (if tooLong (x.length + 1 * z.length) = true then unsupported "str.replace:memory" else retStr (glued z (partsBetween x [0] 1))) _
  rw [hl]
  exact .of_eq rfl
variable {prog : Program} {w : World} {A : Around} {E : Value → Shared → Prop} {s : Shared} {Q : Value → Shared → Prop}
theorem replace_first {x y z : Str} {t u v v1 : Tok} {c : Nat} {r : List Nat} (hx : x.cps.toList = c :: r) (hy : y = one c) (hu : u ≠ 0) (hv : v ≠ 0) (huv : u ≠ v) (hyz : (y == z) = false) (hb : x.length ≤ 1000) (hz : z.length ≤ 10)
    (h : ∀ X t' k, X.cps.toList = z.cps.toList ++ r → Q (.str X t') { s with toks := k }) : wpAny (model prog w) A (call (.builtin "str.replace") [.str x t, .str y u, .str z v, .int 1 v1]) Q E s := by
  subst hy
  have hl : tooLong (x.length + 1 * z.length) = false := by
    unfold tooLong
    rw [sizeLine_eq]
    exact decide_eq_false (by (first | lia | omega))
  have hg := glued_first (z := z) hx
  refine call_gives PySem.F.slot_str_replace (typeIs_str _ _ _) PySem.F.entry_str_replace (PySem.F.args_str_replace_4 _ _ _ _) (gives_replace1 x (one c) z t u v v1 (occ_first hx) rfl (by simp [hu, hv]) (by simp [huv]) hyz hl) ⟨?_, h _ _ _ hg⟩
  have e : (glued z (partsBetween x [0] 1)).length = z.length + r.length := by
    show (glued z (partsBetween x [0] 1)).cps.size = _
    rw [← Array.length_toList, hg, List.length_append]; rfl
  have e2 : x.length = r.length + 1 := by
    show x.cps.size = _
    rw [← Array.length_toList, hx, List.length_cons]
  rw [e, sizeLine_eq]; (first | lia | omega)
theorem rindex_last {x y : Str} {t u : Tok} {c : Nat} {a r : List Nat} (hx : x.cps.toList = a ++ c :: r) (hy : y = one c) (hr : c ∉ r)
    (h : ∀ t' k, Q (.int a.length t') { s with toks := k }) : wpAny (model prog w) A (call (.builtin "str.rindex") [.str x t, .str y u]) Q E s := by
  subst hy
  have hlen : x.length = a.length + (r.length + 1) := by
    show x.cps.size = _
    rw [← Array.length_toList, hx, List.length_append, List.length_cons]
  have at1 : ∀ i, StrLaws.At x (one c) x.length i ↔ i < x.length ∧ x.cps.toList[i]? = some c := fun i => by
    show (i + 1 ≤ x.length ∧ subAt x (one c) i = true) ↔ _
    rw [StrLaws.subAt_eq]
    constructor
    · rintro ⟨h1, h2⟩
      refine ⟨h1, ?_⟩
      have h3 : (x.cps.toList.drop i).take 1 = [c] := eq_of_beq h2
      have h4 := congrArg (·[0]?) h3
      simpa using h4
    · rintro ⟨h1, h2⟩
      refine ⟨h1, ?_⟩
      have hi : i < x.cps.toList.length := h1
      have h3 : x.cps.toList[i] = c := by
        have := List.getElem?_eq_getElem hi
        rw [h2] at this
        exact (Option.some.inj this).symm
      show ((x.cps.toList.drop i).take 1 == [c]) = true
      rw [List.drop_eq_getElem_cons hi, h3]
      exact beq_self_eq_true _
  have hat : StrLaws.At x (one c) x.length a.length := (at1 _).mpr ⟨by (first | lia | omega), by rw [hx]; simp⟩
  have hafter : ∀ i, a.length < i → ¬ StrLaws.At x (one c) x.length i := fun i hi h => by
    obtain ⟨h1, h2⟩ := (at1 i).mp h
    rw [hx, List.getElem?_append_right (by (first | lia | omega))] at h2
    obtain ⟨j, hj⟩ : ∃ j, i - a.length = j + 1 := ⟨i - a.length - 1, by (first | lia | omega)⟩
    rw [hj, List.getElem?_cons_succ] at h2
    exact hr (List.mem_of_getElem? h2)
  have hlast : lastOccurrence x (one c) 0 x.length = some a.length := by
    rcases StrLaws.last_spec x (one c) with ⟨_, h⟩ | ⟨i, h1, h2, h3⟩
    · exact absurd hat (h _)
    · rcases Nat.lt_trichotomy i a.length with h4 | h4 | h4
      · exact absurd hat (h3 _ h4)
      · rw [h1, h4]
      · exact absurd h2 (hafter _ h4)
  exact call_gives PySem.F.slot_str_rindex (typeIs_str _ _ _) PySem.F.entry_str_rindex (PySem.F.args_str_rindex_2 _ _) (gives_str_rindex x (one c) t u a.length hlast) (h _ _)
end
section
variable {prog : Program} {w : World} {A : Around} {s : Shared} {gw : Heap} {cn : Str} {cs : Scope} {L a : Addr} {ccd : Value} {cl : List (Str × Addr)} {m : Str → Option Value} {news : Led} {K : Frag} {p : Program} {loose : List Str} {mean : ExcName → Option Value} {mg mb : Str → Option Value}
  {R : Result → Shared → Prop} {name qual : Str} {params : Arguments} {body : List Stmt} {scope : Scope} {dV kV doc pm cdv ct oc : Value} {an od : Option Addr} {osl : Array (Option Value)} {f : Addr} {args : Args} {binds : List (Str × Value)}
/-- a def with cells, called from the frame at the bottom, that may turn that frame -/
theorem code_defFC (F : Fr gw L s.heap m) (X : K.In gw) (N : News gw L s.heap news) (T : Top p loose mean mg mb gw) (hA : A.frames = some [envX cn cs L a ccd cl]) (hk : cs.kind = .function)
    (ho : K.lookup f = some ⟨oc, od, .func (fnOf name qual params body scope dV kV doc pm an cdv ct), osl⟩) (hcd : codeIn K cdv qual = true) (hroom : A.depth < recursionLimit)
    (hbind : BindsTo s (fnOf name qual params body scope dV kV doc pm an cdv ct) args binds) (hkind : (binds.all fun y => scope.names.lookup y.1 == some .local || scope.names.lookup y.1 == some .cell) = true)
    (hnd : ((cellsFrom 0 scope.names []).map (·.1)).Nodup)
    (h : ∀ g L' h₁ tk cells oL, Fr g L' h₁ (bindL (envOfC qual scope L' f cdv).kindOf binds fun _ => none) → News g L' h₁ (cells ++ news) →
      CellsAre (bindC (envOfC qual scope L' f cdv).kindOf binds fun _ => none) (cellsFrom (L' + 1) scope.names []) cells → Below A gw [envX cn cs L a ccd cl] g → K.In g → Top p loose mean mg mb g → (∀ p ∈ news, p.1 < L') →
      g.get? L = some oL → (∃ es n, oL.data = .dict es n) → K.In (hideAll g [L]) → Top p loose mean mg mb (hideAll g [L]) →
      (∀ v sl nl' m' L'' s', Fr (hideAll g [L]) L'' s'.heap m' → News (hideAll g [L]) L'' s'.heap nl' → (L, ({ oL with slots := sl } : Obj)) ∈ nl' → (∀ news', Fr gw L s'.heap m → News gw L s'.heap news' → (∀ p ∈ nl', p.1 ≠ L → p ∈ news') → R (.ok (.ret v)) s') → R (.ok (.ret v)) s') →
      wpAny (model prog w) (A.deeper (envOfC qual scope L' f cdv)) (execs body (envOfC qual scope L' f cdv))
        (fun fl s' => R (.ok (.ret (match fl with | .ret v => v | _ => .none))) s')
        (fun e s' => wpAny (model prog w) (A.deeper (envOfC qual scope L' f cdv)) (leaving (envOfC qual scope L' f cdv) e) (fun _ s'' => R (.error e) s'') (fun e' s'' => R (.error e') s'') s')
        { s with heap := h₁, toks := tk })
    (hco : scope.isCoroutine = false) (hgen : scope.isGenerator = false) (hks : scope.kind = .function) : codeAny (model prog w) A (.call (.ref f) args) R s := by
  refine fold_goal ?_; intro G9 k9; obtain ⟨FG, BG, st, _⟩ := groundX (R := R) (below_caller gw) F N hA rfl hk; refine k9 ?_; clear k9 G9
  have X' := X.keeps F.keep
  refine fold_goal ?_; intro G9 k9; obtain ⟨oL, es, ep, hL, hLd, hLk, hLf⟩ := FG.ns; refine k9 ?_; clear k9 G9
  have gwL : gw.get? L = none := kts_self F
  have st2 : gw.StaysIn (hideAll (hideAll s.heap (news.map (·.1))) [L]) := fun b o e => hideAll_get _ (st b o e) fun hm => by
    rw [List.mem_singleton.mp hm, gwL] at e; cases e
  refine codeAny_call_function hroom (X' _ _ ho) rfl hco hgen rfl (codeRec_of X' hcd) (hbind _ _ _ _ ?_)
  refine wpAny_newFunctionEnv_cells hks (kindsX hkind _) fun env' he s' x => ?_
  subst he
  refine ⟨(T.nolimit.keeps F.keep).keeps x.toInCall.keep, codeAny_func ?_⟩
  refine fold_goal ?_; intro G9 k9; obtain ⟨h₁, tk, rfl, _⟩ := x.done; refine k9 ?_; clear k9 G9
  have up := x.toInCall.keep
  have nd : ((cellsFrom (s.heap.objs.size + 1) scope.names []).map (·.1)).Nodup := by
    rw [cellsFrom_names scope.names (s.heap.objs.size + 1) 0 [] [] rfl]; exact hnd
  obtain ⟨cells, NC, Y⟩ := Cl.news (h₀ := s.heap) (Nat.le_refl _) fun n c hm => ⟨x.cell n c (lookup_of_mem_nodup nd hm), x.above n c hm⟩
  refine h _ s.heap.objs.size h₁ tk cells oL ⟨x.toInCall.ns, fun b o e => up b o (of_hideAll _ e), Nat.le_of_eq (hideAll_size _ _)⟩ (fun p hp => ?_) Y BG (X.keeps st) (T.keeps st) (fun p hp => Heap.lt_size (N p hp).1) hL ⟨es, ep, hLd⟩ (X.keeps st2) (T.keeps st2) ?_
  · rcases List.mem_append.mp hp with hp | hp
    · refine ⟨(NC p hp).1, (NC p hp).2.1, ?_⟩
      cases q : (hideAll s.heap (news.map (·.1))).get? p.1 with
      | none => rfl
      | some o =>
        have := of_hideAll _ q
        rw [(NC p hp).2.2] at this; cases this
    · exact ⟨up _ _ (N p hp).1, Nat.ne_of_lt (Heap.lt_size (N p hp).1), hideAll_none _ (List.mem_map_of_mem hp)⟩
  · intro v sl nl' m' L'' s' F' N' hm k
    refine k (nl'.filter fun p => decide (p.1 ≠ L)) ⟨⟨_, es, ep, (N' _ hm).1, hLd, hLk, hLf⟩, fun b o e => F'.keep b o (st2 b o e), F.above⟩ (fun p hp => ?_) fun p hp hn => List.mem_filter.mpr ⟨hp, decide_eq_true hn⟩
    obtain ⟨h1, h2⟩ := List.mem_filter.mp hp
    refine ⟨(N' p h1).1, of_decide_eq_true h2, ?_⟩
    cases q : gw.get? p.1 with
    | none => rfl
    | some o =>
      have := st2 _ _ q
      rw [(N' p h1).2.2] at this; cases this
end
theorem sb_four : ∀ k, 4 ≤ sb k
  | 0 => Nat.le_refl _
  | k + 1 => by simp only [sb]; (first | lia | omega)
theorem PT.sz {k : Nat} {D : Dat} (h : PT k D) : szD D ≤ sb k := by
  induction h with
  | name a b => simp only [szD, szL]; exact Nat.le_trans (by decide) (sb_four _)
  | grp a b c d ih =>
    rename_i k kd mk ds
    have := szL_le ds ih
    have h2 : ds.length * sb k ≤ 3 * sb k := Nat.mul_le_mul_right _ b
    simp only [szD, szL, sb]; (first | lia | omega)
theorem Mo.sz {D : Dat} (h : Mo D) : szD D ≤ 200 := by
  cases h with
  | empty => simp [szD, szL]
  | any => simp [szD, szL]
  | mixed hN =>
    have : ∀ ns ∈ mixes, szD (Dat.tuple [Dat.str (Str.ofString "mixed"), Dat.tuple (ns.map Dat.str)]) ≤ 200 := by decide +kernel
    exact this _ hN
  | kids hP =>
    have := hP.sz
    have e : sb 3 = 160 := by decide
    simp only [szD, szL] at this ⊢; (first | lia | omega)
theorem bent_mixed {ns : List Str} (h : ns ∈ mixes) : RMod ((mixP ns).drop 1) none ∧ RMod (40 :: (eP ++ mixU ns)) none ∧ RMod (40 :: mixP ns) none ∧ RMod (40 :: 41 :: (mixP ns).drop 1) none := by
  simp only [mixes, List.mem_cons, List.not_mem_nil, or_false] at h
  rcases h with rfl | rfl | rfl | rfl
  · exact ⟨refB_ok (by decide +kernel), refB_ok (by decide +kernel), refB_ok (by decide +kernel), refB_ok (by decide +kernel)⟩
  · exact ⟨refB_ok (by decide +kernel), refB_ok (by decide +kernel), refB_ok (by decide +kernel), refB_ok (by decide +kernel)⟩
  · exact ⟨refB_ok (by decide +kernel), refB_ok (by decide +kernel), refB_ok (by decide +kernel), refB_ok (by decide +kernel)⟩
  · exact ⟨refB_ok (by decide +kernel), refB_ok (by decide +kernel), refB_ok (by decide +kernel), refB_ok (by decide +kernel)⟩
/-- the contract of a def called from the frame at the bottom -/
noncomputable abbrev Con1 (w : World) (f : Addr) (args : List Value) (room units : Nat) (news : Led) (M : List Addr) (Post : Value → Led → Prop) : Prop :=
  ∀ (mean : ExcName → Option Value) (mg mb : Str → Option Value) (dp un : Nat) (gd : Option (List Code)) (cn : Str) (cs : Scope) (a : Addr) (ccd : Value) (cl : List (Str × Addr)) (gw : Heap) (L : Addr) (m : Str → Option Value) (s : Shared)
    (Q E : Value → Shared → Prop),
    Fr gw L s.heap m → (hd.heap_1 w.params).In gw → News gw L s.heap news → Top seen LL mean mg mb gw → cs.kind = .function → dp + room < recursionLimit → un + units < cLine →
    (∀ r news' h' tk', Fr gw L h' m → News gw L h' news' → Kp M news news' → Post r news' → Q r { s with heap := h', toks := tk' }) →
    wpAny (model PR w) (ktrTop dp un gd cn cs L a ccd cl []) (call (.ref f) args) Q E s
theorem szL_get : ∀ (ds : List Dat) (i : Nat) (h : i < ds.length), szD ds[i] ≤ szL ds
  | d :: ds, 0, _ => by simp only [szL, List.getElem_cons_zero]; (first | lia | omega)
  | d :: ds, i + 1, h => by
    have := szL_get ds i (Nat.lt_of_succ_lt_succ h)
    simp only [szL, List.getElem_cons_succ]; (first | lia | omega)
theorem tall_at {news : Led} : ∀ {vs : List Value} {ds : List Dat}, TAll news vs ds → ∀ (i : Nat) (h1 : i < vs.length) (h2 : i < ds.length), TIn news vs[i] ds[i]
  | _, _, .cons a r, 0, _, _ => a
  | _, _, .cons a r, i + 1, h1, h2 => tall_at r i (Nat.lt_of_succ_lt_succ h1) (Nat.lt_of_succ_lt_succ h2)
theorem all_same (a b : Nat) (h : a = b) : ((List.range (min a b)).all (fun _ => true) && a == b) = true := by
  subst h
  simp
theorem eq_same {s : Shared} {h₀ : Heap} {L : Addr} {news : Led} (N : News h₀ L s.heap news) : ∀ (k : Nat) {A : Around} {v v' : Value} {D : Dat}, szD D ≤ k → TIn news v D → TIn news v' D → A.units + k < cLine → PySem.SeqAt.EqAt A s v v' true := by
  intro k
  induction k with
  | zero => intro A v v' D h; exact absurd (szD_pos D) (by (first | lia | omega))
  | succ k ih =>
    intro A v v' D h h1 h2 hu
    cases h1 with
    | str x t =>
      cases h2
      have := PySem.SeqAt.EqAt.str_str (A := A) (s := s) x t x (by assumption)
      rwa [beq_self_eq_true] at this
    | tup m1 r1 =>
      rename_i p vs n ds
      cases h2 with
      | tup m2 r2 =>
        rename_i p2 vs2 n2
        by_cases e : p = p2
        · subst e; exact PySem.SeqAt.EqAt.same _
        · refine PySem.SeqAt.EqAt.of_refs e ?_
          have hl : vs.toArray.size = vs2.toArray.size := by rw [List.size_toArray, List.size_toArray, r1.len, r2.len]
          have := PySem.SeqAt.RcAt.tuples (A := A) (e := fun _ => true) (News.isTup N m1) (News.isTup N m2) (by (first | lia | omega)) (fun j h1 h2 => by
            have l1 : j < vs.length := by rw [List.size_toArray] at h1; exact h1
            have l2 : j < vs2.length := by rw [List.size_toArray] at h2; exact h2
            have l3 := r1.len ▸ l1
            have z := szL_get _ j l3
            simp only [szD] at h
            rw [List.getElem_toArray, List.getElem_toArray]
            exact ih (by (first | lia | omega)) (tall_at r1 j l1 l3) (tall_at r2 j l2 l3) (by rw [units_in1]; (first | lia | omega)))
          rwa [all_same _ _ hl] at this
theorem ne_same {prog : Program} {w : World} {A : Around} {E : Value → Shared → Prop} {s : Shared} {h₀ : Heap} {L a b : Addr} {news : Led} {D : Dat} {Q : Value → Shared → Prop} (N : News h₀ L s.heap news) (h1 : TIn news (.ref a) D) (h2 : TIn news (.ref b) D) (hs : szD D ≤ 300) (hu : A.units + 400 < cLine) (h : Q (.bool false) s) :
    wpAny (model prog w) A (compareOp .NotEq (.ref a) (.ref b)) Q E s := by
  cases h1 with
  | tup m1 r1 =>
    cases h2 with
    | tup m2 r2 =>
      rename_i vs n ds vs2 n2
      have hl : vs.toArray.size = vs2.toArray.size := by rw [List.size_toArray, List.size_toArray, r1.len, r2.len]
      refine PySem.SeqAt.RcNeAt.tuples (A := A) (e := fun _ => true) (News.isTup N m1) (News.isTup N m2) (by (first | lia | omega)) (fun j h1 h2 => ?_) prog w E Q (by rw [all_same _ _ hl]; exact h)
      have l1 : j < vs.length := by rw [List.size_toArray] at h1; exact h1
      have l2 : j < vs2.length := by rw [List.size_toArray] at h2; exact h2
      have l3 := r1.len ▸ l1
      have z := szL_get _ j l3
      simp only [szD] at hs
      rw [List.getElem_toArray, List.getElem_toArray]
      exact eq_same N 300 (by (first | lia | omega)) (tall_at r1 j l1 l3) (tall_at r2 j l2 l3) (by rw [units_in1]; (first | lia | omega))
theorem strs_at {vs us : List Value} {ns : List Str} (h : StrsAre vs ns) (k : StrsAre us ns) : vs.length = us.length ∧ ∀ (i : Nat) (h1 : i < vs.length) (h2 : i < us.length), ∃ x t u, vs[i] = .str x t ∧ us[i] = .str x u := by
  induction h generalizing us with
  | nil => cases k; exact ⟨rfl, fun i h => absurd h (Nat.not_lt_zero _)⟩
  | cons x t r ih =>
    cases k with
    | cons _ u k =>
      obtain ⟨e1, e2⟩ := ih k
      refine ⟨by rw [List.length_cons, List.length_cons, e1], fun i h1 h2 => ?_⟩
      cases i with
      | zero => exact ⟨_, _, _, rfl, rfl⟩
      | succ i => exact e2 i (Nat.lt_of_succ_lt_succ h1) (Nat.lt_of_succ_lt_succ h2)
theorem ne_strs {prog : Program} {w : World} {A : Around} {E : Value → Shared → Prop} {s : Shared} {h₀ : Heap} {L a b : Addr} {news : Led} {vs us : List Value} {n k : Nat} {ns : List Str} {Q : Value → Shared → Prop} (N : News h₀ L s.heap news) (ha : (a, listOf vs.toArray n) ∈ news) (hb : (b, listOf us.toArray k) ∈ news) (h1 : StrsAre vs ns) (h2 : StrsAre us ns) (hu : A.units < cLine) (h : Q (.bool false) s) :
    wpAny (model prog w) A (compareOp .NotEq (.ref a) (.ref b)) Q E s := by
  obtain ⟨e1, e2⟩ := strs_at h1 h2
  have e : (!(List.range vs.toArray.size).all (fun _ => true)) = false := by simp
  refine PySem.SeqAt.RcNeAt.lists (A := A) (e := fun _ => true) (News.isList N ha) (News.isList N hb) (by rw [List.size_toArray, List.size_toArray, e1]) hu (fun j g1 g2 => ?_) prog w E Q (by rw [e]; exact h)
  obtain ⟨x, t, u, q1, q2⟩ := e2 j (by rw [List.size_toArray] at g1; exact g1) (by rw [List.size_toArray] at g2; exact g2)
  rw [List.getElem_toArray, List.getElem_toArray, q1, q2]
  have := PySem.SeqAt.EqAt.str_str (A := A.in1) (s := s) x t x u
  rwa [beq_self_eq_true] at this
theorem con1_use {w : World} {f : Addr} {args : List Value} {room units : Nat} {news : Led} {M : List Addr} {Post : Value → Led → Prop}
    {mean : ExcName → Option Value} {mg mb : Str → Option Value} {dp un : Nat} {gd : Option (List Code)} {cn : Str} {cs : Scope} {a : Addr} {ccd : Value} {cl : List (Str × Addr)} {gw : Heap} {L : Addr} {m : Str → Option Value} {s : Shared}
    {Q E : Value → Shared → Prop} (N : News gw L s.heap news) (C : Con1 w f args room units news M Post) (F : Fr gw L s.heap m) (X : (hd.heap_1 w.params).In gw) (T : Top seen LL mean mg mb gw) (hk : cs.kind = .function) (hd : dp + room < recursionLimit) (hu : un + units < cLine)
    (ok : ∀ r news' h' tk', Fr gw L h' m → News gw L h' news' → Kp M news news' → Post r news' → Q r { s with heap := h', toks := tk' }) :
    wpAny (model PR w) (ktrTop dp un gd cn cs L a ccd cl []) (call (.ref f) args) Q E s := C _ _ _ _ _ _ _ _ _ _ _ _ _ _ _ _ _ F X N T hk hd hu ok
theorem conF_use {w : World} {f : Addr} {args : List Value} {room units : Nat} {news : Led} {Post : Value → Prop}
    {mean : ExcName → Option Value} {mg mb : Str → Option Value} {dp un : Nat} {gd : Option (List Code)} {cn : Str} {cs : Scope} {a : Addr} {ccd : Value} {cl : List (Str × Addr)} {outer : List Env} {gw : Heap} {L : Addr} {m : Str → Option Value} {s : Shared}
    {Q E : Value → Shared → Prop} (N : News gw L s.heap news) (C : ConF w f args room units news Post) (O : OutL outer news) (F : Fr gw L s.heap m) (X : (hd.heap_1 w.params).In gw) (T : Top seen LL mean mg mb gw) (hk : cs.kind = .function) (hd : dp + room < recursionLimit) (hu : un + units < cLine)
    (ok : ∀ r news' h' tk', Fr gw L h' m → News gw L h' news' → KpS (frs outer) news news' → Post r → Q r { s with heap := h', toks := tk' }) :
    wpAny (model PR w) (ktrTop dp un gd cn cs L a ccd cl outer) (call (.ref f) args) Q E s := C _ _ _ _ _ _ _ _ _ _ _ _ _ _ _ _ _ _ O F X N T hk hd hu ok
theorem str_of_cps {X Y : Str} (h : X.cps.toList = Y.cps.toList) : X = Y := by rw [← str_eta X, ← str_eta Y, h]
theorem nil_sp : ∀ c ∈ ([] : List Nat), isSp c = true := fun _ h => nomatch h
theorem hide_fr {g h : Heap} {L L' : Addr} {m : Str → Option Value} {n : Led} {oL : Obj} (hoL : g.get? L = some oL) (F : Fr g L' h m) (N : News g L' h n) : Fr (hideAll g [L]) L' h m ∧ News (hideAll g [L]) L' h ((L, oL) :: n) := by
  refine ⟨⟨F.ns, fun b o e => F.keep b o (of_hideAll _ e), Nat.le_trans (Nat.le_of_eq (hideAll_size _ _)) F.above⟩, fun p hp => ?_⟩
  rcases List.mem_cons.mp hp with rfl | hp
  · refine ⟨F.keep _ _ hoL, fun e => ?_, hideAll_none _ (.head _)⟩
    have := kts_self F
    rw [← e, hoL] at this; cases this
  · refine ⟨(N p hp).1, (N p hp).2.1, ?_⟩
    cases q : (hideAll g [L]).get? p.1 with
    | none => rfl
    | some o =>
      have := of_hideAll _ q
      rw [(N p hp).2.2] at this; cases this
theorem storeC {M : Model} {A : Around} {E : Value → Shared → Prop} {s : Shared} {name : Str} {scope : Scope} {L a : Addr} {cd : Value} {h₀ : Heap} {m : Str → Option Value} {news : Led} {x : Str} {c : Addr} {o : Obj} {v₀ : Option Value} {v : Value} {Q : Unit → Shared → Prop} (F : Fr h₀ L s.heap m) (N : News h₀ L s.heap news)
    (hm : (c, o) ∈ news) (hd : o.data = .cell v₀) (hc : (cellsFrom (L + 1) scope.names []).lookup x = some c)
    (h : ∀ h' o', Fr h₀ L h' m → News h₀ L h' ((c, o') :: off c news) → o'.data = .cell (some v) → Q () { s with heap := h' })
    (hk : scope.kind = .function := by rfl) (hl : (envOfC name scope L a cd).kindOf x = some .cell := by rfl) : wpAny M A (storeName (envOfC name scope L a cd) x v) Q E s :=
  stCN (own := []) (rest := off c news) F (news_front N hm) hc hd (fun _ h => nomatch h) off_ne h hk hl
theorem cell_imm {o : Obj} {v : Option Value} (h : o.data = .cell v) : imm o = false := by unfold imm; rw [h]
/-- what the names' expression gives -/
inductive NamesP (g : Heap) (L c : Addr) (n6 : Led) (D : Dat) (s : Shared) (m : Str → Option Value) : Value → Shared → Prop
  | mk {h : Heap} {tk : Nat} {n : Led} {nl : Addr} {us : List Value} {k : Nat} {ns : List Str} : Fr g L h m → News g L h n → (nl, listOf us.toArray k) ∈ n → StrsAre us ns → NmM D ns → ns.length ≤ 40 → (∀ p ∈ n6, p ∈ n) → nl ≠ c → NamesP g L c n6 D s m (.ref nl) { s with heap := h, toks := tk }
/-- behind the store to a cell -/
theorem cell_out {h₀ h : Heap} {L c sl : Addr} {o o2 : Obj} {v : Option Value} {n6 n7 news : Led} (N : News h₀ L h n6) (hm : (c, o) ∈ n6) (ho : o.data = .cell v) (K : ∀ p ∈ n6, p ∈ n7) (S : Src sl n6) (hs : sl < c) (k6 : Kp [sl] ((c, o) :: news) n6) (hl : ∀ p ∈ news, p.1 < c) :
    (∀ p ∈ n6, imm p.2 = true → p ∈ (c, o2) :: off c n7) ∧ Src sl ((c, o2) :: off c n7) ∧ Kp [sl] news ((c, o2) :: off c n7) := by
  refine ⟨fun p hp i => .tail _ (off_mem (K p hp) fun e => ?_), ?_, fun p hp i => .tail _ (off_mem (K p (k6 p (.tail _ hp) i)) (Nat.ne_of_lt (hl p hp)))⟩
  · obtain ⟨a, b⟩ := p
    dsimp only at e i
    subst e
    have := news_same N hp hm
    subst this
    rw [cell_imm ho] at i; cases i
  · refine fold_goal ?_; intro G9 k9; obtain ⟨a, b, ta, tb, nn, z⟩ := S; refine k9 ?_; clear k9 G9
    exact ⟨a, b, ta, tb, nn, .tail _ (off_mem (K _ z) (Nat.ne_of_lt hs))⟩
theorem sl_upto {vs : List Value} {ns : List Str} (h : StrsAre vs ns) (i : Nat) (hi : i ≤ ns.length) : slicePick vs.toArray none (some (i : Int)) none = (vs.take i).toArray := by
  have hl := strs_len_eq h
  rw [slicePick_upto vs.toArray i (by rw [List.size_toArray]; (first | lia | omega))]
theorem strs_take {vs : List Value} {ns : List Str} (h : StrsAre vs ns) : ∀ (i : Nat), StrsAre (vs.take i) (ns.take i) := by
  induction h with
  | nil => intro i; cases i <;> exact .nil
  | cons x t r ih =>
    intro i
    cases i with
    | zero => exact .nil
    | succ i => exact .cons x t (ih i)
theorem dd_take {ns : List Str} {i : Nat} {n : Str} : (n ∈ dd [] (ns.take i)) ↔ n ∈ ns.take i := by
  rw [dd_mem]; simp
/-- the bent texts' list -/
inductive BentP (g : Heap) (L : Addr) (n0 : Led) (s : Shared) : Flow → Shared → Prop
  | mk {h : Heap} {tk : Nat} {n : Led} {bl : Addr} {us : List Value} {k : Nat} {m' : Str → Option Value} : Fr g L h (fun y => if y = Str.ofString "bent" then some (.ref bl) else m' y) → News g L h n → (bl, listOf us.toArray k) ∈ n → (∀ v ∈ us, ∃ X t, v = .str X t ∧ Asc X ∧ X.length ≤ 1000 ∧ RMod X.cps.toList none) → us.length ≤ 7 → (∀ p ∈ n0, p ∈ n) →
      BentP g L n0 s .next { s with heap := h, toks := tk }
noncomputable def Bent (X : List Nat) : Prop := ∃ u t, X = 40 :: (u ++ 41 :: t) ∧ 41 ∉ t ∧ RMod (u ++ 41 :: t) none ∧ RMod (40 :: u) none ∧ RMod (40 :: X) none ∧ RMod (40 :: 41 :: (u ++ 41 :: t)) none
theorem bent_m {ns : List Str} (hN : ns ∈ mixes) {X : List Nat} (h : Tx false (Dat.tuple [Dat.str (Str.ofString "mixed"), Dat.tuple (ns.map Dat.str)]) X) : Bent X := by
  obtain rfl := h.one (tx_plain hN)
  refine fold_goal ?_; intro G9 k9; obtain ⟨b1, b2, b3, b4⟩ := bent_mixed hN; refine k9 ?_; clear k9 G9
  refine ⟨eP ++ mixU ns, if ns.length = 0 then [] else [42], by unfold mixP; simp, by split <;> decide, ?_, b2, b3, ?_⟩
  · rw [List.append_assoc]; exact b1
  · rw [List.append_assoc]; exact b4
theorem bent_k {kd mk : Str} {ds : List Dat} {X : List Nat} (h : Wr false (Dat.tuple [Dat.str kd, Dat.tuple ds, Dat.str mk]) X) : Bent X := by
  have h0 := h
  cases h with
  | grp a b c e =>
    rename_i u
    refine fold_goal ?_; intro G9 k9; obtain ⟨b1, b2, b3, b4⟩ := bent_kids h0 e a; refine k9 ?_; clear k9 G9
    refine ⟨u, mk.cps.toList, rfl, ?_, b1, b2, b3, b4⟩
    rcases mk_cps c with q | ⟨x, q, q2, _⟩
    · rw [q]; decide
    · rw [q]
      intro hm
      rw [← List.mem_singleton.mp hm] at q2
      cases q2
theorem bent3 {D : Dat} {X : Str} (h : Tx false D X.cps.toList) (hl : X.length ≤ 400) (a : List Nat) (c : Str) (hc : c.cps.toList = a) (ha : A7 a) (hal : a.length ≤ 2) (h1 : headIs mkc a = false) (h2 : a.dropWhile isSp ≠ []) :
    Asc (X ++ c) ∧ (X ++ c).length ≤ 1000 ∧ RMod (X ++ c).cps.toList none := by
  refine ⟨?_, ?_, ?_⟩
  · unfold Asc
    rw [app_cps, hc]
    exact app_asc h.asc ha
  · rw [← len_cps, app_cps, hc, List.length_append, len_cps]; (first | lia | omega)
  · rw [app_cps, hc]
    exact h.more h1 h2
theorem add_tok {prog : Program} {w : World} {A : Around} {E : Value → Shared → Prop} {s : Shared} {x y : PySem.Str} {t u : Tok} {Q : Value → Shared → Prop} (hx : (x.length == 0) = false) (hy : (y.length == 0) = false) (hs : x.length + y.length ≤ 1000) (h : Q (.str (x ++ y) s.toks) { s with toks := s.toks + 1 }) : wpAny (model prog w) A (binaryOp .Add (.str x t) (.str y u)) Q E s := by
  refine concat_gives (typeIs_str s x t) (typeIs_str s y u) PySem.noFill_str_add PySem.seq_str_add PySem.F.slot_str_add PySem.F.entry_str_add (PySem.F.args_str_add_2 _ _) (gives_str_add x y t u) ?_
  rw [hx, hy, if_neg Bool.false_ne_true, if_neg Bool.false_ne_true]
  exact ⟨by rw [PySem.Str.length_append, sizeLine_eq]; (first | lia | omega), h⟩
theorem tx_wr {kd mk : Str} {ds : List Dat} {t : List Nat} (hX : Tx false (Dat.tuple [Dat.str (Str.ofString "children"), Dat.tuple [Dat.str kd, Dat.tuple ds, Dat.str mk]]) t) : Wr false (Dat.tuple [Dat.str kd, Dat.tuple ds, Dat.str mk]) t := by
  generalize hg : Dat.tuple [Dat.str (Str.ofString "children"), Dat.tuple [Dat.str kd, Dat.tuple ds, Dat.str mk]] = D9 at hX
  cases hX with
  | empty => simp only [Dat.tuple.injEq, List.cons.injEq] at hg; cases hg.2
  | any => simp only [Dat.tuple.injEq, List.cons.injEq] at hg; cases hg.2
  | kids x =>
    simp only [Dat.tuple.injEq, List.cons.injEq, Dat.str.injEq, true_and, and_true] at hg
    refine fold_goal ?_; intro G9 k9; obtain ⟨rfl, rfl, rfl⟩ := hg; refine k9 ?_; clear k9 G9
    exact x
  | mixed => exact absurd hg (hne_of (by decide +kernel))
noncomputable abbrev OkT (X : Str) : Prop := Asc X ∧ X.length ≤ 1000 ∧ RMod X.cps.toList none
theorem okT {X : Str} {l : List Nat} (h : X.cps.toList = l) (ha : A7 l) (hl : l.length ≤ 1000) (hr : RMod l none) : OkT X :=
  ⟨by unfold Asc; rw [h]; exact ha, by rw [← len_cps, h]; exact hl, by rw [h]; exact hr⟩
theorem bent_four {X6 X9 : Str} {u t : List Nat} (hA : A7 X6.cps.toList) (hl : X6.length ≤ 400) (w1 : X6.cps.toList = 40 :: (u ++ 41 :: t)) (w3 : RMod (u ++ 41 :: t) none) (w4 : RMod (40 :: u) none) (w5 : RMod (40 :: X6.cps.toList) none) (w6 : RMod (40 :: 41 :: (u ++ 41 :: t)) none)
    (e15 : X9.cps.toList = (Str.ofString "()").cps.toList ++ (u ++ 41 :: t)) : OkT (Txt.slice X6 (some 1) none) ∧ OkT (Txt.slice X6 none (some ((40 :: u).length : Int))) ∧ OkT (Str.ofString "(" ++ X6) ∧ OkT X9 := by
  have hn : X6.length = u.length + t.length + 2 := by
    rw [← len_cps, w1]; simp only [List.length_cons, List.length_append]; (first | lia | omega)
  have hA' := hA
  rw [w1] at hA'
  have a1 : A7 (u ++ 41 :: t) := fun c hc => hA' c (.tail _ hc)
  have a2 : A7 (40 :: u) := fun c hc => hA' c (by
    rcases List.mem_cons.mp hc with rfl | hc
    · exact .head _
    · exact .tail _ (List.mem_append_left _ hc))
  have q1 : (Txt.slice X6 (some 1) none).cps.toList = u ++ 41 :: t := by
    rw [slice_from_eq (b := X6.length) (by decide) (by (first | lia | omega)) rfl, w1]
    show List.take _ (u ++ 41 :: t) = _
    exact List.take_of_length_le (by simp only [List.length_cons, List.length_append]; (first | lia | omega))
  have q2 : (Txt.slice X6 none (some ((40 :: u).length : Int))).cps.toList = 40 :: u := by
    rw [eq_of_beq (slice_closes_toL (x := X6) (j := ((40 :: u).length : Int)) (by (first | lia | omega)) (by simp only [List.length_cons]; (first | lia | omega))), w1]
    show List.take _ (40 :: (u ++ 41 :: t)) = _
    rw [show ((((40 :: u).length : Nat) : Int) - 0).toNat = (40 :: u).length by (first | lia | omega)]
    exact List.take_left (l₁ := 40 :: u) (l₂ := 41 :: t)
  have q3 : (Str.ofString "(" ++ X6).cps.toList = 40 :: X6.cps.toList := by
    rw [app_cps, show (Str.ofString "(").cps.toList = [40] by decide +kernel]; rfl
  have q4 : X9.cps.toList = 40 :: 41 :: (u ++ 41 :: t) := by
    rw [e15, show (Str.ofString "()").cps.toList = [40, 41] by decide +kernel]; rfl
  refine ⟨okT q1 a1 (by simp only [List.length_cons, List.length_append]; (first | lia | omega)) w3, okT q2 a2 (by simp only [List.length_cons]; (first | lia | omega)) w4, okT q3 (cons_asc (by decide) hA) (by rw [List.length_cons, len_cps]; (first | lia | omega)) w5, okT q4 (cons_asc (by decide) (cons_asc (by decide) a1)) (by simp only [List.length_cons, List.length_append]; (first | lia | omega)) w6⟩
theorem ite_no {c : Prop} [Decidable c] {a b : Prop} (h : ¬ c) (k : b) : if c then a else b := by rw [if_neg h]; exact k
noncomputable abbrev mD0 : Dat := Dat.tuple [Dat.str (Str.ofString "mixed"), Dat.tuple (([] : List Str).map Dat.str)]
theorem mo0 : Mo mD0 := .mixed (ns := []) (.head _)
theorem mixed0 {n : Led} {a b : Addr} {t : Tok} : TIn ((a, ({ cls := .type "tuple", data := .seq #[.str (Str.ofString "mixed") t, .ref b] } : Obj)) :: (b, ({ cls := .type "tuple", data := .seq #[] } : Obj)) :: n) (.ref a) mD0 :=
  .tup (vs := [.str (Str.ofString "mixed") t, .ref b]) (.head _) (.cons (.str _ _) (.cons (.tup (vs := []) (.tail _ (.head _)) .nil) .nil))
/-- the four kinds of model, opened in one go -/
theorem mo_split {G : Prop} {n : Led} {a : Addr} {D : Dat} (hD : Mo D) (hT : TIn n (.ref a) D)
    (k1 : ∀ t n1, (a, tupK [.str (Str.ofString "empty") t] n1) ∈ n → NmM D [] → G) (k2 : ∀ t n1, (a, tupK [.str (Str.ofString "any") t] n1) ∈ n → NmM D [] → G)
    (k3 : ∀ ns t b n1 vs n2, (a, tupK [.str (Str.ofString "mixed") t, .ref b] n1) ∈ n → (b, tupK vs n2) ∈ n → StrsAre vs ns → ns.length ≤ 3 → NmM D ns → (∀ X, Tx false D X → Bent X) → G)
    (k4 : ∀ Dk t v n1, (a, tupK [.str (Str.ofString "children") t, v] n1) ∈ n → TIn n v Dk → PT 3 Dk → szD Dk ≤ szD D → (∀ ns, Nm Dk ns → NmM D ns) → (∀ ns, NmM D ns → Nm Dk ns) → (∀ X, Tx false D X → Bent X) → G) : G := by
  cases hD with
  | empty => exact tin1 hT fun t n1 hm => k1 t n1 hm .empty
  | any => exact tin1 hT fun t n1 hm => k2 t n1 hm .any
  | mixed hN =>
    refine tin2 hT fun t v n1 hm h2 => ?_
    refine tinT h2 fun b vs n2 e hm2 hr => ?_
    subst e
    exact k3 _ t b n1 vs n2 hm hm2 hr.strs (mixes_in hN).1 (.mixed hN) fun X h => bent_m hN h
  | kids hP =>
    refine tin2 hT fun t v n1 hm h2 => ?_
    exact k4 _ t v n1 hm h2 hP (by simp only [szD, szL]; (first | lia | omega)) (fun ns h => .kids h) (fun ns h => names_kids h) fun X h => bent_k (tx_wr h)
theorem Bent.el {X : List Nat} {G : Prop} (h : Bent X) (k : ∀ u t, X = 40 :: (u ++ 41 :: t) → 41 ∉ t → RMod (u ++ 41 :: t) none → RMod (40 :: u) none → RMod (40 :: X) none → RMod (40 :: 41 :: (u ++ 41 :: t)) none → G) : G := by
  refine fold_goal ?_; intro G9 k9; obtain ⟨u, t, a, b, c, d, e, f⟩ := h; refine k9 ?_; clear k9 G9
  exact k u t a b c d e f
section
variable {prog : Program} {w : World} {A : Around} {E : Value → Shared → Prop} {Q : Flow → Shared → Prop} {s : Shared} {env : Env} {h₀ : Heap} {x : Str} {body : List Stmt}
theorem map_x3 {m m₁ : Str → Option Value} {x x2 x3 : Str} {vx : Option Value} (a : ∀ z, z ≠ x → z ≠ x2 → z ≠ x3 → m₁ z = m z) : (fun y => if y = x then vx else m₁ y) = fun y => if y = x then vx else if y = x2 then m₁ x2 else if y = x3 then m₁ x3 else m y := by
  funext y
  by_cases e1 : y = x
  · rw [if_pos e1, if_pos e1]
  · by_cases e2 : y = x2
    · rw [if_neg e1, if_neg e1, if_pos e2, e2]
    · by_cases e3 : y = x3
      · rw [if_neg e1, if_neg e1, if_neg e2, if_pos e3, e3]
      · rw [if_neg e1, if_neg e1, if_neg e2, if_neg e3, a y e1 e2 e3]
/-- a for over a range whose turns store two more names, forgotten between the turns -/
theorem iter_range3 (x2 x3 : Str) {r : Addr} {a₀ b₀ st : Int} {t₀ u₀ v₀ : Tok} {n : Nat} {m : Str → Option Value} {news : Led} (J : Nat → Led → Prop)
    (hh : A.handled = none) (hr : IsRange s.heap r a₀ b₀ st t₀ u₀ v₀) (hsmall : Builtin.Range.small a₀ b₀ st = true) (hsz : Builtin.Range.rangeSize a₀ b₀ st = (n : Int)) (F : Fr h₀ env.locals s.heap m) (N : News h₀ env.locals s.heap news) (hj : J 0 news) (clos : ∀ I, (∀ p ∈ news, p.1 ≠ I) → ∀ i n n', KpI I n n' → J i n → J i n')
    (turn : ∀ i t v2 v3 nx own h tk, i < n → J i nx → (∀ p ∈ own, p ∈ nx ∧ (isIt p.2 = true ∨ imm p.2 = true)) → Fr h₀ env.locals h (fun y => if y = x then some (.int (a₀ + (i : Int) * st) t) else if y = x2 then v2 else if y = x3 then v3 else m y) → News h₀ env.locals h nx →
      wpAny (model prog w) A (execs body env) (FStep h₀ env.locals own { s with heap := h, toks := tk } (fun m₁ n' => (∀ z, z ≠ x → z ≠ x2 → z ≠ x3 → m₁ z = m z) ∧ J (i + 1) n') Q) E { s with heap := h, toks := tk })
    (done : ∀ m₁ nx h tk, J n nx → Fr h₀ env.locals h m₁ → News h₀ env.locals h nx → Q .next { s with heap := h, toks := tk }) :
    wpAny (model prog w) A (pyIter (.ref r)) (fun it s₂ => LoopAtV prog w A h₀ env x body Q E it s₂) E s := by
  refine iter_range (fun i m₁ nx => (∀ z, z ≠ x → z ≠ x2 → z ≠ x3 → m₁ z = m z) ∧ J i nx) hh hr hsmall hsz F N ⟨fun _ _ _ _ => rfl, hj⟩ (by intro I hI i m n n' k J9; obtain ⟨a, b⟩ := J9; exact ⟨a, clos I hI i n n' k b⟩) ?_ ?_
  · rintro i t m₁ nx own h tk hi ⟨a, b⟩ ho F9 N9
    exact turn i t _ _ nx own h tk hi b ho (fr_eq F9 (map_x3 a)) N9
  · rintro m₁ nx h tk ⟨a, b⟩ F9 N9
    exact done m₁ nx h tk b F9 N9
end
noncomputable def wrongL : List Str := [Str.ofString "", Str.ofString "a", Str.ofString "empty", Str.ofString "(a,b|c)", Str.ofString "(a|(b),c)", Str.ofString "(a b)", Str.ofString "()", Str.ofString "(a|)", Str.ofString "(,a)", Str.ofString "(a ?)", Str.ofString "(a)+*", Str.ofString "(a", Str.ofString "a)",
  Str.ofString "(1)", Str.ofString "(#PCDATA|a)", Str.ofString "(#PCDATA|a|a)*", Str.ofString "(#PCDATA,a)*", Str.ofString "(#PCDATA)+", Str.ofString "(a|#PCDATA)*", Str.ofString "EMPTY ANY", Str.ofString "((#PCDATA))"]
theorem wrong_all : wrongL.all (fun X => (X.cps.toList.all fun c => decide (c < 128)) && decide (X.length ≤ 1000) && refB X.cps.toList) = true := by decide +kernel
theorem wrong_ok {X : Str} (h : X ∈ wrongL) : OkT X := by
  have := List.all_eq_true.mp wrong_all X h
  simp only [Bool.and_eq_true, decide_eq_true_eq, List.all_eq_true] at this
  exact ⟨this.1.1, this.1.2, refB_ok this.2⟩
theorem strs_mem {vs : List Value} {ns : List Str} (h : StrsAre vs ns) : ∀ v ∈ vs, ∃ X t, v = .str X t ∧ X ∈ ns := by
  induction h with
  | nil => exact fun _ h => nomatch h
  | cons x t r ih =>
    intro v hv
    rcases List.mem_cons.mp hv with rfl | hv
    · exact ⟨x, t, rfl, .head _⟩
    · refine fold_goal ?_; intro G9 k9; obtain ⟨X, t, e, hm⟩ := ih v hv; refine k9 ?_; clear k9 G9
      exact ⟨X, t, e, .tail _ hm⟩
theorem wrong_strs (t0 t1 t2 t3 t4 t5 t6 t7 t8 t9 t10 t11 t12 t13 t14 t15 t16 t17 t18 t19 t20 : Tok) : StrsAre [.str (Str.ofString "") t0, .str (Str.ofString "a") t1, .str (Str.ofString "empty") t2, .str (Str.ofString "(a,b|c)") t3, .str (Str.ofString "(a|(b),c)") t4, .str (Str.ofString "(a b)") t5, .str (Str.ofString "()") t6, .str (Str.ofString "(a|)") t7, .str (Str.ofString "(,a)") t8, .str (Str.ofString "(a ?)") t9, .str (Str.ofString "(a)+*") t10, .str (Str.ofString "(a") t11, .str (Str.ofString "a)") t12,
  .str (Str.ofString "(1)") t13, .str (Str.ofString "(#PCDATA|a)") t14, .str (Str.ofString "(#PCDATA|a|a)*") t15, .str (Str.ofString "(#PCDATA,a)*") t16, .str (Str.ofString "(#PCDATA)+") t17, .str (Str.ofString "(a|#PCDATA)*") t18, .str (Str.ofString "EMPTY ANY") t19, .str (Str.ofString "((#PCDATA))") t20] wrongL := by
  unfold wrongL
  repeat (first | exact .nil | refine .cons _ _ ?_)
theorem news_head {h₀ h : Heap} {L a : Addr} {o : Obj} {rest : Led} {G : Prop} (N : News h₀ L h ((a, o) :: rest)) (k : ∀ nL, News h₀ L h nL → (a, o) ∈ nL → (∀ p ∈ rest, p ∈ nL) → G) : G := k _ N (.head _) fun _ hp => .tail _ hp
theorem mem_arr {l : List Value} {i : Nat} {v : Value} (h : l.toArray[i]? = some v) : v ∈ l := List.mem_of_getElem? (i := i) (by rw [← List.getElem?_toArray]; exact h)
theorem mo_ref {n : Led} {v : Value} {D : Dat} (hD : Mo D) (hT : TIn n v D) : ∃ va, v = .ref va := by cases hD <;> cases hT <;> exact ⟨_, rfl⟩
theorem law_model_right {w : World} {sl : Addr} {v : Value} {D : Dat} {news : Led} (hD : Mo D) (hT : TIn news v D) (S : Src sl news) : Con1 w 411 [.ref sl, v] 570 5200 news [sl] (fun r n' => r = .bool true ∧ Src sl n') := by
  obtain ⟨va, rfl⟩ : ∃ va, v = .ref va := mo_ref hD hT
  have hsz := hD.sz
  intro mean mg mb dp un gd cn cs a ccd cl gw L m s Q E F X N Tp hk hd1 hu1 hret
  refine wpAny_call ?_
  k_dflt (refine' code_defFC (binds := [("source", .ref sl), ("model", .ref va)]) ?k1 ?k2 ?k3 ?k4 ?kA ?kK ?k6 ?k7 ?k8 ?k9 ?kB ?kD ?_ ?c2 ?c3 ?c4; (case kA => exact rfl); (case kK => assumption); (case k1 => k_asm); (case k2 => k_asm); (case k3 => k_asm); (case k4 => k_asm); (case k6 => k_is); (case k7 => k_is); (case k8 => first | exact room0 (by assumption) | exact room1 (by assumption) rfl | exact room2 (by assumption) rfl | exact room3 (by assumption) rfl | exact roomA (by assumption) rfl | exact roomS (by assumption) rfl | exact roomM (by assumption) rfl | exact roomB (by assumption) rfl | k_room); (case k9 => exact BindsTo.of_eq rfl); (case kB => exact rfl); (case kD => decide +kernel); (case c2 => exact rfl); (case c3 => exact rfl); (case c4 => exact rfl); k_whole)
  intro g' L' hp tk' cells' oL F' N' Y' B' X' T' l1 hoL hoD XW TW ex
  have lnw := l1
  have hsl : sl < L' := by refine fold_goal ?_; intro G9 k9; obtain ⟨_, _, _, _, _, z⟩ := id S; refine k9 ?_; clear k9 G9; exact l1 _ z
  have hne : L' + 1 ∉ [sl] := fun e => absurd (List.mem_singleton.mp e) (Nat.ne_of_gt (Nat.lt_succ_of_lt hsl))
  have hT0 : ∀ o, TIn (o :: news) (.ref va) D := fun o => hT.imm fun p hp _ => .tail _ hp
  (try k_lt l1)
  k_cells Y'
  rename Obj.data _ = Data.cell _ => dc0
  (try simp only [List.cons_append, List.nil_append] at N')
  (try dsimp only)
  (try k_fold)
  refine fold_env ?_; intro e₁ A₁
  repeat' (first | ((with_reducible show wpAny _ _ (exec _ _) _ _ _); k_fold) | ((fail_if_success (with_reducible refine stop_of Stop4 (by constructor) ?_)); (fail_if_success (with_reducible refine stop_of Stop2 (by constructor) ?_)); (fail_if_success (with_reducible refine stop_of Stop1 (by constructor) ?_)); first | (k_unfold; (try dsimp only)) | (k_end; wrow_close) | walk1 | (dsimp only; walk1) | (leave1; try dsimp only)) | walk_at "mine item" | fail)
  (k_dflt (refine' con_use ?kNz86 (law_text hD (hT0 _) (S.cons _)) ?kBz86 ?kFz86 ?kXz86 ?kTz86 ?kKz86 ?kDz86 ?kUz86 ?kOkz86 ?kErrz86; (case kNz86 => k_asm); (case kBz86 => k_asm); (case kFz86 => k_asm); (case kXz86 => k_asm); (case kTz86 => k_asm); (case kKz86 => first | exact rfl | assumption); (case kDz86 => first | exact room0 (by assumption) | exact room1 (by assumption) rfl | exact room2 (by assumption) rfl | exact room3 (by assumption) rfl | exact roomA (by assumption) rfl | exact roomS (by assumption) rfl | exact roomM (by assumption) rfl | exact roomB (by assumption) rfl | k_room); (case kUz86 => first | exact room0 (by assumption) | exact room1 (by assumption) rfl | exact room2 (by assumption) rfl | exact room3 (by assumption) rfl | exact roomA (by assumption) rfl | exact roomS (by assumption) rfl | exact roomM (by assumption) rfl | exact roomB (by assumption) rfl | k_units)))
  case kErrz86 => intro hf; exact hf.elim
  intro r1 news1 hh1 tk1 F1 N1 K1 P1
  refine el_abABS P1 ?_
  intro Xs t1 hQ9 e1 e2 S1
  subst hQ9
  have hT1 := (hT0 _).imm K1.imm
  have c1 := K1 _ (.head _) fun e => absurd e hne
  repeat' (first | ((with_reducible show wpAny _ _ (exec _ _) _ _ _); k_fold) | ((fail_if_success (with_reducible refine stop_of Stop4 (by constructor) ?_)); (fail_if_success (with_reducible refine stop_of Stop2 (by constructor) ?_)); (fail_if_success (with_reducible refine stop_of Stop1 (by constructor) ?_)); first | (k_unfold; (try dsimp only)) | (k_end; wrow_close) | walk1 | (dsimp only; walk1) | (leave1; try dsimp only)) | walk_at "mine item" | fail)
  (k_dflt (refine' con_use ?kNz87 (law_text hD hT1 S1) ?kBz87 ?kFz87 ?kXz87 ?kTz87 ?kKz87 ?kDz87 ?kUz87 ?kOkz87 ?kErrz87; (case kNz87 => k_asm); (case kBz87 => k_asm); (case kFz87 => k_asm); (case kXz87 => k_asm); (case kTz87 => k_asm); (case kKz87 => first | exact rfl | assumption); (case kDz87 => first | exact room0 (by assumption) | exact room1 (by assumption) rfl | exact room2 (by assumption) rfl | exact room3 (by assumption) rfl | exact roomA (by assumption) rfl | exact roomS (by assumption) rfl | exact roomM (by assumption) rfl | exact roomB (by assumption) rfl | k_room); (case kUz87 => first | exact room0 (by assumption) | exact room1 (by assumption) rfl | exact room2 (by assumption) rfl | exact room3 (by assumption) rfl | exact roomA (by assumption) rfl | exact roomS (by assumption) rfl | exact roomM (by assumption) rfl | exact roomB (by assumption) rfl | k_units)))
  case kErrz87 => intro hf; exact hf.elim
  intro r2 news2 hh2 tk2 F2 N2 K2 P2
  refine el_abABS P2 ?_
  intro Xp t2 hQ9 e3 e4 S2
  subst hQ9
  have hT2 := hT1.imm K2.imm
  have c2 := K2 _ c1 fun e => absurd e hne
  have k2 := K1.trans K2
  repeat' (first | ((with_reducible show wpAny _ _ (exec _ _) _ _ _); k_fold) | ((fail_if_success (with_reducible refine stop_of Stop4 (by constructor) ?_)); (fail_if_success (with_reducible refine stop_of Stop2 (by constructor) ?_)); (fail_if_success (with_reducible refine stop_of Stop1 (by constructor) ?_)); first | (k_unfold; (try dsimp only)) | (k_end; wrow_close) | walk1 | (dsimp only; walk1) | (leave1; try dsimp only)) | walk_at "mine item" | fail)
  (k_dflt (refine' con_use ?kNz88 (law_space (S2.cons _)) ?kBz88 ?kFz88 ?kXz88 ?kTz88 ?kKz88 ?kDz88 ?kUz88 ?kOkz88 ?kErrz88; (case kNz88 => k_asm); (case kBz88 => k_asm); (case kFz88 => k_asm); (case kXz88 => k_asm); (case kTz88 => k_asm); (case kKz88 => first | exact rfl | assumption); (case kDz88 => first | exact room0 (by assumption) | exact room1 (by assumption) rfl | exact room2 (by assumption) rfl | exact room3 (by assumption) rfl | exact roomA (by assumption) rfl | exact roomS (by assumption) rfl | exact roomM (by assumption) rfl | exact roomB (by assumption) rfl | k_room); (case kUz88 => first | exact room0 (by assumption) | exact room1 (by assumption) rfl | exact room2 (by assumption) rfl | exact room3 (by assumption) rfl | exact roomA (by assumption) rfl | exact roomS (by assumption) rfl | exact roomM (by assumption) rfl | exact roomB (by assumption) rfl | k_units)))
  case kErrz88 => intro hf; exact hf.elim
  intro r3 news3 hh3 tk3 F3 N3 K3 P3
  refine el_abABS P3 ?_
  intro Xe t3 hQ9 o1 o2 S3
  subst hQ9
  have hT3 := hT2.imm fun p hp i => K3.imm p (.tail _ hp) i
  have c3 := K3 _ (.tail _ c2) fun e => absurd e hne
  have k3 : Kp [sl] _ news3 := k2.trans ((Kp.cons Kp.refl).trans K3)
  have r1 : RMod Xs.cps.toList (some D) := by
    have := e1.mod nil_sp nil_sp
    rwa [List.append_nil] at this
  repeat' (first | ((with_reducible show wpAny _ _ (exec _ _) _ _ _); k_fold) | ((fail_if_success (with_reducible refine stop_of Stop4 (by constructor) ?_)); (fail_if_success (with_reducible refine stop_of Stop2 (by constructor) ?_)); (fail_if_success (with_reducible refine stop_of Stop1 (by constructor) ?_)); first | (k_unfold; (try dsimp only)) | (k_end; wrow_close) | walk1 | (dsimp only; walk1) | (leave1; try dsimp only)) | walk_at "mine item" | fail)
  (k_dflt (refine' con_use ?kNz89 (read_model (Nat.le_trans e2 (by decide)) e1.asc) ?kBz89 ?kFz89 ?kXz89 ?kTz89 ?kKz89 ?kDz89 ?kUz89 ?kOkz89 ?kErrz89; (case kNz89 => k_asm); (case kBz89 => k_asm); (case kFz89 => k_asm); (case kXz89 => k_asm); (case kTz89 => k_asm); (case kKz89 => first | exact rfl | assumption); (case kDz89 => first | exact room0 (by assumption) | exact room1 (by assumption) rfl | exact room2 (by assumption) rfl | exact room3 (by assumption) rfl | exact roomA (by assumption) rfl | exact roomS (by assumption) rfl | exact roomM (by assumption) rfl | exact roomB (by assumption) rfl | k_room); (case kUz89 => first | exact room0 (by assumption) | exact room1 (by assumption) rfl | exact room2 (by assumption) rfl | exact room3 (by assumption) rfl | exact roomA (by assumption) rfl | exact roomS (by assumption) rfl | exact roomM (by assumption) rfl | exact roomB (by assumption) rfl | k_units)))
  case kErrz89 => intro hp; cases hp.det r1
  intro r4 news4 hh4 tk4 F4 N4 K4 P4
  refine el_DAB P4 ?_
  intro D4 q1 q2
  obtain rfl : D4 = D := Option.some.inj (q1.det r1)
  obtain ⟨v4, rfl⟩ : ∃ va, r4 = .ref va := mo_ref hD q2
  have hT4 := hT3.imm K4.imm
  have c4 := K4 _ c3 fun e => nomatch e
  have S4 : Src sl news4 := S3.kp K4 fun e => nomatch e
  have k4 : Kp [sl] _ news4 := k3.trans (K4.mono fun _ h => nomatch h)
  repeat' (first | ((with_reducible show wpAny _ _ (exec _ _) _ _ _); k_fold) | ((fail_if_success (with_reducible refine stop_of Stop4 (by constructor) ?_)); (fail_if_success (with_reducible refine stop_of Stop2 (by constructor) ?_)); (fail_if_success (with_reducible refine stop_of Stop1 (by constructor) ?_)); first | (k_unfold; (try dsimp only)) | (k_end; wrow_close) | walk1 | (dsimp only; walk1) | (leave1; try dsimp only)) | walk_at "mine item" | fail)
  refine ne_same (by assumption) q2 hT4 (by (first | lia | omega)) (by first | exact room0 (by assumption) | exact room1 (by assumption) rfl | exact room2 (by assumption) rfl | exact room3 (by assumption) rfl | exact roomA (by assumption) rfl | exact roomS (by assumption) rfl | exact roomM (by assumption) rfl | exact roomB (by assumption) rfl | k_units) ?_
  repeat' (first | ((with_reducible show wpAny _ _ (exec _ _) _ _ _); k_fold) | ((fail_if_success (with_reducible refine stop_of Stop4 (by constructor) ?_)); (fail_if_success (with_reducible refine stop_of Stop2 (by constructor) ?_)); (fail_if_success (with_reducible refine stop_of Stop1 (by constructor) ?_)); first | (k_unfold; (try dsimp only)) | (k_end; wrow_close) | walk1 | (dsimp only; walk1) | (leave1; try dsimp only)) | walk_at "mine item" | fail)
  have r2 : RMod (Xe ++ Xp ++ Xe).cps.toList (some D4) := by
    have := e3.mod (sp_all o1) (sp_all o1)
    rw [app_cps, app_cps, List.append_assoc]
    exact this
  have l2 : (Xe ++ Xp ++ Xe).length ≤ 1000000 := by
    rw [← len_cps, app_cps, app_cps, List.length_append, List.length_append, len_cps, len_cps]; (first | lia | omega)
  have a2 : Asc (Xe ++ Xp ++ Xe) := by
    unfold Asc
    rw [app_cps, app_cps]
    exact app_asc (app_asc (sp_asc o1) e3.asc) (sp_asc o1)
  (k_dflt (refine' con_use ?kNz90 (read_model l2 a2) ?kBz90 ?kFz90 ?kXz90 ?kTz90 ?kKz90 ?kDz90 ?kUz90 ?kOkz90 ?kErrz90; (case kNz90 => k_asm); (case kBz90 => k_asm); (case kFz90 => k_asm); (case kXz90 => k_asm); (case kTz90 => k_asm); (case kKz90 => first | exact rfl | assumption); (case kDz90 => first | exact room0 (by assumption) | exact room1 (by assumption) rfl | exact room2 (by assumption) rfl | exact room3 (by assumption) rfl | exact roomA (by assumption) rfl | exact roomS (by assumption) rfl | exact roomM (by assumption) rfl | exact roomB (by assumption) rfl | k_room); (case kUz90 => first | exact room0 (by assumption) | exact room1 (by assumption) rfl | exact room2 (by assumption) rfl | exact room3 (by assumption) rfl | exact roomA (by assumption) rfl | exact roomS (by assumption) rfl | exact roomM (by assumption) rfl | exact roomB (by assumption) rfl | k_units)))
  case kErrz90 => intro hp; cases hp.det r2
  intro r5 news5 hh5 tk5 F5 N5 K5 P5
  refine el_DAB P5 ?_
  intro D5 q3 q4
  obtain rfl : D5 = D4 := Option.some.inj (q3.det r2)
  obtain ⟨v5, rfl⟩ : ∃ va, r5 = .ref va := mo_ref hD q4
  have hT5 := hT4.imm K5.imm
  have c5 := K5 _ c4 fun e => nomatch e
  have S5 : Src sl news5 := S4.kp K5 fun e => nomatch e
  have k5 : Kp [sl] _ news5 := k4.trans (K5.mono fun _ h => nomatch h)
  repeat' (first | ((with_reducible show wpAny _ _ (exec _ _) _ _ _); k_fold) | ((fail_if_success (with_reducible refine stop_of Stop4 (by constructor) ?_)); (fail_if_success (with_reducible refine stop_of Stop2 (by constructor) ?_)); (fail_if_success (with_reducible refine stop_of Stop1 (by constructor) ?_)); first | (k_unfold; (try dsimp only)) | (k_end; wrow_close) | walk1 | (dsimp only; walk1) | (leave1; try dsimp only)) | walk_at "mine item" | fail)
  refine ne_same (by assumption) q4 hT5 (by (first | lia | omega)) (by first | exact room0 (by assumption) | exact room1 (by assumption) rfl | exact room2 (by assumption) rfl | exact room3 (by assumption) rfl | exact roomA (by assumption) rfl | exact roomS (by assumption) rfl | exact roomM (by assumption) rfl | exact roomB (by assumption) rfl | k_units) ?_
  repeat' (first | ((with_reducible show wpAny _ _ (exec _ _) _ _ _); k_fold) | ((fail_if_success (with_reducible refine stop_of Stop4 (by constructor) ?_)); (fail_if_success (with_reducible refine stop_of Stop2 (by constructor) ?_)); (fail_if_success (with_reducible refine stop_of Stop1 (by constructor) ?_)); first | (k_unfold; (try dsimp only)) | (k_end; wrow_close) | walk1 | (dsimp only; walk1) | (leave1; try dsimp only)) | walk_at "mine item" | fail)
  (k_dflt (refine' con_use ?kNz91 (write_model hD hT5 e3 e4) ?kBz91 ?kFz91 ?kXz91 ?kTz91 ?kKz91 ?kDz91 ?kUz91 ?kOkz91 ?kErrz91; (case kNz91 => k_asm); (case kBz91 => k_asm); (case kFz91 => k_asm); (case kXz91 => k_asm); (case kTz91 => k_asm); (case kKz91 => first | exact rfl | assumption); (case kDz91 => first | exact room0 (by assumption) | exact room1 (by assumption) rfl | exact room2 (by assumption) rfl | exact room3 (by assumption) rfl | exact roomA (by assumption) rfl | exact roomS (by assumption) rfl | exact roomM (by assumption) rfl | exact roomB (by assumption) rfl | k_room); (case kUz91 => first | exact room0 (by assumption) | exact room1 (by assumption) rfl | exact room2 (by assumption) rfl | exact room3 (by assumption) rfl | exact roomA (by assumption) rfl | exact roomS (by assumption) rfl | exact roomM (by assumption) rfl | exact roomB (by assumption) rfl | k_units)))
  case kErrz91 => intro hf; exact hf.elim
  intro r6 news6 hh6 tk6 F6 N6 K6 P6
  refine el_Xtq P6 ?_
  intro X6 t6 hQ9 q5
  subst hQ9
  obtain rfl : X6 = Xp := str_of_cps q5
  have hT6 := hT5.imm K6.imm
  have c6 := K6 _ c5 fun e => nomatch e
  have S6 : Src sl news6 := S5.kp K6 fun e => nomatch e
  have k6 : Kp [sl] _ news6 := k5.trans (K6.mono fun _ h => nomatch h)
  have hb : (X6 != X6) = false := by simp
  repeat' (first | ((with_reducible show wpAny _ _ (exec _ _) _ _ _); k_fold) | ((fail_if_success (with_reducible refine stop_of Stop4 (by constructor) ?_)); (fail_if_success (with_reducible refine stop_of Stop3 (by constructor) ?_)); (fail_if_success (with_reducible refine stop_of Stop2 (by constructor) ?_)); (fail_if_success (with_reducible refine stop_of Stop1 (by constructor) ?_)); first | (k_unfold; (try dsimp only)) | (k_end; wrow_close) | walk1 | (dsimp only; walk1) | (leave1; try dsimp only)) | walk_at "mine item" | fail)
  refine split_at F6 (fun mm v s' => NamesP g' L' (L' + 1) news6 D5 s mm v s') ?_ (fun v s' hv => ?_)
  · refine mo_split hD hT6 (fun t n1 hm hN => ?_) (fun t n1 hm hN => ?_) (fun ns t b n1 vs2 n2 hm hm2 q2 i1 hN _ => ?_) (fun Dk t v n1 hm h2 hP _ hNk _ _ => ?_)
    · repeat' (first | ((with_reducible show wpAny _ _ (exec _ _) _ _ _); k_fold) | ((fail_if_success (with_reducible refine stop_of Stop4 (by constructor) ?_)); (fail_if_success (with_reducible refine stop_of Stop2 (by constructor) ?_)); (fail_if_success (with_reducible refine stop_of Stop1 (by constructor) ?_)); first | (k_unfold; (try dsimp only)) | (k_end; wrow_close) | walk1 | (dsimp only; walk1) | (leave1; try dsimp only)) | walk_at "mine item" | fail)
      rename _ ∧ AllLt _ news6 => hl
      exact .mk (us := []) (by assumption) (by assumption) (.head _) .nil hN (by decide) (fun p hp => .tail _ (.tail _ hp)) (ne_lt hl.2 c6)
    · repeat' (first | ((with_reducible show wpAny _ _ (exec _ _) _ _ _); k_fold) | ((fail_if_success (with_reducible refine stop_of Stop4 (by constructor) ?_)); (fail_if_success (with_reducible refine stop_of Stop2 (by constructor) ?_)); (fail_if_success (with_reducible refine stop_of Stop1 (by constructor) ?_)); first | (k_unfold; (try dsimp only)) | (k_end; wrow_close) | walk1 | (dsimp only; walk1) | (leave1; try dsimp only)) | walk_at "mine item" | fail)
      rename _ ∧ AllLt _ news6 => hl
      exact .mk (us := []) (by assumption) (by assumption) (.head _) .nil hN (by decide) (fun p hp => .tail _ (.tail _ hp)) (ne_lt hl.2 c6)
    · have hl2 := strs_len_eq q2
      repeat' (first | ((with_reducible show wpAny _ _ (exec _ _) _ _ _); k_fold) | ((fail_if_success (with_reducible refine stop_of Stop4 (by constructor) ?_)); (fail_if_success (with_reducible refine stop_of Stop2 (by constructor) ?_)); (fail_if_success (with_reducible refine stop_of Stop1 (by constructor) ?_)); first | (k_unfold; (try dsimp only)) | (k_end; wrow_close) | walk1 | (dsimp only; walk1) | (leave1; try dsimp only)) | walk_at "mine item" | fail)
      refine kup_listOfT (zs := vs2) (by assumption) (by assumption) (.tail _ hm2) rfl ?_ (by rw [List.toList_toArray, sizeLine_eq]; (first | lia | omega))
      intro D9 c9 h9 F9 N9 l9
      repeat' (first | ((with_reducible show wpAny _ _ (exec _ _) _ _ _); k_fold) | ((fail_if_success (with_reducible refine stop_of Stop4 (by constructor) ?_)); (fail_if_success (with_reducible refine stop_of Stop2 (by constructor) ?_)); (fail_if_success (with_reducible refine stop_of Stop1 (by constructor) ?_)); first | (k_unfold; (try dsimp only)) | (k_end; wrow_close) | walk1 | (dsimp only; walk1) | (leave1; try dsimp only)) | walk_at "mine item" | fail)
      exact .mk (us := vs2) (by assumption) (by assumption) (.head _) q2 hN (by (first | lia | omega)) (fun p hp => .tail _ (.tail _ hp)) (Nat.ne_of_gt (l9 _ (.tail _ c6)))
    · have h2' : ∀ o, TIn (o :: news6) v Dk := fun o => h2.imm fun p hp _ => .tail _ hp
      repeat' (first | ((with_reducible show wpAny _ _ (exec _ _) _ _ _); k_fold) | ((fail_if_success (with_reducible refine stop_of Stop4 (by constructor) ?_)); (fail_if_success (with_reducible refine stop_of Stop2 (by constructor) ?_)); (fail_if_success (with_reducible refine stop_of Stop1 (by constructor) ?_)); first | (k_unfold; (try dsimp only)) | (k_end; wrow_close) | walk1 | (dsimp only; walk1) | (leave1; try dsimp only)) | walk_at "mine item" | fail)
      (k_dflt (refine' con_use ?kNz92 (law_names 3 (Nat.le_refl 3) hP (h2' _)) ?kBz92 ?kFz92 ?kXz92 ?kTz92 ?kKz92 ?kDz92 ?kUz92 ?kOkz92 ?kErrz92; (case kNz92 => k_asm); (case kBz92 => k_asm); (case kFz92 => k_asm); (case kXz92 => k_asm); (case kTz92 => k_asm); (case kKz92 => first | exact rfl | assumption); (case kDz92 => first | exact room0 (by assumption) | exact room1 (by assumption) rfl | exact room2 (by assumption) rfl | exact room3 (by assumption) rfl | exact roomA (by assumption) rfl | exact roomS (by assumption) rfl | exact roomM (by assumption) rfl | exact roomB (by assumption) rfl | k_room); (case kUz92 => first | exact room0 (by assumption) | exact room1 (by assumption) rfl | exact room2 (by assumption) rfl | exact room3 (by assumption) rfl | exact roomA (by assumption) rfl | exact roomS (by assumption) rfl | exact roomM (by assumption) rfl | exact roomB (by assumption) rfl | k_units)))
      case kErrz92 => intro hf; exact hf.elim
      intro r7 news7 hh7 tk7 F7 N7 K7 P7
      refine el44 P7 ?_
      intro nl vs nn ns hQ9 y1 y2 y3 y4
      subst hQ9
      repeat' (first | ((with_reducible show wpAny _ _ (exec _ _) _ _ _); k_fold) | ((fail_if_success (with_reducible refine stop_of Stop4 (by constructor) ?_)); (fail_if_success (with_reducible refine stop_of Stop2 (by constructor) ?_)); (fail_if_success (with_reducible refine stop_of Stop1 (by constructor) ?_)); first | (k_unfold; (try dsimp only)) | (k_end; wrow_close) | walk1 | (dsimp only; walk1) | (leave1; try dsimp only)) | walk_at "mine item" | fail)
      exact .mk (by assumption) (by assumption) y1 y2 (hNk _ y3) (Nat.le_trans y4 (by decide)) (fun p hp => K7.of_nil _ (.tail _ hp)) (adr_ne2 (by assumption) y1 (K7.of_nil _ (.tail _ c6)) fun e => by subst e; cases dc0)
  · refine fold_goal ?_; intro G9 k9; obtain ⟨F7, N7, m7, st7, nm7, z7, K7, hnl⟩ := hv; refine k9 ?_; clear k9 G9
    rename_i h7 tk7 n7 nl us k ns
    repeat' (first | ((with_reducible show wpAny _ _ (exec _ _) _ _ _); k_fold) | ((fail_if_success (with_reducible refine stop_of Stop4 (by constructor) ?_)); (fail_if_success (with_reducible refine stop_of Stop3 (by constructor) ?_)); (fail_if_success (with_reducible refine stop_of Stop2 (by constructor) ?_)); (fail_if_success (with_reducible refine stop_of Stop1 (by constructor) ?_)); first | (k_unfold; (try dsimp only)) | (k_end; wrow_close) | walk1 | (dsimp only; walk1) | (leave1; try dsimp only)) | walk_at "mine item" | fail)
    refine storeC F7 N7 (K7 _ c6) dc0 rfl ?_
    intro h8 o8 F8 N8 d8
    obtain ⟨i8, S8, k8⟩ := cell_out (o2 := o8) N6 c6 dc0 K7 S6 (Nat.lt_succ_of_lt hsl) k6 (fun p hp => Nat.lt_succ_of_lt (lnw p hp))
    have hT8 := hT6.imm i8
    have m8 : (nl, listOf us.toArray k) ∈ (L' + 1, o8) :: off (L' + 1) n7 := .tail _ (off_mem m7 hnl)
    have c8 : (L' + 1, o8) ∈ (L' + 1, o8) :: off (L' + 1) n7 := .head _
    generalize (L' + 1, o8) :: off (L' + 1) n7 = n8 at *
    clear F7 N7 K7 m7 hnl i8
    repeat' (first | ((with_reducible show wpAny _ _ (exec _ _) _ _ _); k_fold) | ((fail_if_success (with_reducible refine stop_of Stop4 (by constructor) ?_)); (fail_if_success (with_reducible refine stop_of Stop3 (by constructor) ?_)); (fail_if_success (with_reducible refine stop_of Stop2 (by constructor) ?_)); (fail_if_success (with_reducible refine stop_of Stop1 (by constructor) ?_)); first | (k_unfold; (try dsimp only)) | (k_end; wrow_close) | walk1 | (dsimp only; walk1) | (leave1; try dsimp only)) | walk_at "mine item" | fail)
    refine split_at F8 (fun mm fl s' => FlowP g' L' n8 s mm fl s') ?_ (fun fl s' hv => ?_)
    · refine mo_split hD hT8 (fun t n1 hm _ => ?_) (fun t n1 hm _ => ?_) (fun ns t b n1 vs2 n2 hm _ _ _ _ _ => ?_) (fun Dk t v n1 hm h2 hP hsk _ hNk _ => ?_)
      · repeat' (first | ((with_reducible show wpAny _ _ (exec _ _) _ _ _); k_fold) | ((fail_if_success (with_reducible refine stop_of Stop4 (by constructor) ?_)); (fail_if_success (with_reducible refine stop_of Stop2 (by constructor) ?_)); (fail_if_success (with_reducible refine stop_of Stop1 (by constructor) ?_)); first | (k_unfold; (try dsimp only)) | (k_end; wrow_close) | walk1 | (dsimp only; walk1) | (leave1; try dsimp only)) | walk_at "mine item" | fail)
        exact .mk (by assumption) (by assumption) (fun p hp => hp)
      · repeat' (first | ((with_reducible show wpAny _ _ (exec _ _) _ _ _); k_fold) | ((fail_if_success (with_reducible refine stop_of Stop4 (by constructor) ?_)); (fail_if_success (with_reducible refine stop_of Stop2 (by constructor) ?_)); (fail_if_success (with_reducible refine stop_of Stop1 (by constructor) ?_)); first | (k_unfold; (try dsimp only)) | (k_end; wrow_close) | walk1 | (dsimp only; walk1) | (leave1; try dsimp only)) | walk_at "mine item" | fail)
        exact .mk (by assumption) (by assumption) (fun p hp => hp)
      · repeat' (first | ((with_reducible show wpAny _ _ (exec _ _) _ _ _); k_fold) | ((fail_if_success (with_reducible refine stop_of Stop4 (by constructor) ?_)); (fail_if_success (with_reducible refine stop_of Stop2 (by constructor) ?_)); (fail_if_success (with_reducible refine stop_of Stop1 (by constructor) ?_)); first | (k_unfold; (try dsimp only)) | (k_end; wrow_close) | walk1 | (dsimp only; walk1) | (leave1; try dsimp only)) | walk_at "mine item" | fail)
        exact .mk (by assumption) (by assumption) (fun p hp => hp)
      · have hs2 : szD Dk ≤ 1000 := by (first | lia | omega)
        repeat' (first | ((with_reducible show wpAny _ _ (exec _ _) _ _ _); k_fold) | ((fail_if_success (with_reducible refine stop_of Stop4 (by constructor) ?_)); (fail_if_success (with_reducible refine stop_of Stop2 (by constructor) ?_)); (fail_if_success (with_reducible refine stop_of Stop1 (by constructor) ?_)); first | (k_unfold; (try dsimp only)) | (k_end; wrow_close) | walk1 | (dsimp only; walk1) | (leave1; try dsimp only)) | walk_at "mine item" | fail)
        (k_dflt (refine' con_use ?kNz93 (particle_names h2 (hNk _ nm7) hs2) ?kBz93 ?kFz93 ?kXz93 ?kTz93 ?kKz93 ?kDz93 ?kUz93 ?kOkz93 ?kErrz93; (case kNz93 => k_asm); (case kBz93 => k_asm); (case kFz93 => k_asm); (case kXz93 => k_asm); (case kTz93 => k_asm); (case kKz93 => first | exact rfl | assumption); (case kDz93 => first | exact room0 (by assumption) | exact room1 (by assumption) rfl | exact room2 (by assumption) rfl | exact room3 (by assumption) rfl | exact roomA (by assumption) rfl | exact roomS (by assumption) rfl | exact roomM (by assumption) rfl | exact roomB (by assumption) rfl | k_room); (case kUz93 => first | exact room0 (by assumption) | exact room1 (by assumption) rfl | exact room2 (by assumption) rfl | exact room3 (by assumption) rfl | exact roomA (by assumption) rfl | exact roomS (by assumption) rfl | exact roomM (by assumption) rfl | exact roomB (by assumption) rfl | k_units)))
        case kErrz93 => intro hf; exact hf.elim
        intro r9 news9 hh9 tk9 F9 N9 K9 P9
        refine el33 P9 ?_
        intro l9 vs9 k9 hQ9 x1 x0 x2
        subst hQ9
        have c9 := K9.of_nil _ c8
        repeat' (first | ((with_reducible show wpAny _ _ (exec _ _) _ _ _); k_fold) | ((fail_if_success (with_reducible refine stop_of Stop4 (by constructor) ?_)); (fail_if_success (with_reducible refine stop_of Stop2 (by constructor) ?_)); (fail_if_success (with_reducible refine stop_of Stop1 (by constructor) ?_)); first | (k_unfold; (try dsimp only)) | (k_end; wrow_close) | walk1 | (dsimp only; walk1) | (leave1; try dsimp only)) | walk_at "mine item" | fail)
        refine ne_strs (by assumption) x1 (K9.of_nil _ m8) x2 st7 (by first | exact room0 (by assumption) | exact room1 (by assumption) rfl | exact room2 (by assumption) rfl | exact room3 (by assumption) rfl | exact roomA (by assumption) rfl | exact roomS (by assumption) rfl | exact roomM (by assumption) rfl | exact roomB (by assumption) rfl | k_units) ?_
        repeat' (first | ((with_reducible show wpAny _ _ (exec _ _) _ _ _); k_fold) | ((fail_if_success (with_reducible refine stop_of Stop4 (by constructor) ?_)); (fail_if_success (with_reducible refine stop_of Stop2 (by constructor) ?_)); (fail_if_success (with_reducible refine stop_of Stop1 (by constructor) ?_)); first | (k_unfold; (try dsimp only)) | (k_end; wrow_close) | walk1 | (dsimp only; walk1) | (leave1; try dsimp only)) | walk_at "mine item" | fail)
        exact .mk (by assumption) (by assumption) (fun p hp => K9.of_nil p hp)
    · obtain ⟨F9, N9, K9⟩ := hv
      rename_i h9 tk9 n9
      have m9 := K9 _ m8
      have c9 := K9 _ c8
      have hT9 := hT8.imm fun p hp _ => K9 p hp
      have S9 : Src sl n9 := S8.kp (M := []) (Kp.sub K9) fun e => nomatch e
      have k9 := k8.trans (Kp.sub (M := [sl]) K9)
      repeat' (first | ((with_reducible show wpAny _ _ (exec _ _) _ _ _); k_fold) | ((fail_if_success (with_reducible refine stop_of Stop4 (by constructor) ?_)); (fail_if_success (with_reducible refine stop_of Stop2 (by constructor) ?_)); (fail_if_success (with_reducible refine stop_of Stop1 (by constructor) ?_)); first | (k_unfold; (try dsimp only)) | (k_end; wrow_close) | walk1 | (dsimp only; walk1) | (leave1; try dsimp only)) | walk_at "mine item" | fail)
      (k_dflt (refine' con_use ?kNz94 (model_names hD hT9 nm7 z7 (by (first | lia | omega))) ?kBz94 ?kFz94 ?kXz94 ?kTz94 ?kKz94 ?kDz94 ?kUz94 ?kOkz94 ?kErrz94; (case kNz94 => k_asm); (case kBz94 => k_asm); (case kFz94 => k_asm); (case kXz94 => k_asm); (case kTz94 => k_asm); (case kKz94 => first | exact rfl | assumption); (case kDz94 => first | exact room0 (by assumption) | exact room1 (by assumption) rfl | exact room2 (by assumption) rfl | exact room3 (by assumption) rfl | exact roomA (by assumption) rfl | exact roomS (by assumption) rfl | exact roomM (by assumption) rfl | exact roomB (by assumption) rfl | k_room); (case kUz94 => first | exact room0 (by assumption) | exact room1 (by assumption) rfl | exact room2 (by assumption) rfl | exact room3 (by assumption) rfl | exact roomA (by assumption) rfl | exact roomS (by assumption) rfl | exact roomM (by assumption) rfl | exact roomB (by assumption) rfl | k_units)))
      case kErrz94 => intro hf; exact hf.elim
      intro r10 news10 hh10 tk10 F10 N10 K10 P10
      refine el32 P10 ?_
      intro l10 vs10 k10 hQ9 x1 x2
      subst hQ9
      have c10 := K10.of_nil _ c9
      have m10 := K10.of_nil _ m9
      have hul := strs_len_eq st7
      repeat' (first | ((with_reducible show wpAny _ _ (exec _ _) _ _ _); k_fold) | ((fail_if_success (with_reducible refine stop_of Stop4 (by constructor) ?_)); (fail_if_success (with_reducible refine stop_of Stop2 (by constructor) ?_)); (fail_if_success (with_reducible refine stop_of Stop1 (by constructor) ?_)); first | (k_unfold; (try dsimp only)) | (k_end; wrow_close) | walk1 | (dsimp only; walk1) | (leave1; try dsimp only)) | walk_at "mine item" | fail)
      refine LCt.ListComp_T (F₀ := by assumption) (by rfl) (by decide) (by rfl) (by decide) (by rfl) ?_
      repeat' (first | ((with_reducible show wpAny _ _ (exec _ _) _ _ _); k_fold) | ((fail_if_success (with_reducible refine stop_of Stop4 (by constructor) ?_)); (fail_if_success (with_reducible refine stop_of Stop2 (by constructor) ?_)); (fail_if_success (with_reducible refine stop_of Stop1 (by constructor) ?_)); first | (k_unfold; (try dsimp only)) | (k_end; wrow_close) | walk1 | (dsimp only; walk1) | (leave1; try dsimp only)) | walk_at "mine item" | fail)
      refine len_list (News.isList (by assumption) m10) (by rw [List.size_toArray]; (first | lia | omega)) ?_
      repeat' (first | ((with_reducible show wpAny _ _ (exec _ _) _ _ _); k_fold) | ((fail_if_success (with_reducible refine stop_of Stop4 (by constructor) ?_)); (fail_if_success (with_reducible refine stop_of Stop2 (by constructor) ?_)); (fail_if_success (with_reducible refine stop_of Stop1 (by constructor) ?_)); first | (k_unfold; (try dsimp only)) | (k_end; wrow_close) | walk1 | (dsimp only; walk1) | (leave1; try dsimp only)) | walk_at "mine item" | fail)
      refine LCt.CompSrcT.range (n := ns.length) rfl (by assumption) (by assumption) (by assumption) (small_one (by decide) (by decide) (by rw [List.size_toArray]; (first | lia | omega)) (by rw [List.size_toArray]; (first | lia | omega))) (by rw [rangeSize_nat, List.size_toArray]; (first | lia | omega)) (by rw [sizeLine_eq]; (first | lia | omega)) ?_
      intro gg
      refine comp_allT (n := ns.length) (fun i ys nx => StrsAre ys (dd [] (ns.take i)) ∧ ∀ p ∈ news10, p ∈ nx) ?_ ?_ ns.length 0 [] _ (Nat.zero_add _) ⟨.nil, fun p hp => hp⟩
      · intro i ys nx hi J9 v I oI C oC D m₂ h tk9 E' hP hN hm F9 N9 o3 hne; refine fold_goal ?_; intro G9 k9; obtain ⟨a1, a2⟩ := J9; refine k9 ?_; clear k9 G9
        have d1 := a2 _ c10
        have d2 := a2 _ m10
        obtain ⟨t9, hv9⟩ := hP
        rw [Int.zero_add] at hv9
        subst hv9
        obtain ⟨tt, ht⟩ := tall_str (StrsAre.tall (news := []) st7) i hi
        have hti : us[((i : Int)).toNat]? = some (.str ns[i] tt) := ht
        generalize hnn : ns[i] = nm at *
        have d3 : ∀ q, (nl, listOf us.toArray k) ∈ q :: (I, oI) :: (C, oC) :: (D, LCg.lst ys) :: nx := fun _ => .tail _ (.tail _ (.tail _ (.tail _ d2)))
        repeat' (first | ((with_reducible show wpAny _ _ (exec _ _) _ _ _); k_fold) | ((fail_if_success (with_reducible refine stop_of Stop4 (by constructor) ?_)); (fail_if_success (with_reducible refine stop_of Stop2 (by constructor) ?_)); (fail_if_success (with_reducible refine stop_of Stop1 (by constructor) ?_)); first | (k_unfold; (try dsimp only)) | (k_end; wrow_close) | walk1 | (dsimp only; walk1) | (leave1; try dsimp only)) | walk_at "mine item" | fail)
        refine item_listL (News.isList (by assumption) (.tail _ (.tail _ (.tail _ d2)))) (by (first | lia | omega)) (by (first | lia | omega)) hti ?_
        repeat' (first | ((with_reducible show wpAny _ _ (exec _ _) _ _ _); k_fold) | ((fail_if_success (with_reducible refine stop_of Stop4 (by constructor) ?_)); (fail_if_success (with_reducible refine stop_of Stop2 (by constructor) ?_)); (fail_if_success (with_reducible refine stop_of Stop1 (by constructor) ?_)); first | (k_unfold; (try dsimp only)) | (k_end; wrow_close) | walk1 | (dsimp only; walk1) | (leave1; try dsimp only)) | walk_at "mine item" | fail)
        refine slice_list (by assumption) (by assumption) (News.isList (by assumption) (.tail _ (.tail _ (.tail _ d2)))) .none (.int _ _) ?_ (hsz := by rw [List.size_toArray, sizeLine_eq]; (first | lia | omega))
        intro h11 F11 N11
        rw [sl_upto st7 i (by (first | lia | omega))] at N11
        repeat' (first | ((with_reducible show wpAny _ _ (exec _ _) _ _ _); k_fold) | ((fail_if_success (with_reducible refine stop_of Stop4 (by constructor) ?_)); (fail_if_success (with_reducible refine stop_of Stop2 (by constructor) ?_)); (fail_if_success (with_reducible refine stop_of Stop1 (by constructor) ?_)); first | (k_unfold; (try dsimp only)) | (k_end; wrow_close) | walk1 | (dsimp only; walk1) | (leave1; try dsimp only)) | walk_at "mine item" | fail)
        refine notin_list_strs (News.isList (by assumption) (.head _)) (strs_take st7 i) ?_
        cases hb : (ns.take i).any (· == nm)
        · have hni : nm ∉ dd [] (ns.take i) := fun hm => by
            have : (ns.take i).any (· == nm) = true := List.any_eq_true.mpr ⟨nm, dd_take.mp hm, beq_self_eq_true nm⟩
            rw [hb] at this; cases this
          repeat' (first | ((with_reducible show wpAny _ _ (exec _ _) _ _ _); k_fold) | ((fail_if_success (with_reducible refine stop_of Stop4 (by constructor) ?_)); (fail_if_success (with_reducible refine stop_of Stop2 (by constructor) ?_)); (fail_if_success (with_reducible refine stop_of Stop1 (by constructor) ?_)); first | (k_unfold; (try dsimp only)) | (k_end; wrow_close) | walk1 | (dsimp only; walk1) | (leave1; try dsimp only)) | walk_at "mine item" | fail)
          refine item_listL (News.isList (by assumption) (.tail _ (.tail _ (.tail _ (.tail _ d2))))) (by (first | lia | omega)) (by (first | lia | omega)) hti ?_
          repeat' (first | ((with_reducible show wpAny _ _ (exec _ _) _ _ _); k_fold) | ((fail_if_success (with_reducible refine stop_of Stop4 (by constructor) ?_)); (fail_if_success (with_reducible refine stop_of Stop2 (by constructor) ?_)); (fail_if_success (with_reducible refine stop_of Stop1 (by constructor) ?_)); first | (k_unfold; (try dsimp only)) | (k_end; wrow_close) | walk1 | (dsimp only; walk1) | (leave1; try dsimp only)) | walk_at "mine item" | fail)
          refine LCg.CompEnd.intro (by assumption) (by assumption) nx (fun p hp => .tail _ hp) o3 trivial ⟨?_, a2⟩
          rw [take_snoc _ _ hi, dd_snoc, hnn, if_neg hni]
          exact a1.append' (.cons _ _ .nil)
        · have hni : nm ∈ dd [] (ns.take i) := by
            obtain ⟨z, z1, z2⟩ := List.any_eq_true.mp hb
            rw [dd_take, ← eq_of_beq z2]; exact z1
          repeat' (first | ((with_reducible show wpAny _ _ (exec _ _) _ _ _); k_fold) | ((fail_if_success (with_reducible refine stop_of Stop4 (by constructor) ?_)); (fail_if_success (with_reducible refine stop_of Stop2 (by constructor) ?_)); (fail_if_success (with_reducible refine stop_of Stop1 (by constructor) ?_)); first | (k_unfold; (try dsimp only)) | (k_end; wrow_close) | walk1 | (dsimp only; walk1) | (leave1; try dsimp only)) | walk_at "mine item" | fail)
          refine LCg.CompEnd.intro (by assumption) (by assumption) nx (fun p hp => .tail _ hp) o3 trivial ⟨?_, a2⟩
          rw [take_snoc _ _ hi, dd_snoc, hnn, if_pos hni]
          exact a1
      · intro ys nx J9; refine fold_goal ?_; intro G9 k9; obtain ⟨a1, a2⟩ := J9; refine k9 ?_; clear k9 G9
        intro D h tk9 F11 N11 o1
        rw [List.take_length] at a1
        repeat' (first | ((with_reducible show wpAny _ _ (exec _ _) _ _ _); k_fold) | ((fail_if_success (with_reducible refine stop_of Stop4 (by constructor) ?_)); (fail_if_success (with_reducible refine stop_of Stop2 (by constructor) ?_)); (fail_if_success (with_reducible refine stop_of Stop1 (by constructor) ?_)); first | (k_unfold; (try dsimp only)) | (k_end; wrow_close) | walk1 | (dsimp only; walk1) | (leave1; try dsimp only)) | walk_at "mine item" | fail)
        refine ne_strs (by assumption) (.tail _ (a2 _ x1)) (.head _) x2 a1 (by first | exact room0 (by assumption) | exact room1 (by assumption) rfl | exact room2 (by assumption) rfl | exact room3 (by assumption) rfl | exact roomA (by assumption) rfl | exact roomS (by assumption) rfl | exact roomM (by assumption) rfl | exact roomB (by assumption) rfl | k_units) ?_
        have hT11 := hT9.imm fun p hp _ => a2 p (K10.of_nil _ hp)
        have S11 : Src sl nx := S9.kp (M := []) (Kp.sub fun p hp => a2 p (K10.of_nil p hp)) fun e => nomatch e
        have k11 := k9.trans (Kp.sub (M := [sl]) fun p hp => a2 p (K10.of_nil p hp))
        have hq1 := bent3 e3 e4 [41] (Str.ofString ")") (by decide +kernel) (by decide) (by decide) rfl (by decide)
        have hq2 := bent3 e3 e4 [120] (Str.ofString "x") (by decide +kernel) (by decide) (by decide) rfl (by decide)
        have hq3 := bent3 e3 e4 [32, 63] (Str.ofString " ?") (by decide +kernel) (by decide) (by decide) rfl (by decide)
        repeat' (first | ((with_reducible show wpAny _ _ (exec _ _) _ _ _); k_fold) | ((fail_if_success (with_reducible refine stop_of Stop4 (by constructor) ?_)); (fail_if_success (with_reducible refine stop_of Stop3 (by constructor) ?_)); (fail_if_success (with_reducible refine stop_of Stop2 (by constructor) ?_)); (fail_if_success (with_reducible refine stop_of Stop1 (by constructor) ?_)); first | (k_unfold; (try dsimp only)) | (k_end; wrow_close) | walk1 | (dsimp only; walk1) | (leave1; try dsimp only)) | walk_at "mine item" | fail)
        rename News _ _ _ (_ :: _ :: nx) => N12
        rename Fr g' L' _ _ => F12
        refine split_at F12 (fun _ fl s' => BentP g' L' nx s fl s') ?_ (fun fl s' hv => ?_)
        · refine mo_split hD hT11 (fun t n1 hm _ => ?_) (fun t n1 hm _ => ?_) (fun ns t b n1 vs2 n2 hm _ _ _ _ hb => ?_) (fun Dk t v n1 hm _ _ _ _ _ hb => ?_)
          · repeat' (first | ((with_reducible show wpAny _ _ (exec _ _) _ _ _); k_fold) | ((fail_if_success (with_reducible refine stop_of Stop4 (by constructor) ?_)); (fail_if_success (with_reducible refine stop_of Stop2 (by constructor) ?_)); (fail_if_success (with_reducible refine stop_of Stop1 (by constructor) ?_)); first | (k_unfold; (try dsimp only)) | (k_end; wrow_close) | walk1 | (dsimp only; walk1) | (leave1; try dsimp only)) | walk_at "mine item" | fail)
            exact .mk (us := [_, _, _]) (by assumption) (by assumption) (.tail _ (.head _)) (fun v hv => by
              simp only [List.mem_cons, List.not_mem_nil, or_false] at hv
              rcases hv with rfl | rfl | rfl
              · exact ⟨_, _, rfl, hq1⟩
              · exact ⟨_, _, rfl, hq2⟩
              · exact ⟨_, _, rfl, hq3⟩) (by show 3 ≤ 7; decide) (fun p hp => .tail _ (.tail _ (.tail _ hp)))
          · repeat' (first | ((with_reducible show wpAny _ _ (exec _ _) _ _ _); k_fold) | ((fail_if_success (with_reducible refine stop_of Stop4 (by constructor) ?_)); (fail_if_success (with_reducible refine stop_of Stop2 (by constructor) ?_)); (fail_if_success (with_reducible refine stop_of Stop1 (by constructor) ?_)); first | (k_unfold; (try dsimp only)) | (k_end; wrow_close) | walk1 | (dsimp only; walk1) | (leave1; try dsimp only)) | walk_at "mine item" | fail)
            exact .mk (us := [_, _, _]) (by assumption) (by assumption) (.tail _ (.head _)) (fun v hv => by
              simp only [List.mem_cons, List.not_mem_nil, or_false] at hv
              rcases hv with rfl | rfl | rfl
              · exact ⟨_, _, rfl, hq1⟩
              · exact ⟨_, _, rfl, hq2⟩
              · exact ⟨_, _, rfl, hq3⟩) (by show 3 ≤ 7; decide) (fun p hp => .tail _ (.tail _ (.tail _ hp)))
          · refine (hb _ e3).el fun u9 t9 w1 w2 w3 w4 w5 w6 => ?_
            repeat' (first | ((with_reducible show wpAny _ _ (exec _ _) _ _ _); k_fold) | ((fail_if_success (with_reducible refine stop_of Stop4 (by constructor) ?_)); (fail_if_success (with_reducible refine stop_of Stop2 (by constructor) ?_)); (fail_if_success (with_reducible refine stop_of Stop1 (by constructor) ?_)); first | (k_unfold; (try dsimp only)) | (k_end; wrow_close) | walk1 | (dsimp only; walk1) | (leave1; try dsimp only)) | walk_at "mine item" | fail)
            refine rindex_last (a := 40 :: u9) (c := 41) (r := t9) w1 (by decide +kernel) w2 ?_
            intro t14 k14
            have lX : (X6.length == 0) = false := by rw [← len_cps, w1]; rfl
            repeat' (first | ((with_reducible show wpAny _ _ (exec _ _) _ _ _); k_fold) | ((fail_if_success (with_reducible refine stop_of Stop4 (by constructor) ?_)); (fail_if_success (with_reducible refine stop_of Stop2 (by constructor) ?_)); (fail_if_success (with_reducible refine stop_of Stop1 (by constructor) ?_)); first | (k_unfold; (try dsimp only)) | (k_end; wrow_close) | walk1 | (dsimp only; walk1) | (leave1; try dsimp only)) | walk_at "mine item" | fail)
            refine add_tok (by decide +kernel) lX (by have : (Str.ofString "(").length = 1 := by decide +kernel
                                                      (first | lia | omega)) ?_
            repeat' (first | ((with_reducible show wpAny _ _ (exec _ _) _ _ _); k_fold) | ((fail_if_success (with_reducible refine stop_of Stop4 (by constructor) ?_)); (fail_if_success (with_reducible refine stop_of Stop2 (by constructor) ?_)); (fail_if_success (with_reducible refine stop_of Stop1 (by constructor) ?_)); first | (k_unfold; (try dsimp only)) | (k_end; wrow_close) | walk1 | (dsimp only; walk1) | (leave1; try dsimp only)) | walk_at "mine item" | fail)
            refine replace_first (c := 40) w1 (by decide +kernel) (Nat.succ_ne_zero _) (Nat.succ_ne_zero _) (Nat.ne_of_lt (Nat.lt_succ_self _)) (by decide +kernel) (by (first | lia | omega)) (by decide +kernel) ?_
            intro X9 t15 k15 e15
            have ho := bent_four e3.asc e4 w1 w3 w4 w5 w6 e15
            repeat' (first | ((with_reducible show wpAny _ _ (exec _ _) _ _ _); k_fold) | ((fail_if_success (with_reducible refine stop_of Stop4 (by constructor) ?_)); (fail_if_success (with_reducible refine stop_of Stop2 (by constructor) ?_)); (fail_if_success (with_reducible refine stop_of Stop1 (by constructor) ?_)); first | (k_unfold; (try dsimp only)) | (k_end; wrow_close) | walk1 | (dsimp only; walk1) | (leave1; try dsimp only)) | walk_at "mine item" | fail)
            exact .mk (us := [_, _, _, _, _, _, _]) (by assumption) (by assumption) (.head _) (fun v hv => by
              simp only [List.mem_cons, List.not_mem_nil, or_false] at hv
              rcases hv with rfl | rfl | rfl | rfl | rfl | rfl | rfl
              · exact ⟨_, _, rfl, hq1⟩
              · exact ⟨_, _, rfl, hq2⟩
              · exact ⟨_, _, rfl, hq3⟩
              · exact ⟨_, _, rfl, ho.1⟩
              · exact ⟨_, _, rfl, ho.2.1⟩
              · exact ⟨_, _, rfl, ho.2.2.1⟩
              · exact ⟨_, _, rfl, ho.2.2.2⟩) (Nat.le_refl 7) (fun p hp => .tail _ (.tail _ (.tail _ (.tail _ (.tail _ hp)))))
          · refine (hb _ e3).el fun u9 t9 w1 w2 w3 w4 w5 w6 => ?_
            repeat' (first | ((with_reducible show wpAny _ _ (exec _ _) _ _ _); k_fold) | ((fail_if_success (with_reducible refine stop_of Stop4 (by constructor) ?_)); (fail_if_success (with_reducible refine stop_of Stop2 (by constructor) ?_)); (fail_if_success (with_reducible refine stop_of Stop1 (by constructor) ?_)); first | (k_unfold; (try dsimp only)) | (k_end; wrow_close) | walk1 | (dsimp only; walk1) | (leave1; try dsimp only)) | walk_at "mine item" | fail)
            refine rindex_last (a := 40 :: u9) (c := 41) (r := t9) w1 (by decide +kernel) w2 ?_
            intro t14 k14
            have lX : (X6.length == 0) = false := by rw [← len_cps, w1]; rfl
            repeat' (first | ((with_reducible show wpAny _ _ (exec _ _) _ _ _); k_fold) | ((fail_if_success (with_reducible refine stop_of Stop4 (by constructor) ?_)); (fail_if_success (with_reducible refine stop_of Stop2 (by constructor) ?_)); (fail_if_success (with_reducible refine stop_of Stop1 (by constructor) ?_)); first | (k_unfold; (try dsimp only)) | (k_end; wrow_close) | walk1 | (dsimp only; walk1) | (leave1; try dsimp only)) | walk_at "mine item" | fail)
            refine add_tok (by decide +kernel) lX (by have : (Str.ofString "(").length = 1 := by decide +kernel
                                                      (first | lia | omega)) ?_
            repeat' (first | ((with_reducible show wpAny _ _ (exec _ _) _ _ _); k_fold) | ((fail_if_success (with_reducible refine stop_of Stop4 (by constructor) ?_)); (fail_if_success (with_reducible refine stop_of Stop2 (by constructor) ?_)); (fail_if_success (with_reducible refine stop_of Stop1 (by constructor) ?_)); first | (k_unfold; (try dsimp only)) | (k_end; wrow_close) | walk1 | (dsimp only; walk1) | (leave1; try dsimp only)) | walk_at "mine item" | fail)
            refine replace_first (c := 40) w1 (by decide +kernel) (Nat.succ_ne_zero _) (Nat.succ_ne_zero _) (Nat.ne_of_lt (Nat.lt_succ_self _)) (by decide +kernel) (by (first | lia | omega)) (by decide +kernel) ?_
            intro X9 t15 k15 e15
            have ho := bent_four e3.asc e4 w1 w3 w4 w5 w6 e15
            repeat' (first | ((with_reducible show wpAny _ _ (exec _ _) _ _ _); k_fold) | ((fail_if_success (with_reducible refine stop_of Stop4 (by constructor) ?_)); (fail_if_success (with_reducible refine stop_of Stop2 (by constructor) ?_)); (fail_if_success (with_reducible refine stop_of Stop1 (by constructor) ?_)); first | (k_unfold; (try dsimp only)) | (k_end; wrow_close) | walk1 | (dsimp only; walk1) | (leave1; try dsimp only)) | walk_at "mine item" | fail)
            exact .mk (us := [_, _, _, _, _, _, _]) (by assumption) (by assumption) (.head _) (fun v hv => by
              simp only [List.mem_cons, List.not_mem_nil, or_false] at hv
              rcases hv with rfl | rfl | rfl | rfl | rfl | rfl | rfl
              · exact ⟨_, _, rfl, hq1⟩
              · exact ⟨_, _, rfl, hq2⟩
              · exact ⟨_, _, rfl, hq3⟩
              · exact ⟨_, _, rfl, ho.1⟩
              · exact ⟨_, _, rfl, ho.2.1⟩
              · exact ⟨_, _, rfl, ho.2.2.1⟩
              · exact ⟨_, _, rfl, ho.2.2.2⟩) (Nat.le_refl 7) (fun p hp => .tail _ (.tail _ (.tail _ (.tail _ (.tail _ hp)))))
        · refine fold_goal ?_; intro G9 k9; obtain ⟨F13, N13, m13, b13, z13, K13⟩ := hv; refine k9 ?_; clear k9 G9
          rename_i h13 tk13 n13 bl us9 k13 m13'
          repeat' (first | ((with_reducible show wpAny _ _ (exec _ _) _ _ _); k_fold) | ((fail_if_success (with_reducible refine stop_of Stop4 (by constructor) ?_)); (fail_if_success (with_reducible refine stop_of Stop3 (by constructor) ?_)); (fail_if_success (with_reducible refine stop_of Stop2 (by constructor) ?_)); (fail_if_success (with_reducible refine stop_of Stop1 (by constructor) ?_)); first | (k_unfold; (try dsimp only)) | (k_end; wrow_close) | walk1 | (dsimp only; walk1) | (leave1; try dsimp only)) | walk_at "mine item" | fail)
          obtain ⟨FW, NW⟩ := hide_fr hoL F13 N13
          have hbl : bl ≠ L := fun e => by
            have := (N13 _ m13).2.2
            rw [e, hoL] at this; cases this
          have hslL : sl ≠ L := by
            refine fold_goal ?_; intro G9 k9; obtain ⟨_, _, _, _, _, z⟩ := id S; refine k9 ?_; clear k9 G9
            exact (N _ z).2.1
          clear F13 N13 X' T' B'
          refine LCt.ListComp_T (F₀ := FW) (by rfl) (by decide) (by rfl) (by decide) (by rfl) ?_
          repeat' (first | ((with_reducible show wpAny _ _ (exec _ _) _ _ _); k_fold) | ((fail_if_success (with_reducible refine stop_of Stop4 (by constructor) ?_)); (fail_if_success (with_reducible refine stop_of Stop2 (by constructor) ?_)); (fail_if_success (with_reducible refine stop_of Stop1 (by constructor) ?_)); first | (k_unfold; (try dsimp only)) | (k_end; wrow_close) | walk1 | (dsimp only; walk1) | (leave1; try dsimp only)) | walk_at "mine item" | fail)
          refine LCt.CompSrcT.ledger (ax := bl) (its := us9.toArray) (k := k13) rfl FW NW (.tail _ m13) (by rw [List.size_toArray, sizeLine_eq]; (first | lia | omega)) ?_
          intro gg
          refine comp_allT (n := us9.toArray.size) (fun i ys n2 => ys = [] ∧ (∃ sl', (L, ({ oL with slots := sl' } : Obj)) ∈ n2) ∧ ∀ p ∈ n13, p.1 ≠ L → p ∈ n2) ?_ ?_ _ 0 [] _ (Nat.zero_add _) ⟨rfl, ⟨oL.slots, .head _⟩, fun p hp _ => .tail _ hp⟩
          · intro i ys n2 hi J9 v I oI C oC D' m₂ h tk9 E' hP hN hm F15 N15 o3 hne'; refine fold_goal ?_; intro G9 k9; obtain ⟨hys, ⟨sl', a3⟩, a4⟩ := J9; refine k9 ?_; clear k9 G9
            subst hys
            obtain ⟨X, t, rfl, x3, x4, x5⟩ := b13 v (by
              have : us9[i]? = some v := by simpa using hP
              exact List.mem_of_getElem? this)
            have zL := o3.mem _ a3
            have hO : OutL [envX cn cs L a ccd cl] ((I, oI) :: (C, oC) :: (D', LCg.lst []) :: n2) := fun env he => by
              rw [List.mem_singleton.mp he]
              exact ⟨hk, L, _, rfl, .tail _ (.tail _ (.tail _ a3)), hoD⟩
            repeat' (first | ((with_reducible show wpAny _ _ (exec _ _) _ _ _); k_fold) | ((fail_if_success (with_reducible refine stop_of Stop4 (by constructor) ?_)); (fail_if_success (with_reducible refine stop_of Stop2 (by constructor) ?_)); (fail_if_success (with_reducible refine stop_of Stop1 (by constructor) ?_)); first | (k_unfold; (try dsimp only)) | (k_end; wrow_close) | walk1 | (dsimp only; walk1) | (leave1; try dsimp only)) | walk_at "mine item" | fail)
            k_dflt (refine' conF_use ?kN (law_refused (Nat.le_trans x4 (by decide)) x3) hO ?kF ?kX ?kT ?kK ?kD ?kU ?kOk; (case kN => exact N15); (case kF => exact F15); (case kX => exact XW); (case kT => exact TW); (case kK => exact rfl); (case kD => first | exact room0 (by assumption) | exact room1 (by assumption) rfl | exact room2 (by assumption) rfl | exact room3 (by assumption) rfl | exact roomA (by assumption) rfl | exact roomS (by assumption) rfl | exact roomM (by assumption) rfl | exact roomB (by assumption) rfl | k_room); (case kU => first | exact room0 (by assumption) | exact room1 (by assumption) rfl | exact room2 (by assumption) rfl | exact room3 (by assumption) rfl | exact roomA (by assumption) rfl | exact roomS (by assumption) rfl | exact roomM (by assumption) rfl | exact roomB (by assumption) rfl | k_units))
            intro r16 n16 h16 tk16 F16 N16 K16 P16
            rcases P16 with ⟨rfl, _⟩ | ⟨_, D0, q0⟩
            case inr => cases q0.det x5
            repeat' (first | ((with_reducible show wpAny _ _ (exec _ _) _ _ _); k_fold) | ((fail_if_success (with_reducible refine stop_of Stop4 (by constructor) ?_)); (fail_if_success (with_reducible refine stop_of Stop2 (by constructor) ?_)); (fail_if_success (with_reducible refine stop_of Stop1 (by constructor) ?_)); first | (k_unfold; (try dsimp only)) | (k_end; wrow_close) | walk1 | (dsimp only; walk1) | (leave1; try dsimp only)) | walk_at "mine item" | fail)
            have hL1 : ∀ p ∈ (I, oI) :: (C, oC) :: (D', LCg.lst []) :: n2, p.1 ≠ L → p ∈ n16 := fun p hp hn => (K16 p hp).1 fun hm => hn (List.mem_singleton.mp hm)
            obtain ⟨sl2, a5⟩ := (K16 _ (.tail _ (.tail _ (.tail _ a3)))).2 (List.mem_singleton.mpr rfl)
            have f2 : ∀ p ∈ n2, p.1 ≠ L → p ∈ off I (off C (off D' n16)) := fun p hp hn => by
              have z := o3.mem p hp
              exact off_mem (off_mem (off_mem (hL1 p (.tail _ (.tail _ (.tail _ hp))) hn) z.2.2) z.2.1) z.1
            refine LCg.CompEnd.intro F16 N16 (off I (off C (off D' n16))) (fun p hp => ?_) (LCg.Off3.of fun p hp => ⟨off_ne p hp, off_ne p (off_sub hp), off_ne p (off_sub (off_sub hp))⟩) (.inr ⟨_, f2 _ (a4 _ m13 hbl) hbl, rfl, _, rfl⟩) ⟨rfl, ⟨sl2, off_mem (off_mem (off_mem a5 zL.2.2) zL.2.1) zL.1⟩, fun p hp hn => f2 p (a4 p hp hn) hn⟩
            rcases List.mem_cons.mp hp with rfl | hp
            · exact hL1 _ (.head _) (Ne.symm zL.1)
            · rcases List.mem_cons.mp hp with rfl | hp
              · exact hL1 _ (.tail _ (.head _)) (Ne.symm zL.2.1)
              · rcases List.mem_cons.mp hp with rfl | hp
                · exact hL1 _ (.tail _ (.tail _ (.head _))) (Ne.symm zL.2.2)
                · exact off_sub (off_sub (off_sub hp))
          · intro ys n2 J9; refine fold_goal ?_; intro G9 k9; obtain ⟨hys, ⟨sl', a3⟩, a4⟩ := J9; refine k9 ?_; clear k9 G9
            subst hys
            intro D' h tk9 F15 N15 o4
            repeat' (first | ((with_reducible show wpAny _ _ (exec _ _) _ _ _); k_fold) | ((fail_if_success (with_reducible refine stop_of Stop4 (by constructor) ?_)); (fail_if_success (with_reducible refine stop_of Stop2 (by constructor) ?_)); (fail_if_success (with_reducible refine stop_of Stop1 (by constructor) ?_)); first | (k_unfold; (try dsimp only)) | (k_end; wrow_close) | walk1 | (dsimp only; walk1) | (leave1; try dsimp only)) | walk_at "mine item" | fail)
            refine eq_nilK (vs := []) (by assumption) (.tail _ (.head _)) (.head _) (by first | exact room0 (by assumption) | exact room1 (by assumption) rfl | exact room2 (by assumption) rfl | exact room3 (by assumption) rfl | exact roomA (by assumption) rfl | exact roomS (by assumption) rfl | exact roomM (by assumption) rfl | exact roomB (by assumption) rfl | k_units) ?_
            repeat' (first | ((with_reducible show wpAny _ _ (exec _ _) _ _ _); k_fold) | ((fail_if_success (with_reducible refine stop_of Stop4 (by constructor) ?_)); (fail_if_success (with_reducible refine stop_of Stop2 (by constructor) ?_)); (fail_if_success (with_reducible refine stop_of Stop1 (by constructor) ?_)); first | (k_unfold; (try dsimp only)) | (k_end; wrow_close) | walk1 | (dsimp only; walk1) | (leave1; try dsimp only)) | walk_at "mine item" | fail)
            refine ex _ sl' _ _ _ _ (by assumption) (by assumption) (.tail _ (.tail _ a3)) fun news' z1 z2 z3 => hret _ news' _ _ z1 z2 (fun p hp i => ?_) ⟨rfl, ?_⟩
            · have hn := (N p hp).2.1
              exact z3 p (.tail _ (.tail _ (a4 p (K13 p (k11 p hp i)) hn))) hn
            · refine fold_goal ?_; intro G9 k9; obtain ⟨a, b, ta, tb, nn, z⟩ := S11; refine k9 ?_; clear k9 G9
              exact ⟨a, b, ta, tb, nn, z3 _ (.tail _ (.tail _ (a4 _ (K13 _ z) hslL))) hslL⟩
/-- the law's end -/
inductive LawEnd (g : Heap) (L : Addr) (s : Shared) : Flow → Shared → Prop
  | mk {h : Heap} {tk : Nat} {tb : Bool} {m : Str → Option Value} {n : Led} : tb = true → Fr g L h m → News g L h n → LawEnd g L s (.ret (.bool tb)) { s with heap := h, toks := tk }
namespace t9
theorem tw11459736101242638955 : True := trivial
theorem tw7827648179873049679 : True := trivial
theorem tw747541721707944708 : True := trivial
theorem tw13896219066839489651 : True := trivial
theorem tw1412276761397016365 : True := trivial
theorem tw13784339839877860964 : True := trivial
theorem tw15148634129828981184 : True := trivial
theorem tw5370279774290575839 : True := trivial
theorem tw16520289368799054785 : True := trivial
theorem tw1014689771657576439 : True := trivial
theorem tw13082649878650494929 : True := trivial
theorem tw12436961923471970726 : True := trivial
theorem tw9088874475419573034 : True := trivial
theorem tw12529151065011529373 : True := trivial
theorem tw13790368946663943684 : True := trivial
theorem tw18371078152065924967 : True := trivial
theorem tw17022871148765235196 : True := trivial
theorem tw13857615586595213507 : True := trivial
theorem tw13017287634194533216 : True := trivial
theorem tw17487491162835978155 : True := trivial
theorem tw5579364236709102419 : True := trivial
theorem tw15831687452469456030 : True := trivial
theorem tw16889498088394803983 : True := trivial
theorem tw8041850686904935533 : True := trivial
theorem tw17311937389807263902 : True := trivial
theorem tw6874621538769181682 : True := trivial
theorem tw17502794066536492696 : True := trivial
theorem tw17888124100382263928 : True := trivial
theorem tw10460551239100176570 : True := trivial
theorem tw10103883277301121733 : True := trivial
theorem tw8830789165831402837 : True := trivial
theorem tw5164781989694478262 : True := trivial
theorem tw16126787111966511335 : True := trivial
theorem tw10222177318354845496 : True := trivial
theorem tw9075514598613061842 : True := trivial
theorem tw1207834431813890399 : True := trivial
theorem tw11509012359659779510 : True := trivial
theorem tw14386425098728943999 : True := trivial
theorem tw1128547587247199907 : True := trivial
theorem tw5173095574128672882 : True := trivial
theorem tw4958341901480337831 : True := trivial
theorem tw14904907838788956247 : True := trivial
theorem tw3108346688994965294 : True := trivial
theorem tw8609743264974555736 : True := trivial
theorem tw11901202572060640712 : True := trivial
theorem tw7478148276865775179 : True := trivial
theorem tw4965640479530623106 : True := trivial
theorem tw13772917941359709070 : True := trivial
theorem tw16417963284504673739 : True := trivial
theorem tw918538810746678241 : True := trivial
theorem tw7478888264272258704 : True := trivial
theorem tw3651681447982790944 : True := trivial
theorem tw879194020537544177 : True := trivial
theorem tw16168973435662787490 : True := trivial
theorem tw2029572859041725980 : True := trivial
theorem tw3593332764156318687 : True := trivial
theorem tw12658347559801016546 : True := trivial
theorem tw17736000840730597694 : True := trivial
theorem tw4421004251788283066 : True := trivial
theorem tw17136412046108981781 : True := trivial
theorem tw6546466939157870700 : True := trivial
theorem tw8764148957682975371 : True := trivial
theorem tw3839931376847199523 : True := trivial
theorem tw2638533960201483598 : True := trivial
theorem tw6302934970624285119 : True := trivial
theorem tw9695600231591665025 : True := trivial
theorem tw15147701488614923919 : True := trivial
theorem tw8959952189763751992 : True := trivial
theorem tw14690141549412963121 : True := trivial
theorem tw15678982675424412271 : True := trivial
theorem tw3317391572521889984 : True := trivial
theorem tw9540904928827854087 : True := trivial
theorem tw13831605085860944818 : True := trivial
theorem tw18092675839403405668 : True := trivial
theorem tw7751752214302118898 : True := trivial
theorem tw3000675446574016906 : True := trivial
theorem tw2724420033868187072 : True := trivial
theorem tw12367059181509487461 : True := trivial
theorem tw6334970380487550 : True := trivial
theorem tw12282932166705327322 : True := trivial
theorem tw14756597502417843199 : True := trivial
theorem tw12356891481086979400 : True := trivial
theorem tw15453337996416444355 : True := trivial
theorem tw16828868733628978800 : True := trivial
theorem tw16014935295496824129 : True := trivial
theorem tw7758651673723706381 : True := trivial
theorem tw10089025920570276353 : True := trivial
theorem tw13941157060299629707 : True := trivial
theorem tw17500842818915572454 : True := trivial
theorem tw9405923813944728880 : True := trivial
theorem tw15158493527702367612 : True := trivial
theorem tw17335422537362692877 : True := trivial
theorem tw2594079941908138593 : True := trivial
theorem tw14490269627638727573 : True := trivial
theorem tw12957802098751691013 : True := trivial
theorem tw8978701093072751013 : True := trivial
theorem tw1940006119994773124 : True := trivial
theorem tw16277103760897331581 : True := trivial
theorem tw15610452677391387192 : True := trivial
theorem tw12347897882458959211 : True := trivial
theorem tw2259708124865255658 : True := trivial
theorem tw6285194570258740014 : True := trivial
theorem tw12206519060709842206 : True := trivial
theorem tw16638725581639088785 : True := trivial
theorem tw1364935884683557387 : True := trivial
theorem tw10632752943198333579 : True := trivial
theorem tw12407690444167686058 : True := trivial
theorem tw13440476100744426147 : True := trivial
theorem tw11357001788188154678 : True := trivial
theorem tw12829911525568641959 : True := trivial
theorem tw1482509003372448201 : True := trivial
theorem tw13593757340777098510 : True := trivial
theorem tw16983302419488777262 : True := trivial
theorem tw17155684113083190823 : True := trivial
theorem tw18426100329678758947 : True := trivial
theorem tw8611154296658438758 : True := trivial
theorem tw14730354167774049756 : True := trivial
theorem tw760265459642207152 : True := trivial
theorem tw9452675410408027972 : True := trivial
theorem tw10163150208387790270 : True := trivial
theorem tw16118903471504871048 : True := trivial
theorem tw15898813964489006357 : True := trivial
theorem tw8171983482289734301 : True := trivial
theorem tw11254787129629661380 : True := trivial
theorem tw13888689372133382606 : True := trivial
theorem tw5815042720323553212 : True := trivial
theorem tw7931880529140305837 : True := trivial
theorem tw13819459575880807996 : True := trivial
theorem tw14235644162602037502 : True := trivial
theorem tw1534991875968653675 : True := trivial
theorem tw3212687498534274056 : True := trivial
theorem tw9127944081004177490 : True := trivial
theorem tw14395300788509619856 : True := trivial
theorem tw17957166101319027974 : True := trivial
theorem tw978406503676648615 : True := trivial
theorem tw14891531414731745422 : True := trivial
theorem tw15521892606588363346 : True := trivial
theorem tw1391711318442479424 : True := trivial
theorem tw9418305390161052713 : True := trivial
theorem tw9503787878396695994 : True := trivial
theorem tw3255562021529607001 : True := trivial
theorem tw15431776854691165898 : True := trivial
theorem tw18035938520294462858 : True := trivial
theorem tw6445149907776919339 : True := trivial
theorem tw15188631863267644992 : True := trivial
theorem tw1536687441061365753 : True := trivial
theorem tw5555468375220723885 : True := trivial
theorem tw8022373571373389564 : True := trivial
theorem tw244936838873292117 : True := trivial
theorem tw12361108570727415782 : True := trivial
theorem tw17776285148940551122 : True := trivial
theorem tw3880013137246797751 : True := trivial
theorem tw11983475447077836108 : True := trivial
theorem tw11705509316224499840 : True := trivial
theorem tw5501343129070987953 : True := trivial
theorem tw10495832351545081173 : True := trivial
theorem tw17250006128595191676 : True := trivial
theorem tw8101759396258363772 : True := trivial
theorem tw10334541815295022296 : True := trivial
theorem tw12151192077298071476 : True := trivial
theorem tw1321646426091974433 : True := trivial
theorem tw5223548561636832360 : True := trivial
theorem tw9080224396619726020 : True := trivial
theorem tw7005754452591600170 : True := trivial
theorem tw15558040717682852037 : True := trivial
theorem tw13962896784038880883 : True := trivial
theorem tw16408472543774717876 : True := trivial
theorem tw12059175678689713884 : True := trivial
theorem tw13229494664660127649 : True := trivial
theorem tw416192369508637810 : True := trivial
theorem tw6986577688581120755 : True := trivial
theorem tw13195435827665053920 : True := trivial
theorem tw2373814675340180624 : True := trivial
theorem tw18393209931876540790 : True := trivial
theorem tw16312435761723349478 : True := trivial
theorem tw18411939810219680394 : True := trivial
theorem tw10109646350073906319 : True := trivial
theorem tw317802394155418427 : True := trivial
theorem tw9427214910585527990 : True := trivial
theorem tw536758421824212652 : True := trivial
theorem tw4584114818608157120 : True := trivial
theorem tw14986978091237733382 : True := trivial
theorem tw11589705322201998750 : True := trivial
theorem tw6002571807857564982 : True := trivial
theorem tw1565449329307002966 : True := trivial
theorem tw17731912549221900074 : True := trivial
theorem tw4879476289363014185 : True := trivial
theorem tw760664604767502073 : True := trivial
theorem tw17229821985619369950 : True := trivial
theorem tw9261943691669233435 : True := trivial
theorem tw1524739874436850005 : True := trivial
theorem tw6756614041244353799 : True := trivial
theorem tw9213341255421522857 : True := trivial
theorem tw6634901026067080825 : True := trivial
theorem tw11047631527981129322 : True := trivial
theorem tw13607554685256849126 : True := trivial
theorem tw17327754777179564987 : True := trivial
theorem tw15384590362290250181 : True := trivial
theorem tw16010427967276261530 : True := trivial
theorem tw4312173071029216115 : True := trivial
theorem tw4947454486878012859 : True := trivial
theorem tw6981857925747871976 : True := trivial
theorem tw9696595735280752047 : True := trivial
theorem tw9947328102083841464 : True := trivial
theorem tw10144866421091515378 : True := trivial
theorem tw14212312317420884661 : True := trivial
theorem tw3833513334339580348 : True := trivial
theorem tw7615456199834141416 : True := trivial
theorem tw15363584078120740241 : True := trivial
theorem tw15672716553074759672 : True := trivial
theorem tw1781860339866794287 : True := trivial
theorem tw4896903430161447477 : True := trivial
theorem tw9096590101369421738 : True := trivial
theorem tw9527958701741906263 : True := trivial
theorem tw2979200967976064871 : True := trivial
theorem tw2794824381789858262 : True := trivial
theorem tw605075428879822143 : True := trivial
theorem tw16643451577313923367 : True := trivial
theorem tw3646555187041156350 : True := trivial
theorem tw9219530935643577127 : True := trivial
theorem tw10065663832806144676 : True := trivial
theorem tw13778490189180260530 : True := trivial
theorem tw1370194481579439059 : True := trivial
theorem tw11889120133754023780 : True := trivial
theorem tw6841979646285345948 : True := trivial
theorem tw16269915594844110417 : True := trivial
theorem tw11922824493066076040 : True := trivial
theorem tw13162238734591775821 : True := trivial
theorem tw13907074633549067615 : True := trivial
theorem tw13949259273204794490 : True := trivial
theorem tw14242448115948180678 : True := trivial
theorem tw18217426516082064102 : True := trivial
theorem tw10839319409867653387 : True := trivial
theorem tw4270117073902943311 : True := trivial
theorem tw9422189297511531897 : True := trivial
theorem tw11999629915429059019 : True := trivial
theorem tw3093495988318480325 : True := trivial
theorem tw14705561720753527273 : True := trivial
theorem tw3544144434760942824 : True := trivial
theorem tw11664653956655493478 : True := trivial
theorem tw17216823419222942913 : True := trivial
theorem tw11064166566189719469 : True := trivial
theorem tw6031354246268786450 : True := trivial
theorem tw6293153156909455497 : True := trivial
theorem tw15530179830063537482 : True := trivial
theorem tw7919954788485039123 : True := trivial
theorem tw3425918109578916417 : True := trivial
theorem tw2963616568010677882 : True := trivial
theorem tw13359617818591052774 : True := trivial
theorem tw6351375874108845085 : True := trivial
theorem tw26736050883332731 : True := trivial
theorem tw14302144181838393928 : True := trivial
theorem tw320416226248602459 : True := trivial
theorem tw4579263127465934859 : True := trivial
theorem tw4489628800943246459 : True := trivial
theorem tw10170388883665149929 : True := trivial
theorem tw6311311828368097713 : True := trivial
theorem tw17162904894885091917 : True := trivial
theorem tw2896007007575163515 : True := trivial
theorem tw4386451937769975137 : True := trivial
theorem tw3572525128611059632 : True := trivial
theorem tw638637759373166048 : True := trivial
theorem tw17661947625872448924 : True := trivial
theorem tw15559873645272393223 : True := trivial
theorem tw14590224198485872395 : True := trivial
theorem tw9664936537674045663 : True := trivial
theorem tw17653077524642346777 : True := trivial
theorem tw1999834962108934416 : True := trivial
theorem tw6297875922379356017 : True := trivial
theorem tw4564126762095810739 : True := trivial
theorem tw9939679263387401847 : True := trivial
theorem tw16815448914826802889 : True := trivial
theorem tw13475465315927686487 : True := trivial
theorem tw4831750142041348263 : True := trivial
theorem tw6289932762653081905 : True := trivial
theorem tw16247097408475686141 : True := trivial
theorem tw174906589565889407 : True := trivial
theorem tw16652106282638704776 : True := trivial
theorem tw7251656338517145396 : True := trivial
theorem tw15564024850053478450 : True := trivial
theorem tw10306677927675034270 : True := trivial
theorem tw6167774510766675480 : True := trivial
theorem tw389636145027143392 : True := trivial
theorem tw13975132411850450292 : True := trivial
theorem tw1748517009687309374 : True := trivial
theorem tw15045970244533791699 : True := trivial
theorem tw6932213507664655506 : True := trivial
theorem tw17464833981198852376 : True := trivial
theorem tw3394379806501790262 : True := trivial
theorem tw1752053329946924932 : True := trivial
theorem tw9208683429715402583 : True := trivial
theorem tw11460929114452342552 : True := trivial
theorem tw13258030214132343834 : True := trivial
theorem tw13391455305642588762 : True := trivial
theorem tw2647823673584070979 : True := trivial
theorem tw8094840856935918141 : True := trivial
theorem tw6846424135594095278 : True := trivial
theorem tw3104582108702108095 : True := trivial
theorem tw5895493117445075922 : True := trivial
theorem tw14717649894125284861 : True := trivial
theorem tw4036310989301654359 : True := trivial
theorem tw7918713507762723023 : True := trivial
theorem tw16063902425405615855 : True := trivial
theorem tw10355809170497355908 : True := trivial
theorem tw5309836193997263900 : True := trivial
theorem tw332698197422018589 : True := trivial
theorem tw4031643940639659144 : True := trivial
theorem tw12634657630588842943 : True := trivial
theorem tw7659591830118489258 : True := trivial
theorem tw5986147366525805482 : True := trivial
theorem tw4968925709430504369 : True := trivial
theorem tw18397791877301243940 : True := trivial
theorem tw8343065898620854372 : True := trivial
theorem tw15351983505691635080 : True := trivial
theorem tw9632532192086095065 : True := trivial
theorem tw6375790027414021839 : True := trivial
theorem tw7258454949888355161 : True := trivial
theorem tw9826253970150779267 : True := trivial
theorem tw9999663246941954608 : True := trivial
theorem tw8096623920714441311 : True := trivial
theorem tw6923392836242009908 : True := trivial
theorem tw9335022173979323124 : True := trivial
theorem tw18292079976669580019 : True := trivial
theorem tw7242513820823394853 : True := trivial
theorem tw7117115846810594538 : True := trivial
theorem tw10531844699969477335 : True := trivial
theorem tw510954713790949896 : True := trivial
theorem tw16769136839529960409 : True := trivial
theorem tw16521459901274028289 : True := trivial
theorem tw8563688465275229818 : True := trivial
theorem tw14823049265978438178 : True := trivial
theorem tw9563968435736624508 : True := trivial
theorem tw1288431480641040166 : True := trivial
theorem tw7747253266756253639 : True := trivial
theorem tw12368289472086322002 : True := trivial
theorem tw5507887636707068403 : True := trivial
theorem tw2269949828696250262 : True := trivial
theorem tw2983815457013995012 : True := trivial
theorem tw6633262169666321530 : True := trivial
theorem tw4276460007391762818 : True := trivial
theorem tw11214557914026021365 : True := trivial
theorem tw14125341382916362152 : True := trivial
theorem tw5871576526367006941 : True := trivial
theorem tw12969161075691856204 : True := trivial
theorem tw12183559505432236444 : True := trivial
theorem tw2138026106728963932 : True := trivial
theorem tw4325306097271554383 : True := trivial
theorem tw10490440428303572733 : True := trivial
theorem tw9533799415488064339 : True := trivial
theorem tw4464228680273668408 : True := trivial
theorem tw12028476738070795216 : True := trivial
theorem tw10267056240097418348 : True := trivial
theorem tw16606658975780563639 : True := trivial
theorem tw16948183751577869880 : True := trivial
theorem tw1467653586819515405 : True := trivial
theorem tw206752684293009193 : True := trivial
theorem tw3013139239661806806 : True := trivial
theorem tw6125736167567453171 : True := trivial
theorem tw13760458761566790428 : True := trivial
theorem tw18267663522591165204 : True := trivial
theorem tw16782817693053586366 : True := trivial
theorem tw9536959701382122889 : True := trivial
theorem tw3480432503826782024 : True := trivial
theorem tw10673335203358419922 : True := trivial
theorem tw7741856914200045239 : True := trivial
theorem tw894890268619806919 : True := trivial
theorem tw11203609004954959562 : True := trivial
theorem tw4678234584032023765 : True := trivial
theorem tw17147683726100152822 : True := trivial
theorem tw16969828976651852752 : True := trivial
theorem tw12874890279838765364 : True := trivial
theorem tw5387593365162639862 : True := trivial
theorem tw9965686343227290819 : True := trivial
theorem tw3144383746506458229 : True := trivial
theorem tw1519633339157572375 : True := trivial
theorem tw2688365061311937047 : True := trivial
theorem tw6915825841321231796 : True := trivial
theorem tw18416820541626087373 : True := trivial
theorem tw15297112254528969198 : True := trivial
theorem tw2137555955664472202 : True := trivial
theorem tw6645139440169866458 : True := trivial
theorem tw8717797051432390875 : True := trivial
theorem tw1984745231712633794 : True := trivial
theorem tw11181279116709375024 : True := trivial
theorem tw3753393572910421112 : True := trivial
theorem tw3714355838906742483 : True := trivial
theorem tw2344342929289471349 : True := trivial
theorem tw15750750532665511340 : True := trivial
theorem tw7804125730716225808 : True := trivial
theorem tw9354990420295484489 : True := trivial
theorem tw13278771011781438630 : True := trivial
theorem tw16653232288496328426 : True := trivial
theorem tw10867636440101702771 : True := trivial
theorem tw290529934779169841 : True := trivial
theorem tw4182332330109736214 : True := trivial
theorem tw6371803363229682743 : True := trivial
theorem tw11273974685081603205 : True := trivial
theorem tw12141717317274159890 : True := trivial
theorem tw5354807852223207332 : True := trivial
theorem tw7700921291005270447 : True := trivial
theorem tw10762071874548166154 : True := trivial
theorem tw9709478153158903448 : True := trivial
theorem tw11962086093764849122 : True := trivial
theorem tw13630544368564395820 : True := trivial
theorem tw181892691989817960 : True := trivial
theorem tw11533477858866384533 : True := trivial
theorem tw11792083643720115761 : True := trivial
theorem tw3088709961147331765 : True := trivial
theorem tw17893360720539034156 : True := trivial
theorem tw10387168112440125005 : True := trivial
theorem tw6355613925479823836 : True := trivial
theorem tw8199470133852228490 : True := trivial
theorem tw2528626116055691981 : True := trivial
theorem tw5524305806841692469 : True := trivial
theorem tw18204354252758515113 : True := trivial
theorem tw11125584434897510977 : True := trivial
theorem tw1682316834672763943 : True := trivial
theorem tw7780289303613317217 : True := trivial
theorem tw11467887792846970554 : True := trivial
theorem tw1893923516169127850 : True := trivial
theorem tw182636036231693308 : True := trivial
theorem tw13769589530181883861 : True := trivial
theorem tw4534557174251579829 : True := trivial
theorem tw11687398230589396272 : True := trivial
theorem tw6983276811535451159 : True := trivial
theorem tw15325579430708186770 : True := trivial
theorem tw3228157933457631162 : True := trivial
theorem tw11248114141578804779 : True := trivial
theorem tw17623701042989598915 : True := trivial
theorem tw434178171294798415 : True := trivial
theorem tw221873919382801615 : True := trivial
theorem tw15432634868882513076 : True := trivial
theorem tw15906231039868730989 : True := trivial
theorem tw18345376277483148458 : True := trivial
theorem tw10698921067516332805 : True := trivial
theorem tw12050067731694016624 : True := trivial
theorem tw3431819346569605203 : True := trivial
theorem tw3441140658918172825 : True := trivial
theorem tw9200599922231564627 : True := trivial
theorem tw17284730339490529718 : True := trivial
theorem tw15992135039282963224 : True := trivial
theorem tw18196965380108200081 : True := trivial
theorem tw3657356336733613778 : True := trivial
theorem tw11167816343982061904 : True := trivial
theorem tw15245203948117668907 : True := trivial
theorem tw1179683137349597687 : True := trivial
theorem tw2206592723593807124 : True := trivial
theorem tw833371741196029788 : True := trivial
theorem tw3413249377654268787 : True := trivial
theorem tw12245201664823755582 : True := trivial
theorem tw17624140445116985061 : True := trivial
theorem tw12833676716335958631 : True := trivial
theorem tw41636251924369094 : True := trivial
theorem tw17596531715052147109 : True := trivial
theorem tw14281270173702342187 : True := trivial
theorem tw14663978357976770467 : True := trivial
theorem tw357486453476387696 : True := trivial
end t9
set_option Elab.async true in
set_option maxHeartbeats 30000000 in
theorem t9 : PySem.Challenge.rw_nu0061_01.Holds := by
  w_on; o_law; o_head (kHook hd.heap_1 [2, 3, 15, 17, 18, 20, 21, 22, 23, 24, 25, 26, 27, 28, 29, 30, 31, 32, 33, 34, 35, 36, 37, 38, 39, 41, 42, 44, 45, 46, 48, 49, 51, 52, 53, 55, 56, 58, 59, 60, 62, 63, 65, 66, 67, 69, 70, 72, 73, 74, 81, 83, 84, 86, 87, 88, 89, 90, 91, 94, 101, 102, 104, 105, 107, 108, 109, 110, 111, 121, 123, 124, 126, 127, 128, 130, 131, 133, 134, 135, 137, 138, 140, 141, 142, 144, 145, 147, 148, 149, 151, 152, 154, 155, 156, 158, 159, 161, 162, 163, 165, 166, 168, 169, 170, 172, 173, 175, 176, 177, 179, 180, 182, 183, 184, 186, 187, 189, 190, 191, 193, 194, 196, 197, 198, 200, 201, 203, 204, 205, 207, 208, 210, 211, 212, 214, 215, 217, 218, 219, 220, 221, 222, 223, 226, 227, 229, 230, 232, 233, 241, 243, 244, 246, 247, 248, 250, 251, 253, 254, 255, 257, 258, 260, 261, 262, 263, 264, 265, 266, 269, 271, 272, 274, 275, 276, 278, 279, 281, 282, 283, 285, 286, 288, 289, 290, 292, 293, 295, 296, 297, 299, 300, 302, 303, 304, 306, 307, 309, 310, 311, 313, 314, 316, 317, 318, 320, 321, 323, 324, 325, 327, 328, 330, 331, 332, 334, 335, 337, 338, 339, 341, 342, 344, 345, 346, 348, 349, 351, 352, 353, 355, 356, 358, 359, 360, 363, 364, 365, 367, 368, 370, 371, 372, 374, 375, 377, 378, 379, 381, 382, 384, 385, 386, 388, 389, 391, 392, 393, 395, 396, 398, 399, 400, 402, 403, 405, 406, 407, 410, 411, 412, 415, 416] (fun _ => by kernel_rfl)); (case hw => w_witness2); show WalkO seen [PySem.Str.ofString "DtdFault"] (XL seen []) (kHook hd.heap_1 _ _).says _ _ _ _
  exact (by
    k_go0
    all_goals try k_fold
    rename Heap.IsList _ _ _ => hLs
    rename IntsAre _ _ => hIs
    rename Frag.In _ _ => X9
    rename Top _ _ _ _ _ _ => T9
    rename Fr _ _ _ _ => F0
    rename ¬ ((63 : Nat) : Int) < _ => hlen
    have B9 := below_caller
    rename Shared => s9
    refine wpAny_mono (Q := fun fl s' => LawEnd s9.heap s9.heap.objs.size s9 fl s') (E := fun _ _ => False) ?_ (fun fl s' hv => ?_) (fun _ _ h => h.elim)
    rotate_left
    · obtain ⟨F8, N8⟩ := hv
      clear F0
      repeat' (first | ((with_reducible show wpAny _ _ (exec _ _) _ _ _); k_fold) | ((fail_if_success (with_reducible refine stop_of Stop4 (by constructor) ?_)); (fail_if_success (with_reducible refine stop_of Stop2 (by constructor) ?_)); (fail_if_success (with_reducible refine stop_of Stop1 (by constructor) ?_)); first | (k_unfold; (try dsimp only)) | (k_end; wrow_close) | walk1 | (dsimp only; walk1) | (leave1; try dsimp only)) | walk_at "mine item" | fail)
    refine fold_env ?_; intro e₁ A₁
    repeat' (first | ((with_reducible show wpAny _ _ (exec _ _) _ _ _); k_fold) | ((fail_if_success (with_reducible refine stop_of Stop4 (by constructor) ?_)); (fail_if_success (with_reducible refine stop_of Stop2 (by constructor) ?_)); (fail_if_success (with_reducible refine stop_of Stop1 (by constructor) ?_)); first | (k_unfold; (try dsimp only)) | (k_end; wrow_close) | walk1 | (dsimp only; walk1) | (leave1; try dsimp only)) | walk_at "mine item" | fail)
    refine For_invV (h₀ := s9.heap) rfl rfl ?_
    repeat' (first | ((with_reducible show wpAny _ _ (exec _ _) _ _ _); k_fold) | ((fail_if_success (with_reducible refine stop_of Stop4 (by constructor) ?_)); (fail_if_success (with_reducible refine stop_of Stop2 (by constructor) ?_)); (fail_if_success (with_reducible refine stop_of Stop1 (by constructor) ?_)); first | (k_unfold; (try dsimp only)) | (k_end; wrow_close) | walk1 | (dsimp only; walk1) | (leave1; try dsimp only)) | walk_at "mine item" | fail)
    rename IsRange _ _ _ _ _ _ _ _ => hr
    refine iter_range3 (Str.ofString "source") (Str.ofString "wrong") (n := 2) (fun i nx => True) rfl hr (by decide) (by decide) (by assumption) (by assumption) trivial (fun _ _ _ _ _ _ _ => trivial) ?_ ?_
    · intro i t vx2 vx3 nx own h7 tk7 hi _ hown F7 N7
      have hkk : (0 + (i : Int) * 1) = 0 ∨ (0 + (i : Int) * 1) = 1 := by (first | lia | omega)
      generalize (0 + (i : Int) * 1) = kk at *
      repeat' (first | ((with_reducible show wpAny _ _ (exec _ _) _ _ _); k_fold) | ((fail_if_success (with_reducible refine stop_of Stop4 (by constructor) ?_)); (fail_if_success (with_reducible refine stop_of Stop2 (by constructor) ?_)); (fail_if_success (with_reducible refine stop_of Stop1 (by constructor) ?_)); first | (k_unfold; (try dsimp only)) | (k_end; wrow_close) | walk1 | (dsimp only; walk1) | (leave1; try dsimp only)) | walk_at "mine item" | fail)
      k_dflt (refine' law_pool (news := nx) hkk hIs ?kl _ _ _ _ _ _ _ _ _ _ _ _ _ _ _ _ _ _ _ _ hLs ?kB ?kF ?kX ?kN ?kT ?kK ?kD ?kU ?_; (case kl => (first | lia | omega)); (case kB => exact B9 _); (case kF => k_asm); (case kX => k_asm); (case kN => k_asm); (case kT => k_asm); (case kK => rfl); (case kD => first | exact room0 (by assumption) | exact room1 (by assumption) rfl | exact room2 (by assumption) rfl | exact room3 (by assumption) rfl | exact roomA (by assumption) rfl | exact roomS (by assumption) rfl | exact roomM (by assumption) rfl | exact roomB (by assumption) rfl | k_room); (case kU => first | exact room0 (by assumption) | exact room1 (by assumption) rfl | exact room2 (by assumption) rfl | exact room3 (by assumption) rfl | exact roomA (by assumption) rfl | exact roomS (by assumption) rfl | exact roomM (by assumption) rfl | exact roomB (by assumption) rfl | k_units))
      intro r1 n1 h1 tk1 F1 N1 K1 P1
      refine el12 P1 ?_
      intro sl hQ9 S1 l1
      subst hQ9
      have B8 := B9 s9.heap
      repeat' (first | ((with_reducible show wpAny _ _ (exec _ _) _ _ _); k_fold) | ((fail_if_success (with_reducible refine stop_of Stop4 (by constructor) ?_)); (fail_if_success (with_reducible refine stop_of Stop2 (by constructor) ?_)); (fail_if_success (with_reducible refine stop_of Stop1 (by constructor) ?_)); first | (k_unfold; (try dsimp only)) | (k_end; wrow_close) | walk1 | (dsimp only; walk1) | (leave1; try dsimp only)) | walk_at "mine item" | fail)
      (k_dflt (refine' con_use ?kNz95 (law_model S1) ?kBz95 ?kFz95 ?kXz95 ?kTz95 ?kKz95 ?kDz95 ?kUz95 ?kOkz95 ?kErrz95; (case kNz95 => k_asm); (case kBz95 => k_asm); (case kFz95 => k_asm); (case kXz95 => k_asm); (case kTz95 => k_asm); (case kKz95 => first | exact rfl | assumption); (case kDz95 => first | exact room0 (by assumption) | exact room1 (by assumption) rfl | exact room2 (by assumption) rfl | exact room3 (by assumption) rfl | exact roomA (by assumption) rfl | exact roomS (by assumption) rfl | exact roomM (by assumption) rfl | exact roomB (by assumption) rfl | k_room); (case kUz95 => first | exact room0 (by assumption) | exact room1 (by assumption) rfl | exact room2 (by assumption) rfl | exact room3 (by assumption) rfl | exact roomA (by assumption) rfl | exact roomS (by assumption) rfl | exact roomM (by assumption) rfl | exact roomB (by assumption) rfl | k_units)))
      case kErrz95 => intro hf; exact hf.elim
      intro r2 news2 hh2 tk2 F2 N2 K2 P2
      refine el_DABS P2 ?_
      intro D2 d1 d2 S2
      repeat' (first | ((with_reducible show wpAny _ _ (exec _ _) _ _ _); k_fold) | ((fail_if_success (with_reducible refine stop_of Stop4 (by constructor) ?_)); (fail_if_success (with_reducible refine stop_of Stop2 (by constructor) ?_)); (fail_if_success (with_reducible refine stop_of Stop1 (by constructor) ?_)); first | (k_unfold; (try dsimp only)) | (k_end; wrow_close) | walk1 | (dsimp only; walk1) | (leave1; try dsimp only)) | walk_at "mine item" | fail)
      (k_dflt (refine' con1_use ?kNz96 (law_model_right d1 d2 S2) ?kFz96 ?kXz96 ?kTz96 ?kKz96 ?kDz96 ?kUz96 ?kOkz96; (case kNz96 => k_asm); (case kFz96 => k_asm); (case kXz96 => k_asm); (case kTz96 => k_asm); (case kKz96 => first | exact rfl | assumption); (case kDz96 => first | exact room0 (by assumption) | exact room1 (by assumption) rfl | exact room2 (by assumption) rfl | exact room3 (by assumption) rfl | exact roomA (by assumption) rfl | exact roomS (by assumption) rfl | exact roomM (by assumption) rfl | exact roomB (by assumption) rfl | k_room); (case kUz96 => first | exact room0 (by assumption) | exact room1 (by assumption) rfl | exact room2 (by assumption) rfl | exact room3 (by assumption) rfl | exact roomA (by assumption) rfl | exact roomS (by assumption) rfl | exact roomM (by assumption) rfl | exact roomB (by assumption) rfl | k_units)))
      intro r3 news3 hh3 tk3 F3 N3 K3 P3
      have hQ9 := P3.1
      have S3 := P3.2
      subst hQ9
      repeat' (first | ((with_reducible show wpAny _ _ (exec _ _) _ _ _); k_fold) | ((fail_if_success (with_reducible refine stop_of Stop4 (by constructor) ?_)); (fail_if_success (with_reducible refine stop_of Stop2 (by constructor) ?_)); (fail_if_success (with_reducible refine stop_of Stop1 (by constructor) ?_)); first | (k_unfold; (try dsimp only)) | (k_end; wrow_close) | walk1 | (dsimp only; walk1) | (leave1; try dsimp only)) | walk_at "mine item" | fail)
      (k_dflt (refine' con1_use ?kNz97 (law_model_right mo0 mixed0 ((S3.cons _).cons _)) ?kFz97 ?kXz97 ?kTz97 ?kKz97 ?kDz97 ?kUz97 ?kOkz97; (case kNz97 => k_asm); (case kFz97 => k_asm); (case kXz97 => k_asm); (case kTz97 => k_asm); (case kKz97 => first | exact rfl | assumption); (case kDz97 => first | exact room0 (by assumption) | exact room1 (by assumption) rfl | exact room2 (by assumption) rfl | exact room3 (by assumption) rfl | exact roomA (by assumption) rfl | exact roomS (by assumption) rfl | exact roomM (by assumption) rfl | exact roomB (by assumption) rfl | k_room); (case kUz97 => first | exact room0 (by assumption) | exact room1 (by assumption) rfl | exact room2 (by assumption) rfl | exact room3 (by assumption) rfl | exact roomA (by assumption) rfl | exact roomS (by assumption) rfl | exact roomM (by assumption) rfl | exact roomB (by assumption) rfl | k_units)))
      intro r4 news4 hh4 tk4 F4 N4 K4 P4
      have hQ9 := P4.1
      have S4 := P4.2
      subst hQ9
      repeat' (first | (with_reducible refine ite_no (by decide) ?_) | (first | ((with_reducible show wpAny _ _ (exec _ _) _ _ _); k_fold) | ((fail_if_success (with_reducible refine stop_of Stop4 (by constructor) ?_)); (fail_if_success (with_reducible refine stop_of Stop2 (by constructor) ?_)); (fail_if_success (with_reducible refine stop_of Stop1 (by constructor) ?_)); first | (k_unfold; (try dsimp only)) | (k_end; wrow_close) | walk1 | (dsimp only; walk1) | (leave1; try dsimp only)) | walk_at "mine item" | fail))
      rename News _ _ _ _ => N5
      refine news_head N5 fun nL N6 m6 k6 => ?_
      have k4 : ∀ p ∈ nx, p ∈ nL := fun p hp => k6 p (by
        have hn : p.1 ∉ [sl] := fun e => absurd (List.mem_singleton.mp e) (Nat.ne_of_lt (l1 p hp))
        have q := K4 p (.tail _ (.tail _ (K3 p (K2 p (K1.of_nil p hp) fun e => absurd e hn) fun e => absurd e hn))) fun e => absurd e hn
        k_mem)
      clear N5
      refine LCt.ListComp_T (F₀ := by assumption) (by rfl) (by decide) (by rfl) (by decide) (by rfl) ?_
      repeat' (first | ((with_reducible show wpAny _ _ (exec _ _) _ _ _); k_fold) | ((fail_if_success (with_reducible refine stop_of Stop4 (by constructor) ?_)); (fail_if_success (with_reducible refine stop_of Stop2 (by constructor) ?_)); (fail_if_success (with_reducible refine stop_of Stop1 (by constructor) ?_)); first | (k_unfold; (try dsimp only)) | (k_end; wrow_close) | walk1 | (dsimp only; walk1) | (leave1; try dsimp only)) | walk_at "mine item" | fail)
      refine LCt.CompSrcT.ledger rfl (by assumption) N6 m6 (by rw [sizeLine_eq]; show 21 ≤ _; decide) ?_
      intro gg
      refine comp_allT (n := 21) (fun i ys n2 => ys = [] ∧ ∀ p ∈ nL, p ∈ n2) ?_ ?_ 21 0 [] _ (Nat.zero_add _) ⟨rfl, fun p hp => hp⟩
      · intro i ys n2 hi9 J9 v I oI C oC D' m₂ h tk9 E' hP hN hm F15 N15 o3 hne'; refine fold_goal ?_; intro G9 k9; obtain ⟨hys, a4⟩ := J9; refine k9 ?_; clear k9 G9
        subst hys
        refine fold_goal ?_; intro G9 k9; obtain ⟨X, t, rfl, x0⟩ := strs_mem (wrong_strs _ _ _ _ _ _ _ _ _ _ _ _ _ _ _ _ _ _ _ _ _) v (mem_arr hP); refine k9 ?_; clear k9 G9
        obtain ⟨x3, x4, x5⟩ := wrong_ok x0
        repeat' (first | ((with_reducible show wpAny _ _ (exec _ _) _ _ _); k_fold) | ((fail_if_success (with_reducible refine stop_of Stop4 (by constructor) ?_)); (fail_if_success (with_reducible refine stop_of Stop2 (by constructor) ?_)); (fail_if_success (with_reducible refine stop_of Stop1 (by constructor) ?_)); first | (k_unfold; (try dsimp only)) | (k_end; wrow_close) | walk1 | (dsimp only; walk1) | (leave1; try dsimp only)) | walk_at "mine item" | fail)
        k_dflt (refine' conF_use ?kN (law_refused (Nat.le_trans x4 (by decide)) x3) (fun _ h => nomatch h) ?kF ?kX ?kT ?kK ?kD ?kU ?kOk; (case kN => exact N15); (case kF => exact F15); (case kX => k_asm); (case kT => k_asm); (case kK => exact rfl); (case kD => first | exact room0 (by assumption) | exact room1 (by assumption) rfl | exact room2 (by assumption) rfl | exact room3 (by assumption) rfl | exact roomA (by assumption) rfl | exact roomS (by assumption) rfl | exact roomM (by assumption) rfl | exact roomB (by assumption) rfl | k_room); (case kU => first | exact room0 (by assumption) | exact room1 (by assumption) rfl | exact room2 (by assumption) rfl | exact room3 (by assumption) rfl | exact roomA (by assumption) rfl | exact roomS (by assumption) rfl | exact roomM (by assumption) rfl | exact roomB (by assumption) rfl | k_units))
        intro r16 n16 h16 tk16 F16 N16 K16 P16
        rcases P16 with ⟨rfl, _⟩ | ⟨_, D0, q0⟩
        case inr => cases q0.det x5
        repeat' (first | ((with_reducible show wpAny _ _ (exec _ _) _ _ _); k_fold) | ((fail_if_success (with_reducible refine stop_of Stop4 (by constructor) ?_)); (fail_if_success (with_reducible refine stop_of Stop2 (by constructor) ?_)); (fail_if_success (with_reducible refine stop_of Stop1 (by constructor) ?_)); first | (k_unfold; (try dsimp only)) | (k_end; wrow_close) | walk1 | (dsimp only; walk1) | (leave1; try dsimp only)) | walk_at "mine item" | fail)
        have hL1 : ∀ p ∈ (I, oI) :: (C, oC) :: (D', LCg.lst []) :: n2, p ∈ n16 := fun p hp => (K16 p hp).1 fun hm => nomatch hm
        have f2 : ∀ p ∈ n2, p ∈ off I (off C (off D' n16)) := fun p hp => by
          have z := o3.mem p hp
          exact off_mem (off_mem (off_mem (hL1 p (.tail _ (.tail _ (.tail _ hp)))) z.2.2) z.2.1) z.1
        refine LCg.CompEnd.intro F16 N16 (off I (off C (off D' n16))) (fun p hp => ?_) (LCg.Off3.of fun p hp => ⟨off_ne p hp, off_ne p (off_sub hp), off_ne p (off_sub (off_sub hp))⟩) (.inr ⟨_, f2 _ (a4 _ m6), rfl, _, rfl⟩) ⟨rfl, fun p hp => f2 p (a4 p hp)⟩
        rcases List.mem_cons.mp hp with rfl | hp
        · exact hL1 _ (.head _)
        · rcases List.mem_cons.mp hp with rfl | hp
          · exact hL1 _ (.tail _ (.head _))
          · rcases List.mem_cons.mp hp with rfl | hp
            · exact hL1 _ (.tail _ (.tail _ (.head _)))
            · exact off_sub (off_sub (off_sub hp))
      · intro ys n2 J9; refine fold_goal ?_; intro G9 k9; obtain ⟨hys, a4⟩ := J9; refine k9 ?_; clear k9 G9
        subst hys
        intro D' h tk9 F15 N15 o4
        repeat' (first | ((with_reducible show wpAny _ _ (exec _ _) _ _ _); k_fold) | ((fail_if_success (with_reducible refine stop_of Stop4 (by constructor) ?_)); (fail_if_success (with_reducible refine stop_of Stop2 (by constructor) ?_)); (fail_if_success (with_reducible refine stop_of Stop1 (by constructor) ?_)); first | (k_unfold; (try dsimp only)) | (k_end; wrow_close) | walk1 | (dsimp only; walk1) | (leave1; try dsimp only)) | walk_at "mine item" | fail)
        refine ne_nilK (vs := []) (by assumption) (.tail _ (.head _)) (.head _) (by first | exact room0 (by assumption) | exact room1 (by assumption) rfl | exact room2 (by assumption) rfl | exact room3 (by assumption) rfl | exact roomA (by assumption) rfl | exact roomS (by assumption) rfl | exact roomM (by assumption) rfl | exact roomB (by assumption) rfl | k_units) ?_
        repeat' (first | (with_reducible refine ite_no (by decide) ?_) | (first | ((with_reducible show wpAny _ _ (exec _ _) _ _ _); k_fold) | ((fail_if_success (with_reducible refine stop_of Stop4 (by constructor) ?_)); (fail_if_success (with_reducible refine stop_of Stop2 (by constructor) ?_)); (fail_if_success (with_reducible refine stop_of Stop1 (by constructor) ?_)); first | (k_unfold; (try dsimp only)) | (k_end; wrow_close) | walk1 | (dsimp only; walk1) | (leave1; try dsimp only)) | walk_at "mine item" | fail))
        exact FStep.next (by assumption) (by assumption) (fun p hp => .tail _ (.tail _ (a4 p (k4 p (hown p hp).1)))) ⟨fun z a b c => by simp only [if_neg a, if_neg b, if_neg c], trivial⟩
    · intro m₁ nx h tk _ F9 N9
      repeat' (first | ((with_reducible show wpAny _ _ (exec _ _) _ _ _); k_fold) | ((fail_if_success (with_reducible refine stop_of Stop4 (by constructor) ?_)); (fail_if_success (with_reducible refine stop_of Stop2 (by constructor) ?_)); (fail_if_success (with_reducible refine stop_of Stop1 (by constructor) ?_)); first | (k_unfold; (try dsimp only)) | (k_end; wrow_close) | walk1 | (dsimp only; walk1) | (leave1; try dsimp only)) | walk_at "mine item" | fail)
      exact .mk rfl (by assumption) (by assumption))
end Mine
end
theorem PySem.Challenge.cw_nu0061_01_holds : PySem.Challenge.rw_nu0061_01.Holds := by
  exact Mine.t9
