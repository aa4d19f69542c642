import PyProof.Rows.All
import Wide.All
import OpenK.AllK
import Wide.FinOn
import PySem.Challenge.RW_pf0227_01
open PySem PySem.W PyProof.Rows
set_option Elab.async false
set_option linter.all false
namespace Mine
set_option maxRecDepth 100000 in
set_option maxHeartbeats 8000000 in
open_top hd for PySem.Challenge.rw_pf0227_01
abbrev Ledger := List (Addr × Obj)
abbrev tupOf (its : Array Value) (n : Nat) : Obj := { cls := .type "tuple", data := .seq its n }
/-- what is wanted behind a call: for the value v and the ledger nw -/
abbrev Ret (h₀ : Heap) (L : Addr) (m : Str → Option Value) (s : Shared) (Q : Value → Shared → Prop) (v : Value) (nw : Ledger) : Prop :=
  ∀ (h' : Heap) (tk' : Nat), Fr h₀ L h' m → News h₀ L h' nw → Q v { s with heap := h', toks := tk' }
/-- a call of the text's own def at f, over the ledger news: what it hands back and the ledger behind it -/
def Calls (w : World) (N : Nat) (f : Addr) (vs : List Value) (news : Ledger) (R : (Value → Ledger → Prop) → Prop) : Prop :=
  ∀ (p : Program) (loose : List Str) (mean : ExcName → Option Value) (mg mb : Str → Option Value) (dp un : Nat) (gd : Option (List Code)) (cn : Str) (cs : Scope) (a : Addr) (ccd : Value) (cl : List (Str × Addr)) (outer : List Env) (A₀ : Around) (base h₀ : Heap) (L : Addr) (m : Str → Option Value) (s : Shared) (Q E : Value → Shared → Prop),
    Below A₀ base outer h₀ → Fr h₀ L s.heap m → (hd.heap_39 w.params).In h₀ → News h₀ L s.heap news → Top p loose mean mg mb h₀ → cs.kind = .function →
    dp + N < recursionLimit → un + 20 * N < cLine → R (Ret h₀ L m s Q) →
    wpAny (model PySem.Challenge.rw_pf0227_01.row.prog w) (ktrTop dp un gd cn cs L a ccd cl outer) (call (.ref f) vs) Q E s
theorem Calls.use {w : World} {N : Nat} {f : Addr} {vs : List Value} {news : Ledger} {R : (Value → Ledger → Prop) → Prop} (C : Calls w N f vs news R)
    {p : Program} {loose : List Str} {mean : ExcName → Option Value} {mg mb : Str → Option Value} {dp un : Nat} {gd : Option (List Code)} {cn : Str} {cs : Scope} {a : Addr} {ccd : Value} {cl : List (Str × Addr)} {outer : List Env} {A₀ : Around} {base h₀ : Heap} {L : Addr} {m : Str → Option Value} {s : Shared} {Q E : Value → Shared → Prop}
    (hB : Below A₀ base outer h₀) (hF : Fr h₀ L s.heap m) (hX : (hd.heap_39 w.params).In h₀) (hN : News h₀ L s.heap news) (hT : Top p loose mean mg mb h₀) (hk : cs.kind = .function) (hd : dp + N < recursionLimit) (hu : un + 20 * N < cLine)
    (ret : R (Ret h₀ L m s Q)) :
    wpAny (model PySem.Challenge.rw_pf0227_01.row.prog w) (ktrTop dp un gd cn cs L a ccd cl outer) (call (.ref f) vs) Q E s := C p loose mean mg mb dp un gd cn cs a ccd cl outer A₀ base h₀ L m s Q E hB hF hX hN hT hk hd hu ret
/-- fills the walk's own store of the written part; says nothing -/
theorem warm : PySem.Challenge.rw_pf0227_01.Holds → PySem.Challenge.rw_pf0227_01.Holds ∨ (hd.heap_39 = hd.heap_39) := by
  k_fill
  intro h; exact .inl h
theorem ne_of_below {news : Ledger} {L d : Nat} (h : ∀ p ∈ news, p.1 < L) (hd : L ≤ d) : ∀ p ∈ news, p.1 ≠ d := fun p hp e => by
  have := h p hp
  rw [e] at this
  exact absurd this (Nat.not_lt.mpr hd)
theorem off1_ne {D : Addr} : ∀ {l : Ledger}, LCg.Off1 D l → ∀ p ∈ l, p.1 ≠ D
  | [], _ => fun _ h => nomatch h
  | _ :: _, h => fun p hp => by
    rcases List.mem_cons.mp hp with rfl | hp
    · exact h.1
    · exact off1_ne h.2 p hp
theorem menu2 {a b g : Int} (ha : 1 ≤ a ∧ a ≤ 65535) (hb : 1 ≤ b ∧ b ≤ 65535) (h0 : 0 ≤ g) (h1 : g < 2) : 1 ≤ [a, b].getD g.toNat 0 ∧ [a, b].getD g.toNat 0 ≤ 65535 := by
  rcases (show g = 0 ∨ g = 1 by omega) with rfl | rfl
  · exact ha
  · exact hb
/-- a statement's end: the rest goes on -/
def Until (P : Prop) (fl : Flow) : Prop := fl = .next ∧ P
theorem Until.mk {P : Prop} (h : P) : Until P .next := ⟨rfl, h⟩
theorem stop1 {M : Model} {A : Around} {E : Value → Shared → Prop} {s : Shared} {env : Env} {st : Stmt} {rest : List Stmt} {Q : Flow → Shared → Prop}
    (h : wpAny M A (exec st env) (fun fl s' => Until (wpAny M A (execs rest env) Q E s') fl) E s) : wpAny M A (execs (st :: rest) env) Q E s :=
  wpAny_execs_cons (wpAny_mono h (fun fl s' q => by obtain ⟨rfl, q⟩ := q; exact q) fun _ _ x => x)
theorem off1_back {D : Addr} : ∀ {l : Ledger}, (∀ p ∈ l, p.1 ≠ D) → LCg.Off1 D l
  | [], _ => trivial
  | _ :: _, h => ⟨h _ (.head _), off1_back fun p hp => h p (.tail _ hp)⟩
theorem sub_skip0 {x a : Addr × Obj} {news : Ledger} : ∀ p ∈ x :: news, p ∈ x :: a :: news := fun p hp => by
  rcases List.mem_cons.mp hp with rfl | hp
  · exact .head _
  · exact .tail _ (.tail _ hp)
theorem sub_skip {x a b : Addr × Obj} {news : Ledger} : ∀ p ∈ x :: news, p ∈ x :: a :: b :: news := fun p hp => by
  rcases List.mem_cons.mp hp with rfl | hp
  · exact .head _
  · exact .tail _ (.tail _ (.tail _ hp))
theorem sub_skip3 {x a b c : Addr × Obj} {news : Ledger} : ∀ p ∈ x :: news, p ∈ x :: a :: b :: c :: news := fun p hp => by
  rcases List.mem_cons.mp hp with rfl | hp
  · exact .head _
  · exact .tail _ (.tail _ (.tail _ (.tail _ hp)))
theorem ints_is {ys : List Value} {a b : List Int} (h : IntsAre ys a) (e : a = b) : IntsAre ys b := e ▸ h
section
variable {prog : Program} {w : World} {A : Around} {E : Value → Shared → Prop} {s : Shared} {h₀ : Heap} {L T : Addr} {news : Ledger} {vs : List Value} {ns : List Int} {n : Nat}
theorem my_lenT {Q : Value → Shared → Prop} (N : News h₀ L s.heap news) (hm : (T, tupOf vs.toArray n) ∈ news) (hi : IntsAre vs ns) (hl : ns.length ≤ 1000) (h : ∀ t tk, Q (.int ns.length t) { s with toks := tk }) :
    wpAny (model prog w) A (call (.builtin "len") [.ref T]) Q E s := by
  have e : vs.toArray.size = ns.length := by rw [List.size_toArray]; exact hi.length
  refine PyProof.Rows.len_tuple (News.isTup N hm) (by rw [e]; omega) ?_
  rw [e]
  exact h _ _
theorem my_lenL {Q : Value → Shared → Prop} (N : News h₀ L s.heap news) (hm : (T, listOf vs.toArray n) ∈ news) (hi : IntsAre vs ns) (hl : ns.length ≤ 1000) (h : ∀ t tk, Q (.int ns.length t) { s with toks := tk }) :
    wpAny (model prog w) A (call (.builtin "len") [.ref T]) Q E s := kst_len N hm hi.length (by omega) (h _ _)
theorem my_itemT {value slice : Expr} {k : Int} {u : Tok} {Q : Value → Shared → Prop} (N : News h₀ L s.heap news) (hm : (T, tupOf vs.toArray n) ∈ news) (hi : IntsAre vs ns) (hl : ns.length ≤ 1000) (h0 : 0 ≤ k) (h1 : k < ns.length) (h : ∀ t, Q (.int (ns.getD k.toNat 0) t) s)
    (hs : subscripted slice false (.ref T) (.int k u) = operate [.ref T, .int k u] (getItem (.ref T) (.int k u)) := by with_unfolding_all rfl) :
    wpAny (model prog w) A (subscriptTail value slice (.ref T) (.int k u)) Q E s := by
  obtain ⟨t, hx⟩ := hi.get k.toNat _ (ints_getD h0 h1)
  have e : vs.length = ns.length := hi.length
  refine item_tupleT (j := k.toNat) (News.isTup N hm) (by omega) (by omega) ?_ hx (h t) hs
  unfold seqIndex?
  have h1' : k < (vs.length : Int) := by rw [e]; exact h1
  have h2 : ¬ k < 0 := by omega
  simp [h2, h0, h1']
end
theorem my_shapedT (ns : List Int) : SeqAt.shaped (.tuple (ns.map PyData.int)) = true := by
  simp [SeqAt.shaped, PyData.canLay0, PyData.depth, ke_canLayAll0, ke_depthAll]
section
variable {prog : Program} {w : World} {A : Around} {E : Value → Shared → Prop} {s : Shared} {h₀ : Heap} {L a b : Addr} {m : Str → Option Value} {news : Ledger} {xs ys : List Value} {ns ms : List Int} {n1 n2 : Nat} {Q : Value → Shared → Prop}
theorem my_eqT (N : News h₀ L s.heap news) (ha : (a, tupOf xs.toArray n1) ∈ news) (hb : (b, tupOf ys.toArray n2) ∈ news) (hi : IntsAre xs ns) (hj : IntsAre ys ms) (hu : A.units + 64 < cLine) (h : Q (.bool (decide (ns = ms))) s) :
    wpAny (model prog w) A (compareOp .Eq (.ref a) (.ref b)) Q E s :=
  eq_dataH_same (reads_newDataT (News.isTup N ha) (ke_carried hi)) (reads_newDataT (News.isTup N hb) (ke_carried hj)) (my_shapedT _) (my_shapedT _) hu (by simp only [SeqAt.noMix]; exact noMix_ints _ _) (by simp only [PySem.Spec.same]; rw [ke_sameAll]; exact h)
theorem my_eqL (N : News h₀ L s.heap news) (ha : (a, listOf xs.toArray n1) ∈ news) (hb : (b, listOf ys.toArray n2) ∈ news) (hi : IntsAre xs ns) (hj : IntsAre ys ms) (hu : A.units + 64 < cLine) (h : Q (.bool (decide (ns = ms))) s) :
    wpAny (model prog w) A (compareOp .Eq (.ref a) (.ref b)) Q E s := ke_eq_ints (News.isList N ha) (News.isList N hb) hi hj hu h
theorem my_tupL (F : Fr h₀ L s.heap m) (N : News h₀ L s.heap news) (ha : (a, listOf xs.toArray n1) ∈ news) (hi : IntsAre xs ns) (hl : ns.length ≤ 1000)
    (h : ∀ D h', Fr h₀ L h' m → News h₀ L h' ((D, tupOf xs.toArray 0) :: news) → (∀ p ∈ news, p.1 ≠ D) → Q (.ref D) { s with heap := h' }) : wpAny (model prog w) A (call (.type "tuple") [.ref a]) Q E s :=
  kde_tupleOf F N (News.isList N ha) (by rw [List.size_toArray, hi.length]; omega) rfl fun D h' F' N' l => h D h' F' N' fun p hp => Nat.ne_of_lt (l p hp)
theorem my_tupT (N : News h₀ L s.heap news) (ha : (a, tupOf xs.toArray n1) ∈ news) (h : Q (.ref a) s) : wpAny (model prog w) A (call (.type "tuple") [.ref a]) Q E s :=
  call_tuple_tup (News.isTup N ha) h
end
/-- a goal that the walk leaves alone -/
def Hold (P : Prop) : Prop := P
theorem Hold.out {P : Prop} (h : Hold P) : P := h
section
set_option maxRecDepth 100000
abbrev bm44 : List Value := [.ref 31, .type "Exception", .type "BaseException", .type "object"]
abbrev o44 : Obj := excClassObj (Str.ofString "TableError") (Str.ofString "TableError") 44 43 [.ref 31] bm44 true [] [] false none none (some (.ref 35)) none (some (.str (Str.ofString "TableError") 218)) (some (.str (Str.ofString "TableError") 226)) (some (.bool true)) "Exception.__new__"
section
variable {prog : Program} {w : World} {A : Around} {E : Value → Shared → Prop} {h : Heap} {g : Array GenState} {d : Drawn} {t : Nat} {os : OsState}
theorem at44 (X : (hd.heap_39 w.params).In h) : h.get? 44 = some o44 := X 44 _ (by first | rfl | kernel_rfl)
theorem c44B : (Value.ref 44 :: bm44).contains (.type "Exception") = true := by decide
theorem c44E : (Value.ref 44 :: bm44).contains (.type "BaseException") = true := by decide
theorem c44A : (Value.ref 44 :: bm44).contains (.type "AttributeError") = false := by decide
theorem c44N : (Value.ref 44 :: bm44).contains (.type "NameError") = false := by decide
theorem c44C : (Value.ref 44 :: bm44).contains (.ref 44) = true := by decide
theorem x_check {M : Model} {rest : List Value} {Q : Unit → Shared → Prop} (hC : h.get? 44 = some o44) (hq : Q () ⟨h, g, d, t, os⟩) :
    wpAny M A (checkBuiltinCall "Exception.__new__" ⟨.ref 44 :: rest, []⟩) Q E ⟨h, g, d, t, os⟩ := by
  have F := PySem.F.excBase_Exception
  have hstar := F.noStar
  simp only [checkBuiltinCall, F.newKind, F.newSplit, F.newRow]
  repeat (first | refine wpAny_loadPart_at hC ?_ | (refine wpAny_isSubtype_exc hC ?_; rw [c44B]) | refine wpAny_staticBase_exc hC ?_ | refine wpAny_madeBy_exc hC ?_ | simp only [bne_self_eq_false, Bool.false_eq_true, if_false] | wp_step)
  exact hq
/-- the object that __new__ makes -/
abbrev excObj (T : Addr) (dd : Option Addr) : Obj := { cls := .ref 44, dict := dd, data := .fields #[.ref T, .none, .none, .none, .bool false, .none] }
abbrev pushed (h : Heap) (rest : List Value) : Heap := (h.push { cls := .type "tuple", data := .seq rest.toArray }).push (excObj h.objs.size none)
theorem x_new {R : Result → Shared → Prop} {rest : List Value} (hC : h.get? 44 = some o44) (hr : rest.length ≤ sizeLine)
    (hq : R (.ok (.ret (.ref (h.objs.size + 1)))) ⟨pushed h rest, g, d, t, os⟩) :
    codeAny (model prog w) A (.builtin "Exception.__new__" ⟨.ref 44 :: rest, []⟩) R ⟨h, g, d, t, os⟩ := by
  have F := PySem.F.excBase_Exception
  have hends := F.ends
  refine codeAny_builtinAt F.entry ?_
  unfold Builtin.«BaseException.__new__»
  refine PySem.wpAt_bind ?_
  show PySem.wpAt _ _ _ (stack >>= _) _ _ _
  refine PySem.wpAt_bind (PySem.wpAt_stack fun p below => PySem.wpAt_of_wpAny ?_)
  wp_walk
  refine PySem.wpAt_of_wpAny ?_
  rw [F.owner]
  repeat (first | with_reducible refine wpAny_madeHere_exc F.canon hC ?_ | with_reducible refine wpAny_loadPart_at hC ?_ | (with_reducible refine wpAny_isSubtype_exc hC ?_; first | rw [c44B] | rw [c44A] | rw [c44N]) | wp_step)
  show R _ _
  rw [Heap.size_push]
  exact hq
theorem init44 : findIn (hd.heap_39 w.params) (.ref 44) "__init__" = some (some (.ref 28)) := by first | rfl | kernel_rfl
theorem type28 : typeIn (hd.heap_39 w.params) (.ref 28) = some (.type "function") := by first | rfl | kernel_rfl
theorem pushed_keeps (rest : List Value) : ∀ b o, h.get? b = some o → (pushed h rest).get? b = some o := fun b o hb => Heap.get?_push_of_some _ (Heap.get?_push_of_some _ hb)
theorem x_type_call {rest : List Value} {Q : PySem.Fin → Shared → Prop} (X : (hd.heap_39 w.params).In h) (hr : rest.length ≤ sizeLine)
    (hq : wpAny (model prog w) A (call (.ref 28) (.ref (h.objs.size + 1) :: rest)) (fun r s' => r = .none ∧ Q (.done (.ret (.ref (h.objs.size + 1)))) s') E ⟨pushed h rest, g, d, t, os⟩) :
    wpAny (model prog w) A (Builtin.«type.__call__» ⟨.ref 44 :: rest, []⟩) Q E ⟨h, g, d, t, os⟩ := by
  have F := PySem.F.excBase_Exception
  have hC := at44 X
  repeat (first | with_reducible refine wpAny_loadPart_at hC ?_ | with_reducible refine wpAny_madeBy_exc hC ?_ | wp_step)
  refine codeAny_call_builtin_code (Code.quiet_builtin _ F.quiet) (x_check hC ?_)
  refine x_new hC hr ?_
  show wpAny _ _ _ _ _ _
  have X₁ := X.keeps (pushed_keeps (h := h) rest)
  have hC₁ := at44 X₁
  have hget : (pushed h rest).get? (h.objs.size + 1) = some (excObj h.objs.size none) := by heap_get
  unfold isInstance
  repeat (first | with_reducible refine wpAny_loadPart_at hget ?_ | (with_reducible refine wpAny_isSubtype_exc hC₁ ?_; rw [c44C]) | wp_step)
  show wpAny _ _ (typeLookup (.ref 44) _) _ _ _
  refine (looks_findIn X₁ init44).here ?_
  refine wpAny_holding (wpAny_bind ((bind_fn X₁ _ type28).here ?_))
  refine wpAny_bind (wpAny_mono hq (fun r s' hr => ?_) fun _ _ x => x)
  obtain ⟨rfl, hQ⟩ := hr
  wp_walk
  exact hQ
theorem x_call {rest : List Value} {Q : Value → Shared → Prop} (X : (hd.heap_39 w.params).In h) (hr : rest.length ≤ sizeLine)
    (hq : wpAny (model prog w) (A.under (.builtin "type.__call__" ⟨.ref 44 :: rest, []⟩)) (call (.ref 28) (.ref (h.objs.size + 1) :: rest)) (fun r s' => r = .none ∧ Q (.ref (h.objs.size + 1)) s') E ⟨pushed h rest, g, d, t, os⟩) :
    wpAny (model prog w) A (call (.ref 44) rest) Q E ⟨h, g, d, t, os⟩ := by
  have hC := at44 X
  have f1 := tc_lookup
  have f2 := tc_bind (.ref 44)
  have hT : (⟨h, g, d, t, os⟩ : Shared).TypeIs (.ref 44) "type" := ⟨_, hC, rfl⟩
  refine wpAny_call (codeAny_of_tree ?_)
  show wpAny _ _ (callAny (.ref 44) _) _ _ _
  repeat (any_goals (first | assumption | with_reducible refine wpAny_loadPart_at hC ?_ | wp_step))
  refine ⟨rfl, ?_⟩
  exact codeAny_call_builtin_at (Code.quiet_builtin _ (by decide +kernel)) entry_typeCall (wpAny_check_type_call_sub hC (x_type_call X hr hq))
end
end
section
open PySem.Builtin.ObjectAttr
set_option maxRecDepth 100000
section
variable {prog : Program} {w : World} {A : Around} {E : Value → Shared → Prop} {s : Shared} {h₀ : Heap} {L : Addr} {m : Str → Option Value} {news : Ledger} {e T : Addr}
theorem c44E' : bm44.contains (.type "BaseException") = true := by decide
theorem x_checkInit {M : Model} {h : Heap} {g : Array GenState} {d : Drawn} {t : Nat} {os : OsState} {oe : Obj} {rest : List Value} {Q : Unit → Shared → Prop}
    (hC : h.get? 44 = some o44) (he : h.get? e = some oe) (hcls : oe.cls = .ref 44) (hq : Q () ⟨h, g, d, t, os⟩) :
    wpAny M A (checkBuiltinCall "Exception.__init__" ⟨.ref e :: rest, []⟩) Q E ⟨h, g, d, t, os⟩ := by
  have F := PySem.F.excBase_Exception
  have hshort := F.noStar
  simp only [checkBuiltinCall, F.initKind, F.initSplit, F.initRow]
  repeat (first | (with_reducible refine wpAny_loadPart_at he ?_; rw [hcls]) | with_reducible refine wpAny_loadPart_at hC ?_ | (with_reducible refine wpAny_isSubtype_exc hC ?_; rw [c44B]) | wp_step)
  refine wpAny_onRaise ?_
  rw [show ∀ (a b : String) (n : Nat), Bind.check ⟨.positional, "*", "Exception", .self, [⟨"args", .varPos, false⟩]⟩ a b n (List.map (fun x => x.fst) ({ pos := Value.ref e :: rest } : Args).kw) = pure () from
    fun a b n => check_star_args _ _ _ _ _ _]
  exact wpAny_pure hq
theorem x_initb {rest : List Value} {Q : Value → Shared → Prop} (F : Fr h₀ L s.heap m) (X : (hd.heap_39 w.params).In h₀) (N : News h₀ L s.heap ((e, excObj T none) :: news)) (ne : ∀ p ∈ news, p.1 ≠ e) (hr : rest.length ≤ sizeLine)
    (k : ∀ T' h', Fr h₀ L h' m → News h₀ L h' ((T', tupOf rest.toArray 0) :: (e, excObj T' none) :: news) → (∀ p ∈ ((e, excObj T' none) :: news : Ledger), p.1 < T') → Q .none { s with heap := h' }) :
    wpAny (model prog w) A (call (.builtin "Exception.__init__") (.ref e :: rest)) Q E s := by
  have FB := PySem.F.excBase_Exception
  obtain ⟨hp, g, d, tk, os⟩ := s
  have he := (N _ (.head _)).1
  have F₁ := F.push (tupOf rest.toArray 0)
  have N₁ := News.push F N (tupOf rest.toArray 0)
  have l1 : ∀ p ∈ ((e, excObj T none) :: news : Ledger), p.1 < hp.objs.size := fun p hp => Heap.lt_size (N p hp).1
  obtain ⟨U1, U2⟩ := news_upd (pre := [(hp.objs.size, tupOf rest.toArray 0)]) (d := e) (o := excObj T none) (f := Obj.mapFields (·.setIfInBounds 0 (.ref hp.objs.size))) (o' := excObj hp.objs.size none) F₁ N₁
    (fun p hp => by
      rcases List.mem_cons.mp hp with rfl | hp
      · exact Nat.ne_of_gt (l1 _ (.head _))
      · exact nomatch hp) ne rfl rfl
  have fin := k _ _ U1 U2 (fun p hp => by
    rcases List.mem_cons.mp hp with rfl | hp
    · exact l1 (e, excObj T none) (.head _)
    · exact l1 _ (.tail _ hp))
  refine wpAny_call (codeAny_call_builtin FB.init.plain FB.initEntry (x_checkInit (at44 (X.keeps F.keep)) he rfl ?_))
  wp_walk
  exact fin
theorem cls44 : clsIn (hd.heap_39 w.params) 44 = some { name := Str.ofString "TableError", bases := [.ref 31], mro := .ref 44 :: bm44, ns := 43, qualname := Str.ofString "TableError" } := by first | rfl | kernel_rfl
theorem inst_exc {h : Heap} (he : h.get? e = some (excObj T none)) : InstAt h e (excObj T none) 44 none := ⟨he, rfl, rfl, trivial⟩
theorem looks44obj {M : Model} {h : Heap} (X : (hd.heap_39 w.params).In h) : Looks M h (isSubtype (.ref 44) (.type "object")) true :=
  looks_mroIn X (by unfold mroIn; rw [cls44]; rfl)
theorem refuse44 (self : Value) : refuseLoop self "__setattr__" (.ref 44 :: bm44) = pure () := by
  rw [refuseLoop_ref, refuseLoop_ref]
  kernel_rfl
theorem x_setmsg {v : Value} {Q : Unit → Shared → Prop} (F : Fr h₀ L s.heap m) (X₀ : (hd.heap_39 w.params).In h₀) (N : News h₀ L s.heap ((e, excObj T none) :: news)) (ne : ∀ p ∈ news, p.1 ≠ e)
    (k : ∀ D od h' tk', Fr h₀ L h' m → News h₀ L h' ((D, od) :: (e, excObj T (some D)) :: news) → (∀ p ∈ ((e, excObj T none) :: news : Ledger), p.1 < D) → Q () { s with heap := h', toks := tk' }) :
    wpAny (model prog w) A (setAttr (.ref e) "message" v) Q E s := by
  have X := X₀.keeps F.keep
  have l1 : ∀ p ∈ ((e, excObj T none) :: news : Ledger), p.1 < s.heap.objs.size := fun p hp => Heap.lt_size (N p hp).1
  have F₁ := F.push (dictOf [] 0)
  have N₁ := News.push F N (dictOf [] 0)
  obtain ⟨F₂, N₂⟩ := news_upd (pre := [(s.heap.objs.size, dictOf [] 0)]) (d := e) (o := excObj T none) (f := fun o => { o with dict := some s.heap.objs.size }) (o' := excObj T (some s.heap.objs.size)) F₁ N₁
    (fun p hp => by
      rcases List.mem_cons.mp hp with rfl | hp
      · exact Nat.ne_of_gt (l1 _ (.head _))
      · exact nomatch hp) ne rfl rfl
  obtain ⟨F₃, N₃⟩ := news_upd (pre := []) (d := s.heap.objs.size) (o := dictOf [] 0) (f := Obj.putName "message" (PyData.keyHash w.params "message") (.str "message" (s.toks + 1)) v)
    (o' := dictOf [⟨PyData.keyHash w.params "message", .str "message" (s.toks + 1), v⟩] 1) F₂ N₂ (fun _ hp => nomatch hp)
    (fun p hp => by
      rcases List.mem_cons.mp hp with rfl | hp
      · exact Nat.ne_of_lt (l1 (e, excObj T none) (.head _))
      · exact Nat.ne_of_lt (l1 _ (.tail _ hp))) (by rw [putName_dict]; rfl) rfl
  have fin := k _ _ _ (s.toks + 2) F₃ N₃ l1
  have D₂ := (N₂ (s.heap.objs.size, dictOf [] 0) (.head _)).1
  have D₃ := (N₃ (s.heap.objs.size, dictOf [⟨PyData.keyHash w.params "message", .str "message" (s.toks + 1), v⟩] 1) (.head _)).1
  have E₁ := (N₁ (e, excObj T none) (.tail _ (.head _))).1
  have he : s.heap.get? e = some (excObj T none) := (N _ (.head _)).1
  refine set_plain X (inst_exc he) (by first | rfl | kernel_rfl) ?_
  obtain ⟨hp, g, d, tk, os⟩ := s
  have SF := PySem.F.store_object
  have I := inst_exc he
  have ht : Looks (model prog w) hp (typeOf (.ref e)) (.ref 44) := I.type
  have sub : Looks (model prog w) hp (isInstance (.ref e) (.type "object")) true := ht.andThen (looks44obj X)
  have hm : Looks (model prog w) hp (mroOf (.ref 44)) (.ref 44 :: bm44) := (looks_clsIn X cls44).andThen .now
  have ha : Looks (model prog w) hp (typeLookup (.ref 44) "message") none := looks_findIn X (by first | rfl | kernel_rfl)
  refine codeAny_call_builtin SF.slot.plain SF.entry (@check_slot (model prog w) _ _ _ "object.__setattr__" "object" "__setattr__" (.ref e) [.str "message" tk, v] [] _ SF.kind SF.split sub (SF.args (.ref e) (.str "message" tk) v) ?_)
  rw [osa_eq, refuse_eq]
  dsimp only
  refine wpAny_bind (wpAny_bind (ht.at (wpAny_bind (hm.at ?_))))
  rw [refuse44]
  refine wpAny_pure (wpAny_bind (ht.at (wpAny_bind (ha.at (wpAny_bind (wpAny_pure ?_))))))
  show wpAny _ _ (storeInOwnDict (.ref e) (.ref 44) (.str "message" tk) "message" v false) _ _ _
  refine wpAny_bind (wpAny_pure (wpAny_bind (wpAny_bind (wpAny_loadPart he (wpAny_bind ((looks_clsIn X cls44).at ?_))))))
  refine wpAny_bind (wpAny_alloc (wpAny_bind (wpAny_update E₁ ?_)))
  refine wpAny_pure (wpAny_bind (wpAny_pure (wpAny_bind ?_)))
  unfold nsSet
  refine wpAny_bind (wpAny_bind (wpAny_askSetting (wpAny_pure (wpAny_bind (wpAny_mkText (wpAny_bind (wpAny_loadPart D₂ ?_)))))))
  refine wpAny_updatePart D₂ ?_
  refine wpAny_bind (wpAny_lookBehind D₃ (pastItsLine_dict (by rw [sizeLine_eq]; show 1 ≤ _; decide)) ?_)
  exact wpAny_pure fin
/-- what a raise of this module makes of the value -/
def RaiseX (E : Value → Shared → Prop) (v : Value) (s₁ : Shared) : Prop :=
  ∃ e T dd, v = .ref e ∧ s₁.heap.get? 44 = some o44 ∧ s₁.heap.get? e = some (excObj T dd) ∧ E (.ref e) s₁
theorem my_Raise {M : Model} {x : Expr} {env : Env} {pos : Pos} {Q : Flow → Shared → Prop} (hh : A.handled = none)
    (h : wpAny M A (eval x env) (RaiseX E) E s) : wpAny M A (exec (.Raise (some x) none pos) env) Q E s := by
  show wpAny M A (do standAt pos; raiseStmt env (some (do let v ← eval x env; standAt pos; pure v)) none) Q E s
  refine wpAny_bind (wpAny_standAt ?_)
  unfold raiseStmt
  dsimp only
  refine wpAny_bind (wpAny_bind (wpAny_mono h (fun v s₁ h₁ => wpAny_bind (wpAny_standAt (wpAny_pure ?_))) fun _ _ x => x))
  obtain ⟨e, T, dd, rfl, hC, he, hE⟩ := h₁
  obtain ⟨hp, g, d, tk, os⟩ := s₁
  repeat (first | with_reducible refine wpAny_loadPart_at he ?_ | with_reducible refine wpAny_loadPart_at hC ?_ | (with_reducible refine wpAny_isSubtype_exc hC ?_; rw [c44E]) | wp_step)
  exact wpAny_raiseNew_none hh hE
section
variable {M : Model} {A : Around} {E : Value → Shared → Prop} {s' : Shared} {base g : Heap} {outer : List Env} {L a e T : Addr} {m : Str → Option Value} {name : Str} {scope : Scope} {cd : Value} {Q : Unit → Shared → Prop} {news : Ledger} {vs : List Value} {n : Nat} {dd : Option Addr}
theorem leave_excS (K : Below A base outer g) (F : Fr g L s'.heap m) (N : News g L s'.heap ((T, tupOf vs.toArray n) :: (e, excObj T dd) :: news)) (ne : ∀ q ∈ news, q.1 ≠ e ∧ q.1 ≠ T)
    (hQ : ∀ h', RaisedS base g outer e (.ref 44) T vs news h' → RaisedK base outer e (.ref 44) T vs news h' → g.UpToSlots h' → Q () { s' with heap := h' }) (hk : scope.kind = .function := by rfl) :
    wpAny M (A.deeper (envOf name scope L a cd)) (leaving (envOf name scope L a cd) (.ref e)) Q E s' := by
  have K' := K.push (name := name) (a := a) (cd := cd) F hk
  have NT := N (T, tupOf vs.toArray n) (.head _)
  have Ne := N (e, excObj T dd) (.tail _ (.head _))
  have Nr : News g L s'.heap news := fun q hq => N q (.tail _ (.tail _ hq))
  have bT : base.get? T = none := fresh_of_stays K.stays NT.2.2
  have be : base.get? e = none := fresh_of_stays K.stays Ne.2.2
  have hin : ∀ env ∈ (envOf name scope L a cd :: outer), ∀ b, env.frame = some b → b ∈ e :: T :: (envOf name scope L a cd :: outer).filterMap (·.frame) := fun env he b hb => .tail _ (.tail _ (List.mem_filterMap.mpr ⟨env, he, hb⟩))
  have st : base.StaysIn (hideAll s'.heap (e :: T :: (envOf name scope L a cd :: outer).filterMap (·.frame))) := fun b o q => hideAll_get _ (K'.stays b o q) fun hm => by
    rcases List.mem_cons.mp hm with rfl | hm
    · rw [be] at q; cases q
    rcases List.mem_cons.mp hm with rfl | hm
    · rw [bT] at q; cases q
    rw [(K'.frames.mem hm).1] at q; cases q
  have sg : ∀ b o, g.get? b = some o → b ∉ outer.filterMap (·.frame) → (hideAll s'.heap (e :: T :: (envOf name scope L a cd :: outer).filterMap (·.frame))).get? b = some o := fun b o q nm => hideAll_get _ (F.keep b o q) fun hm => by
    rcases List.mem_cons.mp hm with rfl | hm
    · rw [Ne.2.2] at q; cases q
    rcases List.mem_cons.mp hm with rfl | hm
    · rw [NT.2.2] at q; cases q
    rcases kts_mem hm with z | z
    · rw [z, kts_self F] at q
      cases q
    · exact nm z
  have hl : ∀ q ∈ news, (hideAll s'.heap (e :: T :: (envOf name scope L a cd :: outer).filterMap (·.frame))).get? q.1 = some q.2 ∧ g.get? q.1 = none ∧ base.get? q.1 = none := fun q hq => by
    refine ⟨hideAll_get _ (Nr q hq).1 fun hm => ?_, (Nr q hq).2.2, fresh_of_stays K.stays (Nr q hq).2.2⟩
    rcases List.mem_cons.mp hm with z | hm
    · exact (ne q hq).1 z
    rcases List.mem_cons.mp hm with z | hm
    · exact (ne q hq).2 z
    obtain ⟨env, he, hf⟩ := List.mem_filterMap.mp hm
    rcases List.mem_cons.mp he with rfl | he
    · exact (Nr q hq).2.1 (Option.some.inj hf).symm
    · obtain ⟨o, ho, _⟩ := (K.frames.mem (List.mem_filterMap.mpr ⟨env, he, hf⟩)).2
      rw [(Nr q hq).2.2] at ho; cases ho
  have hfr : s'.heap.FunFrames (hideAll s'.heap (e :: T :: (envOf name scope L a cd :: outer).filterMap (·.frame))) (envOf name scope L a cd :: outer) := funFrames_hide K'.frames hin
  refine wpAny_leaving_firstW (a0 := .ref T) K'.stack hfr rfl Ne.1 (fun b o q => of_hideAll _ q) (hideAll_none _ (.head _)) rfl rfl rfl fun h' hL => ?_
  obtain ⟨k1, ⟨_, _, k2⟩, k3, k4⟩ := hL
  have R : RaisedS base g outer e (.ref 44) T vs news h' := ⟨⟨_, st, sg, hl, ⟨k1, hideAll_none _ (.head _), k2, k3⟩, hideAll_none _ (.tail _ (.head _))⟩, Heap.TupAt.of_slots ⟨_, _, NT.1, rfl, rfl⟩ k4⟩
  exact hQ h' R R.toK ((Heap.UpToSlots.of_keeps F.keep).trans k4)
end
end
end
section
open PySem.Calls PySem.Spec
set_option maxRecDepth 100000
section
variable {prog : Program} {w : World} {A₀ A : Around} {s : Shared} {base h₀ : Heap} {L : Addr} {m : Str → Option Value} {news : Ledger} {K : Frag} {p : Program} {loose : List Str} {mean : ExcName → Option Value} {mg mb : Str → Option Value}
    {R : Result → Shared → Prop} {name qual : Str} {params : Arguments} {body : List Stmt} {scope : Scope} {dV kV doc pm cdv ct oc : Value} {an od : Option Addr} {osl : Array (Option Value)} {f : Addr} {args : Args} {binds : List (Str × Value)} {env : Env}
theorem only_frame (hf : env.frame = some L) {b : Addr} (hb : b ∈ [env].filterMap (·.frame)) : b = L := by
  obtain ⟨e, he, h⟩ := List.mem_filterMap.mp hb
  rw [List.mem_singleton.mp he, hf] at h
  exact (Option.some.inj h).symm
/-- a call from the law's own frame, which may hold cells; the callee may catch -/
theorem enterS (B : Below A₀ base [] h₀) (F : Fr h₀ L s.heap m) (X₀ : K.In h₀) (N : News h₀ L s.heap news) (T : Top p loose mean mg mb h₀) (hA : A.frames = some [env]) (hf : env.frame = some L) (hke : env.scope.kind = .function)
    (ho : K.lookup f = some ⟨oc, od, .func (fnOf name qual params body scope dV kV doc pm an cdv ct), osl⟩) (hcd : codeIn K cdv qual = true) (hroom : A.depth < recursionLimit)
    (hbind : BindsTo s (fnOf name qual params body scope dV kV doc pm an cdv ct) args binds) (hloc : ∀ y ∈ binds, scope.names.lookup y.1 = some .local)
    (h : ∀ g L' h₁, Fr h₀ L g m → Fr g L' h₁ (fun y => binds.reverse.lookup y) → News g L' h₁ news → Below A base [env] g → K.In g → Top p loose mean mg mb g → KtsDicts ([env].filterMap (·.frame)) g →
      wpAny (model prog w) (A.deeper (envOf qual scope L' f cdv)) (execs body (envOf qual scope L' f cdv))
        (fun fl s' => LeaveS0 ([env].filterMap (·.frame)) h₀ L m g R (match fl with | .ret v => v | _ => .none) s')
        (fun e s' => wpAny (model prog w) (A.deeper (envOf qual scope L' f cdv)) (leaving (envOf qual scope L' f cdv) e) (fun _ s'' => R (.error e) s'') (fun e' s'' => R (.error e') s'') s')
        { s with heap := h₁, toks := s.toks + binds.length })
    (hco : scope.isCoroutine = false) (hgen : scope.isGenerator = false) (hk : scope.kind = .function)
    (hcell : ∀ x ∈ scope.names, x.2 ≠ .cell) : codeAny (model prog w) A (.call (.ref f) args) R s := by
  have X := X₀.keeps F.keep
  obtain ⟨FG, BG, st, -⟩ := groundX (R := R) B F N hA hf hke
  obtain ⟨oL, es, ep, hLg, hLd, hLr⟩ := FG.ns
  refine codeAny_call_def (fd := fnOf name qual params body scope dV kV doc pm an cdv ct) (body := body) (binds := binds) hroom (X _ _ ho) rfl (T.nolimit.keeps F.keep) (codeRec_of X hcd) rfl hbind hcell hloc (fun h₁ hns hk₁ => ?_) hco hgen hk
  refine wpAny_mono (h _ s.heap.objs.size h₁ FG ⟨hns, fun b o e => hk₁ b o (of_hideAll _ e), Nat.le_of_eq (hideAll_size _ _)⟩
    (fun p hp => ⟨hk₁ _ _ (N p hp).1, Nat.ne_of_lt (Heap.lt_size (N p hp).1), hideAll_none _ (List.mem_map_of_mem hp)⟩) BG (X₀.keeps st) (T.keeps st) (fun b hb => by
      rw [only_frame hf hb]
      exact ⟨oL, es, ep, hLg, hLd⟩)) (fun fl s' hl => ?_) fun _ _ y => y
  obtain ⟨g', L', m', news', T', F', N', k⟩ := hl
  have nL₀ : h₀.get? L = none := kts_self F
  obtain ⟨sl, hs⟩ := T'.up hLg
  refine k ⟨⟨_, es, ep, F'.keep _ _ hs, hLd, hLr⟩, fun b o e => F'.keep b o (T'.other b o (st b o e) (fun q => by
    rw [only_frame hf q, nL₀] at e
    cases e)), F.above⟩ fun p hp => ⟨(N' p hp).1, fun q => ?_, ?_⟩
  · have := (N' p hp).2.2; rw [q, hs] at this; cases this
  · cases q : h₀.get? p.1 with
    | none => rfl
    | some o =>
      obtain ⟨sl', hs'⟩ := T'.up (st _ _ q)
      have := (N' p hp).2.2
      rw [hs'] at this
      cases this
end
/-- a call of the text's own def at f from the law's own frame -/
def Calls0 (w : World) (N : Nat) (f : Addr) (vs : List Value) (news : Ledger) (R : (Value → Ledger → Prop) → Prop) : Prop :=
  ∀ (p : Program) (loose : List Str) (mean : ExcName → Option Value) (mg mb : Str → Option Value) (dp un : Nat) (gd : Option (List Code)) (cn : Str) (cs : Scope) (a : Addr) (ccd : Value) (cl : List (Str × Addr)) (A₀ : Around) (base h₀ : Heap) (L : Addr) (m : Str → Option Value) (s : Shared) (Q E : Value → Shared → Prop),
    Below A₀ base [] h₀ → Fr h₀ L s.heap m → (hd.heap_39 w.params).In h₀ → News h₀ L s.heap news → Top p loose mean mg mb h₀ → (hd.heap_39 w.params).In base → Top p loose mean mg mb base → cs.kind = .function →
    dp + N < recursionLimit → un + 20 * N < cLine → R (Ret h₀ L m s Q) →
    wpAny (model PySem.Challenge.rw_pf0227_01.row.prog w) (ktrTop dp un gd cn cs L a ccd cl []) (call (.ref f) vs) Q E s
theorem Calls0.use {w : World} {N : Nat} {f : Addr} {vs : List Value} {news : Ledger} {R : (Value → Ledger → Prop) → Prop} (C : Calls0 w N f vs news R)
    {p : Program} {loose : List Str} {mean : ExcName → Option Value} {mg mb : Str → Option Value} {dp un : Nat} {gd : Option (List Code)} {cn : Str} {cs : Scope} {a : Addr} {ccd : Value} {cl : List (Str × Addr)} {A₀ : Around} {base h₀ : Heap} {L : Addr} {m : Str → Option Value} {s : Shared} {Q E : Value → Shared → Prop}
    (hB : Below A₀ base [] h₀) (hF : Fr h₀ L s.heap m) (hX : (hd.heap_39 w.params).In h₀) (hN : News h₀ L s.heap news) (hT : Top p loose mean mg mb h₀) (hXB : (hd.heap_39 w.params).In base) (hTB : Top p loose mean mg mb base) (hk : cs.kind = .function) (hd : dp + N < recursionLimit) (hu : un + 20 * N < cLine)
    (ret : R (Ret h₀ L m s Q)) :
    wpAny (model PySem.Challenge.rw_pf0227_01.row.prog w) (ktrTop dp un gd cn cs L a ccd cl []) (call (.ref f) vs) Q E s := C p loose mean mg mb dp un gd cn cs a ccd cl A₀ base h₀ L m s Q E hB hF hX hN hT hXB hTB hk hd hu ret
/-- the made exception, as the ledger holds it -/
theorem exc_enter {w : World} {A : Around} {s : Shared} {h₀ : Heap} {L : Addr} {m : Str → Option Value} {news : Ledger} {v : Value} {Q E : Value → Shared → Prop} (F : Fr h₀ L s.heap m) (X : (hd.heap_39 w.params).In h₀) (N : News h₀ L s.heap news)
    (k : ∀ e T h', Fr h₀ L h' m → News h₀ L h' ((e, excObj T none) :: (T, tupOf [v].toArray 0) :: news) → (∀ p ∈ news, p.1 < e ∧ p.1 < T) → T < e →
      wpAny (model PySem.Challenge.rw_pf0227_01.row.prog w) (A.under (.builtin "type.__call__" ⟨[.ref 44, v], []⟩)) (call (.ref 28) [.ref e, v]) (fun r s' => r = .none ∧ Q (.ref e) s') E { s with heap := h' }) :
    wpAny (model PySem.Challenge.rw_pf0227_01.row.prog w) A (call (.ref 44) [v]) Q E s := by
  obtain ⟨hp, g, d, tk, os⟩ := s
  have F₁ := F.push (tupOf [v].toArray 0)
  have N₁ := News.push F N (tupOf [v].toArray 0)
  have F₂ := F₁.push (excObj hp.objs.size none)
  have N₂ := News.push F₁ N₁ (excObj hp.objs.size none)
  have e : (hp.push (tupOf [v].toArray 0)).objs.size = hp.objs.size + 1 := Heap.size_push ..
  rw [e] at N₂
  refine x_call (X.keeps F.keep) (by rw [sizeLine_eq]; show 1 ≤ _; decide) (k _ _ _ F₂ N₂ (fun p hp => ?_) (Nat.lt_succ_self _))
  have := Heap.lt_size (N p hp).1
  exact ⟨Nat.lt_succ_of_lt this, this⟩
theorem drop3 {h₀ h : Heap} {L : Addr} {a b c : Addr × Obj} {r : Ledger} (N : News h₀ L h (a :: b :: c :: r)) : News h₀ L h (a :: b :: r) := fun p hp => N p (by
  rcases List.mem_cons.mp hp with rfl | hp
  · exact .head _
  rcases List.mem_cons.mp hp with rfl | hp
  · exact .tail _ (.head _)
  · exact .tail _ (.tail _ (.tail _ hp)))
theorem ne_enter {news : Ledger} {e T : Addr} {o : Obj} (h : ∀ p ∈ news, p.1 < e ∧ p.1 < T) (hT : T < e) : ∀ p ∈ (T, o) :: news, p.1 ≠ e := fun p hp => by
  rcases List.mem_cons.mp hp with rfl | hp
  · exact Nat.ne_of_lt hT
  · exact Nat.ne_of_lt (h p hp).1
theorem x_setmsg2 {prog : Program} {w : World} {A : Around} {E : Value → Shared → Prop} {s : Shared} {h₀ : Heap} {L : Addr} {m : Str → Option Value} {news : Ledger} {e T T₂ : Addr} {o₂ : Obj} {v : Value} {Q : Unit → Shared → Prop} (F : Fr h₀ L s.heap m) (X₀ : (hd.heap_39 w.params).In h₀)
    (N : News h₀ L s.heap ((T₂, o₂) :: (e, excObj T none) :: news)) (lt : ∀ p ∈ ((e, excObj T none) :: news : Ledger), p.1 < T₂) (ne : ∀ p ∈ news, p.1 ≠ e)
    (k : ∀ (D : Addr) h' tk', Fr h₀ L h' m → News h₀ L h' ((T₂, o₂) :: (e, excObj T (some D)) :: news) → Q () { s with heap := h', toks := tk' }) :
    wpAny (model prog w) A (setAttr (.ref e) "message" v) Q E s :=
  x_setmsg (news := (T₂, o₂) :: news) F X₀ (fun p hp => N p (by
    rcases List.mem_cons.mp hp with rfl | hp
    · exact .tail _ (.head _)
    rcases List.mem_cons.mp hp with rfl | hp
    · exact .head _
    · exact .tail _ (.tail _ hp))) (fun p hp => by
    rcases List.mem_cons.mp hp with rfl | hp
    · exact Nat.ne_of_gt (lt _ (.head _))
    · exact ne p hp) fun D od h' tk' F' N' _ => k D h' tk' F' fun p hp => N' p (by
    rcases List.mem_cons.mp hp with rfl | hp
    · exact .tail _ (.tail _ (.head _))
    rcases List.mem_cons.mp hp with rfl | hp
    · exact .tail _ (.head _)
    · exact .tail _ (.tail _ (.tail _ hp)))
theorem raise_out {w : World} {E : Value → Shared → Prop} {s : Shared} {h₀ : Heap} {L : Addr} {m : Str → Option Value} {news : Ledger} {e T : Addr} {o : Obj} {dd : Option Addr} (F : Fr h₀ L s.heap m) (X : (hd.heap_39 w.params).In h₀)
    (N : News h₀ L s.heap ((T, o) :: (e, excObj T dd) :: news)) (h : E (.ref e) s) : RaiseX E (.ref e) s :=
  ⟨e, T, dd, rfl, at44 (X.keeps F.keep), (N _ (.tail _ (.head _))).1, h⟩
end
section
set_option maxRecDepth 100000
/-- the urn's list in the ledger -/
abbrev urnObj (x : Int) (tx : Tok) (y : Int) (ty : Tok) (n : Nat) : Obj := listOf [Value.int x tx, Value.int y ty].toArray n
theorem swap2 {h₀ h : Heap} {L : Addr} {a b : Addr × Obj} {r : Ledger} (N : News h₀ L h (a :: b :: r)) : News h₀ L h (b :: a :: r) := fun p hp => N p (by
  rcases List.mem_cons.mp hp with rfl | hp
  · exact .tail _ (.head _)
  rcases List.mem_cons.mp hp with rfl | hp
  · exact .head _
  · exact .tail _ (.tail _ hp))
theorem swap23 {h₀ h : Heap} {L : Addr} {z a b : Addr × Obj} {r : Ledger} (N : News h₀ L h (z :: a :: b :: r)) : News h₀ L h (z :: b :: a :: r) := fun p hp => N p (by
  rcases List.mem_cons.mp hp with rfl | hp
  · exact .head _
  rcases List.mem_cons.mp hp with rfl | hp
  · exact .tail _ (.tail _ (.head _))
  rcases List.mem_cons.mp hp with rfl | hp
  · exact .tail _ (.head _)
  · exact .tail _ (.tail _ (.tail _ hp)))
theorem drop2 {h₀ h : Heap} {L : Addr} {a b : Addr × Obj} {r : Ledger} (N : News h₀ L h (a :: b :: r)) : News h₀ L h (a :: r) := fun p hp => N p (by
  rcases List.mem_cons.mp hp with rfl | hp
  · exact .head _
  · exact .tail _ (.tail _ hp))
/-- what a turn's element hands back: a drawn int, the urn turned -/
def Drawn (U : Addr) (rest : Ledger) (Elt : Int → Prop) (y : Value) (news' : Ledger) : Prop :=
  ∃ (z : Int) (t : Tok) (x' : Int) (tx' : Tok) (y' : Int) (ty' : Tok) (n' : Nat), y = .int z t ∧ Elt z ∧ 0 ≤ x' ∧ news' = (U, urnObj x' tx' y' ty' n') :: rest
section
variable {prog : Program} {w : World} {A : Around} {h₀ : Heap} {L : Addr} {m : Str → Option Value} {env : Env} {elt : Expr} {x : Str} {scope : Scope} {cl : List (Str × Addr)} {s : Shared} {S : List (Addr × Obj) → Prop} {P : Nat → Value → Prop} {Fin : List Value → Ledger → Prop} {U : Addr} {rest : Ledger}
theorem my_rest {n : Nat} (Elt : Int → Prop) (hP : ∀ i v, i < n → P i v → ∃ k t, v = .int k t)
    (turn : ∀ k t I oI C oC D m₂ ys h tk x₁ tx₁ y₁ ty₁ n₁ (E' : Value → Shared → Prop), 0 ≤ x₁ → LCg.NsObj oC m₂ → m₂ x = some (.int k t) → Fr h₀ L h m → News h₀ L h ((I, oI) :: (C, oC) :: (D, LCg.lst ys) :: (U, urnObj x₁ tx₁ y₁ ty₁ n₁) :: rest) → LCg.Off3 I C D ((U, urnObj x₁ tx₁ y₁ ty₁ n₁) :: rest) → ((@Ne Nat I C) ∧ (@Ne Nat I D) ∧ (@Ne Nat C D)) →
      wpAny (model prog w) A (eval elt (compEnvC scope cl C env)) (LCg.CompEnd h₀ L m { s with heap := h, toks := tk } I oI C oC D (LCg.lst ys) S (Drawn U rest Elt)) E' { s with heap := h, toks := tk })
    (fin : ∀ ys zs x₁ tx₁ y₁ ty₁ n₁, IntsAre ys zs → zs.length = n → (∀ z ∈ zs, Elt z) → 0 ≤ x₁ → Fin ys ((U, urnObj x₁ tx₁ y₁ ty₁ n₁) :: rest)) :
    ∀ x₀ tx₀ y₀ ty₀ n₀, 0 ≤ x₀ → LCg.CompRest prog w A h₀ L m env elt x scope cl s S P Fin n 0 [] ((U, urnObj x₀ tx₀ y₀ ty₀ n₀) :: rest) := by
  have key : ∀ (j i : Nat) (ys : List Value) (zs : List Int) x₁ tx₁ y₁ ty₁ n₁, i + j = n → IntsAre ys zs → zs.length = i → (∀ z ∈ zs, Elt z) → 0 ≤ x₁ → LCg.CompRest prog w A h₀ L m env elt x scope cl s S P Fin j i ys ((U, urnObj x₁ tx₁ y₁ ty₁ n₁) :: rest) := by
    intro j
    induction j with
    | zero =>
      intro i ys zs x₁ tx₁ y₁ ty₁ n₁ hi hy hl he hx
      exact LCg.CompRest.zero (fin ys zs _ _ _ _ _ hy (by omega) he hx)
    | succ j ih =>
      intro i ys zs x₁ tx₁ y₁ ty₁ n₁ hi hy hl he hx₁
      refine LCg.CompRest.succ ?_
      intro v I oI C oC D m₂ h tk E' hv hC hx F N off ne
      obtain ⟨k, t, hv'⟩ := hP i v (by omega) hv
      rw [hv'] at hx
      refine wpAny_mono (turn k t I oI C oC D m₂ ys h tk x₁ tx₁ y₁ ty₁ n₁ E' hx₁ hC hx F N off ne) (fun y s₂ hq => ?_) fun _ _ e => e
      obtain ⟨h', tk', nw, e, F', N', off', hS, z, t', x', tx', y', ty', n', hy', hz, hx', hn⟩ := hq
      subst hn hy'
      refine ⟨h', tk', _, e, F', N', off', hS, ?_⟩
      refine ih (i + 1) _ (zs ++ [z]) _ _ _ _ _ (by omega) (IntsAre.append hy (.cons z t' .nil)) (by rw [List.length_append, List.length_singleton, hl]) (fun q hq => ?_) hx'
      rcases List.mem_append.mp hq with hq | hq
      · exact he q hq
      · rw [List.mem_singleton.mp hq]; exact hz
  exact fun x₀ tx₀ y₀ ty₀ n₀ hx => key n 0 [] [] x₀ tx₀ y₀ ty₀ n₀ (by omega) .nil rfl (fun _ h => nomatch h) hx
end
end
section
open PySem.Spec PySem.Calls
set_option maxRecDepth 100000
section
variable {h₀ h h' : Heap} {L : Addr} {m : Str → Option Value} {news : Ledger} {wr : List Addr}
theorem fr_wr (F : Fr h₀ L h m) (hk : ∀ b o, b ∉ wr → h.get? b = some o → h'.get? b = some o) (hL : L ∉ wr) (hw : ∀ b ∈ wr, h₀.get? b = none) : Fr h₀ L h' m :=
  ⟨F.ns.at' fun o e => hk L o hL e, fun b o e => hk b o (fun hm => by rw [hw b hm] at e; cases e) (F.keep b o e), F.above⟩
theorem news_wr (N : News h₀ L h news) (hk : ∀ b o, b ∉ wr → h.get? b = some o → h'.get? b = some o) (off : ∀ p ∈ news, p.1 ∉ wr) : News h₀ L h' news :=
  fun p hp => ⟨hk _ _ (off p hp) (N p hp).1, (N p hp).2⟩
end
section
variable {prog : Program} {w : World} {A : Around} {E : Value → Shared → Prop} {s : Shared} {h₀ : Heap} {L : Addr} {m : Str → Option Value} {env : Env}
def EltEnd (h₀ : Heap) (L : Addr) (m : Str → Option Value) (nw : Ledger) (v : Int) (u : Shared) (y : Value) (u' : Shared) : Prop :=
  ∃ h' t tk, y = .int v t ∧ u' = { u with heap := h', toks := tk } ∧ Fr h₀ L h' m ∧ News h₀ L h' nw
/-- what an element of the block is asked: an int; the ledger stands -/
def EltOf (prog : Program) (w : World) (A : Around) (h₀ : Heap) (L : Addr) (m : Str → Option Value) (env : Env) (elt : Expr) (x x₂ : Str) (scope : Scope) (cl : List (Str × Addr)) (g : Int × Int → Int) : Prop :=
  ∀ (p : Int × Int) (t₁ t₂ : Tok) (C : Addr) (oC : Obj) (m₂ : Str → Option Value) (u : Shared) (nw : Ledger) (E' : Value → Shared → Prop), Fr h₀ L u.heap m → News h₀ L u.heap ((C, oC) :: nw) → LCg.NsObj oC m₂ → m₂ x = some (.int p.1 t₁) → m₂ x₂ = some (.int p.2 t₂) →
    wpAny (model prog w) A (eval elt (compEnvC scope cl C env)) (EltEnd h₀ L m ((C, oC) :: nw) (g p) u) E' u
def ledOf (h : Heap) (l : List Addr) : Ledger := l.filterMap fun b => (h.get? b).map fun o => (b, o)
theorem ledOf_news {h : Heap} {l : List Addr} (hw : ∀ b ∈ l, h₀.get? b = none ∧ b ≠ L) : News h₀ L h (ledOf h l) := fun p hp => by
  obtain ⟨b, hb, e⟩ := List.mem_filterMap.mp hp
  obtain ⟨o, ho, rfl⟩ := Option.map_eq_some_iff.mp e
  exact ⟨ho, (hw b hb).2, (hw b hb).1⟩
theorem ledOf_mem {h : Heap} {l : List Addr} {b : Addr} {o : Obj} (hb : b ∈ l) (ho : h.get? b = some o) : (b, o) ∈ ledOf h l := List.mem_filterMap.mpr ⟨b, hb, by rw [ho]; rfl⟩
theorem zip_block {elt iter : Expr} {x x₂ : Str} {px px₂ tp : Pos} {kt : Nat} {scope : Scope} {cl : List (Str × Addr)} {pos : Pos} {s₂ : Shared} {z : Addr} {fp wr : List Addr} {n : Nat} {Pt : Nat → Array Value → Prop} {St : Nat → Heap → Prop} {Mid : Nat → Addr → Heap → Prop} {news : Ledger}
    {ps : List (Int × Int)} {g : Int × Int → Int} {RR : Value → Addr → Result → Shared → Prop}
    (W : WalksT prog w A z fp wr n Pt St Mid) (hn : ps.length = n) (hsz : n ≤ sizeLine) (hP : ∀ i vals, i < n → Pt i vals → ∃ p t₁ t₂, ps[i]? = some p ∧ vals = #[.int p.1 t₁, .int p.2 t₂])
    (hcell : ∀ y ∈ scope.names, y.2 ≠ .cell) (hkind : scope.kind = .function) (hx : scope.names.lookup x = some .local) (hx₂ : scope.names.lookup x₂ = some .local) (hxx : x ≠ x₂) (hh : A.handled = none) (hst : St 0 s₂.heap) (hfp : ∀ b ∈ fp, b < s₂.heap.objs.size)
    (hf₀ : ∀ b ∈ fp, h₀.get? b = none ∧ b ≠ L) (hwN : ∀ p ∈ news, p.1 ∉ wr) (F : Fr h₀ L s₂.heap m) (N : News h₀ L s₂.heap news)
    (turn : EltOf prog w A h₀ L m env elt x x₂ scope cl g)
    (hRR : ∀ D C h tk m' ys, Fr h₀ L h m → News h₀ L h ((D, LCg.lst ys) :: news) → (∀ p ∈ news, p.1 < D) → h.Ns C m' → h₀.get? C = none → C ≠ L → C ≠ D → (∀ p ∈ news, p.1 ≠ C) → IntsAre ys (ps.map g) → RR (.ref D) C (.ok .next) { s₂ with heap := h, toks := tk }) :
    wpAny (model prog w) A (newList []) (fun acc s₃ => wpAny (model prog w) A (newFunctionEnv scope env.globals cl [] env.qual none .none (some env)) (fun cenv s₄ =>
      codeAny (model prog w) A (.compStart (.ListComp elt [⟨.Tuple [.Name x px, .Name x₂ px₂] kt tp, iter, [], 0⟩] scope pos) 0 (.ref z) acc { cenv with scope := relabel scope env }) (RR acc cenv.locals) s₄) E s₃) E s₂ := by
  refine wpAny_newObj_type (wpAny_newFunctionEnv hcell (by intro y hy; simp at hy) (fun h₁ hns₁ hsb₁ => ?_) hkind)
  dsimp only at hns₁ hsb₁ ⊢
  generalize hH2 : s₂.heap.push { cls := .type "list", dict := none, data := .seq ([] : List Value).toArray } = H2 at hns₁ hsb₁ ⊢
  have hC : H2.objs.size = s₂.heap.objs.size + 1 := by rw [← hH2, Heap.size_push]
  have hDC : s₂.heap.objs.size ≠ H2.objs.size := by rw [hC]; exact Nat.ne_of_lt (Nat.lt_succ_self _)
  have below : ∀ b, b < s₂.heap.objs.size → b ≠ H2.objs.size ∧ b ≠ s₂.heap.objs.size := fun b hb => ⟨by rw [hC]; exact Nat.ne_of_lt (Nat.lt_succ_of_lt hb), Nat.ne_of_lt hb⟩
  have hw₀ : ∀ b ∈ wr, h₀.get? b = none := fun b hb => (hf₀ b (W.sub b hb)).1
  have hwL : L ∉ wr := fun hb => (hf₀ L (W.sub L hb)).2 rfl
  have hwlt : ∀ b ∈ wr, b < s₂.heap.objs.size := fun b hb => hfp b (W.sub b hb)
  have hDw : s₂.heap.objs.size ∉ wr := fun hm => Nat.lt_irrefl _ (hwlt _ hm)
  have hCw : H2.objs.size ∉ wr := fun hm => (below _ (hwlt _ hm)).1 rfl
  have hDf : s₂.heap.objs.size ∉ fp := fun hm => Nat.lt_irrefl _ (hfp _ hm)
  have hCf : H2.objs.size ∉ fp := fun hm => (below _ (hfp _ hm)).1 rfl
  have old : ∀ b o, s₂.heap.get? b = some o → h₁.get? b = some o := fun b o e => hsb₁.extBut b o (below b (Heap.lt_size e)).1 (Heap.get?_push_of_some _ (hH2 ▸ Heap.get?_push_of_some _ e))
  have hacc : h₁.get? s₂.heap.objs.size = some (LCg.lst []) := hsb₁.extBut _ _ hDC (Heap.get?_push_of_some _ (hH2 ▸ Heap.get?_push_size _ rfl))
  have hst₁ : St 0 h₁ := W.frame _ _ _ hst fun b _ o e => old b o e
  have fresh₀ : ∀ a, s₂.heap.objs.size ≤ a → h₀.get? a = none := fun a ha => by
    cases e : h₀.get? a with
    | none => rfl
    | some o' => exact absurd (Heap.lt_size (F.keep a o' e)) (Nat.not_lt.mpr ha)
  have hD₀ : h₀.get? s₂.heap.objs.size = none := fresh₀ _ (Nat.le_refl _)
  have hC₀ : h₀.get? H2.objs.size = none := fresh₀ _ (by rw [hC]; exact Nat.le_succ _)
  have hLlt : L < s₂.heap.objs.size := F.ns.lt
  have hDL : s₂.heap.objs.size ≠ L := Ne.symm (below L hLlt).2
  have hCL : H2.objs.size ≠ L := Ne.symm (below L hLlt).1
  have hNlt : ∀ p ∈ news, p.1 < s₂.heap.objs.size := fun p hp => Heap.lt_size (N p hp).1
  have loop : ∀ s₃ : Shared, s₃ = { s₂ with heap := h₁, toks := s₂.toks + ([] : List (Str × Value)).length } →
      codeAny (model prog w) A (.compLoop (.ListComp elt [⟨.Tuple [.Name x px, .Name x₂ px₂] kt tp, iter, [], 0⟩] scope pos) 0 (.ref z) (.ref s₂.heap.objs.size) (compEnvC scope cl H2.objs.size env))
        (RR (.ref s₂.heap.objs.size) H2.objs.size) s₃ := by
    rintro s₃ rfl
    refine LCp.codeAny_compLoop_pair
      (fun k s' => ∃ h' tk i ys m', s' = { s₂ with heap := h', toks := tk } ∧ i ≤ n ∧ k = n + 1 - i ∧ IntsAre ys ((ps.take i).map g) ∧ St i h' ∧ Fr h₀ L h' m ∧ h'.Ns H2.objs.size m' ∧ News h₀ L h' ((s₂.heap.objs.size, LCg.lst ys) :: news)) ?_ (n + 1)
      ⟨h₁, _, 0, [], _, rfl, Nat.zero_le _, rfl, by rw [List.take_zero]; exact .nil, hst₁, F.keeps old, hns₁, fun p hp => ?_⟩
    · rintro k s' ⟨h', tk, i, ys, m', rfl, hi, rfl, hy, hst', F', hn', N'⟩
      have hoffN : ∀ p ∈ ((s₂.heap.objs.size, LCg.lst ys) :: news : Ledger), p.1 ∉ wr := fun p hp => by
        rcases List.mem_cons.mp hp with rfl | hp
        · exact hDw
        · exact hwN p hp
      by_cases hlt : i < n
      · refine W.item i _ _ _ hlt hst' fun T vals h₂ tk₂ hPv hTge hT hmid hk₂ => ?_
        obtain ⟨p, t₁, t₂, hp, rfl⟩ := hP i vals hlt hPv
        refine W.go _ _ _ i T _ _ _ hmid fun h₃ hst₃ hk₃ => ?_
        have F₂ := fr_wr F' hk₂ hwL hw₀
        have F₃ := fr_wr F₂ hk₃ hwL hw₀
        have N₃ := news_wr (news_wr N' hk₂ hoffN) hk₃ hoffN
        have C₂ : h₃.Ns H2.objs.size m' := (hn'.at' fun o e => hk₂ _ o hCw e).at' fun o e => hk₃ _ o hCw e
        have hT₃ : IsTup h₃ T #[.int p.1 t₁, .int p.2 t₂] := by
          obtain ⟨o, ho, r⟩ := hT
          exact ⟨o, hk₃ _ _ (W.apart i T h₂ hmid) ho, r⟩
        refine assign_Tuple_tuple hh hT₃ rfl rfl fun h₅ he => ?_
        have he' : ∀ b o, h₃.get? b = some o → h₅.get? b = some o := fun b o e => he b o (Nat.ne_of_lt (Heap.lt_size e)) e
        refine assignInOrder_cons (wpAny_assign_Name (wpAny_storeName_local (lookup_relabel_local hx) (C₂.at' fun o e => he' _ o e) (fun h₆ hn₆ hs₆ => ?_) (by simp [compEnvC, relabel, hkind])))
        refine assignInOrder_cons (wpAny_assign_Name (wpAny_storeName_local (lookup_relabel_local hx₂) hn₆ (fun h₇ hn₇ hs₇ => ?_) (by simp [compEnvC, relabel, hkind])))
        refine assignInOrder_nil ?_
        have old7 : ∀ b o, b ≠ H2.objs.size → h₃.get? b = some o → h₇.get? b = some o := fun b o hb e => hs₇.extBut b o hb (hs₆.extBut b o hb (he' b o e))
        have F₇ : Fr h₀ L h₇ m := ((F₃.keeps he').change hs₆ hCL hC₀).change hs₇ hCL hC₀
        have st₇ : St (i + 1) h₇ := W.frame _ _ _ hst₃ fun b hb o e => old7 b o (fun q => hCf (by rw [← q]; exact hb)) e
        have N₇ : News h₀ L h₇ ((s₂.heap.objs.size, LCg.lst ys) :: news) := fun p hp => by
          refine ⟨old7 _ _ ?_ (N₃ p hp).1, (N₃ p hp).2⟩
          rcases List.mem_cons.mp hp with rfl | hp
          · exact hDC
          · exact (below _ (hNlt p hp)).1
        obtain ⟨oC, heC, hoC⟩ := LCg.ns_obj hn₇
        have NA : News h₀ L h₇ ((H2.objs.size, oC) :: (ledOf h₇ fp ++ ((s₂.heap.objs.size, LCg.lst ys) :: news))) := fun q hq => by
          rcases List.mem_cons.mp hq with rfl | hq
          · exact ⟨heC, hCL, hC₀⟩
          · exact (News.append (ledOf_news hf₀) N₇) q hq
        refine wpAny_mono (turn p t₁ t₂ H2.objs.size oC _ _ _ _ F₇ NA hoC (by simp [hxx]) (by simp)) (fun y s₄ h₄ => ?_) fun _ _ e => e
        obtain ⟨h₉, t, tk₄, rfl, rfl, F₉, NB⟩ := h₄
        have st₉ : St (i + 1) h₉ := W.frame _ _ _ st₇ fun b hb o e => (NB _ (.tail _ (List.mem_append_left _ (ledOf_mem hb e)))).1
        have N₉ : News h₀ L h₉ ((s₂.heap.objs.size, LCg.lst ys) :: news) := fun q hq => NB q (.tail _ (List.mem_append_right _ hq))
        have ns₉ : h₉.Ns H2.objs.size _ := hoC.ns (NB _ (.head _)).1
        have zD := (N₉ (s₂.heap.objs.size, LCg.lst ys) (.head _)).1
        have hyl : ys.length = i := by
          have := hy.length
          rw [List.length_map, List.length_take] at this
          omega
        refine append_at (hsz := by show ys.toArray.size ≤ sizeLine; rw [List.size_toArray, hyl]; exact Nat.le_trans hi hsz) zD fun h₈ hs₈ hD₈ => ?_
        refine ⟨n + 1 - (i + 1), by omega, h₈, tk₄, i + 1, ys ++ [.int (g p) t], _, rfl, hlt, rfl, ?_, W.frame _ _ _ st₉ fun b hb o e => hs₈.extBut b o (fun q => hDf (by rw [← q]; exact hb)) e, F₉.change hs₈ hDL hD₀,
          ns₉.sameBut hs₈ (Ne.symm hDC), fun q hq => ?_⟩
        · rw [List.take_add_one, hp]
          simpa using IntsAre.append hy (.cons (g p) t .nil)
        · rcases List.mem_cons.mp hq with rfl | hq
          · exact ⟨hD₈.trans (congrArg some (LCg.lst_snoc ys _)), hDL, hD₀⟩
          · exact ⟨hs₈.extBut _ _ (below _ (hNlt q hq)).2 (N₉ q (.tail _ hq)).1, (N₉ q (.tail _ hq)).2⟩
      · obtain rfl : i = n := Nat.le_antisymm hi (Nat.not_lt.mp hlt)
        refine W.done _ _ _ hst' fun h₂ tk₂ hk₂ => ?_
        have e : ps.take i = ps := List.take_of_length_le (Nat.le_of_eq hn)
        rw [e] at hy
        exact hRR _ _ h₂ tk₂ _ ys (fr_wr F' hk₂ hwL hw₀) (news_wr N' hk₂ hoffN) hNlt (hn'.at' fun o e => hk₂ _ o hCw e) hC₀ hCL (Ne.symm hDC) (fun p hp => (below _ (hNlt p hp)).1) hy
    · rcases List.mem_cons.mp hp with rfl | hp
      · exact ⟨hacc, hDL, hD₀⟩
      · exact ⟨old _ _ (N p hp).1, (N p hp).2⟩
  exact codeAny_compStart_list (loop _ rfl) (W.self 0 _ _ _ hst₁ (loop _ rfl))
/-- what zip hands back for two lists of the ledger -/
def ZipOf (h₀ : Heap) (L : Addr) (m : Str → Option Value) (l1 l2 : Addr) (xs ys : Array Value) (news : Ledger) (s₀ : Shared) (xv : Value) (s₁ : Shared) : Prop :=
  ∃ h tk z TI TO i1 i2, s₁ = { s₀ with heap := h, toks := tk } ∧ xv = .ref z ∧ ZipApart z TI TO i1 i2 l1 l2 ∧
    (IsZip h z TI TO .none ∧ IsPair h TI (.ref i1) (.ref i2) ∧ (∃ a b, IsPair h TO a b) ∧ h.IsListIter i1 l1 0 ∧ h.IsListIter i2 l2 0 ∧ h.IsList l1 xs ∧ h.IsList l2 ys) ∧
    Fr h₀ L h m ∧ News h₀ L h news ∧ (∀ b ∈ [z, TI, TO, i1, i2, l1, l2], h₀.get? b = none ∧ b ≠ L) ∧ ∀ p ∈ news, p.1 ∉ [z, TO, i1, i2]
theorem zip_of {l1 l2 : Addr} {xs ys : List Value} {n1 n2 : Nat} {news : Ledger} {s₀ : Shared} {h : Heap} {tk : Nat} (F : Fr h₀ L h m) (N : News h₀ L h news) (hm1 : (l1, listOf xs.toArray n1) ∈ news) (hm2 : (l2, listOf ys.toArray n2) ∈ news) :
    wpAny (model prog w) A (call (.type "zip") [.ref l1, .ref l2]) (ZipOf h₀ L m l1 l2 xs.toArray ys.toArray news s₀) E { s₀ with heap := h, toks := tk } := by
  have hl1 := News.isList N hm1
  have hl2 := News.isList N hm2
  have a1 : l1 < h.objs.size := Heap.lt_size (N _ hm1).1
  have a2 : l2 < h.objs.size := Heap.lt_size (N _ hm2).1
  have hLlt : L < h.objs.size := F.ns.lt
  refine call_zip_2 (s := { s₀ with heap := h, toks := tk }) hl1 hl2 fun h' hz hTI hTO hi1 hi2 _ hk => ?_
  have fresh₀ : ∀ a, h.objs.size ≤ a → h₀.get? a = none ∧ a ≠ L := fun a ha => by
    refine ⟨?_, fun e => ?_⟩
    · cases e : h₀.get? a with
      | none => rfl
      | some o' => exact absurd (Heap.lt_size (F.keep a o' e)) (Nat.not_lt.mpr ha)
    · rw [e] at ha
      exact absurd hLlt (Nat.not_lt.mpr ha)
  refine ⟨h', tk, _, _, _, _, _, rfl, rfl, zipApart_new a1 a2, ⟨hz, hTI, ⟨_, _, hTO⟩, hi1, hi2, Heap.IsList.at hl1 (fun o e => hk _ o e), Heap.IsList.at hl2 (fun o e => hk _ o e)⟩, F.keeps hk, N.grown hk, ?_, ?_⟩
  · intro b hb
    simp only [List.mem_cons, List.not_mem_nil, or_false] at hb
    rcases hb with rfl | rfl | rfl | rfl | rfl | rfl | rfl
    · exact fresh₀ _ (Nat.le_add_right _ 4)
    · exact fresh₀ _ (Nat.le_add_right _ 2)
    · exact fresh₀ _ (Nat.le_add_right _ 3)
    · exact fresh₀ _ (Nat.le_refl _)
    · exact fresh₀ _ (Nat.le_add_right _ 1)
    · exact ⟨(N _ hm1).2.2, (N _ hm1).2.1⟩
    · exact ⟨(N _ hm2).2.2, (N _ hm2).2.1⟩
  · intro p hp hb
    have hlt : p.1 < h.objs.size := Heap.lt_size (N p hp).1
    simp only [List.mem_cons, List.not_mem_nil, or_false] at hb
    rcases hb with e | e | e | e
    · exact absurd hlt (by rw [e]; exact Nat.not_lt.mpr (Nat.le_add_right _ 4))
    · exact absurd hlt (by rw [e]; exact Nat.not_lt.mpr (Nat.le_add_right _ 3))
    · exact absurd hlt (by rw [e]; exact Nat.lt_irrefl _)
    · exact absurd hlt (by rw [e]; exact Nat.not_lt.mpr (Nat.le_add_right _ 1))
theorem zip_comp {elt iter : Expr} {x x₂ : Str} {px px₂ tp : Pos} {kt : Nat} {scope : Scope} {cl : List (Str × Addr)} {pos : Pos} {Q : Value → Shared → Prop} {l1 l2 : Addr} {xs ys : List Value} {as bs : List Int} {news : Ledger} {n1 n2 : Nat} {g : Int × Int → Int} (_F : Fr h₀ L s.heap m) (_N : News h₀ L s.heap news) (_hm1 : (l1, listOf xs.toArray n1) ∈ news) (_hm2 : (l2, listOf ys.toArray n2) ∈ news) (hh : A.handled = none)
    (hclos : closureFor scope env = pure cl) (hcell : ∀ y ∈ scope.names, y.2 ≠ .cell) (hkind : scope.kind = .function)
    (hnames : ∀ y ∈ scope.names, y.2 = .local → scope.names.lookup y.1 = some .local) (hx : scope.names.lookup x = some .local) (hx₂ : scope.names.lookup x₂ = some .local) (hxx : x ≠ x₂)
    (hs : ∀ x, foldedSetIterable iter env x = pure x)
    (h : wpAny (model prog w) A (eval iter env) (ZipOf h₀ L m l1 l2 xs.toArray ys.toArray news s) E s) (hi : IntsAre xs as) (hj : IntsAre ys bs) (hl : as.length ≤ 1000) (turn : EltOf prog w A h₀ L m env elt x x₂ scope cl g)
    (k : ∀ D h' tk zs, Fr h₀ L h' m → News h₀ L h' ((D, LCg.lst zs) :: news) → (∀ p ∈ news, p.1 < D) → IntsAre zs ((as.zip bs).map g) → Q (.ref D) { s with heap := h', toks := tk }) :
    wpAny (model prog w) A (eval (.ListComp elt [⟨.Tuple [.Name x px, .Name x₂ px₂] kt tp, iter, [], 0⟩] scope pos) env) Q E s := by
  rw [eval_ListComp]
  refine wpAny_comprehension_free (use := none) rfl hs hclos hkind hnames (wpAny_mono h (fun xv s₁ h₁ => ?_) fun _ _ e => e)
  obtain ⟨hp, tk, z, TI, TO, i1, i2, rfl, rfl, D, hst, F, N, hf₀, hwN⟩ := h₁
  have hz := hst.1
  refine wpAny_pyIter_zip hz ?_
  have hn : (as.zip bs).length = min xs.toArray.size ys.toArray.size := by rw [List.length_zip, List.size_toArray, List.size_toArray, hi.length, hj.length]
  have lt : ∀ {c o}, hp.get? c = some o → c < hp.objs.size := fun e => Heap.lt_size e
  refine zip_block (ps := as.zip bs) (WalksT.zip2 hh z TI TO i1 i2 l1 l2 D xs.toArray ys.toArray) hn (by rw [← hn, sizeLine_eq, List.length_zip]; omega) ?_ hcell hkind hx hx₂ hxx hh hst ?_ hf₀ hwN F N turn ?_
  · rintro i vals hlt ⟨v₁, v₂, h1, h2, rfl⟩
    obtain ⟨a, t₁, rfl, ha⟩ := IntsAre.at hi i v₁ (by simpa using h1)
    obtain ⟨b, t₂, rfl, hb⟩ := IntsAre.at hj i v₂ (by simpa using h2)
    exact ⟨(a, b), t₁, t₂, by simp [List.getElem?_zip_eq_some, ha, hb], rfl⟩
  · obtain ⟨hz, hTI, ⟨a, b, hTO⟩, ⟨o1, h1, _⟩, ⟨o2, h2, _⟩, ⟨o3, h3, _⟩, ⟨o4, h4, _⟩⟩ := hst
    intro b hb
    simp only [List.mem_cons, List.not_mem_nil, or_false] at hb
    rcases hb with rfl | rfl | rfl | rfl | rfl | rfl | rfl
    · exact lt hz
    · exact lt hTI
    · exact lt hTO
    · exact lt h1
    · exact lt h2
    · exact lt h3
    · exact lt h4
  · intro D' C h' tk' m' zs F' N' hlt hn' hC₀ hCL hCD offC hzs
    refine ⟨m', hn', fun h'' hs'' => k D' h'' tk' zs (F'.change hs'' hCL hC₀) (fun p hp => ?_) hlt hzs⟩
    refine ⟨hs''.extBut _ _ ?_ (N' p hp).1, (N' p hp).2⟩
    rcases List.mem_cons.mp hp with rfl | hp
    · exact Ne.symm hCD
    · exact offC p hp
end
end
local macro_rules | `(tactic| k_mem) => `(tactic| assumption)
local macro_rules | `(tactic| k_all) => `(tactic| first | assumption | (refine ne_of_below (by assumption) ?ela; (case ela => omega)))
local macro_rules | `(tactic| walk_at "call builtin:len") => `(tactic| (k_here; (with_reducible show wpAny _ _ (call (Value.builtin "len") [Value.ref _]) _ _ _); k_dflt (first | (refine' my_lenT ?k1 ?k2 ?k3 ?k4 ?_; (case k1 => k_asm); (case k2 => k_mem); (case k3 => first | assumption | l_ints); (case k4 => omega); k_whole) | (refine' my_lenL ?k1 ?k2 ?k3 ?k4 ?_; (case k1 => k_asm); (case k2 => k_mem); (case k3 => first | assumption | l_ints); (case k4 => omega); k_whole)); intro t' tk'))
local macro_rules | `(tactic| walk_at "subscriptTail") => `(tactic| (k_here; (with_reducible show wpAny _ _ (subscriptTail _ _ (Value.ref _) (Value.int _ _)) _ _ _); k_dflt (refine' my_itemT ?k1 ?k2 ?k3 ?k4 ?k5 ?k6 ?_ ?k7; (case k1 => k_asm); (case k2 => k_mem); (case k3 => first | assumption | l_ints); (case k4 => omega); (case k5 => omega); (case k6 => omega); (case k7 => with_unfolding_all rfl); k_whole); intro t'))
local macro_rules | `(tactic| walk_at "compareOp Eq ref ref") => `(tactic| (k_here; (with_reducible show wpAny _ _ (compareOp CmpOp.Eq (Value.ref _) (Value.ref _)) _ _ _); k_dflt (first
  | (refine' my_eqT ?k1 ?k2 ?k3 ?k4 ?k5 ?k6 ?_; (case k1 => k_asm); (case k2 => k_mem); (case k3 => k_mem); (case k4 => first | assumption | l_ints); (case k5 => first | assumption | l_ints); (case k6 => first | units_room | ktr_units); k_whole)
  | (refine' my_eqL ?k1 ?k2 ?k3 ?k4 ?k5 ?k6 ?_; (case k1 => k_asm); (case k2 => k_mem); (case k3 => k_mem); (case k4 => first | assumption | l_ints); (case k5 => first | assumption | l_ints); (case k6 => first | units_room | ktr_units); k_whole))))
local macro_rules | `(tactic| walk_at "call type:tuple") => `(tactic| (k_here; (with_reducible show wpAny _ _ (call (Value.type _) [Value.ref _]) _ _ _); k_dflt (first
  | (refine' my_tupL ?k1 ?k2 ?k3 ?k4 ?k5 ?_; (case k1 => k_asm); (case k2 => k_asm); (case k3 => k_mem); (case k4 => first | assumption | l_ints); (case k5 => omega); k_whole; intro D' h' F' N' hD'; (try k_sweep))
  | (refine' my_tupT ?k1 ?k2 ?_; (case k1 => k_asm); (case k2 => k_mem); k_whole))))
local macro_rules | `(tactic| walk_at "call ref") => `(tactic| (k_here; k_dflt (refine wpAny_call ?_; first
  | (refine' code_def ?k1 ?k2 ?k3 ?k4 ?k5 ?kA ?kF ?kK ?k6 ?k7 ?k8 ?k9 ?kB ?_ ?c2 ?c3 ?c4 ?c5; (case kA => exact rfl); (case kF => exact rfl); (case kK => first | exact rfl | assumption); (case k1 => k_asm); (case k2 => k_asm); (case k3 => k_asm); (case k4 => k_asm); (case k5 => k_asm); (case k6 => k_is); (case k7 => k_is); (case k8 => ktr_room); (case k9 => exact BindsTo.of_eq rfl); (case c5 => decide); (case kB => exact locs rfl); (case c2 => exact rfl); (case c3 => exact rfl); (case c4 => exact rfl); k_whole; intro g' L' h' FG' F' N' B' X' T'; (try dsimp only); (try k_lift B'); (try k_fold))
  | (refine' code_defC ?k1 ?k2 ?k3 ?k4 ?k5 ?kA ?kF ?kK ?k6 ?k7 ?k8 ?k9 ?kB ?kD ?_ ?c2 ?c3 ?c4; (case kA => exact rfl); (case kF => exact rfl); (case kK => first | exact rfl | assumption); (case k1 => k_asm); (case k2 => k_asm); (case k3 => k_asm); (case k4 => k_asm); (case k5 => k_asm); (case k6 => k_is); (case k7 => k_is); (case k8 => ktr_room); (case k9 => exact BindsTo.of_eq rfl); (case kB => exact rfl); (case kD => decide +kernel); (case c2 => exact rfl); (case c3 => exact rfl); (case c4 => exact rfl); k_whole; intro g' L' h' tk' cells' FG' F' N' Y' B' X' T' l1; (have l2 := l1); (try k_lt l1); k_cells Y'; (try simp only [List.cons_append, List.nil_append] at N'); (try dsimp only); (try k_lift B'); (try k_fold)))))
set_option maxRecDepth 100000 in
set_option maxHeartbeats 8000000 in
theorem c_get0 (w : World) (U : Addr) (x y : Int) (tx ty : Tok) (n : Nat) (many : Int) (tm : Tok) (news : Ledger) (hx : 0 ≤ x) (hm : 1 ≤ many) (hm' : many ≤ 65535) (hU : ∀ p ∈ news, p.1 ≠ U) :
    Calls w 10 112 [.ref U, .int many tm] ((U, listOf [Value.int x tx, Value.int y ty].toArray n) :: news) (fun K => ∀ (got x' y' : Int) (t tx' ty' : Tok) (n' : Nat), 0 ≤ got → got < many → 0 ≤ x' → K (.int got t) ((U, listOf [Value.int x' tx', Value.int y' ty'].toArray n') :: news)) := by
  unfold Calls
  intro p loose mean mg mb dp un gd cn cs a ccd cl outer A₀ base h₀ L m s Q E jB jF jX jN jT jk jdp jun hret
  refine wpAny_call ?_
  k_dflt cell_enter
  k_steps
  have e2 : ∀ z : Int, ([x, z].getD (Int.toNat 0) 0) = x := fun _ => rfl
  refine hret _ _ _ _ _ _ _ ?_ ?_ ?_ _ _ (by assumption) (by assumption)
  · exact Int.fmod_nonneg_of_pos _ (by omega)
  · exact Int.fmod_lt_of_pos _ (by omega)
  · rw [e2]; exact Int.fdiv_nonneg hx (by omega)
theorem c_get (w : World) (U : Addr) (x y : Int) (tx ty : Tok) (n : Nat) (many : Int) (tm : Tok) (news : Ledger) (nf : Obj → Ledger) (hU : UpdF U (listOf [Value.int x tx, Value.int y ty].toArray n) news nf) (hx : 0 ≤ x) (hm : 1 ≤ many) (hm' : many ≤ 65535) :
    Calls w 10 112 [.ref U, .int many tm] news (fun K => ∀ (got x' y' : Int) (t tx' ty' : Tok) (n' : Nat), 0 ≤ got → got < many → 0 ≤ x' → K (.int got t) (nf (listOf [Value.int x' tx', Value.int y' ty'].toArray n'))) := by
  obtain ⟨pre, post, rfl, e, h1, h2⟩ := hU.split
  have perm : ∀ (o : Obj) (p : Addr × Obj), p ∈ (U, o) :: (pre ++ post) ↔ p ∈ pre ++ (U, o) :: post := fun o p => by
    simp only [List.mem_cons, List.mem_append]
    constructor
    · rintro (h | h | h)
      · exact .inr (.inl h)
      · exact .inl h
      · exact .inr (.inr h)
    · rintro (h | h | h)
      · exact .inr (.inl h)
      · exact .inl h
      · exact .inr (.inr h)
  intro p loose mean mg mb dp un gd cn cs a ccd cl outer A₀ base h₀ L m s Q E hB hF hX hN hT hk hdp hun hret
  refine (c_get0 w U x y tx ty n many tm (pre ++ post) hx hm hm' (fun p hp => ?_)).use hB hF hX (fun p hp => hN p ((perm _ p).mp hp)) hT hk hdp hun ?_
  · rcases List.mem_append.mp hp with hp | hp
    · exact h1 p hp
    · exact h2 p hp
  · intro got x' y' t tx' ty' n' g0 g1 g2 h' tk' F' N'
    refine hret got x' y' t tx' ty' n' g0 g1 g2 h' tk' F' (fun p hp => N' p ((perm _ p).mpr ?_))
    rw [e] at hp
    exact hp
local macro_rules | `(tactic| walk_at "call ref") => `(tactic| (k_here; (with_reducible show wpAny _ _ (call (Value.ref 112) _) _ _ _); k_dflt (
  refine' Calls.use (c_get _ _ _ _ _ _ _ _ _ _ _ ?p0 ?p1 ?p2 ?p3) ?k1 ?k2 ?k3 ?k4 ?k5 ?kK ?kd ?ku ?_
  (case k1 => k_asm)
  (case k2 => k_asm)
  (case k3 => k_asm)
  (case k4 => k_asm)
  (case k5 => k_asm)
  (case kK => first | exact rfl | assumption)
  (case p0 => k_updF)
  (case p1 => omega)
  (case p2 => first | omega | exact (menu2 (by omega) (by omega) (by omega) (by omega)).1)
  (case p3 => first | omega | exact (menu2 (by omega) (by omega) (by omega) (by omega)).2)
  (case kd => ktr_room)
  (case ku => ktr_units)
  (try dsimp only [Ret])
  intro gt x' y' t tx' ty' n' hg0 hg1 hx0 h' tk' F' N'
  (try dsimp only)
  (try k_sweep)
  (try k_fold))))
def scale (q : Int) : Int := if q < 50 then Int.fdiv 5000 q else 2 * (100 - q)
def own1 (q most one : Int) : Int := min most (max 1 (Int.fdiv (scale q * one + 50) 100))
def ownL (ns : List Int) (q most : Int) : List Int := ns.map (own1 q most)
theorem own1_in {q most one : Int} (hm : 1 ≤ most) : 1 ≤ own1 q most one ∧ own1 q most one ≤ most := by
  unfold own1
  omega
theorem ownL_in {ns : List Int} {q most : Int} (hm : 1 ≤ most) : ∀ z ∈ ownL ns q most, 1 ≤ z ∧ z ≤ most := fun z hz => by
  obtain ⟨y, _, rfl⟩ := List.mem_map.mp hz
  exact own1_in hm
theorem set_in {l : List Int} {i : Nat} {v : Int} {P : Int → Prop} (h : ∀ z ∈ l, P z) (hv : P v) : ∀ z ∈ l.set i v, P z := fun z hz => by
  rcases List.mem_or_eq_of_mem_set hz with hz | rfl
  · exact h z hz
  · exact hv
theorem ownL_len (ns : List Int) (q most : Int) : (ownL ns q most).length = ns.length := List.length_map ..
theorem scale_lo {q : Int} (hq : 1 ≤ q) (_hq' : q ≤ 100) : 0 ≤ scale q := by
  unfold scale
  split
  · exact Int.fdiv_nonneg (by omega) (by omega)
  · omega
theorem scale_hi {q : Int} (hq : 1 ≤ q) (_hq' : q ≤ 100) : scale q ≤ 5000 := by
  unfold scale
  split
  · rw [Int.fdiv_eq_ediv_of_nonneg _ (by omega)]
    exact Int.ediv_le_self _ (by omega)
  · omega
theorem min_max_is (most x : Int) : (if (if x > 1 then x else 1) < most then if x > 1 then x else 1 else most) = min most (max 1 x) := by
  split <;> split <;> omega
set_option maxRecDepth 100000 in
set_option maxHeartbeats 8000000 in
theorem c_own (w : World) (B : Addr) (vs : List Value) (ns : List Int) (n : Nat) (q most : Int) (tq tm : Tok) (news : Ledger) (hB : (B, listOf vs.toArray n) ∈ news) (hI : IntsAre vs ns) (hl : ns.length ≤ 8) (hq : 1 ≤ q) (hq' : q ≤ 100) (hm : 1 ≤ most) (hm' : most ≤ 65535) :
    Calls w 10 117 [.ref B, .int q tq, .int most tm] news (fun K => ∀ (D : Addr) (ys : List Value) (n' : Nat), IntsAre ys (ownL ns q most) → (ownL ns q most).length = ns.length → (∀ p ∈ news, p.1 ≠ D) → K (.ref D) ((D, listOf ys.toArray n') :: news)) := by
  unfold Calls
  intro p loose mean mg mb dp un gd cn cs a ccd cl outer A₀ base h₀ L m s Q E jB jF jX jN jT jk jdp jun hret
  have hs0 : 0 ≤ Int.fdiv 5000 q := Int.fdiv_nonneg (by omega) (by omega)
  have hs1 : Int.fdiv 5000 q ≤ 5000 := by
    rw [Int.fdiv_eq_ediv_of_nonneg _ (by omega)]
    exact Int.ediv_le_self _ (by omega)
  refine wpAny_call ?_
  k_dflt (refine' code_defC ?k1 ?k2 ?k3 ?k4 ?k5 ?kA ?kF ?kK ?k6 ?k7 ?k8 ?k9 ?kB ?kD ?_ ?c2 ?c3 ?c4; (case kA => exact rfl); (case kF => exact rfl); (case kK => assumption); (case k1 => k_asm); (case k2 => k_asm); (case k3 => k_asm); (case k4 => k_asm); (case k5 => k_asm); (case k6 => k_is); (case k7 => k_is); (case k8 => ktr_room); (case k9 => exact BindsTo.of_eq rfl); (case kB => exact rfl); (case kD => decide +kernel); (case c2 => exact rfl); (case c3 => exact rfl); (case c4 => exact rfl); k_whole; intro g' L' h' tk' cells' FG' F' N' Y' B' X' T' l1; (have l2 := l1); (try k_lt l1); k_cells Y'; (try simp only [List.cons_append, List.nil_append] at N'); (try dsimp only); (try k_lift B'); (try k_fold))
  k_steps
  all_goals (
    rename (IntsAre _ (List.map _ _)) => hys
    rename (_ ∧ _ ∧ LCg.Off1 _ _) => hoff
    refine hret _ _ _ (ints_is hys (List.map_congr_left fun x _ => ?_)) (ownL_len ..) (off1_ne hoff.2.2) _ _ (by assumption) (cb_drop (by assumption) sub_skip))
  · rw [min_max_is, own1, scale, if_pos (by assumption)]
  · rw [min_max_is, own1, scale, if_neg (by assumption)]
local macro_rules | `(tactic| walk_at "call ref") => `(tactic| (k_here; (with_reducible show wpAny _ _ (call (Value.ref 117) _) _ _ _); k_dflt (
  refine' Calls.use (c_own _ _ _ _ _ _ _ _ _ _ ?p0 ?p1 ?p2 ?p3 ?p4 ?p5 ?p6) ?k1 ?k2 ?k3 ?k4 ?k5 ?kK ?kd ?ku ?_
  (case k1 => k_asm)
  (case k2 => k_asm)
  (case k3 => k_asm)
  (case k4 => k_asm)
  (case k5 => k_asm)
  (case kK => first | exact rfl | assumption)
  (case p0 => k_mem)
  (case p1 => first | assumption | l_ints)
  (case p2 => first | assumption | (simp only [List.length_cons, List.length_nil] <;> omega))
  (case p3 => omega)
  (case p4 => omega)
  (case p5 => omega)
  (case p6 => omega)
  (case kd => ktr_room)
  (case ku => ktr_units)
  (try dsimp only [Ret])
  intro D' ys' n' hI' hL' hD' h' tk' F' N'
  (have hDo' := off1_back hD'; (try simp only [LCg.Off1, and_true] at hDo'))
  (try dsimp only)
  (try k_sweep)
  (try k_fold))))
set_option maxRecDepth 100000 in
set_option maxHeartbeats 8000000 in
theorem c_scale (w : World) (q : Int) (tq : Tok) (news : Ledger) (hq : 1 ≤ q) (hq' : q ≤ 100) :
    Calls w 10 53 [.int q tq] news (fun K => ∀ t : Tok, K (.int (scale q) t) news) := by
  unfold Calls
  intro p loose mean mg mb dp un gd cn cs a ccd cl outer A₀ base h₀ L m s Q E jB jF jX jN jT jk jdp jun hret
  refine wpAny_call ?_
  k_dflt cell_enter
  k_steps
  all_goals (
    have e : (if (if q < 100 then q else 100) > 1 then if q < 100 then q else 100 else 1) = q := by split <;> split <;> omega
    simp only [e] at *
    have hk9 : ∀ (z : Int) (t : Tok), z = scale q → Ret h₀ L m s Q (.int z t) news := fun z t e => by subst e; exact hret t
    refine hk9 _ _ ?_ _ _ (by assumption) (by assumption))
  · rw [scale, if_pos (by assumption)]
  · rw [scale, if_neg (by assumption)]; omega
local macro_rules | `(tactic| walk_at "call ref") => `(tactic| (k_here; (with_reducible show wpAny _ _ (call (Value.ref 53) _) _ _ _); k_dflt (
  refine' Calls.use (c_scale _ _ _ _ ?p0 ?p1) ?k1 ?k2 ?k3 ?k4 ?k5 ?kK ?kd ?ku ?_
  (case k1 => k_asm)
  (case k2 => k_asm)
  (case k3 => k_asm)
  (case k4 => k_asm)
  (case k5 => k_asm)
  (case kK => first | exact rfl | assumption)
  (case p0 => omega)
  (case p1 => omega)
  (case kd => ktr_room)
  (case ku => ktr_units)
  (try dsimp only [Ret])
  intro t' h' tk' F' N'
  (try dsimp only)
  (try k_sweep)
  (try k_fold))))
theorem max_min_is {most x : Int} (hm : 1 ≤ most) : (if (if x < most then x else most) > 1 then if x < most then x else most else 1) = min most (max 1 x) := by
  split <;> split <;> omega
set_option maxRecDepth 100000 in
set_option maxHeartbeats 8000000 in
theorem c_scaled (w : World) (B : Addr) (vs : List Value) (ns : List Int) (n : Nat) (q most : Int) (tq tm : Tok) (news : Ledger) (hB : (B, listOf vs.toArray n) ∈ news) (hI : IntsAre vs ns) (hl : ns.length ≤ 8) (hq : 1 ≤ q) (hq' : q ≤ 100) (hm : 1 ≤ most) (hm' : most ≤ 65535) :
    Calls w 12 65 [.ref B, .int q tq, .int most tm] news (fun K => ∀ (D : Addr) (ys : List Value) (n' : Nat), IntsAre ys (ownL ns q most) → (ownL ns q most).length = ns.length → K (.ref D) ((D, tupOf ys.toArray n') :: news)) := by
  unfold Calls
  intro p loose mean mg mb dp un gd cn cs a ccd cl outer A₀ base h₀ L m s Q E jB jF jX jN jT jk jdp jun hret
  have hs0 := scale_lo hq hq'
  have hs1 := scale_hi hq hq'
  refine wpAny_call ?_
  k_dflt cell_enter
  k_steps
  rename (IntsAre _ (List.map _ _)) => hys
  refine hret _ _ _ (ints_is hys (List.map_congr_left fun x _ => ?_)) (ownL_len ..) _ _ (by assumption) (cb_drop (by assumption) sub_skip3)
  rw [max_min_is hm, own1, Int.mul_comm]
local macro_rules | `(tactic| walk_at "call ref") => `(tactic| (k_here; (with_reducible show wpAny _ _ (call (Value.ref 65) _) _ _ _); k_dflt (
  refine' Calls.use (c_scaled _ _ _ _ _ _ _ _ _ _ ?p0 ?p1 ?p2 ?p3 ?p4 ?p5 ?p6) ?k1 ?k2 ?k3 ?k4 ?k5 ?kK ?kd ?ku ?_
  (case k1 => k_asm)
  (case k2 => k_asm)
  (case k3 => k_asm)
  (case k4 => k_asm)
  (case k5 => k_asm)
  (case kK => first | exact rfl | assumption)
  (case p0 => k_mem)
  (case p1 => first | assumption | l_ints)
  (case p2 => first | assumption | (simp only [List.length_cons, List.length_nil] <;> omega))
  (case p3 => omega)
  (case p4 => omega)
  (case p5 => omega)
  (case p6 => omega)
  (case kd => ktr_room)
  (case ku => ktr_units)
  (try dsimp only [Ret])
  intro D' ys' n' hI' hL' h' tk' F' N'
  (try dsimp only)
  (try k_sweep)
  (try k_fold))))
def gap (os ts : List Int) : Int := (List.zipWith (fun a b => max (a - b) (b - a)) os ts).sum
theorem abs_is (x : Int) : (if x < 0 then -x else x) = max x (-x) := by split <;> omega
theorem dist_is (os ts : List Int) (h : os.length ≤ ts.length) :
    (List.map (fun k' : Int => if os.getD k'.toNat 0 - ts.getD k'.toNat 0 < 0 then -(os.getD k'.toNat 0 - ts.getD k'.toNat 0) else os.getD k'.toNat 0 - ts.getD k'.toNat 0) (rangeKs 0 ((os.length : Int) - 0).toNat)).sum = gap os ts := by
  unfold gap
  congr 1
  apply List.ext_getElem
  · simp [rangeKs]; omega
  · intro i h1 h2
    simp [rangeKs] at h1 h2
    have e1 : os[i]? = some os[i] := List.getElem?_eq_getElem (by omega)
    have e2 : ts[i]? = some ts[i] := List.getElem?_eq_getElem (by omega)
    simp [rangeKs, e1, e2]
    split <;> omega
set_option maxRecDepth 100000 in
set_option maxHeartbeats 8000000 in
theorem c_dist (w : World) (O T : Addr) (ys zs : List Value) (os ts : List Int) (n1 n2 : Nat) (news : Ledger) (hO : (O, tupOf ys.toArray n1) ∈ news) (hT : (T, tupOf zs.toArray n2) ∈ news) (hI : IntsAre ys os) (hJ : IntsAre zs ts) (hl : os.length ≤ 8) (hle : os.length ≤ ts.length) (hl' : ts.length ≤ 9) :
    Calls w 10 91 [.ref O, .ref T] news (fun K => ∀ (t : Tok), K (.int (gap os ts) t) news) := by
  unfold Calls
  intro p loose mean mg mb dp un gd cn cs a ccd cl outer A₀ base h₀ L m s Q E jB jF jX jN jT jk jdp jun hret
  refine wpAny_call ?_
  k_dflt (refine' code_defC ?k1 ?k2 ?k3 ?k4 ?k5 ?kA ?kF ?kK ?k6 ?k7 ?k8 ?k9 ?kB ?kD ?_ ?c2 ?c3 ?c4; (case kA => exact rfl); (case kF => exact rfl); (case kK => assumption); (case k1 => k_asm); (case k2 => k_asm); (case k3 => k_asm); (case k4 => k_asm); (case k5 => k_asm); (case k6 => k_is); (case k7 => k_is); (case k8 => ktr_room); (case k9 => exact BindsTo.of_eq rfl); (case kB => exact rfl); (case kD => decide +kernel); (case c2 => exact rfl); (case c3 => exact rfl); (case c4 => exact rfl); k_whole; intro g' L' h' tk' cells' FG' F' N' Y' B' X' T' l1; (have l2 := l1); (try k_lt l1); k_cells Y'; (try simp only [List.cons_append, List.nil_append] at N'); (try dsimp only); (try k_lift B'); (try k_fold))
  k_steps
  have hk9 : ∀ (z : Int) (t : Tok), z = gap os ts → Ret h₀ L m s Q (.int z t) news := fun z t e => by subst e; exact hret t
  exact hk9 _ _ (dist_is os ts hle) _ _ (by assumption) (cb_drop (by assumption) fun p hp => .tail _ (.tail _ (.tail _ hp)))
local macro_rules | `(tactic| walk_at "call ref") => `(tactic| (k_here; (with_reducible show wpAny _ _ (call (Value.ref 91) _) _ _ _); k_dflt (
  refine' Calls.use (c_dist _ _ _ _ _ _ _ _ _ _ ?p0 ?p1 ?p2 ?p3 ?p4 ?p5 ?p6) ?k1 ?k2 ?k3 ?k4 ?k5 ?kK ?kd ?ku ?_
  (case k1 => k_asm)
  (case k2 => k_asm)
  (case k3 => k_asm)
  (case k4 => k_asm)
  (case k5 => k_asm)
  (case kK => first | exact rfl | assumption)
  (case p0 => k_mem)
  (case p1 => k_mem)
  (case p2 => first | assumption | l_ints)
  (case p3 => first | assumption | l_ints)
  (case p4 => omega)
  (case p5 => omega)
  (case p6 => omega)
  (case kd => ktr_room)
  (case ku => ktr_units)
  (try dsimp only [Ret])
  intro t' h' tk' F' N'
  (try dsimp only)
  (try k_sweep)
  (try k_fold))))
def lv : Option Int → Tok → Value
  | none, _ => .none
  | some z, t => .int z t
def nearStep (ns ts : List Int) (most : Int) (st : Int × Option Int) (q : Int) : Int × Option Int :=
  match st.2 with
  | none => (q, some (gap (ownL ns q most) ts))
  | some l => if gap (ownL ns q most) ts < l then (q, some (gap (ownL ns q most) ts)) else st
def nearF (ns ts : List Int) (most : Int) (pre : List Int) : Int × Option Int := pre.foldl (nearStep ns ts most) (100, none)
section
local macro_rules | `(tactic| walk_at "exec For Name Call cons nil") => `(tactic| (k_here; (rename Fr _ _ _ _ => lF'); (with_unfolding_all refine' For_invVF lF' ?k1 ?k2 ?_; (case k1 => exact rfl); (case k2 => exact rfl); k_whole)))
local macro_rules | `(tactic| walk_at "exec For Name Name cons nil") => `(tactic| (k_here; (rename Fr _ _ _ _ => lF'); (with_unfolding_all refine' For_invVF lF' ?k1 ?k2 ?_; (case k1 => exact rfl); (case k2 => exact rfl); k_whole)))
local macro_rules | `(tactic| walk_at "pyIter ref") => `(tactic| (k_here; refine Hold.out ?_))
set_option maxRecDepth 100000 in
set_option maxHeartbeats 8000000 in
theorem c_near (w : World) (T B : Addr) (vs zs : List Value) (ns ts : List Int) (n1 n2 : Nat) (most : Int) (tm : Tok) (news : Ledger) (hT : (T, tupOf zs.toArray n1) ∈ news) (hB : (B, listOf vs.toArray n2) ∈ news) (hI : IntsAre vs ns) (hJ : IntsAre zs ts) (hl : ns.length ≤ 8) (hle : ns.length ≤ ts.length) (hl' : ts.length ≤ 9) (hm : 1 ≤ most) (hm' : most ≤ 65535) :
    Calls w 15 98 [.ref T, .ref B, .int most tm] news (fun K => ∀ (t : Tok), K (.int (nearF ns ts most (downKs 100 100)).1 t) news) := by
  unfold Calls
  intro p loose mean mg mb dp un gd cn cs a ccd cl outer A₀ base h₀ L m s Q E jB jF jX jN jT jk jdp jun hret
  refine wpAny_call ?_
  k_dflt cell_enter
  k_steps
  unfold Hold
  rename Fr _ _ _ _ => lF'
  rename News _ _ _ _ => lN'
  rename IsRange _ _ _ _ _ _ _ _ => rgX
  with_unfolding_all refine' kst_rangeD (σ := Int × Tok × Option Int × Tok) (n := 100) (fun _ => news) (fun c => [("best", .int c.1 c.2.1), ("least", lv c.2.2.1 c.2.2.2)]) (fun _ => True) ["told"] (fun pre c => nearF ns ts most pre = (c.1, c.2.2.1)) (100, _, none, 0) (by rfl) rgX (by decide) (by decide) lF' ?kn ?kf ?kk ?kp ?_ ?_
  case kn => exact kst_newsOf lN' (fun p hp => .tail _ hp)
  case kf => trivial
  case kk => kst_all
  case kp => rfl
  · clear lF' lN'
    intro c pre k t u h tk own hk hlt hoff _ hP F N
    obtain ⟨b, tb, l, tl⟩ := c
    dsimp only [kstB] at F N hP ⊢
    have hB2 := List.mem_append_left own hB
    have hT2 := List.mem_append_left own hT
    have hk1 : 1 ≤ k := by omega
    have hk2 : k ≤ 100 := by omega
    have fin : ∀ (b' : Int) (l' : Int), nearStep ns ts most (b, l) k = (b', some l') → nearF ns ts most (pre ++ [k]) = (b', some l') := by
      intro b' l' e
      rw [nearF, List.foldl_append, ← nearF, hP]
      exact e
    cases l with
    | none =>
      dsimp only [lv] at F
      try k_fold
      k_steps
      rename Fr _ _ _ _ => F9
      rename News _ _ _ _ => N9
      refine kst_end (_, _, some _, _) F9 N9 ?_ ?_ rfl trivial (by kst_all) (by kst_same) ?_
      · intro p hp
        repeat (first | exact List.mem_append_left _ hp | apply List.mem_cons_of_mem)
      · intro p hp
        repeat (first | exact List.mem_append_right _ hp | apply List.mem_cons_of_mem)
      · exact fin _ _ rfl
    | some l =>
      dsimp only [lv] at F
      try k_fold
      k_steps
      all_goals (
        rename Fr _ _ _ _ => F9
        rename News _ _ _ _ => N9
        refine kst_end (_, _, some _, _) F9 N9 ?_ ?_ rfl trivial (by kst_all) (by kst_same) (fin _ _ ?_)
        · intro p hp
          repeat (first | exact List.mem_append_left _ hp | apply List.mem_cons_of_mem)
        · intro p hp
          repeat (first | exact List.mem_append_right _ hp | apply List.mem_cons_of_mem))
      · show (if gap (ownL ns k most) ts < l then (k, some (gap (ownL ns k most) ts)) else (b, some l)) = _
        rw [if_pos (by assumption)]
      · show (if gap (ownL ns k most) ts < l then (k, some (gap (ownL ns k most) ts)) else (b, some l)) = _
        rw [if_neg (by assumption)]
  · clear lF' lN'
    intro c u h tk _ hP F N
    obtain ⟨b, tb, l, tl⟩ := c
    dsimp only [kstB] at F N hP ⊢
    try k_fold
    k_steps
    have e : b = (nearF ns ts most (downKs 100 100)).1 := by rw [hP]
    subst e
    exact hret _ _ _ (by assumption) (by assumption)
end
local macro_rules | `(tactic| walk_at "call ref") => `(tactic| (k_here; (with_reducible show wpAny _ _ (call (Value.ref 98) _) _ _ _); k_dflt (
  refine' Calls.use (c_near _ _ _ _ _ _ _ _ _ _ _ _ ?p0 ?p1 ?p2 ?p3 ?p4 ?p5 ?p6 ?p7 ?p8) ?k1 ?k2 ?k3 ?k4 ?k5 ?kK ?kd ?ku ?_
  (case k1 => k_asm)
  (case k2 => k_asm)
  (case k3 => k_asm)
  (case k4 => k_asm)
  (case k5 => k_asm)
  (case kK => first | exact rfl | assumption)
  (case p0 => k_mem)
  (case p1 => k_mem)
  (case p2 => first | assumption | l_ints)
  (case p3 => first | assumption | l_ints)
  (case p4 => first | omega | (simp only [List.length_cons, List.length_nil] <;> omega))
  (case p5 => first | omega | (simp only [List.length_cons, List.length_nil, List.length_append] <;> omega))
  (case p6 => first | omega | (simp only [List.length_cons, List.length_nil, List.length_append] <;> omega))
  (case p7 => omega)
  (case p8 => omega)
  (case kd => ktr_room)
  (case ku => ktr_units)
  (try dsimp only [Ret])
  intro t' h' tk' F' N'
  (try dsimp only)
  (try k_sweep)
  (try k_fold))))
theorem downKs_succ (a : Int) (n : Nat) : downKs a (n + 1) = downKs a n ++ [a - (n : Int)] := by
  simp [downKs, List.range_succ]
theorem find_down {a : Int} {n i : Nat} {p : Int → Bool} (hi : i < n) (h : ∀ q ∈ downKs a i, p q = false) (hk : p (a - (i : Int)) = true) : (downKs a n).find? p = some (a - (i : Int)) := by
  rw [List.find?_eq_some_iff_append]
  refine ⟨hk, downKs a i, (downKs a n).drop (i + 1), ?_, fun q hq => by rw [h q hq]; rfl⟩
  apply List.ext_getElem?
  intro j
  simp only [downKs, List.getElem?_append, List.getElem?_map, List.length_map, List.length_range, List.getElem?_cons, List.getElem?_drop]
  by_cases h1 : j < i
  · simp [h1, List.getElem?_range, show j < n by omega]
  · simp only [h1, if_false]
    by_cases h2 : j = i
    · subst h2
      simp [List.getElem?_range, hi]
    · have : j - i ≠ 0 := by omega
      simp only [this, if_false]
      have e : i + 1 + (j - i - 1) = j := by omega
      rw [e]
/-- the greatest quality whose table is just this one -/
def qualF (ns ts : List Int) (most : Int) : Option Int := (downKs 100 100).find? fun q => decide (ownL ns q most = ts)
section
local macro_rules | `(tactic| walk_at "exec For Name Call cons nil") => `(tactic| (k_here; (rename Fr _ _ _ _ => lF'); (with_unfolding_all refine' For_invVF lF' ?k1 ?k2 ?_; (case k1 => exact rfl); (case k2 => exact rfl); k_whole)))
local macro_rules | `(tactic| walk_at "exec For Name Name cons nil") => `(tactic| (k_here; (rename Fr _ _ _ _ => lF'); (with_unfolding_all refine' For_invVF lF' ?k1 ?k2 ?_; (case k1 => exact rfl); (case k2 => exact rfl); k_whole)))
local macro_rules | `(tactic| walk_at "pyIter ref") => `(tactic| (k_here; refine Hold.out ?_))
set_option maxRecDepth 100000 in
set_option maxHeartbeats 8000000 in
theorem c_qualL (w : World) (T B : Addr) (vs zs : List Value) (ns ts : List Int) (n1 n2 : Nat) (most : Int) (tm : Tok) (news : Ledger) (hT : (T, listOf zs.toArray n1) ∈ news) (hB : (B, listOf vs.toArray n2) ∈ news) (hI : IntsAre vs ns) (hJ : IntsAre zs ts) (hl : ns.length ≤ 8) (hl' : ts.length ≤ 9) (hm : 1 ≤ most) (hm' : most ≤ 65535) :
    Calls w 15 86 [.ref T, .ref B, .int most tm] news (fun K => ∀ (t : Tok), K (lv (qualF ns ts most) t) news) := by
  unfold Calls
  intro p loose mean mg mb dp un gd cn cs a ccd cl outer A₀ base h₀ L m s Q E jB jF jX jN jT jk jdp jun hret
  refine wpAny_call ?_
  k_dflt cell_enter
  k_steps
  unfold Hold
  rename Fr _ _ _ _ => lF'
  rename News _ _ _ _ => lN'
  rename IsRange _ _ _ _ _ _ _ _ => rgX
  with_unfolding_all refine' kst_rangeD (σ := Unit) (n := 100) (fun _ => news) (fun _ => []) (fun _ => True) [] (fun pre _ => pre = downKs 100 pre.length ∧ ∀ q ∈ pre, ownL ns q most ≠ ts) () (by rfl) rgX (by decide) (by decide) lF' ?kn ?kf ?kk ?kp ?_ ?_
  case kn => exact kst_newsOf lN' (fun p hp => hp)
  case kf => trivial
  case kk => kst_all
  case kp => exact ⟨rfl, fun _ h => nomatch h⟩
  · clear lF' lN'
    intro c pre k t u h tk own hk hlt hoff _ hP F N
    dsimp only [kstB] at F N hP ⊢
    have hB2 := List.mem_append_left own hB
    have hT2 := List.mem_append_left own hT
    have hk1 : 1 ≤ k := by omega
    have hk2 : k ≤ 100 := by omega
    try k_fold
    k_steps
    · have hq : qualF ns ts most = some k := by
        rw [hk]
        refine find_down hlt (fun q hq => ?_) ?_
        · rw [← hP.1] at hq
          exact decide_eq_false (hP.2 q hq)
        · rw [← hk]
          exact decide_eq_true (by assumption)
      have hk9 : ∀ (o : Option Int) (t : Tok), some k = o → Ret h₀ L m s Q (lv o t) news → Ret h₀ L m s Q (.int k t) news := fun o t e r => by subst e; exact r
      exact hk9 _ _ hq.symm (hret _) _ _ (by assumption) (cb_drop (by assumption) fun p hp => by
        repeat (first | exact List.mem_append_left _ hp | apply List.mem_cons_of_mem))
    · rename Fr _ _ _ _ => F9
      rename News _ _ _ _ => N9
      refine kst_end () F9 N9 ?_ ?_ rfl trivial (by kst_all) (by kst_same) ?_
      · intro p hp
        repeat (first | exact List.mem_append_left _ hp | apply List.mem_cons_of_mem)
      · intro p hp
        repeat (first | exact List.mem_append_right _ hp | apply List.mem_cons_of_mem)
      · refine ⟨?_, fun q hq => ?_⟩
        · rw [List.length_append, List.length_singleton, downKs_succ, ← hP.1, hk]
        · rcases List.mem_append.mp hq with hq | hq
          · exact hP.2 q hq
          · rw [List.mem_singleton.mp hq]; assumption
  · clear lF' lN'
    intro c u h tk _ hP F N
    dsimp only [kstB] at F N hP ⊢
    try k_fold
    k_steps
    have hq : qualF ns ts most = none := List.find?_eq_none.mpr fun q hq => by
      have := hP.2 q hq
      simpa using this
    have hk9 : ∀ (o : Option Int) (t : Tok), none = o → Ret h₀ L m s Q (lv o t) news → Ret h₀ L m s Q .none news := fun o t e r => by subst e; exact r
    exact hk9 _ 0 hq.symm (hret _) _ _ (by assumption) (by assumption)
end
local macro_rules | `(tactic| walk_at "call ref") => `(tactic| (k_here; (with_reducible show wpAny _ _ (call (Value.ref 86) _) _ _ _); k_dflt (
  refine' Calls.use (c_qualL _ _ _ _ _ _ _ _ _ _ _ _ ?p0 ?p1 ?p2 ?p3 ?p4 ?p5 ?p6 ?p7) ?k1 ?k2 ?k3 ?k4 ?k5 ?kK ?kd ?ku ?_
  (case k1 => k_asm)
  (case k2 => k_asm)
  (case k3 => k_asm)
  (case k4 => k_asm)
  (case k5 => k_asm)
  (case kK => first | exact rfl | assumption)
  (case p0 => k_mem)
  (case p1 => k_mem)
  (case p2 => first | assumption | l_ints)
  (case p3 => first | assumption | l_ints)
  (case p4 => first | omega | (simp only [List.length_cons, List.length_nil] <;> omega))
  (case p5 => first | omega | (simp only [List.length_cons, List.length_nil, List.length_append] <;> omega))
  (case p6 => omega)
  (case p7 => omega)
  (case kd => ktr_room)
  (case ku => ktr_units)
  (try dsimp only [Ret])
  intro t' h' tk' F' N'
  (try dsimp only)
  (try k_sweep)
  (try k_fold))))
section
local macro_rules | `(tactic| walk_at "exec For Name Call cons nil") => `(tactic| (k_here; (rename Fr _ _ _ _ => lF'); (with_unfolding_all refine' For_invVF lF' ?k1 ?k2 ?_; (case k1 => exact rfl); (case k2 => exact rfl); k_whole)))
local macro_rules | `(tactic| walk_at "exec For Name Name cons nil") => `(tactic| (k_here; (rename Fr _ _ _ _ => lF'); (with_unfolding_all refine' For_invVF lF' ?k1 ?k2 ?_; (case k1 => exact rfl); (case k2 => exact rfl); k_whole)))
local macro_rules | `(tactic| walk_at "pyIter ref") => `(tactic| (k_here; refine Hold.out ?_))
set_option maxRecDepth 100000 in
set_option maxHeartbeats 8000000 in
theorem c_qualT (w : World) (T B : Addr) (vs zs : List Value) (ns ts : List Int) (n1 n2 : Nat) (most : Int) (tm : Tok) (news : Ledger) (hT : (T, tupOf zs.toArray n1) ∈ news) (hB : (B, listOf vs.toArray n2) ∈ news) (hI : IntsAre vs ns) (hJ : IntsAre zs ts) (hl : ns.length ≤ 8) (hl' : ts.length ≤ 9) (hm : 1 ≤ most) (hm' : most ≤ 65535) :
    Calls w 15 86 [.ref T, .ref B, .int most tm] news (fun K => ∀ (t : Tok), K (lv (qualF ns ts most) t) news) := by
  unfold Calls
  intro p loose mean mg mb dp un gd cn cs a ccd cl outer A₀ base h₀ L m s Q E jB jF jX jN jT jk jdp jun hret
  refine wpAny_call ?_
  k_dflt cell_enter
  k_steps
  unfold Hold
  rename Fr _ _ _ _ => lF'
  rename News _ _ _ _ => lN'
  rename IsRange _ _ _ _ _ _ _ _ => rgX
  with_unfolding_all refine' kst_rangeD (σ := Unit) (n := 100) (fun _ => news) (fun _ => []) (fun _ => True) [] (fun pre _ => pre = downKs 100 pre.length ∧ ∀ q ∈ pre, ownL ns q most ≠ ts) () (by rfl) rgX (by decide) (by decide) lF' ?kn ?kf ?kk ?kp ?_ ?_
  case kn => exact kst_newsOf lN' (fun p hp => hp)
  case kf => trivial
  case kk => kst_all
  case kp => exact ⟨rfl, fun _ h => nomatch h⟩
  · clear lF' lN'
    intro c pre k t u h tk own hk hlt hoff _ hP F N
    dsimp only [kstB] at F N hP ⊢
    have hB2 := List.mem_append_left own hB
    have hT2 := List.mem_append_left own hT
    have hk1 : 1 ≤ k := by omega
    have hk2 : k ≤ 100 := by omega
    try k_fold
    k_steps
    · have hq : qualF ns ts most = some k := by
        rw [hk]
        refine find_down hlt (fun q hq => ?_) ?_
        · rw [← hP.1] at hq
          exact decide_eq_false (hP.2 q hq)
        · rw [← hk]
          exact decide_eq_true (by assumption)
      have hk9 : ∀ (o : Option Int) (t : Tok), some k = o → Ret h₀ L m s Q (lv o t) news → Ret h₀ L m s Q (.int k t) news := fun o t e r => by subst e; exact r
      exact hk9 _ _ hq.symm (hret _) _ _ (by assumption) (cb_drop (by assumption) fun p hp => by
        repeat (first | exact List.mem_append_left _ hp | apply List.mem_cons_of_mem))
    · rename Fr _ _ _ _ => F9
      rename News _ _ _ _ => N9
      refine kst_end () F9 N9 ?_ ?_ rfl trivial (by kst_all) (by kst_same) ?_
      · intro p hp
        repeat (first | exact List.mem_append_left _ hp | apply List.mem_cons_of_mem)
      · intro p hp
        repeat (first | exact List.mem_append_right _ hp | apply List.mem_cons_of_mem)
      · refine ⟨?_, fun q hq => ?_⟩
        · rw [List.length_append, List.length_singleton, downKs_succ, ← hP.1, hk]
        · rcases List.mem_append.mp hq with hq | hq
          · exact hP.2 q hq
          · rw [List.mem_singleton.mp hq]; assumption
  · clear lF' lN'
    intro c u h tk _ hP F N
    dsimp only [kstB] at F N hP ⊢
    try k_fold
    k_steps
    have hq : qualF ns ts most = none := List.find?_eq_none.mpr fun q hq => by
      have := hP.2 q hq
      simpa using this
    have hk9 : ∀ (o : Option Int) (t : Tok), none = o → Ret h₀ L m s Q (lv o t) news → Ret h₀ L m s Q .none news := fun o t e r => by subst e; exact r
    exact hk9 _ 0 hq.symm (hret _) _ _ (by assumption) (by assumption)
end
local macro_rules | `(tactic| walk_at "call ref") => `(tactic| (k_here; (with_reducible show wpAny _ _ (call (Value.ref 86) _) _ _ _); k_dflt (
  refine' Calls.use (c_qualT _ _ _ _ _ _ _ _ _ _ _ _ ?p0 ?p1 ?p2 ?p3 ?p4 ?p5 ?p6 ?p7) ?k1 ?k2 ?k3 ?k4 ?k5 ?kK ?kd ?ku ?_
  (case k1 => k_asm)
  (case k2 => k_asm)
  (case k3 => k_asm)
  (case k4 => k_asm)
  (case k5 => k_asm)
  (case kK => first | exact rfl | assumption)
  (case p0 => k_mem)
  (case p1 => k_mem)
  (case p2 => first | assumption | l_ints)
  (case p3 => first | assumption | l_ints)
  (case p4 => first | omega | (simp only [List.length_cons, List.length_nil] <;> omega))
  (case p5 => first | omega | (simp only [List.length_cons, List.length_nil, List.length_append] <;> omega))
  (case p6 => omega)
  (case p7 => omega)
  (case kd => ktr_room)
  (case ku => ktr_units)
  (try dsimp only [Ret])
  intro t' h' tk' F' N'
  (try dsimp only)
  (try k_sweep)
  (try k_fold))))
section
local macro_rules | `(tactic| walk_at "exec For Name Call cons nil") => `(tactic| (k_here; (rename Fr _ _ _ _ => lF'); (with_unfolding_all refine' For_invVF lF' ?k1 ?k2 ?_; (case k1 => exact rfl); (case k2 => exact rfl); k_whole)))
local macro_rules | `(tactic| walk_at "exec For Name Name cons nil") => `(tactic| (k_here; (rename Fr _ _ _ _ => lF'); (with_unfolding_all refine' For_invVF lF' ?k1 ?k2 ?_; (case k1 => exact rfl); (case k2 => exact rfl); k_whole)))
local macro_rules | `(tactic| walk_at "pyIter ref") => `(tactic| (k_here; refine Hold.out ?_))
set_option maxRecDepth 100000 in
set_option maxHeartbeats 8000000 in
theorem c_prec (w : World) (T : Addr) (zs : List Value) (ts : List Int) (n1 : Nat) (news : Ledger) (hT : (T, listOf zs.toArray n1) ∈ news) (hJ : IntsAre zs ts) (hl' : ts.length ≤ 9) :
    Calls w 10 79 [.ref T] news (fun K => ∀ (t : Tok), K (.int (if ts.all (fun x => decide (x ≤ 255)) then 0 else 1) t) news) := by
  unfold Calls
  intro p loose mean mg mb dp un gd cn cs a ccd cl outer A₀ base h₀ L m s Q E jB jF jX jN jT jk jdp jun hret
  refine wpAny_call ?_
  k_dflt cell_enter
  k_steps
  unfold Hold
  rename Fr _ _ _ _ => lF'
  rename News _ _ _ _ => lN'
  with_unfolding_all refine' kst_listL (σ := Unit) (nn := n1) (vs := zs) (ns := ts) (fun _ => news) (fun _ => []) (fun _ => True) [] (fun pre _ => ∀ q ∈ pre, q ≤ 255) () (by rfl) (fun _ => hT) hJ lF' ?kn ?kf ?kk ?kp ?_ ?_
  case kn => exact kst_newsOf lN' (fun p hp => hp)
  case kf => trivial
  case kk => kst_all
  case kp => exact fun _ h => nomatch h
  · clear lF' lN'
    intro c pre post k t u h tk own hts hmem hoff _ hP F N
    dsimp only [kstB] at F N hP ⊢
    try k_fold
    k_steps
    · have e : (if ts.all (fun x => decide (x ≤ 255)) then (0 : Int) else 1) = 1 := by
        rw [if_neg]
        intro hq
        have := of_decide_eq_true (List.all_eq_true.mp hq k hmem)
        omega
      rw [e] at hret
      exact hret _ _ _ (by assumption) (cb_drop (by assumption) fun p hp => List.mem_append_left _ hp)
  · clear lF' lN'
    intro c u h tk _ hP F N
    dsimp only [kstB] at F N hP ⊢
    try k_fold
    k_steps
    have e : (if ts.all (fun x => decide (x ≤ 255)) then (0 : Int) else 1) = 0 := by
      rw [if_pos]
      exact List.all_eq_true.mpr fun q hq => decide_eq_true (hP q hq)
    rw [e] at hret
    exact hret _ _ _ (by assumption) (by assumption)
end
local macro_rules | `(tactic| walk_at "call ref") => `(tactic| (k_here; (with_reducible show wpAny _ _ (call (Value.ref 79) _) _ _ _); k_dflt (
  refine' Calls.use (c_prec _ _ _ _ _ _ ?p0 ?p1 ?p2) ?k1 ?k2 ?k3 ?k4 ?k5 ?kK ?kd ?ku ?_
  (case k1 => k_asm)
  (case k2 => k_asm)
  (case k3 => k_asm)
  (case k4 => k_asm)
  (case k5 => k_asm)
  (case kK => first | exact rfl | assumption)
  (case p0 => k_mem)
  (case p1 => first | assumption | l_ints)
  (case p2 => first | omega | (simp only [List.length_cons, List.length_nil, List.length_append] <;> omega))
  (case kd => ktr_room)
  (case ku => ktr_units)
  (try dsimp only [Ret])
  intro t' h' tk' F' N'
  (try dsimp only)
  (try k_sweep)
  (try k_fold))))
section
local macro_rules | `(tactic| walk_at "getMethod type:Exception") => `(tactic| (k_here; refine' method_type ?F ?X ?m (by decide +kernel) ?e ?h ?_; (case F => k_asm); (case X => k_asm); (case m => first | rfl | kernel_rfl); (case e => k_dflt k_is); (case h => k_handed)))
local macro_rules | `(tactic| walk_at "call builtin:Exception.__init__") => `(tactic| (k_here; k_dflt (refine' x_initb ?F ?X ?N ?ne ?hr ?_; (case F => k_asm); (case X => k_asm); (case N => k_asm); (case ne => assumption); (case hr => exact Nat.le_of_ble_eq_true rfl); k_whole; intro T' h' F' N' lt')))
local macro_rules | `(tactic| walk_at "setAttr ref") => `(tactic| (k_here; k_dflt (refine' x_setmsg2 ?F ?X ?N ?lt ?ne ?_; (case F => k_asm); (case X => k_asm); (case N => k_asm); (case lt => assumption); (case ne => assumption); k_whole; intro D' h' tk' F' N')))
set_option maxRecDepth 100000 in
set_option maxHeartbeats 8000000 in
theorem c_exc (w : World) (x : Str) (tx : Tok) (news : Ledger) :
    Calls w 10 44 [.str x tx] news (fun K => ∀ (e T D : Addr), (∀ p ∈ news, p.1 ≠ e ∧ p.1 ≠ T) → K (.ref e) ((T, tupOf [Value.str x tx].toArray 0) :: (e, excObj T (some D)) :: news)) := by
  unfold Calls
  intro p loose mean mg mb dp un gd cn cs a ccd cl outer A₀ base h₀ L m s Q E jB jF jX jN jT jk jdp jun hret
  refine exc_enter jF jX jN fun e T h' F' N' hne hlt => ?_
  have hne2 := ne_enter (o := tupOf [Value.str x tx].toArray 0) hne hlt
  refine wpAny_call ?_
  k_dflt cell_enter
  k_steps
  rename_i l9 _ _ _ _ _ F9 N9 _ _
  exact hret e _ _ (fun p hp => ⟨Nat.ne_of_lt (hne p hp).1, Nat.ne_of_lt (l9 p (.tail _ (.tail _ hp)))⟩) _ _ F9 (drop3 N9)
end
local macro_rules | `(tactic| walk_at "call ref") => `(tactic| (k_here; (with_reducible show wpAny _ _ (call (Value.ref 44) _) _ _ _); k_dflt (
  refine' Calls.use (c_exc _ _ _ _) ?k1 ?k2 ?k3 ?k4 ?k5 ?kK ?kd ?ku ?_
  (case k1 => k_asm)
  (case k2 => k_asm)
  (case k3 => k_asm)
  (case k4 => k_asm)
  (case k5 => k_asm)
  (case kK => first | exact rfl | assumption)
  (case kd => ktr_room)
  (case ku => ktr_units)
  (try dsimp only [Ret])
  intro e' T' D' hne' h' tk' F' N'
  (try dsimp only)
  (try k_sweep)
  (try k_fold))))
section
local macro_rules | `(tactic| walk_at "exec For Name Call cons nil") => `(tactic| (k_here; (rename Fr _ _ _ _ => lF'); (with_unfolding_all refine' For_invVF lF' ?k1 ?k2 ?_; (case k1 => exact rfl); (case k2 => exact rfl); k_whole)))
local macro_rules | `(tactic| walk_at "exec For Name Name cons nil") => `(tactic| (k_here; (rename Fr _ _ _ _ => lF'); (with_unfolding_all refine' For_invVF lF' ?k1 ?k2 ?_; (case k1 => exact rfl); (case k2 => exact rfl); k_whole)))
local macro_rules | `(tactic| walk_at "pyIter ref") => `(tactic| (k_here; refine Hold.out ?_))
local macro_rules | `(tactic| walk_at "exec Raise some none") => `(tactic| (k_here; (with_reducible show wpAny _ _ (exec (Stmt.Raise (some (Expr.Call (Expr.Name _ _) _ [] _)) none _) _) _ _ _); k_dflt (refine' my_Raise ?h ?_; (case h => first | rfl | assumption))))
local macro_rules | `(tactic| walk_at "RaiseX ref") => `(tactic| (k_here; k_dflt (refine' raise_out ?F ?X ?N ?_; (case F => k_asm); (case X => k_asm); (case N => k_asm); k_whole)))
local macro_rules | `(tactic| walk_at "leaving ref") => `(tactic| (k_here; k_dflt (refine' leave_excS ?K ?F ?N ?ne ?_; (case K => assumption); (case F => k_asm); (case N => k_asm); (case ne => assumption); k_whole); intro h' S' R' U'; (try dsimp only at S' R' U' ⊢)))
set_option maxRecDepth 100000 in
set_option maxHeartbeats 8000000 in
theorem c_let (w : World) (T : Addr) (zs : List Value) (ts : List Int) (n1 : Nat) (t2 tm : Tok) (most : Int) (news : Ledger) (hT : (T, listOf zs.toArray n1) ∈ news) (hJ : IntsAre zs ts) (hl' : ts.length ≤ 9) (hm : 1 ≤ most) (hm' : most ≤ 65535) :
    Calls0 w 20 124 [.ref T, .int 2 t2, .int most tm] news (fun K => K (.bool (decide (ts.length = 4 ∧ ∀ x ∈ ts, 1 ≤ x ∧ x ≤ most))) news) := by
  unfold Calls0
  intro p loose mean mg mb dp un gd cn cs a ccd cl A₀ base h₀ L m s Q E jB jF jX jN jT jXB jTB jk jdp jun hret
  have hk9 : ∀ b, b = decide (ts.length = 4 ∧ ∀ x ∈ ts, 1 ≤ x ∧ x ≤ most) → Ret h₀ L m s Q (.bool b) news := fun b e => by subst e; exact hret
  refine wpAny_call ?_
  k_dflt (refine' enterS ?k1 ?k2 ?k3 ?k4 ?k5 ?kA ?kF ?kK ?k6 ?k7 ?k8 ?k9 ?kB ?_ ?c2 ?c3 ?c4 ?c5; (case kA => exact rfl); (case kF => exact rfl); (case kK => assumption); (case k1 => k_asm); (case k2 => k_asm); (case k3 => k_asm); (case k4 => k_asm); (case k5 => k_asm); (case k6 => k_is); (case k7 => k_is); (case k8 => ktr_room); (case k9 => exact BindsTo.of_eq rfl); (case c5 => decide); (case kB => exact locs rfl); (case c2 => exact rfl); (case c3 => exact rfl); (case c4 => exact rfl); k_whole; intro g' L' h' FG' F' N' B' X' T' D'; (try dsimp only); (try k_lift B'); (try k_fold))
  k_steps
  · exact hk9 _ (decide_eq_false fun q => by omega).symm _ _ (by assumption) (by assumption)
  unfold Hold
  rename Fr _ _ _ _ => lF'
  rename News _ _ _ _ => lN'
  with_unfolding_all refine' kst_listL (σ := Unit) (nn := n1) (vs := zs) (ns := ts) (fun _ => news) (fun _ => []) (fun _ => True) [] (fun pre _ => ∀ q ∈ pre, 1 ≤ q ∧ q ≤ most) () (by rfl) (fun _ => hT) hJ lF' ?kn ?kf ?kk ?kp ?_ ?_
  case kn => exact kst_newsOf lN' (fun p hp => hp)
  case kf => trivial
  case kk => kst_all
  case kp => exact fun _ h => nomatch h
  · clear lF' lN'
    intro c pre post k t u h tk own hts hmem hoff _ hP F N
    dsimp only [kstB] at F N hP ⊢
    try k_fold
    k_steps
    all_goals exact hk9 _ (decide_eq_false fun q => by have := q.2 k hmem; omega).symm _ _ (by assumption) (cb_drop (by assumption) fun p hp => List.mem_append_left _ hp)
  · clear lF' lN'
    intro c u h tk _ hP F N
    dsimp only [kstB] at F N hP ⊢
    try k_fold
    k_steps
    exact hk9 _ (decide_eq_true ⟨by omega, hP⟩).symm _ _ (by assumption) (by assumption)
end
local macro_rules | `(tactic| walk_at "call ref") => `(tactic| (k_here; (with_reducible show wpAny _ _ (call (Value.ref 124) _) _ _ _); k_dflt (
  refine' Calls0.use (c_let _ _ _ _ _ _ _ _ _ ?p0 ?p1 ?p2 ?p3 ?p4) ?k1 ?k2 ?k3 ?k4 ?k5 ?kXB ?kTB ?kK ?kd ?ku ?_
  (case k1 => k_asm)
  (case k2 => k_asm)
  (case k3 => k_asm)
  (case k4 => k_asm)
  (case k5 => k_asm)
  (case kXB => assumption)
  (case kTB => assumption)
  (case kK => first | exact rfl | assumption)
  (case p0 => k_mem)
  (case p1 => first | assumption | l_ints)
  (case p2 => first | omega | (simp only [List.length_cons, List.length_nil, List.length_append] <;> omega))
  (case p3 => omega)
  (case p4 => omega)
  (case kd => ktr_room)
  (case ku => ktr_units)
  (try dsimp only [Ret])
  intro  h' tk' F' N'
  (try dsimp only)
  (try k_sweep)
  (try k_fold))))
section
local macro_rules | `(tactic| walk_at "eval Name") => `(tactic| (k_here; k_dflt (refine' nameX_L ?F ?v ?_ ?a ?b; (case F => k_asm); (case a => rfl); (case b => rfl); (case v => assumption); k_whole)))
local macro_rules | `(tactic| walk_at "compareOp NotEq ref ref") => `(tactic| (k_here; (with_reducible show wpAny _ _ (compareOp CmpOp.NotEq (Value.ref _) (Value.ref _)) _ _ _); k_dflt (refine' ke_ne_ints ?k1 ?k2 ?k3 ?k4 ?k5 ?_; (case k1 => is_list); (case k2 => is_list); (case k3 => first | assumption | l_ints); (case k4 => first | assumption | l_ints); (case k5 => first | units_room | ktr_units); k_whole)))
local macro_rules | `(tactic| walk_at "exec Assign cons ListComp") => `(tactic| (k_here; refine Hold.out ?_))
local macro_rules | `(tactic| walk_at "CompSrc") => `(tactic| (k_here; refine Hold.out ?_))
set_option maxRecDepth 100000 in
set_option maxHeartbeats 8000000 in
theorem l2 (w : World) {oc : Value} {od an : Option Addr} {params : Arguments} {body : List Stmt} {scope : Scope} {dV kV doc pm cdv ct : Value} {osl : Array (Option Value)}
    (ho : (hd.heap_39 w.params).lookup 129 = some ⟨oc, od, .func (fnOf "law" "law" params body scope dV kV doc pm an cdv ct), osl⟩)
    {p : Program} {loose : List Str} {mean : ExcName → Option Value} {mg mb : Str → Option Value} {dp un : Nat} {gd : Option (List Code)} {a : Addr} {ccd : Value} {A₀ : Around} {h₀ : Heap} {L c1 c2 : Addr} {s : Shared} {Q : Flow → Shared → Prop} {m : Str → Option Value} {o1 o2 : Obj}
    (jB : Below A₀ h₀ [] h₀) (jX : (hd.heap_39 w.params).In h₀) (jT : Top p loose mean mg mb h₀) (jdp : dp + 40 < recursionLimit) (jun : un + 20 * 40 < cLine) (jc : @LT.lt Nat _ c1 c2) (jF : Fr h₀ L s.heap m)
    {U : Addr} {x y : Int} {tx ty : Tok} {n : Nat} (jx : 0 ≤ x) (jcU : @LT.lt Nat _ c2 U)
    {M : Int} {tM : Tok} (jd2 : o2.data = .cell (some (.int M tM))) (jM : 1 ≤ M) (jM' : M ≤ 65535) (jd1 : o1.data = .cell (some (.ref U)))
    (jN : News h₀ L s.heap [(U, listOf [Value.int x tx, Value.int y ty].toArray n), (c2, o2), (c1, o1)]) {g0 : Int} {tg : Tok} (jmany : m "many" = some (.int (1 + g0) tg)) (jg : 0 ≤ g0) (jg' : g0 < 3)
    (hnext : ∀ (B : Addr) (bvs : List Value) (bs : List Int) (x : Int) (tx : Tok) (y : Int) (ty : Tok) (n : Nat) (h' : Heap) (tk' : Nat), IntsAre bvs bs → (bs.length : Int) = 1 + g0 → (∀ z ∈ bs, 1 ≤ z ∧ z ≤ 120) → 0 ≤ x →
      Fr h₀ L h' (fun z => if z = "base" then some (.ref B) else m z) → News h₀ L h' [(B, listOf bvs.toArray bvs.length), (U, listOf [Value.int x tx, Value.int y ty].toArray n), (c2, o2), (c1, o1)] → ((@Ne Nat U B) ∧ (@Ne Nat c2 B) ∧ (@Ne Nat c1 B)) → wpAny (model PySem.Challenge.rw_pf0227_01.row.prog w) (ktrTop dp un gd "law" scope L a ccd [("most", c2), ("urn", c1)] []) (execs (body.drop 3) (envX "law" scope L a ccd [("most", c2), ("urn", c1)])) Q (fun _ _ => False) { s with heap := h', toks := tk' })
    : wpAny (model PySem.Challenge.rw_pf0227_01.row.prog w) (ktrTop dp un gd "law" scope L a ccd [("most", c2), ("urn", c1)] []) (execs (body.drop 2) (envX "law" scope L a ccd [("most", c2), ("urn", c1)])) Q (fun _ _ => False) s := by
  have hk := ho
  cases ho
  k_dflt (show wpAny _ _ (execs (_ :: _) _) _ _ _)
  k_steps
  unfold Hold
  k_dflt (refine LCg.Assign_ListComp_U (F₀ := by k_asm) (by rfl) (by with_unfolding_all rfl) (by with_unfolding_all rfl) (by decide) (by rfl) (by decide) (by rfl) (by rfl) (by rfl) ?_)
  k_steps
  unfold Hold
  rename IsRange _ _ _ _ _ _ _ _ => rgX
  rename Fr _ _ _ _ => lF'
  rename News _ _ _ _ => lN'
  k_dflt (refine LCg.CompSrc.range (by rfl) lF' lN' rgX (by exact small_one (by omega) (by omega) (by omega) (by omega)) (rangeSize_nat _ _) (by rw [PySem.sizeLine_eq]; omega) ?_)
  intro gz
  k_dflt (refine my_rest (fun z => 1 ≤ z ∧ z ≤ 120) (fun i v _ hv => ⟨_, hv⟩) ?turn ?fin x tx y ty n jx)
  case fin =>
    intro ys zs x₁ tx₁ y₁ ty₁ n₁ hz hl he hx D h tk F N off
    simp only [LCg.Off1, and_true] at off
    exact hnext D ys zs x₁ tx₁ y₁ ty₁ n₁ h tk hz (by omega) he hx F N off
  case turn =>
    clear lF' lN' rgX
    intro k t I oI C oC D m₂ ys h tk x₁ tx₁ y₁ ty₁ n₁ E' hx1 hC hx F N off ne
    simp only [LCg.Off3, and_true] at off
    k_steps
    exact ⟨_, _, _, _, _, _, _, rfl, ⟨by omega, by omega⟩, by assumption, rfl⟩
end
section
local macro_rules | `(tactic| walk_at "eval Name") => `(tactic| (k_here; k_dflt (refine' nameX_L ?F ?v ?_ ?a ?b; (case F => k_asm); (case a => rfl); (case b => rfl); (case v => assumption); k_whole)))
local macro_rules | `(tactic| walk_at "compareOp NotEq ref ref") => `(tactic| (k_here; (with_reducible show wpAny _ _ (compareOp CmpOp.NotEq (Value.ref _) (Value.ref _)) _ _ _); k_dflt (refine' ke_ne_ints ?k1 ?k2 ?k3 ?k4 ?k5 ?_; (case k1 => is_list); (case k2 => is_list); (case k3 => first | assumption | l_ints); (case k4 => first | assumption | l_ints); (case k5 => first | units_room | ktr_units); k_whole)))
local macro_rules | `(tactic| walk_at "exec Assign cons ListComp") => `(tactic| (k_here; refine Hold.out ?_))
local macro_rules | `(tactic| walk_at "CompSrc") => `(tactic| (k_here; refine Hold.out ?_))
local macro_rules | `(tactic| walk_at "CompEnd") => `(tactic| (refine Hold.out ?_))
set_option maxRecDepth 100000 in
set_option maxHeartbeats 8000000 in
theorem l3 (w : World) {oc : Value} {od an : Option Addr} {params : Arguments} {body : List Stmt} {scope : Scope} {dV kV doc pm cdv ct : Value} {osl : Array (Option Value)}
    (ho : (hd.heap_39 w.params).lookup 129 = some ⟨oc, od, .func (fnOf "law" "law" params body scope dV kV doc pm an cdv ct), osl⟩)
    {p : Program} {loose : List Str} {mean : ExcName → Option Value} {mg mb : Str → Option Value} {dp un : Nat} {gd : Option (List Code)} {a : Addr} {ccd : Value} {A₀ : Around} {h₀ : Heap} {L c1 c2 : Addr} {s : Shared} {Q : Flow → Shared → Prop} {m : Str → Option Value} {o1 o2 : Obj}
    (jB : Below A₀ h₀ [] h₀) (jX : (hd.heap_39 w.params).In h₀) (jT : Top p loose mean mg mb h₀) (jdp : dp + 40 < recursionLimit) (jun : un + 20 * 40 < cLine) (jc : @LT.lt Nat _ c1 c2) (jF : Fr h₀ L s.heap m)
    {U : Addr} {x y : Int} {tx ty : Tok} {n : Nat} (jx : 0 ≤ x) (jcU : @LT.lt Nat _ c2 U)
    {M : Int} {tM : Tok} (jd2 : o2.data = .cell (some (.int M tM))) (jM : 1 ≤ M) (jM' : M ≤ 65535) (jd1 : o1.data = .cell (some (.ref U)))
    {B : Addr} {bvs : List Value} {bs : List Int} {g0 : Int} {tg : Tok} (jmany : m "many" = some (.int (1 + g0) tg)) (jg : 0 ≤ g0) (jg' : g0 < 3) (jbase : m "base" = some (.ref B)) (jbI : IntsAre bvs bs) (jbl : (bs.length : Int) = 1 + g0) (jb1 : ∀ z ∈ bs, 1 ≤ z ∧ z ≤ 120) (jne : (@Ne Nat U B) ∧ (@Ne Nat c2 B) ∧ (@Ne Nat c1 B))
    (jN : News h₀ L s.heap [(B, listOf bvs.toArray bvs.length), (U, listOf [Value.int x tx, Value.int y ty].toArray n), (c2, o2), (c1, o1)])
    (hnext : ∀ (Tb : Addr) (tvs : List Value) (ts : List Int) (nt : Nat) (x : Int) (tx : Tok) (y : Int) (ty : Tok) (n : Nat) (h' : Heap) (tk' : Nat), IntsAre tvs ts → ts.length = bs.length → (∀ z ∈ ts, 1 ≤ z ∧ z ≤ 65535) → 0 ≤ x →
      Fr h₀ L h' (fun z => if z = "table" then some (.ref Tb) else m z) → News h₀ L h' [(Tb, listOf tvs.toArray nt), (B, listOf bvs.toArray bvs.length), (U, listOf [Value.int x tx, Value.int y ty].toArray n), (c2, o2), (c1, o1)] → ((@Ne Nat U Tb) ∧ (@Ne Nat B Tb) ∧ (@Ne Nat c2 Tb) ∧ (@Ne Nat c1 Tb)) → wpAny (model PySem.Challenge.rw_pf0227_01.row.prog w) (ktrTop dp un gd "law" scope L a ccd [("most", c2), ("urn", c1)] []) (execs (body.drop 4) (envX "law" scope L a ccd [("most", c2), ("urn", c1)])) Q (fun _ _ => False) { s with heap := h', toks := tk' })
    : wpAny (model PySem.Challenge.rw_pf0227_01.row.prog w) (ktrTop dp un gd "law" scope L a ccd [("most", c2), ("urn", c1)] []) (execs (body.drop 3) (envX "law" scope L a ccd [("most", c2), ("urn", c1)])) Q (fun _ _ => False) s := by
  have hk := ho
  cases ho
  k_dflt (show wpAny _ _ (execs (_ :: _) _) _ _ _)
  have jb8 : bs.length ≤ 8 := by omega
  k_dflt (refine stop1 ?_)
  k_steps
  · rename_i F9 N9 hi9 hl9 hs9
    exact Until.mk (hnext _ _ _ _ _ _ _ _ _ _ _ hi9 (hl9.trans (ownL_len ..)) (set_in (fun z hz => by have := ownL_in jM z hz; omega) ⟨by omega, by omega⟩) (by assumption) F9 N9 (by refine ⟨?_, ?_, ?_, ?_⟩ <;> omega))
  unfold Hold
  k_dflt (refine LCg.Assign_ListComp_U (F₀ := by k_asm) (by rfl) (by with_unfolding_all rfl) (by with_unfolding_all rfl) (by decide) (by rfl) (by decide) (by rfl) (by rfl) (by rfl) ?_)
  k_steps
  unfold Hold
  rename IsRange _ _ _ _ _ _ _ _ => rgX
  rename Fr _ _ _ _ => lF'
  rename News _ _ _ _ => lN'
  k_dflt (refine LCg.CompSrc.range (by rfl) lF' (swap2 lN') rgX (by exact small_one (by omega) (by omega) (by omega) (by omega)) (rangeSize_nat _ _) (by rw [PySem.sizeLine_eq]; omega) ?_)
  intro gz
  rename (0 ≤ _) => hx0
  k_dflt (refine my_rest (fun z => 1 ≤ z ∧ z ≤ 65535) (fun i v _ hv => ⟨_, hv⟩) ?turn ?fin _ _ _ _ _ hx0)
  case fin =>
    intro ys zs x₁ tx₁ y₁ ty₁ n₁ hz hl he hx D h tk F N off
    simp only [LCg.Off1, and_true] at off
    have N2 := swap23 N
    have hlz : zs.length = bs.length := by omega
    clear hl
    dsimp only
    k_steps
    exact Until.mk (hnext D ys zs ys.length x₁ tx₁ y₁ ty₁ n₁ h _ hz hlz he hx (by assumption) N2 off)
  case turn =>
    clear lF' lN' rgX
    intro k t I oI C oC D m₂ ys h tk x₁ tx₁ y₁ ty₁ n₁ E' hx1 hC hx F N off ne
    simp only [LCg.Off3, and_true] at off
    k_steps
    unfold Hold
    rename (_ < 2) => hlt2
    have hmz := (menu2 (a := 300) (b := 65535) (by omega) (by omega) (by omega) hlt2).2
    rename_i F9 N9
    refine LCg.CompEnd.intro F9 N9 ((U, urnObj _ _ _ _ _) :: (B, listOf bvs.toArray bvs.length) :: [(c2, o2), (c1, o1)]) (fun p hp => .tail _ hp) (by simp only [LCg.Off3, and_true]; exact off) trivial ⟨_, _, _, _, _, _, _, rfl, ⟨by omega, by omega⟩, by assumption, rfl⟩
end
section
local macro_rules | `(tactic| walk_at "eval Name") => `(tactic| (k_here; k_dflt (refine' nameX_L ?F ?v ?_ ?a ?b; (case F => k_asm); (case a => rfl); (case b => rfl); (case v => assumption); k_whole)))
local macro_rules | `(tactic| walk_at "compareOp NotEq ref ref") => `(tactic| (k_here; (with_reducible show wpAny _ _ (compareOp CmpOp.NotEq (Value.ref _) (Value.ref _)) _ _ _); k_dflt (refine' ke_ne_ints ?k1 ?k2 ?k3 ?k4 ?k5 ?_; (case k1 => is_list); (case k2 => is_list); (case k3 => first | assumption | l_ints); (case k4 => first | assumption | l_ints); (case k5 => first | units_room | ktr_units); k_whole)))
set_option maxRecDepth 100000 in
set_option maxHeartbeats 8000000 in
theorem l0 (w : World) {oc : Value} {od an : Option Addr} {params : Arguments} {body : List Stmt} {scope : Scope} {dV kV doc pm cdv ct : Value} {osl : Array (Option Value)}
    (ho : (hd.heap_39 w.params).lookup 129 = some ⟨oc, od, .func (fnOf "law" "law" params body scope dV kV doc pm an cdv ct), osl⟩)
    {p : Program} {loose : List Str} {mean : ExcName → Option Value} {mg mb : Str → Option Value} {dp un : Nat} {gd : Option (List Code)} {a : Addr} {ccd : Value} {A₀ : Around} {h₀ : Heap} {L c1 c2 : Addr} {s : Shared} {Q : Flow → Shared → Prop} {m : Str → Option Value} {o1 o2 : Obj}
    (jB : Below A₀ h₀ [] h₀) (jX : (hd.heap_39 w.params).In h₀) (jT : Top p loose mean mg mb h₀) (jdp : dp + 40 < recursionLimit) (jun : un + 20 * 40 < cLine) (jc : @LT.lt Nat _ c1 c2) (jF : Fr h₀ L s.heap m)
    {S : Addr} {vs : List Value} {ns : List Int} (jscript : m "script" = some (.ref S)) (jl : h₀.IsList S vs.toArray) (jI : IntsAre vs ns) (jlen : ns.length ≤ 63) (jd1 : o1.data = .cell none) (jN : News h₀ L s.heap [(c2, o2), (c1, o1)])
    (hnext : ∀ (U : Addr) (x : Int) (tx : Tok) (y : Int) (ty : Tok) (n : Nat) (o1 : Obj) (h' : Heap) (tk' : Nat), 0 ≤ x → o1.data = .cell (some (.ref U)) → Fr h₀ L h' m →
      News h₀ L h' [(U, listOf [Value.int x tx, Value.int y ty].toArray n), (c2, o2), (c1, o1)] → (@LT.lt Nat _ c2 U) → wpAny (model PySem.Challenge.rw_pf0227_01.row.prog w) (ktrTop dp un gd "law" scope L a ccd [("most", c2), ("urn", c1)] []) (execs (body.drop 1) (envX "law" scope L a ccd [("most", c2), ("urn", c1)])) Q (fun _ _ => False) { s with heap := h', toks := tk' })
    : wpAny (model PySem.Challenge.rw_pf0227_01.row.prog w) (ktrTop dp un gd "law" scope L a ccd [("most", c2), ("urn", c1)] []) (execs (body.drop 0) (envX "law" scope L a ccd [("most", c2), ("urn", c1)])) Q (fun _ _ => False) s := by
  have hk := ho
  cases ho
  k_dflt (show wpAny _ _ (execs (_ :: _) _) _ _ _)
  k_dflt (refine stop1 ?_)
  cases jI
  all_goals k_steps
  all_goals (
    rename_i F9 N9 d9
    exact Until.mk (hnext _ _ _ _ _ _ _ _ _ (by first | omega | (split <;> omega)) d9 F9 (drop2 N9) (by omega)))
end
section
local macro_rules | `(tactic| walk_at "eval Name") => `(tactic| (k_here; k_dflt (refine' nameX_L ?F ?v ?_ ?a ?b; (case F => k_asm); (case a => rfl); (case b => rfl); (case v => assumption); k_whole)))
local macro_rules | `(tactic| walk_at "compareOp NotEq ref ref") => `(tactic| (k_here; (with_reducible show wpAny _ _ (compareOp CmpOp.NotEq (Value.ref _) (Value.ref _)) _ _ _); k_dflt (refine' ke_ne_ints ?k1 ?k2 ?k3 ?k4 ?k5 ?_; (case k1 => is_list); (case k2 => is_list); (case k3 => first | assumption | l_ints); (case k4 => first | assumption | l_ints); (case k5 => first | units_room | ktr_units); k_whole)))
set_option maxRecDepth 100000 in
set_option maxHeartbeats 8000000 in
theorem l1 (w : World) {oc : Value} {od an : Option Addr} {params : Arguments} {body : List Stmt} {scope : Scope} {dV kV doc pm cdv ct : Value} {osl : Array (Option Value)}
    (ho : (hd.heap_39 w.params).lookup 129 = some ⟨oc, od, .func (fnOf "law" "law" params body scope dV kV doc pm an cdv ct), osl⟩)
    {p : Program} {loose : List Str} {mean : ExcName → Option Value} {mg mb : Str → Option Value} {dp un : Nat} {gd : Option (List Code)} {a : Addr} {ccd : Value} {A₀ : Around} {h₀ : Heap} {L c1 c2 : Addr} {s : Shared} {Q : Flow → Shared → Prop} {m : Str → Option Value} {o1 o2 : Obj}
    (jB : Below A₀ h₀ [] h₀) (jX : (hd.heap_39 w.params).In h₀) (jT : Top p loose mean mg mb h₀) (jdp : dp + 40 < recursionLimit) (jun : un + 20 * 40 < cLine) (jc : @LT.lt Nat _ c1 c2) (jF : Fr h₀ L s.heap m)
    {U : Addr} {x y : Int} {tx ty : Tok} {n : Nat} (jx : 0 ≤ x) (jcU : @LT.lt Nat _ c2 U)
    (jd1 : o1.data = .cell (some (.ref U))) (jd2 : o2.data = .cell none) (jN : News h₀ L s.heap [(U, listOf [Value.int x tx, Value.int y ty].toArray n), (c2, o2), (c1, o1)])
    (hnext : ∀ (g0 : Int) (tg : Tok) (M : Int) (tM : Tok) (x : Int) (tx : Tok) (y : Int) (ty : Tok) (n : Nat) (o2 : Obj) (h' : Heap) (tk' : Nat), 0 ≤ g0 → g0 < 3 → 1 ≤ M → M ≤ 65535 → 0 ≤ x → o2.data = .cell (some (.int M tM)) →
      Fr h₀ L h' (fun z => if z = "many" then some (.int (1 + g0) tg) else m z) → News h₀ L h' [(U, listOf [Value.int x tx, Value.int y ty].toArray n), (c2, o2), (c1, o1)] → wpAny (model PySem.Challenge.rw_pf0227_01.row.prog w) (ktrTop dp un gd "law" scope L a ccd [("most", c2), ("urn", c1)] []) (execs (body.drop 2) (envX "law" scope L a ccd [("most", c2), ("urn", c1)])) Q (fun _ _ => False) { s with heap := h', toks := tk' })
    : wpAny (model PySem.Challenge.rw_pf0227_01.row.prog w) (ktrTop dp un gd "law" scope L a ccd [("most", c2), ("urn", c1)] []) (execs (body.drop 1) (envX "law" scope L a ccd [("most", c2), ("urn", c1)])) Q (fun _ _ => False) s := by
  have hk := ho
  cases ho
  k_dflt (show wpAny _ _ (execs (_ :: _) _) _ _ _)
  k_dflt (refine stop1 ?_)
  k_steps
  rename (_ < 2) => hlt2
  rename (_ < 3) => hlt3
  have hmz := menu2 (a := 255) (b := 65535) (by omega) (by omega) (by omega) hlt2
  rename_i F9 N9 d9
  exact Until.mk (hnext _ _ _ _ _ _ _ _ _ _ _ _ (by omega) hlt3 hmz.1 hmz.2 (by assumption) d9 F9 (fun p hp => N9 p (.tail _ (.tail _ hp))))
end
section
local macro_rules | `(tactic| walk_at "eval Name") => `(tactic| (k_here; k_dflt (refine' nameX_L ?F ?v ?_ ?a ?b; (case F => k_asm); (case a => rfl); (case b => rfl); (case v => assumption); k_whole)))
local macro_rules | `(tactic| walk_at "compareOp NotEq ref ref") => `(tactic| (k_here; (with_reducible show wpAny _ _ (compareOp CmpOp.NotEq (Value.ref _) (Value.ref _)) _ _ _); k_dflt (refine' ke_ne_ints ?k1 ?k2 ?k3 ?k4 ?k5 ?_; (case k1 => is_list); (case k2 => is_list); (case k3 => first | assumption | l_ints); (case k4 => first | assumption | l_ints); (case k5 => first | units_room | ktr_units); k_whole)))
set_option maxRecDepth 100000 in
set_option maxHeartbeats 8000000 in
theorem l4 (w : World) {oc : Value} {od an : Option Addr} {params : Arguments} {body : List Stmt} {scope : Scope} {dV kV doc pm cdv ct : Value} {osl : Array (Option Value)}
    (ho : (hd.heap_39 w.params).lookup 129 = some ⟨oc, od, .func (fnOf "law" "law" params body scope dV kV doc pm an cdv ct), osl⟩)
    {p : Program} {loose : List Str} {mean : ExcName → Option Value} {mg mb : Str → Option Value} {dp un : Nat} {gd : Option (List Code)} {a : Addr} {ccd : Value} {A₀ : Around} {h₀ : Heap} {L c1 c2 : Addr} {s : Shared} {Q : Flow → Shared → Prop} {m : Str → Option Value} {o1 o2 : Obj}
    (jB : Below A₀ h₀ [] h₀) (jX : (hd.heap_39 w.params).In h₀) (jT : Top p loose mean mg mb h₀) (jdp : dp + 40 < recursionLimit) (jun : un + 20 * 40 < cLine) (jc : @LT.lt Nat _ c1 c2) (jF : Fr h₀ L s.heap m)
    {U : Addr} {x y : Int} {tx ty : Tok} {n : Nat} (jx : 0 ≤ x) (jcU : @LT.lt Nat _ c2 U)
    {M : Int} {tM : Tok} (jd2 : o2.data = .cell (some (.int M tM))) (jM : 1 ≤ M) (jM' : M ≤ 65535) (jd1 : o1.data = .cell (some (.ref U)))
    {B Tb : Addr} {bvs tvs : List Value} {bs ts : List Int} {nt : Nat} (jbase : m "base" = some (.ref B)) (jtab : m "table" = some (.ref Tb)) (jbI : IntsAre bvs bs) (jtI : IntsAre tvs ts) (jbl0 : 1 ≤ bs.length) (jbl : bs.length ≤ 3) (jtl : ts.length = bs.length) (jb1 : ∀ z ∈ bs, 1 ≤ z ∧ z ≤ 120) (jt1 : ∀ z ∈ ts, 1 ≤ z ∧ z ≤ 65535) (jne : (@Ne Nat U B) ∧ (@Ne Nat c2 B) ∧ (@Ne Nat c1 B)) (jnt : (@Ne Nat U Tb) ∧ (@Ne Nat B Tb) ∧ (@Ne Nat c2 Tb) ∧ (@Ne Nat c1 Tb))
    (jN : News h₀ L s.heap [(Tb, listOf tvs.toArray nt), (B, listOf bvs.toArray bvs.length), (U, listOf [Value.int x tx, Value.int y ty].toArray n), (c2, o2), (c1, o1)])
    (hnext : ∀ (h' : Heap) (tk' : Nat), Fr h₀ L h' (fun z => if z = "equal" then some Value.none else if z = "found" then some Value.none else if z = "best" then some Value.none else m z) → News h₀ L h' [(Tb, listOf tvs.toArray nt), (B, listOf bvs.toArray bvs.length), (U, listOf [Value.int x tx, Value.int y ty].toArray n), (c2, o2), (c1, o1)] → wpAny (model PySem.Challenge.rw_pf0227_01.row.prog w) (ktrTop dp un gd "law" scope L a ccd [("most", c2), ("urn", c1)] []) (execs (body.drop 5) (envX "law" scope L a ccd [("most", c2), ("urn", c1)])) Q (fun _ _ => False) { s with heap := h', toks := tk' })
    : wpAny (model PySem.Challenge.rw_pf0227_01.row.prog w) (ktrTop dp un gd "law" scope L a ccd [("most", c2), ("urn", c1)] []) (execs (body.drop 4) (envX "law" scope L a ccd [("most", c2), ("urn", c1)])) Q (fun _ _ => False) s := by
  have hk := ho
  cases ho
  k_dflt (show wpAny _ _ (execs (_ :: _) _) _ _ _)
  k_dflt (refine stop1 ?_)
  k_steps
  rename_i F9 N9
  exact Until.mk (hnext _ _ F9 (fun p hp => N9 p (.tail _ hp)))
end
/-- the law's own search: the best gap, its quality, the quality whose table it is -/
def lawStep (bs ts : List Int) (M : Int) (st : Option Int × Option Int × Option Int) (q : Int) : Option Int × Option Int × Option Int :=
  let g := gap (ownL bs q M) ts
  let e := if ownL bs q M = ts then some q else st.2.2
  match st.1 with
  | none => (some g, some q, e)
  | some b => if g ≤ b then (some g, some q, e) else (some b, st.2.1, e)
def lawF (bs ts : List Int) (M : Int) (pre : List Int) : Option Int × Option Int × Option Int := pre.foldl (lawStep bs ts M) (none, none, none)
theorem lawF_snoc (bs ts : List Int) (M : Int) (pre : List Int) (k : Int) : lawF bs ts M (pre ++ [k]) = lawStep bs ts M (lawF bs ts M pre) k := by
  rw [lawF, List.foldl_append]; rfl
theorem lawStep_none (bs ts : List Int) (M : Int) (f e : Option Int) (q : Int) : lawStep bs ts M (none, f, e) q = (some (gap (ownL bs q M) ts), some q, if ownL bs q M = ts then some q else e) := rfl
theorem lawStep_some (bs ts : List Int) (M b : Int) (f e : Option Int) (q : Int) : lawStep bs ts M (some b, f, e) q =
    if gap (ownL bs q M) ts ≤ b then (some (gap (ownL bs q M) ts), some q, if ownL bs q M = ts then some q else e) else (some b, f, if ownL bs q M = ts then some q else e) := rfl
theorem gap_zip : ∀ (as bs : List Int), (List.map (fun p : Int × Int => if p.2 - p.1 > p.1 - p.2 then p.2 - p.1 else p.1 - p.2) (as.zip bs)).sum = gap as bs
  | [], _ => rfl
  | _ :: _, [] => rfl
  | a :: as, b :: bs => by
    have ih := gap_zip as bs
    unfold gap at ih ⊢
    rw [List.zip_cons_cons, List.map_cons, List.sum_cons, List.zipWith_cons_cons, List.sum_cons, ih]
    congr 1
    dsimp only
    split <;> omega
theorem lv_none (t : Tok) : lv none t = .none := rfl
theorem lv_some (z : Int) (t : Tok) : lv (some z) t = .int z t := rfl
section
local macro_rules | `(tactic| walk_at "eval Name") => `(tactic| (k_here; k_dflt (refine' nameX_L ?F ?v ?_ ?a ?b; (case F => k_asm); (case a => rfl); (case b => rfl); (case v => assumption); k_whole)))
local macro_rules | `(tactic| walk_at "compareOp NotEq ref ref") => `(tactic| (k_here; (with_reducible show wpAny _ _ (compareOp CmpOp.NotEq (Value.ref _) (Value.ref _)) _ _ _); k_dflt (refine' ke_ne_ints ?k1 ?k2 ?k3 ?k4 ?k5 ?_; (case k1 => is_list); (case k2 => is_list); (case k3 => first | assumption | l_ints); (case k4 => first | assumption | l_ints); (case k5 => first | units_room | ktr_units); k_whole)))
local macro_rules | `(tactic| walk_at "exec Assign cons ListComp") => `(tactic| (k_here; refine Hold.out ?_))
local macro_rules | `(tactic| walk_at "CompSrc") => `(tactic| (k_here; refine Hold.out ?_))
local macro_rules | `(tactic| walk_at "exec For Name Call cons nil") => `(tactic| (k_here; (rename Fr _ _ _ _ => lF'); (with_unfolding_all refine' For_invVF lF' ?k1 ?k2 ?_; (case k1 => exact rfl); (case k2 => exact rfl); k_whole)))
local macro_rules | `(tactic| walk_at "exec For Name Name cons nil") => `(tactic| (k_here; (rename Fr _ _ _ _ => lF'); (with_unfolding_all refine' For_invVF lF' ?k1 ?k2 ?_; (case k1 => exact rfl); (case k2 => exact rfl); k_whole)))
local macro_rules | `(tactic| walk_at "pyIter ref") => `(tactic| (k_here; refine Hold.out ?_))
local macro_rules | `(tactic| walk_at "call type:zip") => `(tactic| (k_here; refine Hold.out ?_))
local macro_rules | `(tactic| walk_at "eval ListComp") => `(tactic| (k_here; refine Hold.out ?_))
set_option maxRecDepth 100000 in
set_option maxHeartbeats 8000000 in
theorem l5 (w : World) {oc : Value} {od an : Option Addr} {params : Arguments} {body : List Stmt} {scope : Scope} {dV kV doc pm cdv ct : Value} {osl : Array (Option Value)}
    (ho : (hd.heap_39 w.params).lookup 129 = some ⟨oc, od, .func (fnOf "law" "law" params body scope dV kV doc pm an cdv ct), osl⟩)
    {p : Program} {loose : List Str} {mean : ExcName → Option Value} {mg mb : Str → Option Value} {dp un : Nat} {gd : Option (List Code)} {a : Addr} {ccd : Value} {A₀ : Around} {h₀ : Heap} {L c1 c2 : Addr} {s : Shared} {Q : Flow → Shared → Prop} {m : Str → Option Value} {o1 o2 : Obj}
    (jB : Below A₀ h₀ [] h₀) (jX : (hd.heap_39 w.params).In h₀) (jT : Top p loose mean mg mb h₀) (jdp : dp + 40 < recursionLimit) (jun : un + 20 * 40 < cLine) (jc : @LT.lt Nat _ c1 c2) (jF : Fr h₀ L s.heap m)
    {U : Addr} {x y : Int} {tx ty : Tok} {n : Nat} (jx : 0 ≤ x) (jcU : @LT.lt Nat _ c2 U)
    {M : Int} {tM : Tok} (jd2 : o2.data = .cell (some (.int M tM))) (jM : 1 ≤ M) (jM' : M ≤ 65535) (jd1 : o1.data = .cell (some (.ref U)))
    {B Tb : Addr} {bvs tvs : List Value} {bs ts : List Int} {nt : Nat} (jbase : m "base" = some (.ref B)) (jtab : m "table" = some (.ref Tb)) (jbI : IntsAre bvs bs) (jtI : IntsAre tvs ts) (jbl0 : 1 ≤ bs.length) (jbl : bs.length ≤ 3) (jtl : ts.length = bs.length) (jb1 : ∀ z ∈ bs, 1 ≤ z ∧ z ≤ 120) (jt1 : ∀ z ∈ ts, 1 ≤ z ∧ z ≤ 65535) (jne : (@Ne Nat U B) ∧ (@Ne Nat c2 B) ∧ (@Ne Nat c1 B)) (jnt : (@Ne Nat U Tb) ∧ (@Ne Nat B Tb) ∧ (@Ne Nat c2 Tb) ∧ (@Ne Nat c1 Tb))
    (jN : News h₀ L s.heap [(Tb, listOf tvs.toArray nt), (B, listOf bvs.toArray bvs.length), (U, listOf [Value.int x tx, Value.int y ty].toArray n), (c2, o2), (c1, o1)])
    (jbest : m "best" = some .none) (jfound : m "found" = some .none) (jequal : m "equal" = some .none)
    (hnext : ∀ (h' : Heap) (tk' : Nat) (m' : Str → Option Value) (tf te : Tok), Fr h₀ L h' m' → News h₀ L h' [(Tb, listOf tvs.toArray nt), (B, listOf bvs.toArray bvs.length), (U, listOf [Value.int x tx, Value.int y ty].toArray n), (c2, o2), (c1, o1)] → m' "base" = some (.ref B) → m' "table" = some (.ref Tb) → m' "found" = some (lv (lawF bs ts M (rangeKs 1 100)).2.1 tf) → m' "equal" = some (lv (lawF bs ts M (rangeKs 1 100)).2.2 te) → wpAny (model PySem.Challenge.rw_pf0227_01.row.prog w) (ktrTop dp un gd "law" scope L a ccd [("most", c2), ("urn", c1)] []) (execs (body.drop 6) (envX "law" scope L a ccd [("most", c2), ("urn", c1)])) Q (fun _ _ => False) { s with heap := h', toks := tk' })
    : wpAny (model PySem.Challenge.rw_pf0227_01.row.prog w) (ktrTop dp un gd "law" scope L a ccd [("most", c2), ("urn", c1)] []) (execs (body.drop 5) (envX "law" scope L a ccd [("most", c2), ("urn", c1)])) Q (fun _ _ => False) s := by
  have hk := ho
  cases ho
  k_dflt (show wpAny _ _ (execs (_ :: _) _) _ _ _)
  k_dflt (refine stop1 ?_)
  with_unfolding_all refine' For_invVF jF ?k1 ?k2 ?_
  case k1 => exact rfl
  case k2 => exact rfl
  k_steps
  unfold Hold
  rename Fr _ _ _ _ => lF'
  rename News _ _ _ _ => lN'
  rename IsRange _ _ _ _ _ _ _ _ => rgX
  k_dflt (refine' kst_range (σ := (Option Int × Option Int × Option Int) × Tok × Tok × Tok) (n := 100) (fun _ => [(Tb, listOf tvs.toArray nt), (B, listOf bvs.toArray bvs.length), (U, listOf [Value.int x tx, Value.int y ty].toArray n), (c2, o2), (c1, o1)]) (fun c => [("best", lv c.1.1 c.2.1), ("found", lv c.1.2.1 c.2.2.1), ("equal", lv c.1.2.2 c.2.2.2)]) (fun _ => True) ["own", "gap"] (fun pre c => lawF bs ts M pre = c.1) ((none, none, none), 0, 0, 0) (by rfl) rgX (by decide) (by decide) lF' ?kn ?kf ?kk ?kp ?_ ?_)
  case kn => exact lN'
  case kf => trivial
  case kk =>
    intro p hp
    simp only [List.mem_cons, List.not_mem_nil, or_false] at hp
    rcases hp with rfl | rfl | rfl
    · exact jbest
    · exact jfound
    · exact jequal
  case kp => rfl
  · clear lF' lN'
    intro c pre k t u h tk own hk9 hlt hoff _ hP F N
    obtain ⟨⟨b, f, e⟩, tb, tf, te⟩ := c
    dsimp only [kstB] at F N hP ⊢
    have hk1 : 1 ≤ k := by omega
    have hk2 : k ≤ 100 := by omega
    have jb8 : bs.length ≤ 8 := by omega
    simp only [List.cons_append, List.nil_append] at N
    try k_fold
    k_steps
    unfold Hold
    rename Fr _ _ _ _ => lF'
    rename News _ _ _ _ => lN'
    rename (IntsAre _ (ownL _ _ _)) => hIo
    rename (IntsAre tvs _) => jtI
    k_dflt (refine zip_comp (g := fun p => if p.2 - p.1 > p.1 - p.2 then p.2 - p.1 else p.1 - p.2) lF' lN' (.head _) (.tail _ (.head _)) (by rfl) (by with_unfolding_all rfl) (by decide) (by rfl) (by decide) (by rfl) (by rfl) (by decide) (by intro _; rfl) ?iter hIo jtI ?len ?turn ?k)
    case len => rw [ownL_len]; omega
    case iter =>
      k_steps
      unfold Hold
      k_dflt (exact zip_of lF' lN' (.head _) (.tail _ (.head _)))
    case turn =>
      intro p t₁ t₂ C oC m₂ u nw E' Fu Nu hN h1 h2
      clear lF' lN'
      k_steps
      rename_i F9 N9
      exact ⟨_, _, _, rfl, rfl, F9, N9⟩
    case k =>
      clear lF' lN'
      intro D h' tk zs F N hltD hzs
      obtain ⟨gs, hgs⟩ : ∃ gs, gs = List.map (fun p : Int × Int => if p.2 - p.1 > p.1 - p.2 then p.2 - p.1 else p.1 - p.2) ((ownL bs k M).zip ts) := ⟨_, rfl⟩
      rw [← hgs] at hzs
      have hsum : gs.sum = gap (ownL bs k M) ts := by rw [hgs]; exact gap_zip _ _
      clear hgs
      cases b with
      | none =>
        simp only [lv_none] at F
        k_steps
        all_goals (
          rename Fr _ _ _ _ => F9
          rename News _ _ _ _ => N9
          first
          | refine kst_end ((some gs.sum, some k, some k), _, _, _) F9 N9 (fun p hp => ?_) (fun p hp => ?_) rfl trivial (by kst_all) (by kst_same) (by rw [lawF_snoc, hP, lawStep_none, ← hsum, if_pos (show ownL bs k M = ts by assumption)])
          | refine kst_end ((some gs.sum, some k, e), _, _, _) F9 N9 (fun p hp => ?_) (fun p hp => ?_) rfl trivial (by kst_all) (by kst_same) (by rw [lawF_snoc, hP, lawStep_none, ← hsum, if_neg (show ¬ ownL bs k M = ts by assumption)]))
        all_goals (repeat (first | exact hp | exact List.mem_append_left _ hp | apply List.mem_cons_of_mem))
      | some b =>
        simp only [lv_some] at F
        k_steps
        all_goals (
          rename Fr _ _ _ _ => F9
          rename News _ _ _ _ => N9
          first
          | refine kst_end ((some gs.sum, some k, some k), _, _, _) F9 N9 (fun p hp => ?_) (fun p hp => ?_) rfl trivial (by kst_all) (by kst_same) (by rw [lawF_snoc, hP, lawStep_some, ← hsum, if_pos (show gs.sum ≤ b by assumption), if_pos (show ownL bs k M = ts by assumption)])
          | refine kst_end ((some gs.sum, some k, e), _, _, _) F9 N9 (fun p hp => ?_) (fun p hp => ?_) rfl trivial (by kst_all) (by kst_same) (by rw [lawF_snoc, hP, lawStep_some, ← hsum, if_pos (show gs.sum ≤ b by assumption), if_neg (show ¬ ownL bs k M = ts by assumption)])
          | refine kst_end ((some b, f, some k), _, _, _) F9 N9 (fun p hp => ?_) (fun p hp => ?_) rfl trivial (by kst_all) (by kst_same) (by rw [lawF_snoc, hP, lawStep_some, ← hsum, if_neg (show ¬ gs.sum ≤ b by first | assumption | omega), if_pos (show ownL bs k M = ts by assumption)])
          | refine kst_end ((some b, f, e), _, _, _) F9 N9 (fun p hp => ?_) (fun p hp => ?_) rfl trivial (by kst_all) (by kst_same) (by rw [lawF_snoc, hP, lawStep_some, ← hsum, if_neg (show ¬ gs.sum ≤ b by first | assumption | omega), if_neg (show ¬ ownL bs k M = ts by assumption)]))
        all_goals (repeat (first | exact hp | exact List.mem_append_left _ hp | apply List.mem_cons_of_mem))
  · clear lF' lN'
    intro c u h tk _ hP F N
    obtain ⟨⟨b, f, e⟩, tb, tf, te⟩ := c
    have e1 : (lawF bs ts M (rangeKs 1 100)).2.1 = f := by rw [hP]
    have e2 : (lawF bs ts M (rangeKs 1 100)).2.2 = e := by rw [hP]
    k_dflt (refine Until.mk (hnext h tk _ tf te F N jbase jtab ?_ ?_))
    · rw [e1]; rfl
    · rw [e2]; rfl
end
theorem near_from (bs ts : List Int) (M : Int) : ∀ (xs : List Int) (b0 l0 : Int), xs.foldl (nearStep bs ts M) (b0, some l0) =
    match (nearF bs ts M xs).2 with
    | none => (b0, some l0)
    | some l => if l < l0 then ((nearF bs ts M xs).1, some l) else (b0, some l0)
  | [], b0, l0 => rfl
  | x :: xs, b0, l0 => by
    have e1 : nearF bs ts M (x :: xs) = xs.foldl (nearStep bs ts M) (x, some (gap (ownL bs x M) ts)) := rfl
    have e2 : (x :: xs).foldl (nearStep bs ts M) (b0, some l0) = xs.foldl (nearStep bs ts M) (if gap (ownL bs x M) ts < l0 then (x, some (gap (ownL bs x M) ts)) else (b0, some l0)) := rfl
    rw [e1, e2, near_from bs ts M xs x]
    split
    · rename_i h
      rw [near_from bs ts M xs x]
      cases h9 : (nearF bs ts M xs).2 with
      | none => dsimp only; rw [if_pos h]
      | some l =>
        dsimp only
        by_cases h1 : l < gap (ownL bs x M) ts
        · rw [if_pos h1]; dsimp only; rw [if_pos (by omega)]
        · rw [if_neg h1]; dsimp only; rw [if_pos h]
    · rename_i h
      rw [near_from bs ts M xs b0]
      cases h9 : (nearF bs ts M xs).2 with
      | none => dsimp only; rw [if_neg h]
      | some l =>
        dsimp only
        by_cases h1 : l < gap (ownL bs x M) ts
        · rw [if_pos h1]
        · rw [if_neg h1]; dsimp only; rw [if_neg h, if_neg (by omega)]
theorem near_up (bs ts : List Int) (M : Int) : ∀ (r : List Int) (k : Int), ∃ (b q : Int) (e : Option Int), lawF bs ts M (k :: r).reverse = (some b, some q, e) ∧ nearF bs ts M (k :: r) = (q, some b)
  | [], k => ⟨_, _, _, rfl, rfl⟩
  | j :: r, k => by
    obtain ⟨b, q, e, h1, h2⟩ := near_up bs ts M r j
    have e1 : nearF bs ts M (k :: j :: r) = (j :: r).foldl (nearStep bs ts M) (k, some (gap (ownL bs k M) ts)) := rfl
    rw [e1, near_from, List.reverse_cons, lawF_snoc, h1, h2, lawStep_some]
    dsimp only
    by_cases h : gap (ownL bs k M) ts ≤ b
    · rw [if_pos h, if_neg (show ¬ b < gap (ownL bs k M) ts by omega)]
      exact ⟨_, _, _, rfl, rfl⟩
    · rw [if_neg h, if_pos (show b < gap (ownL bs k M) ts by omega)]
      exact ⟨_, _, _, rfl, rfl⟩
theorem lawStep_e (bs ts : List Int) (M : Int) (st : Option Int × Option Int × Option Int) (q : Int) : (lawStep bs ts M st q).2.2 = if ownL bs q M = ts then some q else st.2.2 := by
  obtain ⟨b, f, e⟩ := st
  cases b with
  | none => rfl
  | some b =>
    rw [lawStep_some]
    dsimp only
    by_cases h : gap (ownL bs q M) ts ≤ b
    · rw [if_pos h]
    · rw [if_neg h]
theorem qual_up (bs ts : List Int) (M : Int) : ∀ r : List Int, (lawF bs ts M r.reverse).2.2 = r.find? fun q => decide (ownL bs q M = ts)
  | [] => rfl
  | k :: r => by
    rw [List.reverse_cons, lawF_snoc, lawStep_e, qual_up bs ts M r]
    by_cases h : ownL bs k M = ts
    · rw [if_pos h, List.find?_cons_of_pos (by exact decide_eq_true h)]
    · rw [if_neg h, List.find?_cons_of_neg (by simpa using h)]
theorem down_up : rangeKs 1 100 = (downKs 100 100).reverse := by decide +kernel
theorem near_law (bs ts : List Int) (M : Int) : (lawF bs ts M (rangeKs 1 100)).2.1 = some (nearF bs ts M (downKs 100 100)).1 := by
  have e : downKs 100 100 = 100 :: downKs 99 99 := by decide +kernel
  rw [down_up, e]
  obtain ⟨b, q, e, h1, h2⟩ := near_up bs ts M (downKs 99 99) 100
  rw [h1, h2]
theorem qual_law (bs ts : List Int) (M : Int) : (lawF bs ts M (rangeKs 1 100)).2.2 = qualF bs ts M := by
  rw [down_up, qual_up]; rfl
theorem zipWith_long {f : Int → Int → Int} : ∀ (as bs cs : List Int), as.length ≤ bs.length → List.zipWith f as (bs ++ cs) = List.zipWith f as bs
  | [], _, _, _ => by simp
  | _ :: _, [], _, h => absurd h (by simp)
  | a :: as, b :: bs, cs, h => by
    rw [List.cons_append, List.zipWith_cons_cons, List.zipWith_cons_cons, zipWith_long as bs cs (by simpa using h)]
theorem near_long {bs ts : List Int} {M g : Int} (h : bs.length ≤ ts.length) (l : List Int) : nearF bs (ts ++ [g]) M l = nearF bs ts M l := by
  have e : nearStep bs (ts ++ [g]) M = nearStep bs ts M := by
    funext st q
    have e1 : gap (ownL bs q M) (ts ++ [g]) = gap (ownL bs q M) ts := by
      unfold gap
      rw [zipWith_long _ _ _ (by rw [ownL_len]; exact h)]
    unfold nearStep
    rw [e1]
  unfold nearF
  rw [e]
theorem qual_off {bs ts : List Int} {M : Int} (h : bs.length ≠ ts.length) : qualF bs ts M = none :=
  List.find?_eq_none.mpr fun q _ hq => h (by
    have e := congrArg List.length (of_decide_eq_true hq)
    rw [ownL_len] at e
    exact e)
theorem c_nearV (w : World) (T B : Addr) (vs zs : List Value) (ns ts : List Int) (n1 n2 : Nat) (most : Int) (tm : Tok) (v : Int) (news : Ledger) (hT : (T, tupOf zs.toArray n1) ∈ news) (hB : (B, listOf vs.toArray n2) ∈ news) (hI : IntsAre vs ns) (hJ : IntsAre zs ts) (hl : ns.length ≤ 8) (hle : ns.length ≤ ts.length) (hl' : ts.length ≤ 9) (hm : 1 ≤ most) (hm' : most ≤ 65535) (hv : (nearF ns ts most (downKs 100 100)).1 = v) :
    Calls w 15 98 [.ref T, .ref B, .int most tm] news (fun K => ∀ (t : Tok), K (.int v t) news) := by
  subst hv
  exact c_near w T B vs zs ns ts n1 n2 most tm news hT hB hI hJ hl hle hl' hm hm'
theorem c_qualVL (w : World) (T B : Addr) (vs zs : List Value) (ns ts : List Int) (n1 n2 : Nat) (most : Int) (tm : Tok) (o : Option Int) (news : Ledger) (hT : (T, listOf zs.toArray n1) ∈ news) (hB : (B, listOf vs.toArray n2) ∈ news) (hI : IntsAre vs ns) (hJ : IntsAre zs ts) (hl : ns.length ≤ 8) (hl' : ts.length ≤ 9) (hm : 1 ≤ most) (hm' : most ≤ 65535) (hv : qualF ns ts most = o) :
    Calls w 15 86 [.ref T, .ref B, .int most tm] news (fun K => ∀ (t : Tok), K (lv o t) news) := by
  subst hv
  exact c_qualL w T B vs zs ns ts n1 n2 most tm news hT hB hI hJ hl hl' hm hm'
theorem c_qualVT (w : World) (T B : Addr) (vs zs : List Value) (ns ts : List Int) (n1 n2 : Nat) (most : Int) (tm : Tok) (o : Option Int) (news : Ledger) (hT : (T, tupOf zs.toArray n1) ∈ news) (hB : (B, listOf vs.toArray n2) ∈ news) (hI : IntsAre vs ns) (hJ : IntsAre zs ts) (hl : ns.length ≤ 8) (hl' : ts.length ≤ 9) (hm : 1 ≤ most) (hm' : most ≤ 65535) (hv : qualF ns ts most = o) :
    Calls w 15 86 [.ref T, .ref B, .int most tm] news (fun K => ∀ (t : Tok), K (lv o t) news) := by
  subst hv
  exact c_qualT w T B vs zs ns ts n1 n2 most tm news hT hB hI hJ hl hl' hm hm'
local macro_rules | `(tactic| walk_at "call ref") => `(tactic| (k_here; (with_reducible show wpAny _ _ (call (Value.ref 98) _) _ _ _); k_dflt (
  refine' Calls.use (c_nearV _ _ _ _ _ _ _ _ _ _ _ _ _ ?p0 ?p1 ?p2 ?p3 ?p4 ?p5 ?p6 ?p7 ?p8 ?p9) ?k1 ?k2 ?k3 ?k4 ?k5 ?kK ?kd ?ku ?_
  (case k1 => k_asm)
  (case k2 => k_asm)
  (case k3 => k_asm)
  (case k4 => k_asm)
  (case k5 => k_asm)
  (case kK => first | exact rfl | assumption)
  (case p0 => k_mem)
  (case p1 => k_mem)
  (case p2 => first | assumption | l_ints)
  (case p3 => first | assumption | l_ints)
  (case p4 => first | omega | (simp only [List.length_cons, List.length_nil] <;> omega))
  (case p5 => first | omega | (simp only [List.length_cons, List.length_nil, List.length_append] <;> omega))
  (case p6 => first | omega | (simp only [List.length_cons, List.length_nil, List.length_append] <;> omega))
  (case p7 => omega)
  (case p8 => omega)
  (case p9 => assumption)
  (case kd => ktr_room)
  (case ku => ktr_units)
  (try dsimp only [Ret])
  intro t' h' tk' F' N'
  (try dsimp only)
  (try k_sweep)
  (try k_fold))))
local macro_rules | `(tactic| walk_at "call ref") => `(tactic| (k_here; (with_reducible show wpAny _ _ (call (Value.ref 86) _) _ _ _); k_dflt (
  refine' Calls.use (c_qualVT _ _ _ _ _ _ _ _ _ _ _ _ _ ?p0 ?p1 ?p2 ?p3 ?p4 ?p5 ?p6 ?p7 ?p8) ?k1 ?k2 ?k3 ?k4 ?k5 ?kK ?kd ?ku ?_
  (case k1 => k_asm)
  (case k2 => k_asm)
  (case k3 => k_asm)
  (case k4 => k_asm)
  (case k5 => k_asm)
  (case kK => first | exact rfl | assumption)
  (case p0 => k_mem)
  (case p1 => k_mem)
  (case p2 => first | assumption | l_ints)
  (case p3 => first | assumption | l_ints)
  (case p4 => first | omega | (simp only [List.length_cons, List.length_nil] <;> omega))
  (case p5 => first | omega | (simp only [List.length_cons, List.length_nil, List.length_append] <;> omega))
  (case p6 => omega)
  (case p7 => omega)
  (case p8 => assumption)
  (case kd => ktr_room)
  (case ku => ktr_units)
  (try dsimp only [Ret])
  intro t' h' tk' F' N'
  (try simp only [lv_none, lv_some])
  (try dsimp only)
  (try k_sweep)
  (try k_fold))))
local macro_rules | `(tactic| walk_at "call ref") => `(tactic| (k_here; (with_reducible show wpAny _ _ (call (Value.ref 86) _) _ _ _); k_dflt (
  refine' Calls.use (c_qualVL _ _ _ _ _ _ _ _ _ _ _ _ _ ?p0 ?p1 ?p2 ?p3 ?p4 ?p5 ?p6 ?p7 ?p8) ?k1 ?k2 ?k3 ?k4 ?k5 ?kK ?kd ?ku ?_
  (case k1 => k_asm)
  (case k2 => k_asm)
  (case k3 => k_asm)
  (case k4 => k_asm)
  (case k5 => k_asm)
  (case kK => first | exact rfl | assumption)
  (case p0 => k_mem)
  (case p1 => k_mem)
  (case p2 => first | assumption | l_ints)
  (case p3 => first | assumption | l_ints)
  (case p4 => first | omega | (simp only [List.length_cons, List.length_nil] <;> omega))
  (case p5 => first | omega | (simp only [List.length_cons, List.length_nil, List.length_append] <;> omega))
  (case p6 => omega)
  (case p7 => omega)
  (case p8 => assumption)
  (case kd => ktr_room)
  (case ku => ktr_units)
  (try dsimp only [Ret])
  intro t' h' tk' F' N'
  (try simp only [lv_none, lv_some])
  (try dsimp only)
  (try k_sweep)
  (try k_fold))))
theorem news_sub {h₀ h : Heap} {L : Addr} {l₁ l₂ : Ledger} (N : News h₀ L h l₂) (S : List.Sublist l₁ l₂) : News h₀ L h l₁ := fun p hp => N p (S.subset hp)
theorem sq_len {ts : List Int} (h : 1 ≤ ts.length) : (List.take 4 (List.replicate 4 ts).flatten).length = 4 := by
  simp [List.length_take]
  omega
theorem sq_in {ts : List Int} {P : Int → Prop} (h : ∀ z ∈ ts, P z) : ∀ z ∈ List.take 4 (List.replicate 4 ts).flatten, P z := fun z hz => by
  obtain ⟨l, hl, hz⟩ := List.mem_flatten.mp (List.mem_of_mem_take hz)
  rw [List.eq_of_mem_replicate hl] at hz
  exact h z hz
theorem fit_is {sq : List Int} {M : Int} {inst : Decidable (List.filter (fun z => decide (z > M)) sq = [])} : @decide (List.filter (fun z => decide (z > M)) sq = []) inst = decide (∀ z ∈ sq, z ≤ M) := by
  refine decide_eq_decide.mpr ?_
  rw [List.filter_eq_nil_iff]
  constructor
  · intro h z hz
    have := h z hz
    simp only [decide_eq_true_eq] at this
    omega
  · intro h z hz
    have := h z hz
    simp only [decide_eq_true_eq]
    omega
section
variable {prog : Program} {w : World} {A : Around} {h₀ : Heap} {L : Addr} {m : Str → Option Value} {env : Env} {ct elt : Expr} {x : Str} {scope : Scope} {cl : List (Str × Addr)} {s : Shared} {S : List (Addr × Obj) → Prop} {Fin : List Value → Ledger → Prop} {news : Ledger}
theorem my_restT {vs : List Value} {ns : List Int} (hI : IntsAre vs ns) (p : Int → Bool)
    (turn : ∀ k t I oI C oC D m₂ ys h tk (E' : Value → Shared → Prop), LCg.NsObj oC m₂ → m₂ x = some (.int k t) → Fr h₀ L h m → News h₀ L h ((I, oI) :: (C, oC) :: (D, LCg.lst ys) :: news) → LCg.Off3 I C D news → ((@Ne Nat I C) ∧ (@Ne Nat I D) ∧ (@Ne Nat C D)) →
      wpAny (model prog w) A (isTrue ct (compEnvC scope cl C env) (eval ct (compEnvC scope cl C env))) (fun ok s' => if ok = true then
        wpAny (model prog w) A (eval elt (compEnvC scope cl C env)) (LCg.CompEnd h₀ L m { s with heap := h, toks := tk } I oI C oC D (LCg.lst ys) S (fun y news' => p k = true ∧ (∃ t', y = .int k t') ∧ news' = news)) E' s'
        else LCg.CompEnd h₀ L m { s with heap := h, toks := tk } I oI C oC D (LCg.lst ys) S (fun _ news' => p k = false ∧ news' = news) Value.none s') E' { s with heap := h, toks := tk })
    (fin : ∀ ys, IntsAre ys (ns.filter p) → Fin ys news) :
    LCt.CompRestT prog w A h₀ L m env ct elt x scope cl s S (fun i v => vs.toArray[i]? = some v) Fin vs.toArray.size 0 [] news := by
  have hlen : vs.toArray.size = ns.length := by rw [List.size_toArray]; exact hI.length
  have key : ∀ (j i : Nat) (ys : List Value) (zs : List Int), i + j = ns.length → IntsAre ys zs → zs = (ns.take i).filter p → LCt.CompRestT prog w A h₀ L m env ct elt x scope cl s S (fun i v => vs.toArray[i]? = some v) Fin j i ys news := by
    intro j
    induction j with
    | zero =>
      intro i ys zs hi hy hz
      refine LCt.CompRestT.zero (fin ys ?_)
      rw [List.take_of_length_le (by omega)] at hz
      rw [← hz]
      exact hy
    | succ j ih =>
      intro i ys zs hi hy hz
      refine LCt.CompRestT.succ ?_
      intro v I oI C oC D m₂ h tk E' hv hC hx F N off ne
      obtain ⟨t, ht⟩ := hI.get i ns[i] (List.getElem?_eq_getElem (by omega))
      have e : v = .int ns[i] t := by
        have hv' : vs[i]? = some v := by simpa using hv
        rw [ht] at hv'
        exact (Option.some.inj hv').symm
      subst e
      have ht1 : ns.take (i + 1) = ns.take i ++ [ns[i]] := by rw [List.take_add_one, List.getElem?_eq_getElem (by omega)]; rfl
      refine wpAny_mono (turn _ t I oI C oC D m₂ ys h tk E' hC hx F N off ne) (fun ok s₂ hq => ?_) fun _ _ e => e
      by_cases hok : ok = true
      · rw [if_pos hok] at hq ⊢
        refine wpAny_mono hq (fun y s₃ hq => ?_) fun _ _ e => e
        obtain ⟨h', tk', nw, e, F', N', off', hS, hp, ⟨t', hy'⟩, hn⟩ := hq
        subst hn hy'
        refine ⟨h', tk', _, e, F', N', off', hS, ih (i + 1) _ (zs ++ [ns[i]]) (by omega) (IntsAre.append hy (.cons _ t' .nil)) ?_⟩
        rw [ht1, List.filter_append, ← hz, List.filter_cons_of_pos hp]; rfl
      · rw [if_neg hok] at hq ⊢
        obtain ⟨h', tk', nw, e, F', N', off', hS, hp, hn⟩ := hq
        subst hn
        refine ⟨h', tk', _, e, F', N', off', hS, ih (i + 1) _ zs (by omega) hy ?_⟩
        rw [ht1, List.filter_append, ← hz, List.filter_cons_of_neg (by rw [hp]; exact Bool.false_ne_true)]
        simp
  rw [hlen]
  exact key ns.length 0 [] [] (by omega) .nil (by simp)
end
theorem c_letV (w : World) (T : Addr) (zs : List Value) (ts : List Int) (n1 : Nat) (t2 tm : Tok) (most : Int) (b : Bool) (news : Ledger) (hT : (T, listOf zs.toArray n1) ∈ news) (hJ : IntsAre zs ts) (hl' : ts.length ≤ 9) (hm : 1 ≤ most) (hm' : most ≤ 65535) (hv : decide (ts.length = 4 ∧ ∀ x ∈ ts, 1 ≤ x ∧ x ≤ most) = b) :
    Calls0 w 20 124 [.ref T, .int 2 t2, .int most tm] news (fun K => K (.bool b) news) := by
  subst hv
  exact c_let w T zs ts n1 t2 tm most news hT hJ hl' hm hm'
theorem let_len {ts : List Int} {M : Int} (h : ts.length ≠ 4) : decide (ts.length = 4 ∧ ∀ x ∈ ts, 1 ≤ x ∧ x ≤ M) = false := decide_eq_false fun q => h q.1
theorem let_head {ts : List Int} {z M : Int} (h : ¬ (1 ≤ z ∧ z ≤ M)) : decide ((z :: ts).length = 4 ∧ ∀ x ∈ z :: ts, 1 ≤ x ∧ x ≤ M) = false := decide_eq_false fun q => h (q.2 z (.head _))
theorem let_zero {ts : List Int} {z M : Int} (h : ¬ (1 ≤ z ∧ z ≤ M)) : decide (([z] ++ ts).length = 4 ∧ ∀ x ∈ [z] ++ ts, 1 ≤ x ∧ x ≤ M) = false := decide_eq_false fun q => h (q.2 z (.head _))
theorem c_letF (w : World) (T : Addr) (zs : List Value) (ts : List Int) (n1 : Nat) (t2 tm : Tok) (most : Int) (news : Ledger) (hT : (T, listOf zs.toArray n1) ∈ news) (hJ : IntsAre zs ts) (hl' : ts.length ≤ 9) (hm : 1 ≤ most) (hm' : most ≤ 65535) (hv : decide (ts.length = 4 ∧ ∀ x ∈ ts, 1 ≤ x ∧ x ≤ most) = false) :
    Calls0 w 20 124 [.ref T, .int 2 t2, .int most tm] news (fun K => K (.bool false) news) := by
  rw [← hv]
  exact c_let w T zs ts n1 t2 tm most news hT hJ hl' hm hm'
local macro_rules | `(tactic| walk_at "call ref") => `(tactic| (k_here; (with_reducible show wpAny _ _ (call (Value.ref 124) _) _ _ _); k_dflt (
  refine' Calls0.use (c_letV _ _ _ _ _ _ _ _ _ _ ?p0 ?p1 ?p2 ?p3 ?p4 ?p5) ?k1 ?k2 ?k3 ?k4 ?k5 ?kXB ?kTB ?kK ?kd ?ku ?_
  (case k1 => k_asm)
  (case k2 => k_asm)
  (case k3 => k_asm)
  (case k4 => k_asm)
  (case k5 => k_asm)
  (case kXB => assumption)
  (case kTB => assumption)
  (case kK => first | exact rfl | assumption)
  (case p0 => k_mem)
  (case p1 => first | assumption | l_ints)
  (case p2 => first | omega | (simp only [List.length_cons, List.length_nil, List.length_append, List.length_drop] <;> omega))
  (case p3 => omega)
  (case p4 => omega)
  (case p5 => assumption)
  (case kd => ktr_room)
  (case ku => ktr_units)
  (try dsimp only [Ret])
  intro  h' tk' F' N'
  (try dsimp only)
  (try k_sweep)
  (try k_fold))))
local macro_rules | `(tactic| walk_at "call ref") => `(tactic| (k_here; (with_reducible show wpAny _ _ (call (Value.ref 124) _) _ _ _); k_dflt (
  refine' Calls0.use (c_letF _ _ _ _ _ _ _ _ _ ?p0 ?p1 ?p2 ?p3 ?p4 ?p5) ?k1 ?k2 ?k3 ?k4 ?k5 ?kXB ?kTB ?kK ?kd ?ku ?_
  (case k1 => k_asm)
  (case k2 => k_asm)
  (case k3 => k_asm)
  (case k4 => k_asm)
  (case k5 => k_asm)
  (case kXB => assumption)
  (case kTB => assumption)
  (case kK => first | exact rfl | assumption)
  (case p0 => k_mem)
  (case p1 => first | assumption | l_ints | exact .cons _ _ (.cons _ _ (.cons _ _ (.cons _ _ .nil))))
  (case p2 => first | omega | (simp only [List.length_cons, List.length_nil, List.length_append, List.length_drop] <;> omega))
  (case p3 => omega)
  (case p4 => omega)
  (case p5 => (refine decide_eq_false ?_; rintro ⟨hq1, hq2⟩; first | ((simp only [List.length_cons, List.length_nil, List.length_append, List.length_drop] at hq1) <;> omega) | (have hq3 := hq2 _ (.head _); omega)))
  (case kd => ktr_room)
  (case ku => ktr_units)
  (try dsimp only [Ret])
  intro  h' tk' F' N'
  (try dsimp only)
  (try k_sweep)
  (try k_fold))))
section
local macro_rules | `(tactic| walk_at "eval Name") => `(tactic| (k_here; k_dflt (refine' nameX_L ?F ?v ?_ ?a ?b; (case F => k_asm); (case a => rfl); (case b => rfl); (case v => assumption); k_whole)))
local macro_rules | `(tactic| walk_at "compareOp NotEq ref ref") => `(tactic| (k_here; (with_reducible show wpAny _ _ (compareOp CmpOp.NotEq (Value.ref _) (Value.ref _)) _ _ _); k_dflt (refine' ke_ne_ints ?k1 ?k2 ?k3 ?k4 ?k5 ?_; (case k1 => is_list); (case k2 => is_list); (case k3 => first | assumption | l_ints); (case k4 => first | assumption | l_ints); (case k5 => first | units_room | ktr_units); k_whole)))
set_option maxRecDepth 100000 in
set_option maxHeartbeats 8000000 in
theorem l6 (w : World) {oc : Value} {od an : Option Addr} {params : Arguments} {body : List Stmt} {scope : Scope} {dV kV doc pm cdv ct : Value} {osl : Array (Option Value)}
    (ho : (hd.heap_39 w.params).lookup 129 = some ⟨oc, od, .func (fnOf "law" "law" params body scope dV kV doc pm an cdv ct), osl⟩)
    {p : Program} {loose : List Str} {mean : ExcName → Option Value} {mg mb : Str → Option Value} {dp un : Nat} {gd : Option (List Code)} {a : Addr} {ccd : Value} {A₀ : Around} {h₀ : Heap} {L c1 c2 : Addr} {s : Shared} {Q : Flow → Shared → Prop} {m : Str → Option Value} {o1 o2 : Obj}
    (jB : Below A₀ h₀ [] h₀) (jX : (hd.heap_39 w.params).In h₀) (jT : Top p loose mean mg mb h₀) (jdp : dp + 40 < recursionLimit) (jun : un + 20 * 40 < cLine) (jc : @LT.lt Nat _ c1 c2) (jF : Fr h₀ L s.heap m)
    {U : Addr} {x y : Int} {tx ty : Tok} {n : Nat} (jx : 0 ≤ x) (jcU : @LT.lt Nat _ c2 U)
    {M : Int} {tM : Tok} (jd2 : o2.data = .cell (some (.int M tM))) (jM : 1 ≤ M) (jM' : M ≤ 65535) (jd1 : o1.data = .cell (some (.ref U)))
    {B Tb : Addr} {bvs tvs : List Value} {bs ts : List Int} {nt : Nat} (jbase : m "base" = some (.ref B)) (jtab : m "table" = some (.ref Tb)) (jbI : IntsAre bvs bs) (jtI : IntsAre tvs ts) (jbl0 : 1 ≤ bs.length) (jbl : bs.length ≤ 3) (jtl : ts.length = bs.length) (jb1 : ∀ z ∈ bs, 1 ≤ z ∧ z ≤ 120) (jt1 : ∀ z ∈ ts, 1 ≤ z ∧ z ≤ 65535) (jne : (@Ne Nat U B) ∧ (@Ne Nat c2 B) ∧ (@Ne Nat c1 B)) (jnt : (@Ne Nat U Tb) ∧ (@Ne Nat B Tb) ∧ (@Ne Nat c2 Tb) ∧ (@Ne Nat c1 Tb))
    (jN : News h₀ L s.heap [(Tb, listOf tvs.toArray nt), (B, listOf bvs.toArray bvs.length), (U, listOf [Value.int x tx, Value.int y ty].toArray n), (c2, o2), (c1, o1)])
    (hnext : ∀ (Lo : Addr) (lvs : List Value) (g : Int) (h' : Heap) (tk' : Nat), IntsAre lvs (ts ++ [g]) → Fr h₀ L h' (fun z => if z = "longer" then some (.ref Lo) else m z) → News h₀ L h' [(Lo, tupOf lvs.toArray 0), (Tb, listOf tvs.toArray nt), (B, listOf bvs.toArray bvs.length), (c2, o2)] → wpAny (model PySem.Challenge.rw_pf0227_01.row.prog w) (ktrTop dp un gd "law" scope L a ccd [("most", c2), ("urn", c1)] []) (execs (body.drop 7) (envX "law" scope L a ccd [("most", c2), ("urn", c1)])) Q (fun _ _ => False) { s with heap := h', toks := tk' })
    : wpAny (model PySem.Challenge.rw_pf0227_01.row.prog w) (ktrTop dp un gd "law" scope L a ccd [("most", c2), ("urn", c1)] []) (execs (body.drop 6) (envX "law" scope L a ccd [("most", c2), ("urn", c1)])) Q (fun _ _ => False) s := by
  have hk := ho
  cases ho
  k_dflt (show wpAny _ _ (execs (_ :: _) _) _ _ _)
  k_dflt (refine stop1 ?_)
  k_steps
  rename Fr _ _ _ _ => F9
  rename News _ _ _ _ => N9
  rename (IntsAre _ (_ ++ _)) => I9
  refine Until.mk (hnext _ _ _ _ _ I9 F9 (news_sub N9 ?ks))
  case ks => (repeat (first | exact List.Sublist.slnil | with_reducible apply List.Sublist.cons₂ | apply List.Sublist.cons))
end
section
local macro_rules | `(tactic| walk_at "eval Name") => `(tactic| (k_here; k_dflt (refine' nameX_L ?F ?v ?_ ?a ?b; (case F => k_asm); (case a => rfl); (case b => rfl); (case v => assumption); k_whole)))
local macro_rules | `(tactic| walk_at "compareOp NotEq ref ref") => `(tactic| (k_here; (with_reducible show wpAny _ _ (compareOp CmpOp.NotEq (Value.ref _) (Value.ref _)) _ _ _); k_dflt (refine' ke_ne_ints ?k1 ?k2 ?k3 ?k4 ?k5 ?_; (case k1 => is_list); (case k2 => is_list); (case k3 => first | assumption | l_ints); (case k4 => first | assumption | l_ints); (case k5 => first | units_room | ktr_units); k_whole)))
set_option maxRecDepth 100000 in
set_option maxHeartbeats 8000000 in
theorem l7 (w : World) {oc : Value} {od an : Option Addr} {params : Arguments} {body : List Stmt} {scope : Scope} {dV kV doc pm cdv ct : Value} {osl : Array (Option Value)}
    (ho : (hd.heap_39 w.params).lookup 129 = some ⟨oc, od, .func (fnOf "law" "law" params body scope dV kV doc pm an cdv ct), osl⟩)
    {p : Program} {loose : List Str} {mean : ExcName → Option Value} {mg mb : Str → Option Value} {dp un : Nat} {gd : Option (List Code)} {a : Addr} {ccd : Value} {A₀ : Around} {h₀ : Heap} {L c1 c2 : Addr} {s : Shared} {Q : Flow → Shared → Prop} {m : Str → Option Value} {o1 o2 : Obj}
    (jB : Below A₀ h₀ [] h₀) (jX : (hd.heap_39 w.params).In h₀) (jT : Top p loose mean mg mb h₀) (jdp : dp + 40 < recursionLimit) (jun : un + 20 * 40 < cLine) (jc : @LT.lt Nat _ c1 c2) (jF : Fr h₀ L s.heap m)
    {M : Int} {tM : Tok} (jd2 : o2.data = .cell (some (.int M tM))) (jM : 1 ≤ M) (jM' : M ≤ 65535)
    {Tb : Addr} {tvs : List Value} {ts : List Int} {nt : Nat} (jtab : m "table" = some (.ref Tb)) (jtI : IntsAre tvs ts) (jtl0 : 1 ≤ ts.length) (jtl : ts.length ≤ 3) (jt1 : ∀ z ∈ ts, 1 ≤ z ∧ z ≤ 65535)
    {B : Addr} {bvs : List Value} {bs : List Int} (jbase : m "base" = some (.ref B)) (jbI : IntsAre bvs bs) (jbl : bs.length = ts.length)
    {Lo : Addr} {lvs : List Value} {g : Int} (jlong : m "longer" = some (.ref Lo)) (jlI : IntsAre lvs (ts ++ [g]))
    (jN : News h₀ L s.heap [(Lo, tupOf lvs.toArray 0), (Tb, listOf tvs.toArray nt), (B, listOf bvs.toArray bvs.length), (c2, o2)])
    {v : Int} {tf : Tok} (jfound : m "found" = some (.int v tf)) (jn1 : (nearF bs ts M (downKs 100 100)).1 = v) (jn2 : (nearF bs (ts ++ [g]) M (downKs 100 100)).1 = v)
    (hnext : ∀ (h' : Heap) (tk' : Nat), Fr h₀ L h' m → News h₀ L h' [(Lo, tupOf lvs.toArray 0), (Tb, listOf tvs.toArray nt), (B, listOf bvs.toArray bvs.length), (c2, o2)] → wpAny (model PySem.Challenge.rw_pf0227_01.row.prog w) (ktrTop dp un gd "law" scope L a ccd [("most", c2), ("urn", c1)] []) (execs (body.drop 8) (envX "law" scope L a ccd [("most", c2), ("urn", c1)])) Q (fun _ _ => False) { s with heap := h', toks := tk' })
    : wpAny (model PySem.Challenge.rw_pf0227_01.row.prog w) (ktrTop dp un gd "law" scope L a ccd [("most", c2), ("urn", c1)] []) (execs (body.drop 7) (envX "law" scope L a ccd [("most", c2), ("urn", c1)])) Q (fun _ _ => False) s := by
  have hk := ho
  cases ho
  k_dflt (show wpAny _ _ (execs (_ :: _) _) _ _ _)
  k_dflt (refine stop1 ?_)
  k_steps
  all_goals (first
    | exact absurd (rfl : v = v) (by assumption)
    | (rename Fr _ _ _ _ => F9
       rename News _ _ _ _ => N9
       exact Until.mk (hnext _ _ F9 (news_sub N9 (by (repeat (first | exact List.Sublist.slnil | with_reducible apply List.Sublist.cons₂ | apply List.Sublist.cons)))))))
end
section
local macro_rules | `(tactic| walk_at "eval Name") => `(tactic| (k_here; k_dflt (refine' nameX_L ?F ?v ?_ ?a ?b; (case F => k_asm); (case a => rfl); (case b => rfl); (case v => assumption); k_whole)))
local macro_rules | `(tactic| walk_at "compareOp NotEq ref ref") => `(tactic| (k_here; (with_reducible show wpAny _ _ (compareOp CmpOp.NotEq (Value.ref _) (Value.ref _)) _ _ _); k_dflt (refine' ke_ne_ints ?k1 ?k2 ?k3 ?k4 ?k5 ?_; (case k1 => is_list); (case k2 => is_list); (case k3 => first | assumption | l_ints); (case k4 => first | assumption | l_ints); (case k5 => first | units_room | ktr_units); k_whole)))
set_option maxRecDepth 100000 in
set_option maxHeartbeats 8000000 in
theorem l8 (w : World) {oc : Value} {od an : Option Addr} {params : Arguments} {body : List Stmt} {scope : Scope} {dV kV doc pm cdv ct : Value} {osl : Array (Option Value)}
    (ho : (hd.heap_39 w.params).lookup 129 = some ⟨oc, od, .func (fnOf "law" "law" params body scope dV kV doc pm an cdv ct), osl⟩)
    {p : Program} {loose : List Str} {mean : ExcName → Option Value} {mg mb : Str → Option Value} {dp un : Nat} {gd : Option (List Code)} {a : Addr} {ccd : Value} {A₀ : Around} {h₀ : Heap} {L c1 c2 : Addr} {s : Shared} {Q : Flow → Shared → Prop} {m : Str → Option Value} {o1 o2 : Obj}
    (jB : Below A₀ h₀ [] h₀) (jX : (hd.heap_39 w.params).In h₀) (jT : Top p loose mean mg mb h₀) (jdp : dp + 40 < recursionLimit) (jun : un + 20 * 40 < cLine) (jc : @LT.lt Nat _ c1 c2) (jF : Fr h₀ L s.heap m)
    {M : Int} {tM : Tok} (jd2 : o2.data = .cell (some (.int M tM))) (jM : 1 ≤ M) (jM' : M ≤ 65535)
    {Tb : Addr} {tvs : List Value} {ts : List Int} {nt : Nat} (jtab : m "table" = some (.ref Tb)) (jtI : IntsAre tvs ts) (jtl0 : 1 ≤ ts.length) (jtl : ts.length ≤ 3) (jt1 : ∀ z ∈ ts, 1 ≤ z ∧ z ≤ 65535)
    {B : Addr} {bvs : List Value} {bs : List Int} (jbase : m "base" = some (.ref B)) (jbI : IntsAre bvs bs) (jbl : bs.length = ts.length)
    {Lo : Addr} {lvs : List Value} {g : Int} (jlong : m "longer" = some (.ref Lo)) (jlI : IntsAre lvs (ts ++ [g]))
    (jN : News h₀ L s.heap [(Lo, tupOf lvs.toArray 0), (Tb, listOf tvs.toArray nt), (B, listOf bvs.toArray bvs.length), (c2, o2)])
    {o : Option Int} {te : Tok} (jequal : m "equal" = some (lv o te)) (jq1 : qualF bs ts M = o) (jq2 : qualF bs (ts ++ [g]) M = none)
    (hnext : ∀ (h' : Heap) (tk' : Nat), Fr h₀ L h' m → News h₀ L h' [(Lo, tupOf lvs.toArray 0), (Tb, listOf tvs.toArray nt), (B, listOf bvs.toArray bvs.length), (c2, o2)] → wpAny (model PySem.Challenge.rw_pf0227_01.row.prog w) (ktrTop dp un gd "law" scope L a ccd [("most", c2), ("urn", c1)] []) (execs (body.drop 9) (envX "law" scope L a ccd [("most", c2), ("urn", c1)])) Q (fun _ _ => False) { s with heap := h', toks := tk' })
    : wpAny (model PySem.Challenge.rw_pf0227_01.row.prog w) (ktrTop dp un gd "law" scope L a ccd [("most", c2), ("urn", c1)] []) (execs (body.drop 8) (envX "law" scope L a ccd [("most", c2), ("urn", c1)])) Q (fun _ _ => False) s := by
  have hk := ho
  cases ho
  k_dflt (show wpAny _ _ (execs (_ :: _) _) _ _ _)
  k_dflt (refine stop1 ?_)
  cases o
  all_goals simp only [lv_none, lv_some] at jequal
  all_goals k_steps
  all_goals (first
    | exact absurd rfl (by assumption)
    | (rename Fr _ _ _ _ => F9
       rename News _ _ _ _ => N9
       exact Until.mk (hnext _ _ F9 (news_sub N9 (by (repeat (first | exact List.Sublist.slnil | with_reducible apply List.Sublist.cons₂ | apply List.Sublist.cons)))))))
end
section
local macro_rules | `(tactic| walk_at "eval Name") => `(tactic| (k_here; k_dflt (refine' nameX_L ?F ?v ?_ ?a ?b; (case F => k_asm); (case a => rfl); (case b => rfl); (case v => assumption); k_whole)))
local macro_rules | `(tactic| walk_at "compareOp NotEq ref ref") => `(tactic| (k_here; (with_reducible show wpAny _ _ (compareOp CmpOp.NotEq (Value.ref _) (Value.ref _)) _ _ _); k_dflt (refine' ke_ne_ints ?k1 ?k2 ?k3 ?k4 ?k5 ?_; (case k1 => is_list); (case k2 => is_list); (case k3 => first | assumption | l_ints); (case k4 => first | assumption | l_ints); (case k5 => first | units_room | ktr_units); k_whole)))
set_option maxRecDepth 100000 in
set_option maxHeartbeats 8000000 in
theorem l9 (w : World) {oc : Value} {od an : Option Addr} {params : Arguments} {body : List Stmt} {scope : Scope} {dV kV doc pm cdv ct : Value} {osl : Array (Option Value)}
    (ho : (hd.heap_39 w.params).lookup 129 = some ⟨oc, od, .func (fnOf "law" "law" params body scope dV kV doc pm an cdv ct), osl⟩)
    {p : Program} {loose : List Str} {mean : ExcName → Option Value} {mg mb : Str → Option Value} {dp un : Nat} {gd : Option (List Code)} {a : Addr} {ccd : Value} {A₀ : Around} {h₀ : Heap} {L c1 c2 : Addr} {s : Shared} {Q : Flow → Shared → Prop} {m : Str → Option Value} {o1 o2 : Obj}
    (jB : Below A₀ h₀ [] h₀) (jX : (hd.heap_39 w.params).In h₀) (jT : Top p loose mean mg mb h₀) (jdp : dp + 40 < recursionLimit) (jun : un + 20 * 40 < cLine) (jc : @LT.lt Nat _ c1 c2) (jF : Fr h₀ L s.heap m)
    {M : Int} {tM : Tok} (jd2 : o2.data = .cell (some (.int M tM))) (jM : 1 ≤ M) (jM' : M ≤ 65535)
    {Tb : Addr} {tvs : List Value} {ts : List Int} {nt : Nat} (jtab : m "table" = some (.ref Tb)) (jtI : IntsAre tvs ts) (jtl0 : 1 ≤ ts.length) (jtl : ts.length ≤ 3) (jt1 : ∀ z ∈ ts, 1 ≤ z ∧ z ≤ 65535)
    {B : Addr} {bvs : List Value} {bs : List Int} (jbase : m "base" = some (.ref B)) (jbI : IntsAre bvs bs) (jbl : bs.length = ts.length)
    (jN : News h₀ L s.heap [(Tb, listOf tvs.toArray nt), (B, listOf bvs.toArray bvs.length), (c2, o2)])
    (jq3 : qualF bs (ts.drop 1) M = none)
    (hnext : ∀ (h' : Heap) (tk' : Nat), Fr h₀ L h' m → News h₀ L h' [(Tb, listOf tvs.toArray nt), (c2, o2)] → wpAny (model PySem.Challenge.rw_pf0227_01.row.prog w) (ktrTop dp un gd "law" scope L a ccd [("most", c2), ("urn", c1)] []) (execs (body.drop 10) (envX "law" scope L a ccd [("most", c2), ("urn", c1)])) Q (fun _ _ => False) { s with heap := h', toks := tk' })
    : wpAny (model PySem.Challenge.rw_pf0227_01.row.prog w) (ktrTop dp un gd "law" scope L a ccd [("most", c2), ("urn", c1)] []) (execs (body.drop 9) (envX "law" scope L a ccd [("most", c2), ("urn", c1)])) Q (fun _ _ => False) s := by
  have hk := ho
  cases ho
  k_dflt (show wpAny _ _ (execs (_ :: _) _) _ _ _)
  k_dflt (refine stop1 ?_)
  k_steps
  all_goals (
    rename Fr _ _ _ _ => F9
    rename News _ _ _ _ => N9
    exact Until.mk (hnext _ _ F9 (news_sub N9 (by (repeat (first | exact List.Sublist.slnil | with_reducible apply List.Sublist.cons₂ | apply List.Sublist.cons))))))
end
section
local macro_rules | `(tactic| walk_at "eval Name") => `(tactic| (k_here; k_dflt (refine' nameX_L ?F ?v ?_ ?a ?b; (case F => k_asm); (case a => rfl); (case b => rfl); (case v => assumption); k_whole)))
local macro_rules | `(tactic| walk_at "compareOp NotEq ref ref") => `(tactic| (k_here; (with_reducible show wpAny _ _ (compareOp CmpOp.NotEq (Value.ref _) (Value.ref _)) _ _ _); k_dflt (refine' ke_ne_ints ?k1 ?k2 ?k3 ?k4 ?k5 ?_; (case k1 => is_list); (case k2 => is_list); (case k3 => first | assumption | l_ints); (case k4 => first | assumption | l_ints); (case k5 => first | units_room | ktr_units); k_whole)))
set_option maxRecDepth 100000 in
set_option maxHeartbeats 8000000 in
theorem l10 (w : World) {oc : Value} {od an : Option Addr} {params : Arguments} {body : List Stmt} {scope : Scope} {dV kV doc pm cdv ct : Value} {osl : Array (Option Value)}
    (ho : (hd.heap_39 w.params).lookup 129 = some ⟨oc, od, .func (fnOf "law" "law" params body scope dV kV doc pm an cdv ct), osl⟩)
    {p : Program} {loose : List Str} {mean : ExcName → Option Value} {mg mb : Str → Option Value} {dp un : Nat} {gd : Option (List Code)} {a : Addr} {ccd : Value} {A₀ : Around} {h₀ : Heap} {L c1 c2 : Addr} {s : Shared} {Q : Flow → Shared → Prop} {m : Str → Option Value} {o1 o2 : Obj}
    (jB : Below A₀ h₀ [] h₀) (jX : (hd.heap_39 w.params).In h₀) (jT : Top p loose mean mg mb h₀) (jdp : dp + 40 < recursionLimit) (jun : un + 20 * 40 < cLine) (jc : @LT.lt Nat _ c1 c2) (jF : Fr h₀ L s.heap m)
    {M : Int} {tM : Tok} (jd2 : o2.data = .cell (some (.int M tM))) (jM : 1 ≤ M) (jM' : M ≤ 65535)
    {Tb : Addr} {tvs : List Value} {ts : List Int} {nt : Nat} (jtab : m "table" = some (.ref Tb)) (jtI : IntsAre tvs ts) (jtl0 : 1 ≤ ts.length) (jtl : ts.length ≤ 3) (jt1 : ∀ z ∈ ts, 1 ≤ z ∧ z ≤ 65535)
    (jN : News h₀ L s.heap [(Tb, listOf tvs.toArray nt), (c2, o2)])
    (hnext : ∀ (SQ : Addr) (svs : List Value) (sq : List Int) (h' : Heap) (tk' : Nat), IntsAre svs sq → sq.length = 4 → (∀ z ∈ sq, 1 ≤ z ∧ z ≤ 65535) → Fr h₀ L h' (fun z => if z = "square" then some (.ref SQ) else m z) → News h₀ L h' [(SQ, listOf svs.toArray 0), (Tb, listOf tvs.toArray nt), (c2, o2)] → wpAny (model PySem.Challenge.rw_pf0227_01.row.prog w) (ktrTop dp un gd "law" scope L a ccd [("most", c2), ("urn", c1)] []) (execs (body.drop 11) (envX "law" scope L a ccd [("most", c2), ("urn", c1)])) Q (fun _ _ => False) { s with heap := h', toks := tk' })
    : wpAny (model PySem.Challenge.rw_pf0227_01.row.prog w) (ktrTop dp un gd "law" scope L a ccd [("most", c2), ("urn", c1)] []) (execs (body.drop 10) (envX "law" scope L a ccd [("most", c2), ("urn", c1)])) Q (fun _ _ => False) s := by
  have hk := ho
  cases ho
  k_dflt (show wpAny _ _ (execs (_ :: _) _) _ _ _)
  k_dflt (refine stop1 ?_)
  k_steps
  rename Fr _ _ _ _ => F9
  rename News _ _ _ _ => N9
  rename (IntsAre _ (List.take _ _)) => I9
  exact Until.mk (hnext _ _ _ _ _ I9 (sq_len jtl0) (sq_in jt1) F9 (news_sub N9 (by (repeat (first | exact List.Sublist.slnil | with_reducible apply List.Sublist.cons₂ | apply List.Sublist.cons)))))
end
section
local macro_rules | `(tactic| walk_at "eval Name") => `(tactic| (k_here; k_dflt (refine' nameX_L ?F ?v ?_ ?a ?b; (case F => k_asm); (case a => rfl); (case b => rfl); (case v => assumption); k_whole)))
local macro_rules | `(tactic| walk_at "compareOp NotEq ref ref") => `(tactic| (k_here; (with_reducible show wpAny _ _ (compareOp CmpOp.NotEq (Value.ref _) (Value.ref _)) _ _ _); k_dflt (refine' ke_ne_ints ?k1 ?k2 ?k3 ?k4 ?k5 ?_; (case k1 => is_list); (case k2 => is_list); (case k3 => first | assumption | l_ints); (case k4 => first | assumption | l_ints); (case k5 => first | units_room | ktr_units); k_whole)))
local macro_rules | `(tactic| walk_at "eval ListComp") => `(tactic| (k_here; refine Hold.out ?_))
local macro_rules | `(tactic| walk_at "CompSrcT") => `(tactic| (k_here; refine Hold.out ?_))
set_option maxRecDepth 100000 in
set_option maxHeartbeats 8000000 in
theorem l11 (w : World) {oc : Value} {od an : Option Addr} {params : Arguments} {body : List Stmt} {scope : Scope} {dV kV doc pm cdv ct : Value} {osl : Array (Option Value)}
    (ho : (hd.heap_39 w.params).lookup 129 = some ⟨oc, od, .func (fnOf "law" "law" params body scope dV kV doc pm an cdv ct), osl⟩)
    {p : Program} {loose : List Str} {mean : ExcName → Option Value} {mg mb : Str → Option Value} {dp un : Nat} {gd : Option (List Code)} {a : Addr} {ccd : Value} {A₀ : Around} {h₀ : Heap} {L c1 c2 : Addr} {s : Shared} {Q : Flow → Shared → Prop} {m : Str → Option Value} {o1 o2 : Obj}
    (jB : Below A₀ h₀ [] h₀) (jX : (hd.heap_39 w.params).In h₀) (jT : Top p loose mean mg mb h₀) (jdp : dp + 40 < recursionLimit) (jun : un + 20 * 40 < cLine) (jc : @LT.lt Nat _ c1 c2) (jF : Fr h₀ L s.heap m)
    {M : Int} {tM : Tok} (jd2 : o2.data = .cell (some (.int M tM))) (jM : 1 ≤ M) (jM' : M ≤ 65535)
    {Tb : Addr} {tvs : List Value} {ts : List Int} {nt : Nat} (jtab : m "table" = some (.ref Tb)) (jtI : IntsAre tvs ts) (jtl0 : 1 ≤ ts.length) (jtl : ts.length ≤ 3) (jt1 : ∀ z ∈ ts, 1 ≤ z ∧ z ≤ 65535)
    {SQ : Addr} {svs : List Value} {sq : List Int} (jsq : m "square" = some (.ref SQ)) (jsI : IntsAre svs sq) (jsl : sq.length = 4) (js1 : ∀ z ∈ sq, 1 ≤ z ∧ z ≤ 65535)
    (jN : News h₀ L s.heap [(SQ, listOf svs.toArray 0), (Tb, listOf tvs.toArray nt), (c2, o2)])
    (hnext : ∀ (h' : Heap) (tk' : Nat), Fr h₀ L h' (fun z => if z = "is_fit" then some (.bool (decide (∀ z ∈ sq, z ≤ M))) else m z) → News h₀ L h' [(SQ, listOf svs.toArray 0), (Tb, listOf tvs.toArray nt), (c2, o2)] → wpAny (model PySem.Challenge.rw_pf0227_01.row.prog w) (ktrTop dp un gd "law" scope L a ccd [("most", c2), ("urn", c1)] []) (execs (body.drop 12) (envX "law" scope L a ccd [("most", c2), ("urn", c1)])) Q (fun _ _ => False) { s with heap := h', toks := tk' })
    : wpAny (model PySem.Challenge.rw_pf0227_01.row.prog w) (ktrTop dp un gd "law" scope L a ccd [("most", c2), ("urn", c1)] []) (execs (body.drop 11) (envX "law" scope L a ccd [("most", c2), ("urn", c1)])) Q (fun _ _ => False) s := by
  have hk := ho
  cases ho
  k_dflt (show wpAny _ _ (execs (_ :: _) _) _ _ _)
  k_dflt (refine stop1 ?_)
  k_steps
  unfold Hold
  k_dflt (refine LCt.ListComp_T (F₀ := by k_asm) (by with_unfolding_all rfl) (by decide) (by rfl) (by decide) (by rfl) ?_)
  k_steps
  unfold Hold
  rename Fr _ _ _ _ => lF'
  rename News _ _ _ _ => lN'
  k_dflt (refine LCt.CompSrcT.ledger (by rfl) lF' lN' (.head _) (by rw [List.size_toArray, jsI.length, jsl, PySem.sizeLine_eq]; decide) ?_)
  intro gz
  k_dflt (refine my_restT jsI (fun z => decide (z > M)) ?turn ?fin)
  case turn =>
    clear lF' lN'
    intro k t I oI C oC D m₂ ys h tk E' hC hx F N off ne
    simp only [LCg.Off3, and_true] at off
    k_steps
    all_goals (first | exact decide_eq_true (by omega) | exact decide_eq_false (by omega))
  case fin =>
    clear lF' lN'
    intro ys hys D h tk F N off
    simp only [LCg.Off1, and_true] at off
    dsimp only
    k_steps
    rename Fr _ _ _ _ => F9
    rename News _ _ _ _ => N9
    rw [fit_is] at F9
    exact Until.mk (hnext _ _ F9 (news_sub N9 (by (repeat (first | exact List.Sublist.slnil | with_reducible apply List.Sublist.cons₂ | apply List.Sublist.cons)))))
end
section
local macro_rules | `(tactic| walk_at "eval Name") => `(tactic| (k_here; k_dflt (refine' nameX_L ?F ?v ?_ ?a ?b; (case F => k_asm); (case a => rfl); (case b => rfl); (case v => assumption); k_whole)))
local macro_rules | `(tactic| walk_at "compareOp NotEq ref ref") => `(tactic| (k_here; (with_reducible show wpAny _ _ (compareOp CmpOp.NotEq (Value.ref _) (Value.ref _)) _ _ _); k_dflt (refine' ke_ne_ints ?k1 ?k2 ?k3 ?k4 ?k5 ?_; (case k1 => is_list); (case k2 => is_list); (case k3 => first | assumption | l_ints); (case k4 => first | assumption | l_ints); (case k5 => first | units_room | ktr_units); k_whole)))
set_option maxRecDepth 100000 in
set_option maxHeartbeats 8000000 in
theorem l12 (w : World) {oc : Value} {od an : Option Addr} {params : Arguments} {body : List Stmt} {scope : Scope} {dV kV doc pm cdv ct : Value} {osl : Array (Option Value)}
    (ho : (hd.heap_39 w.params).lookup 129 = some ⟨oc, od, .func (fnOf "law" "law" params body scope dV kV doc pm an cdv ct), osl⟩)
    {p : Program} {loose : List Str} {mean : ExcName → Option Value} {mg mb : Str → Option Value} {dp un : Nat} {gd : Option (List Code)} {a : Addr} {ccd : Value} {A₀ : Around} {h₀ : Heap} {L c1 c2 : Addr} {s : Shared} {Q : Flow → Shared → Prop} {m : Str → Option Value} {o1 o2 : Obj}
    (jB : Below A₀ h₀ [] h₀) (jX : (hd.heap_39 w.params).In h₀) (jT : Top p loose mean mg mb h₀) (jdp : dp + 40 < recursionLimit) (jun : un + 20 * 40 < cLine) (jc : @LT.lt Nat _ c1 c2) (jF : Fr h₀ L s.heap m)
    {M : Int} {tM : Tok} (jd2 : o2.data = .cell (some (.int M tM))) (jM : 1 ≤ M) (jM' : M ≤ 65535)
    {Tb : Addr} {tvs : List Value} {ts : List Int} {nt : Nat} (jtab : m "table" = some (.ref Tb)) (jtI : IntsAre tvs ts) (jtl0 : 1 ≤ ts.length) (jtl : ts.length ≤ 3) (jt1 : ∀ z ∈ ts, 1 ≤ z ∧ z ≤ 65535)
    {SQ : Addr} {svs : List Value} {sq : List Int} (jsq : m "square" = some (.ref SQ)) (jsI : IntsAre svs sq) (jsl : sq.length = 4) (js1 : ∀ z ∈ sq, 1 ≤ z ∧ z ≤ 65535)
    (jN : News h₀ L s.heap [(SQ, listOf svs.toArray 0), (Tb, listOf tvs.toArray nt), (c2, o2)])
    {fit : Bool} (jfit : m "is_fit" = some (.bool fit)) (jf1 : decide (sq.length = 4 ∧ ∀ x ∈ sq, 1 ≤ x ∧ x ≤ M) = fit)
    (hnext : ∀ (h' : Heap) (tk' : Nat), Fr h₀ L h' m → News h₀ L h' [(SQ, listOf svs.toArray 0), (Tb, listOf tvs.toArray nt), (c2, o2)] → wpAny (model PySem.Challenge.rw_pf0227_01.row.prog w) (ktrTop dp un gd "law" scope L a ccd [("most", c2), ("urn", c1)] []) (execs (body.drop 13) (envX "law" scope L a ccd [("most", c2), ("urn", c1)])) Q (fun _ _ => False) { s with heap := h', toks := tk' })
    : wpAny (model PySem.Challenge.rw_pf0227_01.row.prog w) (ktrTop dp un gd "law" scope L a ccd [("most", c2), ("urn", c1)] []) (execs (body.drop 12) (envX "law" scope L a ccd [("most", c2), ("urn", c1)])) Q (fun _ _ => False) s := by
  have hk := ho
  cases ho
  k_dflt (show wpAny _ _ (execs (_ :: _) _) _ _ _)
  k_dflt (refine stop1 ?_)
  k_steps
  · rename ((_ != _) = true) => h9
    rw [bne_self_eq_false] at h9
    exact absurd h9 Bool.false_ne_true
  all_goals (
    rename Fr _ _ _ _ => F9
    rename News _ _ _ _ => N9
    exact Until.mk (hnext _ _ F9 (news_sub N9 (by (repeat (first | exact List.Sublist.slnil | with_reducible apply List.Sublist.cons₂ | apply List.Sublist.cons))))))
end
section
local macro_rules | `(tactic| walk_at "eval Name") => `(tactic| (k_here; k_dflt (refine' nameX_L ?F ?v ?_ ?a ?b; (case F => k_asm); (case a => rfl); (case b => rfl); (case v => assumption); k_whole)))
local macro_rules | `(tactic| walk_at "compareOp NotEq ref ref") => `(tactic| (k_here; (with_reducible show wpAny _ _ (compareOp CmpOp.NotEq (Value.ref _) (Value.ref _)) _ _ _); k_dflt (refine' ke_ne_ints ?k1 ?k2 ?k3 ?k4 ?k5 ?_; (case k1 => is_list); (case k2 => is_list); (case k3 => first | assumption | l_ints); (case k4 => first | assumption | l_ints); (case k5 => first | units_room | ktr_units); k_whole)))
set_option maxRecDepth 100000 in
set_option maxHeartbeats 8000000 in
theorem l13 (w : World) {oc : Value} {od an : Option Addr} {params : Arguments} {body : List Stmt} {scope : Scope} {dV kV doc pm cdv ct : Value} {osl : Array (Option Value)}
    (ho : (hd.heap_39 w.params).lookup 129 = some ⟨oc, od, .func (fnOf "law" "law" params body scope dV kV doc pm an cdv ct), osl⟩)
    {p : Program} {loose : List Str} {mean : ExcName → Option Value} {mg mb : Str → Option Value} {dp un : Nat} {gd : Option (List Code)} {a : Addr} {ccd : Value} {A₀ : Around} {h₀ : Heap} {L c1 c2 : Addr} {s : Shared} {Q : Flow → Shared → Prop} {m : Str → Option Value} {o1 o2 : Obj}
    (jB : Below A₀ h₀ [] h₀) (jX : (hd.heap_39 w.params).In h₀) (jT : Top p loose mean mg mb h₀) (jdp : dp + 40 < recursionLimit) (jun : un + 20 * 40 < cLine) (jc : @LT.lt Nat _ c1 c2) (jF : Fr h₀ L s.heap m)
    {M : Int} {tM : Tok} (jd2 : o2.data = .cell (some (.int M tM))) (jM : 1 ≤ M) (jM' : M ≤ 65535)
    {Tb : Addr} {tvs : List Value} {ts : List Int} {nt : Nat} (jtab : m "table" = some (.ref Tb)) (jtI : IntsAre tvs ts) (jtl0 : 1 ≤ ts.length) (jtl : ts.length ≤ 3) (jt1 : ∀ z ∈ ts, 1 ≤ z ∧ z ≤ 65535)
    {SQ : Addr} {svs : List Value} {sq : List Int} (jsq : m "square" = some (.ref SQ)) (jsI : IntsAre svs sq) (jsl : sq.length = 4) (js1 : ∀ z ∈ sq, 1 ≤ z ∧ z ≤ 65535)
    (jN : News h₀ L s.heap [(SQ, listOf svs.toArray 0), (Tb, listOf tvs.toArray nt), (c2, o2)])
    (hnext : ∀ (h' : Heap) (tk' : Nat), Fr h₀ L h' m → News h₀ L h' [(Tb, listOf tvs.toArray nt), (c2, o2)] → wpAny (model PySem.Challenge.rw_pf0227_01.row.prog w) (ktrTop dp un gd "law" scope L a ccd [("most", c2), ("urn", c1)] []) (execs (body.drop 14) (envX "law" scope L a ccd [("most", c2), ("urn", c1)])) Q (fun _ _ => False) { s with heap := h', toks := tk' })
    : wpAny (model PySem.Challenge.rw_pf0227_01.row.prog w) (ktrTop dp un gd "law" scope L a ccd [("most", c2), ("urn", c1)] []) (execs (body.drop 13) (envX "law" scope L a ccd [("most", c2), ("urn", c1)])) Q (fun _ _ => False) s := by
  have hk := ho
  cases ho
  k_dflt (show wpAny _ _ (execs (_ :: _) _) _ _ _)
  k_dflt (refine stop1 ?_)
  k_steps
  all_goals (
    rename Fr _ _ _ _ => F9
    rename News _ _ _ _ => N9
    exact Until.mk (hnext _ _ F9 (news_sub N9 (by (repeat (first | exact List.Sublist.slnil | with_reducible apply List.Sublist.cons₂ | apply List.Sublist.cons))))))
end
section
local macro_rules | `(tactic| walk_at "eval Name") => `(tactic| (k_here; k_dflt (refine' nameX_L ?F ?v ?_ ?a ?b; (case F => k_asm); (case a => rfl); (case b => rfl); (case v => assumption); k_whole)))
local macro_rules | `(tactic| walk_at "compareOp NotEq ref ref") => `(tactic| (k_here; (with_reducible show wpAny _ _ (compareOp CmpOp.NotEq (Value.ref _) (Value.ref _)) _ _ _); k_dflt (refine' ke_ne_ints ?k1 ?k2 ?k3 ?k4 ?k5 ?_; (case k1 => is_list); (case k2 => is_list); (case k3 => first | assumption | l_ints); (case k4 => first | assumption | l_ints); (case k5 => first | units_room | ktr_units); k_whole)))
set_option maxRecDepth 100000 in
set_option maxHeartbeats 8000000 in
theorem l14 (w : World) {oc : Value} {od an : Option Addr} {params : Arguments} {body : List Stmt} {scope : Scope} {dV kV doc pm cdv ct : Value} {osl : Array (Option Value)}
    (ho : (hd.heap_39 w.params).lookup 129 = some ⟨oc, od, .func (fnOf "law" "law" params body scope dV kV doc pm an cdv ct), osl⟩)
    {p : Program} {loose : List Str} {mean : ExcName → Option Value} {mg mb : Str → Option Value} {dp un : Nat} {gd : Option (List Code)} {a : Addr} {ccd : Value} {A₀ : Around} {h₀ : Heap} {L c1 c2 : Addr} {s : Shared} {Q : Flow → Shared → Prop} {m : Str → Option Value} {o1 o2 : Obj}
    (jB : Below A₀ h₀ [] h₀) (jX : (hd.heap_39 w.params).In h₀) (jT : Top p loose mean mg mb h₀) (jdp : dp + 40 < recursionLimit) (jun : un + 20 * 40 < cLine) (jc : @LT.lt Nat _ c1 c2) (jF : Fr h₀ L s.heap m)
    {M : Int} {tM : Tok} (jd2 : o2.data = .cell (some (.int M tM))) (jM : 1 ≤ M) (jM' : M ≤ 65535)
    {Tb : Addr} {tvs : List Value} {ts : List Int} {nt : Nat} (jtab : m "table" = some (.ref Tb)) (jtI : IntsAre tvs ts) (jtl0 : 1 ≤ ts.length) (jtl : ts.length ≤ 3) (jt1 : ∀ z ∈ ts, 1 ≤ z ∧ z ≤ 65535)
    (jN : News h₀ L s.heap [(Tb, listOf tvs.toArray nt), (c2, o2)])
    (hret : ∀ (h' : Heap) (tk' : Nat), Fr h₀ L h' m → Q (.ret (.bool true)) { s with heap := h', toks := tk' })
    : wpAny (model PySem.Challenge.rw_pf0227_01.row.prog w) (ktrTop dp un gd "law" scope L a ccd [("most", c2), ("urn", c1)] []) (execs (body.drop 14) (envX "law" scope L a ccd [("most", c2), ("urn", c1)])) Q (fun _ _ => False) s := by
  have hk := ho
  cases ho
  k_dflt (show wpAny _ _ (execs (_ :: _) _) _ _ _)
  k_steps
  · rename Fr h₀ L _ m => kF
    k_dflt (exact hret _ _ kF)
  · exfalso
    rename (@Ne Int _ _) => h9
    rename (_ ∈ ts) => h8
    rename (∀ a ∈ ts, a ≤ _) => h7
    apply h9
    simp only [decide_eq_true_eq]
    split
    · rename_i h6
      have := of_decide_eq_true (List.all_eq_true.mp h6 _ h8)
      rw [if_neg (by omega)]
    · rename_i h6
      rw [if_pos]
      refine Classical.byContradiction fun h5 => h6 (List.all_eq_true.mpr fun z hz => decide_eq_true ?_)
      have := h7 z hz
      omega
end
theorem upd_ne {a b : Str} {inst : Decidable (b = a)} {v x o : Option Value} (hm : x = o) (h : ¬ b = a := by decide) : @ite (Option Value) (b = a) inst v x = o := (if_neg h).trans hm
theorem upd_eq {a : Str} {inst : Decidable (a = a)} {v x : Option Value} : @ite (Option Value) (a = a) inst v x = v := if_pos rfl
theorem fit_all {sq : List Int} {M : Int} (h4 : sq.length = 4) (h1 : ∀ z ∈ sq, 1 ≤ z ∧ z ≤ 65535) : decide (sq.length = 4 ∧ ∀ x ∈ sq, 1 ≤ x ∧ x ≤ M) = decide (∀ z ∈ sq, z ≤ M) :=
  decide_eq_decide.mpr ⟨fun q z hz => (q.2 z hz).2, fun q => ⟨h4, fun x hx => ⟨(h1 x hx).1, q x hx⟩⟩⟩
set_option maxRecDepth 100000 in
set_option maxHeartbeats 8000000 in
theorem law_all (w : World) {oc : Value} {od an : Option Addr} {params : Arguments} {body : List Stmt} {scope : Scope} {dV kV doc pm cdv ct : Value} {osl : Array (Option Value)}
    (ho : (hd.heap_39 w.params).lookup 129 = some ⟨oc, od, .func (fnOf "law" "law" params body scope dV kV doc pm an cdv ct), osl⟩)
    {p : Program} {loose : List Str} {mean : ExcName → Option Value} {mg mb : Str → Option Value} {dp un : Nat} {gd : Option (List Code)} {a : Addr} {ccd : Value} {A₀ : Around} {h₀ : Heap} {L c1 c2 : Addr} {s : Shared} {Q : Flow → Shared → Prop} {m : Str → Option Value} {o1 o2 : Obj}
    (jB : Below A₀ h₀ [] h₀) (jX : (hd.heap_39 w.params).In h₀) (jT : Top p loose mean mg mb h₀) (jdp : dp + 40 < recursionLimit) (jun : un + 20 * 40 < cLine) (jc : @LT.lt Nat _ c1 c2) (jF : Fr h₀ L s.heap m)
    {S : Addr} {vs : List Value} {ns : List Int} (jscript : m "script" = some (.ref S)) (jl : h₀.IsList S vs.toArray) (jI : IntsAre vs ns) (jlen : ns.length ≤ 63) (jd1 : o1.data = .cell none) (jd2 : o2.data = .cell none) (jN : News h₀ L s.heap [(c2, o2), (c1, o1)])
    (hret : ∀ (h' : Heap) (tk' : Nat) (m' : Str → Option Value), Fr h₀ L h' m' → Q (.ret (.bool true)) { s with heap := h', toks := tk' }) : wpAny (model PySem.Challenge.rw_pf0227_01.row.prog w) (ktrTop dp un gd "law" scope L a ccd [("most", c2), ("urn", c1)] []) (execs (body.drop 0) (envX "law" scope L a ccd [("most", c2), ("urn", c1)])) Q (fun _ _ => False) s := by
  obtain ⟨hp0, gs, dr, tk0, os⟩ := s
  refine l0 (s := ⟨hp0, gs, dr, tk0, os⟩) w ho jB jX jT jdp jun jc jF jscript jl jI jlen jd1 jN ?_
  intro U x tx y ty n o1 h tk jx jd1 F N jcU
  refine l1 (s := ⟨h, gs, dr, tk, os⟩) w ho jB jX jT jdp jun jc F jx jcU jd1 jd2 N ?_
  clear F N jx jd2 jN
  intro g0 tg M tM x tx y ty n o2 h tk jg jg' jM jM' jx jd2 F N
  have jmany : (fun z : Str => if z = "many" then some (Value.int (1 + g0) tg) else m z) "many" = some (.int (1 + g0) tg) := if_pos rfl
  refine l2 (s := ⟨h, gs, dr, tk, os⟩) w ho jB jX jT jdp jun jc F jx jcU jd2 jM jM' jd1 N jmany jg jg' ?_
  clear F N jx
  intro B bvs bs x tx y ty n h tk jbI jbl jb1 jx F N jneB
  have hb0 : 1 ≤ bs.length := by omega
  have hb3 : bs.length ≤ 3 := by omega
  have jbase : (fun z : Str => if z = "base" then some (Value.ref B) else (fun z : Str => if z = "many" then some (Value.int (1 + g0) tg) else m z) z) "base" = some (.ref B) := if_pos rfl
  refine l3 (s := ⟨h, gs, dr, tk, os⟩) w ho jB jX jT jdp jun jc F jx jcU jd2 jM jM' jd1 (upd_ne jmany) jg jg' upd_eq jbI jbl jb1 jneB N ?_
  clear F N jx
  intro Tb tvs ts nt x tx y ty n h tk jtI jtl jt1 jx F N jneT
  have ht0 : 1 ≤ ts.length := by omega
  have ht3 : ts.length ≤ 3 := by omega
  refine l4 (s := ⟨h, gs, dr, tk, os⟩) w ho jB jX jT jdp jun jc F jx jcU jd2 jM jM' jd1 (upd_ne upd_eq) upd_eq jbI jtI hb0 hb3 jtl jb1 jt1 jneB jneT N ?_
  clear F N
  intro h tk F N
  refine l5 (s := ⟨h, gs, dr, tk, os⟩) w ho jB jX jT jdp jun jc F jx jcU jd2 jM jM' jd1 (upd_ne (upd_ne (upd_ne (upd_ne upd_eq)))) (upd_ne (upd_ne (upd_ne upd_eq))) jbI jtI hb0 hb3 jtl jb1 jt1 jneB jneT N (upd_ne (upd_ne upd_eq)) (upd_ne upd_eq) upd_eq ?_
  clear F N jbase jmany
  intro h tk m5 tf te F N jbase jtab jfound jequal
  rw [near_law, lv_some] at jfound
  rw [qual_law] at jequal
  refine l6 (s := ⟨h, gs, dr, tk, os⟩) w ho jB jX jT jdp jun jc F jx jcU jd2 jM jM' jd1 jbase jtab jbI jtI hb0 hb3 jtl jb1 jt1 jneB jneT N ?_
  clear F N
  intro Lo lvs g h tk jlI F N
  refine l7 (o1 := o1) (s := ⟨h, gs, dr, tk, os⟩) w ho jB jX jT jdp jun jc F jd2 jM jM' (upd_ne jtab) jtI ht0 ht3 jt1 (upd_ne jbase) jbI jtl.symm upd_eq jlI N (upd_ne jfound) rfl (congrArg Prod.fst (near_long (Nat.le_of_eq jtl.symm) _)) ?_
  clear F N
  intro h tk F N
  refine l8 (o1 := o1) (s := ⟨h, gs, dr, tk, os⟩) w ho jB jX jT jdp jun jc F jd2 jM jM' (upd_ne jtab) jtI ht0 ht3 jt1 (upd_ne jbase) jbI jtl.symm upd_eq jlI N (upd_ne jequal) rfl (qual_off (by rw [List.length_append, List.length_singleton]; omega)) ?_
  clear F N
  intro h tk F N
  refine l9 (o1 := o1) (s := ⟨h, gs, dr, tk, os⟩) w ho jB jX jT jdp jun jc F jd2 jM jM' (upd_ne jtab) jtI ht0 ht3 jt1 (upd_ne jbase) jbI jtl.symm (news_sub N (.cons _ (List.Sublist.refl _))) (qual_off (by rw [List.length_drop]; omega)) ?_
  clear F N
  intro h tk F N
  refine l10 (o1 := o1) (s := ⟨h, gs, dr, tk, os⟩) w ho jB jX jT jdp jun jc F jd2 jM jM' (upd_ne jtab) jtI ht0 ht3 jt1 N ?_
  clear F N
  intro SQ svs sq h tk jsI jsl js1 F N
  refine l11 (o1 := o1) (s := ⟨h, gs, dr, tk, os⟩) w ho jB jX jT jdp jun jc F jd2 jM jM' (upd_ne (upd_ne jtab)) jtI ht0 ht3 jt1 upd_eq jsI jsl js1 N ?_
  clear F N
  intro h tk F N
  refine l12 (o1 := o1) (s := ⟨h, gs, dr, tk, os⟩) w ho jB jX jT jdp jun jc F jd2 jM jM' (upd_ne (upd_ne (upd_ne jtab))) jtI ht0 ht3 jt1 (upd_ne upd_eq) jsI jsl js1 N upd_eq (fit_all jsl js1) ?_
  clear F N
  intro h tk F N
  refine l13 (o1 := o1) (s := ⟨h, gs, dr, tk, os⟩) w ho jB jX jT jdp jun jc F jd2 jM jM' (upd_ne (upd_ne (upd_ne jtab))) jtI ht0 ht3 jt1 (upd_ne upd_eq) jsI jsl js1 N ?_
  clear F N
  intro h tk F N
  exact l14 (o1 := o1) (s := ⟨h, gs, dr, tk, os⟩) w ho jB jX jT jdp jun jc F jd2 jM jM' (upd_ne (upd_ne (upd_ne jtab))) jtI ht0 ht3 jt1 N (fun h' tk' F' => hret h' tk' _ F')
theorem law_go (w : World) {scope : Scope} {body : List Stmt} {a : Addr} {cd : Value} {h₀ h₁ : Heap} {L : Addr} {m : Str → Option Value} {o1 o2 : Obj} {gs : Array GenState} {dr : PySem.Drawn} {tk : Nat} {os : OsState} {Q : Flow → Shared → Prop} {E : Value → Shared → Prop} {S : Addr} {vs : List Value} {ns : List Int}
    {p : Program} {loose : List Str} {mean : ExcName → Option Value} {mg mb : Str → Option Value} {oc : Value} {od an : Option Addr} {params : Arguments} {dV kV doc pm cdv ct : Value} {osl : Array (Option Value)}
    (F : Fr h₀ L h₁ m) (N : News h₀ L h₁ [(L + 1 + 1, o2), (L + 1, o1)]) (X : (hd.heap_39 w.params).In h₀) (T : Top p loose mean mg mb h₀) (hL : h₀.IsList S vs.toArray) (hI : IntsAre vs ns) (hlen : ¬ ((63 : Nat) : Int) < (ns.length : Int))
    (hs : m "script" = some (.ref S)) (hd1 : o1.data = .cell none) (hd2 : o2.data = .cell none) (hc : cellsFrom (L + 1) scope.names [] = ([(Str.ofString "most", L + 1 + 1), (Str.ofString "urn", L + 1)] : List (Str × Addr)))
    (ho : (hd.heap_39 w.params).lookup 129 = some ⟨oc, od, .func (fnOf "law" "law" params body scope dV kV doc pm an cdv ct), osl⟩)
    (ret : ∀ (h' : Heap) (tk' : Nat) (m' : Str → Option Value), Fr h₀ L h' m' → Q (.ret (.bool true)) ⟨h', gs, dr, tk', os⟩) :
    wpAny (model PySem.Challenge.rw_pf0227_01.row.prog w) (callerA.deeper (envOfC "law" scope L a cd)) (execs body (envOfC "law" scope L a cd)) Q E ⟨h₁, gs, dr, tk, os⟩ := by
  have e : envOfC "law" scope L a cd = envX "law" scope L a cd [("most", L + 1 + 1), ("urn", L + 1)] := by
    show envX "law" scope L a cd (cellsFrom (L + 1) scope.names []) = _
    rw [hc]
  rw [e]
  exact wpAny_mono (law_all (dp := 302) (un := 7) (gd := some []) (s := ⟨h₁, gs, dr, tk, os⟩) w ho (below_caller h₀) X T (by decide) (by have := cLine_is; omega) (Nat.lt_succ_self _) F hs hL hI (by omega) hd1 hd2 N ret) (fun _ _ h => h) (fun _ _ (h : False) => h.elim)
end Mine
set_option maxRecDepth 100000 in
set_option maxHeartbeats 2000000 in
theorem PySem.Challenge.cw_pf0227_01_holds : PySem.Challenge.rw_pf0227_01.Holds := by
  refine Mine.hd ?_
  k_go0
  all_goals (
    rename Frag.In _ _ => KX
    rename Top _ _ _ _ _ _ => T
    rename Fr _ _ _ _ => F
    rename News _ _ _ _ => N0
    rename IntsAre _ _ => hI
    rename Heap.IsList _ _ _ => hL
    rename (¬ (_ : Int) < _) => hlen
    k_dflt (refine' Mine.law_go _ F N0 KX T hL hI hlen ?hs ?d1 ?d2 ?hc ?ho ?ret)
    case ho => exact rfl
    case hc => exact rfl)
  case hs => k_dflt (exact rfl)
  case d1 => k_dflt assumption
  case d2 => k_dflt assumption
  case ret =>
    intro h' tk' m' F'
    rename (_ = #[]) => hg
    k_dflt (refine' goodW_bool F' hg (raisesW_false ?hn) ?hp)
    case hn => wrow_none_raised
    case hp => wrow_post
