import PyProof.Rows.All
import Wide.All
import OpenK.AllK
import Wide.FinOn
import Lean
import PySem.Challenge.RW_sa0216_01
open PySem PySem.W PyProof.Rows
set_option Elab.async false
set_option maxRecDepth 100000
set_option maxHeartbeats 40000000
set_option compiler.extract_closed false
namespace Mine
theorem pz.tw1611573162277260326 : True := trivial
set_option Elab.async true
theorem pz : True := by
  first
  | (have : (fun _ : Program => true) PySem.Challenge.pw_sa0216_01 = true := by k_qdec)
    trivial
  | trivial
set_option Elab.async false
section
local macro_rules | `(tactic| o_head $_) => `(tactic| (exfalso; assumption))
theorem tp : True := by
  have _h : False → PySem.Challenge.rw_sa0216_01.row.Holds := by
    intro h
    k_head
  trivial
end
def tp.vwL (l : List Stmt) : List Stmt :=
  (l.drop 1).take 2 ++ ((l.drop 4).take 17 ++ ((l.drop 22).take 1 ++ ((l.drop 24).take 22 ++ ((l.drop 47).take 2 ++ ((l.drop 50).take 13 ++ l.drop 64)))))
noncomputable def tp.vw : Program :=
  { PySem.Challenge.pw_sa0216_01 with main := { PySem.Challenge.pw_sa0216_01.main with body := tp.vwL PySem.Challenge.pw_sa0216_01.main.body } }
local macro_rules | `(tactic| walk_at $s:str) => `(tactic| k_extra $s)
section
open PySem.Spec PySem.Calls

section
variable {w : World} {A : Around} {E : Value → Shared → Prop} {env : Env}
abbrev MD (w : World) : Model := model Challenge.rw_sa0216_01.row.prog w

theorem sub44 {M : Model} {h : Heap} {w : World} (X : (tp.heap_1 w.params).In h) : Looks M h (isSubtype (.ref 44) (.type "BaseException")) true :=
  looks_mroIn X (by kernel_rfl)

abbrev exc44 (t : Addr) : Obj := { cls := .ref 44, data := .fields #[.ref t, .none, .none, .none, .bool false, .none] }
abbrev tup (l : List Value) : Obj := { cls := .type "tuple", data := .seq l.toArray }

theorem raiseStmt_mine {s : Shared} {x : Sem Value} {Q : Flow → Shared → Prop} (hh : A.handled = none)
    (h : wpAny (MD w) A x (fun v s₁ => ∃ e oe t, v = .ref e ∧ (tp.heap_1 w.params).In s₁.heap ∧
      s₁.heap.get? e = some oe ∧ oe.cls = .ref 44 ∧ oe.data = .fields #[.ref t, .none, .none, .none, .bool false, .none] ∧ E (.ref e) s₁) E s) :
    wpAny (MD w) A (raiseStmt env (some x) none) Q E s := by
  unfold raiseStmt
  refine wpAny_bind (wpAny_mono h (fun v s₁ h₁ => ?_) fun _ _ x => x)
  obtain ⟨e, oe, t, rfl, X, he, hc, hd, hE⟩ := h₁
  have S := sub44 (M := MD w) X
  obtain ⟨hp, g, d, tk, os⟩ := s₁
  have q44 : ((tp.heap_1 w.params).lookup 44).map (·.cls) = some (.type "type") := by kernel_rfl
  obtain ⟨o44, h44', c44⟩ := Option.map_eq_some_iff.mp q44
  have h44 : hp.get? 44 = some o44 := X 44 o44 h44'
  repeat (first | (with_reducible refine wpAny_loadPart_at he ?_; rw [hc]) | lk | wp_step)
  rw [hd]
  refine wpAny_pure ?_
  rw [show (#[Value.ref t, .none, .none, .none, .bool false, .none] : Array Value)[1]? = some .none from rfl]
  refine wpAny_pure ?_
  rw [if_neg (by decide)]
  exact wpAny_pure (wpAny_raiseNew_none hh hE)
end

section
variable {w : World} {A : Around} {R : Result → Shared → Prop} {h : Heap} {g : Array GenState} {d : Drawn} {t : Nat} {os : OsState}
abbrev cd44 : ClassData := { name := "RunFault", bases := [.ref 31], mro := [.ref 44, .ref 31, .type "Exception", .type "BaseException", .type "object"], ns := 43, qualname := "RunFault" }
abbrev cls44 : Obj := { cls := .type "type", data := .cls cd44, slots := #[some (.ref 35), none, some (.str "RunFault" 218), some (.str "RunFault" 226), some (.builtin "Exception.__new__"), some (.bool true)] }
theorem lk44 (P : Params) : (tp.heap_1 P).lookup 44 = some cls44 := by kernel_rfl
theorem chk44 (X : (tp.heap_1 w.params).In h) (rest : List Value) : Looks (MD w) h (checkBuiltinCall "Exception.__new__" ⟨.ref 44 :: rest, []⟩) () :=
  Looks.of_peek X (by kernel_rfl)
theorem new44 (X : (tp.heap_1 w.params).In h) {rest : List Value}
    (hq : R (.ok (.ret (.ref (h.objs.size + 1)))) ⟨(h.push (tup rest)).push (exc44 h.objs.size), g, d, t, os⟩) (hrest : rest.length ≤ sizeLine) :
    codeAny (MD w) A (.builtin "Exception.__new__" ⟨.ref 44 :: rest, []⟩) R ⟨h, g, d, t, os⟩ := by
  have Fn := PySem.F.excBase_Exception
  have hends := Fn.ends
  have l1 : Looks (MD w) h (isSubtype (.ref 44) (.type "Exception")) true := Looks.of_peek X (by kernel_rfl)
  have l2 : Looks (MD w) h (isSubtype (.ref 44) (.type "AttributeError")) false := Looks.of_peek X (by kernel_rfl)
  have l3 : Looks (MD w) h (isSubtype (.ref 44) (.type "NameError")) false := Looks.of_peek X (by kernel_rfl)
  have l4 : Looks (MD w) h (Bind.madeHere "BaseException.__new__" (.ref 44)) () := Looks.of_peek X (by kernel_rfl)
  have l5 : Looks (MD w) h (isType (.ref 44)) true := Looks.of_peek X (by kernel_rfl)
  refine codeAny_builtinAt Fn.entry ?_
  unfold Builtin.«BaseException.__new__»
  refine PySem.wpAt_bind ?_
  show PySem.wpAt _ _ _ (stack >>= _) _ _ _
  refine PySem.wpAt_bind (PySem.wpAt_stack fun p below => PySem.wpAt_of_wpAny ?_)
  wp_walk
  refine PySem.wpAt_of_wpAny ?_
  rw [Fn.owner]
  have h44 : h.get? 44 = some cls44 := X 44 _ (lk44 _)
  repeat (first | lk | wp_step)
  refine wpAny_load (Heap.get?_push_of_some _ (Heap.get?_push_of_some _ h44)) ?_
  refine wpAny_pure ?_
  rw [if_neg (by decide)]
  refine wpAny_pure (wpAny_pure ?_)
  show R _ _
  rw [Heap.size_push]
  exact hq

theorem call44 (X : (tp.heap_1 w.params).In h) {rest : List Value} (hrest : rest.length ≤ sizeLine)
    (hq : codeAny (MD w) (A.under (.builtin "type.__call__" ⟨.ref 44 :: rest, []⟩)) (.call (.ref 28) ⟨.ref (h.objs.size + 1) :: rest, []⟩) (InitBack (h.objs.size + 1) R) ⟨(h.push (tup rest)).push (exc44 h.objs.size), g, d, t, os⟩) :
    codeAny (MD w) A (.call (.ref 44) ⟨rest, []⟩) R ⟨h, g, d, t, os⟩ := by
  have hC : h.get? 44 = some cls44 := X 44 _ (lk44 _)
  have call : Looks (MD w) h (specialOf (.ref 44) "__call__") (some (.builtin "type.__call__")) := looks_specialIn X (by kernel_rfl)
  have typ : Looks (MD w) h (isInstance (.ref 44) (.type "type")) true := looks_instIn X (by kernel_rfl)
  refine codeAny_of_tree ?_
  show wpAny _ _ (callAny (.ref 44) _) _ _ _
  refine nd_load hC ?_
  show wpAny _ _ (callAny.viaDunder (.ref 44) _) _ _ _
  unfold callAny.viaDunder
  refine wpAny_bind (call.at ?_)
  dsimp only
  rw [tc_bind]
  refine wpAny_bind (wpAny_pure (wpAny_bind (wpAny_pure ?_)))
  refine wpAny_pure (a := PySem.Fin.again (.call (.builtin "type.__call__") ⟨.ref 44 :: rest, []⟩)) (And.intro rfl ?_)
  refine codeAny_call_builtin_at (Code.quiet_builtin _ (by decide +kernel)) entry_typeCall (check_slot tc_kind tc_split typ (tc_args _ _ _) ?_)
  unfold Builtin.«type.__call__»
  have made : Looks (MD w) h (Bind.madeBy (.ref 44)) (some "Exception.__new__") := Looks.of_peek X (by kernel_rfl)
  have hm : Looks (MD w) h (mroOf (.ref 44)) [.ref 44, .ref 31, .type "Exception", .type "BaseException", .type "object"] := Looks.of_peek X (by kernel_rfl)
  repeat (first | with_reducible refine wpAny_call ?_ | lk)
  refine codeAny_call_builtin_code (Code.quiet_builtin _ PySem.F.excBase_Exception.quiet) ((chk44 X rest).here (new44 X ?_ hrest))
  have k : ∀ b o, h.get? b = some o → ((h.push (tup rest)).push (exc44 h.objs.size)).get? b = some o := fun b o e => Heap.get?_push_of_some _ (Heap.get?_push_of_some _ e)
  have X1 : (tp.heap_1 w.params).In ((h.push (tup rest)).push (exc44 h.objs.size)) := X.keeps k
  have hx : ((h.push (tup rest)).push (exc44 h.objs.size)).get? (h.objs.size + 1) = some (exc44 h.objs.size) := by heap_get
  have t1 : Looks (MD w) ((h.push (tup rest)).push (exc44 h.objs.size)) (typeOf (.ref (h.objs.size + 1))) (.ref 44) := (Looks.ld hx).andThen .now
  have s1 : Looks (MD w) ((h.push (tup rest)).push (exc44 h.objs.size)) (isSubtype (.ref 44) (.ref 44)) true := looks_mroIn X1 (by kernel_rfl)
  have i1 : Looks (MD w) ((h.push (tup rest)).push (exc44 h.objs.size)) (typeLookup (.ref 44) "__init__") (some (.ref 28)) := looks_findIn X1 (by kernel_rfl)
  have b1 : Looks (MD w) ((h.push (tup rest)).push (exc44 h.objs.size)) (bindSpecial (.ref 28) (.ref (h.objs.size + 1))) (.ref 28, [.ref (h.objs.size + 1)]) := bind_fn X1 _ (by kernel_rfl)
  unfold isInstance callSpecial? specialOf
  repeat (first | with_reducible refine wpAny_call ?_ | lk)
  refine codeAny_mono hq fun r s' z => ?_
  rcases r with e | (v | _ | _ | _) <;> first | exact z | exact z.elim | skip
  obtain ⟨rfl, z⟩ := z
  exact wpAny_pure (wpAny_pure z)
end

section
variable {w : World} {A : Around} {E : Value → Shared → Prop} {h : Heap} {g : Array GenState} {d : Drawn} {tk : Nat} {os : OsState}
theorem chk_init44 {Q : Unit → Shared → Prop} {e t : Addr} {rest : List Value} (X : (tp.heap_1 w.params).In h) (he : h.get? e = some (exc44 t)) (hq : Q () ⟨h, g, d, tk, os⟩) :
    wpAny (MD w) A (checkBuiltinCall "Exception.__init__" ⟨.ref e :: rest, []⟩) Q E ⟨h, g, d, tk, os⟩ := by
  have F := PySem.F.excBase_Exception
  have t1 : Looks (MD w) h (typeOf (.ref e)) (.ref 44) := (Looks.ld he).andThen .now
  have s1 : Looks (MD w) h (isSubtype (.ref 44) (.type "Exception")) true := looks_mroIn X (by kernel_rfl)
  have i1 : Looks (MD w) h (isInstance (.ref e) (.type "Exception")) true := t1.andThen s1
  have hC : h.get? 44 = some cls44 := X 44 _ (lk44 _)
  have hshort := F.noStar
  simp only [checkBuiltinCall, F.initKind, F.initSplit, F.initRow]
  repeat (first | (with_reducible refine wpAny_loadPart_at he ?_) | with_reducible refine wpAny_loadPart_at hC ?_ | lk | wp_step)
  rw [if_neg (by simp; intro _; rfl)]
  exact wpAny_pure hq

theorem exc_init44 {Q : Value → Shared → Prop} {e t : Addr} {v : Value} (X : (tp.heap_1 w.params).In h) (he : h.get? e = some (exc44 t))
    (hq : Q .none ⟨(h.push (tup [v])).update e (Obj.mapFields (·.setIfInBounds 0 (.ref h.objs.size))), g, d, tk, os⟩) :
    wpAny (MD w) A (call (.builtin "Exception.__init__") [.ref e, v]) Q E ⟨h, g, d, tk, os⟩ := by
  have F := PySem.F.excBase_Exception
  refine wpAny_call (codeAny_call_builtin F.init.plain F.initEntry (chk_init44 X he ?_))
  unfold Builtin.«BaseException.__init__»
  have he2 := Heap.get?_push_of_some (tup [v]) he
  repeat (first | lk | wp_step)
  refine wpAny_update he2 ?_
  repeat (first | lk | wp_step)
  exact hq

theorem set_text44 {Q : Unit → Shared → Prop} {e t : Addr} {v : Value} (X : (tp.heap_1 w.params).In h) (he : h.get? e = some (exc44 t))
    (hq : ∀ h', (∀ b o, b ≠ e → h.get? b = some o → h'.get? b = some o) → h'.get? e = some { exc44 t with dict := some h.objs.size } → Q () ⟨h', g, d, tk + 2, os⟩) :
    wpAny (MD w) A (setAttr (.ref e) "text" v) Q E ⟨h, g, d, tk, os⟩ := by
  have t1 : Looks (MD w) h (typeOf (.ref e)) (.ref 44) := (Looks.ld he).andThen .now
  have s1 : Looks (MD w) h (isSubtype (.ref 44) (.type "object")) true := looks_mroIn X (by kernel_rfl)
  have i1 : Looks (MD w) h (isInstance (.ref e) (.type "object")) true := t1.andThen s1
  have sp : Looks (MD w) h (typeLookup (.ref 44) "__setattr__") (some (.builtin "object.__setattr__")) := looks_findIn X (by kernel_rfl)
  have tx : Looks (MD w) h (typeLookup (.ref 44) "text") none := looks_findIn X (by kernel_rfl)
  have hC : h.get? 44 = some cls44 := X 44 _ (lk44 _)
  have SF := PySem.F.store_object
  have hm : Looks (MD w) h (mroOf (.ref 44)) [.ref 44, .ref 31, .type "Exception", .type "BaseException", .type "object"] := Looks.of_peek X (by kernel_rfl)
  have rl : Looks (MD w) h (refuseLoop (.ref e) "__setattr__" [.ref 44, .ref 31, .type "Exception", .type "BaseException", .type "object"]) () := Looks.of_peek X (by kernel_rfl)
  unfold setAttr callSpecial? specialOf
  repeat (first | with_reducible refine wpAny_call ?_ | lk)
  show codeAny _ _ (.call (.builtin "object.__setattr__") ⟨[.ref e, .str (Str.ofString "text") tk, v], []⟩) _ _
  refine codeAny_call_builtin SF.slot.plain SF.entry (@check_slot (MD w) _ _ ⟨h, g, d, tk + 1, os⟩ "object.__setattr__" "object" "__setattr__" (.ref e) [.str (Str.ofString "text") tk, v] [] _ SF.kind SF.split i1 (SF.args (.ref e) (.str (Str.ofString "text") tk) v) ?_)
  rw [osa_eq, refuse_eq]
  repeat (first | with_reducible refine wpAny_call ?_ | lk)
  refine wpAny_update (Heap.get?_push_of_some _ he) ?_
  refine wpAny_pure ?_
  dsimp only
  have hd : (((h.push { cls := .type "dict", data := .dict #[] }).update e (fun o => { o with dict := some h.objs.size }))).get? h.objs.size = some { cls := .type "dict", data := .dict #[] } := by
    rw [Heap.get?_update_other _ _ (Nat.ne_of_lt (Heap.lt_size he))]
    exact Heap.get?_push_size _ rfl
  have he2 := Heap.get?_update_self (fun o : Obj => { o with dict := some h.objs.size }) (Heap.get?_push_of_some { cls := .type "dict", data := .dict #[] } he) rfl
  unfold Builtin.ObjectAttr.storeInDict Builtin.ObjectAttr.newKeyGuard
  refine wpAny_bind (wpAny_pure (wpAny_bind ?_))
  unfold nsSet
  refine wpAny_bind (wpAny_bind (wpAny_askSetting (wpAny_pure (wpAny_bind (wpAny_mkText (wpAny_bind (wpAny_loadPart hd ?_)))))))
  dsimp only
  rw [if_neg (by decide)]
  refine wpAny_updatePart hd ?_
  have hput : ∀ k key, Obj.putName (Str.ofString "text") k key v { cls := .type "dict", data := .dict #[] } = dictOf (putL "text" k key v []) (putN "text" [] 0) := fun k key => putName_dict _ _ _ _ [] 0
  have hd2 := Heap.get?_update_self (Obj.putName (Str.ofString "text") (if (Str.ofString "text").cps.isEmpty = true then 0 else reduceHash ((model Challenge.rw_sa0216_01.row.prog w).w.params.strHash (Str.ofString "text").cps)) (.str (Str.ofString "text") (tk + 1)) v) hd (by rw [hput]; rfl)
  rw [hput] at hd2
  refine wpAny_bind (wpAny_lookBehind hd2 (pastItsLine_dict (by rw [List.size_toArray, sizeLine_eq]; simp [putL])) ?_)
  refine wpAny_pure (wpAny_pure (wpAny_pure ?_))
  refine hq _ (fun b o hb ho => ?_) ?_
  · have hbd : h.objs.size ≠ b := Nat.ne_of_gt (Heap.lt_size ho)
    rw [Heap.get?_update_other _ _ hbd, Heap.get?_update_other _ _ (Ne.symm hb)]
    exact Heap.get?_push_of_some _ ho
  · rw [Heap.get?_update_other _ _ (Nat.ne_of_gt (Heap.lt_size he))]
    exact he2
end
section

theorem meta_exc : typeOf (.type "Exception") = pure (.type "type") := by
  first | kernel_rfl | rfl
theorem exc_init_step {w : World} {A : Around} {E : Value → Shared → Prop} {s : Shared} {h₀ : Heap} {L : Addr} {m : Str → Option Value} {e t : Addr} {v : Value} {news : List (Addr × Obj)} {Q : Value → Shared → Prop}
    (F : Fr h₀ L s.heap m) (X : (tp.heap_1 w.params).In h₀) (N : News h₀ L s.heap ((e, exc44 t) :: news)) (hn : ∀ p ∈ news, p.1 ≠ e)
    (hq : ∀ t' h', Fr h₀ L h' m → News h₀ L h' ((e, exc44 t') :: (t', tup [v]) :: news) → (∀ p ∈ ((t', tup [v]) :: news), p.1 ≠ e) → (∀ p ∈ news, p.1 ≠ t') → Q .none { s with heap := h' }) :
    wpAny (MD w) A (call (.builtin "Exception.__init__") [.ref e, v]) Q E s := by
  obtain ⟨h, g, d, tk, os⟩ := s
  refine exc_init44 (X.keeps F.keep) (N.get (.head _)) ?_
  have N2 := N.push F (tup [v])
  have hlt : ∀ p ∈ ((e, exc44 t) :: news), p.1 < h.objs.size := fun p hp => Heap.lt_size (N p hp).1
  have N3 : News h₀ L (h.push (tup [v])) ([] ++ (e, exc44 t) :: (h.objs.size, tup [v]) :: news) := fun p hp => N2 p (by
    rcases List.mem_cons.mp hp with rfl | hp
    · exact .tail _ (.head _)
    rcases List.mem_cons.mp hp with rfl | hp
    · exact .head _
    · exact .tail _ (.tail _ hp))
  have hn3 : ∀ p ∈ ((h.objs.size, tup [v]) :: news), p.1 ≠ e := fun p hp => by
    rcases List.mem_cons.mp hp with rfl | hp
    · exact Nat.ne_of_gt (hlt _ (.head _))
    · exact hn p hp
  obtain ⟨U1, U2⟩ := news_upd (f := Obj.mapFields (·.setIfInBounds 0 (.ref h.objs.size))) (o' := exc44 h.objs.size) (F.push _) N3 (fun _ h => nomatch h) hn3 rfl rfl
  exact hq _ _ U1 U2 hn3 fun p hp => Nat.ne_of_lt (hlt p (.tail _ hp))
theorem set_text_step {w : World} {A : Around} {E : Value → Shared → Prop} {s : Shared} {h₀ : Heap} {L : Addr} {m : Str → Option Value} {e t : Addr} {v : Value} {news : List (Addr × Obj)} {Q : Unit → Shared → Prop}
    (F : Fr h₀ L s.heap m) (X : (tp.heap_1 w.params).In h₀) (N : News h₀ L s.heap ((e, exc44 t) :: news)) (hn : ∀ p ∈ news, p.1 ≠ e)
    (hq : ∀ dx h', Fr h₀ L h' m → News h₀ L h' ((e, { exc44 t with dict := some dx }) :: news) → Q () { s with heap := h', toks := s.toks + 2 }) :
    wpAny (MD w) A (setAttr (.ref e) "text" v) Q E s := by
  obtain ⟨h, g, d, tk, os⟩ := s
  refine set_text44 (X.keeps F.keep) (N.get (.head _)) fun h' k1 k2 => ?_
  have ne : ∀ b o, h₀.get? b = some o → b ≠ e := fun b o q z => by rw [z, N.fresh (.head _)] at q; cases q
  have nL : L ≠ e := fun z => (N _ (.head _)).2.1 z.symm
  obtain ⟨oL, a1, a2, hL, a3⟩ := F.ns
  refine hq h.objs.size _ ⟨⟨oL, a1, a2, k1 _ _ nL hL, a3⟩, fun b o q => k1 _ _ (ne b o q) (F.keep b o q), F.above⟩ fun p hp => ?_
  rcases List.mem_cons.mp hp with rfl | hp
  · exact ⟨k2, (N _ (.head _)).2⟩
  · exact ⟨k1 _ _ (hn p hp) (N _ (.tail _ hp)).1, (N _ (.tail _ hp)).2⟩

theorem ln1 : True := by
  (k_with "getMethod type:Exception" => (k_here; refine' method_type ?Fq1 ?Xq1 ?mq1 (by decide +kernel) ?eq1 ?hq1 ?_; (case Fq1 => k_asm); (case Xq1 => k_asm); (case mq1 => exact meta_exc); (case eq1 => k_dflt k_is); (case hq1 => k_handed)))
  (k_with "call builtin:Exception.__init__" => (k_here; refine' exc_init_step ?Fq2 ?Xq2 ?Nq2 ?nq2 ?_; (case Fq2 => k_asm); (case Xq2 => k_asm); (case Nq2 => k_asm); (case nq2 => assumption); intro t' h' F' N' n1' n2'; (try k_sweep)))
  (k_with "setAttr ref" => (k_here; refine' set_text_step ?Fq3 ?Xq3 ?Nq3 ?nq3 ?_; (case Fq3 => k_asm); (case Xq3 => k_asm); (case Nq3 => k_asm); (case nq3 => assumption); intro d' h' F' N'; (try k_sweep)))
  trivial
theorem news_third {h₀ h : Heap} {L : Addr} {p q r : Addr × Obj} {news : List (Addr × Obj)} (N : News h₀ L h (p :: q :: r :: news)) : News h₀ L h (p :: q :: news) := fun x hx => N x (by
    rcases List.mem_cons.mp hx with rfl | hp
    · exact .head _
    rcases List.mem_cons.mp hp with rfl | hp
    · exact .tail _ (.head _)
    · exact .tail _ (.tail _ (.tail _ hp)))
theorem ne_third {e : Addr} {p q : Addr × Obj} {news : List (Addr × Obj)} (H : ∀ x ∈ p :: q :: news, x.1 ≠ e) : ∀ x ∈ p :: news, x.1 ≠ e := fun x hx => by
  rcases List.mem_cons.mp hx with rfl | hp
  · exact H _ (.head _)
  · exact H _ (.tail _ (.tail _ hp))
theorem ne_tail {e : Addr} {q : Addr × Obj} {news : List (Addr × Obj)} (H : ∀ x ∈ q :: news, x.1 ≠ e) : ∀ x ∈ news, x.1 ≠ e := fun x hx => H x (.tail _ hx)
theorem rf_call {w : World} {A : Around} {E : Value → Shared → Prop} {s : Shared} {A₀ : Around} {base h₀ : Heap} {env : Env} {outer : List Env} {L : Addr} {m : Str → Option Value} {news : List (Addr × Obj)} {mean : ExcName → Option Value} {mg mb : Str → Option Value} {x : Str} {tk : Tok} {Q : Value → Shared → Prop}
    (B : Below A₀ base outer h₀) (F : Fr h₀ L s.heap m) (X : (tp.heap_1 w.params).In h₀) (N : News h₀ L s.heap news) (T : Top tp.vw (looseW tp.vw []) mean mg mb h₀)
    (hA : A.frames = some (env :: outer)) (hf : env.frame = some L) (hk : env.scope.kind = .function) (hd : A.depth + 1 < recursionLimit)
    (hq : ∀ e t d vs h' tk', Fr h₀ L h' m → News h₀ L h' ((e, { exc44 t with dict := d }) :: (t, tup vs) :: news) → (∀ p ∈ ((t, tup vs) :: news), p.1 ≠ e) → (∀ p ∈ news, p.1 ≠ t) → Q (.ref e) { s with heap := h', toks := tk' }) :
    wpAny (MD w) A (call (.ref 44) [.str x tk]) Q E s := by
  obtain ⟨h, g, d, t, os⟩ := s
  refine wpAny_call (call44 (X.keeps F.keep) (by simp [sizeLine_eq]) ?_)
  have F2 := (F.push (tup [.str x tk])).push (exc44 h.objs.size)
  have N2 := (N.push F (tup [.str x tk])).push (F.push _) (exc44 h.objs.size)
  rw [Heap.size_push] at N2
  have hne : ∀ p ∈ ((h.objs.size, tup [.str x tk]) :: news), p.1 ≠ h.objs.size + 1 := by
    intro p hp
    rcases List.mem_cons.mp hp with rfl | hp
    · exact Nat.ne_of_lt (Nat.lt_succ_self _)
    · exact Nat.ne_of_lt (Nat.lt_succ_of_lt (Heap.lt_size (N _ hp).1))
  refine' code_def (s := ⟨(h.push (tup [.str x tk])).push (exc44 h.objs.size), g, d, t, os⟩) B F2 X N2 T hA hf hk ?k6 ?k7 ?k8 ?k9 ?kB ?_ ?c2 ?c3 ?c4 ?c5
  case k6 => k_is
  case k7 => k_is
  case k8 => simp only [depth_under_make]; exact hd
  case k9 => exact BindsTo.of_eq rfl
  case c5 => decide
  case kB => exact locs rfl
  case c2 => exact rfl
  case c3 => exact rfl
  case c4 => exact rfl
  intro g' L' h' FG' F' N' B' X' T'
  dsimp only
  k_fold
  k_steps
  with_reducible rename News h₀ L _ _ => NN
  exact hq _ _ _ _ _ _ (by assumption) (news_third NN) (ne_third (by assumption)) (ne_tail (by assumption))

def RX (base G : Heap) (l : List Env) (e : Addr) (news : List (Addr × Obj)) (h : Heap) : Prop :=
  ∃ t vs, RaisedS base G l e (.ref 44) t vs news h

section
variable {M : Model} {A : Around} {E : Value → Shared → Prop} {s' : Shared} {base g G : Heap} {outer : List Env} {L a e t : Addr} {m : Str → Option Value} {name : Str} {scope : Scope} {cd : Value} {Q : Unit → Shared → Prop} {news : List (Addr × Obj)} {d : Option Addr} {vs : List Value}
theorem leave_first (K : Below A base outer g) (F : Fr g L s'.heap m) (N : News g L s'.heap ((e, { exc44 t with dict := d }) :: (t, tup vs) :: news)) (hn : ∀ p ∈ ((t, tup vs) :: news), p.1 ≠ e) (hn2 : ∀ p ∈ news, p.1 ≠ t)
    (hQ : ∀ h', RX base g outer e news h' → g.UpToSlots h' → Q () { s' with heap := h' }) (hk : scope.kind = .function := by rfl) :
    wpAny M (A.deeper (envOf name scope L a cd)) (leaving (envOf name scope L a cd) (.ref e)) Q E s' := by
  have K' := K.push (name := name) (a := a) (cd := cd) F hk
  have he := N.get (.head _)
  have ht := N.get (.tail _ (.head _))
  let fs := e :: t :: (envOf name scope L a cd :: outer).filterMap (·.frame)
  have hen : (hideAll s'.heap fs).get? e = none := hideAll_none _ (.head _)
  have htn : (hideAll s'.heap fs).get? t = none := hideAll_none _ (.tail _ (.head _))
  have hin : ∀ env ∈ (envOf name scope L a cd :: outer), ∀ b, env.frame = some b → b ∈ fs := fun env hm b hb => .tail _ (.tail _ (List.mem_filterMap.mpr ⟨env, hm, hb⟩))
  have sg : ∀ b o, g.get? b = some o → b ∉ outer.filterMap (·.frame) → (hideAll s'.heap fs).get? b = some o := fun b o q nm => hideAll_get _ (F.keep b o q) fun hm => by
    rcases List.mem_cons.mp hm with z | hm
    · rw [z, N.fresh (.head _)] at q
      cases q
    rcases List.mem_cons.mp hm with z | hm
    · rw [z, N.fresh (.tail _ (.head _))] at q
      cases q
    rcases kts_mem hm with z | z
    · rw [z, kts_self F] at q
      cases q
    · exact nm z
  have st : base.StaysIn (hideAll s'.heap fs) := fun b o q => sg b o (K.stays b o q) fun hm => by
    rw [(K.frames.mem hm).1] at q; cases q
  have hl : ∀ q ∈ news, (hideAll s'.heap fs).get? q.1 = some q.2 ∧ g.get? q.1 = none ∧ base.get? q.1 = none := fun q hq => by
    have Nq := N q (.tail _ (.tail _ hq))
    refine ⟨hideAll_get _ Nq.1 fun hm => ?_, Nq.2.2, fresh_of_stays K.stays Nq.2.2⟩
    rcases List.mem_cons.mp hm with z | hm
    · exact hn q (.tail _ hq) z
    rcases List.mem_cons.mp hm with z | hm
    · exact hn2 q hq z
    obtain ⟨env, he, hf⟩ := List.mem_filterMap.mp hm
    rcases List.mem_cons.mp he with rfl | he
    · exact Nq.2.1 (Option.some.inj hf).symm
    · obtain ⟨o, ho, _⟩ := (K.frames.mem (List.mem_filterMap.mpr ⟨env, he, hf⟩)).2
      rw [Nq.2.2] at ho; cases ho
  refine wpAny_leaving_firstW (a0 := .ref t) K'.stack (funFrames_hide K'.frames hin) rfl he (fun b o q => of_hideAll _ q) hen rfl rfl rfl fun h' hL => ?_
  obtain ⟨k1, ⟨_, _, k2⟩, k3, k4⟩ := hL
  exact hQ h' ⟨t, vs, ⟨_, st, sg, hl, ⟨k1, hen, k2, k3⟩, htn⟩, Heap.TupAt.of_slots ⟨_, _, ht, rfl, rfl⟩ k4⟩ ((Heap.UpToSlots.of_keeps F.keep).trans k4)

theorem leave_on (K : Below A base outer g) (F : Fr g L G m) (R : RX base G (envOf name scope L a cd :: outer) e news s'.heap) (hsm : G.UpToSlots s'.heap)
    (hQ : ∀ h', RX base g outer e news h' → g.UpToSlots h' → Q () { s' with heap := h' }) :
    wpAny M (A.deeper (envOf name scope L a cd)) (leaving (envOf name scope L a cd) (.ref e)) Q E s' := by
  obtain ⟨t, vs, R⟩ := R
  exact leave_onS K F R hsm fun h' R' _ u => hQ h' ⟨t, vs, R'⟩ u
end

def RaiseEnd (w : World) (E : Value → Shared → Prop) (v : Value) (s₁ : Shared) : Prop :=
  ∃ e t d, v = .ref e ∧ (tp.heap_1 w.params).In s₁.heap ∧ s₁.heap.get? e = some { exc44 t with dict := d } ∧ E (.ref e) s₁
theorem Raise_mine {w : World} {A : Around} {E : Value → Shared → Prop} {env : Env} {s : Shared} {x : Expr} {pos : Pos} {Q : Flow → Shared → Prop} (hh : A.handled = none)
    (h : wpAny (MD w) A (eval x env) (fun v s₁ => RaiseEnd w E v s₁) E s) : wpAny (MD w) A (exec (.Raise (some x) none pos) env) Q E s := by
  rw [arm_exec_Raise]
  refine wpAny_bind (wpAny_standAt ?_)
  refine raiseStmt_mine hh (wpAny_bind (wpAny_mono h (fun v s₁ h₁ => ?_) fun _ _ x => x))
  obtain ⟨e, t, d, rfl, X, he, hE⟩ := h₁
  exact wpAny_bind (wpAny_standAt (wpAny_pure ⟨e, _, t, rfl, X, he, rfl, rfl, hE⟩))
theorem raiseEnd_ {w : World} {E : Value → Shared → Prop} {s : Shared} {h₀ : Heap} {L : Addr} {m : Str → Option Value} {e t : Addr} {d : Option Addr} {news : List (Addr × Obj)}
    (F : Fr h₀ L s.heap m) (X : (tp.heap_1 w.params).In h₀) (N : News h₀ L s.heap ((e, { exc44 t with dict := d }) :: news)) (hE : E (.ref e) s) : RaiseEnd w E (.ref e) s :=
  ⟨e, t, d, rfl, X.keeps F.keep, N.get (.head _), hE⟩
end
theorem ln2 : True := by
  k_with_none
  trivial
abbrev cTop (dp un : Nat) (gd : Option (List Code)) (cn : Str) (cs : Scope) (L a : Addr) (ccd : Value) (outer : List Env) : Around := { handled := none, depth := dp, frames := some (envOf cn cs L a ccd :: outer), guards := gd, units := un }

/-- a call that hands back R t and makes nothing that is kept; it raises where Ex -/
abbrev Ct (D : Nat) (w : World) (f : Addr) (vs : List Value) (news : List (Addr × Obj)) (R : Tok → Value) (Ex : Prop) : Prop :=
  ∀ (mean : ExcName → Option Value) (mg mb : Str → Option Value) (dp un : Nat) (gd : Option (List Code)) (cn : Str) (cs : Scope) (a : Addr) (ccd : Value) (outer : List Env) (A₀ : Around) (base h₀ : Heap) (L : Addr) (m : Str → Option Value) (s : Shared) (Q E : Value → Shared → Prop),
    Below A₀ base outer h₀ → Fr h₀ L s.heap m → (tp.heap_1 w.params).In h₀ → News h₀ L s.heap news → Top tp.vw (looseW tp.vw []) mean mg mb h₀ → cs.kind = .function →
    dp + D < recursionLimit → un + 10 * D < cLine →
    (∀ t h' tk', ¬ Ex → Fr h₀ L h' m → News h₀ L h' news → Q (R t) { s with heap := h', toks := tk' }) →
    (Ex → ∀ e G h' tk', Fr h₀ L G m → RX base G (envOf cn cs L a ccd :: outer) e news h' → G.UpToSlots h' → E (.ref e) { s with heap := h', toks := tk' }) →
    wpAny (model Challenge.rw_sa0216_01.row.prog w) (cTop dp un gd cn cs L a ccd outer) (call (.ref f) vs) Q E s
theorem RX.sub {base G : Heap} {l : List Env} {e : Addr} {news news' : List (Addr × Obj)} {h : Heap} (R : RX base G l e news' h) (hs : ∀ p ∈ news, p ∈ news') : RX base G l e news h := by
  obtain ⟨t, vs, ⟨B, x1, x2, x3, x4⟩, x5⟩ := R
  exact ⟨t, vs, ⟨B, x1, x2, fun q hq => x3 q (hs q hq), x4⟩, x5⟩
theorem room_0 {dp D D' : Nat} (h : dp + D < recursionLimit) (e : D' ≤ D) : dp + D' < recursionLimit := Nat.lt_of_le_of_lt (Nat.add_le_add_left e dp) h
theorem room_1 {dp D k D' : Nat} (h : dp + D < recursionLimit) (e : k + D' ≤ D) : dp + k + D' < recursionLimit := by rw [Nat.add_assoc]; exact room_0 h e
theorem room_2 {dp D : Nat} (h : dp + D < recursionLimit) : dp < recursionLimit := Nat.lt_of_le_of_lt (Nat.le_add_right _ _) h
theorem unit_0 {un D D' : Nat} (h : un + D < cLine) (e : D' ≤ D) : un + D' < cLine := Nat.lt_of_le_of_lt (Nat.add_le_add_left e un) h
theorem unit_1 {un D k D' : Nat} (h : un + D < cLine) (e : k + D' ≤ D) : un + k + D' < cLine := by rw [Nat.add_assoc]; exact unit_0 h e
theorem unit_2 {un D : Nat} (h : un + D < cLine) : un < cLine := Nat.lt_of_le_of_lt (Nat.le_add_right _ _) h
theorem unit_3 {un D k : Nat} (h : un + D < cLine) (e : k ≤ D) : un + k < cLine := unit_0 h e
theorem tdiv_abs (x y : Int) : Int.fdiv (x.natAbs : Int) (y.natAbs : Int) = ((x.natAbs / y.natAbs : Nat) : Int) := by
  rw [Int.fdiv_eq_ediv_of_nonneg _ (by omega)]; simp
theorem tdiv_same {x y : Int} (h : (decide (x < 0) == decide (y < 0)) = true) : Int.fdiv (x.natAbs : Int) (y.natAbs : Int) = Int.tdiv x y := by
  rw [tdiv_abs]
  have h' : x < 0 ↔ y < 0 := by simpa using h
  by_cases hx : x < 0
  · have hy := h'.mp hx
    have e1 : x = -(x.natAbs : Int) := by omega
    have e2 : y = -(y.natAbs : Int) := by omega
    rw [e1, e2, Int.neg_tdiv, Int.tdiv_neg, Int.neg_neg]
    simp [Int.tdiv]
  · have hy : ¬ y < 0 := fun z => hx (h'.mpr z)
    have e1 : x = (x.natAbs : Int) := by omega
    have e2 : y = (y.natAbs : Int) := by omega
    rw [e1, e2]
    simp [Int.tdiv]
theorem tdiv_diff {x y : Int} (h : (decide (x < 0) == decide (y < 0)) = false) : -Int.fdiv (x.natAbs : Int) (y.natAbs : Int) = Int.tdiv x y := by
  rw [tdiv_abs]
  have h' : ¬ (x < 0 ↔ y < 0) := by simpa using h
  by_cases hx : x < 0
  · have hy : ¬ y < 0 := fun z => h' ⟨fun _ => z, fun _ => hx⟩
    have e1 : x = -(x.natAbs : Int) := by omega
    have e2 : y = (y.natAbs : Int) := by omega
    rw [e1, e2, Int.neg_tdiv]
    simp [Int.tdiv]
  · have hy : y < 0 := Classical.byContradiction fun z => h' ⟨fun q => absurd q hx, fun q => absurd q z⟩
    have e1 : x = (x.natAbs : Int) := by omega
    have e2 : y = -(y.natAbs : Int) := by omega
    rw [e1, e2, Int.tdiv_neg]
    simp [Int.tdiv]
theorem abs_r {prog : Program} {w : World} {A : Around} {E : Value → Shared → Prop} {s : Shared} {a : Int} {t : Tok} {Q : Value → Shared → Prop}
    (h : ∀ u tk, Q (.int (a.natAbs : Int) u) { s with toks := tk }) : wpAny (model prog w) A (call (.builtin "abs") [.int a t]) Q E s := by
  refine call_abs_int fun u tk => ?_
  rw [show (if a < 0 then -a else a) = (a.natAbs : Int) from by split <;> omega]
  exact h u tk
theorem log2_40 {y : Int} (h1 : -549755813888 ≤ y) (h2 : y ≤ 549755813888) : y.natAbs.log2 < 9000 := by
  have h : y.natAbs < 2 ^ 9000 := Nat.lt_of_lt_of_le (show y.natAbs < 2 ^ 64 by omega) (Nat.pow_le_pow_right (by decide) (by decide))
  by_cases z : y.natAbs = 0
  · rw [z]; decide
  · exact (Nat.log2_lt z).mpr h
theorem retI {Q : Value → Shared → Prop} {z z' : Int} {t : Tok} {s : Shared} (e : z' = z) (h : Q (.int z t) s) : Q (.int z' t) s := e ▸ h
theorem retB {Q : Value → Shared → Prop} {z z' : Bool} {s : Shared} (e : z' = z) (h : Q (.bool z) s) : Q (.bool z') s := e ▸ h
theorem item_list_c {prog : Program} {w : World} {A : Around} {E : Value → Shared → Prop} {s : Shared} {h₀ : Heap} {L l : Addr} {news : List (Addr × Obj)} {value slice : PySem.Expr} {vs : List Value} {n : Nat} {k : Int} {u : Tok} {v : Value} {Q : Value → Shared → Prop}
    (N : News h₀ L s.heap news) (hm : (l, listOf vs.toArray n) ∈ news) (h0 : 0 ≤ k) (hhi : k < 2 ^ 63) (hx : vs[k.toNat]? = some v) (h : Q v s)
    (hs : subscripted slice false (.ref l) (.int k u) = operate [.ref l, .int k u] (getItem (.ref l) (.int k u))) :
    wpAny (model prog w) A (subscriptTail value slice (.ref l) (.int k u)) Q E s :=
  have hL : s.heap.IsList l vs.toArray := ⟨_, N.get hm, rfl, n, rfl⟩
  tail_any hL.typeIs slot_list_getitem.lookup (wpAny_getItem_list hL h0 hhi (by simpa using hx) h) hs
theorem ln3 : True := by
  (k_with "c.room" => ((try simp only [depth_deeper, depth_mark, depth_in1]); (try dsimp only [cTop]); first | exact room_1 (by assumption) (by decide) | exact room_0 (by assumption) (by decide) | exact room_2 (by assumption) | omega))
  (k_with "c.units" => ((try simp only [units_deeper, Around.mark_units, units_in1]); (try dsimp only [cTop]); first | exact unit_1 (by assumption) (by decide) | exact unit_0 (by assumption) (by decide) | exact unit_2 (by assumption) | omega))
  (k_with "exec Raise some none" => (k_here; refine Raise_mine rfl ?_))
  (k_with "RaiseEnd" => (k_here; refine' raiseEnd_ ?Fq7 ?Xq7 ?Nq7 ?_; (case Fq7 => k_asm); (case Xq7 => k_asm); (case Nq7 => k_asm); k_whole; try dsimp only))
  (k_with "call ref" => (k_here; (with_reducible show wpAny _ _ (call (Value.ref 44) _) _ _ _); k_dflt (refine' rf_call ?Bq8 ?Fq8 ?Xq8 ?Nq8 ?Tq8 ?Aq8 ?fq8 ?kq8 ?dq8 ?_; (case Aq8 => exact rfl); (case fq8 => exact rfl); (case kq8 => exact rfl); (case Bq8 => k_asm); (case Fq8 => k_asm); (case Xq8 => k_asm); (case Nq8 => k_asm); (case Tq8 => k_asm); (case dq8 => walk_at "c.room"); k_whole); intro e' t' d' vs' h' tk' F' N' hn' hn2'; (try k_sweep)))
  (k_with "leaving ref" => (k_here; first
    | (refine' leave_first ?Kq9 ?Fq9 ?Nq9 ?nq9 ?n2q9 ?_; (case Kq9 => assumption); (case Fq9 => assumption); (case Nq9 => assumption); (case nq9 => assumption); (case n2q9 => assumption); k_whole; intro h' R' U'; (try dsimp only at R' U' ⊢))
    | (refine' leave_on ?Kq9 ?Fq9 ?Rq9 ?Uq9 ?_; (case Rq9 => assumption); (case Kq9 => assumption); (case Uq9 => assumption); (case Fq9 => assumption); k_whole; intro h' R' U'; (try dsimp only at R' U' ⊢))))
  (k_with "c.enter" => (refine wpAny_call ?_; k_dflt (refine' code_def ?k1q10 ?k2q10 ?k3q10 ?k4q10 ?k5q10 ?kAq10 ?kFq10 ?kKq10 ?k6q10 ?k7q10 ?k8q10 ?k9q10 ?kBq10 ?_ ?c2q10 ?c3q10 ?c4q10 ?c5q10; (case kAq10 => exact rfl); (case kFq10 => exact rfl); (case kKq10 => assumption); (case k1q10 => k_asm); (case k2q10 => k_asm); (case k3q10 => k_asm); (case k4q10 => k_asm); (case k5q10 => k_asm); (case k6q10 => k_is); (case k7q10 => k_is); (case k8q10 => walk_at "c.room"); (case k9q10 => first | exact BindsTo.of_eq (binds := [(_, _)]) rfl | exact BindsTo.of_eq (binds := [(_, _), (_, _)]) rfl | exact BindsTo.of_eq (binds := [(_, _), (_, _), (_, _)]) rfl | exact BindsTo.of_eq (binds := [(_, _), (_, _), (_, _), (_, _)]) rfl | exact BindsTo.of_eq (binds := [(_, _), (_, _), (_, _), (_, _), (_, _)]) rfl | exact BindsTo.of_eq (binds := [(_, _), (_, _), (_, _), (_, _), (_, _), (_, _)]) rfl); (case c5q10 => decide); (case kBq10 => exact locs rfl); (case c2q10 => exact rfl); (case c3q10 => exact rfl); (case c4q10 => exact rfl); k_whole; intro g' L' h' FG' F' N' B' X' T'; (try dsimp only); (try k_fold))))
  (k_with "c.use.r" => ((case cB => k_asm); (case cF => k_asm); (case cX => k_asm); (case cN => k_asm); (case cT => k_asm); (case ck => first | exact rfl | assumption); (case cd => walk_at "c.room"); (case cu => walk_at "c.units")))
  trivial
local macro_rules | `(tactic| k_call_by "c.use" $t:term) => `(tactic| (k_dflt (refine' $t _ _ _ _ _ _ _ _ _ _ _ _ _ _ _ _ _ _ _ ?cB ?cF ?cX ?cN ?cT ?ck ?cd ?cu ?cr ?cx; walk_at "c.use.r")))
theorem ln4 : True := by
  (k_with "c.back" => ((case' cr => (intro t' h' tk' hx' F' N'; (try k_sweep); (try dsimp only); (try k_fold))); (case' cx => first | exact fun z => False.elim z | (intro hx' e' G' h' tk' FG' R' U'; (try dsimp only); (try k_fold)))))
  (k_with "eval Call" => (k_here; k_dflt (refine Call_ ?_)))
  trivial
local macro_rules | `(tactic| k_room) => `(tactic| ((try simp only [depth_under_make, depth_under_kw, depth_deeper, depth_mark, depth_in1]); (try dsimp only [cTop]); first | exact room_1 (by assumption) (by decide) | exact room_0 (by assumption) (by decide) | exact room_2 (by assumption) | omega))
theorem ln5 : True := by
  (k_with "c.side" => first | assumption | omega | (constructor <;> assumption))
  (k_with "ite" => (k_closed; first | refine ite_pos (by decide +kernel) ?_ | refine ite_neg (by decide +kernel) ?_))
  trivial
theorem ln6 : True := by
  (k_with "call builtin:abs" => (k_here; (with_reducible show wpAny _ _ (call (Value.builtin "abs") [Value.int _ _]) _ _ _); k_dflt (refine abs_r ?_); intro t' tk'))
  (k_with "c.ne" => first | assumption | decide | omega)
  (k_with "c.py" => first | assumption | (rw [Int.natAbs_natCast]; assumption) | decide)
  (k_with "binaryOp FloorDiv int int" => (k_here; k_dflt (refine' floordiv_int ?neq18 ?_ (Or.inl (PyProof.noPylong_of_log2 ?pyq18))); (case neq18 => walk_at "c.ne"); (case pyq18 => walk_at "c.py")))
  (k_with "c.py" => first | assumption | (rw [Int.natAbs_natCast]; assumption) | decide | exact log2_40 (by assumption) (by assumption))
  (k_with "c.num" => first | assumption | omega | decide)
  (k_with "binaryOp Pow int int" => (k_here; k_dflt (refine' pow_int_small ?caq21 ?cbq21 ?ccq21 ?_); (case caq21 => walk_at "c.num"); (case cbq21 => walk_at "c.num"); (case ccq21 => walk_at "c.num")))
  (k_with "subscriptTail" => (k_here; (with_reducible show wpAny _ _ (subscriptTail _ _ (Value.ref _) (Value.int _ _)) _ _ _); k_dflt (refine' item_list_c ?cNq22 ?cmq22 ?c0q22 ?chq22 ?cxq22 ?_ ?csq22; (case cNq22 => k_asm); (case cmq22 => k_mem); (case c0q22 => decide); (case chq22 => decide); (case cxq22 => rfl); (case csq22 => with_unfolding_all rfl); k_whole)))
  trivial
local macro_rules | `(tactic| k_mem) => `(tactic| first | assumption | exact List.Mem.head _ | (refine List.mem_cons_of_mem _ ?_; k_mem))
def NoFit (W n : Int) : Prop := n < -(2 ^ (W - 1).toNat) ∨ 2 ^ (W - 1).toNat ≤ n
theorem fit_int_c {w : World} {news : List (Addr × Obj)} {n W : Int} {t u : Tok} (h1 : 2 ≤ W) (h2 : W ≤ 40) :
    Ct 5 w 53 [.int n t, .int W u] news (fun t => .int n t) (NoFit W n) := by
  intro mean mg mb dp un gd cn cs a ccd outer A₀ base h₀ L m s Q E B F X N T hk hd hu hret hexn
  walk_at "c.enter"
  k_steps
  · (refine' hexn ?_ _ _ _ _ ?c1 ?c2 ?c3; (case c2 => first | k_asm | exact RX.sub (by assumption) (fun p hp => List.mem_append_left _ hp)); (case c3 => k_asm); (case c1 => k_asm))
    unfold NoFit; omega
  · (refine' hexn ?_ _ _ _ _ ?c1 ?c2 ?c3; (case c2 => first | k_asm | exact RX.sub (by assumption) (fun p hp => List.mem_append_left _ hp)); (case c3 => k_asm); (case c1 => k_asm))
    unfold NoFit; omega
  · (refine' hret _ _ _ ?_ ?c1 ?c2; (case c1 => k_asm); (case c2 => k_asm))
    unfold NoFit; omega
theorem ln7 : True := by
  (k_with "call ref" => (k_here; (with_reducible show wpAny _ _ (call (Value.ref 53) _) _ _ _); k_call_by "c.use" (fit_int_c ?h1q23 ?h2q23); (case h1q23 => walk_at "c.side"); (case h2q23 => walk_at "c.side"); walk_at "c.back"))
  trivial
theorem int_add_c {w : World} {news : List (Addr × Obj)} {x y W : Int} {t u v : Tok} (h1 : 2 ≤ W) (h2 : W ≤ 40) :
    Ct 6 w 60 [.int x t, .int y u, .int W v] news (fun t => .int (x + y) t) (NoFit W (x + y)) := by
  intro mean mg mb dp un gd cn cs a ccd outer A₀ base h₀ L m s Q E B F X N T hk hd hu hret hexn
  walk_at "c.enter"
  k_steps
  all_goals first | ((refine' hret _ _ _ ?_ ?c1 ?c2; (case c1 => k_asm); (case c2 => k_asm)); assumption) | ((refine' hexn ?_ _ _ _ _ ?c1 ?c2 ?c3; (case c2 => first | k_asm | exact RX.sub (by assumption) (fun p hp => List.mem_append_left _ hp)); (case c3 => k_asm); (case c1 => k_asm)); assumption)
theorem int_sub_c {w : World} {news : List (Addr × Obj)} {x y W : Int} {t u v : Tok} (h1 : 2 ≤ W) (h2 : W ≤ 40) :
    Ct 6 w 67 [.int x t, .int y u, .int W v] news (fun t => .int (x - y) t) (NoFit W (x - y)) := by
  intro mean mg mb dp un gd cn cs a ccd outer A₀ base h₀ L m s Q E B F X N T hk hd hu hret hexn
  walk_at "c.enter"
  k_steps
  all_goals first | ((refine' hret _ _ _ ?_ ?c1 ?c2; (case c1 => k_asm); (case c2 => k_asm)); assumption) | ((refine' hexn ?_ _ _ _ _ ?c1 ?c2 ?c3; (case c2 => first | k_asm | exact RX.sub (by assumption) (fun p hp => List.mem_append_left _ hp)); (case c3 => k_asm); (case c1 => k_asm)); assumption)
theorem int_mul_c {w : World} {news : List (Addr × Obj)} {x y W : Int} {t u v : Tok} (h1 : 2 ≤ W) (h2 : W ≤ 40) (hx1 : -549755813888 ≤ x) (hx2 : x ≤ 549755813888) :
    Ct 6 w 74 [.int x t, .int y u, .int W v] news (fun t => .int (x * y) t) (NoFit W (x * y)) := by
  intro mean mg mb dp un gd cn cs a ccd outer A₀ base h₀ L m s Q E B F X N T hk hd hu hret hexn
  walk_at "c.enter"
  k_steps
  all_goals first | ((refine' hret _ _ _ ?_ ?c1 ?c2; (case c1 => k_asm); (case c2 => k_asm)); assumption) | ((refine' hexn ?_ _ _ _ _ ?c1 ?c2 ?c3; (case c2 => first | k_asm | exact RX.sub (by assumption) (fun p hp => List.mem_append_left _ hp)); (case c3 => k_asm); (case c1 => k_asm)); assumption)
theorem cutq_c {w : World} {news : List (Addr × Obj)} {x y : Int} {t u : Tok} (hy : y ≠ 0) (hb : y.natAbs.log2 < 9000) :
    Ct 5 w 81 [.int x t, .int y u] news (fun t => .int (Int.tdiv x y) t) False := by
  intro mean mg mb dp un gd cn cs a ccd outer A₀ base h₀ L m s Q E B F X N T hk hd hu hret hexn
  walk_at "c.enter"
  k_steps
  · rw [tdiv_same (by assumption)]; (refine' hret _ _ _ ?_ ?c1 ?c2; (case c1 => k_asm); (case c2 => k_asm)); exact id
  · rw [tdiv_diff (by assumption)]; (refine' hret _ _ _ ?_ ?c1 ?c2; (case c1 => k_asm); (case c2 => k_asm)); exact id
theorem ln8 : True := by
  (k_with "call ref" => (k_here; (with_reducible show wpAny _ _ (call (Value.ref 81) _) _ _ _); k_call_by "c.use" (cutq_c ?hyq24 ?hbq24); (case hyq24 => walk_at "c.side"); (case hbq24 => walk_at "c.side"); walk_at "c.back"))
  trivial
theorem int_div_c {w : World} {news : List (Addr × Obj)} {x y W : Int} {t u v : Tok} (h1 : 2 ≤ W) (h2 : W ≤ 40) (hy1 : -549755813888 ≤ y) (hy2 : y ≤ 549755813888) :
    Ct 7 w 88 [.int x t, .int y u, .int W v] news (fun t => .int (Int.tdiv x y) t) (y = 0 ∨ NoFit W (Int.tdiv x y)) := by
  have hb := log2_40 hy1 hy2
  intro mean mg mb dp un gd cn cs a ccd outer A₀ base h₀ L m s Q E B F X N T hk hd hu hret hexn
  walk_at "c.enter"
  k_steps
  all_goals first | ((refine' hret _ _ _ ?_ ?c1 ?c2; (case c1 => k_asm); (case c2 => k_asm)); first | (exact Or.inl (by assumption)) | (exact Or.inr (by assumption)) | (rintro (z | z) <;> contradiction)) | ((refine' hexn ?_ _ _ _ _ ?c1 ?c2 ?c3; (case c2 => first | k_asm | exact RX.sub (by assumption) (fun p hp => List.mem_append_left _ hp)); (case c3 => k_asm); (case c1 => k_asm)); first | (exact Or.inl (by assumption)) | (exact Or.inr (by assumption)) | (rintro (z | z) <;> contradiction))
def invp (x n : Int) : Int := if x = 1 then 1 else if x = -1 then (if n.fmod 2 = 0 then 1 else -1) else 0
theorem inverse_power_c {w : World} {news : List (Addr × Obj)} {x n : Int} {t u : Tok} :
    Ct 6 w 95 [.int x t, .int n u] news (fun t => .int (invp x n) t) (x = 0) := by
  intro mean mg mb dp un gd cn cs a ccd outer A₀ base h₀ L m s Q E B F X N T hk hd hu hret hexn
  walk_at "c.enter"
  k_steps
  all_goals first | ((refine' hexn ?_ _ _ _ _ ?c1 ?c2 ?c3; (case c2 => first | k_asm | exact RX.sub (by assumption) (fun p hp => List.mem_append_left _ hp)); (case c3 => k_asm); (case c1 => k_asm)); assumption) | ((refine' retI ?e (hret _ _ _ ?_ ?c1 ?c2); (case c1 => k_asm); (case c2 => k_asm)); (case e => unfold invp; (repeat' split) <;> first | rfl | contradiction | omega); assumption)
def ord (x y : Int) : Int := if x = y then 0 else if x < y then -1 else 1
theorem order_of_c {w : World} {news : List (Addr × Obj)} {x y : Int} {t u : Tok} :
    Ct 5 w 109 [.int x t, .int y u] news (fun t => .int (ord x y) t) False := by
  intro mean mg mb dp un gd cn cs a ccd outer A₀ base h₀ L m s Q E B F X N T hk hd hu hret hexn
  walk_at "c.enter"
  k_steps
  all_goals ((refine' retI ?e (hret _ _ _ ?_ ?c1 ?c2); (case c1 => k_asm); (case c2 => k_asm)); (case e => unfold ord; (repeat' split) <;> first | rfl | contradiction | omega); exact id)
theorem holds_lt_c {w : World} {news : List (Addr × Obj)} {x : Int} {t u : Tok} :
    Ct 5 w 116 [.str "lt" t, .int x u] news (fun _ => .bool (decide (x < 0))) False := by
  intro mean mg mb dp un gd cn cs a ccd outer A₀ base h₀ L m s Q E B F X N T hk hd hu hret hexn
  walk_at "c.enter"
  k_steps
  all_goals ((refine' retB ?e (hret 0 _ _ ?_ ?c1 ?c2); (case c1 => k_asm); (case c2 => k_asm)); (case e => rfl); exact id)
theorem holds_ge_c {w : World} {news : List (Addr × Obj)} {x : Int} {t u : Tok} :
    Ct 5 w 116 [.str "ge" t, .int x u] news (fun _ => .bool (decide (0 ≤ x))) False := by
  intro mean mg mb dp un gd cn cs a ccd outer A₀ base h₀ L m s Q E B F X N T hk hd hu hret hexn
  walk_at "c.enter"
  k_steps
  all_goals ((refine' retB ?e (hret 0 _ _ ?_ ?c1 ?c2); (case c1 => k_asm); (case c2 => k_asm)); (case e => rfl); exact id)
theorem two_pow_39 {W : Int} (h1 : 2 ≤ W) (h2 : W ≤ 40) : (2 : Int) ≤ 2 ^ (W - 1).toNat ∧ (2 : Int) ^ (W - 1).toNat ≤ 549755813888 := by
  obtain ⟨k, rfl⟩ : ∃ k : Nat, W = k + 1 := ⟨(W - 1).toNat, by omega⟩
  have e : ((k : Int) + 1 - 1).toNat = k := by omega
  rw [e]
  have a : 1 ≤ k := by omega
  have b : k ≤ 39 := by omega
  have c1 : (2 : Nat) ^ 1 ≤ 2 ^ k := Nat.pow_le_pow_right (by decide) a
  have c2 : (2 : Nat) ^ k ≤ 2 ^ 39 := Nat.pow_le_pow_right (by decide) b
  have c3 : ((2 ^ k : Nat) : Int) = (2 : Int) ^ k := Int.natCast_pow 2 k
  rw [← c3]
  generalize 2 ^ k = z at c1 c2
  omega
theorem fit_39 {W n : Int} (h1 : 2 ≤ W) (h2 : W ≤ 40) (h : ¬ NoFit W n) : -549755813888 ≤ n ∧ n ≤ 549755813888 := by
  have := two_pow_39 h1 h2
  unfold NoFit at h
  omega
theorem pow_turn {W x c kN : Int} {pre : List Int} (h1 : 2 ≤ W) (h2 : W ≤ 40) (hp : c = x ^ pre.length) (hf : ¬ NoFit W (c * x)) :
    -549755813888 ≤ c * x ∧ c * x ≤ 549755813888 ∧ ¬ NoFit W (c * x) ∧ c * x = x ^ (pre ++ [kN]).length := by
  obtain ⟨a, b⟩ := fit_39 h1 h2 hf
  refine ⟨a, b, hf, ?_⟩
  rw [hp, List.length_append]
  exact (Int.pow_succ x pre.length).symm
theorem natAbs_nofit {W n : Int} (h : 2 ^ (W - 1).toNat < n.natAbs) : NoFit W n := by
  unfold NoFit
  have c3 : ((2 ^ (W - 1).toNat : Nat) : Int) = (2 : Int) ^ (W - 1).toNat := Int.natCast_pow 2 _
  rw [← c3]
  generalize 2 ^ (W - 1).toNat = z at h
  omega
theorem nofit_natAbs {W n : Int} (h : NoFit W n) : 2 ^ (W - 1).toNat ≤ n.natAbs := by
  unfold NoFit at h
  have c3 : ((2 ^ (W - 1).toNat : Nat) : Int) = (2 : Int) ^ (W - 1).toNat := Int.natCast_pow 2 _
  rw [← c3] at h
  generalize 2 ^ (W - 1).toNat = z at h
  omega
theorem nofit_pow_mono {W x : Int} {k j : Nat} (hx : x < -1 ∨ 1 < x) (h : NoFit W (x ^ k)) (hk : k ≤ j) : NoFit W (x ^ j) := by
  rcases Nat.eq_or_lt_of_le hk with rfl | hk
  · exact h
  have a := nofit_natAbs h
  apply natAbs_nofit
  rw [Int.natAbs_pow] at a ⊢
  have hx2 : 2 ≤ x.natAbs := by omega
  obtain ⟨d, rfl⟩ : ∃ d, j = k + 1 + d := ⟨j - (k + 1), by omega⟩
  rw [Nat.pow_add, Nat.pow_succ]
  have p1 : 1 ≤ x.natAbs ^ d := Nat.one_le_pow _ _ (by omega)
  have p0 : 0 < 2 ^ (W - 1).toNat := Nat.pow_pos (by decide)
  have q1 : x.natAbs ^ k * 2 ≤ x.natAbs ^ k * x.natAbs := Nat.mul_le_mul_left _ hx2
  have q2 := Nat.mul_le_mul_left (x.natAbs ^ k * x.natAbs) p1
  omega
theorem nofit_pow_big {W x : Int} {k : Nat} (hx : x < -1 ∨ 1 < x) (h1 : 2 ≤ W) (hk : W ≤ k) : NoFit W (x ^ k) := by
  apply natAbs_nofit
  rw [Int.natAbs_pow]
  have hx2 : 2 ≤ x.natAbs := by omega
  have q1 : 2 ^ k ≤ x.natAbs ^ k := Nat.pow_le_pow_left hx2 k
  have q2 : 2 ^ (W - 1).toNat < 2 ^ k := Nat.pow_lt_pow_right (by decide) (by omega)
  omega
theorem fit_one {W : Int} (h1 : 2 ≤ W) : ¬ NoFit W 1 := by
  unfold NoFit
  have c3 : ((2 ^ (W - 1).toNat : Nat) : Int) = (2 : Int) ^ (W - 1).toNat := Int.natCast_pow 2 _
  rw [← c3]
  have : 2 ^ 1 ≤ 2 ^ (W - 1).toNat := Nat.pow_le_pow_right (by decide) (by omega)
  omega
theorem pow_exn {W x n c : Int} {k : Nat} (h1 : 2 ≤ W) (hx : x < -1 ∨ 1 < x) (hn : 0 ≤ n) (hc : c = x ^ k) (hf : NoFit W (c * x)) (hk : k < ((if W + 1 < n then W + 1 else n) - 0).toNat) : NoFit W (x ^ n.toNat) := by
  rw [hc, ← Int.pow_succ] at hf
  refine nofit_pow_mono hx hf ?_
  split at hk <;> omega
theorem pow_end {W x n c : Int} {k : Nat} (h1 : 2 ≤ W) (hx : x < -1 ∨ 1 < x) (hn : 0 ≤ n) (hc : c = x ^ k) (hf : ¬ NoFit W c) (hk : k = ((if W + 1 < n then W + 1 else n) - 0).toNat) : c = x ^ n.toNat := by
  split at hk
  · exact absurd (hc ▸ nofit_pow_big hx h1 (by omega)) hf
  · rw [hc, hk]
    congr 1
    omega
section
theorem ln9 : True := by
  (k_with "c.dec" => ((try simp only [decide_eq_true_eq, decide_eq_false_iff_not, beq_iff_eq, bne_iff_ne, ne_eq, Bool.and_eq_true, Bool.or_eq_true, Bool.not_eq_true', Bool.not_eq_false', Bool.not_eq_true]); omega))
  (k_with "ite" => (k_here; first | (refine ite_pos (by walk_at "c.dec") ?_; walk_say "DEC+") | (refine ite_neg (by walk_at "c.dec") ?_; walk_say "DEC-")))
  trivial
theorem ln10 : True := by
  (k_with "call ref" => (k_here; (with_reducible show wpAny _ _ (call (Value.ref 53) _) _ _ _); k_call_by "c.use" (fit_int_c ?h1q27 ?h2q27); (case h1q27 => walk_at "c.side"); (case h2q27 => walk_at "c.side"); walk_at "c.back"))
  (k_with "call ref" => (k_here; (with_reducible show wpAny _ _ (call (Value.ref 95) _) _ _ _); k_call_by "c.use" (inverse_power_c ); walk_at "c.back"))
  trivial
theorem int_power_big {w : World} {news : List (Addr × Obj)} {x n W : Int} {t u v : Tok} (h1 : 2 ≤ W) (h2 : W ≤ 40) (hx1 : -549755813888 ≤ x) (hx2 : x ≤ 549755813888) (hn1 : 0 ≤ n) (hn2 : n ≤ 42) (hx : x < -1 ∨ 1 < x) :
    Ct 7 w 102 [.int x t, .int n u, .int W v] news (fun t => .int (x ^ n.toNat) t) (NoFit W (x ^ n.toNat)) := by
  intro mean mg mb dp un gd cn cs a ccd outer A₀ base h₀ L m s Q E B F X N T hk hd hu hret hexn
  walk_at "c.enter"
  k_with "pyIter ref" => k_state_given ["x", "width"] (fun x W pre found => -549755813888 ≤ found ∧ found ≤ 549755813888 ∧ ¬ NoFit W found ∧ found = x ^ pre.length) "found"
  k_with "state" => first | exact pow_turn (by assumption) (by assumption) (by assumption) (by assumption) | (refine ⟨by decide, by decide, ?_, ?_⟩; exact fit_one (by assumption); simp)
  k_steps
  k_with_none
  · (refine' hexn ?_ _ _ _ _ ?c1 ?c2 ?c3; (case c2 => first | k_asm | exact RX.sub (by assumption) (fun p hp => List.mem_append_left _ hp)); (case c3 => k_asm); (case c1 => k_asm))
    exact pow_exn h1 hx hn1 (by assumption) (by assumption) (by assumption)
  · with_reducible rename (_ = x ^ (rangeKs _ _).length) => he
    have e := pow_end h1 hx hn1 he (by assumption) (rangeKs_length _ _)
    (refine' retI ?e (hret _ _ _ ?_ ?c1 ?c2); (case c1 => k_asm); (case c2 => k_asm))
    case e => exact e
    rw [← e]; assumption
theorem ln11 : True := by
  k_with_none
  (k_with "c.room" => ((try simp only [depth_deeper, depth_mark, depth_in1]); (try dsimp only [cTop]); first | exact room_1 (by assumption) (by decide) | exact room_0 (by assumption) (by decide) | exact room_2 (by assumption) | omega))
  (k_with "c.units" => ((try simp only [units_deeper, Around.mark_units, units_in1]); (try dsimp only [cTop]); first | exact unit_1 (by assumption) (by decide) | exact unit_0 (by assumption) (by decide) | exact unit_2 (by assumption) | omega))
  (k_with "exec Raise some none" => (k_here; refine Raise_mine rfl ?_))
  (k_with "RaiseEnd" => (k_here; refine' raiseEnd_ ?Fq7 ?Xq7 ?Nq7 ?_; (case Fq7 => k_asm); (case Xq7 => k_asm); (case Nq7 => k_asm); k_whole; try dsimp only))
  (k_with "call ref" => (k_here; (with_reducible show wpAny _ _ (call (Value.ref 44) _) _ _ _); k_dflt (refine' rf_call ?Bq8 ?Fq8 ?Xq8 ?Nq8 ?Tq8 ?Aq8 ?fq8 ?kq8 ?dq8 ?_; (case Aq8 => exact rfl); (case fq8 => exact rfl); (case kq8 => exact rfl); (case Bq8 => k_asm); (case Fq8 => k_asm); (case Xq8 => k_asm); (case Nq8 => k_asm); (case Tq8 => k_asm); (case dq8 => walk_at "c.room"); k_whole); intro e' t' d' vs' h' tk' F' N' hn' hn2'; (try k_sweep)))
  (k_with "leaving ref" => (k_here; first
    | (refine' leave_first ?Kq9 ?Fq9 ?Nq9 ?nq9 ?n2q9 ?_; (case Kq9 => assumption); (case Fq9 => assumption); (case Nq9 => assumption); (case nq9 => assumption); (case n2q9 => assumption); k_whole; intro h' R' U'; (try dsimp only at R' U' ⊢))
    | (refine' leave_on ?Kq9 ?Fq9 ?Rq9 ?Uq9 ?_; (case Rq9 => assumption); (case Kq9 => assumption); (case Uq9 => assumption); (case Fq9 => assumption); k_whole; intro h' R' U'; (try dsimp only at R' U' ⊢))))
  (k_with "c.enter" => (refine wpAny_call ?_; k_dflt (refine' code_def ?k1q10 ?k2q10 ?k3q10 ?k4q10 ?k5q10 ?kAq10 ?kFq10 ?kKq10 ?k6q10 ?k7q10 ?k8q10 ?k9q10 ?kBq10 ?_ ?c2q10 ?c3q10 ?c4q10 ?c5q10; (case kAq10 => exact rfl); (case kFq10 => exact rfl); (case kKq10 => assumption); (case k1q10 => k_asm); (case k2q10 => k_asm); (case k3q10 => k_asm); (case k4q10 => k_asm); (case k5q10 => k_asm); (case k6q10 => k_is); (case k7q10 => k_is); (case k8q10 => walk_at "c.room"); (case k9q10 => first | exact BindsTo.of_eq (binds := [(_, _)]) rfl | exact BindsTo.of_eq (binds := [(_, _), (_, _)]) rfl | exact BindsTo.of_eq (binds := [(_, _), (_, _), (_, _)]) rfl | exact BindsTo.of_eq (binds := [(_, _), (_, _), (_, _), (_, _)]) rfl | exact BindsTo.of_eq (binds := [(_, _), (_, _), (_, _), (_, _), (_, _)]) rfl | exact BindsTo.of_eq (binds := [(_, _), (_, _), (_, _), (_, _), (_, _), (_, _)]) rfl); (case c5q10 => decide); (case kBq10 => exact locs rfl); (case c2q10 => exact rfl); (case c3q10 => exact rfl); (case c4q10 => exact rfl); k_whole; intro g' L' h' FG' F' N' B' X' T'; (try dsimp only); (try k_fold))))
  (k_with "c.use.r" => ((case cB => k_asm); (case cF => k_asm); (case cX => k_asm); (case cN => k_asm); (case cT => k_asm); (case ck => first | exact rfl | assumption); (case cd => walk_at "c.room"); (case cu => walk_at "c.units")))
  (k_with "c.back" => ((case' cr => (intro t' h' tk' hx' F' N'; (try k_sweep); (try dsimp only); (try k_fold))); (case' cx => first | exact fun z => False.elim z | (intro hx' e' G' h' tk' FG' R' U'; (try dsimp only); (try k_fold)))))
  (k_with "eval Call" => (k_here; k_dflt (refine Call_ ?_)))
  (k_with "c.side" => first | assumption | omega | (constructor <;> assumption))
  (k_with "ite" => (k_closed; first | refine ite_pos (by decide +kernel) ?_ | refine ite_neg (by decide +kernel) ?_))
  (k_with "call builtin:abs" => (k_here; (with_reducible show wpAny _ _ (call (Value.builtin "abs") [Value.int _ _]) _ _ _); k_dflt (refine abs_r ?_); intro t' tk'))
  (k_with "c.ne" => first | assumption | decide | omega)
  (k_with "c.py" => first | assumption | (rw [Int.natAbs_natCast]; assumption) | decide)
  (k_with "binaryOp FloorDiv int int" => (k_here; k_dflt (refine' floordiv_int ?neq18 ?_ (Or.inl (PyProof.noPylong_of_log2 ?pyq18))); (case neq18 => walk_at "c.ne"); (case pyq18 => walk_at "c.py")))
  (k_with "c.py" => first | assumption | (rw [Int.natAbs_natCast]; assumption) | decide | exact log2_40 (by assumption) (by assumption))
  (k_with "c.num" => first | assumption | omega | decide)
  (k_with "binaryOp Pow int int" => (k_here; k_dflt (refine' pow_int_small ?caq21 ?cbq21 ?ccq21 ?_); (case caq21 => walk_at "c.num"); (case cbq21 => walk_at "c.num"); (case ccq21 => walk_at "c.num")))
  (k_with "subscriptTail" => (k_here; (with_reducible show wpAny _ _ (subscriptTail _ _ (Value.ref _) (Value.int _ _)) _ _ _); k_dflt (refine' item_list_c ?cNq22 ?cmq22 ?c0q22 ?chq22 ?cxq22 ?_ ?csq22; (case cNq22 => k_asm); (case cmq22 => k_mem); (case c0q22 => decide); (case chq22 => decide); (case cxq22 => rfl); (case csq22 => with_unfolding_all rfl); k_whole)))
  (k_with "call ref" => (k_here; (with_reducible show wpAny _ _ (call (Value.ref 53) _) _ _ _); k_call_by "c.use" (fit_int_c ?h1q23 ?h2q23); (case h1q23 => walk_at "c.side"); (case h2q23 => walk_at "c.side"); walk_at "c.back"))
  (k_with "call ref" => (k_here; (with_reducible show wpAny _ _ (call (Value.ref 81) _) _ _ _); k_call_by "c.use" (cutq_c ?hyq24 ?hbq24); (case hyq24 => walk_at "c.side"); (case hbq24 => walk_at "c.side"); walk_at "c.back"))
  (k_with "c.dec" => ((try simp only [decide_eq_true_eq, decide_eq_false_iff_not, beq_iff_eq, bne_iff_ne, ne_eq, Bool.and_eq_true, Bool.or_eq_true, Bool.not_eq_true', Bool.not_eq_false', Bool.not_eq_true]); omega))
  (k_with "ite" => (k_here; first | (refine ite_pos (by walk_at "c.dec") ?_; walk_say "DEC+") | (refine ite_neg (by walk_at "c.dec") ?_; walk_say "DEC-")))
  (k_with "call ref" => (k_here; (with_reducible show wpAny _ _ (call (Value.ref 53) _) _ _ _); k_call_by "c.use" (fit_int_c ?h1q27 ?h2q27); (case h1q27 => walk_at "c.side"); (case h2q27 => walk_at "c.side"); walk_at "c.back"))
  (k_with "call ref" => (k_here; (with_reducible show wpAny _ _ (call (Value.ref 95) _) _ _ _); k_call_by "c.use" (inverse_power_c ); walk_at "c.back"))
  trivial
theorem pow_unit_abs {x : Int} {k : Nat} (hx : x = 0 ∨ x = 1 ∨ x = -1) : (x ^ k).natAbs ≤ 1 := by
  rw [Int.natAbs_pow]
  rcases hx with rfl | rfl | rfl
  · cases k with
    | zero => simp
    | succ k => simp
  · simp
  · simp
theorem neg_one_pow_add_two (k : Nat) : (-1 : Int) ^ (k + 2) = (-1) ^ k := by
  rw [Int.pow_succ, Int.pow_succ]; omega
theorem neg_one_pow_mod (k : Nat) : (-1 : Int) ^ k = (-1) ^ (k % 2) := by
  induction k using Nat.strongRecOn with
  | ind k ih =>
    by_cases h : k < 2
    · rw [Nat.mod_eq_of_lt h]
    · obtain ⟨j, rfl⟩ : ∃ j, k = j + 2 := ⟨k - 2, by omega⟩
      rw [neg_one_pow_add_two, ih j (by omega)]
      congr 1
      omega
theorem fmod2 (n : Int) : n.fmod 2 = n % 2 := Int.fmod_eq_emod_of_nonneg n (by decide)
theorem pow_par {x n : Int} (hx : x = 0 ∨ x = 1 ∨ x = -1) (hn : 2 ≤ n) : x ^ (2 - n.fmod 2).toNat = x ^ n.toNat := by
  rw [fmod2]
  rcases hx with rfl | rfl | rfl
  · rw [Int.zero_pow (by omega), Int.zero_pow (by omega)]
  · rw [Int.one_pow, Int.one_pow]
  · rw [neg_one_pow_mod, neg_one_pow_mod n.toNat]
    congr 1
    omega
theorem invp_fit {W x n : Int} (h1 : 2 ≤ W) : ¬ NoFit W (invp x n) := by
  have h := fit_one h1
  have c3 : ((2 ^ (W - 1).toNat : Nat) : Int) = (2 : Int) ^ (W - 1).toNat := Int.natCast_pow 2 _
  have : 2 ^ 1 ≤ 2 ^ (W - 1).toNat := Nat.pow_le_pow_right (by decide) (by omega)
  unfold NoFit invp
  rw [← c3]
  generalize 2 ^ (W - 1).toNat = z at this
  (repeat' split) <;> omega
theorem pow_unit_fit {W x : Int} {k : Nat} (h1 : 2 ≤ W) (hx : x = 0 ∨ x = 1 ∨ x = -1) : ¬ NoFit W (x ^ k) := by
  have c3 : ((2 ^ (W - 1).toNat : Nat) : Int) = (2 : Int) ^ (W - 1).toNat := Int.natCast_pow 2 _
  have : 2 ^ 1 ≤ 2 ^ (W - 1).toNat := Nat.pow_le_pow_right (by decide) (by omega)
  have hb : (x ^ k).natAbs ≤ 1 := by
    exact pow_unit_abs hx
  unfold NoFit
  rw [← c3]
  generalize 2 ^ (W - 1).toNat = z at this
  omega

theorem int_power_neg {w : World} {news : List (Addr × Obj)} {x n W : Int} {t u v : Tok} (h1 : 2 ≤ W) (h2 : W ≤ 40) (hn1 : n < 0) :
    Ct 8 w 102 [.int x t, .int n u, .int W v] news (fun t => .int (invp x n) t) (x = 0) := by
  intro mean mg mb dp un gd cn cs a ccd outer A₀ base h₀ L m s Q E B F X N T hk hd hu hret hexn
  walk_at "c.enter"
  k_steps
  all_goals first | exact absurd (by assumption) (invp_fit h1) | ((refine' hexn ?_ _ _ _ _ ?c1 ?c2 ?c3; (case c2 => first | k_asm | exact RX.sub (by assumption) (fun p hp => List.mem_append_left _ hp)); (case c3 => k_asm); (case c1 => k_asm)); assumption) | ((refine' hret _ _ _ ?_ ?c1 ?c2; (case c1 => k_asm); (case c2 => k_asm)); assumption)
theorem int_power_small {w : World} {news : List (Addr × Obj)} {x n W : Int} {t u v : Tok} (h1 : 2 ≤ W) (h2 : W ≤ 40) (hn1 : 0 ≤ n) (hn2 : n ≤ 42) (hx : x = 0 ∨ x = 1 ∨ x = -1) :
    Ct 8 w 102 [.int x t, .int n u, .int W v] news (fun t => .int (x ^ n.toNat) t) (NoFit W (x ^ n.toNat)) := by
  have hx1 : -549755813888 ≤ x := by omega
  have hx2 : x ≤ 549755813888 := by omega
  have hm1 : 0 ≤ n.fmod 2 := by rw [fmod2]; omega
  have hm2 : n.fmod 2 < 2 := by rw [fmod2]; omega
  intro mean mg mb dp un gd cn cs a ccd outer A₀ base h₀ L m s Q E B F X N T hk hd hu hret hexn
  walk_at "c.enter"
  k_steps
  all_goals first
    | exact absurd (by assumption) (pow_unit_fit h1 hx)
    | ((refine' retI ?e (hret _ _ _ ?_ ?c1 ?c2); (case c1 => k_asm); (case c2 => k_asm)); (case e => first | rfl | exact pow_par hx (by omega)); exact pow_unit_fit h1 hx)
end
theorem ln12 : True := by
  k_with_none
  (k_with "c.room" => ((try simp only [depth_deeper, depth_mark, depth_in1]); (try dsimp only [cTop]); first | exact room_1 (by assumption) (by decide) | exact room_0 (by assumption) (by decide) | exact room_2 (by assumption) | omega))
  (k_with "c.units" => ((try simp only [units_deeper, Around.mark_units, units_in1]); (try dsimp only [cTop]); first | exact unit_1 (by assumption) (by decide) | exact unit_0 (by assumption) (by decide) | exact unit_2 (by assumption) | omega))
  (k_with "exec Raise some none" => (k_here; refine Raise_mine rfl ?_))
  (k_with "RaiseEnd" => (k_here; refine' raiseEnd_ ?Fq7 ?Xq7 ?Nq7 ?_; (case Fq7 => k_asm); (case Xq7 => k_asm); (case Nq7 => k_asm); k_whole; try dsimp only))
  (k_with "call ref" => (k_here; (with_reducible show wpAny _ _ (call (Value.ref 44) _) _ _ _); k_dflt (refine' rf_call ?Bq8 ?Fq8 ?Xq8 ?Nq8 ?Tq8 ?Aq8 ?fq8 ?kq8 ?dq8 ?_; (case Aq8 => exact rfl); (case fq8 => exact rfl); (case kq8 => exact rfl); (case Bq8 => k_asm); (case Fq8 => k_asm); (case Xq8 => k_asm); (case Nq8 => k_asm); (case Tq8 => k_asm); (case dq8 => walk_at "c.room"); k_whole); intro e' t' d' vs' h' tk' F' N' hn' hn2'; (try k_sweep)))
  (k_with "leaving ref" => (k_here; first
    | (refine' leave_first ?Kq9 ?Fq9 ?Nq9 ?nq9 ?n2q9 ?_; (case Kq9 => assumption); (case Fq9 => assumption); (case Nq9 => assumption); (case nq9 => assumption); (case n2q9 => assumption); k_whole; intro h' R' U'; (try dsimp only at R' U' ⊢))
    | (refine' leave_on ?Kq9 ?Fq9 ?Rq9 ?Uq9 ?_; (case Rq9 => assumption); (case Kq9 => assumption); (case Uq9 => assumption); (case Fq9 => assumption); k_whole; intro h' R' U'; (try dsimp only at R' U' ⊢))))
  (k_with "c.enter" => (refine wpAny_call ?_; k_dflt (refine' code_def ?k1q10 ?k2q10 ?k3q10 ?k4q10 ?k5q10 ?kAq10 ?kFq10 ?kKq10 ?k6q10 ?k7q10 ?k8q10 ?k9q10 ?kBq10 ?_ ?c2q10 ?c3q10 ?c4q10 ?c5q10; (case kAq10 => exact rfl); (case kFq10 => exact rfl); (case kKq10 => assumption); (case k1q10 => k_asm); (case k2q10 => k_asm); (case k3q10 => k_asm); (case k4q10 => k_asm); (case k5q10 => k_asm); (case k6q10 => k_is); (case k7q10 => k_is); (case k8q10 => walk_at "c.room"); (case k9q10 => first | exact BindsTo.of_eq (binds := [(_, _)]) rfl | exact BindsTo.of_eq (binds := [(_, _), (_, _)]) rfl | exact BindsTo.of_eq (binds := [(_, _), (_, _), (_, _)]) rfl | exact BindsTo.of_eq (binds := [(_, _), (_, _), (_, _), (_, _)]) rfl | exact BindsTo.of_eq (binds := [(_, _), (_, _), (_, _), (_, _), (_, _)]) rfl | exact BindsTo.of_eq (binds := [(_, _), (_, _), (_, _), (_, _), (_, _), (_, _)]) rfl); (case c5q10 => decide); (case kBq10 => exact locs rfl); (case c2q10 => exact rfl); (case c3q10 => exact rfl); (case c4q10 => exact rfl); k_whole; intro g' L' h' FG' F' N' B' X' T'; (try dsimp only); (try k_fold))))
  (k_with "c.use.r" => ((case cB => k_asm); (case cF => k_asm); (case cX => k_asm); (case cN => k_asm); (case cT => k_asm); (case ck => first | exact rfl | assumption); (case cd => walk_at "c.room"); (case cu => walk_at "c.units")))
  (k_with "c.back" => ((case' cr => (intro t' h' tk' hx' F' N'; (try k_sweep); (try dsimp only); (try k_fold))); (case' cx => first | exact fun z => False.elim z | (intro hx' e' G' h' tk' FG' R' U'; (try dsimp only); (try k_fold)))))
  (k_with "eval Call" => (k_here; k_dflt (refine Call_ ?_)))
  (k_with "c.side" => first | assumption | omega | (constructor <;> assumption))
  (k_with "ite" => (k_closed; first | refine ite_pos (by decide +kernel) ?_ | refine ite_neg (by decide +kernel) ?_))
  (k_with "call builtin:abs" => (k_here; (with_reducible show wpAny _ _ (call (Value.builtin "abs") [Value.int _ _]) _ _ _); k_dflt (refine abs_r ?_); intro t' tk'))
  (k_with "c.ne" => first | assumption | decide | omega)
  (k_with "c.py" => first | assumption | (rw [Int.natAbs_natCast]; assumption) | decide)
  (k_with "binaryOp FloorDiv int int" => (k_here; k_dflt (refine' floordiv_int ?neq18 ?_ (Or.inl (PyProof.noPylong_of_log2 ?pyq18))); (case neq18 => walk_at "c.ne"); (case pyq18 => walk_at "c.py")))
  (k_with "c.py" => first | assumption | (rw [Int.natAbs_natCast]; assumption) | decide | exact log2_40 (by assumption) (by assumption))
  (k_with "c.num" => first | assumption | omega | decide)
  (k_with "binaryOp Pow int int" => (k_here; k_dflt (refine' pow_int_small ?caq21 ?cbq21 ?ccq21 ?_); (case caq21 => walk_at "c.num"); (case cbq21 => walk_at "c.num"); (case ccq21 => walk_at "c.num")))
  (k_with "subscriptTail" => (k_here; (with_reducible show wpAny _ _ (subscriptTail _ _ (Value.ref _) (Value.int _ _)) _ _ _); k_dflt (refine' item_list_c ?cNq22 ?cmq22 ?c0q22 ?chq22 ?cxq22 ?_ ?csq22; (case cNq22 => k_asm); (case cmq22 => k_mem); (case c0q22 => decide); (case chq22 => decide); (case cxq22 => rfl); (case csq22 => with_unfolding_all rfl); k_whole)))
  (k_with "call ref" => (k_here; (with_reducible show wpAny _ _ (call (Value.ref 53) _) _ _ _); k_call_by "c.use" (fit_int_c ?h1q23 ?h2q23); (case h1q23 => walk_at "c.side"); (case h2q23 => walk_at "c.side"); walk_at "c.back"))
  (k_with "call ref" => (k_here; (with_reducible show wpAny _ _ (call (Value.ref 81) _) _ _ _); k_call_by "c.use" (cutq_c ?hyq24 ?hbq24); (case hyq24 => walk_at "c.side"); (case hbq24 => walk_at "c.side"); walk_at "c.back"))
  trivial
abbrev limD (P : Params) (W : Int) (u : Tok) (k : Nat → Tok) : Obj := dictOf [
  ⟨PyData.keyHash P (Str.ofString "width"), .str (Str.ofString "width") (k 0), .int W u⟩,
  ⟨PyData.keyHash P (Str.ofString "real_digits"), .str (Str.ofString "real_digits") (k 1), .int 7 363⟩,
  ⟨PyData.keyHash P (Str.ofString "double_digits"), .str (Str.ofString "double_digits") (k 2), .int 15 364⟩,
  ⟨PyData.keyHash P (Str.ofString "top_exponent"), .str (Str.ofString "top_exponent") (k 3), .int 38 365⟩,
  ⟨PyData.keyHash P (Str.ofString "steps"), .str (Str.ofString "steps") (k 4), .int 1000000 366⟩,
  ⟨PyData.keyHash P (Str.ofString "continuations"), .str (Str.ofString "continuations") (k 5), .int 19 367⟩,
  ⟨PyData.keyHash P (Str.ofString "columns"), .str (Str.ofString "columns") (k 6), .int 72 368⟩,
  ⟨PyData.keyHash P (Str.ofString "depth"), .str (Str.ofString "depth") (k 7), .int 40 369⟩] 8
theorem int_power_c {w : World} {news : List (Addr × Obj)} {x n W : Int} {t u v : Tok} (h1 : 2 ≤ W) (h2 : W ≤ 40) (hx1 : -549755813888 ≤ x) (hx2 : x ≤ 549755813888) (hn1 : 0 ≤ n) (hn2 : n ≤ 42) :
    Ct 8 w 102 [.int x t, .int n u, .int W v] news (fun t => .int (x ^ n.toNat) t) (NoFit W (x ^ n.toNat)) := by
  by_cases hx : x = 0 ∨ x = 1 ∨ x = -1
  · exact int_power_small h1 h2 hn1 hn2 hx
  · intro mean mg mb dp un gd cn cs a ccd outer A₀ base h₀ L m s Q E B F X N T hk hd hu hret hexn
    exact int_power_big h1 h2 hx1 hx2 hn1 hn2 (by omega) mean mg mb dp un gd cn cs a ccd outer A₀ base h₀ L m s Q E B F X N T hk (by omega) (by omega) hret hexn
section
def GoF (w : World) (news : List (Addr × Obj)) (p : Prop) (f : Addr) (x y W : Int) (R : Tok → Value) (Ex : Prop) : Prop := p → ∀ t u v : Tok, Ct 8 w f [.int x t, .int y u, .int W v] news R Ex
theorem GoF.use {w : World} {news : List (Addr × Obj)} {p : Prop} {f : Addr} {x y W : Int} {R : Tok → Value} {Ex : Prop} (g : GoF w news p f x y W R Ex) (hp : p) {t u v : Tok} : Ct 8 w f [.int x t, .int y u, .int W v] news R Ex := g hp t u v
def AnyOp (op : Str) : Prop := (op == Str.ofString "add") = true ∨ (op == Str.ofString "sub") = true ∨ (op == Str.ofString "mul") = true ∨ (op == Str.ofString "div") = true ∨ (op == Str.ofString "pow") = true ∨ (op == Str.ofString "powi") = true
theorem AnyOp.no {op : Str} (h : AnyOp op) (f1 : (op == Str.ofString "add") = false) (f2 : (op == Str.ofString "sub") = false) (f3 : (op == Str.ofString "mul") = false) (f4 : (op == Str.ofString "div") = false) (f5 : (op == Str.ofString "pow") = false) (f6 : (op == Str.ofString "powi") = false) : False := by
  rcases h with h | h | h | h | h | h
  · rw [f1] at h; cases h
  · rw [f2] at h; cases h
  · rw [f3] at h; cases h
  · rw [f4] at h; cases h
  · rw [f5] at h; cases h
  · rw [f6] at h; cases h
theorem Ct.deep8 {D : Nat} {w : World} {f : Addr} {vs : List Value} {news : List (Addr × Obj)} {R : Tok → Value} {Ex : Prop} (h : Ct D w f vs news R Ex) (e : D ≤ 8) : Ct 8 w f vs news R Ex :=
  fun mean mg mb dp un gd cn cs a ccd outer A₀ base h₀ L m s Q E B F X N T hk hd hu hret hexn =>
    h mean mg mb dp un gd cn cs a ccd outer A₀ base h₀ L m s Q E B F X N T hk (room_0 hd e) (unit_0 hu (Nat.mul_le_mul_left 10 e)) hret hexn
theorem ln13 : True := by
  (k_with "call ref" => (k_here; (with_reducible show wpAny _ _ (call (Value.ref _) [Value.int _ _, Value.int _ _, Value.int _ _]) _ _ _); k_call_by "c.use" (GoF.use (by with_reducible assumption) (by first | with_reducible assumption | exact Or.inl (by with_reducible assumption) | exact Or.inr (by with_reducible assumption))); walk_at "c.back"))
  (k_with "call ref" => (k_here; (with_reducible show wpAny _ _ (call (Value.ref 109) _) _ _ _); exfalso; exact AnyOp.no (by with_reducible assumption) (by with_reducible assumption) (by with_reducible assumption) (by with_reducible assumption) (by with_reducible assumption) (by with_reducible assumption) (by with_reducible assumption)))
  trivial
theorem bin_gen {w : World} {news : List (Addr × Obj)} {op : Str} {x y W : Int} {t0 t1 t2 t3 lu : Tok} {lk : Nat → Tok} {la dx : Addr} {R : Tok → Value} {Ex : Prop} (hl1 : (la, instObj 141 dx) ∈ news) (hl2 : (dx, limD w.params W lu lk) ∈ news)
    (hop : AnyOp op) (g1 : GoF w news ((op == Str.ofString "add") = true) 60 x y W R Ex) (g2 : GoF w news ((op == Str.ofString "sub") = true) 67 x y W R Ex) (g3 : GoF w news ((op == Str.ofString "mul") = true) 74 x y W R Ex) (g4 : GoF w news ((op == Str.ofString "div") = true) 88 x y W R Ex)
    (g5 : GoF w news ((op == Str.ofString "pow") = true ∨ (op == Str.ofString "powi") = true) 102 x y W R Ex) :
    Ct 9 w 123 [.str op t0, .int 0 t1, .int x t2, .int y t3, .ref la] news R Ex := by
  intro mean mg mb dp un gd cn cs a ccd outer A₀ base h₀ L m s Q E B F X N T hk hd hu hret hexn
  walk_at "c.enter"
  k_steps
  all_goals first | ((refine' hret _ _ _ ?_ ?c1 ?c2; (case c1 => k_asm); (case c2 => k_asm)); assumption) | ((refine' hexn ?_ _ _ _ _ ?c1 ?c2 ?c3; (case c2 => first | k_asm | exact RX.sub (by assumption) (fun p hp => List.mem_append_left _ hp)); (case c3 => k_asm); (case c1 => k_asm)); assumption)
theorem no_op {a b : String} {w : World} {news : List (Addr × Obj)} {f : Addr} {x y W : Int} {R : Tok → Value} {Ex : Prop} (e : (Str.ofString a == Str.ofString b) = false) : GoF w news ((Str.ofString a == Str.ofString b) = true) f x y W R Ex := fun h => by rw [e] at h; cases h
theorem no_op2 {a b c : String} {w : World} {news : List (Addr × Obj)} {f : Addr} {x y W : Int} {R : Tok → Value} {Ex : Prop} (e : (Str.ofString a == Str.ofString b) = false) (e2 : (Str.ofString a == Str.ofString c) = false) : GoF w news ((Str.ofString a == Str.ofString b) = true ∨ (Str.ofString a == Str.ofString c) = true) f x y W R Ex := fun h => by
  rcases h with h | h
  · rw [e] at h; cases h
  · rw [e2] at h; cases h
end
theorem ln14 : True := by
  k_with_none
  (k_with "c.room" => ((try simp only [depth_deeper, depth_mark, depth_in1]); (try dsimp only [cTop]); first | exact room_1 (by assumption) (by decide) | exact room_0 (by assumption) (by decide) | exact room_2 (by assumption) | omega))
  (k_with "c.units" => ((try simp only [units_deeper, Around.mark_units, units_in1]); (try dsimp only [cTop]); first | exact unit_1 (by assumption) (by decide) | exact unit_0 (by assumption) (by decide) | exact unit_2 (by assumption) | omega))
  (k_with "exec Raise some none" => (k_here; refine Raise_mine rfl ?_))
  (k_with "RaiseEnd" => (k_here; refine' raiseEnd_ ?Fq7 ?Xq7 ?Nq7 ?_; (case Fq7 => k_asm); (case Xq7 => k_asm); (case Nq7 => k_asm); k_whole; try dsimp only))
  (k_with "call ref" => (k_here; (with_reducible show wpAny _ _ (call (Value.ref 44) _) _ _ _); k_dflt (refine' rf_call ?Bq8 ?Fq8 ?Xq8 ?Nq8 ?Tq8 ?Aq8 ?fq8 ?kq8 ?dq8 ?_; (case Aq8 => exact rfl); (case fq8 => exact rfl); (case kq8 => exact rfl); (case Bq8 => k_asm); (case Fq8 => k_asm); (case Xq8 => k_asm); (case Nq8 => k_asm); (case Tq8 => k_asm); (case dq8 => walk_at "c.room"); k_whole); intro e' t' d' vs' h' tk' F' N' hn' hn2'; (try k_sweep)))
  (k_with "leaving ref" => (k_here; first
    | (refine' leave_first ?Kq9 ?Fq9 ?Nq9 ?nq9 ?n2q9 ?_; (case Kq9 => assumption); (case Fq9 => assumption); (case Nq9 => assumption); (case nq9 => assumption); (case n2q9 => assumption); k_whole; intro h' R' U'; (try dsimp only at R' U' ⊢))
    | (refine' leave_on ?Kq9 ?Fq9 ?Rq9 ?Uq9 ?_; (case Rq9 => assumption); (case Kq9 => assumption); (case Uq9 => assumption); (case Fq9 => assumption); k_whole; intro h' R' U'; (try dsimp only at R' U' ⊢))))
  (k_with "c.enter" => (refine wpAny_call ?_; k_dflt (refine' code_def ?k1q10 ?k2q10 ?k3q10 ?k4q10 ?k5q10 ?kAq10 ?kFq10 ?kKq10 ?k6q10 ?k7q10 ?k8q10 ?k9q10 ?kBq10 ?_ ?c2q10 ?c3q10 ?c4q10 ?c5q10; (case kAq10 => exact rfl); (case kFq10 => exact rfl); (case kKq10 => assumption); (case k1q10 => k_asm); (case k2q10 => k_asm); (case k3q10 => k_asm); (case k4q10 => k_asm); (case k5q10 => k_asm); (case k6q10 => k_is); (case k7q10 => k_is); (case k8q10 => walk_at "c.room"); (case k9q10 => first | exact BindsTo.of_eq (binds := [(_, _)]) rfl | exact BindsTo.of_eq (binds := [(_, _), (_, _)]) rfl | exact BindsTo.of_eq (binds := [(_, _), (_, _), (_, _)]) rfl | exact BindsTo.of_eq (binds := [(_, _), (_, _), (_, _), (_, _)]) rfl | exact BindsTo.of_eq (binds := [(_, _), (_, _), (_, _), (_, _), (_, _)]) rfl | exact BindsTo.of_eq (binds := [(_, _), (_, _), (_, _), (_, _), (_, _), (_, _)]) rfl); (case c5q10 => decide); (case kBq10 => exact locs rfl); (case c2q10 => exact rfl); (case c3q10 => exact rfl); (case c4q10 => exact rfl); k_whole; intro g' L' h' FG' F' N' B' X' T'; (try dsimp only); (try k_fold))))
  (k_with "c.use.r" => ((case cB => k_asm); (case cF => k_asm); (case cX => k_asm); (case cN => k_asm); (case cT => k_asm); (case ck => first | exact rfl | assumption); (case cd => walk_at "c.room"); (case cu => walk_at "c.units")))
  (k_with "c.back" => ((case' cr => (intro t' h' tk' hx' F' N'; (try k_sweep); (try dsimp only); (try k_fold))); (case' cx => first | exact fun z => False.elim z | (intro hx' e' G' h' tk' FG' R' U'; (try dsimp only); (try k_fold)))))
  (k_with "eval Call" => (k_here; k_dflt (refine Call_ ?_)))
  (k_with "c.side" => first | assumption | omega | (constructor <;> assumption))
  (k_with "ite" => (k_closed; first | refine ite_pos (by decide +kernel) ?_ | refine ite_neg (by decide +kernel) ?_))
  (k_with "call builtin:abs" => (k_here; (with_reducible show wpAny _ _ (call (Value.builtin "abs") [Value.int _ _]) _ _ _); k_dflt (refine abs_r ?_); intro t' tk'))
  (k_with "c.ne" => first | assumption | decide | omega)
  (k_with "c.py" => first | assumption | (rw [Int.natAbs_natCast]; assumption) | decide)
  (k_with "binaryOp FloorDiv int int" => (k_here; k_dflt (refine' floordiv_int ?neq18 ?_ (Or.inl (PyProof.noPylong_of_log2 ?pyq18))); (case neq18 => walk_at "c.ne"); (case pyq18 => walk_at "c.py")))
  (k_with "c.py" => first | assumption | (rw [Int.natAbs_natCast]; assumption) | decide | exact log2_40 (by assumption) (by assumption))
  (k_with "c.num" => first | assumption | omega | decide)
  (k_with "binaryOp Pow int int" => (k_here; k_dflt (refine' pow_int_small ?caq21 ?cbq21 ?ccq21 ?_); (case caq21 => walk_at "c.num"); (case cbq21 => walk_at "c.num"); (case ccq21 => walk_at "c.num")))
  (k_with "subscriptTail" => (k_here; (with_reducible show wpAny _ _ (subscriptTail _ _ (Value.ref _) (Value.int _ _)) _ _ _); k_dflt (refine' item_list_c ?cNq22 ?cmq22 ?c0q22 ?chq22 ?cxq22 ?_ ?csq22; (case cNq22 => k_asm); (case cmq22 => k_mem); (case c0q22 => decide); (case chq22 => decide); (case cxq22 => rfl); (case csq22 => with_unfolding_all rfl); k_whole)))
  (k_with "call ref" => (k_here; (with_reducible show wpAny _ _ (call (Value.ref 53) _) _ _ _); k_call_by "c.use" (fit_int_c ?h1q23 ?h2q23); (case h1q23 => walk_at "c.side"); (case h2q23 => walk_at "c.side"); walk_at "c.back"))
  (k_with "call ref" => (k_here; (with_reducible show wpAny _ _ (call (Value.ref 81) _) _ _ _); k_call_by "c.use" (cutq_c ?hyq24 ?hbq24); (case hyq24 => walk_at "c.side"); (case hbq24 => walk_at "c.side"); walk_at "c.back"))
  trivial
theorem bin_add_c {w : World} {news : List (Addr × Obj)} {x y W : Int} {t0 t1 t2 t3 lu : Tok} {lk : Nat → Tok} {la dx : Addr} (h1 : 2 ≤ W) (h2 : W ≤ 40) (hx1 : -549755813888 ≤ x) (hx2 : x ≤ 549755813888) (hy1 : -549755813888 ≤ y) (hy2 : y ≤ 549755813888)  (hl1 : (la, instObj 141 dx) ∈ news) (hl2 : (dx, limD w.params W lu lk) ∈ news) :
    Ct 9 w 123 [.str "add" t0, .int 0 t1, .int x t2, .int y t3, .ref la] news (fun t => .int (x + y) t) (NoFit W (x + y)) :=
  bin_gen hl1 hl2 (.inl (by kernel_rfl)) (fun _ _ _ _ => (int_add_c h1 h2).deep8 (by decide)) (no_op (by kernel_rfl)) (no_op (by kernel_rfl)) (no_op (by kernel_rfl)) (no_op2 (by kernel_rfl) (by kernel_rfl))
theorem bin_sub_c {w : World} {news : List (Addr × Obj)} {x y W : Int} {t0 t1 t2 t3 lu : Tok} {lk : Nat → Tok} {la dx : Addr} (h1 : 2 ≤ W) (h2 : W ≤ 40) (hx1 : -549755813888 ≤ x) (hx2 : x ≤ 549755813888) (hy1 : -549755813888 ≤ y) (hy2 : y ≤ 549755813888)  (hl1 : (la, instObj 141 dx) ∈ news) (hl2 : (dx, limD w.params W lu lk) ∈ news) :
    Ct 9 w 123 [.str "sub" t0, .int 0 t1, .int x t2, .int y t3, .ref la] news (fun t => .int (x - y) t) (NoFit W (x - y)) :=
  bin_gen hl1 hl2 (.inr (.inl (by kernel_rfl))) (no_op (by kernel_rfl)) (fun _ _ _ _ => (int_sub_c h1 h2).deep8 (by decide)) (no_op (by kernel_rfl)) (no_op (by kernel_rfl)) (no_op2 (by kernel_rfl) (by kernel_rfl))
theorem bin_mul_c {w : World} {news : List (Addr × Obj)} {x y W : Int} {t0 t1 t2 t3 lu : Tok} {lk : Nat → Tok} {la dx : Addr} (h1 : 2 ≤ W) (h2 : W ≤ 40) (hx1 : -549755813888 ≤ x) (hx2 : x ≤ 549755813888) (hy1 : -549755813888 ≤ y) (hy2 : y ≤ 549755813888)  (hl1 : (la, instObj 141 dx) ∈ news) (hl2 : (dx, limD w.params W lu lk) ∈ news) :
    Ct 9 w 123 [.str "mul" t0, .int 0 t1, .int x t2, .int y t3, .ref la] news (fun t => .int (x * y) t) (NoFit W (x * y)) :=
  bin_gen hl1 hl2 (.inr (.inr (.inl (by kernel_rfl)))) (no_op (by kernel_rfl)) (no_op (by kernel_rfl)) (fun _ _ _ _ => (int_mul_c h1 h2 hx1 hx2).deep8 (by decide)) (no_op (by kernel_rfl)) (no_op2 (by kernel_rfl) (by kernel_rfl))
theorem bin_div_c {w : World} {news : List (Addr × Obj)} {x y W : Int} {t0 t1 t2 t3 lu : Tok} {lk : Nat → Tok} {la dx : Addr} (h1 : 2 ≤ W) (h2 : W ≤ 40) (hx1 : -549755813888 ≤ x) (hx2 : x ≤ 549755813888) (hy1 : -549755813888 ≤ y) (hy2 : y ≤ 549755813888)  (hl1 : (la, instObj 141 dx) ∈ news) (hl2 : (dx, limD w.params W lu lk) ∈ news) :
    Ct 9 w 123 [.str "div" t0, .int 0 t1, .int x t2, .int y t3, .ref la] news (fun t => .int (Int.tdiv x y) t) (y = 0 ∨ NoFit W (Int.tdiv x y)) :=
  bin_gen hl1 hl2 (.inr (.inr (.inr (.inl (by kernel_rfl))))) (no_op (by kernel_rfl)) (no_op (by kernel_rfl)) (no_op (by kernel_rfl)) (fun _ _ _ _ => (int_div_c h1 h2 hy1 hy2).deep8 (by decide)) (no_op2 (by kernel_rfl) (by kernel_rfl))
theorem bin_pow_c {w : World} {news : List (Addr × Obj)} {x y W : Int} {t0 t1 t2 t3 lu : Tok} {lk : Nat → Tok} {la dx : Addr} (h1 : 2 ≤ W) (h2 : W ≤ 40) (hx1 : -549755813888 ≤ x) (hx2 : x ≤ 549755813888) (hy1 : -549755813888 ≤ y) (hy2 : y ≤ 549755813888) (hn1 : 0 ≤ y) (hn2 : y ≤ 42) (hl1 : (la, instObj 141 dx) ∈ news) (hl2 : (dx, limD w.params W lu lk) ∈ news) :
    Ct 9 w 123 [.str "pow" t0, .int 0 t1, .int x t2, .int y t3, .ref la] news (fun t => .int (x ^ y.toNat) t) (NoFit W (x ^ y.toNat)) :=
  bin_gen hl1 hl2 (.inr (.inr (.inr (.inr (.inl (by kernel_rfl)))))) (no_op (by kernel_rfl)) (no_op (by kernel_rfl)) (no_op (by kernel_rfl)) (no_op (by kernel_rfl)) (fun _ _ _ _ => (int_power_c h1 h2 hx1 hx2 hn1 hn2).deep8 (by decide))
theorem bin_powi_c {w : World} {news : List (Addr × Obj)} {x y W : Int} {t0 t1 t2 t3 lu : Tok} {lk : Nat → Tok} {la dx : Addr} (h1 : 2 ≤ W) (h2 : W ≤ 40) (hx1 : -549755813888 ≤ x) (hx2 : x ≤ 549755813888) (hy1 : -549755813888 ≤ y) (hy2 : y ≤ 549755813888) (hn1 : 0 ≤ y) (hn2 : y ≤ 42) (hl1 : (la, instObj 141 dx) ∈ news) (hl2 : (dx, limD w.params W lu lk) ∈ news) :
    Ct 9 w 123 [.str "powi" t0, .int 0 t1, .int x t2, .int y t3, .ref la] news (fun t => .int (x ^ y.toNat) t) (NoFit W (x ^ y.toNat)) :=
  bin_gen hl1 hl2 (.inr (.inr (.inr (.inr (.inr ((by kernel_rfl))))))) (no_op (by kernel_rfl)) (no_op (by kernel_rfl)) (no_op (by kernel_rfl)) (no_op (by kernel_rfl)) (fun _ _ _ _ => (int_power_c h1 h2 hx1 hx2 hn1 hn2).deep8 (by decide))
theorem bin_pown_c {w : World} {news : List (Addr × Obj)} {x y W : Int} {t0 t1 t2 t3 lu : Tok} {lk : Nat → Tok} {la dx : Addr} (h1 : 2 ≤ W) (h2 : W ≤ 40) (hx1 : -549755813888 ≤ x) (hx2 : x ≤ 549755813888) (hy1 : -549755813888 ≤ y) (hy2 : y ≤ 549755813888) (hn1 : y < 0) (hl1 : (la, instObj 141 dx) ∈ news) (hl2 : (dx, limD w.params W lu lk) ∈ news) :
    Ct 9 w 123 [.str "pow" t0, .int 0 t1, .int x t2, .int y t3, .ref la] news (fun t => .int (invp x y) t) (x = 0) :=
  bin_gen hl1 hl2 (.inr (.inr (.inr (.inr (.inl (by kernel_rfl)))))) (no_op (by kernel_rfl)) (no_op (by kernel_rfl)) (no_op (by kernel_rfl)) (no_op (by kernel_rfl)) (fun _ _ _ _ => (int_power_neg h1 h2 hn1).deep8 (by decide))
section
theorem ln15 : True := by
  (k_with "call ref" => (k_here; (with_reducible show wpAny _ _ (call (Value.ref 60) _) _ _ _); k_call_by "c.use" (int_add_c ?h1q31 ?h2q31); (case h1q31 => walk_at "c.side"); (case h2q31 => walk_at "c.side"); walk_at "c.back"))
  (k_with "call ref" => (k_here; (with_reducible show wpAny _ _ (call (Value.ref 67) _) _ _ _); k_call_by "c.use" (int_sub_c ?h1q32 ?h2q32); (case h1q32 => walk_at "c.side"); (case h2q32 => walk_at "c.side"); walk_at "c.back"))
  (k_with "call ref" => (k_here; (with_reducible show wpAny _ _ (call (Value.ref 74) _) _ _ _); k_call_by "c.use" (int_mul_c ?h1q33 ?h2q33 ?hx1q33 ?hx2q33); (case h1q33 => walk_at "c.side"); (case h2q33 => walk_at "c.side"); (case hx1q33 => walk_at "c.side"); (case hx2q33 => walk_at "c.side"); walk_at "c.back"))
  (k_with "call ref" => (k_here; (with_reducible show wpAny _ _ (call (Value.ref 88) _) _ _ _); k_call_by "c.use" (int_div_c ?h1q34 ?h2q34 ?hy1q34 ?hy2q34); (case h1q34 => walk_at "c.side"); (case h2q34 => walk_at "c.side"); (case hy1q34 => walk_at "c.side"); (case hy2q34 => walk_at "c.side"); walk_at "c.back"))
  (k_with "call ref" => (k_here; (with_reducible show wpAny _ _ (call (Value.ref 102) _) _ _ _); k_call_by "c.use" (int_power_c ?h1q35 ?h2q35 ?hx1q35 ?hx2q35 ?hn1q35 ?hn2q35); (case h1q35 => walk_at "c.side"); (case h2q35 => walk_at "c.side"); (case hx1q35 => walk_at "c.side"); (case hx2q35 => walk_at "c.side"); (case hn1q35 => walk_at "c.side"); (case hn2q35 => walk_at "c.side"); walk_at "c.back"))
  (k_with "call ref" => (k_here; (with_reducible show wpAny _ _ (call (Value.ref 102) _) _ _ _); k_call_by "c.use" (int_power_neg ?h1q36 ?h2q36 ?hn1q36); (case h1q36 => walk_at "c.side"); (case h2q36 => walk_at "c.side"); (case hn1q36 => walk_at "c.side"); walk_at "c.back"))
  (k_with "call ref" => (k_here; (with_reducible show wpAny _ _ (call (Value.ref 109) _) _ _ _); k_call_by "c.use" (order_of_c ); walk_at "c.back"))
  (k_with "call ref" => (k_here; (with_reducible show wpAny _ _ (call (Value.ref 116) _) _ _ _); k_call_by "c.use" (holds_lt_c ); walk_at "c.back"))
  (k_with "call ref" => (k_here; (with_reducible show wpAny _ _ (call (Value.ref 116) _) _ _ _); k_call_by "c.use" (holds_ge_c ); walk_at "c.back"))
  trivial
theorem bin_lt_c {w : World} {news : List (Addr × Obj)} {x y W : Int} {t0 t1 t2 t3 lu : Tok} {lk : Nat → Tok} {la dx : Addr} (h1 : 2 ≤ W) (h2 : W ≤ 40) (hx1 : -549755813888 ≤ x) (hx2 : x ≤ 549755813888) (hy1 : -549755813888 ≤ y) (hy2 : y ≤ 549755813888)  (hl1 : (la, instObj 141 dx) ∈ news) (hl2 : (dx, limD w.params W lu lk) ∈ news) :
    Ct 9 w 123 [.str "lt" t0, .int 0 t1, .int x t2, .int y t3, .ref la] news (fun _ => .bool (decide (x < y))) False := by
  intro mean mg mb dp un gd cn cs a ccd outer A₀ base h₀ L m s Q E B F X N T hk hd hu hret hexn
  walk_at "c.enter"
  k_steps
  all_goals ((refine' retB ?e (hret 0 _ _ ?_ ?c1 ?c2); (case c1 => k_asm); (case c2 => k_asm)); (case e => unfold ord; (repeat' split) <;> simp <;> omega); exact id)
theorem bin_ge_c {w : World} {news : List (Addr × Obj)} {x y W : Int} {t0 t1 t2 t3 lu : Tok} {lk : Nat → Tok} {la dx : Addr} (h1 : 2 ≤ W) (h2 : W ≤ 40) (hx1 : -549755813888 ≤ x) (hx2 : x ≤ 549755813888) (hy1 : -549755813888 ≤ y) (hy2 : y ≤ 549755813888)  (hl1 : (la, instObj 141 dx) ∈ news) (hl2 : (dx, limD w.params W lu lk) ∈ news) :
    Ct 9 w 123 [.str "ge" t0, .int 0 t1, .int x t2, .int y t3, .ref la] news (fun _ => .bool (decide (y ≤ x))) False := by
  intro mean mg mb dp un gd cn cs a ccd outer A₀ base h₀ L m s Q E B F X N T hk hd hu hret hexn
  walk_at "c.enter"
  k_steps
  all_goals ((refine' retB ?e (hret 0 _ _ ?_ ?c1 ?c2); (case c1 => k_asm); (case c2 => k_asm)); (case e => unfold ord; (repeat' split) <;> simp <;> omega); exact id)
end
theorem ln16 : True := by
  (k_with "call ref" => (k_here; (with_reducible show wpAny _ _ (call (Value.ref 53) _) _ _ _); k_call_by "c.use" (fit_int_c ?h1q40 ?h2q40); (case h1q40 => walk_at "c.side"); (case h2q40 => walk_at "c.side"); walk_at "c.back"))
  (k_with "call ref" => (k_here; (with_reducible show wpAny _ _ (call (Value.ref 81) _) _ _ _); k_call_by "c.use" (cutq_c ?hyq41 ?hbq41); (case hyq41 => walk_at "c.side"); (case hbq41 => walk_at "c.side"); walk_at "c.back"))
  (k_with "call ref" => (k_here; (with_reducible show wpAny _ _ (call (Value.ref 109) _) _ _ _); k_call_by "c.use" (order_of_c ); walk_at "c.back"))
  trivial
theorem without_sign_c {w : World} {news : List (Addr × Obj)} {x y W : Int} {t0 t1 t2 t3 lu : Tok} {lk : Nat → Tok} {la dx lc lv : Addr} (h1 : 2 ≤ W) (h2 : W ≤ 40) (hx1 : -549755813888 ≤ x) (hx2 : x ≤ 549755813888) (hy1 : -549755813888 ≤ y) (hy2 : y ≤ 549755813888) (hl1 : (la, instObj 141 dx) ∈ news) (hl2 : (dx, limD w.params W lu lk) ∈ news) (hl3 : (lc, listOf [.int 0 t0, .int 0 t1].toArray 0) ∈ news) (hl4 : (lv, listOf [.int x t2, .int y t3].toArray 0) ∈ news) :
    Ct 6 w 335 [.ref lc, .ref lv, .ref la] news (fun t => .int (x.natAbs : Int) t) (NoFit W (x.natAbs : Int)) := by
  intro mean mg mb dp un gd cn cs a ccd outer A₀ base h₀ L m s Q E B F X N T hk hd hu hret hexn
  walk_at "c.enter"
  k_steps
  all_goals first | ((refine' hret _ _ _ ?_ ?c1 ?c2; (case c1 => k_asm); (case c2 => k_asm)); assumption) | ((refine' hexn ?_ _ _ _ _ ?c1 ?c2 ?c3; (case c2 => first | k_asm | exact RX.sub (by assumption) (fun p hp => List.mem_append_left _ hp)); (case c3 => k_asm); (case c1 => k_asm)); assumption)
theorem rest_of_c {w : World} {news : List (Addr × Obj)} {x y W : Int} {t0 t1 t2 t3 lu : Tok} {lk : Nat → Tok} {la dx lc lv : Addr} (h1 : 2 ≤ W) (h2 : W ≤ 40) (hx1 : -549755813888 ≤ x) (hx2 : x ≤ 549755813888) (hy1 : -549755813888 ≤ y) (hy2 : y ≤ 549755813888) (hl1 : (la, instObj 141 dx) ∈ news) (hl2 : (dx, limD w.params W lu lk) ∈ news) (hl3 : (lc, listOf [.int 0 t0, .int 0 t1].toArray 0) ∈ news) (hl4 : (lv, listOf [.int x t2, .int y t3].toArray 0) ∈ news) :
    Ct 6 w 342 [.ref lc, .ref lv, .ref la] news (fun t => .int (x - Int.tdiv x y * y) t) (y = 0) := by
  have hb := log2_40 hy1 hy2
  intro mean mg mb dp un gd cn cs a ccd outer A₀ base h₀ L m s Q E B F X N T hk hd hu hret hexn
  walk_at "c.enter"
  k_steps
  all_goals first | ((refine' hret _ _ _ ?_ ?c1 ?c2; (case c1 => k_asm); (case c2 => k_asm)); assumption) | ((refine' hexn ?_ _ _ _ _ ?c1 ?c2 ?c3; (case c2 => first | k_asm | exact RX.sub (by assumption) (fun p hp => List.mem_append_left _ hp)); (case c3 => k_asm); (case c1 => k_asm)); assumption)
theorem with_sign_c {w : World} {news : List (Addr × Obj)} {x y W : Int} {t0 t1 t2 t3 lu : Tok} {lk : Nat → Tok} {la dx lc lv : Addr} (h1 : 2 ≤ W) (h2 : W ≤ 40) (hx1 : -549755813888 ≤ x) (hx2 : x ≤ 549755813888) (hy1 : -549755813888 ≤ y) (hy2 : y ≤ 549755813888) (hl1 : (la, instObj 141 dx) ∈ news) (hl2 : (dx, limD w.params W lu lk) ∈ news) (hl3 : (lc, listOf [.int 0 t0, .int 0 t1].toArray 0) ∈ news) (hl4 : (lv, listOf [.int x t2, .int y t3].toArray 0) ∈ news) :
    Ct 6 w 349 [.ref lc, .ref lv, .ref la] news (fun t => .int (if 0 ≤ y then (x.natAbs : Int) else -(x.natAbs : Int)) t) (NoFit W (if 0 ≤ y then (x.natAbs : Int) else -(x.natAbs : Int))) := by
  intro mean mg mb dp un gd cn cs a ccd outer A₀ base h₀ L m s Q E B F X N T hk hd hu hret hexn
  walk_at "c.enter"
  k_steps
  all_goals first
    | ((refine' retI ?e (hret _ _ _ ?_ ?c1 ?c2); (case c1 => k_asm); (case c2 => k_asm)); (case e => first | exact (if_pos (by assumption)).symm | exact (if_neg (by assumption)).symm); first | (rw [if_pos (by assumption)]; assumption) | (rw [if_neg (by assumption)]; assumption))
    | ((refine' hexn ?_ _ _ _ _ ?c1 ?c2 ?c3; (case c2 => first | k_asm | exact RX.sub (by assumption) (fun p hp => List.mem_append_left _ hp)); (case c3 => k_asm); (case c1 => k_asm)); first | (rw [if_pos (by assumption)]; assumption) | (rw [if_neg (by assumption)]; assumption))
theorem compare_numbers_c {w : World} {news : List (Addr × Obj)} {x y : Int} {t u v : Tok} :
    Ct 6 w 356 [.int 0 v, .int x t, .int y u] news (fun t => .int (ord x y) t) False := by
  intro mean mg mb dp un gd cn cs a ccd outer A₀ base h₀ L m s Q E B F X N T hk hd hu hret hexn
  walk_at "c.enter"
  k_steps
  all_goals first | ((refine' hret _ _ _ ?_ ?c1 ?c2; (case c1 => k_asm); (case c2 => k_asm)); exact id)
theorem ln17 : True := by
  (k_with "call ref" => (k_here; (with_reducible show wpAny _ _ (call (Value.ref 356) _) _ _ _); k_call_by "c.use" (compare_numbers_c ); walk_at "c.back"))
  trivial
theorem ord_le {x y : Int} : ord x y ≤ 0 ↔ x ≤ y := by
  unfold ord
  (repeat' split) <;> omega
theorem ord_one {x y : Int} : ord x y = 1 ↔ y < x := by
  unfold ord
  (repeat' split) <;> omega
theorem ord_neg {x y : Int} : ord x y = -1 ↔ x < y := by
  unfold ord
  (repeat' split) <;> omega
theorem difference_c {w : World} {news : List (Addr × Obj)} {x y W : Int} {t0 t1 t2 t3 lu : Tok} {lk : Nat → Tok} {la dx lc lv : Addr} (h1 : 2 ≤ W) (h2 : W ≤ 40) (hx1 : -549755813888 ≤ x) (hx2 : x ≤ 549755813888) (hy1 : -549755813888 ≤ y) (hy2 : y ≤ 549755813888) (hl1 : (la, instObj 141 dx) ∈ news) (hl2 : (dx, limD w.params W lu lk) ∈ news) (hl3 : (lc, listOf [.int 0 t0, .int 0 t1].toArray 0) ∈ news) (hl4 : (lv, listOf [.int x t2, .int y t3].toArray 0) ∈ news) :
    Ct 7 w 363 [.ref lc, .ref lv, .ref la] news (fun t => .int (if x ≤ y then 0 else x - y) t) (¬ x ≤ y ∧ NoFit W (x - y)) := by
  intro mean mg mb dp un gd cn cs a ccd outer A₀ base h₀ L m s Q E B F X N T hk hd hu hret hexn
  walk_at "c.enter"
  k_steps
  all_goals first
    | ((refine' hexn ?_ _ _ _ _ ?c1 ?c2 ?c3; (case c2 => first | k_asm | exact RX.sub (by assumption) (fun p hp => List.mem_append_left _ hp)); (case c3 => k_asm); (case c1 => k_asm)); exact ⟨fun z => absurd (ord_le.mpr z) (by assumption), by assumption⟩)
    | ((refine' retI ?e (hret _ _ _ ?_ ?c1 ?c2); (case c1 => k_asm); (case c2 => k_asm)); (case e => first | exact (if_pos (ord_le.mp (by assumption))).symm | exact (if_neg (fun z => absurd (ord_le.mpr z) (by assumption))).symm); first | exact fun z => absurd z.2 (by assumption) | exact fun z => z.1 (ord_le.mp (by assumption)))
section
theorem unr_end {h₀ : Heap} {L I : Addr} {it : Obj} {lp : Addr × Obj} {rest : (Str → Option Value) → List (Addr × Obj) → Prop} {s₁ : Shared} {h' : Heap} {tk : Nat} {m' : Str → Option Value} {news : List (Addr × Obj)} (F : Fr h₀ L h' m') (N : News h₀ L h' ((I, it) :: news))
    (off : ∀ p ∈ news, p.1 < I) (hm : lp ∈ news) (r : rest m' news) : UnrEnd h₀ L s₁ I it (fun m' n' => lp ∈ n' ∧ rest m' n') { s₁ with heap := h', toks := tk } :=
  UnrEnd.intro F N news (fun p hp => hp) (fun p hp => Nat.ne_of_lt (off p hp)) ⟨hm, r⟩
theorem ln18 : True := by
  (k_with "exec For Name Name cons nil" => (k_here; (rename Fr _ _ _ _ => lF'); (with_unfolding_all refine' For_invVF lF' ?k1q44 ?k2q44 ?_; (case k1q44 => exact rfl); (case k2q44 => exact rfl); k_whole)))
  (k_with "pyIter ref" => ((with_reducible show wpAny _ _ (pyIter (Value.ref _)) (fun it s₂ => LoopAtV _ _ _ _ _ _ _ _ _ it s₂) _ _); (rename Fr _ _ _ _ => lF'); (rename News _ _ _ _ => lN'); (with_unfolding_all refine' iter_listUnr ?krq45 lF' lN' ?kmq45 ?kcq45 ?kdq45 ?_; (case krq45 => exact rfl); (case kmq45 => k_mem); (case kcq45 => exact rfl); (case kdq45 => exact rfl)); clear lF' lN'; intro i' l1))
  (k_with "UnrEnd" => (k_dflt (refine' unr_end ?cFq46 ?cNq46 ?coq46 ?cmq46 ?_; (case cFq46 => assumption); (case cNq46 => assumption); (case coq46 => assumption); (case cmq46 => k_mem))))
  trivial
theorem ln19 : True := by
  (k_with "call ref" => (k_here; (with_reducible show wpAny _ _ (call (Value.ref 356) _) _ _ _); k_call_by "c.use" (compare_numbers_c ); walk_at "c.back"))
  trivial
theorem ord_self {x : Int} : ord x x = 0 := if_pos rfl
theorem Ct.val {D : Nat} {w : World} {f : Addr} {vs : List Value} {news : List (Addr × Obj)} {R R' : Tok → Value} {Ex : Prop} (h : Ct D w f vs news R Ex) (e : ∀ t, R t = R' t) : Ct D w f vs news R' Ex := (funext e : R = R') ▸ h
theorem extreme_c {w : World} {news : List (Addr × Obj)} {x y o : Int} {t0 t1 t2 t3 : Tok} {lv : Addr} (ho : o ≠ 0) (hl4 : (lv, listOf [.int x t2, .int y t3].toArray 0) ∈ news) :
    Ct 7 w 370 [.int 0 t0, .ref lv, .int o t1] news (fun t => .int (if ord y x = o then y else x) t) False := by
  intro mean mg mb dp un gd cn cs a ccd outer A₀ base h₀ L m s Q E B F X N T hk hd hu hret hexn
  walk_at "c.enter"
  k_steps
  all_goals (first | exact absurd ((by assumption : ord x x = o).symm.trans ord_self) ho | exact absurd ((by assumption : ord y y = o).symm.trans ord_self) ho | skip)
  all_goals ((refine' retI ?e (hret _ _ _ ?_ ?c1 ?c2); (case c1 => k_asm); (case c2 => k_asm)); (case e => first | exact (if_pos (by assumption)).symm | exact (if_neg (by assumption)).symm); exact id)
theorem extreme_max_c {w : World} {news : List (Addr × Obj)} {x y : Int} {t0 t1 t2 t3 : Tok} {lv : Addr} (hl4 : (lv, listOf [.int x t2, .int y t3].toArray 0) ∈ news) :
    Ct 7 w 370 [.int 0 t0, .ref lv, .int 1 t1] news (fun t => .int (if x < y then y else x) t) False :=
  (extreme_c (by decide) hl4).val fun t => by simp only [ord_one]
theorem extreme_min_c {w : World} {news : List (Addr × Obj)} {x y : Int} {t0 t1 t2 t3 : Tok} {lv : Addr} (hl4 : (lv, listOf [.int x t2, .int y t3].toArray 0) ∈ news) :
    Ct 7 w 370 [.int 0 t0, .ref lv, .int (-1) t1] news (fun t => .int (if y < x then y else x) t) False :=
  (extreme_c (by decide) hl4).val fun t => by simp only [ord_neg]
end
theorem ln20 : True := by
  k_with_none
  (k_with "c.room" => ((try simp only [depth_deeper, depth_mark, depth_in1]); (try dsimp only [cTop]); first | exact room_1 (by assumption) (by decide) | exact room_0 (by assumption) (by decide) | exact room_2 (by assumption) | omega))
  (k_with "c.units" => ((try simp only [units_deeper, Around.mark_units, units_in1]); (try dsimp only [cTop]); first | exact unit_1 (by assumption) (by decide) | exact unit_0 (by assumption) (by decide) | exact unit_2 (by assumption) | omega))
  (k_with "exec Raise some none" => (k_here; refine Raise_mine rfl ?_))
  (k_with "RaiseEnd" => (k_here; refine' raiseEnd_ ?Fq7 ?Xq7 ?Nq7 ?_; (case Fq7 => k_asm); (case Xq7 => k_asm); (case Nq7 => k_asm); k_whole; try dsimp only))
  (k_with "call ref" => (k_here; (with_reducible show wpAny _ _ (call (Value.ref 44) _) _ _ _); k_dflt (refine' rf_call ?Bq8 ?Fq8 ?Xq8 ?Nq8 ?Tq8 ?Aq8 ?fq8 ?kq8 ?dq8 ?_; (case Aq8 => exact rfl); (case fq8 => exact rfl); (case kq8 => exact rfl); (case Bq8 => k_asm); (case Fq8 => k_asm); (case Xq8 => k_asm); (case Nq8 => k_asm); (case Tq8 => k_asm); (case dq8 => walk_at "c.room"); k_whole); intro e' t' d' vs' h' tk' F' N' hn' hn2'; (try k_sweep)))
  (k_with "leaving ref" => (k_here; first
    | (refine' leave_first ?Kq9 ?Fq9 ?Nq9 ?nq9 ?n2q9 ?_; (case Kq9 => assumption); (case Fq9 => assumption); (case Nq9 => assumption); (case nq9 => assumption); (case n2q9 => assumption); k_whole; intro h' R' U'; (try dsimp only at R' U' ⊢))
    | (refine' leave_on ?Kq9 ?Fq9 ?Rq9 ?Uq9 ?_; (case Rq9 => assumption); (case Kq9 => assumption); (case Uq9 => assumption); (case Fq9 => assumption); k_whole; intro h' R' U'; (try dsimp only at R' U' ⊢))))
  (k_with "c.enter" => (refine wpAny_call ?_; k_dflt (refine' code_def ?k1q10 ?k2q10 ?k3q10 ?k4q10 ?k5q10 ?kAq10 ?kFq10 ?kKq10 ?k6q10 ?k7q10 ?k8q10 ?k9q10 ?kBq10 ?_ ?c2q10 ?c3q10 ?c4q10 ?c5q10; (case kAq10 => exact rfl); (case kFq10 => exact rfl); (case kKq10 => assumption); (case k1q10 => k_asm); (case k2q10 => k_asm); (case k3q10 => k_asm); (case k4q10 => k_asm); (case k5q10 => k_asm); (case k6q10 => k_is); (case k7q10 => k_is); (case k8q10 => walk_at "c.room"); (case k9q10 => first | exact BindsTo.of_eq (binds := [(_, _)]) rfl | exact BindsTo.of_eq (binds := [(_, _), (_, _)]) rfl | exact BindsTo.of_eq (binds := [(_, _), (_, _), (_, _)]) rfl | exact BindsTo.of_eq (binds := [(_, _), (_, _), (_, _), (_, _)]) rfl | exact BindsTo.of_eq (binds := [(_, _), (_, _), (_, _), (_, _), (_, _)]) rfl | exact BindsTo.of_eq (binds := [(_, _), (_, _), (_, _), (_, _), (_, _), (_, _)]) rfl); (case c5q10 => decide); (case kBq10 => exact locs rfl); (case c2q10 => exact rfl); (case c3q10 => exact rfl); (case c4q10 => exact rfl); k_whole; intro g' L' h' FG' F' N' B' X' T'; (try dsimp only); (try k_fold))))
  (k_with "c.use.r" => ((case cB => k_asm); (case cF => k_asm); (case cX => k_asm); (case cN => k_asm); (case cT => k_asm); (case ck => first | exact rfl | assumption); (case cd => walk_at "c.room"); (case cu => walk_at "c.units")))
  (k_with "c.back" => ((case' cr => (intro t' h' tk' hx' F' N'; (try k_sweep); (try dsimp only); (try k_fold))); (case' cx => first | exact fun z => False.elim z | (intro hx' e' G' h' tk' FG' R' U'; (try dsimp only); (try k_fold)))))
  (k_with "eval Call" => (k_here; k_dflt (refine Call_ ?_)))
  (k_with "c.side" => first | assumption | omega | (constructor <;> assumption))
  (k_with "ite" => (k_closed; first | refine ite_pos (by decide +kernel) ?_ | refine ite_neg (by decide +kernel) ?_))
  (k_with "call builtin:abs" => (k_here; (with_reducible show wpAny _ _ (call (Value.builtin "abs") [Value.int _ _]) _ _ _); k_dflt (refine abs_r ?_); intro t' tk'))
  (k_with "c.ne" => first | assumption | decide | omega)
  (k_with "c.py" => first | assumption | (rw [Int.natAbs_natCast]; assumption) | decide)
  (k_with "binaryOp FloorDiv int int" => (k_here; k_dflt (refine' floordiv_int ?neq18 ?_ (Or.inl (PyProof.noPylong_of_log2 ?pyq18))); (case neq18 => walk_at "c.ne"); (case pyq18 => walk_at "c.py")))
  (k_with "c.py" => first | assumption | (rw [Int.natAbs_natCast]; assumption) | decide | exact log2_40 (by assumption) (by assumption))
  (k_with "c.num" => first | assumption | omega | decide)
  (k_with "binaryOp Pow int int" => (k_here; k_dflt (refine' pow_int_small ?caq21 ?cbq21 ?ccq21 ?_); (case caq21 => walk_at "c.num"); (case cbq21 => walk_at "c.num"); (case ccq21 => walk_at "c.num")))
  (k_with "subscriptTail" => (k_here; (with_reducible show wpAny _ _ (subscriptTail _ _ (Value.ref _) (Value.int _ _)) _ _ _); k_dflt (refine' item_list_c ?cNq22 ?cmq22 ?c0q22 ?chq22 ?cxq22 ?_ ?csq22; (case cNq22 => k_asm); (case cmq22 => k_mem); (case c0q22 => decide); (case chq22 => decide); (case cxq22 => rfl); (case csq22 => with_unfolding_all rfl); k_whole)))
  (k_with "call ref" => (k_here; (with_reducible show wpAny _ _ (call (Value.ref 53) _) _ _ _); k_call_by "c.use" (fit_int_c ?h1q23 ?h2q23); (case h1q23 => walk_at "c.side"); (case h2q23 => walk_at "c.side"); walk_at "c.back"))
  (k_with "call ref" => (k_here; (with_reducible show wpAny _ _ (call (Value.ref 81) _) _ _ _); k_call_by "c.use" (cutq_c ?hyq24 ?hbq24); (case hyq24 => walk_at "c.side"); (case hbq24 => walk_at "c.side"); walk_at "c.back"))
  (k_with "call ref" => (k_here; (with_reducible show wpAny _ _ (call (Value.ref 60) _) _ _ _); k_call_by "c.use" (int_add_c ?h1q31 ?h2q31); (case h1q31 => walk_at "c.side"); (case h2q31 => walk_at "c.side"); walk_at "c.back"))
  (k_with "call ref" => (k_here; (with_reducible show wpAny _ _ (call (Value.ref 67) _) _ _ _); k_call_by "c.use" (int_sub_c ?h1q32 ?h2q32); (case h1q32 => walk_at "c.side"); (case h2q32 => walk_at "c.side"); walk_at "c.back"))
  (k_with "call ref" => (k_here; (with_reducible show wpAny _ _ (call (Value.ref 74) _) _ _ _); k_call_by "c.use" (int_mul_c ?h1q33 ?h2q33 ?hx1q33 ?hx2q33); (case h1q33 => walk_at "c.side"); (case h2q33 => walk_at "c.side"); (case hx1q33 => walk_at "c.side"); (case hx2q33 => walk_at "c.side"); walk_at "c.back"))
  (k_with "call ref" => (k_here; (with_reducible show wpAny _ _ (call (Value.ref 88) _) _ _ _); k_call_by "c.use" (int_div_c ?h1q34 ?h2q34 ?hy1q34 ?hy2q34); (case h1q34 => walk_at "c.side"); (case h2q34 => walk_at "c.side"); (case hy1q34 => walk_at "c.side"); (case hy2q34 => walk_at "c.side"); walk_at "c.back"))
  (k_with "call ref" => (k_here; (with_reducible show wpAny _ _ (call (Value.ref 102) _) _ _ _); k_call_by "c.use" (int_power_c ?h1q35 ?h2q35 ?hx1q35 ?hx2q35 ?hn1q35 ?hn2q35); (case h1q35 => walk_at "c.side"); (case h2q35 => walk_at "c.side"); (case hx1q35 => walk_at "c.side"); (case hx2q35 => walk_at "c.side"); (case hn1q35 => walk_at "c.side"); (case hn2q35 => walk_at "c.side"); walk_at "c.back"))
  (k_with "call ref" => (k_here; (with_reducible show wpAny _ _ (call (Value.ref 102) _) _ _ _); k_call_by "c.use" (int_power_neg ?h1q36 ?h2q36 ?hn1q36); (case h1q36 => walk_at "c.side"); (case h2q36 => walk_at "c.side"); (case hn1q36 => walk_at "c.side"); walk_at "c.back"))
  (k_with "call ref" => (k_here; (with_reducible show wpAny _ _ (call (Value.ref 109) _) _ _ _); k_call_by "c.use" (order_of_c ); walk_at "c.back"))
  (k_with "call ref" => (k_here; (with_reducible show wpAny _ _ (call (Value.ref 116) _) _ _ _); k_call_by "c.use" (holds_lt_c ); walk_at "c.back"))
  (k_with "call ref" => (k_here; (with_reducible show wpAny _ _ (call (Value.ref 116) _) _ _ _); k_call_by "c.use" (holds_ge_c ); walk_at "c.back"))
  (k_with "call ref" => (k_here; (with_reducible show wpAny _ _ (call (Value.ref 53) _) _ _ _); k_call_by "c.use" (fit_int_c ?h1q40 ?h2q40); (case h1q40 => walk_at "c.side"); (case h2q40 => walk_at "c.side"); walk_at "c.back"))
  (k_with "call ref" => (k_here; (with_reducible show wpAny _ _ (call (Value.ref 81) _) _ _ _); k_call_by "c.use" (cutq_c ?hyq41 ?hbq41); (case hyq41 => walk_at "c.side"); (case hbq41 => walk_at "c.side"); walk_at "c.back"))
  (k_with "call ref" => (k_here; (with_reducible show wpAny _ _ (call (Value.ref 109) _) _ _ _); k_call_by "c.use" (order_of_c ); walk_at "c.back"))
  (k_with "call ref" => (k_here; (with_reducible show wpAny _ _ (call (Value.ref 356) _) _ _ _); k_call_by "c.use" (compare_numbers_c ); walk_at "c.back"))
  trivial
theorem ln21 : True := by
  (k_with "call ref" => (k_here; (with_reducible show wpAny _ _ (call (Value.ref 370) _) _ _ _); k_call_by "c.use" (extreme_max_c ?hl4q48); (case hl4q48 => k_dflt k_mem); walk_at "c.back"))
  (k_with "call ref" => (k_here; (with_reducible show wpAny _ _ (call (Value.ref 370) _) _ _ _); k_call_by "c.use" (extreme_min_c ?hl4q49); (case hl4q49 => k_dflt k_mem); walk_at "c.back"))
  trivial
theorem greatest_c {w : World} {news : List (Addr × Obj)} {x y W : Int} {t0 t1 t2 t3 lu : Tok} {lk : Nat → Tok} {la dx lc lv : Addr} (h1 : 2 ≤ W) (h2 : W ≤ 40) (hx1 : -549755813888 ≤ x) (hx2 : x ≤ 549755813888) (hy1 : -549755813888 ≤ y) (hy2 : y ≤ 549755813888) (hl1 : (la, instObj 141 dx) ∈ news) (hl2 : (dx, limD w.params W lu lk) ∈ news) (hl3 : (lc, listOf [.int 0 t0, .int 0 t1].toArray 0) ∈ news) (hl4 : (lv, listOf [.int x t2, .int y t3].toArray 0) ∈ news) :
    Ct 9 w 377 [.ref lc, .ref lv, .ref la] news (fun t => .int (if x < y then y else x) t) False := by
  intro mean mg mb dp un gd cn cs a ccd outer A₀ base h₀ L m s Q E B F X N T hk hd hu hret hexn
  walk_at "c.enter"
  k_steps
  all_goals ((refine' hret _ _ _ ?_ ?c1 ?c2; (case c1 => k_asm); (case c2 => k_asm)); exact id)
theorem least_c {w : World} {news : List (Addr × Obj)} {x y W : Int} {t0 t1 t2 t3 lu : Tok} {lk : Nat → Tok} {la dx lc lv : Addr} (h1 : 2 ≤ W) (h2 : W ≤ 40) (hx1 : -549755813888 ≤ x) (hx2 : x ≤ 549755813888) (hy1 : -549755813888 ≤ y) (hy2 : y ≤ 549755813888) (hl1 : (la, instObj 141 dx) ∈ news) (hl2 : (dx, limD w.params W lu lk) ∈ news) (hl3 : (lc, listOf [.int 0 t0, .int 0 t1].toArray 0) ∈ news) (hl4 : (lv, listOf [.int x t2, .int y t3].toArray 0) ∈ news) :
    Ct 9 w 384 [.ref lc, .ref lv, .ref la] news (fun t => .int (if y < x then y else x) t) False := by
  intro mean mg mb dp un gd cn cs a ccd outer A₀ base h₀ L m s Q E B F X N T hk hd hu hret hexn
  walk_at "c.enter"
  k_steps
  all_goals ((refine' hret _ _ _ ?_ ?c1 ?c2; (case c1 => k_asm); (case c2 => k_asm)); exact id)
/-- a call that catches: it hands back R t; the ground turns (the frames' own slots) -/
abbrev CtL (D : Nat) (w : World) (f : Addr) (vs : List Value) (news : List (Addr × Obj)) (R : Tok → Value) : Prop :=
  ∀ (mean : ExcName → Option Value) (mg mb : Str → Option Value) (dp un : Nat) (gd : Option (List Code)) (cn : Str) (cs : Scope) (a : Addr) (ccd : Value) (outer : List Env) (A₀ : Around) (base h₀ : Heap) (L : Addr) (m : Str → Option Value) (s : Shared) (Q E : Value → Shared → Prop),
    Below A₀ base outer h₀ → Fr h₀ L s.heap m → (tp.heap_1 w.params).In h₀ → News h₀ L s.heap news → Top tp.vw (looseW tp.vw []) mean mg mb h₀ → cs.kind = .function →
    (tp.heap_1 w.params).In base → Top tp.vw (looseW tp.vw []) mean mg mb base → KtsDicts (outer.filterMap (·.frame)) h₀ →
    dp + D < recursionLimit → un + 10 * D < cLine →
    (∀ t h₀' h' tk', KtsTurn (outer.filterMap (·.frame)) h₀ h₀' → Fr h₀' L h' m → News h₀' L h' news → Below A₀ base outer h₀' → (tp.heap_1 w.params).In h₀' → Top tp.vw (looseW tp.vw []) mean mg mb h₀' →
      KtsDicts (outer.filterMap (·.frame)) h₀' → Q (R t) { s with heap := h', toks := tk' }) →
    wpAny (model Challenge.rw_sa0216_01.row.prog w) (cTop dp un gd cn cs L a ccd outer) (call (.ref f) vs) Q E s
def optV (o : Option Int) (t : Tok) : Value := match o with | some z => .int z t | none => .none
def fitO (W n : Int) : Option Int := if n < -(2 ^ (W - 1).toNat) then none else if 2 ^ (W - 1).toNat ≤ n then none else some n
theorem fitO_none {W n : Int} (h : NoFit W n) : fitO W n = none := by
  unfold fitO
  rcases h with h | h
  · rw [if_pos h]
  · by_cases h' : n < -(2 ^ (W - 1).toNat)
    · rw [if_pos h']
    · rw [if_neg h', if_pos h]
theorem fitO_some {W n : Int} (h : ¬ NoFit W n) : fitO W n = some n := by
  unfold fitO
  unfold NoFit at h
  rw [if_neg (fun z => h (.inl z)), if_neg (fun z => h (.inr z))]
theorem retV {Q : Value → Shared → Prop} {v v' : Value} {s : Shared} (e : v = v') (h : Q v' s) : Q v s := e ▸ h
theorem news_tl {h₀ h : Heap} {L : Addr} {p : Addr × Obj} {news : List (Addr × Obj)} (N : News h₀ L h (p :: news)) : News h₀ L h news := fun x hx => N x (.tail _ hx)
theorem ln22 : True := by
  (k_with "l.enter" => (refine wpAny_call ?_; k_dflt (refine' code_defS ?k1q50 ?k2q50 ?k3q50 ?k4q50 ?k5q50 ?kXq50 ?kTq50 ?kDq50 KtsTurn.refl ?kAq50 ?k6q50 ?k7q50 ?k8q50 ?k9q50 ?kBq50 ?_ ?kKq50 ?c2q50 ?c3q50 ?c4q50 ?c5q50; (case kAq50 => exact rfl); (case kKq50 => assumption); (case k1q50 => k_asm); (case k2q50 => k_asm); (case k3q50 => k_asm); (case k4q50 => k_asm); (case k5q50 => k_asm); (case kXq50 => k_asm); (case kTq50 => k_asm); (case kDq50 => k_asm); (case k6q50 => k_is); (case k7q50 => k_is); (case k8q50 => walk_at "c.room"); (case k9q50 => first | exact BindsTo.of_eq (binds := [(_, _)]) rfl | exact BindsTo.of_eq (binds := [(_, _), (_, _)]) rfl | exact BindsTo.of_eq (binds := [(_, _), (_, _), (_, _)]) rfl | exact BindsTo.of_eq (binds := [(_, _), (_, _), (_, _), (_, _)]) rfl | exact BindsTo.of_eq (binds := [(_, _), (_, _), (_, _), (_, _), (_, _)]) rfl | exact BindsTo.of_eq (binds := [(_, _), (_, _), (_, _), (_, _), (_, _), (_, _)]) rfl); (case c5q50 => decide); (case kBq50 => exact locs rfl); (case c2q50 => exact rfl); (case c3q50 => exact rfl); (case c4q50 => exact rfl); k_whole; intro g' L' h' FG' F' N' B' X' T' D'; (try dsimp only); (try k_fold))))
  (k_with "Exists" => (k_here; k_dflt (refine' kda_made_str ?e1q51 ?e2q51 ?e3q51 ?e4q51 ?e5q51 ?e6q51 ?_; (case e1q51 => k_asm); (case e2q51 => k_asm); (case e3q51 => exact Top.nolimit (by k_asm)); (case e4q51 => kernel_rfl); (case e5q51 => exact of_decide_eq_true (by kernel_rfl)); (case e6q51 => kernel_rfl)); intro h' o' F' N' l1 lo' hd'; (try k_lt l1)))
  (k_with "noteFrame ref" => (k_here; (with_reducible rename RX _ _ _ _ _ _ => rkX); obtain ⟨t', vs', R'⟩ := rkX; k_dflt (refine' caught_SO0 R' ?cFq52 ?cKq52 ?cUq52 ?cXBq52 ?cTBq52 ?cDq52 ?cT0q52 ?cexq52 ?cqq52 ?_ ?chq52 ?cxq52 ?cdq52 ?cEq52; (case cFq52 => k_asm); (case cKq52 => k_asm); (case cUq52 => k_asm); (case cXBq52 => k_asm); (case cTBq52 => k_asm); (case cDq52 => k_asm); (case cT0q52 => first | k_asm | exact KtsTurn.refl); (case cexq52 => k_is); (case cqq52 => kernel_rfl); (case chq52 => rfl); (case cxq52 => rfl); (case cdq52 => decide); (case cEq52 => passes_own)); intro h' g' n2' U' F' N2' G' N' B' X' T' D'; (clear N2' G'); (try k_sweep); (try dsimp only)))
  trivial
section
theorem div_none {W x y : Int} (h : y = 0 ∨ NoFit W (Int.tdiv x y)) : optV (if y = 0 then none else fitO W (Int.tdiv x y)) 0 = .none := by
  by_cases hy : y = 0
  · rw [if_pos hy]; rfl
  · rw [if_neg hy, fitO_none (h.resolve_left hy)]; rfl
theorem div_some {W x y : Int} {t : Tok} (h : ¬ (y = 0 ∨ NoFit W (Int.tdiv x y))) : optV (if y = 0 then none else fitO W (Int.tdiv x y)) t = .int (Int.tdiv x y) t := by
  rw [if_neg (fun z => h (.inl z)), fitO_some (fun z => h (.inr z))]; rfl
theorem dim_none {W x y : Int} (h : ¬ x ≤ y ∧ NoFit W (x - y)) : optV (if x ≤ y then some 0 else fitO W (x - y)) 0 = .none := by
  rw [if_neg h.1, fitO_none h.2]; rfl
theorem dim_some {W x y : Int} {t : Tok} (h : ¬ (¬ x ≤ y ∧ NoFit W (x - y))) : optV (if x ≤ y then some 0 else fitO W (x - y)) t = .int (if x ≤ y then 0 else x - y) t := by
  by_cases hxy : x ≤ y
  · rw [if_pos hxy, if_pos hxy]; rfl
  · rw [if_neg hxy, if_neg hxy, fitO_some (fun z => h ⟨hxy, z⟩)]; rfl
abbrev wordsK : List (Str × Value) := [(Str.ofString "MOD", .ref 342), (Str.ofString "DIM", .ref 363), (Str.ofString "SIGN", .ref 349), (Str.ofString "MAX", .ref 377), (Str.ofString "MIN", .ref 384), (Str.ofString "ABS", .ref 335)]
def BinF (w : World) (news : List (Addr × Obj)) (op : Str) (x y : Int) (la : Addr) (R : Tok → Value) (Ex : Prop) : Prop :=
  ∀ (news' : List (Addr × Obj)) (t0 t1 t2 t3 : Tok), (∀ p ∈ news, p ∈ news') → Ct 9 w 123 [.str op t0, .int 0 t1, .int x t2, .int y t3, .ref la] news' R Ex
def WordF (w : World) (news : List (Addr × Obj)) (fa : Addr) (x y : Int) (la : Addr) (R : Tok → Value) (Ex : Prop) : Prop :=
  ∀ (news' : List (Addr × Obj)) (lc lv : Addr) (t0 t1 t2 t3 : Tok), (∀ p ∈ news, p ∈ news') → (lc, listOf [.int 0 t0, .int 0 t1].toArray 0) ∈ news' → (lv, listOf [.int x t2, .int y t3].toArray 0) ∈ news' → Ct 9 w fa [.ref lc, .ref lv, .ref la] news' R Ex
theorem BinF.use {w : World} {news : List (Addr × Obj)} {op : Str} {x y : Int} {la : Addr} {R : Tok → Value} {Ex : Prop} (h : BinF w news op x y la R Ex) {news' : List (Addr × Obj)} {t0 t1 t2 t3 : Tok} (hs : ∀ p ∈ news, p ∈ news') :
    Ct 9 w 123 [.str op t0, .int 0 t1, .int x t2, .int y t3, .ref la] news' R Ex := h news' t0 t1 t2 t3 hs
theorem WordF.use {w : World} {news : List (Addr × Obj)} {fa : Addr} {x y : Int} {la : Addr} {R : Tok → Value} {Ex : Prop} (h : WordF w news fa x y la R Ex) {news' : List (Addr × Obj)} {lc lv : Addr} {t0 t1 t2 t3 : Tok} (hs : ∀ p ∈ news, p ∈ news')
    (h3 : (lc, listOf [.int 0 t0, .int 0 t1].toArray 0) ∈ news') (h4 : (lv, listOf [.int x t2, .int y t3].toArray 0) ∈ news') : Ct 9 w fa [.ref lc, .ref lv, .ref la] news' R Ex := h news' lc lv t0 t1 t2 t3 hs h3 h4
theorem Ct.deep {D : Nat} {w : World} {f : Addr} {vs : List Value} {news : List (Addr × Obj)} {R : Tok → Value} {Ex : Prop} (h : Ct D w f vs news R Ex) (e : D ≤ 9) : Ct 9 w f vs news R Ex :=
  fun mean mg mb dp un gd cn cs a ccd outer A₀ base h₀ L m s Q E B F X N T hk hd hu hret hexn =>
    h mean mg mb dp un gd cn cs a ccd outer A₀ base h₀ L m s Q E B F X N T hk (room_0 hd e) (unit_0 hu (Nat.mul_le_mul_left 10 e)) hret hexn
section
variable {prog : Program} {w : World} {A : Around} {E : Value → Shared → Prop} {s : Shared} {h₀ : Heap} {L d : Addr} {news : List (Addr × Obj)} {o : Obj} {op : Str} {k : Tok} {Q : Value → Shared → Prop} {v : Value} {value slice : PySem.Expr} {b : Bool}
theorem in_words (N : News h₀ L s.heap news) (hp : (d, o) ∈ news) (hd : o.IsDictOf (PySem.strKind prog w) wordsK) (lo : (d == sysModules) = false) (hb : (valueAt wordsK op).isSome = b) (h : Q (.bool b) { s with toks := s.toks + 1 }) :
    wpAny (model prog w) A (compareOp .In (.str op k) (.ref d)) Q E s := kda_in N hp hd lo (strKind_is _ _ _ _) b hb h
theorem of_words (N : News h₀ L s.heap news) (hp : (d, o) ∈ news) (hd : o.IsDictOf (PySem.strKind prog w) wordsK) (hb : valueAt wordsK op = some v) (h : Q v { s with toks := s.toks + 1 })
    (hs : subscripted slice false (.ref d) (.str op k) = operate [.ref d, .str op k] (getItem (.ref d) (.str op k))) :
    wpAny (model prog w) A (subscriptTail value slice (.ref d) (.str op k)) Q E s := kdt_tail N hp hd (kdt_getItem (k := op) N hp hd (strKind_is _ _ _ _) hb h) hs
end
theorem ln23 : True := by
  (k_with "p.tl" => first | assumption | (refine List.mem_cons_of_mem _ ?_; walk_at "p.tl"))
  (k_with "compareOp In str ref" => (k_here; k_dflt (refine' in_words ?Nq54 ?pq54 ?dq54 ?loq54 ?bq54 ?_; (case Nq54 => k_asm); (case pq54 => exact List.Mem.head _); (case dq54 => assumption); (case loq54 => assumption); (case bq54 => assumption))))
  (k_with "subscriptTail Name Name ref str" => (k_here; k_dflt (refine' of_words ?Nq55 ?pq55 ?dq55 ?bq55 ?_ ?sq55; (case Nq55 => k_asm); (case pq55 => exact List.Mem.head _); (case dq55 => assumption); (case bq55 => assumption); (case sq55 => with_unfolding_all rfl))))
  (k_with "call ref" => (k_here; (with_reducible show wpAny _ _ (call (Value.ref 123) _) _ _ _); k_call_by "c.use" (BinF.use (by assumption) ?hsq56); (case hsq56 => intro p hp; walk_at "p.tl"); walk_at "c.back"))
  (k_with "call ref" => (k_here; (with_reducible show wpAny _ _ (call (Value.ref _) [Value.ref _, Value.ref _, Value.ref _]) _ _ _); k_call_by "c.use" (WordF.use (by assumption) ?hsq57 ?hl3q57 ?hl4q57); (case hsq57 => intro p hp; walk_at "p.tl"); (case hl3q57 => k_dflt k_mem); (case hl4q57 => k_dflt k_mem); walk_at "c.back"))
  trivial
theorem mk_bin {w : World} {news : List (Addr × Obj)} {op : Str} {x y : Int} {t0 t2 t3 : Tok} {la : Addr} {R R' : Tok → Value} {Ex : Prop} (hop : (valueAt wordsK op).isSome = false) (hc : BinF w news op x y la R Ex) (g1 : ¬ Ex → ∀ t, R t = R' t) (g2 : Ex → Value.none = R' 0) :
    CtL 13 w 412 [.str op t0, .int x t2, .int y t3, .ref la] news R' := by
  intro mean mg mb dp un gd cn cs a ccd outer A₀ base h₀ L m s Q E B F X N T hk XB TB D hd hu hret
  walk_at "l.enter"
  k_steps
  all_goals first
    | ((refine' retV ?_ (hret 0 _ _ _ ?c1 ?c2 ?c3 ?c4 ?c5 ?c6 ?c7); (case c2 => k_asm); (case c3 => first | k_asm | exact news_tl (by k_asm) | exact news_tl (news_tl (by k_asm)) | exact news_tl (news_tl (news_tl (by k_asm))) | exact news_tl (news_tl (news_tl (news_tl (by k_asm))))); (case c1 => first | k_asm | exact KtsTurn.refl); (case c4 => k_asm); (case c5 => k_asm); (case c6 => k_asm); (case c7 => k_asm)); exact g2 (by assumption))
    | ((refine' retV ?_ (hret _ _ _ _ ?c1 ?c2 ?c3 ?c4 ?c5 ?c6 ?c7); (case c2 => k_asm); (case c3 => first | k_asm | exact news_tl (by k_asm) | exact news_tl (news_tl (by k_asm)) | exact news_tl (news_tl (news_tl (by k_asm))) | exact news_tl (news_tl (news_tl (news_tl (by k_asm))))); (case c1 => first | k_asm | exact KtsTurn.refl); (case c4 => k_asm); (case c5 => k_asm); (case c6 => k_asm); (case c7 => k_asm)); exact g1 (by assumption) _)
theorem ln24 : True := by
  (k_with "callWith ref" => (k_here; k_dflt (refine' callWith_K ?k1q58 ?k2q58 ?_; (case k1q58 => k_asm); (case k2q58 => assumption); k_whole)))
  trivial
theorem mk_word {w : World} {news : List (Addr × Obj)} {op : Str} {fa : Addr} {x y : Int} {t0 t2 t3 : Tok} {la : Addr} {R R' : Tok → Value} {Ex : Prop} (hop : (valueAt wordsK op).isSome = true) (hv : valueAt wordsK op = some (.ref fa)) (hkp : ∀ P : Params, keepIn (tp.heap_1 P) (.ref fa) = true) (hc : WordF w news fa x y la R Ex) (g1 : ¬ Ex → ∀ t, R t = R' t) (g2 : Ex → Value.none = R' 0) :
    CtL 13 w 412 [.str op t0, .int x t2, .int y t3, .ref la] news R' := by
  have hkp' := hkp w.params
  intro mean mg mb dp un gd cn cs a ccd outer A₀ base h₀ L m s Q E B F X N T hk XB TB D hd hu hret
  walk_at "l.enter"
  k_steps
  all_goals first
    | ((refine' retV ?_ (hret 0 _ _ _ ?c1 ?c2 ?c3 ?c4 ?c5 ?c6 ?c7); (case c2 => k_asm); (case c3 => first | k_asm | exact news_tl (by k_asm) | exact news_tl (news_tl (by k_asm)) | exact news_tl (news_tl (news_tl (by k_asm))) | exact news_tl (news_tl (news_tl (news_tl (by k_asm))))); (case c1 => first | k_asm | exact KtsTurn.refl); (case c4 => k_asm); (case c5 => k_asm); (case c6 => k_asm); (case c7 => k_asm)); exact g2 (by assumption))
    | ((refine' retV ?_ (hret _ _ _ _ ?c1 ?c2 ?c3 ?c4 ?c5 ?c6 ?c7); (case c2 => k_asm); (case c3 => first | k_asm | exact news_tl (by k_asm) | exact news_tl (news_tl (by k_asm)) | exact news_tl (news_tl (news_tl (by k_asm))) | exact news_tl (news_tl (news_tl (news_tl (by k_asm))))); (case c1 => first | k_asm | exact KtsTurn.refl); (case c4 => k_asm); (case c5 => k_asm); (case c6 => k_asm); (case c7 => k_asm)); exact g1 (by assumption) _)
theorem mki_add {w : World} {news : List (Addr × Obj)} {x y W : Int} {t0 t2 t3 lu : Tok} {lk : Nat → Tok} {la dx : Addr} (h1 : 2 ≤ W) (h2 : W ≤ 40) (hx1 : -549755813888 ≤ x) (hx2 : x ≤ 549755813888) (hy1 : -549755813888 ≤ y) (hy2 : y ≤ 549755813888) (hl1 : (la, instObj 141 dx) ∈ news) (hl2 : (dx, limD w.params W lu lk) ∈ news) :
    CtL 13 w 412 [.str "add" t0, .int x t2, .int y t3, .ref la] news (fun t => optV (fitO W (x + y)) t) := by
  exact mk_bin (by kernel_rfl) (fun news' u0 u1 u2 u3 hs => bin_add_c h1 h2 hx1 hx2 hy1 hy2  (hs _ hl1) (hs _ hl2)) (fun h t => by rw [fitO_some h]; rfl) (fun h => by rw [fitO_none h]; rfl)
theorem mki_sub {w : World} {news : List (Addr × Obj)} {x y W : Int} {t0 t2 t3 lu : Tok} {lk : Nat → Tok} {la dx : Addr} (h1 : 2 ≤ W) (h2 : W ≤ 40) (hx1 : -549755813888 ≤ x) (hx2 : x ≤ 549755813888) (hy1 : -549755813888 ≤ y) (hy2 : y ≤ 549755813888) (hl1 : (la, instObj 141 dx) ∈ news) (hl2 : (dx, limD w.params W lu lk) ∈ news) :
    CtL 13 w 412 [.str "sub" t0, .int x t2, .int y t3, .ref la] news (fun t => optV (fitO W (x - y)) t) := by
  exact mk_bin (by kernel_rfl) (fun news' u0 u1 u2 u3 hs => bin_sub_c h1 h2 hx1 hx2 hy1 hy2  (hs _ hl1) (hs _ hl2)) (fun h t => by rw [fitO_some h]; rfl) (fun h => by rw [fitO_none h]; rfl)
theorem mki_mul {w : World} {news : List (Addr × Obj)} {x y W : Int} {t0 t2 t3 lu : Tok} {lk : Nat → Tok} {la dx : Addr} (h1 : 2 ≤ W) (h2 : W ≤ 40) (hx1 : -549755813888 ≤ x) (hx2 : x ≤ 549755813888) (hy1 : -549755813888 ≤ y) (hy2 : y ≤ 549755813888) (hl1 : (la, instObj 141 dx) ∈ news) (hl2 : (dx, limD w.params W lu lk) ∈ news) :
    CtL 13 w 412 [.str "mul" t0, .int x t2, .int y t3, .ref la] news (fun t => optV (fitO W (x * y)) t) := by
  exact mk_bin (by kernel_rfl) (fun news' u0 u1 u2 u3 hs => bin_mul_c h1 h2 hx1 hx2 hy1 hy2  (hs _ hl1) (hs _ hl2)) (fun h t => by rw [fitO_some h]; rfl) (fun h => by rw [fitO_none h]; rfl)
theorem mki_div {w : World} {news : List (Addr × Obj)} {x y W : Int} {t0 t2 t3 lu : Tok} {lk : Nat → Tok} {la dx : Addr} (h1 : 2 ≤ W) (h2 : W ≤ 40) (hx1 : -549755813888 ≤ x) (hx2 : x ≤ 549755813888) (hy1 : -549755813888 ≤ y) (hy2 : y ≤ 549755813888) (hl1 : (la, instObj 141 dx) ∈ news) (hl2 : (dx, limD w.params W lu lk) ∈ news) :
    CtL 13 w 412 [.str "div" t0, .int x t2, .int y t3, .ref la] news (fun t => optV ((if y = 0 then none else fitO W (Int.tdiv x y))) t) := by
  exact mk_bin (by kernel_rfl) (fun news' u0 u1 u2 u3 hs => bin_div_c h1 h2 hx1 hx2 hy1 hy2  (hs _ hl1) (hs _ hl2)) (fun h t => (div_some h).symm) (fun h => (div_none h).symm)
theorem mki_mod {w : World} {news : List (Addr × Obj)} {x y W : Int} {t0 t2 t3 lu : Tok} {lk : Nat → Tok} {la dx : Addr} (h1 : 2 ≤ W) (h2 : W ≤ 40) (hx1 : -549755813888 ≤ x) (hx2 : x ≤ 549755813888) (hy1 : -549755813888 ≤ y) (hy2 : y ≤ 549755813888) (hl1 : (la, instObj 141 dx) ∈ news) (hl2 : (dx, limD w.params W lu lk) ∈ news) :
    CtL 13 w 412 [.str "MOD" t0, .int x t2, .int y t3, .ref la] news (fun t => optV ((if y = 0 then none else some (x - Int.tdiv x y * y))) t) := by
  exact mk_word (by kernel_rfl) (by kernel_rfl) (fun P => by kernel_rfl) (fun news' lc lv u0 u1 u2 u3 hs h3 h4 => (rest_of_c h1 h2 hx1 hx2 hy1 hy2 (hs _ hl1) (hs _ hl2) h3 h4).deep (by decide)) (fun h t => by rw [if_neg h]; rfl) (fun h => by rw [if_pos h]; rfl)
theorem mki_max {w : World} {news : List (Addr × Obj)} {x y W : Int} {t0 t2 t3 lu : Tok} {lk : Nat → Tok} {la dx : Addr} (h1 : 2 ≤ W) (h2 : W ≤ 40) (hx1 : -549755813888 ≤ x) (hx2 : x ≤ 549755813888) (hy1 : -549755813888 ≤ y) (hy2 : y ≤ 549755813888) (hl1 : (la, instObj 141 dx) ∈ news) (hl2 : (dx, limD w.params W lu lk) ∈ news) :
    CtL 13 w 412 [.str "MAX" t0, .int x t2, .int y t3, .ref la] news (fun t => optV (some (if x < y then y else x)) t) := by
  exact mk_word (by kernel_rfl) (by kernel_rfl) (fun P => by kernel_rfl) (fun news' lc lv u0 u1 u2 u3 hs h3 h4 => (greatest_c h1 h2 hx1 hx2 hy1 hy2 (hs _ hl1) (hs _ hl2) h3 h4).deep (by decide)) (fun _ _ => rfl) (fun h => h.elim)
theorem mki_min {w : World} {news : List (Addr × Obj)} {x y W : Int} {t0 t2 t3 lu : Tok} {lk : Nat → Tok} {la dx : Addr} (h1 : 2 ≤ W) (h2 : W ≤ 40) (hx1 : -549755813888 ≤ x) (hx2 : x ≤ 549755813888) (hy1 : -549755813888 ≤ y) (hy2 : y ≤ 549755813888) (hl1 : (la, instObj 141 dx) ∈ news) (hl2 : (dx, limD w.params W lu lk) ∈ news) :
    CtL 13 w 412 [.str "MIN" t0, .int x t2, .int y t3, .ref la] news (fun t => optV (some (if y < x then y else x)) t) := by
  exact mk_word (by kernel_rfl) (by kernel_rfl) (fun P => by kernel_rfl) (fun news' lc lv u0 u1 u2 u3 hs h3 h4 => (least_c h1 h2 hx1 hx2 hy1 hy2 (hs _ hl1) (hs _ hl2) h3 h4).deep (by decide)) (fun _ _ => rfl) (fun h => h.elim)
theorem mki_dim {w : World} {news : List (Addr × Obj)} {x y W : Int} {t0 t2 t3 lu : Tok} {lk : Nat → Tok} {la dx : Addr} (h1 : 2 ≤ W) (h2 : W ≤ 40) (hx1 : -549755813888 ≤ x) (hx2 : x ≤ 549755813888) (hy1 : -549755813888 ≤ y) (hy2 : y ≤ 549755813888) (hl1 : (la, instObj 141 dx) ∈ news) (hl2 : (dx, limD w.params W lu lk) ∈ news) :
    CtL 13 w 412 [.str "DIM" t0, .int x t2, .int y t3, .ref la] news (fun t => optV ((if x ≤ y then some 0 else fitO W (x - y))) t) := by
  exact mk_word (by kernel_rfl) (by kernel_rfl) (fun P => by kernel_rfl) (fun news' lc lv u0 u1 u2 u3 hs h3 h4 => (difference_c h1 h2 hx1 hx2 hy1 hy2 (hs _ hl1) (hs _ hl2) h3 h4).deep (by decide)) (fun h t => (dim_some h).symm) (fun h => (dim_none h).symm)
theorem mki_abs {w : World} {news : List (Addr × Obj)} {x y W : Int} {t0 t2 t3 lu : Tok} {lk : Nat → Tok} {la dx : Addr} (h1 : 2 ≤ W) (h2 : W ≤ 40) (hx1 : -549755813888 ≤ x) (hx2 : x ≤ 549755813888) (hy1 : -549755813888 ≤ y) (hy2 : y ≤ 549755813888) (hl1 : (la, instObj 141 dx) ∈ news) (hl2 : (dx, limD w.params W lu lk) ∈ news) :
    CtL 13 w 412 [.str "ABS" t0, .int x t2, .int y t3, .ref la] news (fun t => optV (fitO W (x.natAbs : Int)) t) := by
  exact mk_word (by kernel_rfl) (by kernel_rfl) (fun P => by kernel_rfl) (fun news' lc lv u0 u1 u2 u3 hs h3 h4 => (without_sign_c h1 h2 hx1 hx2 hy1 hy2 (hs _ hl1) (hs _ hl2) h3 h4).deep (by decide)) (fun h t => by rw [fitO_some h]; rfl) (fun h => by rw [fitO_none h]; rfl)
theorem mki_sign {w : World} {news : List (Addr × Obj)} {x y W : Int} {t0 t2 t3 lu : Tok} {lk : Nat → Tok} {la dx : Addr} (h1 : 2 ≤ W) (h2 : W ≤ 40) (hx1 : -549755813888 ≤ x) (hx2 : x ≤ 549755813888) (hy1 : -549755813888 ≤ y) (hy2 : y ≤ 549755813888) (hl1 : (la, instObj 141 dx) ∈ news) (hl2 : (dx, limD w.params W lu lk) ∈ news) :
    CtL 13 w 412 [.str "SIGN" t0, .int x t2, .int y t3, .ref la] news (fun t => optV (fitO W (if 0 ≤ y then (x.natAbs : Int) else -(x.natAbs : Int))) t) := by
  exact mk_word (by kernel_rfl) (by kernel_rfl) (fun P => by kernel_rfl) (fun news' lc lv u0 u1 u2 u3 hs h3 h4 => (with_sign_c h1 h2 hx1 hx2 hy1 hy2 (hs _ hl1) (hs _ hl2) h3 h4).deep (by decide)) (fun h t => by rw [fitO_some h]; rfl) (fun h => by rw [fitO_none h]; rfl)
theorem mki_pow {w : World} {news : List (Addr × Obj)} {x y W : Int} {t0 t2 t3 lu : Tok} {lk : Nat → Tok} {la dx : Addr} (h1 : 2 ≤ W) (h2 : W ≤ 40) (hx1 : -549755813888 ≤ x) (hx2 : x ≤ 549755813888) (hn1 : 0 ≤ y) (hn2 : y ≤ 42) (hl1 : (la, instObj 141 dx) ∈ news) (hl2 : (dx, limD w.params W lu lk) ∈ news) :
    CtL 13 w 412 [.str "pow" t0, .int x t2, .int y t3, .ref la] news (fun t => optV (fitO W (x ^ y.toNat)) t) := by
  have hy1 : -549755813888 ≤ y := by omega
  have hy2 : y ≤ 549755813888 := by omega
  exact mk_bin (by kernel_rfl) (fun news' u0 u1 u2 u3 hs => bin_pow_c h1 h2 hx1 hx2 hy1 hy2 hn1 hn2 (hs _ hl1) (hs _ hl2)) (fun h t => by rw [fitO_some h]; rfl) (fun h => by rw [fitO_none h]; rfl)
theorem mki_powi {w : World} {news : List (Addr × Obj)} {x y W : Int} {t0 t2 t3 lu : Tok} {lk : Nat → Tok} {la dx : Addr} (h1 : 2 ≤ W) (h2 : W ≤ 40) (hx1 : -549755813888 ≤ x) (hx2 : x ≤ 549755813888) (hn1 : 0 ≤ y) (hn2 : y ≤ 42) (hl1 : (la, instObj 141 dx) ∈ news) (hl2 : (dx, limD w.params W lu lk) ∈ news) :
    CtL 13 w 412 [.str "powi" t0, .int x t2, .int y t3, .ref la] news (fun t => optV (fitO W (x ^ y.toNat)) t) := by
  have hy1 : -549755813888 ≤ y := by omega
  have hy2 : y ≤ 549755813888 := by omega
  exact mk_bin (by kernel_rfl) (fun news' u0 u1 u2 u3 hs => bin_powi_c h1 h2 hx1 hx2 hy1 hy2 hn1 hn2 (hs _ hl1) (hs _ hl2)) (fun h t => by rw [fitO_some h]; rfl) (fun h => by rw [fitO_none h]; rfl)
theorem mki_pown {w : World} {news : List (Addr × Obj)} {x y W : Int} {t0 t2 t3 lu : Tok} {lk : Nat → Tok} {la dx : Addr} (h1 : 2 ≤ W) (h2 : W ≤ 40) (hx1 : -549755813888 ≤ x) (hx2 : x ≤ 549755813888) (hn0 : -42 ≤ y) (hn1 : y < 0) (hl1 : (la, instObj 141 dx) ∈ news) (hl2 : (dx, limD w.params W lu lk) ∈ news) :
    CtL 13 w 412 [.str "pow" t0, .int x t2, .int y t3, .ref la] news (fun t => optV (if x = 0 then none else some (invp x y)) t) := by
  have hy1 : -549755813888 ≤ y := by omega
  have hy2 : y ≤ 549755813888 := by omega
  exact mk_bin (by kernel_rfl) (fun news' u0 u1 u2 u3 hs => bin_pown_c h1 h2 hx1 hx2 hy1 hy2 hn1 (hs _ hl1) (hs _ hl2)) (fun h t => by rw [if_neg h]; rfl) (fun h => by rw [if_pos h]; rfl)
theorem mki_lt {w : World} {news : List (Addr × Obj)} {x y W : Int} {t0 t2 t3 lu : Tok} {lk : Nat → Tok} {la dx : Addr} (h1 : 2 ≤ W) (h2 : W ≤ 40) (hx1 : -549755813888 ≤ x) (hx2 : x ≤ 549755813888) (hy1 : -549755813888 ≤ y) (hy2 : y ≤ 549755813888) (hl1 : (la, instObj 141 dx) ∈ news) (hl2 : (dx, limD w.params W lu lk) ∈ news) :
    CtL 13 w 412 [.str "lt" t0, .int x t2, .int y t3, .ref la] news (fun _ => .bool (decide (x < y))) := by
  exact mk_bin (by kernel_rfl) (fun news' u0 u1 u2 u3 hs => bin_lt_c h1 h2 hx1 hx2 hy1 hy2  (hs _ hl1) (hs _ hl2)) (fun _ _ => rfl) (fun h => h.elim)
theorem mki_ge {w : World} {news : List (Addr × Obj)} {x y W : Int} {t0 t2 t3 lu : Tok} {lk : Nat → Tok} {la dx : Addr} (h1 : 2 ≤ W) (h2 : W ≤ 40) (hx1 : -549755813888 ≤ x) (hx2 : x ≤ 549755813888) (hy1 : -549755813888 ≤ y) (hy2 : y ≤ 549755813888) (hl1 : (la, instObj 141 dx) ∈ news) (hl2 : (dx, limD w.params W lu lk) ∈ news) :
    CtL 13 w 412 [.str "ge" t0, .int x t2, .int y t3, .ref la] news (fun _ => .bool (decide (y ≤ x))) := by
  exact mk_bin (by kernel_rfl) (fun news' u0 u1 u2 u3 hs => bin_ge_c h1 h2 hx1 hx2 hy1 hy2  (hs _ hl1) (hs _ hl2)) (fun _ _ => rfl) (fun h => h.elim)
end
theorem ln25 : True := by
  k_with_none
  (k_with "c.room" => ((try simp only [depth_deeper, depth_mark, depth_in1]); (try dsimp only [cTop]); first | exact room_1 (by assumption) (by decide) | exact room_0 (by assumption) (by decide) | exact room_2 (by assumption) | omega))
  (k_with "c.units" => ((try simp only [units_deeper, Around.mark_units, units_in1]); (try dsimp only [cTop]); first | exact unit_1 (by assumption) (by decide) | exact unit_0 (by assumption) (by decide) | exact unit_2 (by assumption) | omega))
  (k_with "exec Raise some none" => (k_here; refine Raise_mine rfl ?_))
  (k_with "RaiseEnd" => (k_here; refine' raiseEnd_ ?Fq7 ?Xq7 ?Nq7 ?_; (case Fq7 => k_asm); (case Xq7 => k_asm); (case Nq7 => k_asm); k_whole; try dsimp only))
  (k_with "call ref" => (k_here; (with_reducible show wpAny _ _ (call (Value.ref 44) _) _ _ _); k_dflt (refine' rf_call ?Bq8 ?Fq8 ?Xq8 ?Nq8 ?Tq8 ?Aq8 ?fq8 ?kq8 ?dq8 ?_; (case Aq8 => exact rfl); (case fq8 => exact rfl); (case kq8 => exact rfl); (case Bq8 => k_asm); (case Fq8 => k_asm); (case Xq8 => k_asm); (case Nq8 => k_asm); (case Tq8 => k_asm); (case dq8 => walk_at "c.room"); k_whole); intro e' t' d' vs' h' tk' F' N' hn' hn2'; (try k_sweep)))
  (k_with "leaving ref" => (k_here; first
    | (refine' leave_first ?Kq9 ?Fq9 ?Nq9 ?nq9 ?n2q9 ?_; (case Kq9 => assumption); (case Fq9 => assumption); (case Nq9 => assumption); (case nq9 => assumption); (case n2q9 => assumption); k_whole; intro h' R' U'; (try dsimp only at R' U' ⊢))
    | (refine' leave_on ?Kq9 ?Fq9 ?Rq9 ?Uq9 ?_; (case Rq9 => assumption); (case Kq9 => assumption); (case Uq9 => assumption); (case Fq9 => assumption); k_whole; intro h' R' U'; (try dsimp only at R' U' ⊢))))
  (k_with "c.enter" => (refine wpAny_call ?_; k_dflt (refine' code_def ?k1q10 ?k2q10 ?k3q10 ?k4q10 ?k5q10 ?kAq10 ?kFq10 ?kKq10 ?k6q10 ?k7q10 ?k8q10 ?k9q10 ?kBq10 ?_ ?c2q10 ?c3q10 ?c4q10 ?c5q10; (case kAq10 => exact rfl); (case kFq10 => exact rfl); (case kKq10 => assumption); (case k1q10 => k_asm); (case k2q10 => k_asm); (case k3q10 => k_asm); (case k4q10 => k_asm); (case k5q10 => k_asm); (case k6q10 => k_is); (case k7q10 => k_is); (case k8q10 => walk_at "c.room"); (case k9q10 => first | exact BindsTo.of_eq (binds := [(_, _)]) rfl | exact BindsTo.of_eq (binds := [(_, _), (_, _)]) rfl | exact BindsTo.of_eq (binds := [(_, _), (_, _), (_, _)]) rfl | exact BindsTo.of_eq (binds := [(_, _), (_, _), (_, _), (_, _)]) rfl | exact BindsTo.of_eq (binds := [(_, _), (_, _), (_, _), (_, _), (_, _)]) rfl | exact BindsTo.of_eq (binds := [(_, _), (_, _), (_, _), (_, _), (_, _), (_, _)]) rfl); (case c5q10 => decide); (case kBq10 => exact locs rfl); (case c2q10 => exact rfl); (case c3q10 => exact rfl); (case c4q10 => exact rfl); k_whole; intro g' L' h' FG' F' N' B' X' T'; (try dsimp only); (try k_fold))))
  (k_with "c.use.r" => ((case cB => k_asm); (case cF => k_asm); (case cX => k_asm); (case cN => k_asm); (case cT => k_asm); (case ck => first | exact rfl | assumption); (case cd => walk_at "c.room"); (case cu => walk_at "c.units")))
  (k_with "c.back" => ((case' cr => (intro t' h' tk' hx' F' N'; (try k_sweep); (try dsimp only); (try k_fold))); (case' cx => first | exact fun z => False.elim z | (intro hx' e' G' h' tk' FG' R' U'; (try dsimp only); (try k_fold)))))
  (k_with "eval Call" => (k_here; k_dflt (refine Call_ ?_)))
  (k_with "c.side" => first | assumption | omega | (constructor <;> assumption))
  (k_with "ite" => (k_closed; first | refine ite_pos (by decide +kernel) ?_ | refine ite_neg (by decide +kernel) ?_))
  (k_with "call builtin:abs" => (k_here; (with_reducible show wpAny _ _ (call (Value.builtin "abs") [Value.int _ _]) _ _ _); k_dflt (refine abs_r ?_); intro t' tk'))
  (k_with "c.ne" => first | assumption | decide | omega)
  (k_with "c.py" => first | assumption | (rw [Int.natAbs_natCast]; assumption) | decide)
  (k_with "binaryOp FloorDiv int int" => (k_here; k_dflt (refine' floordiv_int ?neq18 ?_ (Or.inl (PyProof.noPylong_of_log2 ?pyq18))); (case neq18 => walk_at "c.ne"); (case pyq18 => walk_at "c.py")))
  (k_with "c.py" => first | assumption | (rw [Int.natAbs_natCast]; assumption) | decide | exact log2_40 (by assumption) (by assumption))
  (k_with "c.num" => first | assumption | omega | decide)
  (k_with "binaryOp Pow int int" => (k_here; k_dflt (refine' pow_int_small ?caq21 ?cbq21 ?ccq21 ?_); (case caq21 => walk_at "c.num"); (case cbq21 => walk_at "c.num"); (case ccq21 => walk_at "c.num")))
  (k_with "subscriptTail" => (k_here; (with_reducible show wpAny _ _ (subscriptTail _ _ (Value.ref _) (Value.int _ _)) _ _ _); k_dflt (refine' item_list_c ?cNq22 ?cmq22 ?c0q22 ?chq22 ?cxq22 ?_ ?csq22; (case cNq22 => k_asm); (case cmq22 => k_mem); (case c0q22 => decide); (case chq22 => decide); (case cxq22 => rfl); (case csq22 => with_unfolding_all rfl); k_whole)))
  (k_with "call ref" => (k_here; (with_reducible show wpAny _ _ (call (Value.ref 53) _) _ _ _); k_call_by "c.use" (fit_int_c ?h1q23 ?h2q23); (case h1q23 => walk_at "c.side"); (case h2q23 => walk_at "c.side"); walk_at "c.back"))
  (k_with "call ref" => (k_here; (with_reducible show wpAny _ _ (call (Value.ref 81) _) _ _ _); k_call_by "c.use" (cutq_c ?hyq24 ?hbq24); (case hyq24 => walk_at "c.side"); (case hbq24 => walk_at "c.side"); walk_at "c.back"))
  (k_with "call ref" => (k_here; (with_reducible show wpAny _ _ (call (Value.ref 60) _) _ _ _); k_call_by "c.use" (int_add_c ?h1q31 ?h2q31); (case h1q31 => walk_at "c.side"); (case h2q31 => walk_at "c.side"); walk_at "c.back"))
  (k_with "call ref" => (k_here; (with_reducible show wpAny _ _ (call (Value.ref 67) _) _ _ _); k_call_by "c.use" (int_sub_c ?h1q32 ?h2q32); (case h1q32 => walk_at "c.side"); (case h2q32 => walk_at "c.side"); walk_at "c.back"))
  (k_with "call ref" => (k_here; (with_reducible show wpAny _ _ (call (Value.ref 74) _) _ _ _); k_call_by "c.use" (int_mul_c ?h1q33 ?h2q33 ?hx1q33 ?hx2q33); (case h1q33 => walk_at "c.side"); (case h2q33 => walk_at "c.side"); (case hx1q33 => walk_at "c.side"); (case hx2q33 => walk_at "c.side"); walk_at "c.back"))
  (k_with "call ref" => (k_here; (with_reducible show wpAny _ _ (call (Value.ref 88) _) _ _ _); k_call_by "c.use" (int_div_c ?h1q34 ?h2q34 ?hy1q34 ?hy2q34); (case h1q34 => walk_at "c.side"); (case h2q34 => walk_at "c.side"); (case hy1q34 => walk_at "c.side"); (case hy2q34 => walk_at "c.side"); walk_at "c.back"))
  (k_with "call ref" => (k_here; (with_reducible show wpAny _ _ (call (Value.ref 102) _) _ _ _); k_call_by "c.use" (int_power_c ?h1q35 ?h2q35 ?hx1q35 ?hx2q35 ?hn1q35 ?hn2q35); (case h1q35 => walk_at "c.side"); (case h2q35 => walk_at "c.side"); (case hx1q35 => walk_at "c.side"); (case hx2q35 => walk_at "c.side"); (case hn1q35 => walk_at "c.side"); (case hn2q35 => walk_at "c.side"); walk_at "c.back"))
  (k_with "call ref" => (k_here; (with_reducible show wpAny _ _ (call (Value.ref 102) _) _ _ _); k_call_by "c.use" (int_power_neg ?h1q36 ?h2q36 ?hn1q36); (case h1q36 => walk_at "c.side"); (case h2q36 => walk_at "c.side"); (case hn1q36 => walk_at "c.side"); walk_at "c.back"))
  (k_with "call ref" => (k_here; (with_reducible show wpAny _ _ (call (Value.ref 109) _) _ _ _); k_call_by "c.use" (order_of_c ); walk_at "c.back"))
  (k_with "call ref" => (k_here; (with_reducible show wpAny _ _ (call (Value.ref 116) _) _ _ _); k_call_by "c.use" (holds_lt_c ); walk_at "c.back"))
  (k_with "call ref" => (k_here; (with_reducible show wpAny _ _ (call (Value.ref 116) _) _ _ _); k_call_by "c.use" (holds_ge_c ); walk_at "c.back"))
  (k_with "call ref" => (k_here; (with_reducible show wpAny _ _ (call (Value.ref 53) _) _ _ _); k_call_by "c.use" (fit_int_c ?h1q40 ?h2q40); (case h1q40 => walk_at "c.side"); (case h2q40 => walk_at "c.side"); walk_at "c.back"))
  (k_with "call ref" => (k_here; (with_reducible show wpAny _ _ (call (Value.ref 81) _) _ _ _); k_call_by "c.use" (cutq_c ?hyq41 ?hbq41); (case hyq41 => walk_at "c.side"); (case hbq41 => walk_at "c.side"); walk_at "c.back"))
  (k_with "call ref" => (k_here; (with_reducible show wpAny _ _ (call (Value.ref 109) _) _ _ _); k_call_by "c.use" (order_of_c ); walk_at "c.back"))
  (k_with "call ref" => (k_here; (with_reducible show wpAny _ _ (call (Value.ref 356) _) _ _ _); k_call_by "c.use" (compare_numbers_c ); walk_at "c.back"))
  (k_with "call ref" => (k_here; (with_reducible show wpAny _ _ (call (Value.ref 370) _) _ _ _); k_call_by "c.use" (extreme_max_c ?hl4q48); (case hl4q48 => k_dflt k_mem); walk_at "c.back"))
  (k_with "call ref" => (k_here; (with_reducible show wpAny _ _ (call (Value.ref 370) _) _ _ _); k_call_by "c.use" (extreme_min_c ?hl4q49); (case hl4q49 => k_dflt k_mem); walk_at "c.back"))
  (k_with "l.enter" => (refine wpAny_call ?_; k_dflt (refine' code_defS ?k1q50 ?k2q50 ?k3q50 ?k4q50 ?k5q50 ?kXq50 ?kTq50 ?kDq50 KtsTurn.refl ?kAq50 ?k6q50 ?k7q50 ?k8q50 ?k9q50 ?kBq50 ?_ ?kKq50 ?c2q50 ?c3q50 ?c4q50 ?c5q50; (case kAq50 => exact rfl); (case kKq50 => assumption); (case k1q50 => k_asm); (case k2q50 => k_asm); (case k3q50 => k_asm); (case k4q50 => k_asm); (case k5q50 => k_asm); (case kXq50 => k_asm); (case kTq50 => k_asm); (case kDq50 => k_asm); (case k6q50 => k_is); (case k7q50 => k_is); (case k8q50 => walk_at "c.room"); (case k9q50 => first | exact BindsTo.of_eq (binds := [(_, _)]) rfl | exact BindsTo.of_eq (binds := [(_, _), (_, _)]) rfl | exact BindsTo.of_eq (binds := [(_, _), (_, _), (_, _)]) rfl | exact BindsTo.of_eq (binds := [(_, _), (_, _), (_, _), (_, _)]) rfl | exact BindsTo.of_eq (binds := [(_, _), (_, _), (_, _), (_, _), (_, _)]) rfl | exact BindsTo.of_eq (binds := [(_, _), (_, _), (_, _), (_, _), (_, _), (_, _)]) rfl); (case c5q50 => decide); (case kBq50 => exact locs rfl); (case c2q50 => exact rfl); (case c3q50 => exact rfl); (case c4q50 => exact rfl); k_whole; intro g' L' h' FG' F' N' B' X' T' D'; (try dsimp only); (try k_fold))))
  (k_with "Exists" => (k_here; k_dflt (refine' kda_made_str ?e1q51 ?e2q51 ?e3q51 ?e4q51 ?e5q51 ?e6q51 ?_; (case e1q51 => k_asm); (case e2q51 => k_asm); (case e3q51 => exact Top.nolimit (by k_asm)); (case e4q51 => kernel_rfl); (case e5q51 => exact of_decide_eq_true (by kernel_rfl)); (case e6q51 => kernel_rfl)); intro h' o' F' N' l1 lo' hd'; (try k_lt l1)))
  (k_with "noteFrame ref" => (k_here; (with_reducible rename RX _ _ _ _ _ _ => rkX); obtain ⟨t', vs', R'⟩ := rkX; k_dflt (refine' caught_SO0 R' ?cFq52 ?cKq52 ?cUq52 ?cXBq52 ?cTBq52 ?cDq52 ?cT0q52 ?cexq52 ?cqq52 ?_ ?chq52 ?cxq52 ?cdq52 ?cEq52; (case cFq52 => k_asm); (case cKq52 => k_asm); (case cUq52 => k_asm); (case cXBq52 => k_asm); (case cTBq52 => k_asm); (case cDq52 => k_asm); (case cT0q52 => first | k_asm | exact KtsTurn.refl); (case cexq52 => k_is); (case cqq52 => kernel_rfl); (case chq52 => rfl); (case cxq52 => rfl); (case cdq52 => decide); (case cEq52 => passes_own)); intro h' g' n2' U' F' N2' G' N' B' X' T' D'; (clear N2' G'); (try k_sweep); (try dsimp only)))
  trivial
theorem mk_none1 {w : World} {news : List (Addr × Obj)} {op : Str} {t0 : Tok} {v : Value} {la : Addr} :
    CtL 13 w 412 [.str op t0, .none, v, .ref la] news (fun t => optV none t) := by
  intro mean mg mb dp un gd cn cs a ccd outer A₀ base h₀ L m s Q E B F X N T hk XB TB D hd hu hret
  walk_at "l.enter"
  k_steps
  all_goals ((refine' retV ?_ (hret 0 _ _ _ ?c1 ?c2 ?c3 ?c4 ?c5 ?c6 ?c7); (case c2 => k_asm); (case c3 => first | k_asm | exact news_tl (by k_asm) | exact news_tl (news_tl (by k_asm)) | exact news_tl (news_tl (news_tl (by k_asm))) | exact news_tl (news_tl (news_tl (news_tl (by k_asm))))); (case c1 => first | k_asm | exact KtsTurn.refl); (case c4 => k_asm); (case c5 => k_asm); (case c6 => k_asm); (case c7 => k_asm)); rfl)
theorem mk_none2 {w : World} {news : List (Addr × Obj)} {op : Str} {t0 t2 : Tok} {x : Int} {la : Addr} :
    CtL 13 w 412 [.str op t0, .int x t2, .none, .ref la] news (fun t => optV none t) := by
  intro mean mg mb dp un gd cn cs a ccd outer A₀ base h₀ L m s Q E B F X N T hk XB TB D hd hu hret
  walk_at "l.enter"
  k_steps
  all_goals ((refine' retV ?_ (hret 0 _ _ _ ?c1 ?c2 ?c3 ?c4 ?c5 ?c6 ?c7); (case c2 => k_asm); (case c3 => first | k_asm | exact news_tl (by k_asm) | exact news_tl (news_tl (by k_asm)) | exact news_tl (news_tl (news_tl (by k_asm))) | exact news_tl (news_tl (news_tl (news_tl (by k_asm))))); (case c1 => first | k_asm | exact KtsTurn.refl); (case c4 => k_asm); (case c5 => k_asm); (case c6 => k_asm); (case c7 => k_asm)); rfl)
def op2 (f : Int → Int → Option Int) : Option Int → Option Int → Option Int
  | some x, some y => f x y
  | _, _ => none
def IsO (v : Value) (a : Option Int) : Prop := ∃ t, v = optV a t
theorem isO_int {x : Int} {t : Tok} : IsO (.int x t) (some x) := ⟨t, rfl⟩
theorem isO_opt {o : Option Int} {t : Tok} : IsO (optV o t) o := ⟨t, rfl⟩
def Bd (a : Option Int) : Prop := ∀ z, a = some z → -549755813888 ≤ z ∧ z ≤ 549755813888
theorem bd_int {x : Int} (h1 : -549755813888 ≤ x) (h2 : x ≤ 549755813888) : Bd (some x) := fun z e => by cases e; exact ⟨h1, h2⟩
theorem mk_lift {f : Int → Int → Option Int} {w : World} {news : List (Addr × Obj)} {op : Str} {t0 : Tok} {vx vy : Value} {a b : Option Int} {la : Addr}
    (core : ∀ x y t2 t3, (-549755813888 ≤ x ∧ x ≤ 549755813888) → (-549755813888 ≤ y ∧ y ≤ 549755813888) → CtL 13 w 412 [.str op t0, .int x t2, .int y t3, .ref la] news (fun t => optV (f x y) t))
    (ha : IsO vx a) (hb : IsO vy b) (ba : Bd a) (bb : Bd b) : CtL 13 w 412 [.str op t0, vx, vy, .ref la] news (fun t => optV (op2 f a b) t) := by
  obtain ⟨t2, rfl⟩ := ha
  obtain ⟨t3, rfl⟩ := hb
  cases a with
  | none => exact mk_none1
  | some x => cases b with
    | none => exact mk_none2
    | some y => exact core x y t2 t3 (ba x rfl) (bb y rfl)
abbrev o_add (W : Int) : Option Int → Option Int → Option Int := op2 (fun x y => fitO W (x + y))
theorem mk_add {w : World} {news : List (Addr × Obj)} {W : Int} {t0 lu : Tok} {lk : Nat → Tok} {vx vy : Value} {a b : Option Int} {la dx : Addr} (h1 : 2 ≤ W) (h2 : W ≤ 40) (hl1 : (la, instObj 141 dx) ∈ news) (hl2 : (dx, limD w.params W lu lk) ∈ news) (ha : IsO vx a) (hb : IsO vy b) (ba : Bd a) (bb : Bd b) :
    CtL 13 w 412 [.str "add" t0, vx, vy, .ref la] news (fun t => optV (o_add W a b) t) :=
  mk_lift (fun x y t2 t3 hx hy => mki_add h1 h2 hx.1 hx.2 hy.1 hy.2 hl1 hl2) ha hb ba bb
abbrev o_sub (W : Int) : Option Int → Option Int → Option Int := op2 (fun x y => fitO W (x - y))
theorem mk_sub {w : World} {news : List (Addr × Obj)} {W : Int} {t0 lu : Tok} {lk : Nat → Tok} {vx vy : Value} {a b : Option Int} {la dx : Addr} (h1 : 2 ≤ W) (h2 : W ≤ 40) (hl1 : (la, instObj 141 dx) ∈ news) (hl2 : (dx, limD w.params W lu lk) ∈ news) (ha : IsO vx a) (hb : IsO vy b) (ba : Bd a) (bb : Bd b) :
    CtL 13 w 412 [.str "sub" t0, vx, vy, .ref la] news (fun t => optV (o_sub W a b) t) :=
  mk_lift (fun x y t2 t3 hx hy => mki_sub h1 h2 hx.1 hx.2 hy.1 hy.2 hl1 hl2) ha hb ba bb
abbrev o_mul (W : Int) : Option Int → Option Int → Option Int := op2 (fun x y => fitO W (x * y))
theorem mk_mul {w : World} {news : List (Addr × Obj)} {W : Int} {t0 lu : Tok} {lk : Nat → Tok} {vx vy : Value} {a b : Option Int} {la dx : Addr} (h1 : 2 ≤ W) (h2 : W ≤ 40) (hl1 : (la, instObj 141 dx) ∈ news) (hl2 : (dx, limD w.params W lu lk) ∈ news) (ha : IsO vx a) (hb : IsO vy b) (ba : Bd a) (bb : Bd b) :
    CtL 13 w 412 [.str "mul" t0, vx, vy, .ref la] news (fun t => optV (o_mul W a b) t) :=
  mk_lift (fun x y t2 t3 hx hy => mki_mul h1 h2 hx.1 hx.2 hy.1 hy.2 hl1 hl2) ha hb ba bb
abbrev o_div (W : Int) : Option Int → Option Int → Option Int := op2 (fun x y => (if y = 0 then none else fitO W (Int.tdiv x y)))
theorem mk_div {w : World} {news : List (Addr × Obj)} {W : Int} {t0 lu : Tok} {lk : Nat → Tok} {vx vy : Value} {a b : Option Int} {la dx : Addr} (h1 : 2 ≤ W) (h2 : W ≤ 40) (hl1 : (la, instObj 141 dx) ∈ news) (hl2 : (dx, limD w.params W lu lk) ∈ news) (ha : IsO vx a) (hb : IsO vy b) (ba : Bd a) (bb : Bd b) :
    CtL 13 w 412 [.str "div" t0, vx, vy, .ref la] news (fun t => optV (o_div W a b) t) :=
  mk_lift (fun x y t2 t3 hx hy => mki_div h1 h2 hx.1 hx.2 hy.1 hy.2 hl1 hl2) ha hb ba bb
abbrev o_mod (W : Int) : Option Int → Option Int → Option Int := op2 (fun x y => (if y = 0 then none else some (x - Int.tdiv x y * y)))
theorem mk_mod {w : World} {news : List (Addr × Obj)} {W : Int} {t0 lu : Tok} {lk : Nat → Tok} {vx vy : Value} {a b : Option Int} {la dx : Addr} (h1 : 2 ≤ W) (h2 : W ≤ 40) (hl1 : (la, instObj 141 dx) ∈ news) (hl2 : (dx, limD w.params W lu lk) ∈ news) (ha : IsO vx a) (hb : IsO vy b) (ba : Bd a) (bb : Bd b) :
    CtL 13 w 412 [.str "MOD" t0, vx, vy, .ref la] news (fun t => optV (o_mod W a b) t) :=
  mk_lift (fun x y t2 t3 hx hy => mki_mod h1 h2 hx.1 hx.2 hy.1 hy.2 hl1 hl2) ha hb ba bb
abbrev o_max (W : Int) : Option Int → Option Int → Option Int := op2 (fun x y => some (if x < y then y else x))
theorem mk_max {w : World} {news : List (Addr × Obj)} {W : Int} {t0 lu : Tok} {lk : Nat → Tok} {vx vy : Value} {a b : Option Int} {la dx : Addr} (h1 : 2 ≤ W) (h2 : W ≤ 40) (hl1 : (la, instObj 141 dx) ∈ news) (hl2 : (dx, limD w.params W lu lk) ∈ news) (ha : IsO vx a) (hb : IsO vy b) (ba : Bd a) (bb : Bd b) :
    CtL 13 w 412 [.str "MAX" t0, vx, vy, .ref la] news (fun t => optV (o_max W a b) t) :=
  mk_lift (fun x y t2 t3 hx hy => mki_max h1 h2 hx.1 hx.2 hy.1 hy.2 hl1 hl2) ha hb ba bb
abbrev o_min (W : Int) : Option Int → Option Int → Option Int := op2 (fun x y => some (if y < x then y else x))
theorem mk_min {w : World} {news : List (Addr × Obj)} {W : Int} {t0 lu : Tok} {lk : Nat → Tok} {vx vy : Value} {a b : Option Int} {la dx : Addr} (h1 : 2 ≤ W) (h2 : W ≤ 40) (hl1 : (la, instObj 141 dx) ∈ news) (hl2 : (dx, limD w.params W lu lk) ∈ news) (ha : IsO vx a) (hb : IsO vy b) (ba : Bd a) (bb : Bd b) :
    CtL 13 w 412 [.str "MIN" t0, vx, vy, .ref la] news (fun t => optV (o_min W a b) t) :=
  mk_lift (fun x y t2 t3 hx hy => mki_min h1 h2 hx.1 hx.2 hy.1 hy.2 hl1 hl2) ha hb ba bb
abbrev o_dim (W : Int) : Option Int → Option Int → Option Int := op2 (fun x y => (if x ≤ y then some 0 else fitO W (x - y)))
theorem mk_dim {w : World} {news : List (Addr × Obj)} {W : Int} {t0 lu : Tok} {lk : Nat → Tok} {vx vy : Value} {a b : Option Int} {la dx : Addr} (h1 : 2 ≤ W) (h2 : W ≤ 40) (hl1 : (la, instObj 141 dx) ∈ news) (hl2 : (dx, limD w.params W lu lk) ∈ news) (ha : IsO vx a) (hb : IsO vy b) (ba : Bd a) (bb : Bd b) :
    CtL 13 w 412 [.str "DIM" t0, vx, vy, .ref la] news (fun t => optV (o_dim W a b) t) :=
  mk_lift (fun x y t2 t3 hx hy => mki_dim h1 h2 hx.1 hx.2 hy.1 hy.2 hl1 hl2) ha hb ba bb
abbrev o_abs (W : Int) : Option Int → Option Int → Option Int := op2 (fun x y => fitO W (x.natAbs : Int))
theorem mk_abs {w : World} {news : List (Addr × Obj)} {W : Int} {t0 lu : Tok} {lk : Nat → Tok} {vx vy : Value} {a b : Option Int} {la dx : Addr} (h1 : 2 ≤ W) (h2 : W ≤ 40) (hl1 : (la, instObj 141 dx) ∈ news) (hl2 : (dx, limD w.params W lu lk) ∈ news) (ha : IsO vx a) (hb : IsO vy b) (ba : Bd a) (bb : Bd b) :
    CtL 13 w 412 [.str "ABS" t0, vx, vy, .ref la] news (fun t => optV (o_abs W a b) t) :=
  mk_lift (fun x y t2 t3 hx hy => mki_abs h1 h2 hx.1 hx.2 hy.1 hy.2 hl1 hl2) ha hb ba bb
abbrev o_sign (W : Int) : Option Int → Option Int → Option Int := op2 (fun x y => fitO W (if 0 ≤ y then (x.natAbs : Int) else -(x.natAbs : Int)))
theorem mk_sign {w : World} {news : List (Addr × Obj)} {W : Int} {t0 lu : Tok} {lk : Nat → Tok} {vx vy : Value} {a b : Option Int} {la dx : Addr} (h1 : 2 ≤ W) (h2 : W ≤ 40) (hl1 : (la, instObj 141 dx) ∈ news) (hl2 : (dx, limD w.params W lu lk) ∈ news) (ha : IsO vx a) (hb : IsO vy b) (ba : Bd a) (bb : Bd b) :
    CtL 13 w 412 [.str "SIGN" t0, vx, vy, .ref la] news (fun t => optV (o_sign W a b) t) :=
  mk_lift (fun x y t2 t3 hx hy => mki_sign h1 h2 hx.1 hx.2 hy.1 hy.2 hl1 hl2) ha hb ba bb
abbrev o_pow (W : Int) : Option Int → Int → Option Int := fun a n => a.bind (fun x => fitO W (x ^ n.toNat))
theorem mk_pow {w : World} {news : List (Addr × Obj)} {W : Int} {t0 lu : Tok} {lk : Nat → Tok} {vx : Value} {a : Option Int} {la dx : Addr} {n : Int} {t3 : Tok} (h1 : 2 ≤ W) (h2 : W ≤ 40) (hn1 : 0 ≤ n) (hn2 : n ≤ 42) (hl1 : (la, instObj 141 dx) ∈ news) (hl2 : (dx, limD w.params W lu lk) ∈ news) (ha : IsO vx a) (ba : Bd a) :
    CtL 13 w 412 [.str "pow" t0, vx, .int n t3, .ref la] news (fun t => optV (o_pow W a n) t) := by
  obtain ⟨t2, rfl⟩ := ha
  cases a with
  | none => exact mk_none1
  | some x => exact mki_pow h1 h2 (ba x rfl).1 (ba x rfl).2 hn1 hn2 hl1 hl2
theorem mk_powi {w : World} {news : List (Addr × Obj)} {W : Int} {t0 lu : Tok} {lk : Nat → Tok} {vx : Value} {a : Option Int} {la dx : Addr} {n : Int} {t3 : Tok} (h1 : 2 ≤ W) (h2 : W ≤ 40) (hn1 : 0 ≤ n) (hn2 : n ≤ 42) (hl1 : (la, instObj 141 dx) ∈ news) (hl2 : (dx, limD w.params W lu lk) ∈ news) (ha : IsO vx a) (ba : Bd a) :
    CtL 13 w 412 [.str "powi" t0, vx, .int n t3, .ref la] news (fun t => optV (o_pow W a n) t) := by
  obtain ⟨t2, rfl⟩ := ha
  cases a with
  | none => exact mk_none1
  | some x => exact mki_powi h1 h2 (ba x rfl).1 (ba x rfl).2 hn1 hn2 hl1 hl2
section
variable {prog : Program} {w : World} {A : Around} {E : Value → Shared → Prop} {s : Shared} {Q : Value → Shared → Prop} {a b : Option Int} {t u : Tok}
theorem neV (h : Q (.bool (decide (a ≠ b))) s) : wpAny (model prog w) A (compareOp .NotEq (optV a t) (optV b u)) Q E s := by
  cases a with
  | none => cases b with
    | none => exact EqNone.ne_none_none (by simpa using h)
    | some y => exact EqNone.ne_none_int (by simpa using h)
  | some x => cases b with
    | none => exact EqNone.ne_int_none (by simpa using h)
    | some y =>
      refine PyProof.Rows.ne_int ?_
      rw [show (x != y) = decide (some x ≠ some y) from by by_cases q : x = y <;> simp [q]]
      exact h
theorem eqV (h : Q (.bool (decide (a = b))) s) : wpAny (model prog w) A (compareOp .Eq (optV a t) (optV b u)) Q E s := by
  cases a with
  | none => cases b with
    | none => exact EqNone.eq_none_none (by simpa using h)
    | some y => exact EqNone.eq_none_int (by simpa using h)
  | some x => cases b with
    | none => exact EqNone.eq_int_none (by simpa using h)
    | some y =>
      refine PyProof.Rows.eq_int ?_
      rw [show (x == y) = decide (some x = some y) from by by_cases q : x = y <;> simp [q]]
      exact h
theorem isV (h : Q (.bool a.isNone) s) : wpAny (model prog w) A (compareOp .Is (optV a t) .none) Q E s := by
  refine is_none ?_
  cases a <;> exact h
theorem isNotV (h : Q (.bool a.isSome) s) : wpAny (model prog w) A (compareOp .IsNot (optV a t) .none) Q E s := by
  refine isNot_none ?_
  cases a <;> exact h
end
theorem bd_fit {W n : Int} (h1 : 2 ≤ W) (h2 : W ≤ 40) : Bd (fitO W n) := fun z e => by
  by_cases h : NoFit W n
  · rw [fitO_none h] at e; cases e
  · rw [fitO_some h] at e; cases e; exact fit_39 h1 h2 h
theorem bd_none : Bd none := fun z e => by cases e
theorem bd_op2 {f : Int → Int → Option Int} {a b : Option Int} (ba : Bd a) (bb : Bd b) (hf : ∀ x y, (-549755813888 ≤ x ∧ x ≤ 549755813888) → (-549755813888 ≤ y ∧ y ≤ 549755813888) → Bd (f x y)) : Bd (op2 f a b) := by
  cases a with
  | none => exact bd_none
  | some x => cases b with
    | none => exact bd_none
    | some y => exact hf x y (ba x rfl) (bb y rfl)
theorem bd_op2' {f : Int → Int → Option Int} {a b : Option Int} (hf : ∀ x y, Bd (f x y)) : Bd (op2 f a b) := by
  cases a with
  | none => exact bd_none
  | some x => cases b with
    | none => exact bd_none
    | some y => exact hf x y
theorem bd_add {W : Int} {a b : Option Int} (h1 : 2 ≤ W) (h2 : W ≤ 40) : Bd (o_add W a b) := bd_op2' fun _ _ => bd_fit h1 h2
theorem bd_sub {W : Int} {a b : Option Int} (h1 : 2 ≤ W) (h2 : W ≤ 40) : Bd (o_sub W a b) := bd_op2' fun _ _ => bd_fit h1 h2
theorem bd_mul {W : Int} {a b : Option Int} (h1 : 2 ≤ W) (h2 : W ≤ 40) : Bd (o_mul W a b) := bd_op2' fun _ _ => bd_fit h1 h2
theorem bd_abs {W : Int} {a b : Option Int} (h1 : 2 ≤ W) (h2 : W ≤ 40) : Bd (o_abs W a b) := bd_op2' fun _ _ => bd_fit h1 h2
theorem bd_sign {W : Int} {a b : Option Int} (h1 : 2 ≤ W) (h2 : W ≤ 40) : Bd (o_sign W a b) := bd_op2' fun _ _ => bd_fit h1 h2
theorem bd_div {W : Int} {a b : Option Int} (h1 : 2 ≤ W) (h2 : W ≤ 40) : Bd (o_div W a b) := bd_op2' fun x y => by
  split
  · exact bd_none
  · exact bd_fit h1 h2
theorem bd_dim {W : Int} {a b : Option Int} (h1 : 2 ≤ W) (h2 : W ≤ 40) : Bd (o_dim W a b) := bd_op2' fun x y => by
  split
  · exact bd_int (by decide) (by decide)
  · exact bd_fit h1 h2
theorem bd_max {W : Int} {a b : Option Int} (ba : Bd a) (bb : Bd b) : Bd (o_max W a b) := bd_op2 ba bb fun x y hx hy => by
  split <;> (refine bd_int ?_ ?_ <;> omega)
theorem bd_min {W : Int} {a b : Option Int} (ba : Bd a) (bb : Bd b) : Bd (o_min W a b) := bd_op2 ba bb fun x y hx hy => by
  split <;> (refine bd_int ?_ ?_ <;> omega)
theorem rest_bd {x y : Int} : (x - Int.tdiv x y * y).natAbs ≤ x.natAbs := by
  have e : x - Int.tdiv x y * y = Int.tmod x y := by
    have := Int.mul_tdiv_add_tmod x y
    rw [Int.mul_comm] at this
    omega
  rw [e, Int.natAbs_tmod]
  exact Nat.mod_le _ _
theorem bd_mod {W : Int} {a b : Option Int} (ba : Bd a) (bb : Bd b) : Bd (o_mod W a b) := bd_op2 ba bb fun x y hx hy => by
  split
  · exact bd_none
  · have := rest_bd (x := x) (y := y)
    refine bd_int ?_ ?_ <;> omega
theorem bd_pow {W n : Int} {a : Option Int} (h1 : 2 ≤ W) (h2 : W ≤ 40) : Bd (o_pow W a n) := by
  cases a with
  | none => exact bd_none
  | some x => exact bd_fit h1 h2
theorem mulV {prog : Program} {w : World} {A : Around} {E : Value → Shared → Prop} {s : Shared} {Q : Value → Shared → Prop} {o : Option Int} {y : Int} {t u : Tok} (hs : o.isNone = false) (hb : ∀ z, IntMulOk z y)
    (h : ∀ z, o = some z → Q (.int (z * y) s.toks) { s with toks := s.toks + 1 }) : wpAny (model prog w) A (binaryOp .Mult (optV o t) (.int y u)) Q E s := by
  cases o with
  | none => cases hs
  | some z => exact PyProof.Rows.mul_int (h z rfl) (hb z)
theorem absV {prog : Program} {w : World} {A : Around} {E : Value → Shared → Prop} {s : Shared} {Q : Value → Shared → Prop} {o : Option Int} {t : Tok} (hs : o.isNone = false)
    (h : ∀ z, o = some z → ∀ u tk, Q (.int (z.natAbs : Int) u) { s with toks := tk }) : wpAny (model prog w) A (call (.builtin "abs") [optV o t]) Q E s := by
  cases o with
  | none => cases hs
  | some z => exact abs_r (h z rfl)
theorem pw2 {W : Int} (h1 : 2 ≤ W) : (2 : Int) ≤ 2 ^ (W - 1).toNat := by
  have c3 : ((2 ^ (W - 1).toNat : Nat) : Int) = (2 : Int) ^ (W - 1).toNat := Int.natCast_pow 2 _
  have : 2 ^ 1 ≤ 2 ^ (W - 1).toNat := Nat.pow_le_pow_right (by decide) (by omega)
  rw [← c3]; omega
theorem gap1 {W x y : Int} (h1 : 2 ≤ W) : o_dim W (some x) (some y) = o_sub W (some (if x < y then y else x)) (some y) := by
  have hM := pw2 h1
  simp only [o_dim, o_sub, op2, fitO]
  generalize (2 : Int) ^ (W - 1).toNat = M at *
  (repeat' split) <;> first | rfl | (exfalso; omega) | (congr 1; omega)
theorem gap2 {W x y : Int} (h1 : 2 ≤ W) : o_dim W (some x) (some y) = o_sub W (some x) (some (if y < x then y else x)) := by
  have hM := pw2 h1
  simp only [o_dim, o_sub, op2, fitO]
  generalize (2 : Int) ^ (W - 1).toNat = M at *
  (repeat' split) <;> first | rfl | (exfalso; omega) | (congr 1; omega)
theorem fit_0 {W : Int} (h1 : 2 ≤ W) : fitO W 0 = some 0 := by
  have hM := pw2 h1
  unfold fitO
  rw [if_neg (by omega), if_neg (by omega)]
theorem abs_up {W d : Int} (h1 : 2 ≤ W) (h0 : 0 ≤ d) : o_abs W (fitO W d) (some 0) = fitO W d := by
  by_cases a : NoFit W d
  · rw [fitO_none a]; rfl
  · rw [fitO_some a]
    show fitO W (d.natAbs : Int) = some d
    rw [show (d.natAbs : Int) = d by omega, fitO_some a]
theorem abs_dn {W d : Int} (h1 : 2 ≤ W) (h0 : 0 ≤ d) : o_abs W (fitO W (-d)) (some 0) = fitO W d := by
  by_cases a : NoFit W (-d)
  · rw [fitO_none a, fitO_none (by unfold NoFit at *; have := pw2 h1; omega)]; rfl
  · rw [fitO_some a]
    show fitO W ((-d).natAbs : Int) = fitO W d
    rw [show ((-d).natAbs : Int) = d by omega]
theorem add_up {W d : Int} : o_add W (some 0) (fitO W d) = fitO W d := by
  by_cases a : NoFit W d
  · rw [fitO_none a]; rfl
  · rw [fitO_some a]
    show fitO W (0 + d) = some d
    rw [Int.zero_add, fitO_some a]
theorem add_up' {W d : Int} : o_add W (fitO W d) (some 0) = fitO W d := by
  by_cases a : NoFit W d
  · rw [fitO_none a]; rfl
  · rw [fitO_some a]
    show fitO W (d + 0) = some d
    rw [Int.add_zero, fitO_some a]
theorem gap3 {W x y : Int} (h1 : 2 ≤ W) : o_abs W (o_sub W (some x) (some y)) (some 0) = o_add W (o_dim W (some x) (some y)) (o_dim W (some y) (some x)) := by
  show o_abs W (fitO W (x - y)) (some 0) = o_add W (if x ≤ y then some 0 else fitO W (x - y)) (if y ≤ x then some 0 else fitO W (y - x))
  by_cases c : x ≤ y
  · rw [if_pos c]
    by_cases d : y ≤ x
    · rw [if_pos d, show x - y = 0 by omega, abs_up h1 (Int.le_refl 0), fit_0 h1]
      have := add_up (W := W) (d := 0)
      rw [fit_0 h1] at this
      exact this.symm
    · rw [if_neg d, add_up, show x - y = -(y - x) by omega]
      exact abs_dn h1 (by omega)
  · rw [if_neg c, if_pos (by omega), add_up']
    exact abs_up h1 (by omega)
theorem gap4 {W x y : Int} : o_add W (some (if x < y then y else x)) (some (if y < x then y else x)) = o_add W (some x) (some y) := by
  have e : (if x < y then y else x) + (if y < x then y else x) = x + y := by
    (repeat' split) <;> omega
  simp only [o_add, op2, e]
theorem gap5 {W x y : Int} (h1 : 2 ≤ W) : (decide (x < y) != decide (o_dim W (some y) (some x) ≠ some 0)) = false := by
  have hM := pw2 h1
  have : o_dim W (some y) (some x) ≠ some 0 ↔ x < y := by
    simp only [o_dim, op2, fitO]
    generalize (2 : Int) ^ (W - 1).toNat = M at *
    (repeat' split) <;> simp <;> omega
  simp only [this, bne_self_eq_false]
theorem gap6 {W x y : Int} : (decide (y ≤ x) != decide (o_max W (some x) (some y) = some x)) = false := by
  have : o_max W (some x) (some y) = some x ↔ y ≤ x := by
    simp only [o_max, op2]
    (repeat' split) <;> simp <;> omega
  simp only [this, bne_self_eq_false]
theorem gap7 {W x : Int} (h1 : 2 ≤ W) (hx : ¬ NoFit W x) : o_abs W (some x) (some 0) = o_max W (some x) (o_sub W (some 0) (some x)) := by
  show fitO W (x.natAbs : Int) = o_max W (some x) (fitO W (0 - x))
  by_cases a : NoFit W (0 - x)
  · rw [fitO_none a, fitO_none (by unfold NoFit at *; omega)]; rfl
  · rw [fitO_some a, fitO_some (by unfold NoFit at *; omega)]
    show some _ = some (if x < 0 - x then 0 - x else x)
    congr 1
    split <;> omega
theorem gap8 {W x : Int} (hx : ¬ NoFit W x) : o_sign W (some x) (some x) = some x := by
  have e : (if 0 ≤ x then (x.natAbs : Int) else -(x.natAbs : Int)) = x := by split <;> omega
  simp only [o_sign, op2, e]
  exact fitO_some hx
theorem gap9 {W x y : Int} (h1 : 2 ≤ W) (hx : ¬ NoFit W x) (h : (o_sign W (some x) (some y)).isNone = true) : (o_abs W (some x) (some 0)).isNone = true ∧ 0 ≤ y := by
  have hM := pw2 h1
  unfold NoFit at hx
  simp only [o_sign, o_abs, op2, fitO] at *
  generalize (2 : Int) ^ (W - 1).toNat = M at *
  by_cases b : 0 ≤ y
  · simp only [if_pos b] at h
    exact ⟨h, b⟩
  · simp only [if_neg b] at h
    rw [if_neg (by omega), if_neg (by omega)] at h
    cases h
theorem gap10 {W x y z : Int} (h1 : 2 ≤ W) (hx : ¬ NoFit W x) (h : o_sign W (some x) (some y) = some z) : 0 ≤ z * y ∧ o_sign W (some z) (some x) = some x := by
  have hM := pw2 h1
  have hx' := hx
  unfold NoFit at hx
  have hz : z = (if 0 ≤ y then (x.natAbs : Int) else -(x.natAbs : Int)) := by
    simp only [o_sign, op2, fitO] at h
    generalize (if 0 ≤ y then (x.natAbs : Int) else -(x.natAbs : Int)) = v at h ⊢
    split at h
    · cases h
    · split at h
      · cases h
      · exact (Option.some.inj h).symm
  constructor
  · rw [hz]
    split
    · exact Int.mul_nonneg (by omega) (by omega)
    · exact Int.mul_nonneg_of_nonpos_of_nonpos (by omega) (by omega)
  · have e : (if 0 ≤ x then (z.natAbs : Int) else -(z.natAbs : Int)) = x := by
      rw [hz]; (repeat' split) <;> omega
    simp only [o_sign, op2, e]
    exact fitO_some hx'
theorem gap11 {W x y z : Int} (h1 : 2 ≤ W) (hx : ¬ NoFit W x) (h : o_sign W (some x) (some y) = some z) : o_sign W (o_sign W (some x) (some y)) (some x) = some x := by
  rw [h]; exact (gap10 h1 hx h).2
theorem l_refl {A₀ : Around} {base h₀ : Heap} {outer : List Env} (_B : Below A₀ base outer h₀) : KtsTurn (outer.filterMap (·.frame)) h₀ h₀ := KtsTurn.refl
theorem rest_eq (x y : Int) : x - Int.tdiv x y * y = Int.tmod x y := by
  have := Int.mul_tdiv_add_tmod x y
  rw [Int.mul_comm] at this
  omega
theorem rest_abs (x y : Int) : (Int.tmod x y).natAbs = x.natAbs % y.natAbs := Int.natAbs_tmod x y
theorem tm_pos {x y : Int} (h : 0 ≤ x) : 0 ≤ Int.tmod x y ∧ Int.tmod x y ≤ x := by
  have h0 : 0 ≤ Int.tmod x y := Int.tmod_nonneg y h
  have h1 := rest_abs x y
  have h2 := Nat.mod_le x.natAbs y.natAbs
  omega
theorem tm_neg {x y : Int} (h : x ≤ 0) : x ≤ Int.tmod x y ∧ Int.tmod x y ≤ 0 := by
  have h0 := tm_pos (x := -x) (y := y) (by omega)
  rw [Int.neg_tmod] at h0
  omega
theorem q_fit {W x y : Int} (h1 : 2 ≤ W) (hx : ¬ NoFit W x) (h0 : y ≠ 0) (hm : y ≠ -1) : ¬ NoFit W (Int.tdiv x y) := by
  by_cases hy : y = 1
  · subst hy; rw [Int.tdiv_one]; exact hx
  have hM := pw2 h1
  have hq : (Int.tdiv x y).natAbs = x.natAbs / y.natAbs := Int.natAbs_tdiv x y
  have h2 : 2 ≤ y.natAbs := by omega
  have h3 : x.natAbs / y.natAbs ≤ x.natAbs / 2 := Nat.div_le_div_left h2 (by decide)
  unfold NoFit at *
  generalize (2 : Int) ^ (W - 1).toNat = M at *
  omega
theorem rs0a {W x y : Int} (h : y = 0) : (o_div W (some x) (some y)).isNone = true := by
  subst h; rfl
theorem rs0b {W x y : Int} (h : y = 0) : (o_mod W (some x) (some y)).isNone = true := by
  subst h; rfl
theorem rs2 {W x y : Int} (h : y = -1) : ((o_div W (some x) (some y)).isNone != (o_sub W (some 0) (some x)).isNone) = false := by
  subst h
  simp only [o_div, o_sub, op2]
  rw [if_neg (by decide), show Int.tdiv x (-1) = 0 - x from by rw [Int.tdiv_neg, Int.tdiv_one]; omega]
  exact bne_self_eq_false _
theorem mod_nz {W x y : Int} (h : y ≠ 0) : o_mod W (some x) (some y) = some (Int.tmod x y) := by
  simp only [o_mod, op2]
  rw [if_neg h, rest_eq]
theorem rs3 {W x y : Int} (h : y ≠ 0) : (o_mod W (some x) (some y)).isNone = false := by
  rw [mod_nz h]; rfl
theorem rs4 {W x y z : Int} (h : y ≠ 0) (hz : o_mod W (some x) (some y) = some z) : ¬ (y.natAbs : Int) ≤ (z.natAbs : Int) := by
  rw [mod_nz h] at hz
  cases hz
  have h1 := rest_abs x y
  have h2 := Nat.mod_lt x.natAbs (show 0 < y.natAbs by omega)
  omega
theorem rs5 {W x y z : Int} (h : y ≠ 0) (hz : o_mod W (some x) (some y) = some z) : ¬ z * x < 0 := by
  rw [mod_nz h] at hz
  cases hz
  by_cases hx : 0 ≤ x
  · have := Int.mul_nonneg (tm_pos (y := y) hx).1 hx
    omega
  · have := Int.mul_nonneg_of_nonpos_of_nonpos (tm_neg (x := x) (y := y) (by omega)).2 (show x ≤ 0 by omega)
    omega
theorem sub_some {W y : Int} (h : (o_sub W (some 0) (some y)).isSome = true) : o_sub W (some 0) (some y) = some (-y) := by
  simp only [o_sub, op2, fitO] at *
  rw [show (0 : Int) - y = -y by omega] at *
  generalize (2 : Int) ^ (W - 1).toNat = M at *
  (repeat' split at h) <;> first | cases h | skip
  rename_i a b
  rw [if_neg a, if_neg b]
theorem rs6 {W x y : Int} (h0 : y ≠ 0) (h : (o_sub W (some 0) (some y)).isSome = true) : o_mod W (some x) (o_sub W (some 0) (some y)) = o_mod W (some x) (some y) := by
  rw [sub_some h, mod_nz h0, mod_nz (show -y ≠ 0 by omega), Int.tmod_neg]
theorem rs7 {W x y : Int} (h1 : 2 ≤ W) (hx : ¬ NoFit W x) (h0 : y ≠ 0) (h : (o_div W (some x) (some y)).isNone = true) : o_mod W (some x) (some y) = some 0 := by
  by_cases hm : y = -1
  · subst hm
    rw [mod_nz h0, Int.tmod_neg, Int.tmod_one]
  · simp only [o_div, op2] at h
    rw [if_neg h0, fitO_some (q_fit h1 hx h0 hm)] at h
    cases h
theorem rs8 {W x y : Int} (h1 : 2 ≤ W) (hx : ¬ NoFit W x) (h0 : y ≠ 0) (hm : y ≠ -1) : ((o_div W (some x) (some y)).isNone != (y == -1)) = false := by
  simp only [o_div, op2]
  rw [if_neg h0, fitO_some (q_fit h1 hx h0 hm), beq_eq_false_iff_ne.mpr hm]
  rfl
theorem div_sm {W x y : Int} (h0 : y ≠ 0) (h : (o_div W (some x) (some y)).isNone = false) : ¬ NoFit W (Int.tdiv x y) ∧ o_div W (some x) (some y) = some (Int.tdiv x y) := by
  simp only [o_div, op2] at *
  rw [if_neg h0] at *
  have hf : ¬ NoFit W (Int.tdiv x y) := fun z => by
    rw [fitO_none z] at h
    cases h
  exact ⟨hf, fitO_some hf⟩
theorem rs9 {W x y : Int} (h0 : y ≠ 0) (h : (o_sub W (some 0) (some y)).isSome = true) (hd : (o_div W (some x) (some y)).isNone = false) : o_div W (some x) (o_sub W (some 0) (some y)) = o_sub W (some 0) (o_div W (some x) (some y)) := by
  rw [sub_some h, (div_sm h0 hd).2]
  simp only [o_div, o_sub, op2]
  rw [if_neg (show -y ≠ 0 by omega), Int.tdiv_neg, show (0 : Int) - Int.tdiv x y = -Int.tdiv x y by omega]
theorem rs10 {W x y : Int} (hx : ¬ NoFit W x) (h0 : y ≠ 0) (hd : (o_div W (some x) (some y)).isNone = false) : o_add W (o_mod W (some x) (some y)) (o_mul W (some y) (o_div W (some x) (some y))) = some x := by
  rw [(div_sm h0 hd).2, mod_nz h0]
  have e : y * Int.tdiv x y = x - Int.tmod x y := by
    have := Int.mul_tdiv_add_tmod x y
    omega
  have hf : ¬ NoFit W (y * Int.tdiv x y) := by
    rw [e]
    have a := @tm_pos x y
    have b := @tm_neg x y
    unfold NoFit at *
    generalize (2 : Int) ^ (W - 1).toNat = M at *
    omega
  simp only [o_mul, o_add, op2]
  rw [fitO_some hf]
  show fitO W (Int.tmod x y + y * Int.tdiv x y) = some x
  rw [show Int.tmod x y + y * Int.tdiv x y = x by omega]
  exact fitO_some hx
theorem fs {W n : Int} (h : (fitO W n).isSome = true) : fitO W n = some n := by
  unfold fitO at *
  (repeat' split at h) <;> first | cases h | skip
  rename_i a b
  rw [if_neg a, if_neg b]
theorem rg1 {W : Int} {a b : Option Int} : o_add W a b = o_add W b a := by
  cases a <;> cases b <;> first | rfl | (simp only [o_add, op2]; rw [Int.add_comm])
theorem rg2 {W : Int} {a b : Option Int} : o_mul W a b = o_mul W b a := by
  cases a <;> cases b <;> first | rfl | (simp only [o_mul, op2]; rw [Int.mul_comm])
theorem rg3 {W x y : Int} (hx : ¬ NoFit W x) (h : (o_add W (some x) (some y)).isSome = true) : o_sub W (o_add W (some x) (some y)) (some y) = some x := by
  have e : o_add W (some x) (some y) = some (x + y) := fs h
  rw [e]
  simp only [o_sub, op2]
  rw [show x + y - y = x by omega]
  exact fitO_some hx
theorem rg4 {W x y : Int} (hx : ¬ NoFit W x) (h0 : y ≠ 0) (h : (o_mul W (some x) (some y)).isSome = true) : o_div W (o_mul W (some x) (some y)) (some y) = some x := by
  have e : o_mul W (some x) (some y) = some (x * y) := fs h
  rw [e]
  simp only [o_div, op2]
  rw [if_neg h0, Int.mul_tdiv_cancel _ h0]
  exact fitO_some hx
theorem rg5 {W x y : Int} (h0 : y ≠ 0) (h : (o_mul W (some x) (some y)).isSome = true) : o_mod W (o_mul W (some x) (some y)) (some y) = some 0 := by
  have e : o_mul W (some x) (some y) = some (x * y) := fs h
  rw [e]
  simp only [o_mod, op2]
  rw [if_neg h0, Int.mul_tdiv_cancel _ h0, Int.sub_self]
theorem rg6 {W x y : Int} (h : (o_sub W (some 0) (some y)).isSome = true) : o_sub W (some x) (o_sub W (some 0) (some y)) = o_add W (some x) (some y) := by
  rw [sub_some h]
  simp only [o_sub, o_add, op2]
  rw [show x - -y = x + y by omega]
theorem div_is {W x y : Int} (h : (o_div W (some x) (some y)).isSome = true) : y ≠ 0 ∧ o_div W (some x) (some y) = some (Int.tdiv x y) := by
  simp only [o_div, op2] at *
  split at h
  · cases h
  · rename_i a
    rw [if_neg a]
    exact ⟨a, fs h⟩
theorem tdiv_tdiv' (x y z : Int) : Int.tdiv (Int.tdiv x y) z = Int.tdiv x (y * z) := by
  obtain ⟨a, rfl | rfl⟩ := Int.eq_nat_or_neg x <;> obtain ⟨b, rfl | rfl⟩ := Int.eq_nat_or_neg y <;> obtain ⟨c, rfl | rfl⟩ := Int.eq_nat_or_neg z <;>
    simp only [Int.neg_tdiv, Int.tdiv_neg, Int.neg_mul, Int.mul_neg, Int.neg_neg, ← Int.ofNat_tdiv, ← Int.natCast_mul, Nat.div_div_eq_div_mul]
theorem rg7 {W x y z : Int} (h : (o_div W (o_div W (some x) (some y)) (some z)).isSome = true) (h2 : (o_mul W (some y) (some z)).isSome = true) :
    o_div W (o_div W (some x) (some y)) (some z) = o_div W (some x) (o_mul W (some y) (some z)) := by
  have h3 : (o_div W (some x) (some y)).isSome = true := by
    cases e : o_div W (some x) (some y) with
    | none => rw [e] at h; exact h
    | some q => rfl
  obtain ⟨hy, e⟩ := div_is h3
  rw [e] at h ⊢
  obtain ⟨hz, e2⟩ := div_is h
  have e3 : o_mul W (some y) (some z) = some (y * z) := fs h2
  rw [e3]
  simp only [o_div, op2]
  rw [if_neg hz, if_neg (Int.mul_ne_zero hy hz), tdiv_tdiv']
theorem add3 {W : Int} {a b : Option Int} (h : (op2 (fun x y => fitO W (x + y)) a b).isSome = true) : ∃ p q, a = some p ∧ b = some q ∧ op2 (fun x y => fitO W (x + y)) a b = some (p + q) := by
  cases a with
  | none => cases b <;> cases h
  | some p => cases b with
    | none => cases h
    | some q => exact ⟨p, q, rfl, rfl, fs h⟩
theorem mul3 {W : Int} {a b : Option Int} (h : (op2 (fun x y => fitO W (x * y)) a b).isSome = true) : ∃ p q, a = some p ∧ b = some q ∧ op2 (fun x y => fitO W (x * y)) a b = some (p * q) := by
  cases a with
  | none => cases b <;> cases h
  | some p => cases b with
    | none => cases h
    | some q => exact ⟨p, q, rfl, rfl, fs h⟩
theorem some_of {a : Option Int} {q : Int} (e : a = some q) : a.isSome = true := by rw [e]; rfl
theorem rg8a {W x y z : Int} (h : (o_add W (o_add W (some x) (some y)) (some z)).isSome = true) (h2 : (o_add W (some x) (o_add W (some y) (some z))).isSome = true) :
    o_add W (o_add W (some x) (some y)) (some z) = o_add W (some x) (o_add W (some y) (some z)) := by
  obtain ⟨p, q, a, b, c⟩ := add3 h
  obtain ⟨p', q', a', b', c'⟩ := add3 h2
  have e : o_add W (some x) (some y) = some (x + y) := fs (some_of a)
  have e' : o_add W (some y) (some z) = some (y + z) := fs (some_of b')
  have := c.trans (congrArg some (?_ : p + q = p' + q')) |>.trans c'.symm
  · exact this
  · rw [e] at a; rw [e'] at b'; cases a; cases b; cases a'; cases b'; omega
theorem rg8b {W x y z : Int} (h : (o_mul W (o_mul W (some x) (some y)) (some z)).isSome = true) (h2 : (o_mul W (some x) (o_mul W (some y) (some z))).isSome = true) :
    o_mul W (o_mul W (some x) (some y)) (some z) = o_mul W (some x) (o_mul W (some y) (some z)) := by
  obtain ⟨p, q, a, b, c⟩ := mul3 h
  obtain ⟨p', q', a', b', c'⟩ := mul3 h2
  have e : o_mul W (some x) (some y) = some (x * y) := fs (some_of a)
  have e' : o_mul W (some y) (some z) = some (y * z) := fs (some_of b')
  have := c.trans (congrArg some (?_ : p * q = p' * q')) |>.trans c'.symm
  · exact this
  · rw [e] at a; rw [e'] at b'; cases a; cases b; cases a'; cases b'; exact Int.mul_assoc _ _ _
theorem rg8c {W x y z : Int} (h : (o_mul W (some x) (o_add W (some y) (some z))).isSome = true) (h2 : (o_add W (o_mul W (some x) (some y)) (o_mul W (some x) (some z))).isSome = true) :
    o_mul W (some x) (o_add W (some y) (some z)) = o_add W (o_mul W (some x) (some y)) (o_mul W (some x) (some z)) := by
  obtain ⟨p, q, a, b, c⟩ := mul3 h
  obtain ⟨p', q', a', b', c'⟩ := add3 h2
  have e : o_add W (some y) (some z) = some (y + z) := fs (some_of b)
  have e1 : o_mul W (some x) (some y) = some (x * y) := fs (some_of a')
  have e2 : o_mul W (some x) (some z) = some (x * z) := fs (some_of b')
  have := c.trans (congrArg some (?_ : p * q = p' + q')) |>.trans c'.symm
  · exact this
  · rw [e] at b; rw [e1] at a'; rw [e2] at b'; cases a; cases b; cases a'; cases b'; exact Int.mul_add _ _ _
theorem unit_fit {W x : Int} {k : Nat} (h1 : 2 ≤ W) (hx : x = 0 ∨ x = 1 ∨ x = -1) : ¬ NoFit W (x ^ k) := by
  intro h
  have a := nofit_natAbs h
  have b := pow_unit_abs (k := k) hx
  have c : 2 ^ 1 ≤ 2 ^ (W - 1).toNat := Nat.pow_le_pow_right (by decide) (by omega)
  omega
theorem pw_mono {W x : Int} {k j : Nat} (h1 : 2 ≤ W) (h : NoFit W (x ^ k)) (hk : k ≤ j) : NoFit W (x ^ j) := by
  by_cases hx : x = 0 ∨ x = 1 ∨ x = -1
  · exact absurd h (unit_fit h1 hx)
  · exact nofit_pow_mono (by omega) h hk
theorem opow_fit {W x n : Int} (h : ¬ NoFit W (x ^ n.toNat)) : o_pow W (some x) n = some (x ^ n.toNat) := fitO_some h
theorem opow_no {W x n : Int} (h : NoFit W (x ^ n.toNat)) : o_pow W (some x) n = none := fitO_none h
theorem pr1 {W x m n : Int} (h1 : 2 ≤ W) (hm : 0 ≤ m) (hn : 1 ≤ n) : o_pow W (some x) (m + n) = o_mul W (o_pow W (some x) m) (o_pow W (some x) n) := by
  have e : (m + n).toNat = m.toNat + n.toNat := by omega
  by_cases a : NoFit W (x ^ m.toNat)
  · rw [opow_no a, opow_no (pw_mono h1 a (by omega))]; rfl
  by_cases b : NoFit W (x ^ n.toNat)
  · rw [opow_no b, opow_no (pw_mono h1 b (by omega)), opow_fit a]; rfl
  rw [opow_fit a, opow_fit b]
  show fitO W (x ^ (m + n).toNat) = fitO W _
  rw [e, Int.pow_add]
theorem pr2 {W x m n : Int} (h1 : 2 ≤ W) (hm : 0 ≤ m) (hn : 1 ≤ n) : o_pow W (o_pow W (some x) m) n = o_pow W (some x) (m * n) := by
  have e : (m * n).toNat = m.toNat * n.toNat := Int.toNat_mul hm (by omega)
  by_cases a : NoFit W (x ^ m.toNat)
  · rw [opow_no a, opow_no (pw_mono h1 a (by rw [e]; exact Nat.le_mul_of_pos_right _ (by omega)))]; rfl
  rw [opow_fit a]
  show fitO W _ = fitO W _
  rw [e, Int.pow_mul]
theorem pr3 {W x : Int} (h1 : 2 ≤ W) : o_pow W (some x) 0 = some 1 := by
  have := opow_fit (W := W) (x := x) (n := 0)
  rw [show (0 : Int).toNat = 0 from rfl, Int.pow_zero] at this
  exact this (fit_one h1)
theorem pr4 {W x : Int} (hx : ¬ NoFit W x) : o_pow W (some x) 1 = some x := by
  have := opow_fit (W := W) (x := x) (n := 1)
  rw [show (1 : Int).toNat = 1 from rfl, Int.pow_one] at this
  exact this hx
theorem pr5a {W x n : Int} (h1 : 2 ≤ W) (h : (o_pow W (some x) n).isNone = true) : (if x = 0 then none else some (invp x (0 - n))) = some 0 := by
  have a : NoFit W (x ^ n.toNat) := by
    apply Classical.byContradiction
    intro a
    rw [opow_fit a] at h
    cases h
  have hx : ¬ (x = 0 ∨ x = 1 ∨ x = -1) := fun hx => unit_fit h1 hx a
  unfold invp
  rw [if_neg (by omega), if_neg (by omega), if_neg (by omega)]
theorem pr5b {W x n : Int} (h1 : 2 ≤ W) (hn : 1 ≤ n) (h : (o_pow W (some x) n).isNone = false) : (if x = 0 then none else some (invp x (0 - n))) = o_div W (some 1) (o_pow W (some x) n) := by
  have a : ¬ NoFit W (x ^ n.toNat) := by
    intro a
    rw [opow_no a] at h
    cases h
  rw [opow_fit a]
  have n0 : fitO W 0 = some 0 := fitO_some (by have := unit_fit (W := W) (x := 0) (k := 1) h1 (Or.inl rfl); rwa [Int.pow_one] at this)
  have n1 : fitO W 1 = some 1 := fitO_some (fit_one h1)
  have nm : fitO W (-1) = some (-1) := fitO_some (by have := unit_fit (W := W) (x := -1) (k := 1) h1 (Or.inr (Or.inr rfl)); rwa [Int.pow_one] at this)
  show _ = (if x ^ n.toNat = 0 then none else fitO W (Int.tdiv 1 (x ^ n.toNat)))
  obtain ⟨k, hk⟩ : ∃ k, n.toNat = k + 1 := ⟨n.toNat - 1, by omega⟩
  by_cases x0 : x = 0
  · subst x0
    rw [if_pos rfl, hk, Int.pow_succ, Int.mul_zero, if_pos rfl]
  rw [if_neg x0, if_neg (Int.pow_ne_zero x0)]
  unfold invp
  by_cases x1 : x = 1
  · subst x1
    rw [if_pos rfl, Int.one_pow, Int.tdiv_one, n1]
  rw [if_neg x1]
  by_cases xm : x = -1
  · subst xm
    rw [if_pos rfl, neg_one_pow_mod, fmod2]
    rcases Nat.mod_two_eq_zero_or_one n.toNat with q | q
    · rw [q, if_pos (by omega), Int.pow_zero, Int.tdiv_one, n1]
    · rw [q, if_neg (by omega), Int.pow_one, show Int.tdiv 1 (-1) = -1 from rfl, nm]
  rw [if_neg xm]
  have hq : (Int.tdiv 1 (x ^ n.toNat)).natAbs = Nat.div 1 (x ^ n.toNat).natAbs := Int.natAbs_tdiv _ _
  have hb : 2 ≤ (x ^ n.toNat).natAbs := by
    rw [Int.natAbs_pow, hk, Nat.pow_succ]
    have q1 : 1 ≤ x.natAbs ^ k := Nat.one_le_pow _ _ (by omega)
    have q2 := Nat.mul_le_mul q1 (show 2 ≤ x.natAbs by omega)
    omega
  have hz : Nat.div 1 (x ^ n.toNat).natAbs = 0 := Nat.div_eq_of_lt (by omega)
  rw [hz] at hq
  rw [show Int.tdiv 1 (x ^ n.toNat) = 0 by omega, n0]
theorem pr6 {W x y n : Int} (h1 : 2 ≤ W) (hn : 1 ≤ n) (h : (o_mul W (o_pow W (some x) n) (o_pow W (some y) n)).isNone = false) : o_mul W (o_pow W (some x) n) (o_pow W (some y) n) = o_pow W (o_mul W (some x) (some y)) n := by
  have h2 : (o_mul W (o_pow W (some x) n) (o_pow W (some y) n)).isSome = true := by
    cases e : o_mul W (o_pow W (some x) n) (o_pow W (some y) n) with
    | none => rw [e] at h; cases h
    | some q => rfl
  obtain ⟨p, q, a, b, c⟩ := mul3 h2
  have a' : o_pow W (some x) n = some (x ^ n.toNat) := fs (some_of a)
  have b' : o_pow W (some y) n = some (y ^ n.toNat) := fs (some_of b)
  rw [a', b'] at h2 ⊢
  have e : fitO W (x ^ n.toNat * y ^ n.toNat) = some (x ^ n.toNat * y ^ n.toNat) := fs h2
  have m : x ^ n.toNat * y ^ n.toNat = (x * y) ^ n.toNat := (Int.mul_pow ..).symm
  have f : ¬ NoFit W ((x * y) ^ n.toNat) := by
    intro f
    rw [m, fitO_none f] at e
    cases e
  have f1 : ¬ NoFit W (x * y) := by
    intro f1
    refine f (pw_mono (k := 1) h1 (by rwa [Int.pow_one]) (by omega))
  have g : o_mul W (some x) (some y) = some (x * y) := fitO_some f1
  rw [g]
  show fitO W _ = fitO W _
  rw [m]
def JoinF (w : World) (mean : ExcName → Option Value) (mg mb : Str → Option Value) (A₀ : Around) (base g : Heap) (outer : List Env) (L : Addr) (m : Str → Option Value) (news : List (Addr × Obj)) (s : Shared) (b : Bool) (s' : Shared) : Prop :=
  b = false ∧ ∃ g' h' tk', s' = { s with heap := h', toks := tk' } ∧ KtsTurn (outer.filterMap (·.frame)) g g' ∧ Fr g' L h' m ∧ News g' L h' news ∧ Below A₀ base outer g' ∧ (tp.heap_1 w.params).In g' ∧ Top tp.vw (looseW tp.vw []) mean mg mb g' ∧
    KtsDicts (outer.filterMap (·.frame)) g'
section
variable {w : World} {mean : ExcName → Option Value} {mg mb : Str → Option Value} {A A₀ : Around} {base g₀ g : Heap} {outer : List Env} {L : Addr} {m : Str → Option Value} {news : List (Addr × Obj)} {s : Shared} {t : Sem Bool} {Q : Bool → Shared → Prop} {E : Value → Shared → Prop} {M : Model}
theorem join_f (V : KtsTurn (outer.filterMap (·.frame)) g₀ g) (_B : Below A₀ base outer g) (_F : Fr g L s.heap m) (_N : News g L s.heap news) (_X : (tp.heap_1 w.params).In g) (_T : Top tp.vw (looseW tp.vw []) mean mg mb g)
    (hj : wpAny M A t (JoinF w mean mg mb A₀ base g₀ outer L m news s) E s)
    (hk : ∀ g' h' tk', KtsTurn (outer.filterMap (·.frame)) g₀ g' → Fr g' L h' m → News g' L h' news → Below A₀ base outer g' → (tp.heap_1 w.params).In g' → Top tp.vw (looseW tp.vw []) mean mg mb g' →
      KtsDicts (outer.filterMap (·.frame)) g' → Q false { s with heap := h', toks := tk' }) : wpAny M A t Q E s := by
  refine wpAny_mono hj (fun b s' h => ?_) fun _ _ x => x
  obtain ⟨rfl, g', h', tk', rfl, a, b, c, d, e, f, i⟩ := h
  exact hk g' h' tk' a b c d e f i
theorem join_end {b : Bool} {h' : Heap} {tk' : Nat} (e : b = false) (V : KtsTurn (outer.filterMap (·.frame)) g₀ g) (F : Fr g L h' m) (N : News g L h' news) (B : Below A₀ base outer g) (X : (tp.heap_1 w.params).In g) (T : Top tp.vw (looseW tp.vw []) mean mg mb g)
    (D : KtsDicts (outer.filterMap (·.frame)) g) : JoinF w mean mg mb A₀ base g₀ outer L m news s b { s with heap := h', toks := tk' } :=
  ⟨e, g, h', tk', rfl, V, F, N, B, X, T, D⟩
def JoinG (g : Heap) (L : Addr) (m : Str → Option Value) (news : List (Addr × Obj)) (s : Shared) (b : Bool) (s' : Shared) : Prop :=
  b = false ∧ ∃ h' tk', s' = { s with heap := h', toks := tk' } ∧ Fr g L h' m ∧ News g L h' news
theorem join_g (_F : Fr g L s.heap m) (_N : News g L s.heap news)
    (hj : wpAny M A t (JoinG g L m news s) E s)
    (hk : ∀ h' tk', Fr g L h' m → News g L h' news → Q false { s with heap := h', toks := tk' }) : wpAny M A t Q E s := by
  refine wpAny_mono hj (fun b s' h => ?_) fun _ _ x => x
  obtain ⟨rfl, h', tk', rfl, b, c⟩ := h
  exact hk h' tk' b c
theorem joing_end {b : Bool} {h' : Heap} {tk' : Nat} (e : b = false) (F : Fr g L h' m) (N : News g L h' news) : JoinG g L m news s b { s with heap := h', toks := tk' } :=
  ⟨e, h', tk', rfl, F, N⟩
def Ph2 : Prop := True
theorem ph2 : Ph2 := trivial
end
theorem ln26 : True := by
  (k_with "c.bd" => first | assumption | exact bd_int (by walk_at "c.side") (by walk_at "c.side") | exact bd_add (by assumption) (by assumption) | exact bd_sub (by assumption) (by assumption) | exact bd_mul (by assumption) (by assumption) | exact bd_div (by assumption) (by assumption) | exact bd_dim (by assumption) (by assumption) | exact bd_abs (by assumption) (by assumption) | exact bd_sign (by assumption) (by assumption) | exact bd_pow (by assumption) (by assumption) | exact bd_max (by walk_at "c.bd") (by walk_at "c.bd") | exact bd_min (by walk_at "c.bd") (by walk_at "c.bd") | exact bd_mod (by walk_at "c.bd") (by walk_at "c.bd"))
  (k_with "c.iso" => first | exact isO_int | exact isO_opt)
  (k_with "l.use.r" => ((case cB => k_asm); (case cF => k_asm); (case cX => k_asm); (case cN => k_asm); (case cT => k_asm); (case ck => first | exact rfl | assumption); (case cXB => k_asm); (case cTB => k_asm); (case cD => k_asm); (case cd => walk_at "c.room"); (case cu => walk_at "c.units")))
  trivial
local macro_rules | `(tactic| k_call_by "l.use" $t:term) => `(tactic| (k_dflt (refine' $t _ _ _ _ _ _ _ _ _ _ _ _ _ _ _ _ _ _ _ ?cB ?cF ?cX ?cN ?cT ?ck ?cXB ?cTB ?cD ?cd ?cu ?cr; walk_at "l.use.r")))
theorem ln27 : True := by
  (k_with "l.back" => ((with_reducible rename Fr _ _ _ _ => oF); (with_reducible rename News _ _ _ _ => oN); (with_reducible rename Below _ _ _ _ => oB); (with_reducible rename Frag.In _ _ => oX); (with_reducible rename Top _ _ _ _ _ _ => oT); (with_reducible rename KtsDicts _ _ => oD); (with_reducible rename KtsTurn _ _ _ => oU); intro t' g' h' tk' U' F' N' B' X' T' D'; (have V' := KtsTurn.trans oU U'); clear oF oN oB oX oT oD oU U'; (try dsimp only); (try k_fold)))
  (k_with "l.begin" => (walk_at "l.enter"; (with_reducible rename Below _ _ _ _ => oB); (have V' := l_refl oB)))
  (k_with "compareOp NotEq" => (k_here; first
    | ((with_reducible show wpAny _ _ (compareOp CmpOp.NotEq (optV _ _) (optV _ _)) _ _ _); k_dflt (refine neV ?_))
    | ((with_reducible show wpAny _ _ (compareOp CmpOp.NotEq (optV _ _) (Value.int _ _)) _ _ _); k_dflt (refine neV (b := some _) ?_))
    | ((with_reducible show wpAny _ _ (compareOp CmpOp.NotEq (Value.int _ _) (optV _ _)) _ _ _); k_dflt (refine neV (a := some _) ?_))))
  (k_with "compareOp Eq" => (k_here; first
    | ((with_reducible show wpAny _ _ (compareOp CmpOp.Eq (optV _ _) (optV _ _)) _ _ _); k_dflt (refine eqV ?_))
    | ((with_reducible show wpAny _ _ (compareOp CmpOp.Eq (optV _ _) (Value.int _ _)) _ _ _); k_dflt (refine eqV (b := some _) ?_))
    | ((with_reducible show wpAny _ _ (compareOp CmpOp.Eq (Value.int _ _) (optV _ _)) _ _ _); k_dflt (refine eqV (a := some _) ?_))))
  (k_with "compareOp Is" => (k_here; (with_reducible show wpAny _ _ (compareOp CmpOp.Is (optV _ _) Value.none) _ _ _); k_dflt (refine isV ?_)))
  (k_with "compareOp IsNot" => (k_here; (with_reducible show wpAny _ _ (compareOp CmpOp.IsNot (optV _ _) Value.none) _ _ _); k_dflt (refine isNotV ?_)))
  (k_with "binaryOp Mult" => (k_here; (with_reducible show wpAny _ _ (binaryOp Operator.Mult (optV _ _) (Value.int _ _)) _ _ _); k_dflt (refine' mulV ?caq67 ?cbq67 ?_; (case caq67 => assumption); (case cbq67 => intro _; exact IntMulOk.of_right (PySem.intBits_le_64 (by l_fact) (by l_fact)))); intro z' hz'))
  (k_with "call builtin:abs" => (k_here; (with_reducible show wpAny _ _ (call (Value.builtin "abs") [optV _ _]) _ _ _); k_dflt (refine' absV ?caq68 ?_; (case caq68 => assumption)); intro z' hz' t' tk'))
  (k_with "call ref" => (k_here; (with_reducible show wpAny _ _ (call (Value.ref 412) [Value.str (PySem.Str.ofString "add") _, _, _, _]) _ _ _); k_call_by "l.use" (mk_add ?h1q69 ?h2q69 ?hl1q69 ?hl2q69 ?haq69 ?hbq69 ?baq69 ?bbq69); k_dflt ((case hl1q69 => k_dflt k_mem); (case hl2q69 => k_dflt k_mem); (case haq69 => walk_at "c.iso"); (case hbq69 => walk_at "c.iso"); (case h1q69 => walk_at "c.side"); (case h2q69 => walk_at "c.side"); (case baq69 => walk_at "c.bd"); (case bbq69 => walk_at "c.bd")); (case' cr => walk_at "l.back")))
  (k_with "call ref" => (k_here; (with_reducible show wpAny _ _ (call (Value.ref 412) [Value.str (PySem.Str.ofString "sub") _, _, _, _]) _ _ _); k_call_by "l.use" (mk_sub ?h1q70 ?h2q70 ?hl1q70 ?hl2q70 ?haq70 ?hbq70 ?baq70 ?bbq70); k_dflt ((case hl1q70 => k_dflt k_mem); (case hl2q70 => k_dflt k_mem); (case haq70 => walk_at "c.iso"); (case hbq70 => walk_at "c.iso"); (case h1q70 => walk_at "c.side"); (case h2q70 => walk_at "c.side"); (case baq70 => walk_at "c.bd"); (case bbq70 => walk_at "c.bd")); (case' cr => walk_at "l.back")))
  (k_with "call ref" => (k_here; (with_reducible show wpAny _ _ (call (Value.ref 412) [Value.str (PySem.Str.ofString "mul") _, _, _, _]) _ _ _); k_call_by "l.use" (mk_mul ?h1q71 ?h2q71 ?hl1q71 ?hl2q71 ?haq71 ?hbq71 ?baq71 ?bbq71); k_dflt ((case hl1q71 => k_dflt k_mem); (case hl2q71 => k_dflt k_mem); (case haq71 => walk_at "c.iso"); (case hbq71 => walk_at "c.iso"); (case h1q71 => walk_at "c.side"); (case h2q71 => walk_at "c.side"); (case baq71 => walk_at "c.bd"); (case bbq71 => walk_at "c.bd")); (case' cr => walk_at "l.back")))
  (k_with "call ref" => (k_here; (with_reducible show wpAny _ _ (call (Value.ref 412) [Value.str (PySem.Str.ofString "div") _, _, _, _]) _ _ _); k_call_by "l.use" (mk_div ?h1q72 ?h2q72 ?hl1q72 ?hl2q72 ?haq72 ?hbq72 ?baq72 ?bbq72); k_dflt ((case hl1q72 => k_dflt k_mem); (case hl2q72 => k_dflt k_mem); (case haq72 => walk_at "c.iso"); (case hbq72 => walk_at "c.iso"); (case h1q72 => walk_at "c.side"); (case h2q72 => walk_at "c.side"); (case baq72 => walk_at "c.bd"); (case bbq72 => walk_at "c.bd")); (case' cr => walk_at "l.back")))
  (k_with "call ref" => (k_here; (with_reducible show wpAny _ _ (call (Value.ref 412) [Value.str (PySem.Str.ofString "MOD") _, _, _, _]) _ _ _); k_call_by "l.use" (mk_mod ?h1q73 ?h2q73 ?hl1q73 ?hl2q73 ?haq73 ?hbq73 ?baq73 ?bbq73); k_dflt ((case hl1q73 => k_dflt k_mem); (case hl2q73 => k_dflt k_mem); (case haq73 => walk_at "c.iso"); (case hbq73 => walk_at "c.iso"); (case h1q73 => walk_at "c.side"); (case h2q73 => walk_at "c.side"); (case baq73 => walk_at "c.bd"); (case bbq73 => walk_at "c.bd")); (case' cr => walk_at "l.back")))
  (k_with "call ref" => (k_here; (with_reducible show wpAny _ _ (call (Value.ref 412) [Value.str (PySem.Str.ofString "MAX") _, _, _, _]) _ _ _); k_call_by "l.use" (mk_max ?h1q74 ?h2q74 ?hl1q74 ?hl2q74 ?haq74 ?hbq74 ?baq74 ?bbq74); k_dflt ((case hl1q74 => k_dflt k_mem); (case hl2q74 => k_dflt k_mem); (case haq74 => walk_at "c.iso"); (case hbq74 => walk_at "c.iso"); (case h1q74 => walk_at "c.side"); (case h2q74 => walk_at "c.side"); (case baq74 => walk_at "c.bd"); (case bbq74 => walk_at "c.bd")); (case' cr => walk_at "l.back")))
  (k_with "call ref" => (k_here; (with_reducible show wpAny _ _ (call (Value.ref 412) [Value.str (PySem.Str.ofString "MIN") _, _, _, _]) _ _ _); k_call_by "l.use" (mk_min ?h1q75 ?h2q75 ?hl1q75 ?hl2q75 ?haq75 ?hbq75 ?baq75 ?bbq75); k_dflt ((case hl1q75 => k_dflt k_mem); (case hl2q75 => k_dflt k_mem); (case haq75 => walk_at "c.iso"); (case hbq75 => walk_at "c.iso"); (case h1q75 => walk_at "c.side"); (case h2q75 => walk_at "c.side"); (case baq75 => walk_at "c.bd"); (case bbq75 => walk_at "c.bd")); (case' cr => walk_at "l.back")))
  (k_with "call ref" => (k_here; (with_reducible show wpAny _ _ (call (Value.ref 412) [Value.str (PySem.Str.ofString "DIM") _, _, _, _]) _ _ _); k_call_by "l.use" (mk_dim ?h1q76 ?h2q76 ?hl1q76 ?hl2q76 ?haq76 ?hbq76 ?baq76 ?bbq76); k_dflt ((case hl1q76 => k_dflt k_mem); (case hl2q76 => k_dflt k_mem); (case haq76 => walk_at "c.iso"); (case hbq76 => walk_at "c.iso"); (case h1q76 => walk_at "c.side"); (case h2q76 => walk_at "c.side"); (case baq76 => walk_at "c.bd"); (case bbq76 => walk_at "c.bd")); (case' cr => walk_at "l.back")))
  (k_with "call ref" => (k_here; (with_reducible show wpAny _ _ (call (Value.ref 412) [Value.str (PySem.Str.ofString "ABS") _, _, _, _]) _ _ _); k_call_by "l.use" (mk_abs ?h1q77 ?h2q77 ?hl1q77 ?hl2q77 ?haq77 ?hbq77 ?baq77 ?bbq77); k_dflt ((case hl1q77 => k_dflt k_mem); (case hl2q77 => k_dflt k_mem); (case haq77 => walk_at "c.iso"); (case hbq77 => walk_at "c.iso"); (case h1q77 => walk_at "c.side"); (case h2q77 => walk_at "c.side"); (case baq77 => walk_at "c.bd"); (case bbq77 => walk_at "c.bd")); (case' cr => walk_at "l.back")))
  (k_with "call ref" => (k_here; (with_reducible show wpAny _ _ (call (Value.ref 412) [Value.str (PySem.Str.ofString "SIGN") _, _, _, _]) _ _ _); k_call_by "l.use" (mk_sign ?h1q78 ?h2q78 ?hl1q78 ?hl2q78 ?haq78 ?hbq78 ?baq78 ?bbq78); k_dflt ((case hl1q78 => k_dflt k_mem); (case hl2q78 => k_dflt k_mem); (case haq78 => walk_at "c.iso"); (case hbq78 => walk_at "c.iso"); (case h1q78 => walk_at "c.side"); (case h2q78 => walk_at "c.side"); (case baq78 => walk_at "c.bd"); (case bbq78 => walk_at "c.bd")); (case' cr => walk_at "l.back")))
  (k_with "call ref" => (k_here; (with_reducible show wpAny _ _ (call (Value.ref 412) [Value.str (PySem.Str.ofString "pow") _, _, _, _]) _ _ _); k_call_by "l.use" (mki_pown ?h1q79 ?h2q79 ?hx1q79 ?hx2q79 ?hn0q79 ?hn1q79 ?hl1q79 ?hl2q79); k_dflt ((case hl1q79 => k_dflt k_mem); (case hl2q79 => k_dflt k_mem); (case h1q79 => walk_at "c.side"); (case h2q79 => walk_at "c.side"); (case hx1q79 => walk_at "c.side"); (case hx2q79 => walk_at "c.side"); (case hn0q79 => walk_at "c.side"); (case hn1q79 => walk_at "c.side")); (case' cr => walk_at "l.back")))
  (k_with "call ref" => (k_here; (with_reducible show wpAny _ _ (call (Value.ref 412) [Value.str (PySem.Str.ofString "pow") _, _, _, _]) _ _ _); k_call_by "l.use" (mk_pow ?h1q80 ?h2q80 ?hn1q80 ?hn2q80 ?hl1q80 ?hl2q80 ?haq80 ?baq80); k_dflt ((case hl1q80 => k_dflt k_mem); (case hl2q80 => k_dflt k_mem); (case haq80 => walk_at "c.iso"); (case h1q80 => walk_at "c.side"); (case h2q80 => walk_at "c.side"); (case hn1q80 => walk_at "c.side"); (case hn2q80 => walk_at "c.side"); (case baq80 => walk_at "c.bd")); (case' cr => walk_at "l.back")))
  (k_with "call ref" => (k_here; (with_reducible show wpAny _ _ (call (Value.ref 412) [Value.str (PySem.Str.ofString "powi") _, _, _, _]) _ _ _); k_call_by "l.use" (mk_powi ?h1q81 ?h2q81 ?hn1q81 ?hn2q81 ?hl1q81 ?hl2q81 ?haq81 ?baq81); k_dflt ((case hl1q81 => k_dflt k_mem); (case hl2q81 => k_dflt k_mem); (case haq81 => walk_at "c.iso"); (case h1q81 => walk_at "c.side"); (case h2q81 => walk_at "c.side"); (case hn1q81 => walk_at "c.side"); (case hn2q81 => walk_at "c.side"); (case baq81 => walk_at "c.bd")); (case' cr => walk_at "l.back")))
  (k_with "call ref" => (k_here; (with_reducible show wpAny _ _ (call (Value.ref 412) [Value.str (PySem.Str.ofString "lt") _, _, _, _]) _ _ _); k_call_by "l.use" (mki_lt ?h1q82 ?h2q82 ?hx1q82 ?hx2q82 ?hy1q82 ?hy2q82 ?hl1q82 ?hl2q82); k_dflt ((case hl1q82 => k_dflt k_mem); (case hl2q82 => k_dflt k_mem); (case h1q82 => walk_at "c.side"); (case h2q82 => walk_at "c.side"); (case hx1q82 => walk_at "c.side"); (case hx2q82 => walk_at "c.side"); (case hy1q82 => walk_at "c.side"); (case hy2q82 => walk_at "c.side")); (case' cr => walk_at "l.back")))
  (k_with "call ref" => (k_here; (with_reducible show wpAny _ _ (call (Value.ref 412) [Value.str (PySem.Str.ofString "ge") _, _, _, _]) _ _ _); k_call_by "l.use" (mki_ge ?h1q83 ?h2q83 ?hx1q83 ?hx2q83 ?hy1q83 ?hy2q83 ?hl1q83 ?hl2q83); k_dflt ((case hl1q83 => k_dflt k_mem); (case hl2q83 => k_dflt k_mem); (case h1q83 => walk_at "c.side"); (case h2q83 => walk_at "c.side"); (case hx1q83 => walk_at "c.side"); (case hx2q83 => walk_at "c.side"); (case hy1q83 => walk_at "c.side"); (case hy2q83 => walk_at "c.side")); (case' cr => walk_at "l.back")))
  trivial
theorem gaps_c {w : World} {news : List (Addr × Obj)} {x y W : Int} {t2 t3 lu : Tok} {lk : Nat → Tok} {la dx : Addr} (h1 : 2 ≤ W) (h2 : W ≤ 40) (hx : ¬ NoFit W x) (hy : ¬ NoFit W y)
    (hl1 : (la, instObj 141 dx) ∈ news) (hl2 : (dx, limD w.params W lu lk) ∈ news) :
    CtL 15 w 433 [.int x t2, .int y t3, .ref la] news (fun _ => .bool true) := by
  obtain ⟨hx1, hx2⟩ := fit_39 h1 h2 hx
  obtain ⟨hy1, hy2⟩ := fit_39 h1 h2 hy
  intro mean mg mb dp un gd cn cs a ccd outer A₀ base h₀ L m s Q E B F X N T hk XB TB D hd hu hret
  walk_at "l.begin"
  k_steps
  all_goals first
    | exact absurd (gap1 h1) (by assumption)
    | exact absurd (gap2 h1) (by assumption)
    | exact absurd (gap3 h1) (by assumption)
    | exact absurd gap4 (by assumption)
    | exact absurd ((gap5 h1).symm.trans (by assumption)) (by decide)
    | exact absurd (gap6.symm.trans (by assumption)) (by decide)
    | exact absurd (gap7 h1 hx) (by assumption)
    | exact absurd (gap8 hx) (by assumption)
    | ((refine' retB ?_ (hret 0 _ _ _ ?c1 ?c2 ?c3 ?c4 ?c5 ?c6 ?c7); (case c2 => k_asm); (case c3 => first | k_asm | exact news_tl (by k_asm) | exact news_tl (news_tl (by k_asm)) | exact news_tl (news_tl (news_tl (by k_asm))) | exact news_tl (news_tl (news_tl (news_tl (by k_asm))))); (case c1 => first | k_asm | exact KtsTurn.refl); (case c4 => k_asm); (case c5 => k_asm); (case c6 => k_asm); (case c7 => k_asm)); exact decide_eq_true (gap9 h1 hx (by assumption)).2)
    | exact absurd ((gap9 h1 hx (by assumption)).1.symm.trans (by assumption)) (by decide)
    | ((refine' retB ?_ (hret 0 _ _ _ ?c1 ?c2 ?c3 ?c4 ?c5 ?c6 ?c7); (case c2 => k_asm); (case c3 => first | k_asm | exact news_tl (by k_asm) | exact news_tl (news_tl (by k_asm)) | exact news_tl (news_tl (news_tl (by k_asm))) | exact news_tl (news_tl (news_tl (news_tl (by k_asm))))); (case c1 => first | k_asm | exact KtsTurn.refl); (case c4 => k_asm); (case c5 => k_asm); (case c6 => k_asm); (case c7 => k_asm)); exact decide_eq_true (gap11 h1 hx (by assumption)))
    | exact absurd (gap10 h1 hx (by assumption)).1 (by assumption)
theorem rest_c {w : World} {news : List (Addr × Obj)} {x y W : Int} {t2 t3 lu : Tok} {lk : Nat → Tok} {la dx : Addr} (h1 : 2 ≤ W) (h2 : W ≤ 40) (hx : ¬ NoFit W x) (hy : ¬ NoFit W y)
    (hl1 : (la, instObj 141 dx) ∈ news) (hl2 : (dx, limD w.params W lu lk) ∈ news) :
    CtL 15 w 426 [.int x t2, .int y t3, .ref la] news (fun _ => .bool true) := by
  obtain ⟨hx1, hx2⟩ := fit_39 h1 h2 hx
  obtain ⟨hy1, hy2⟩ := fit_39 h1 h2 hy
  intro mean mg mb dp un gd cn cs a ccd outer A₀ base h₀ L m s Q E B F X N T hk XB TB D hd hu hret
  walk_at "l.begin"
  k_steps
  all_goals first
    | exact absurd ((rs0a (by assumption)).symm.trans (by assumption)) (by decide)
    | exact absurd ((rs2 (by assumption)).symm.trans (by assumption)) (by decide)
    | exact absurd ((rs8 h1 hx (by assumption) (by assumption)).symm.trans (by assumption)) (by decide)
    | exact absurd ((rs3 (by assumption)).symm.trans (by assumption)) (by decide)
    | exact absurd (by assumption) (rs4 (by assumption) (by assumption))
    | exact absurd (by assumption) (rs5 (by assumption) (by assumption))
    | exact absurd (rs6 (by assumption) (by assumption)) (by assumption)
    | exact absurd (rs9 (by assumption) (by assumption) (by assumption)) (by assumption)
    | ((refine' retB ?_ (hret 0 _ _ _ ?c1 ?c2 ?c3 ?c4 ?c5 ?c6 ?c7); (case c2 => k_asm); (case c3 => first | k_asm | exact news_tl (by k_asm) | exact news_tl (news_tl (by k_asm)) | exact news_tl (news_tl (news_tl (by k_asm))) | exact news_tl (news_tl (news_tl (news_tl (by k_asm))))); (case c1 => first | k_asm | exact KtsTurn.refl); (case c4 => k_asm); (case c5 => k_asm); (case c6 => k_asm); (case c7 => k_asm)); exact rs0b (by assumption))
    | ((refine' retB ?_ (hret 0 _ _ _ ?c1 ?c2 ?c3 ?c4 ?c5 ?c6 ?c7); (case c2 => k_asm); (case c3 => first | k_asm | exact news_tl (by k_asm) | exact news_tl (news_tl (by k_asm)) | exact news_tl (news_tl (news_tl (by k_asm))) | exact news_tl (news_tl (news_tl (news_tl (by k_asm))))); (case c1 => first | k_asm | exact KtsTurn.refl); (case c4 => k_asm); (case c5 => k_asm); (case c6 => k_asm); (case c7 => k_asm)); exact decide_eq_true (rs7 h1 hx (by assumption) (by assumption)))
    | ((refine' retB ?_ (hret 0 _ _ _ ?c1 ?c2 ?c3 ?c4 ?c5 ?c6 ?c7); (case c2 => k_asm); (case c3 => first | k_asm | exact news_tl (by k_asm) | exact news_tl (news_tl (by k_asm)) | exact news_tl (news_tl (news_tl (by k_asm))) | exact news_tl (news_tl (news_tl (news_tl (by k_asm))))); (case c1 => first | k_asm | exact KtsTurn.refl); (case c4 => k_asm); (case c5 => k_asm); (case c6 => k_asm); (case c7 => k_asm)); exact decide_eq_true (rs10 hx (by assumption) (by assumption)))
theorem powers_c {w : World} {news : List (Addr × Obj)} {x y m n W : Int} {t2 t3 t4 t5 lu : Tok} {lk : Nat → Tok} {la dx : Addr} (h1 : 2 ≤ W) (h2 : W ≤ 40) (hx : ¬ NoFit W x) (hy : ¬ NoFit W y) (hm0 : 0 ≤ m) (hm1 : m ≤ 6) (hn0 : 1 ≤ n) (hn1 : n ≤ 7)
    (hl1 : (la, instObj 141 dx) ∈ news) (hl2 : (dx, limD w.params W lu lk) ∈ news) :
    CtL 15 w 445 [.int x t2, .int y t3, .int m t4, .int n t5, .ref la] news (fun _ => .bool true) := by
  obtain ⟨hx1, hx2⟩ := fit_39 h1 h2 hx
  obtain ⟨hy1, hy2⟩ := fit_39 h1 h2 hy
  have hmn0 : 0 ≤ m * n := Int.mul_nonneg hm0 (by omega)
  have hmn1 : m * n ≤ 42 := Int.mul_le_mul hm1 hn1 (by omega) (by decide)
  have hs0 : 0 ≤ m + n := by omega
  have hs1 : m + n ≤ 42 := by omega
  have hp0 : -42 ≤ 0 - n := by omega
  have hp1 : 0 - n < 0 := by omega
  have hm2 : m ≤ 42 := by omega
  have hn2 : n ≤ 42 := by omega
  have hn3 : 0 ≤ n := by omega
  intro mean mg mb dp un gd cn cs a ccd outer A₀ base h₀ L f s Q E B F X N T hk XB TB D hd hu hret
  walk_at "l.begin"
  k_steps
  all_goals first
    | exact absurd (pr1 h1 hm0 hn0) (by assumption)
    | exact absurd (pr2 h1 hm0 hn0) (by assumption)
    | exact absurd (pr3 h1) (by assumption)
    | exact absurd (pr4 hx) (by assumption)
    | exact absurd (pr5a h1 (by assumption)) (by assumption)
    | exact absurd (pr5b h1 hn0 (by assumption)) (by assumption)
    | ((refine' retB ?_ (hret 0 _ _ _ ?c1 ?c2 ?c3 ?c4 ?c5 ?c6 ?c7); (case c2 => k_asm); (case c3 => first | k_asm | exact news_tl (by k_asm) | exact news_tl (news_tl (by k_asm)) | exact news_tl (news_tl (news_tl (by k_asm))) | exact news_tl (news_tl (news_tl (news_tl (by k_asm))))); (case c1 => first | k_asm | exact KtsTurn.refl); (case c4 => k_asm); (case c5 => k_asm); (case c6 => k_asm); (case c7 => k_asm)); exact decide_eq_true (pr6 h1 hn0 (by assumption)))
    | ((refine' retB ?_ (hret 0 _ _ _ ?c1 ?c2 ?c3 ?c4 ?c5 ?c6 ?c7); (case c2 => k_asm); (case c3 => first | k_asm | exact news_tl (by k_asm) | exact news_tl (news_tl (by k_asm)) | exact news_tl (news_tl (news_tl (by k_asm))) | exact news_tl (news_tl (news_tl (news_tl (by k_asm))))); (case c1 => first | k_asm | exact KtsTurn.refl); (case c4 => k_asm); (case c5 => k_asm); (case c6 => k_asm); (case c7 => k_asm)); assumption)
section
theorem ln28 : True := by
  (k_with "isTrue BoolOp" => (k_here; (fail_if_success (k_dflt (have _ph : Ph2 := by assumption))); (with_reducible show wpAny _ _ (isTrue (Expr.BoolOp BoolOp.And _ _) _ _) _ _ _); (fail_if_success (with_reducible show wpAny _ _ _ (JoinF _ _ _ _ _ _ _ _ _ _ _ _) _ _)); k_dflt (refine' join_f ?cVq84 ?cBq84 ?cFq84 ?cNq84 ?cXq84 ?cTq84 ?_ ?_; (case cFq84 => k_asm); (case cNq84 => k_asm); (case cVq84 => k_asm); (case cBq84 => k_asm); (case cXq84 => k_asm); (case cTq84 => k_asm)); rotate_left; (with_reducible rename Fr _ _ _ _ => oF); (with_reducible rename News _ _ _ _ => oN); (with_reducible rename Below _ _ _ _ => oB); (with_reducible rename Frag.In _ _ => oX); (with_reducible rename Top _ _ _ _ _ _ => oT); (with_reducible rename KtsDicts _ _ => oD); (with_reducible rename KtsTurn _ _ _ => oU); intro g' h' tk' U' F' N' B' X' T' D'; clear oF oN oB oX oT oD oU; (try dsimp only); (try k_fold); rotate_right))
  (k_with "j.end" => (k_dflt (refine' join_end ?_ ?cVq85 ?cFq85 ?cNq85 ?cBq85 ?cXq85 ?cTq85 ?cDq85; (case cFq85 => k_asm); (case cNq85 => k_asm); (case cVq85 => k_asm); (case cBq85 => k_asm); (case cXq85 => k_asm); (case cTq85 => k_asm); (case cDq85 => k_asm))))
  (k_with "isTrue BoolOp" => (k_here; (k_dflt (have _ph : Ph2 := by assumption)); (with_reducible show wpAny _ _ (isTrue (Expr.BoolOp BoolOp.And _ _) _ _) _ _ _); (fail_if_success (with_reducible show wpAny _ _ _ (JoinG _ _ _ _ _) _ _)); k_dflt (refine' join_g ?cFq86 ?cNq86 ?_ ?_; (case cFq86 => k_asm); (case cNq86 => k_asm)); rotate_left; (with_reducible rename Fr _ _ _ _ => oF); (with_reducible rename News _ _ _ _ => oN); intro h' tk' F' N'; clear oF oN; (try dsimp only); (try k_fold); rotate_right))
  (k_with "jg.end" => (k_dflt (refine' joing_end ?_ ?cFq87 ?cNq87; (case cFq87 => k_asm); (case cNq87 => k_asm))))
  (k_with "CompEnd" => (k_dflt (refine' LCg.CompEnd.intro ?cFq88 ?cNq88 _ (fun _ hp => hp) ?coq88 ?csq88 ?_; (case cFq88 => assumption); (case cNq88 => assumption); (case coq88 => assumption); (case csq88 => exact Or.inr ⟨_, by k_mem, rfl, _, rfl⟩))))
  trivial
section
variable {prog : Program} {w : World} {A : Around} {E : Value → Shared → Prop} {s : Shared} {h₀ : Heap} {L l : Addr} {news : List (Addr × Obj)} {v0 v1 : Value} {value slice : PySem.Expr} {u : Tok} {Q : Value → Shared → Prop}
theorem pair_0 (N : News h₀ L s.heap news) (hm : (l, ({ cls := .type "tuple", data := .seq #[v0, v1] } : Obj)) ∈ news) (h : Q v0 s)
    (hs : subscripted slice false (.ref l) (.int 0 u) = operate [.ref l, .int 0 u] (getItem (.ref l) (.int 0 u))) : wpAny (model prog w) A (subscriptTail value slice (.ref l) (.int 0 u)) Q E s := by
  have ht : s.heap.IsTuple l #[v0, v1] := ⟨_, N.get hm, rfl, 0, rfl⟩
  exact tail_any ht.typeIs PySem.F.slot_tuple_getitem.lookup (getItem_tuple ht (by decide) (by decide) (seqIndex_of (by decide) (by show (0 : Int) < ((2 : Nat) : Int); decide)) (by rfl) h) hs
theorem pair_1 (N : News h₀ L s.heap news) (hm : (l, ({ cls := .type "tuple", data := .seq #[v0, v1] } : Obj)) ∈ news) (h : Q v1 s)
    (hs : subscripted slice false (.ref l) (.int 1 u) = operate [.ref l, .int 1 u] (getItem (.ref l) (.int 1 u))) : wpAny (model prog w) A (subscriptTail value slice (.ref l) (.int 1 u)) Q E s := by
  have ht : s.heap.IsTuple l #[v0, v1] := ⟨_, N.get hm, rfl, 0, rfl⟩
  exact tail_any ht.typeIs PySem.F.slot_tuple_getitem.lookup (getItem_tuple ht (by decide) (by decide) (seqIndex_of (by decide) (by show (1 : Int) < ((2 : Nat) : Int); decide)) (by rfl) h) hs
end
theorem ln29 : True := by
  (k_with "p.mem" => first | exact List.Mem.head _ | (refine List.mem_cons_of_mem _ ?_; walk_at "p.mem"))
  (k_with "subscriptTail Name Constant ref int" => (k_here; first
    | ((with_reducible show wpAny _ _ (subscriptTail _ _ (Value.ref _) (Value.int 0 _)) _ _ _); k_dflt (refine' pair_0 ?cNq90 ?cHq90 ?_ ?csq90; (case cNq90 => k_asm); (case cHq90 => walk_at "p.mem"); (case csq90 => with_unfolding_all rfl)))
    | ((with_reducible show wpAny _ _ (subscriptTail _ _ (Value.ref _) (Value.int 1 _)) _ _ _); k_dflt (refine' pair_1 ?cNq90 ?cHq90 ?_ ?csq90; (case cNq90 => k_asm); (case cHq90 => walk_at "p.mem"); (case csq90 => with_unfolding_all rfl)))))
  trivial
theorem ln30 : True := by
  (k_with "p.tl" => first | assumption | (refine List.mem_cons_of_mem _ ?_; walk_at "p.tl"))
  trivial
theorem ring_c {w : World} {news : List (Addr × Obj)} {x y z W : Int} {t2 t3 t4 lu : Tok} {lk : Nat → Tok} {la dx : Addr} (h1 : 2 ≤ W) (h2 : W ≤ 40) (hx : ¬ NoFit W x) (hy : ¬ NoFit W y) (hz : ¬ NoFit W z)
    (hl1 : (la, instObj 141 dx) ∈ news) (hl2 : (dx, limD w.params W lu lk) ∈ news) :
    CtL 15 w 438 [.int x t2, .int y t3, .int z t4, .ref la] news (fun _ => .bool true) := by
  obtain ⟨hx1, hx2⟩ := fit_39 h1 h2 hx
  obtain ⟨hy1, hy2⟩ := fit_39 h1 h2 hy
  obtain ⟨hz1, hz2⟩ := fit_39 h1 h2 hz
  intro mean mg mb dp un gd cn cs a ccd outer A₀ base h₀ L m s Q E B F X N T hk XB TB D hd hu hret
  walk_at "l.begin"
  repeat' ((fail_if_success (with_reducible show wpAny _ _ (exec (Stmt.Return (some (Expr.Compare (Expr.ListComp _ _ _ _) _ _ _)) _) _) _ _ _)); first | (k_unfold; (try dsimp only)) | (k_end; wrow_close) | walk1 | (dsimp only; walk1))
  all_goals first
    | exact absurd rg1 (by assumption)
    | exact absurd rg2 (by assumption)
    | exact absurd (rg3 hx (by assumption)) (by assumption)
    | exact absurd (rg4 hx (by assumption) (by assumption)) (by assumption)
    | exact absurd (rg5 (by assumption) (by assumption)) (by assumption)
    | exact absurd (rg6 (by assumption)) (by assumption)
    | exact absurd (rg7 (by assumption) (by assumption)) (by assumption)
    | (walk_at "j.end"; exact rfl)
    | skip
  all_goals (try (have ph := ph2))
  k_steps
  all_goals first
    | exact absurd (rg8a (by assumption) (by assumption)) (by assumption)
    | exact absurd (rg8b (by assumption) (by assumption)) (by assumption)
    | exact absurd (rg8c (by assumption) (by assumption)) (by assumption)
    | (walk_at "jg.end"; exact rfl)
    | ((refine' retB ?_ (hret 0 _ _ _ ?c1 ?c2 ?c3 ?c4 ?c5 ?c6 ?c7); (case c2 => k_asm); (case c3 => first | k_asm | (refine' News.perm (by k_asm) ?hz; (case hz => intro p hp; walk_at "p.tl"))); (case c1 => first | k_asm | exact KtsTurn.refl); (case c4 => k_asm); (case c5 => k_asm); (case c6 => k_asm); (case c7 => k_asm)); exact rfl)
end
theorem ln31 : True := by
  k_with_none
  (k_with "c.room" => ((try simp only [depth_deeper, depth_mark, depth_in1]); (try dsimp only [cTop]); first | exact room_1 (by assumption) (by decide) | exact room_0 (by assumption) (by decide) | exact room_2 (by assumption) | omega))
  (k_with "c.units" => ((try simp only [units_deeper, Around.mark_units, units_in1]); (try dsimp only [cTop]); first | exact unit_1 (by assumption) (by decide) | exact unit_0 (by assumption) (by decide) | exact unit_2 (by assumption) | omega))
  (k_with "exec Raise some none" => (k_here; refine Raise_mine rfl ?_))
  (k_with "RaiseEnd" => (k_here; refine' raiseEnd_ ?Fq7 ?Xq7 ?Nq7 ?_; (case Fq7 => k_asm); (case Xq7 => k_asm); (case Nq7 => k_asm); k_whole; try dsimp only))
  (k_with "call ref" => (k_here; (with_reducible show wpAny _ _ (call (Value.ref 44) _) _ _ _); k_dflt (refine' rf_call ?Bq8 ?Fq8 ?Xq8 ?Nq8 ?Tq8 ?Aq8 ?fq8 ?kq8 ?dq8 ?_; (case Aq8 => exact rfl); (case fq8 => exact rfl); (case kq8 => exact rfl); (case Bq8 => k_asm); (case Fq8 => k_asm); (case Xq8 => k_asm); (case Nq8 => k_asm); (case Tq8 => k_asm); (case dq8 => walk_at "c.room"); k_whole); intro e' t' d' vs' h' tk' F' N' hn' hn2'; (try k_sweep)))
  (k_with "leaving ref" => (k_here; first
    | (refine' leave_first ?Kq9 ?Fq9 ?Nq9 ?nq9 ?n2q9 ?_; (case Kq9 => assumption); (case Fq9 => assumption); (case Nq9 => assumption); (case nq9 => assumption); (case n2q9 => assumption); k_whole; intro h' R' U'; (try dsimp only at R' U' ⊢))
    | (refine' leave_on ?Kq9 ?Fq9 ?Rq9 ?Uq9 ?_; (case Rq9 => assumption); (case Kq9 => assumption); (case Uq9 => assumption); (case Fq9 => assumption); k_whole; intro h' R' U'; (try dsimp only at R' U' ⊢))))
  (k_with "c.enter" => (refine wpAny_call ?_; k_dflt (refine' code_def ?k1q10 ?k2q10 ?k3q10 ?k4q10 ?k5q10 ?kAq10 ?kFq10 ?kKq10 ?k6q10 ?k7q10 ?k8q10 ?k9q10 ?kBq10 ?_ ?c2q10 ?c3q10 ?c4q10 ?c5q10; (case kAq10 => exact rfl); (case kFq10 => exact rfl); (case kKq10 => assumption); (case k1q10 => k_asm); (case k2q10 => k_asm); (case k3q10 => k_asm); (case k4q10 => k_asm); (case k5q10 => k_asm); (case k6q10 => k_is); (case k7q10 => k_is); (case k8q10 => walk_at "c.room"); (case k9q10 => first | exact BindsTo.of_eq (binds := [(_, _)]) rfl | exact BindsTo.of_eq (binds := [(_, _), (_, _)]) rfl | exact BindsTo.of_eq (binds := [(_, _), (_, _), (_, _)]) rfl | exact BindsTo.of_eq (binds := [(_, _), (_, _), (_, _), (_, _)]) rfl | exact BindsTo.of_eq (binds := [(_, _), (_, _), (_, _), (_, _), (_, _)]) rfl | exact BindsTo.of_eq (binds := [(_, _), (_, _), (_, _), (_, _), (_, _), (_, _)]) rfl); (case c5q10 => decide); (case kBq10 => exact locs rfl); (case c2q10 => exact rfl); (case c3q10 => exact rfl); (case c4q10 => exact rfl); k_whole; intro g' L' h' FG' F' N' B' X' T'; (try dsimp only); (try k_fold))))
  (k_with "c.use.r" => ((case cB => k_asm); (case cF => k_asm); (case cX => k_asm); (case cN => k_asm); (case cT => k_asm); (case ck => first | exact rfl | assumption); (case cd => walk_at "c.room"); (case cu => walk_at "c.units")))
  (k_with "c.back" => ((case' cr => (intro t' h' tk' hx' F' N'; (try k_sweep); (try dsimp only); (try k_fold))); (case' cx => first | exact fun z => False.elim z | (intro hx' e' G' h' tk' FG' R' U'; (try dsimp only); (try k_fold)))))
  (k_with "eval Call" => (k_here; k_dflt (refine Call_ ?_)))
  (k_with "c.side" => first | assumption | omega | (constructor <;> assumption))
  (k_with "ite" => (k_closed; first | refine ite_pos (by decide +kernel) ?_ | refine ite_neg (by decide +kernel) ?_))
  (k_with "call builtin:abs" => (k_here; (with_reducible show wpAny _ _ (call (Value.builtin "abs") [Value.int _ _]) _ _ _); k_dflt (refine abs_r ?_); intro t' tk'))
  (k_with "c.ne" => first | assumption | decide | omega)
  (k_with "c.py" => first | assumption | (rw [Int.natAbs_natCast]; assumption) | decide)
  (k_with "binaryOp FloorDiv int int" => (k_here; k_dflt (refine' floordiv_int ?neq18 ?_ (Or.inl (PyProof.noPylong_of_log2 ?pyq18))); (case neq18 => walk_at "c.ne"); (case pyq18 => walk_at "c.py")))
  (k_with "c.py" => first | assumption | (rw [Int.natAbs_natCast]; assumption) | decide | exact log2_40 (by assumption) (by assumption))
  (k_with "c.num" => first | assumption | omega | decide)
  (k_with "binaryOp Pow int int" => (k_here; k_dflt (refine' pow_int_small ?caq21 ?cbq21 ?ccq21 ?_); (case caq21 => walk_at "c.num"); (case cbq21 => walk_at "c.num"); (case ccq21 => walk_at "c.num")))
  (k_with "subscriptTail" => (k_here; (with_reducible show wpAny _ _ (subscriptTail _ _ (Value.ref _) (Value.int _ _)) _ _ _); k_dflt (refine' item_list_c ?cNq22 ?cmq22 ?c0q22 ?chq22 ?cxq22 ?_ ?csq22; (case cNq22 => k_asm); (case cmq22 => k_mem); (case c0q22 => decide); (case chq22 => decide); (case cxq22 => rfl); (case csq22 => with_unfolding_all rfl); k_whole)))
  (k_with "call ref" => (k_here; (with_reducible show wpAny _ _ (call (Value.ref 53) _) _ _ _); k_call_by "c.use" (fit_int_c ?h1q23 ?h2q23); (case h1q23 => walk_at "c.side"); (case h2q23 => walk_at "c.side"); walk_at "c.back"))
  (k_with "call ref" => (k_here; (with_reducible show wpAny _ _ (call (Value.ref 81) _) _ _ _); k_call_by "c.use" (cutq_c ?hyq24 ?hbq24); (case hyq24 => walk_at "c.side"); (case hbq24 => walk_at "c.side"); walk_at "c.back"))
  (k_with "call ref" => (k_here; (with_reducible show wpAny _ _ (call (Value.ref 60) _) _ _ _); k_call_by "c.use" (int_add_c ?h1q31 ?h2q31); (case h1q31 => walk_at "c.side"); (case h2q31 => walk_at "c.side"); walk_at "c.back"))
  (k_with "call ref" => (k_here; (with_reducible show wpAny _ _ (call (Value.ref 67) _) _ _ _); k_call_by "c.use" (int_sub_c ?h1q32 ?h2q32); (case h1q32 => walk_at "c.side"); (case h2q32 => walk_at "c.side"); walk_at "c.back"))
  (k_with "call ref" => (k_here; (with_reducible show wpAny _ _ (call (Value.ref 74) _) _ _ _); k_call_by "c.use" (int_mul_c ?h1q33 ?h2q33 ?hx1q33 ?hx2q33); (case h1q33 => walk_at "c.side"); (case h2q33 => walk_at "c.side"); (case hx1q33 => walk_at "c.side"); (case hx2q33 => walk_at "c.side"); walk_at "c.back"))
  (k_with "call ref" => (k_here; (with_reducible show wpAny _ _ (call (Value.ref 88) _) _ _ _); k_call_by "c.use" (int_div_c ?h1q34 ?h2q34 ?hy1q34 ?hy2q34); (case h1q34 => walk_at "c.side"); (case h2q34 => walk_at "c.side"); (case hy1q34 => walk_at "c.side"); (case hy2q34 => walk_at "c.side"); walk_at "c.back"))
  (k_with "call ref" => (k_here; (with_reducible show wpAny _ _ (call (Value.ref 102) _) _ _ _); k_call_by "c.use" (int_power_c ?h1q35 ?h2q35 ?hx1q35 ?hx2q35 ?hn1q35 ?hn2q35); (case h1q35 => walk_at "c.side"); (case h2q35 => walk_at "c.side"); (case hx1q35 => walk_at "c.side"); (case hx2q35 => walk_at "c.side"); (case hn1q35 => walk_at "c.side"); (case hn2q35 => walk_at "c.side"); walk_at "c.back"))
  (k_with "call ref" => (k_here; (with_reducible show wpAny _ _ (call (Value.ref 102) _) _ _ _); k_call_by "c.use" (int_power_neg ?h1q36 ?h2q36 ?hn1q36); (case h1q36 => walk_at "c.side"); (case h2q36 => walk_at "c.side"); (case hn1q36 => walk_at "c.side"); walk_at "c.back"))
  (k_with "call ref" => (k_here; (with_reducible show wpAny _ _ (call (Value.ref 109) _) _ _ _); k_call_by "c.use" (order_of_c ); walk_at "c.back"))
  (k_with "call ref" => (k_here; (with_reducible show wpAny _ _ (call (Value.ref 116) _) _ _ _); k_call_by "c.use" (holds_lt_c ); walk_at "c.back"))
  (k_with "call ref" => (k_here; (with_reducible show wpAny _ _ (call (Value.ref 116) _) _ _ _); k_call_by "c.use" (holds_ge_c ); walk_at "c.back"))
  (k_with "call ref" => (k_here; (with_reducible show wpAny _ _ (call (Value.ref 53) _) _ _ _); k_call_by "c.use" (fit_int_c ?h1q40 ?h2q40); (case h1q40 => walk_at "c.side"); (case h2q40 => walk_at "c.side"); walk_at "c.back"))
  (k_with "call ref" => (k_here; (with_reducible show wpAny _ _ (call (Value.ref 81) _) _ _ _); k_call_by "c.use" (cutq_c ?hyq41 ?hbq41); (case hyq41 => walk_at "c.side"); (case hbq41 => walk_at "c.side"); walk_at "c.back"))
  (k_with "call ref" => (k_here; (with_reducible show wpAny _ _ (call (Value.ref 109) _) _ _ _); k_call_by "c.use" (order_of_c ); walk_at "c.back"))
  (k_with "call ref" => (k_here; (with_reducible show wpAny _ _ (call (Value.ref 356) _) _ _ _); k_call_by "c.use" (compare_numbers_c ); walk_at "c.back"))
  (k_with "call ref" => (k_here; (with_reducible show wpAny _ _ (call (Value.ref 370) _) _ _ _); k_call_by "c.use" (extreme_max_c ?hl4q48); (case hl4q48 => k_dflt k_mem); walk_at "c.back"))
  (k_with "call ref" => (k_here; (with_reducible show wpAny _ _ (call (Value.ref 370) _) _ _ _); k_call_by "c.use" (extreme_min_c ?hl4q49); (case hl4q49 => k_dflt k_mem); walk_at "c.back"))
  (k_with "l.enter" => (refine wpAny_call ?_; k_dflt (refine' code_defS ?k1q50 ?k2q50 ?k3q50 ?k4q50 ?k5q50 ?kXq50 ?kTq50 ?kDq50 KtsTurn.refl ?kAq50 ?k6q50 ?k7q50 ?k8q50 ?k9q50 ?kBq50 ?_ ?kKq50 ?c2q50 ?c3q50 ?c4q50 ?c5q50; (case kAq50 => exact rfl); (case kKq50 => assumption); (case k1q50 => k_asm); (case k2q50 => k_asm); (case k3q50 => k_asm); (case k4q50 => k_asm); (case k5q50 => k_asm); (case kXq50 => k_asm); (case kTq50 => k_asm); (case kDq50 => k_asm); (case k6q50 => k_is); (case k7q50 => k_is); (case k8q50 => walk_at "c.room"); (case k9q50 => first | exact BindsTo.of_eq (binds := [(_, _)]) rfl | exact BindsTo.of_eq (binds := [(_, _), (_, _)]) rfl | exact BindsTo.of_eq (binds := [(_, _), (_, _), (_, _)]) rfl | exact BindsTo.of_eq (binds := [(_, _), (_, _), (_, _), (_, _)]) rfl | exact BindsTo.of_eq (binds := [(_, _), (_, _), (_, _), (_, _), (_, _)]) rfl | exact BindsTo.of_eq (binds := [(_, _), (_, _), (_, _), (_, _), (_, _), (_, _)]) rfl); (case c5q50 => decide); (case kBq50 => exact locs rfl); (case c2q50 => exact rfl); (case c3q50 => exact rfl); (case c4q50 => exact rfl); k_whole; intro g' L' h' FG' F' N' B' X' T' D'; (try dsimp only); (try k_fold))))
  (k_with "Exists" => (k_here; k_dflt (refine' kda_made_str ?e1q51 ?e2q51 ?e3q51 ?e4q51 ?e5q51 ?e6q51 ?_; (case e1q51 => k_asm); (case e2q51 => k_asm); (case e3q51 => exact Top.nolimit (by k_asm)); (case e4q51 => kernel_rfl); (case e5q51 => exact of_decide_eq_true (by kernel_rfl)); (case e6q51 => kernel_rfl)); intro h' o' F' N' l1 lo' hd'; (try k_lt l1)))
  (k_with "noteFrame ref" => (k_here; (with_reducible rename RX _ _ _ _ _ _ => rkX); obtain ⟨t', vs', R'⟩ := rkX; k_dflt (refine' caught_SO0 R' ?cFq52 ?cKq52 ?cUq52 ?cXBq52 ?cTBq52 ?cDq52 ?cT0q52 ?cexq52 ?cqq52 ?_ ?chq52 ?cxq52 ?cdq52 ?cEq52; (case cFq52 => k_asm); (case cKq52 => k_asm); (case cUq52 => k_asm); (case cXBq52 => k_asm); (case cTBq52 => k_asm); (case cDq52 => k_asm); (case cT0q52 => first | k_asm | exact KtsTurn.refl); (case cexq52 => k_is); (case cqq52 => kernel_rfl); (case chq52 => rfl); (case cxq52 => rfl); (case cdq52 => decide); (case cEq52 => passes_own)); intro h' g' n2' U' F' N2' G' N' B' X' T' D'; (clear N2' G'); (try k_sweep); (try dsimp only)))
  (k_with "c.bd" => first | assumption | exact bd_int (by walk_at "c.side") (by walk_at "c.side") | exact bd_add (by assumption) (by assumption) | exact bd_sub (by assumption) (by assumption) | exact bd_mul (by assumption) (by assumption) | exact bd_div (by assumption) (by assumption) | exact bd_dim (by assumption) (by assumption) | exact bd_abs (by assumption) (by assumption) | exact bd_sign (by assumption) (by assumption) | exact bd_pow (by assumption) (by assumption) | exact bd_max (by walk_at "c.bd") (by walk_at "c.bd") | exact bd_min (by walk_at "c.bd") (by walk_at "c.bd") | exact bd_mod (by walk_at "c.bd") (by walk_at "c.bd"))
  (k_with "c.iso" => first | exact isO_int | exact isO_opt)
  (k_with "l.use.r" => ((case cB => k_asm); (case cF => k_asm); (case cX => k_asm); (case cN => k_asm); (case cT => k_asm); (case ck => first | exact rfl | assumption); (case cXB => k_asm); (case cTB => k_asm); (case cD => k_asm); (case cd => walk_at "c.room"); (case cu => walk_at "c.units")))
  (k_with "l.back" => ((with_reducible rename Fr _ _ _ _ => oF); (with_reducible rename News _ _ _ _ => oN); (with_reducible rename Below _ _ _ _ => oB); (with_reducible rename Frag.In _ _ => oX); (with_reducible rename Top _ _ _ _ _ _ => oT); (with_reducible rename KtsDicts _ _ => oD); (with_reducible rename KtsTurn _ _ _ => oU); intro t' g' h' tk' U' F' N' B' X' T' D'; (have V' := KtsTurn.trans oU U'); clear oF oN oB oX oT oD oU U'; (try dsimp only); (try k_fold)))
  (k_with "l.begin" => (walk_at "l.enter"; (with_reducible rename Below _ _ _ _ => oB); (have V' := l_refl oB)))
  (k_with "compareOp NotEq" => (k_here; first
    | ((with_reducible show wpAny _ _ (compareOp CmpOp.NotEq (optV _ _) (optV _ _)) _ _ _); k_dflt (refine neV ?_))
    | ((with_reducible show wpAny _ _ (compareOp CmpOp.NotEq (optV _ _) (Value.int _ _)) _ _ _); k_dflt (refine neV (b := some _) ?_))
    | ((with_reducible show wpAny _ _ (compareOp CmpOp.NotEq (Value.int _ _) (optV _ _)) _ _ _); k_dflt (refine neV (a := some _) ?_))))
  (k_with "compareOp Eq" => (k_here; first
    | ((with_reducible show wpAny _ _ (compareOp CmpOp.Eq (optV _ _) (optV _ _)) _ _ _); k_dflt (refine eqV ?_))
    | ((with_reducible show wpAny _ _ (compareOp CmpOp.Eq (optV _ _) (Value.int _ _)) _ _ _); k_dflt (refine eqV (b := some _) ?_))
    | ((with_reducible show wpAny _ _ (compareOp CmpOp.Eq (Value.int _ _) (optV _ _)) _ _ _); k_dflt (refine eqV (a := some _) ?_))))
  (k_with "compareOp Is" => (k_here; (with_reducible show wpAny _ _ (compareOp CmpOp.Is (optV _ _) Value.none) _ _ _); k_dflt (refine isV ?_)))
  (k_with "compareOp IsNot" => (k_here; (with_reducible show wpAny _ _ (compareOp CmpOp.IsNot (optV _ _) Value.none) _ _ _); k_dflt (refine isNotV ?_)))
  (k_with "binaryOp Mult" => (k_here; (with_reducible show wpAny _ _ (binaryOp Operator.Mult (optV _ _) (Value.int _ _)) _ _ _); k_dflt (refine' mulV ?caq67 ?cbq67 ?_; (case caq67 => assumption); (case cbq67 => intro _; exact IntMulOk.of_right (PySem.intBits_le_64 (by l_fact) (by l_fact)))); intro z' hz'))
  (k_with "call builtin:abs" => (k_here; (with_reducible show wpAny _ _ (call (Value.builtin "abs") [optV _ _]) _ _ _); k_dflt (refine' absV ?caq68 ?_; (case caq68 => assumption)); intro z' hz' t' tk'))
  (k_with "call ref" => (k_here; (with_reducible show wpAny _ _ (call (Value.ref 412) [Value.str (PySem.Str.ofString "add") _, _, _, _]) _ _ _); k_call_by "l.use" (mk_add ?h1q69 ?h2q69 ?hl1q69 ?hl2q69 ?haq69 ?hbq69 ?baq69 ?bbq69); k_dflt ((case hl1q69 => k_dflt k_mem); (case hl2q69 => k_dflt k_mem); (case haq69 => walk_at "c.iso"); (case hbq69 => walk_at "c.iso"); (case h1q69 => walk_at "c.side"); (case h2q69 => walk_at "c.side"); (case baq69 => walk_at "c.bd"); (case bbq69 => walk_at "c.bd")); (case' cr => walk_at "l.back")))
  (k_with "call ref" => (k_here; (with_reducible show wpAny _ _ (call (Value.ref 412) [Value.str (PySem.Str.ofString "sub") _, _, _, _]) _ _ _); k_call_by "l.use" (mk_sub ?h1q70 ?h2q70 ?hl1q70 ?hl2q70 ?haq70 ?hbq70 ?baq70 ?bbq70); k_dflt ((case hl1q70 => k_dflt k_mem); (case hl2q70 => k_dflt k_mem); (case haq70 => walk_at "c.iso"); (case hbq70 => walk_at "c.iso"); (case h1q70 => walk_at "c.side"); (case h2q70 => walk_at "c.side"); (case baq70 => walk_at "c.bd"); (case bbq70 => walk_at "c.bd")); (case' cr => walk_at "l.back")))
  (k_with "call ref" => (k_here; (with_reducible show wpAny _ _ (call (Value.ref 412) [Value.str (PySem.Str.ofString "mul") _, _, _, _]) _ _ _); k_call_by "l.use" (mk_mul ?h1q71 ?h2q71 ?hl1q71 ?hl2q71 ?haq71 ?hbq71 ?baq71 ?bbq71); k_dflt ((case hl1q71 => k_dflt k_mem); (case hl2q71 => k_dflt k_mem); (case haq71 => walk_at "c.iso"); (case hbq71 => walk_at "c.iso"); (case h1q71 => walk_at "c.side"); (case h2q71 => walk_at "c.side"); (case baq71 => walk_at "c.bd"); (case bbq71 => walk_at "c.bd")); (case' cr => walk_at "l.back")))
  (k_with "call ref" => (k_here; (with_reducible show wpAny _ _ (call (Value.ref 412) [Value.str (PySem.Str.ofString "div") _, _, _, _]) _ _ _); k_call_by "l.use" (mk_div ?h1q72 ?h2q72 ?hl1q72 ?hl2q72 ?haq72 ?hbq72 ?baq72 ?bbq72); k_dflt ((case hl1q72 => k_dflt k_mem); (case hl2q72 => k_dflt k_mem); (case haq72 => walk_at "c.iso"); (case hbq72 => walk_at "c.iso"); (case h1q72 => walk_at "c.side"); (case h2q72 => walk_at "c.side"); (case baq72 => walk_at "c.bd"); (case bbq72 => walk_at "c.bd")); (case' cr => walk_at "l.back")))
  (k_with "call ref" => (k_here; (with_reducible show wpAny _ _ (call (Value.ref 412) [Value.str (PySem.Str.ofString "MOD") _, _, _, _]) _ _ _); k_call_by "l.use" (mk_mod ?h1q73 ?h2q73 ?hl1q73 ?hl2q73 ?haq73 ?hbq73 ?baq73 ?bbq73); k_dflt ((case hl1q73 => k_dflt k_mem); (case hl2q73 => k_dflt k_mem); (case haq73 => walk_at "c.iso"); (case hbq73 => walk_at "c.iso"); (case h1q73 => walk_at "c.side"); (case h2q73 => walk_at "c.side"); (case baq73 => walk_at "c.bd"); (case bbq73 => walk_at "c.bd")); (case' cr => walk_at "l.back")))
  (k_with "call ref" => (k_here; (with_reducible show wpAny _ _ (call (Value.ref 412) [Value.str (PySem.Str.ofString "MAX") _, _, _, _]) _ _ _); k_call_by "l.use" (mk_max ?h1q74 ?h2q74 ?hl1q74 ?hl2q74 ?haq74 ?hbq74 ?baq74 ?bbq74); k_dflt ((case hl1q74 => k_dflt k_mem); (case hl2q74 => k_dflt k_mem); (case haq74 => walk_at "c.iso"); (case hbq74 => walk_at "c.iso"); (case h1q74 => walk_at "c.side"); (case h2q74 => walk_at "c.side"); (case baq74 => walk_at "c.bd"); (case bbq74 => walk_at "c.bd")); (case' cr => walk_at "l.back")))
  (k_with "call ref" => (k_here; (with_reducible show wpAny _ _ (call (Value.ref 412) [Value.str (PySem.Str.ofString "MIN") _, _, _, _]) _ _ _); k_call_by "l.use" (mk_min ?h1q75 ?h2q75 ?hl1q75 ?hl2q75 ?haq75 ?hbq75 ?baq75 ?bbq75); k_dflt ((case hl1q75 => k_dflt k_mem); (case hl2q75 => k_dflt k_mem); (case haq75 => walk_at "c.iso"); (case hbq75 => walk_at "c.iso"); (case h1q75 => walk_at "c.side"); (case h2q75 => walk_at "c.side"); (case baq75 => walk_at "c.bd"); (case bbq75 => walk_at "c.bd")); (case' cr => walk_at "l.back")))
  (k_with "call ref" => (k_here; (with_reducible show wpAny _ _ (call (Value.ref 412) [Value.str (PySem.Str.ofString "DIM") _, _, _, _]) _ _ _); k_call_by "l.use" (mk_dim ?h1q76 ?h2q76 ?hl1q76 ?hl2q76 ?haq76 ?hbq76 ?baq76 ?bbq76); k_dflt ((case hl1q76 => k_dflt k_mem); (case hl2q76 => k_dflt k_mem); (case haq76 => walk_at "c.iso"); (case hbq76 => walk_at "c.iso"); (case h1q76 => walk_at "c.side"); (case h2q76 => walk_at "c.side"); (case baq76 => walk_at "c.bd"); (case bbq76 => walk_at "c.bd")); (case' cr => walk_at "l.back")))
  (k_with "call ref" => (k_here; (with_reducible show wpAny _ _ (call (Value.ref 412) [Value.str (PySem.Str.ofString "ABS") _, _, _, _]) _ _ _); k_call_by "l.use" (mk_abs ?h1q77 ?h2q77 ?hl1q77 ?hl2q77 ?haq77 ?hbq77 ?baq77 ?bbq77); k_dflt ((case hl1q77 => k_dflt k_mem); (case hl2q77 => k_dflt k_mem); (case haq77 => walk_at "c.iso"); (case hbq77 => walk_at "c.iso"); (case h1q77 => walk_at "c.side"); (case h2q77 => walk_at "c.side"); (case baq77 => walk_at "c.bd"); (case bbq77 => walk_at "c.bd")); (case' cr => walk_at "l.back")))
  (k_with "call ref" => (k_here; (with_reducible show wpAny _ _ (call (Value.ref 412) [Value.str (PySem.Str.ofString "SIGN") _, _, _, _]) _ _ _); k_call_by "l.use" (mk_sign ?h1q78 ?h2q78 ?hl1q78 ?hl2q78 ?haq78 ?hbq78 ?baq78 ?bbq78); k_dflt ((case hl1q78 => k_dflt k_mem); (case hl2q78 => k_dflt k_mem); (case haq78 => walk_at "c.iso"); (case hbq78 => walk_at "c.iso"); (case h1q78 => walk_at "c.side"); (case h2q78 => walk_at "c.side"); (case baq78 => walk_at "c.bd"); (case bbq78 => walk_at "c.bd")); (case' cr => walk_at "l.back")))
  (k_with "call ref" => (k_here; (with_reducible show wpAny _ _ (call (Value.ref 412) [Value.str (PySem.Str.ofString "pow") _, _, _, _]) _ _ _); k_call_by "l.use" (mki_pown ?h1q79 ?h2q79 ?hx1q79 ?hx2q79 ?hn0q79 ?hn1q79 ?hl1q79 ?hl2q79); k_dflt ((case hl1q79 => k_dflt k_mem); (case hl2q79 => k_dflt k_mem); (case h1q79 => walk_at "c.side"); (case h2q79 => walk_at "c.side"); (case hx1q79 => walk_at "c.side"); (case hx2q79 => walk_at "c.side"); (case hn0q79 => walk_at "c.side"); (case hn1q79 => walk_at "c.side")); (case' cr => walk_at "l.back")))
  (k_with "call ref" => (k_here; (with_reducible show wpAny _ _ (call (Value.ref 412) [Value.str (PySem.Str.ofString "pow") _, _, _, _]) _ _ _); k_call_by "l.use" (mk_pow ?h1q80 ?h2q80 ?hn1q80 ?hn2q80 ?hl1q80 ?hl2q80 ?haq80 ?baq80); k_dflt ((case hl1q80 => k_dflt k_mem); (case hl2q80 => k_dflt k_mem); (case haq80 => walk_at "c.iso"); (case h1q80 => walk_at "c.side"); (case h2q80 => walk_at "c.side"); (case hn1q80 => walk_at "c.side"); (case hn2q80 => walk_at "c.side"); (case baq80 => walk_at "c.bd")); (case' cr => walk_at "l.back")))
  (k_with "call ref" => (k_here; (with_reducible show wpAny _ _ (call (Value.ref 412) [Value.str (PySem.Str.ofString "powi") _, _, _, _]) _ _ _); k_call_by "l.use" (mk_powi ?h1q81 ?h2q81 ?hn1q81 ?hn2q81 ?hl1q81 ?hl2q81 ?haq81 ?baq81); k_dflt ((case hl1q81 => k_dflt k_mem); (case hl2q81 => k_dflt k_mem); (case haq81 => walk_at "c.iso"); (case h1q81 => walk_at "c.side"); (case h2q81 => walk_at "c.side"); (case hn1q81 => walk_at "c.side"); (case hn2q81 => walk_at "c.side"); (case baq81 => walk_at "c.bd")); (case' cr => walk_at "l.back")))
  (k_with "call ref" => (k_here; (with_reducible show wpAny _ _ (call (Value.ref 412) [Value.str (PySem.Str.ofString "lt") _, _, _, _]) _ _ _); k_call_by "l.use" (mki_lt ?h1q82 ?h2q82 ?hx1q82 ?hx2q82 ?hy1q82 ?hy2q82 ?hl1q82 ?hl2q82); k_dflt ((case hl1q82 => k_dflt k_mem); (case hl2q82 => k_dflt k_mem); (case h1q82 => walk_at "c.side"); (case h2q82 => walk_at "c.side"); (case hx1q82 => walk_at "c.side"); (case hx2q82 => walk_at "c.side"); (case hy1q82 => walk_at "c.side"); (case hy2q82 => walk_at "c.side")); (case' cr => walk_at "l.back")))
  (k_with "call ref" => (k_here; (with_reducible show wpAny _ _ (call (Value.ref 412) [Value.str (PySem.Str.ofString "ge") _, _, _, _]) _ _ _); k_call_by "l.use" (mki_ge ?h1q83 ?h2q83 ?hx1q83 ?hx2q83 ?hy1q83 ?hy2q83 ?hl1q83 ?hl2q83); k_dflt ((case hl1q83 => k_dflt k_mem); (case hl2q83 => k_dflt k_mem); (case h1q83 => walk_at "c.side"); (case h2q83 => walk_at "c.side"); (case hx1q83 => walk_at "c.side"); (case hx2q83 => walk_at "c.side"); (case hy1q83 => walk_at "c.side"); (case hy2q83 => walk_at "c.side")); (case' cr => walk_at "l.back")))
  trivial
section
noncomputable def nd : Nat → Nat
  | 0 => 0
  | n + 1 => nd ((n + 1) / 10) + 1
theorem nd_pos {n : Nat} (h : 0 < n) : nd n = nd (n / 10) + 1 := by
  cases n with
  | zero => omega
  | succ n => rw [nd]
theorem nd_ten : ∀ {k n : Nat}, 10 ^ k ≤ n → nd n = nd (n / 10 ^ k) + k
  | 0, n, _ => by rw [Nat.pow_zero, Nat.div_one, Nat.add_zero]
  | k + 1, n, h => by
    have h0 : 0 < n := Nat.lt_of_lt_of_le (Nat.pow_pos (by decide)) h
    have h1 : 10 ^ k ≤ n / 10 := (Nat.le_div_iff_mul_le (by decide)).mpr (by rwa [Nat.pow_succ] at h)
    rw [nd_pos h0, nd_ten h1, Nat.div_div_eq_div_mul, Nat.pow_succ, Nat.mul_comm 10, Nat.add_assoc]
theorem nd_nine {n : Nat} (h : 1000000000 ≤ n) : nd n = nd (n / 1000000000) + 9 := nd_ten (k := 9) h
def CdP (n₀ : Nat) (c : Int × Int × Tok × Tok) : Prop := 0 ≤ c.1 ∧ ((nd c.1.toNat : Nat) : Int) + c.2.1 = nd n₀
theorem cd_nine {n₀ : Nat} {a c : Int} {t u t' u' : Tok} (h : CdP n₀ (a, c, t, u)) (ha : 1000000000 ≤ a) : CdP n₀ (Int.fdiv a 1000000000, c + 9, t', u') := by
  obtain ⟨h1, h2⟩ := h
  dsimp only at h1 h2
  have e : Int.fdiv a 1000000000 = ((a.toNat / 1000000000 : Nat) : Int) := by
    rw [Int.fdiv_eq_ediv_of_nonneg _ (by omega)]; omega
  refine ⟨?_, ?_⟩
  · dsimp only; rw [e]; omega
  · dsimp only
    have := nd_nine (n := a.toNat) (by omega)
    rw [e, Int.toNat_natCast]; omega
theorem cd_one {n₀ : Nat} {a c : Int} {t u t' u' : Tok} (h : CdP n₀ (a, c, t, u)) (ha : 0 < a) : CdP n₀ (Int.fdiv a 10, c + 1, t', u') := by
  obtain ⟨h1, h2⟩ := h
  dsimp only at h1 h2
  have e : Int.fdiv a 10 = ((a.toNat / 10 : Nat) : Int) := by
    rw [Int.fdiv_eq_ediv_of_nonneg _ (by omega)]; omega
  refine ⟨?_, ?_⟩
  · dsimp only; rw [e]; omega
  · dsimp only
    have := nd_pos (n := a.toNat) (by omega)
    rw [e, Int.toNat_natCast]; omega
theorem cd_start {n : Int} {t u : Tok} : CdP n.natAbs ((n.natAbs : Int), 0, t, u) := ⟨by dsimp only; omega, by dsimp only; rw [Int.toNat_natCast]; omega⟩
theorem cd_end {n₀ : Nat} {a c : Int} {t u : Tok} (h : CdP n₀ (a, c, t, u)) (ha : ¬ 0 < a) : c = nd n₀ := by
  obtain ⟨h1, h2⟩ := h
  dsimp only at h1 h2
  have : a.toNat = 0 := by omega
  rw [this] at h2
  simp only [nd] at h2
  omega
theorem cd_m9 {a : Int} (h : 1000000000 ≤ a) : (Int.fdiv a 1000000000).toNat < a.toNat := by
  rw [Int.fdiv_eq_ediv_of_nonneg _ (by omega)]; omega
theorem cd_m1 {a : Int} (h : 0 < a) : (Int.fdiv a 10).toNat < a.toNat := by
  rw [Int.fdiv_eq_ediv_of_nonneg _ (by omega)]; omega
theorem ln32 : True := by
  (k_with "exec While Compare cons nil" => (k_here; (with_reducible rename Fr _ _ _ _ => lF'); (with_reducible rename News _ _ _ _ => lN'); k_dflt (refine' ksw_while (σ := Int × Int × Tok × Tok) (fun _ => _) (fun c => [(Str.ofString "n", .int c.1 c.2.2.1), (Str.ofString "count", .int c.2.1 c.2.2.2)]) (fun _ => True) [] (CdP _) (fun c => c.1.toNat) (_, _, _, _) lF' lN' trivial ?kkq92 ?kpq92 ?_ ?hEq92; (case kkq92 => kst_all); (case kpq92 => first | exact cd_start | assumption); (case hEq92 => first | passes_own | with_unfolding_all passes_own)); clear lF' lN'; rintro ⟨a', c', t', u'⟩ kU' h' tk' - hI' F' N'; (try dsimp only [kstB] at F'); (try dsimp only); (try k_fold)))
  (k_with "KswEnd" => (k_dflt (refine' ksw_end (_, _, _, _) ?kFq93 ?kNq93 (fun _ h => h) trivial ?kkq93 ?krq93 ?kpq93 ?kmq93; (case kFq93 => assumption); (case kNq93 => assumption); (case kkq93 => kst_all); (case krq93 => ksw_same); (case kpq93 => first | exact cd_nine (by assumption) (by assumption) | exact cd_one (by assumption) (by assumption)); (case kmq93 => first | exact cd_m9 (by assumption) | exact cd_m1 (by assumption)))))
  trivial
theorem count_digits_c {w : World} {news : List (Addr × Obj)} {n : Int} {t : Tok} :
    Ct 5 w 153 [.int n t] news (fun t => .int (nd n.natAbs) t) False := by
  intro mean mg mb dp un gd cn cs a ccd outer A₀ base h₀ L m s Q E B F X N T hk hd hu hret hexn
  walk_at "c.enter"
  k_steps
  (refine' retI ?e (hret _ _ _ ?_ ?c1 ?c2); (case c1 => k_asm); (case c2 => k_asm))
  case e => exact cd_end (by assumption) (by assumption)
  exact id
end
abbrev tupO (m e : Int) (t u : Tok) : Obj := { cls := .type "tuple", data := .seq [Value.int m t, .int e u].toArray }
def IsT (l : List (Addr × Obj)) (a : Addr) (m e : Int) : Prop := (a = 146 ∧ m = 0 ∧ e = 0) ∨ ∃ t u, (a, tupO m e t u) ∈ l
theorem IsT.mono {l l' : List (Addr × Obj)} {a : Addr} {m e : Int} (h : IsT l a m e) (hs : ∀ p ∈ l, p ∈ l') : IsT l' a m e := by
  rcases h with h | ⟨t, u, h⟩
  · exact .inl h
  · exact .inr ⟨t, u, hs _ h⟩
theorem IsT.new {l : List (Addr × Obj)} {a : Addr} {m e : Int} {t u : Tok} (h : (a, tupO m e t u) ∈ l) : IsT l a m e := .inr ⟨t, u, h⟩
theorem IsT.nought {l : List (Addr × Obj)} : IsT l 146 0 0 := .inl ⟨rfl, rfl, rfl⟩
theorem lk146 (P : Params) : (tp.heap_1 P).lookup 146 = some (tupO 0 0 403 404) := by kernel_rfl
theorem IsT.is {w : World} {h h₀ : Heap} {L a : Addr} {f : Str → Option Value} {news : List (Addr × Obj)} {m e : Int} (H : IsT news a m e) (F : Fr h₀ L h f) (X : (tp.heap_1 w.params).In h₀) (N : News h₀ L h news) :
    ∃ t u, h.IsTuple a #[.int m t, .int e u] := by
  rcases H with ⟨rfl, rfl, rfl⟩ | ⟨t, u, H⟩
  · exact ⟨403, 404, _, (X.keeps F.keep) 146 _ (lk146 _), rfl, 0, rfl⟩
  · exact ⟨t, u, _, N.get H, rfl, 0, rfl⟩
section
variable {prog : Program} {w : World} {A : Around} {E : Value → Shared → Prop} {s : Shared} {h₀ : Heap} {L a b : Addr} {f : Str → Option Value} {news : List (Addr × Obj)} {m e m2 e2 : Int} {value slice : PySem.Expr}
theorem tup_item0 {u : Tok} {Q : Value → Shared → Prop} (F : Fr h₀ L s.heap f) (X : (tp.heap_1 w.params).In h₀) (N : News h₀ L s.heap news) (H : IsT news a m e) (h : ∀ t, Q (.int m t) s)
    (hs : subscripted slice false (.ref a) (.int 0 u) = operate [.ref a, .int 0 u] (getItem (.ref a) (.int 0 u))) :
    wpAny (model prog w) A (subscriptTail value slice (.ref a) (.int 0 u)) Q E s := by
  obtain ⟨t, v, ht⟩ := H.is F X N
  exact tail_any ht.typeIs PySem.F.slot_tuple_getitem.lookup (getItem_tuple ht (by decide) (by decide) (seqIndex_of (by decide) (by show (0 : Int) < ((2 : Nat) : Int); decide)) (by rfl) (h t)) hs
theorem tup_item1 {u : Tok} {Q : Value → Shared → Prop} (F : Fr h₀ L s.heap f) (X : (tp.heap_1 w.params).In h₀) (N : News h₀ L s.heap news) (H : IsT news a m e) (h : ∀ t, Q (.int e t) s)
    (hs : subscripted slice false (.ref a) (.int 1 u) = operate [.ref a, .int 1 u] (getItem (.ref a) (.int 1 u))) :
    wpAny (model prog w) A (subscriptTail value slice (.ref a) (.int 1 u)) Q E s := by
  obtain ⟨t, v, ht⟩ := H.is F X N
  exact tail_any ht.typeIs PySem.F.slot_tuple_getitem.lookup (getItem_tuple ht (by decide) (by decide) (seqIndex_of (by decide) (by show (1 : Int) < ((2 : Nat) : Int); decide)) (by rfl) (h v)) hs
theorem tup_assign {env : Env} {elts : List Expr} {k} {pos : Pos} {Q : Unit → Shared → Prop} (hh : A.handled = none) (F : Fr h₀ L s.heap f) (X : (tp.heap_1 w.params).In h₀) (N : News h₀ L s.heap news) (H : IsT news a m e)
    (hn : (assignEach elts env).length = 2) (hstar : (assignEach elts env).findIdx? (·.1) = none)
    (h : ∀ t u h', Fr h₀ L h' f → News h₀ L h' news → wpAny (model prog w) A (assignInOrder ((assignEach elts env).map (·.2)) [.int m t, .int e u]) Q E { s with heap := h' }) :
    wpAny (model prog w) A (assign (.Tuple elts k pos) env (.ref a)) Q E s := by
  obtain ⟨t, u, ht⟩ := H.is F X N
  exact wpAny_assign_Tuple hh ht hn hstar fun h' he => h t u h' (F.extBut he (Nat.le_refl _)) (N.extBut he (Nat.le_refl _))
theorem tup_ne {Q : Value → Shared → Prop} (F : Fr h₀ L s.heap f) (X : (tp.heap_1 w.params).In h₀) (N : News h₀ L s.heap news) (H : IsT news a m e) (H2 : IsT news b m2 e2) (hu : A.units < cLine) (h1 : m = m2) (h2 : e = e2) (h : Q (.bool false) s) :
    wpAny (model prog w) A (compareOp .NotEq (.ref a) (.ref b)) Q E s := by
  subst h1 h2
  obtain ⟨t, u, ht⟩ := H.is F X N
  obtain ⟨t2, u2, ht2⟩ := H2.is F X N
  refine PySem.SeqAt.RcNeAt.tuples (e := fun _ => true) ht ht2 hu (fun j h1 h2 => ?_) prog w E Q h
  match j, h1 with
  | 0, _ => simpa using PySem.SeqAt.EqAt.int_int m t m t2
  | 1, _ => simpa using PySem.SeqAt.EqAt.int_int e u e u2
theorem tup_eq {Q : Value → Shared → Prop} (F : Fr h₀ L s.heap f) (X : (tp.heap_1 w.params).In h₀) (N : News h₀ L s.heap news) (H : IsT news a m e) (H2 : IsT news b m2 e2) (hu : A.units < cLine) (h1 : m = m2) (h2 : e = e2) (h : Q (.bool true) s) :
    wpAny (model prog w) A (compareOp .Eq (.ref a) (.ref b)) Q E s := by
  subst h1 h2
  obtain ⟨t, u, ht⟩ := H.is F X N
  obtain ⟨t2, u2, ht2⟩ := H2.is F X N
  refine PySem.SeqAt.RcAt.tuples (e := fun _ => true) ht ht2 hu (fun j h1 h2 => ?_) prog w E Q h
  match j, h1 with
  | 0, _ => simpa using PySem.SeqAt.EqAt.int_int m t m t2
  | 1, _ => simpa using PySem.SeqAt.EqAt.int_int e u e u2
end
/-- a call that hands back a pair of ints, m and e with P m e; it does not raise -/
abbrev CtT (D : Nat) (w : World) (f : Addr) (vs : List Value) (news : List (Addr × Obj)) (P : Int → Int → Prop) : Prop :=
  ∀ (mean : ExcName → Option Value) (mg mb : Str → Option Value) (dp un : Nat) (gd : Option (List Code)) (cn : Str) (cs : Scope) (a : Addr) (ccd : Value) (outer : List Env) (A₀ : Around) (base h₀ : Heap) (L : Addr) (m : Str → Option Value) (s : Shared) (Q E : Value → Shared → Prop),
    Below A₀ base outer h₀ → Fr h₀ L s.heap m → (tp.heap_1 w.params).In h₀ → News h₀ L s.heap news → Top tp.vw (looseW tp.vw []) mean mg mb h₀ → cs.kind = .function →
    dp + D < recursionLimit → un + 10 * D < cLine →
    (∀ b z e news' h' tk', P z e → IsT news' b z e → (∀ p ∈ news, p ∈ news') → Fr h₀ L h' m → News h₀ L h' news' → Q (.ref b) { s with heap := h', toks := tk' }) →
    wpAny (model Challenge.rw_sa0216_01.row.prog w) (cTop dp un gd cn cs L a ccd outer) (call (.ref f) vs) Q E s
local macro_rules | `(tactic| k_mem) => `(tactic| first | assumption | exact List.Mem.head _ | (refine List.mem_cons_of_mem _ ?_; k_mem) | (refine' (?hs9 : ∀ p : Addr × Obj, p ∈ (_ : List (Addr × Obj)) → p ∈ (_ : List (Addr × Obj))) _ ?hm9; (case hs9 => assumption); (case hm9 => k_mem)))
theorem ln33 : True := by
  (k_with "t.sub" => first | assumption | exact fun _ hp => hp | (intro p hp; k_mem))
  (k_with "t.is" => first | assumption | exact IsT.nought | k_dflt (exact IsT.new (by k_mem)) | (refine' IsT.mono (by assumption) ?hzq95; (case hzq95 => walk_at "t.sub")))
  (k_with "t.use.r" => ((case cB => k_asm); (case cF => k_asm); (case cX => k_asm); (case cN => k_asm); (case cT => k_asm); (case ck => first | exact rfl | assumption); (case cd => walk_at "c.room"); (case cu => walk_at "c.units")))
  trivial
local macro_rules | `(tactic| k_call_by "t.use" $t:term) => `(tactic| (k_dflt (refine' $t _ _ _ _ _ _ _ _ _ _ _ _ _ _ _ _ _ _ _ ?cB ?cF ?cX ?cN ?cT ?ck ?cd ?cu ?cr; walk_at "t.use.r")))
theorem ln34 : True := by
  (k_with "t.back" => (case' cr => (intro b' z' e' n' h' tk' hP' hT' hS' F' N'; (try k_sweep); (try dsimp only); (try k_fold))))
  (k_with "subscriptTail" => (k_here; first
    | ((with_reducible show wpAny _ _ (subscriptTail _ _ (Value.ref _) (Value.int 0 _)) _ _ _); k_dflt (refine' tup_item0 ?cFq97 ?cXq97 ?cNq97 ?cHq97 ?_ ?csq97; (case cFq97 => k_asm); (case cXq97 => k_asm); (case cNq97 => k_asm); (case cHq97 => walk_at "t.is"); (case csq97 => with_unfolding_all rfl)); intro t')
    | ((with_reducible show wpAny _ _ (subscriptTail _ _ (Value.ref _) (Value.int 1 _)) _ _ _); k_dflt (refine' tup_item1 ?cFq97 ?cXq97 ?cNq97 ?cHq97 ?_ ?csq97; (case cFq97 => k_asm); (case cXq97 => k_asm); (case cNq97 => k_asm); (case cHq97 => walk_at "t.is"); (case csq97 => with_unfolding_all rfl)); intro t')))
  (k_with "assign Tuple" => (k_here; k_dflt (refine' tup_assign ?chq98 ?cFq98 ?cXq98 ?cNq98 ?cHq98 ?cnq98 ?csq98 ?_; (case chq98 => exact rfl); (case cFq98 => k_asm); (case cXq98 => k_asm); (case cNq98 => k_asm); (case cHq98 => walk_at "t.is"); (case cnq98 => exact rfl); (case csq98 => exact rfl)); intro t' u' h' F' N'; (try k_sweep)))
  trivial
theorem ln35 : True := by
  (k_with "t.is" => first | assumption | exact IsT.nought | (refine' IsT.mono (by assumption) ?hzq99; (case hzq99 => walk_at "t.sub")) | k_dflt (exact IsT.new (by k_mem)))
  trivial
section
def StP (m₀ e₀ : Int) (c : Int × Int × Tok × Tok) : Prop := c.1 ≠ 0 ∧ ∃ k : Nat, c.2.1 = e₀ + k ∧ c.1 * 10 ^ k = m₀
def St (m e m' e' : Int) : Prop := (m = 0 ∧ m' = 0 ∧ e' = 0) ∨ (m ≠ 0 ∧ m' % 10 ≠ 0 ∧ ∃ k : Nat, e' = e + k ∧ m' * 10 ^ k = m)
theorem fmod10 (m : Int) : Int.fmod m 10 = m % 10 := Int.fmod_eq_emod_of_nonneg m (by decide)
theorem fdiv10 (m : Int) : Int.fdiv m 10 = m / 10 := Int.fdiv_eq_ediv_of_nonneg m (by decide)
theorem stp_start {m e : Int} {t u : Tok} (h : ¬ m = 0) : StP m e (m, e, t, u) := ⟨h, 0, by dsimp only; omega, by dsimp only; omega⟩
theorem stp_step {m₀ e₀ m e : Int} {t u t' u' : Tok} (h : StP m₀ e₀ (m, e, t, u)) (hm : Int.fmod m 10 = 0) : StP m₀ e₀ (Int.fdiv m 10, e + 1, t', u') := by
  obtain ⟨h1, k, h2, h3⟩ := h
  dsimp only at h1 h2 h3
  rw [fmod10] at hm
  have e1 : m = m / 10 * 10 := by omega
  refine ⟨by dsimp only; rw [fdiv10]; omega, k + 1, by dsimp only; omega, ?_⟩
  dsimp only
  rw [fdiv10, ← h3, Int.pow_succ, Int.mul_comm (10 ^ k) 10, ← Int.mul_assoc, ← e1]
theorem stp_less {m : Int} (h0 : m ≠ 0) (hm : Int.fmod m 10 = 0) : (Int.fdiv m 10).natAbs < m.natAbs := by
  rw [fmod10] at hm
  rw [fdiv10]; omega
theorem stp_ne {m₀ e₀ : Int} {c : Int × Int × Tok × Tok} (h : StP m₀ e₀ c) : c.1 ≠ 0 := h.1
theorem stp_end {m₀ e₀ m e : Int} {t u : Tok} (h0 : ¬ m₀ = 0) (h : StP m₀ e₀ (m, e, t, u)) (hm : ¬ Int.fmod m 10 = 0) : St m₀ e₀ m e := by
  obtain ⟨_, k, h2, h3⟩ := h
  rw [fmod10] at hm
  exact .inr ⟨h0, hm, k, h2, h3⟩
theorem st_zero {m e : Int} (h : m = 0) : St m e 0 0 := .inl ⟨h, rfl, rfl⟩
theorem ln36 : True := by
  (k_with "exec While Compare cons nil" => (k_here; (with_reducible rename Fr _ _ _ _ => lF'); (with_reducible rename News _ _ _ _ => lN'); k_dflt (refine' ksw_while (σ := Int × Int × Tok × Tok) (fun _ => _) (fun c => [(Str.ofString "m", .int c.1 c.2.2.1), (Str.ofString "e", .int c.2.1 c.2.2.2)]) (fun _ => True) [] (StP _ _) (fun c => c.1.natAbs) (_, _, _, _) lF' lN' trivial ?kkq100 ?kpq100 ?_ ?hEq100; (case kkq100 => kst_all); (case kpq100 => exact stp_start (by assumption)); (case hEq100 => first | passes_own | with_unfolding_all passes_own)); clear lF' lN'; rintro ⟨a', c', t', u'⟩ kU' h' tk' - hI' F' N'; (try dsimp only [kstB] at F'); (try dsimp only); (try k_fold)))
  (k_with "KswEnd" => (k_dflt (refine' ksw_end (_, _, _, _) ?kFq101 ?kNq101 (fun _ h => h) trivial ?kkq101 ?krq101 ?kpq101 ?kmq101; (case kFq101 => assumption); (case kNq101 => assumption); (case kkq101 => kst_all); (case krq101 => ksw_same); (case kpq101 => exact stp_step (by assumption) (by assumption)); (case kmq101 => exact stp_less (stp_ne (by assumption)) (by assumption)))))
  trivial
theorem strip_zeros_c {w : World} {news : List (Addr × Obj)} {x y : Int} {t u : Tok} :
    CtT 5 w 160 [.int x t, .int y u] news (St x y) := by
  intro mean mg mb dp un gd cn cs a ccd outer A₀ base h₀ L m s Q E B F X N T hk hd hu hret
  walk_at "c.enter"
  k_steps
  all_goals ((refine' hret _ _ _ _ _ _ ?_ ?c1 ?c2 ?c3 ?c4; (case c3 => k_asm); (case c4 => k_asm); (case c1 => walk_at "t.is"); (case c2 => walk_at "t.sub")); first | exact st_zero (by assumption) | exact stp_end (by assumption) (by assumption) (by assumption))
end
theorem divmod_g {prog : Program} {w : World} {A : Around} {E : Value → Shared → Prop} {s : Shared} {a b : Int} {t u : Tok} {Q : Value → Shared → Prop} {h₀ : Heap} {L : Addr} {m : Str → Option Value} {news : List (Addr × Obj)} {x y : Nat}
    (F : Fr h₀ L s.heap m) (N : News h₀ L s.heap news) (e1 : a = (x : Int)) (e2 : b = (y : Int)) (hy : 0 < y) (hl : y < 2 ^ 400)
    (h : ∀ D h' t u tk, Fr h₀ L h' m → News h₀ L h' ((D, tupO ((x / y : Nat) : Int) ((x % y : Nat) : Int) t u) :: news) → Q (.ref D) { s with heap := h', toks := tk }) :
    wpAny (model prog w) A (call (.builtin "divmod") [.int a t, .int b u]) Q E s := by
  subst e1 e2
  refine divmod_N F N (by omega) (fun h' F' N' => ?_) (Or.inl (PyProof.noPylong_of_log2 ?_))
  · have e1 : Int.fdiv (x : Int) (y : Int) = ((x / y : Nat) : Int) := by rw [Int.fdiv_eq_ediv_of_nonneg _ (by omega)]; simp
    have e2 : Int.fmod (x : Int) (y : Int) = ((x % y : Nat) : Int) := by rw [Int.fmod_eq_emod_of_nonneg _ (by omega)]; simp
    rw [e1, e2] at N'
    exact h _ _ _ _ _ F' N'
  · rw [Int.natAbs_natCast]
    exact Nat.lt_of_lt_of_le ((Nat.log2_lt (by omega)).mpr hl) (by decide)
theorem ten_nat {k : Nat} : (10 : Int) ^ k = ((10 ^ k : Nat) : Int) := (Int.natCast_pow 10 k).symm
theorem ten_pos {k : Nat} : 0 < (10 : Nat) ^ k := Nat.pow_pos (by decide)
theorem ten_small {k : Nat} (h : k ≤ 100) : (10 : Nat) ^ k < 2 ^ 400 := Nat.lt_of_le_of_lt (Nat.pow_le_pow_right (by decide) h) (by decide)
theorem ten_gt (k : Nat) : (0 : Int) < 10 ^ k := by rw [ten_nat]; have := ten_pos (k := k); omega
theorem ten_ne (k : Nat) : (10 : Int) ^ k ≠ 0 := by have := ten_gt k; omega
theorem ten_log {k : Nat} (h : k ≤ 100) : ((10 : Int) ^ k).natAbs.log2 < 9000 := by
  rw [ten_nat, Int.natAbs_natCast]
  exact Nat.lt_of_lt_of_le ((Nat.log2_lt (by have := ten_pos (k := k); omega)).mpr (ten_small h)) (by decide)
theorem mul_ten_ok {m : Int} {k : Nat} (hk : k ≤ 19) : IntMulOk m (10 ^ k) := by
  refine IntMulOk.of_right (PySem.intBits_le_64 ?_ ?_) <;> rw [ten_nat] <;> have h1 := Nat.pow_le_pow_right (n := 10) (by decide) hk <;> have h2 := ten_pos (k := k) <;> omega
theorem mul_ten_nat (a k : Nat) : (a : Int) * 10 ^ k = ((a * 10 ^ k : Nat) : Int) := by rw [ten_nat, Int.natCast_mul]
theorem nd_le : ∀ {k n : Nat}, n < 10 ^ k → nd n ≤ k
  | 0, n, h => by
    have : n = 0 := by simpa using h
    subst this; simp [nd]
  | k + 1, n, h => by
    by_cases h0 : n = 0
    · subst h0; simp [nd]
    · rw [nd_pos (by omega)]
      have : nd (n / 10) ≤ k := nd_le (by rw [Nat.pow_succ] at h; omega)
      omega
theorem nd_ge : ∀ {k n : Nat}, nd n ≤ k → n < 10 ^ k
  | 0, n, h => by
    by_cases h0 : n = 0
    · subst h0; simp
    · rw [nd_pos (by omega)] at h; omega
  | k + 1, n, h => by
    by_cases h0 : n = 0
    · subst h0; exact Nat.pow_pos (by decide)
    · rw [nd_pos (by omega)] at h
      have := nd_ge (k := k) (n := n / 10) (by omega)
      rw [Nat.pow_succ]; omega
def Rd (m e m' e' : Int) : Prop := (nd m.natAbs ≤ 15 ∧ St m e m' e') ∨ ∃ d : Nat, 0 < d ∧ nd m.natAbs = 15 + d ∧ ∃ k : Nat, (k = m.natAbs / 10 ^ d ∨ (k = m.natAbs / 10 ^ d + 1 ∧ 10 ^ d ≤ 2 * (m.natAbs % 10 ^ d))) ∧ St (if 0 < m then (k : Int) else -(k : Int)) (e + d) m' e'
theorem rd_no {x y z e : Int} (h0 : ¬ 0 < ((nd x.natAbs : Nat) : Int) - 15) (hP : St x y z e) : Rd x y z e := .inl ⟨by omega, hP⟩
theorem rd_dn {x y K z e : Int} (h0 : 0 < ((nd x.natAbs : Nat) : Int) - 15) (hP : St K (y + (((nd x.natAbs : Nat) : Int) - 15)) z e)
    (hK : (0 < x ∧ K = ((x.natAbs / 10 ^ (((nd x.natAbs : Nat) : Int) - 15).toNat : Nat) : Int)) ∨ (¬ 0 < x ∧ K = -((x.natAbs / 10 ^ (((nd x.natAbs : Nat) : Int) - 15).toNat : Nat) : Int))) : Rd x y z e := by
  refine .inr ⟨(((nd x.natAbs : Nat) : Int) - 15).toNat, by omega, by omega, _, .inl rfl, ?_⟩
  rw [show (((((nd x.natAbs : Nat) : Int) - 15).toNat : Nat) : Int) = ((nd x.natAbs : Nat) : Int) - 15 by omega]
  rcases hK with ⟨h, rfl⟩ | ⟨h, rfl⟩
  · rw [if_pos h]; exact hP
  · rw [if_neg h]; exact hP
theorem rd_up {x y K z e : Int} (h0 : 0 < ((nd x.natAbs : Nat) : Int) - 15) (hP : St K (y + (((nd x.natAbs : Nat) : Int) - 15)) z e)
    (h1 : (10 : Int) ^ (((nd x.natAbs : Nat) : Int) - 15).toNat ≤ 2 * ((x.natAbs % 10 ^ (((nd x.natAbs : Nat) : Int) - 15).toNat : Nat) : Int))
    (hK : (0 < x ∧ K = ((x.natAbs / 10 ^ (((nd x.natAbs : Nat) : Int) - 15).toNat : Nat) : Int) + 1) ∨ (¬ 0 < x ∧ K = -(((x.natAbs / 10 ^ (((nd x.natAbs : Nat) : Int) - 15).toNat : Nat) : Int) + 1))) : Rd x y z e := by
  have e1 : (10 : Int) ^ (((nd x.natAbs : Nat) : Int) - 15).toNat = ((10 ^ (((nd x.natAbs : Nat) : Int) - 15).toNat : Nat) : Int) := (Int.natCast_pow 10 _).symm
  rw [e1] at h1
  refine .inr ⟨(((nd x.natAbs : Nat) : Int) - 15).toNat, by omega, by omega, _, .inr ⟨rfl, by omega⟩, ?_⟩
  rw [show (((((nd x.natAbs : Nat) : Int) - 15).toNat : Nat) : Int) = ((nd x.natAbs : Nat) : Int) - 15 by omega]
  rcases hK with ⟨h, rfl⟩ | ⟨h, rfl⟩
  · rw [if_pos h]; exact hP
  · rw [if_neg h]; exact hP
theorem st_z {m e z e' : Int} (h : St m e z e') (hz : z = 0) : e' = 0 := by
  rcases h with ⟨_, _, h⟩ | ⟨_, h, _⟩
  · exact h
  · subst hz; simp at h
theorem rd_z {x y z e : Int} (h : Rd x y z e) (hz : z = 0) : Rd x y 0 0 := by
  subst hz
  have : e = 0 := by
    rcases h with ⟨_, h⟩ | ⟨_, _, _, _, _, h⟩
    · exact st_z h rfl
    · exact st_z h rfl
  subst this
  exact h
theorem ln37 : True := by
  (k_with "call builtin:divmod" => (k_here; k_dflt (refine' divmod_g ?cFq102 ?cNq102 ?e1q102 ?e2q102 ?eyq102 ?elq102 ?_; (case cFq102 => k_asm); (case cNq102 => k_asm); (case e1q102 => first | exact rfl | exact mul_ten_nat _ _); (case e2q102 => first | exact rfl | exact ten_nat); (case eyq102 => first | exact ten_pos | walk_at "c.num"); (case elq102 => first | exact ten_small (by walk_at "c.num") | walk_at "c.num")); intro D' h' t' u' tk' F' N'; (try k_sweep)))
  (k_with "c.ne" => first | assumption | decide | omega | exact ten_ne _)
  (k_with "c.py" => first | assumption | (rw [Int.natAbs_natCast]; assumption) | decide | exact log2_40 (by assumption) (by assumption) | exact ten_log (by walk_at "c.num"))
  (k_with "binaryOp Mult int int" => (k_here; (with_reducible show wpAny _ _ (binaryOp _ (Value.int _ _) (Value.int (10 ^ _) _)) _ _ _); k_dflt (refine' PyProof.Rows.mul_int ?_ ?ckq105; (case ckq105 => exact mul_ten_ok (by walk_at "c.num")))))
  trivial
section
theorem ln38 : True := by
  (k_with "call ref" => (k_here; (with_reducible show wpAny _ _ (call (Value.ref 153) _) _ _ _); k_call_by "c.use" (count_digits_c ); walk_at "c.back"))
  (k_with "call ref" => (k_here; (with_reducible show wpAny _ _ (call (Value.ref 160) _) _ _ _); k_call_by "t.use" (strip_zeros_c ); walk_at "t.back"))
  trivial
theorem round_digits_c {w : World} {news : List (Addr × Obj)} {x y : Int} {t u v : Tok} (hx : nd x.natAbs ≤ 40) :
    CtT 12 w 167 [.int x t, .int y u, .int 15 v] news (Rd x y) := by
  intro mean mg mb dp un gd cn cs a ccd outer A₀ base h₀ L m s Q E B F X N T hk hd hu hret
  walk_at "c.enter"
  k_steps
  all_goals ((refine' hret _ _ _ _ _ _ ?_ ?c1 ?c2 ?c3 ?c4; (case c3 => k_asm); (case c4 => k_asm); (case c1 => walk_at "t.is"); (case c2 => walk_at "t.sub")); first
    | exact rd_no (by assumption) (by assumption)
    | exact rd_up (by assumption) (by assumption) (Int.le_of_lt (by assumption)) (.inl ⟨by assumption, rfl⟩)
    | exact rd_up (by assumption) (by assumption) (Int.le_of_lt (by assumption)) (.inr ⟨by assumption, rfl⟩)
    | exact rd_up (by assumption) (by assumption) (Int.le_of_eq (Eq.symm (by assumption))) (.inl ⟨by assumption, rfl⟩)
    | exact rd_up (by assumption) (by assumption) (Int.le_of_eq (Eq.symm (by assumption))) (.inr ⟨by assumption, rfl⟩)
    | exact rd_dn (by assumption) (by assumption) (.inl ⟨by assumption, rfl⟩)
    | exact rd_dn (by assumption) (by assumption) (.inr ⟨by assumption, rfl⟩))
end
theorem rd_lo {x y z e : Int} (hl : ∀ z e, Rd x y z e → z ≠ 0 → -38 ≤ e + ((nd z.natAbs : Nat) : Int) - 1 ∧ e + ((nd z.natAbs : Nat) : Int) - 1 ≤ 38) (h : Rd x y z e) (h0 : z ≠ 0) (h1 : e + ((nd z.natAbs : Nat) : Int) - 1 < -38) : False := by
  have := (hl z e h h0).1; omega
theorem rd_hi {x y z e : Int} (hl : ∀ z e, Rd x y z e → z ≠ 0 → -38 ≤ e + ((nd z.natAbs : Nat) : Int) - 1 ∧ e + ((nd z.natAbs : Nat) : Int) - 1 ≤ 38) (h : Rd x y z e) (h0 : z ≠ 0) (h1 : 38 < e + ((nd z.natAbs : Nat) : Int) - 1) : False := by
  have := (hl z e h h0).2; omega
section
theorem ln39 : True := by
  (k_with "call ref" => (k_here; (with_reducible show wpAny _ _ (call (Value.ref 153) _) _ _ _); k_call_by "c.use" (count_digits_c ); walk_at "c.back"))
  (k_with "call ref" => (k_here; (with_reducible show wpAny _ _ (call (Value.ref 167) _) _ _ _); k_call_by "t.use" (round_digits_c ?hxq109); (case hxq109 => walk_at "c.side"); walk_at "t.back"))
  trivial
theorem round_real_c {w : World} {news : List (Addr × Obj)} {x y : Int} {t u v r : Tok} (hx : nd x.natAbs ≤ 40) (hlead : ∀ z e, Rd x y z e → z ≠ 0 → -38 ≤ e + ((nd z.natAbs : Nat) : Int) - 1 ∧ e + ((nd z.natAbs : Nat) : Int) - 1 ≤ 38) :
    CtT 14 w 174 [.int x t, .int y u, .int 15 v, .int 38 r] news (Rd x y) := by
  intro mean mg mb dp un gd cn cs a ccd outer A₀ base h₀ L m s Q E B F X N T hk hd hu hret
  walk_at "c.enter"
  k_steps
  all_goals first
    | exact (rd_lo hlead (by assumption) (by assumption) (by assumption)).elim
    | exact (rd_hi hlead (by assumption) (by assumption) (by assumption)).elim
    | ((refine' hret _ _ _ _ _ _ ?_ ?c1 ?c2 ?c3 ?c4; (case c3 => k_asm); (case c4 => k_asm); (case c1 => walk_at "t.is"); (case c2 => walk_at "t.sub")); exact rd_z (by assumption) (by assumption))
    | ((refine' hret _ _ _ _ _ _ ?_ ?c1 ?c2 ?c3 ?c4; (case c3 => k_asm); (case c4 => k_asm); (case c1 => walk_at "t.is"); (case c2 => walk_at "t.sub")); assumption)
theorem CtT.weak {D : Nat} {w : World} {f : Addr} {vs : List Value} {news : List (Addr × Obj)} {P P' : Int → Int → Prop} (h : CtT D w f vs news P) (hp : ∀ z e, P z e → P' z e) : CtT D w f vs news P' :=
  fun mean mg mb dp un gd cn cs a ccd outer A₀ base h₀ L m s Q E B F X N T hk hd hu hret =>
    h mean mg mb dp un gd cn cs a ccd outer A₀ base h₀ L m s Q E B F X N T hk hd hu (fun b z e n h' tk q => hret b z e n h' tk (hp z e q))
def Nf (M m e : Int) : Prop := (M = 0 ∧ m = 0 ∧ e = 0) ∨ (m % 10 ≠ 0 ∧ -1 ≤ e ∧ m * 10 ^ (e + 1).toNat = M)
def Tn (M m e : Int) : Prop := -1 ≤ e ∧ e ≤ 15 ∧ m * 10 ^ (e + 1).toNat = M
theorem st_nf {x y z e : Int} (hy : -1 ≤ y) (h : St x y z e) : Nf (x * 10 ^ (y + 1).toNat) z e := by
  rcases h with ⟨rfl, rfl, rfl⟩ | ⟨h0, h1, k, rfl, h3⟩
  · exact .inl ⟨by simp, rfl, rfl⟩
  · refine .inr ⟨h1, by omega, ?_⟩
    rw [← h3, show (y + (k : Int) + 1).toNat = k + (y + 1).toNat by omega, Int.pow_add, Int.mul_assoc]
theorem nf_pow {m m' : Int} {k k' : Nat} (hm : m % 10 ≠ 0) (he : m * 10 ^ k = m' * 10 ^ k') : k' ≤ k := by
  apply Nat.le_of_not_lt
  intro hlt
  obtain ⟨d, rfl⟩ : ∃ d, k' = d + 1 + k := ⟨k' - k - 1, by omega⟩
  rw [Int.pow_add, ← Int.mul_assoc] at he
  have := Int.eq_of_mul_eq_mul_right (ten_ne k) he
  rw [Int.pow_succ, ← Int.mul_assoc] at this
  omega
theorem nf_ne {m : Int} {k : Nat} (h : m % 10 ≠ 0) : m * 10 ^ k ≠ 0 := Int.mul_ne_zero (fun z => by subst z; simp at h) (ten_ne _)
theorem nf_unique {M m e m' e' : Int} (h : Nf M m e) (h' : Nf M m' e') : m = m' ∧ e = e' := by
  rcases h with ⟨h1, h2, h3⟩ | ⟨h1, h2, h3⟩
  · rcases h' with ⟨g1, g2, g3⟩ | ⟨g1, g2, g3⟩
    · exact ⟨by omega, by omega⟩
    · exact absurd (g3.trans h1) (nf_ne g1)
  · rcases h' with ⟨g1, g2, g3⟩ | ⟨g1, g2, g3⟩
    · exact absurd (h3.trans g1) (nf_ne h1)
    · have q := h3.trans g3.symm
      have e1 : (e + 1).toNat = (e' + 1).toNat := Nat.le_antisymm (nf_pow g1 q.symm) (nf_pow h1 q)
      rw [e1] at q
      exact ⟨Int.eq_of_mul_eq_mul_right (ten_ne _) q, by omega⟩
theorem st_small {x y z e : Int} {n : Nat} (h : St x y z e) (hz : z ≠ 0) (hx : x.natAbs < 10 ^ n) : ∃ k : Nat, e = y + k ∧ k + nd z.natAbs ≤ n := by
  rcases h with ⟨_, h, _⟩ | ⟨_, _, k, h1, h2⟩
  · exact absurd h hz
  refine ⟨k, h1, ?_⟩
  have e1 : z.natAbs * 10 ^ k = x.natAbs := by rw [← h2, Int.natAbs_mul, Int.natAbs_pow]; rfl
  have hk : k ≤ n := by
    apply Nat.le_of_not_lt
    intro hlt
    have : 10 ^ n ≤ 10 ^ k := Nat.pow_le_pow_right (by decide) (by omega)
    have : 1 * 10 ^ k ≤ z.natAbs * 10 ^ k := Nat.mul_le_mul_right _ (by omega)
    omega
  have : z.natAbs < 10 ^ (n - k) := by
    apply Nat.lt_of_mul_lt_mul_right (a := 10 ^ k)
    rw [e1, ← Nat.pow_add, Nat.sub_add_cancel hk]
    exact hx
  have := nd_le this
  omega
theorem round_exact_c {w : World} {news : List (Addr × Obj)} {x y : Int} {t u v r : Tok} (hx : x.natAbs < 10 ^ 15) (hy1 : -1 ≤ y) (hy2 : y ≤ 15) :
    CtT 14 w 174 [.int x t, .int y u, .int 15 v, .int 38 r] news (Nf (x * 10 ^ (y + 1).toNat)) := by
  have hn := nd_le hx
  have hst : ∀ z e, Rd x y z e → St x y z e := fun z e h => h.elim (·.2) fun ⟨d, h1, h2, _⟩ => by omega
  refine (round_real_c (by omega) (fun z e h hz => ?_)).weak (fun z e h => st_nf hy1 (hst z e h))
  obtain ⟨k, h1, h2⟩ := st_small (hst z e h) hz hx
  have : 0 < nd z.natAbs := by rw [nd_pos (by omega)]; omega
  omega
end
section
theorem tn_l {U V m1 e1 m2 e2 : Int} (hx : Tn U m1 e1) (hy : Tn V m2 e2) (h : m1 = 0) : Tn (U + V) m2 e2 := by
  obtain ⟨h1, h2, h3⟩ := hx
  subst h
  rw [← h3, Int.zero_mul, Int.zero_add]; exact hy
theorem tn_r {U V m1 e1 m2 e2 : Int} (hx : Tn U m1 e1) (hy : Tn V m2 e2) (h : m2 = 0) : Tn (U + V) m1 e1 := by
  obtain ⟨h1, h2, h3⟩ := hy
  subst h
  rw [← h3, Int.zero_mul, Int.add_zero]; exact hx
theorem scale {m e l : Int} (hl : -1 ≤ l) (h : l ≤ e) : m * 10 ^ (e - l).toNat * 10 ^ (l + 1).toNat = m * 10 ^ (e + 1).toNat := by
  rw [Int.mul_assoc, ← Int.pow_add, show (e - l).toNat + (l + 1).toNat = (e + 1).toNat by omega]
theorem tn_sum {U V m1 e1 m2 e2 l : Int} (hx : Tn U m1 e1) (hy : Tn V m2 e2) (hl : -1 ≤ l) (h1 : l ≤ e1) (h2 : l ≤ e2) : Tn (U + V) (m1 * 10 ^ (e1 - l).toNat + m2 * 10 ^ (e2 - l).toNat) l := by
  obtain ⟨a1, a2, a3⟩ := hx
  obtain ⟨b1, b2, b3⟩ := hy
  refine ⟨hl, by omega, ?_⟩
  rw [Int.add_mul, scale hl h1, scale hl h2, a3, b3]
theorem exact_add_c {w : World} {news : List (Addr × Obj)} {p q : Addr} {U V m1 e1 m2 e2 : Int} (hT1 : IsT news p m1 e1) (hT2 : IsT news q m2 e2) (hx : Tn U m1 e1) (hy : Tn V m2 e2) :
    CtT 7 w 181 [.ref p, .ref q] news (Tn (U + V)) := by
  have hx1 := hx.1
  have hx2 := hx.2.1
  have hy1 := hy.1
  have hy2 := hy.2.1
  intro mean mg mb dp un gd cn cs a ccd outer A₀ base h₀ L m s Q E B F X N T hk hd hu hret
  walk_at "c.enter"
  k_steps
  all_goals ((refine' hret _ _ _ _ _ _ ?_ ?c1 ?c2 ?c3 ?c4; (case c3 => k_asm); (case c4 => k_asm); (case c1 => walk_at "t.is"); (case c2 => walk_at "t.sub")); first
    | exact tn_l hx hy (by assumption)
    | exact tn_r hx hy (by assumption)
    | exact tn_sum hx hy (by omega) (by omega) (by omega))
theorem real_neg_c {w : World} {news : List (Addr × Obj)} {p : Addr} {m1 e1 : Int} (hT1 : IsT news p m1 e1) :
    CtT 5 w 195 [.ref p] news (fun z e => z = -m1 ∧ e = e1) := by
  intro mean mg mb dp un gd cn cs a ccd outer A₀ base h₀ L m s Q E B F X N T hk hd hu hret
  walk_at "c.enter"
  k_steps
  all_goals ((refine' hret _ _ _ _ _ _ ?_ ?c1 ?c2 ?c3 ?c4; (case c3 => k_asm); (case c4 => k_asm); (case c1 => walk_at "t.is"); (case c2 => walk_at "t.sub")); exact ⟨rfl, rfl⟩)
theorem exact_mul_c {w : World} {news : List (Addr × Obj)} {p q : Addr} {m1 e1 m2 e2 : Int} (hT1 : IsT news p m1 e1) (hT2 : IsT news q m2 e2) (hm1 : -1000000000000000 ≤ m1) (hm2 : m1 ≤ 1000000000000000) :
    CtT 5 w 188 [.ref p, .ref q] news (fun z e => z = m1 * m2 ∧ e = e1 + e2) := by
  intro mean mg mb dp un gd cn cs a ccd outer A₀ base h₀ L m s Q E B F X N T hk hd hu hret
  walk_at "c.enter"
  k_steps
  all_goals ((refine' hret _ _ _ _ _ _ ?_ ?c1 ?c2 ?c3 ?c4; (case c3 => k_asm); (case c4 => k_asm); (case c1 => walk_at "t.is"); (case c2 => walk_at "t.sub")); exact ⟨rfl, rfl⟩)
def rti (m e : Int) : Int := if 0 ≤ e then m * 10 ^ e.toNat else Int.tdiv m (10 ^ (-e).toNat)
theorem rti_up {m e : Int} (h : 0 ≤ e) : m * 10 ^ e.toNat = rti m e := by unfold rti; rw [if_pos h]
theorem rti_pos {m e : Int} (h : ¬ 0 ≤ e) (hm : 0 < m) : Int.fdiv (m.natAbs : Int) (10 ^ (-e).toNat) = rti m e := by
  unfold rti
  rw [if_neg h, show (m.natAbs : Int) = m by omega, Int.fdiv_eq_ediv_of_nonneg _ (by have := ten_gt (-e).toNat; omega), Int.tdiv_eq_ediv_of_nonneg (by omega)]
theorem rti_neg {m e : Int} (h : ¬ 0 ≤ e) (hm : ¬ 0 < m) : -Int.fdiv (m.natAbs : Int) (10 ^ (-e).toNat) = rti m e := by
  unfold rti
  have e1 : m = -(m.natAbs : Int) := by omega
  rw [if_neg h, Int.fdiv_eq_ediv_of_nonneg _ (by have := ten_gt (-e).toNat; omega)]
  conv => rhs; rw [e1]
  rw [Int.neg_tdiv, Int.tdiv_eq_ediv_of_nonneg (by omega)]
theorem real_to_int_c {w : World} {news : List (Addr × Obj)} {p : Addr} {m1 e1 : Int} (hT1 : IsT news p m1 e1) (he1 : -60 ≤ e1) (he2 : e1 ≤ 16) :
    Ct 5 w 251 [.ref p] news (fun t => .int (rti m1 e1) t) False := by
  intro mean mg mb dp un gd cn cs a ccd outer A₀ base h₀ L m s Q E B F X N T hk hd hu hret hexn
  walk_at "c.enter"
  k_steps
  all_goals ((refine' retI ?e (hret _ _ _ ?_ ?c1 ?c2); (case c1 => k_asm); (case c2 => k_asm)); (case e => first | exact rti_up (by assumption) | exact rti_pos (by assumption) (by assumption) | exact rti_neg (by assumption) (by assumption)); exact id)
theorem digits_of_c {w : World} {news : List (Addr × Obj)} {W : Int} {t lu : Tok} {lk : Nat → Tok} {la dx : Addr} (hl1 : (la, instObj 141 dx) ∈ news) (hl2 : (dx, limD w.params W lu lk) ∈ news) :
    Ct 5 w 272 [.int 2 t, .ref la] news (fun t => .int 15 t) False := by
  intro mean mg mb dp un gd cn cs a ccd outer A₀ base h₀ L m s Q E B F X N T hk hd hu hret hexn
  walk_at "c.enter"
  k_steps
  all_goals ((refine' hret _ _ _ ?_ ?c1 ?c2; (case c1 => k_asm); (case c2 => k_asm)); exact id)
theorem with_sign_d {w : World} {news : List (Addr × Obj)} {t0 t1 : Tok} {la lc lv p q : Addr} {m1 e1 m2 e2 : Int} (hl3 : (lc, listOf [.int 2 t0, .int 2 t1].toArray 0) ∈ news) (hl4 : (lv, listOf [.ref p, .ref q].toArray 0) ∈ news) (hT1 : IsT news p m1 e1) (hT2 : IsT news q m2 e2) :
    CtT 6 w 349 [.ref lc, .ref lv, .ref la] news (fun z e => z = (if 0 ≤ m2 then (m1.natAbs : Int) else -(m1.natAbs : Int)) ∧ e = e1) := by
  intro mean mg mb dp un gd cn cs a ccd outer A₀ base h₀ L m s Q E B F X N T hk hd hu hret
  walk_at "c.enter"
  k_steps
  all_goals ((refine' hret _ _ _ _ _ _ ?_ ?c1 ?c2 ?c3 ?c4; (case c3 => k_asm); (case c4 => k_asm); (case c1 => walk_at "t.is"); (case c2 => walk_at "t.sub")); first | exact ⟨(if_pos (by assumption)).symm, rfl⟩ | exact ⟨(if_neg (by assumption)).symm, rfl⟩)
end
theorem tn_abs {S z e : Int} (h : Tn S z e) (hb : S.natAbs < 10 ^ 15) : z.natAbs < 10 ^ 15 := by
  obtain ⟨_, _, h⟩ := h
  have e1 : z.natAbs * 10 ^ (e + 1).toNat = S.natAbs := by rw [← h, Int.natAbs_mul, Int.natAbs_pow] <;> rfl
  have := Nat.le_mul_of_pos_right z.natAbs (ten_pos (k := (e + 1).toNat))
  omega
theorem tn_nf {S z e a b : Int} (h : Tn S z e) (g : Nf (z * 10 ^ (e + 1).toNat) a b) : Nf S a b := h.2.2 ▸ g
theorem nf_tn {S z e : Int} (h : Nf S z e) (hb : S.natAbs < 10 ^ 15) : Tn S z e := by
  rcases h with ⟨rfl, rfl, rfl⟩ | ⟨h1, h2, h3⟩
  · exact ⟨by decide, by decide, Int.zero_mul _⟩
  · refine ⟨h2, ?_, h3⟩
    have e1 : z.natAbs * 10 ^ (e + 1).toNat = S.natAbs := by rw [← h3, Int.natAbs_mul, Int.natAbs_pow] <;> rfl
    refine Classical.byContradiction fun hlt => ?_
    have : 10 ^ 15 ≤ 10 ^ (e + 1).toNat := Nat.pow_le_pow_right (by decide) (by omega)
    have : 1 * 10 ^ (e + 1).toNat ≤ z.natAbs * 10 ^ (e + 1).toNat := Nat.mul_le_mul_right _ (by omega)
    omega
theorem tn_neg {S z e z' e' : Int} (h : Tn S z e) (g : z' = -z ∧ e' = e) : Tn (-S) z' e' := by
  obtain ⟨rfl, rfl⟩ := g
  exact ⟨h.1, h.2.1, by rw [← h.2.2, Int.neg_mul]⟩
theorem tn_e1 {S z e : Int} (h : Tn S z e) : -1 ≤ e := h.1
theorem tn_e2 {S z e : Int} (h : Tn S z e) : e ≤ 15 := h.2.1
section
theorem ln40 : True := by
  (k_with "r.side" => first | assumption | omega | exact tn_abs (by assumption) (by assumption) | exact tn_e1 (by assumption) | exact tn_e2 (by assumption) | exact tn_neg (by assumption) (by assumption))
  trivial
theorem ln41 : True := by
  (k_with "call ref" => (k_here; (with_reducible show wpAny _ _ (call (Value.ref 195) _) _ _ _); k_call_by "t.use" (real_neg_c ?hT1q111); (case hT1q111 => walk_at "t.is"); walk_at "t.back"))
  (k_with "call ref" => (k_here; (with_reducible show wpAny _ _ (call (Value.ref 174) _) _ _ _); k_call_by "t.use" (round_exact_c ?hxq112 ?hy1q112 ?hy2q112); (case hxq112 => walk_at "r.side"); (case hy1q112 => walk_at "r.side"); (case hy2q112 => walk_at "r.side"); walk_at "t.back"))
  (k_with "call ref" => (k_here; (with_reducible show wpAny _ _ (call (Value.ref 181) _) _ _ _); k_call_by "t.use" (exact_add_c ?hT1q113 ?hT2q113 ?hxq113 ?hyq113); (case hT1q113 => walk_at "t.is"); (case hT2q113 => walk_at "t.is"); (case hxq113 => walk_at "r.side"); (case hyq113 => walk_at "r.side"); walk_at "t.back"))
  trivial
theorem real_add_c {w : World} {news : List (Addr × Obj)} {p q : Addr} {U V m1 e1 m2 e2 : Int} {t r : Tok} (hT1 : IsT news p m1 e1) (hT2 : IsT news q m2 e2) (hx : Tn U m1 e1) (hy : Tn V m2 e2) (hb : (U + V).natAbs < 10 ^ 15) :
    CtT 16 w 209 [.ref p, .ref q, .int 15 t, .int 38 r] news (Nf (U + V)) := by
  intro mean mg mb dp un gd cn cs a ccd outer A₀ base h₀ L m s Q E B F X N T hk hd hu hret
  walk_at "c.enter"
  k_steps
  all_goals ((refine' hret _ _ _ _ _ _ ?_ ?c1 ?c2 ?c3 ?c4; (case c3 => k_asm); (case c4 => k_asm); (case c1 => walk_at "t.is"); (case c2 => walk_at "t.sub")); exact tn_nf (by assumption) (by assumption))
theorem real_sub_c {w : World} {news : List (Addr × Obj)} {p q : Addr} {U V m1 e1 m2 e2 : Int} {t r : Tok} (hT1 : IsT news p m1 e1) (hT2 : IsT news q m2 e2) (hx : Tn U m1 e1) (hy : Tn V m2 e2) (hb : (U + -V).natAbs < 10 ^ 15) :
    CtT 16 w 216 [.ref p, .ref q, .int 15 t, .int 38 r] news (Nf (U + -V)) := by
  intro mean mg mb dp un gd cn cs a ccd outer A₀ base h₀ L m s Q E B F X N T hk hd hu hret
  walk_at "c.enter"
  k_steps
  all_goals ((refine' hret _ _ _ _ _ _ ?_ ?c1 ?c2 ?c3 ?c4; (case c3 => k_asm); (case c4 => k_asm); (case c1 => walk_at "t.is"); (case c2 => walk_at "t.sub")); exact tn_nf (by assumption) (by assumption))
end
theorem dv_core {u v J D k m Q c st : Nat} (hv0 : 0 < v) (hv : v ≤ 99) (hJ : 100000 ≤ J) (hD0 : 0 < D) (hD : D ≤ 10000) (hc : 10 * J = c * D) (hQ : Q = u * J / v) (hst : st ≤ 1) (hm : m = 10 * Q + st)
    (hk : k = m / D ∨ (k = m / D + 1 ∧ D ≤ 2 * (m % D))) : k / c = u / v := by
  have hc0 : 0 < c := by
    apply Nat.pos_of_ne_zero
    rintro rfl
    omega
  have e1 := Nat.div_add_mod u v
  have e2 := Nat.mod_lt u hv0
  have lo : u / v * J ≤ Q := by
    rw [hQ, Nat.le_div_iff_mul_le hv0]
    calc u / v * J * v = (v * (u / v)) * J := by rw [Nat.mul_comm (u / v * J) v, Nat.mul_assoc]
      _ ≤ u * J := Nat.mul_le_mul_right _ (by omega)
  have hi : Q + 1010 ≤ (u / v + 1) * J := by
    have q1 : Q * v ≤ u * J := by rw [hQ]; exact Nat.div_mul_le_self _ _
    have q2 : u * J + J ≤ (u / v + 1) * v * J := by
      calc u * J + J = (u + 1) * J := by rw [Nat.add_mul, Nat.one_mul]
        _ ≤ (u / v + 1) * v * J := Nat.mul_le_mul_right _ (by rw [Nat.add_mul, Nat.one_mul, Nat.mul_comm (u / v) v]; omega)
    have q3 : (Q + 1010) * v ≤ (u / v + 1) * J * v := by
      have : 1010 * v ≤ J := by omega
      calc (Q + 1010) * v = Q * v + 1010 * v := Nat.add_mul _ _ _
        _ ≤ u * J + J := by omega
        _ ≤ (u / v + 1) * v * J := q2
        _ = (u / v + 1) * J * v := by rw [Nat.mul_assoc, Nat.mul_comm v J, ← Nat.mul_assoc]
    exact Nat.le_of_mul_le_mul_right q3 hv0
  have e3 := Nat.div_add_mod m D
  have e4 := Nat.mod_lt m hD0
  generalize hN : u / v = N at *
  -- k * D against m
  have klo : m / D ≤ k := by omega
  have khi : k * D ≤ m + 5000 := by
    rcases hk with rfl | ⟨rfl, h⟩
    · rw [Nat.mul_comm]; omega
    · rw [Nat.add_mul, Nat.one_mul, Nat.mul_comm]; omega
  refine Nat.div_eq_of_lt_le ?_ ?_
  · -- N * c ≤ k
    refine Nat.le_trans ?_ klo
    rw [Nat.le_div_iff_mul_le hD0, Nat.mul_assoc, ← hc, hm]
    have : N * (10 * J) = 10 * (N * J) := by rw [← Nat.mul_assoc, Nat.mul_comm N 10, Nat.mul_assoc]
    omega
  · -- k < (N+1) * c
    apply Nat.lt_of_mul_lt_mul_right (a := D)
    rw [Nat.mul_assoc, ← hc]
    have : (N + 1) * (10 * J) = 10 * ((N + 1) * J) := by rw [← Nat.mul_assoc, Nat.mul_comm (N + 1) 10, Nat.mul_assoc]
    omega
theorem st_rti {K y z e : Int} (h : St K y z e) (hy : y < 0) : rti z e = Int.tdiv K (10 ^ (-y).toNat) := by
  rcases h with ⟨rfl, rfl, rfl⟩ | ⟨_, _, k, rfl, h2⟩
  · unfold rti; simp
  · unfold rti
    by_cases he : 0 ≤ y + k
    · rw [if_pos he, ← h2, show k = (y + k).toNat + (-y).toNat by omega, Int.pow_add, ← Int.mul_assoc]
      rw [show (y + (((y + (k : Int)).toNat + (-y).toNat : Nat) : Int)).toNat = (y + k).toNat by omega]
      exact (Int.mul_tdiv_cancel _ (ten_ne _)).symm
    · rw [if_neg he, ← h2, show (-y).toNat = (-(y + k)).toNat + k by omega, Int.pow_add]
      exact (Int.mul_tdiv_mul_of_pos_left _ _ (ten_gt k)).symm
theorem st_bd {K y z e : Int} {n : Nat} (h : St K y z e) (hb : K.natAbs < 10 ^ n) (hy0 : -60 ≤ y) (hy : y ≤ 0) : -60 ≤ e ∧ e ≤ n := by
  by_cases hz : z = 0
  · have := st_z h hz; omega
  · obtain ⟨k, h1, h2⟩ := st_small h hz hb
    omega
def Qt (x y e₀ z e : Int) : Prop := ∃ s st : Nat, (s : Int) = 17 + ((nd y.natAbs : Nat) : Int) - ((nd x.natAbs : Nat) : Int) ∧ st ≤ 1 ∧ e = e₀ - s - 1 ∧
  (((x < 0 ↔ y < 0) ∧ z = ((10 * (x.natAbs * 10 ^ s / y.natAbs) + st : Nat) : Int)) ∨ (¬ (x < 0 ↔ y < 0) ∧ z = -((10 * (x.natAbs * 10 ^ s / y.natAbs) + st : Nat) : Int)))
theorem qt_if {a b : Int} (h : 0 ≤ 17 + a - b) : (if 0 > 15 + 2 + a - b then 0 else 15 + 2 + a - b) = 17 + a - b := by rw [if_neg (by omega)]; omega
theorem qt_same {x y z : Int} {st : Nat} (h : 0 ≤ 17 + ((nd y.natAbs : Nat) : Int) - ((nd x.natAbs : Nat) : Int)) (hst : st ≤ 1) (hs : (decide (x < 0) != decide (y < 0)) = false) :
    Qt x y z (10 * ((x.natAbs * 10 ^ (if 0 > 15 + 2 + ((nd y.natAbs : Nat) : Int) - ((nd x.natAbs : Nat) : Int) then 0 else 15 + 2 + ((nd y.natAbs : Nat) : Int) - ((nd x.natAbs : Nat) : Int)).toNat / y.natAbs : Nat) : Int) + (st : Int))
      (z - (if 0 > 15 + 2 + ((nd y.natAbs : Nat) : Int) - ((nd x.natAbs : Nat) : Int) then 0 else 15 + 2 + ((nd y.natAbs : Nat) : Int) - ((nd x.natAbs : Nat) : Int)) - 1) := by
  rw [qt_if h]
  refine ⟨_, st, Int.toNat_of_nonneg h, hst, by omega, .inl ⟨by simpa using hs, ?_⟩⟩
  omega
theorem qt_diff {x y z : Int} {st : Nat} (h : 0 ≤ 17 + ((nd y.natAbs : Nat) : Int) - ((nd x.natAbs : Nat) : Int)) (hst : st ≤ 1) (hs : (decide (x < 0) != decide (y < 0)) = true) :
    Qt x y z (-(10 * ((x.natAbs * 10 ^ (if 0 > 15 + 2 + ((nd y.natAbs : Nat) : Int) - ((nd x.natAbs : Nat) : Int) then 0 else 15 + 2 + ((nd y.natAbs : Nat) : Int) - ((nd x.natAbs : Nat) : Int)).toNat / y.natAbs : Nat) : Int) + (st : Int)))
      (z - (if 0 > 15 + 2 + ((nd y.natAbs : Nat) : Int) - ((nd x.natAbs : Nat) : Int) then 0 else 15 + 2 + ((nd y.natAbs : Nat) : Int) - ((nd x.natAbs : Nat) : Int)) - 1) := by
  rw [qt_if h]
  refine ⟨_, st, Int.toNat_of_nonneg h, hst, by omega, .inr ⟨by simpa using hs, ?_⟩⟩
  omega
section
theorem ln42 : True := by
  (k_with "call ref" => (k_here; (with_reducible show wpAny _ _ (call (Value.ref 153) _) _ _ _); k_call_by "c.use" (count_digits_c ); walk_at "c.back"))
  (k_with "call ref" => (k_here; (with_reducible show wpAny _ _ (call (Value.ref 160) _) _ _ _); k_call_by "t.use" (strip_zeros_c ); walk_at "t.back"))
  trivial
theorem quotient_c {w : World} {news : List (Addr × Obj)} {x y z : Int} {t u v r : Tok} (hy : y ≠ 0) (hyb : y.natAbs ≤ 1000) (hs0 : 0 ≤ 17 + ((nd y.natAbs : Nat) : Int) - ((nd x.natAbs : Nat) : Int)) (hs1 : 17 + ((nd y.natAbs : Nat) : Int) - ((nd x.natAbs : Nat) : Int) ≤ 19) :
    CtT 7 w 202 [.int x t, .int y u, .int z v, .int 15 r] news (Qt x y z) := by
  intro mean mg mb dp un gd cn cs a ccd outer A₀ base h₀ L m s Q E B F X N T hk hd hu hret
  walk_at "c.enter"
  k_steps
  all_goals ((refine' hret _ _ _ _ _ _ ?_ ?c1 ?c2 ?c3 ?c4; (case c3 => k_asm); (case c4 => k_asm); (case c1 => walk_at "t.is"); (case c2 => walk_at "t.sub")); first
    | exact qt_same (st := 1) hs0 (by decide) (by assumption)
    | exact qt_same (st := 0) hs0 (by decide) (by assumption)
    | exact qt_diff (st := 1) hs0 (by decide) (by assumption)
    | exact qt_diff (st := 0) hs0 (by decide) (by assumption))
end
theorem nf_abs {U m e : Int} (h : Nf U m e) : m.natAbs * 10 ^ (e + 1).toNat = U.natAbs ∧ (m < 0 ↔ U < 0) ∧ -1 ≤ e := by
  rcases h with ⟨rfl, rfl, rfl⟩ | ⟨h1, h2, h3⟩
  · exact ⟨Nat.zero_mul _, Iff.rfl, by decide⟩
  · refine ⟨by rw [← h3, Int.natAbs_mul, Int.natAbs_pow] <;> rfl, ?_, h2⟩
    rw [← h3]
    have := ten_gt (e + 1).toNat
    constructor
    · intro h; exact Int.mul_neg_of_neg_of_pos h this
    · intro h; exact Classical.byContradiction fun z => by
        have := Int.mul_nonneg (show 0 ≤ m by omega) (Int.le_of_lt this)
        omega
theorem nd_mul {a k n : Nat} (h0 : 0 < a) (h : a * 10 ^ k < 10 ^ n) : nd a + k ≤ n := by
  have hk : k ≤ n := by
    apply Nat.le_of_not_lt
    intro hlt
    have : 10 ^ n ≤ 10 ^ k := Nat.pow_le_pow_right (by decide) (by omega)
    have : 1 * 10 ^ k ≤ a * 10 ^ k := Nat.mul_le_mul_right _ h0
    omega
  have : a < 10 ^ (n - k) := by
    apply Nat.lt_of_mul_lt_mul_right (a := 10 ^ k)
    rw [← Nat.pow_add, Nat.sub_add_cancel hk]
    exact h
  have := nd_le this
  omega
theorem dv_v {V m e : Int} (h : Nf V m e) (h0 : V ≠ 0) (hv : V.natAbs ≤ 99) : m ≠ 0 ∧ m.natAbs ≤ 99 ∧ 1 ≤ nd m.natAbs ∧ nd m.natAbs ≤ 2 ∧ -1 ≤ e ∧ e ≤ 0 := by
  obtain ⟨h1, h2, h3⟩ := nf_abs h
  have hm : m ≠ 0 := by
    rintro rfl
    simp at h1
    omega
  have hp := ten_pos (k := (e + 1).toNat)
  have h4 := Nat.le_mul_of_pos_right m.natAbs hp
  have h5 : nd m.natAbs + (e + 1).toNat ≤ 2 := nd_mul (by omega) (by omega)
  have h6 : 0 < nd m.natAbs := by rw [nd_pos (by omega)]; omega
  refine ⟨hm, by omega, h6, by omega, h3, by omega⟩
theorem dv_u {U m e : Int} (h : Nf U m e) (hu : U.natAbs < 10 ^ 13) : (m = 0 ∧ e = 0 ∧ nd m.natAbs = 0) ∨ (m ≠ 0 ∧ 1 ≤ nd m.natAbs ∧ ((nd m.natAbs : Nat) : Int) + (e + 1) ≤ 13 ∧ -1 ≤ e) := by
  obtain ⟨h1, h2, h3⟩ := nf_abs h
  by_cases hm : m = 0
  · left
    rcases h with ⟨_, _, h⟩ | ⟨h, _, _⟩
    · exact ⟨hm, h, by rw [hm]; simp [nd]⟩
    · subst hm; simp at h
  · right
    have h5 : nd m.natAbs + (e + 1).toNat ≤ 13 := nd_mul (by omega) (by omega)
    have h6 : 0 < nd m.natAbs := by rw [nd_pos (by omega)]; omega
    exact ⟨hm, h6, by omega, h3⟩
theorem dv_nums {U V m1 e1 m2 e2 : Int} {s : Nat} (hs : (s : Int) = 17 + ((nd m2.natAbs : Nat) : Int) - ((nd m1.natAbs : Nat) : Int)) (hx : Nf U m1 e1) (hy : Nf V m2 e2) (hu : U.natAbs < 10 ^ 13) (hv0 : V ≠ 0) (hv : V.natAbs ≤ 99) :
    ∃ j : Nat, 5 ≤ j ∧ j ≤ 20 ∧ (j : Int) = s - (e1 - e2) ∧ m1.natAbs * 10 ^ s / m2.natAbs = U.natAbs * 10 ^ j / V.natAbs ∧ m1.natAbs * 10 ^ s / m2.natAbs < 10 ^ 18 := by
  obtain ⟨a1, a2, a3, a4, a5, a6⟩ := dv_v hy hv0 hv
  obtain ⟨b1, b2, b3⟩ := nf_abs hx
  obtain ⟨c1, c2, c3⟩ := nf_abs hy
  have hT : 0 ≤ ((nd m1.natAbs : Nat) : Int) + e1 ∧ ((nd m1.natAbs : Nat) : Int) + e1 ≤ 12 := by
    rcases dv_u hx hu with ⟨_, q, r⟩ | ⟨_, q, r, t⟩
    · clear hs hx hy hu hv0 hv a1 a2 a3 a4 a5 a6 b1 b2 b3 c1 c2 c3; omega
    · clear hs hx hy hu hv0 hv a1 a2 a3 a4 a5 a6 b1 b2 b3 c1 c2 c3; omega
  refine ⟨((s : Int) - (e1 - e2)).toNat, by clear b1 b2 b3 c1 c2 c3 hx hy hu hv0 hv a1 a2; omega, by clear b1 b2 b3 c1 c2 c3 hx hy hu hv0 hv a1 a2; omega, by clear b1 b2 b3 c1 c2 c3 hx hy hu hv0 hv a1 a2; omega, ?_, ?_⟩
  · have hp := ten_pos (k := (e2 + 1).toNat)
    rw [← Nat.mul_div_mul_right _ _ hp, c1, ← b1, Nat.mul_assoc, Nat.mul_assoc, ← Nat.pow_add, ← Nat.pow_add]
    rw [show s + (e2 + 1).toNat = (e1 + 1).toNat + ((s : Int) - (e1 - e2)).toNat by clear hp b1 b2 c1 c2 c3 hx hy hu hv0 hv a1 a2; omega]
  · have g1 := nd_ge (Nat.le_refl (nd m1.natAbs))
    have g2 : 10 ^ (nd m2.natAbs - 1) ≤ m2.natAbs := by
      apply Nat.le_of_not_lt
      intro hlt
      have := nd_le hlt
      clear b1 b2 b3 c1 c2 c3 hx hy hu hv0 hv a1 a2 hs hT g1 hlt a5 a6
      omega
    apply (Nat.div_lt_iff_lt_mul (Int.natAbs_pos.mpr a1)).mpr
    calc m1.natAbs * 10 ^ s < 10 ^ nd m1.natAbs * 10 ^ s := (Nat.mul_lt_mul_right (ten_pos)).mpr g1
      _ = 10 ^ 18 * 10 ^ (nd m2.natAbs - 1) := by rw [← Nat.pow_add, ← Nat.pow_add]; congr 1; clear b1 b2 b3 c1 c2 c3 hx hy hu hv0 hv a1 a2 g1 g2 a5 a6 hT; omega
      _ ≤ 10 ^ 18 * m2.natAbs := Nat.mul_le_mul_left _ g2
theorem qt_abs {x y e₀ z e : Int} (h : Qt x y e₀ z e) : ∃ s st : Nat, (s : Int) = 17 + ((nd y.natAbs : Nat) : Int) - ((nd x.natAbs : Nat) : Int) ∧ st ≤ 1 ∧ e = e₀ - s - 1 ∧ z.natAbs = 10 * (x.natAbs * 10 ^ s / y.natAbs) + st ∧ ((x < 0 ↔ y < 0) → 0 ≤ z) ∧ (¬ (x < 0 ↔ y < 0) → z ≤ 0) := by
  obtain ⟨s, st, h1, h2, h3, h4⟩ := h
  refine ⟨s, st, h1, h2, h3, ?_⟩
  rcases h4 with ⟨g, rfl⟩ | ⟨g, rfl⟩
  · exact ⟨by rw [Int.natAbs_natCast], fun _ => by omega, fun q => absurd g q⟩
  · exact ⟨by rw [Int.natAbs_neg, Int.natAbs_natCast], fun q => absurd q g, fun _ => by omega⟩
theorem dv_nd {U V m1 e1 m2 e2 z e : Int} (h : Qt m1 m2 (e1 - e2) z e) (hx : Nf U m1 e1) (hy : Nf V m2 e2) (hu : U.natAbs < 10 ^ 13) (hv0 : V ≠ 0) (hv : V.natAbs ≤ 99) : nd z.natAbs ≤ 19 := by
  obtain ⟨s, st, h1, h2, h3, h4, _⟩ := qt_abs h
  obtain ⟨j, j1, j2, j3, j4, j5⟩ := dv_nums h1 hx hy hu hv0 hv
  rw [h4]
  refine nd_le ?_
  omega
theorem dv_nd40 {U V m1 e1 m2 e2 z e : Int} (h : Qt m1 m2 (e1 - e2) z e) (hx : Nf U m1 e1) (hy : Nf V m2 e2) (hu : U.natAbs < 10 ^ 13) (hv0 : V ≠ 0) (hv : V.natAbs ≤ 99) : nd z.natAbs ≤ 40 := by
  have := dv_nd h hx hy hu hv0 hv; omega
/-- what rounding leaves: K, of at most 16 signs, with d signs dropped -/
theorem rd_open {z e z' e' : Int} (h : Rd z e z' e') (hn : nd z.natAbs ≤ 19) : ∃ (d k : Nat) (K : Int), d ≤ 4 ∧ St K (e + d) z' e' ∧ K.natAbs = k ∧ k < 10 ^ 16 ∧ (0 ≤ z → 0 ≤ K) ∧ (z ≤ 0 → K ≤ 0) ∧
    (k = z.natAbs / 10 ^ d ∨ (k = z.natAbs / 10 ^ d + 1 ∧ 10 ^ d ≤ 2 * (z.natAbs % 10 ^ d))) := by
  rcases h with ⟨h1, h2⟩ | ⟨d, h1, h2, k, h3, h4⟩
  · refine ⟨0, z.natAbs, z, by omega, by simpa using h2, rfl, ?_, id, id, .inl (by simp)⟩
    have := nd_ge h1; omega
  · refine ⟨d, k, _, by omega, h4, ?_, ?_, ?_, ?_, h3⟩
    · split <;> omega
    · have g := nd_ge (Nat.le_refl (nd z.natAbs))
      rw [h2, Nat.pow_add] at g
      have : z.natAbs / 10 ^ d < 10 ^ 15 := (Nat.div_lt_iff_lt_mul ten_pos).mpr g
      omega
    · intro hz; split
      · omega
      · have : z = 0 := by omega
        subst this
        simp [nd] at h2
        omega
    · intro hz; split <;> omega
theorem dv_lead {U V m1 e1 m2 e2 z e : Int} (h : Qt m1 m2 (e1 - e2) z e) (hx : Nf U m1 e1) (hy : Nf V m2 e2) (hu : U.natAbs < 10 ^ 13) (hv0 : V ≠ 0) (hv : V.natAbs ≤ 99) :
    ∀ z' e', Rd z e z' e' → z' ≠ 0 → -38 ≤ e' + ((nd z'.natAbs : Nat) : Int) - 1 ∧ e' + ((nd z'.natAbs : Nat) : Int) - 1 ≤ 38 := by
  intro z' e' g hz
  have hn := dv_nd h hx hy hu hv0 hv
  obtain ⟨s, st, h1, h2, h3, h4, _⟩ := qt_abs h
  obtain ⟨j, j1, j2, j3, j4, j5⟩ := dv_nums h1 hx hy hu hv0 hv
  obtain ⟨d, k, K, d1, d2, d3, d4, _⟩ := rd_open g hn
  obtain ⟨i, i1, i2⟩ := st_small d2 hz (n := 16) (by rw [d3]; exact d4)
  have : 0 < nd z'.natAbs := by rw [nd_pos (Int.natAbs_pos.mpr hz)]; exact Nat.succ_pos _
  clear h4 j4 j5 d2 hx hy hu hv0 hv h g hn hz d3 d4 h1 h2
  omega
def Dv (U V z e : Int) : Prop := rti z e = Int.tdiv U V ∧ -60 ≤ e ∧ e ≤ 16
theorem tdiv_sg (U V : Int) : ((U < 0 ↔ V < 0) → Int.tdiv U V = ((U.natAbs / V.natAbs : Nat) : Int)) ∧ (¬ (U < 0 ↔ V < 0) → Int.tdiv U V = -((U.natAbs / V.natAbs : Nat) : Int)) := by
  constructor
  · intro h
    rw [← tdiv_same (x := U) (y := V) (by simpa using h), tdiv_abs]
  · intro h
    rw [← tdiv_diff (x := U) (y := V) (by simpa using h), tdiv_abs]
theorem dve1 {e e1 e2 : Int} {s j d : Nat} (h3 : e = e1 - e2 - s - 1) (j3 : (j : Int) = s - (e1 - e2)) (j1 : 5 ≤ j) (d1 : d ≤ 4) : e + d < 0 := by omega
theorem dve2 {K : Int} {k : Nat} (d3 : K.natAbs = k) (d4 : k < 10 ^ 16) : K.natAbs < 10 ^ 16 := by omega
theorem dve3 {e e1 e2 : Int} {s j d : Nat} (h3 : e = e1 - e2 - s - 1) (j3 : (j : Int) = s - (e1 - e2)) (j2 : j ≤ 20) : -60 ≤ e + d := by omega
theorem dve4 {e e1 e2 : Int} {s j d : Nat} (h3 : e = e1 - e2 - s - 1) (j3 : (j : Int) = s - (e1 - e2)) (d1 : d ≤ 4) (j1 : 5 ≤ j) : (-(e + (d : Int))).toNat = j + 1 - d := by omega
theorem dve5 {V : Int} (h : V ≠ 0) : 0 < V.natAbs := by omega
theorem dve6 {j d : Nat} (d1 : d ≤ 4) (j1 : 5 ≤ j) : j + 1 - d + d = j + 1 := by omega
theorem dve7 {K : Int} {k : Nat} (d3 : K.natAbs = k) (h : 0 ≤ K) : K = (k : Int) := by omega
theorem dve8 {K : Int} {k : Nat} (d3 : K.natAbs = k) (h : K ≤ 0) : K = -(k : Int) := by omega
theorem dve9 {k : Nat} : (0 : Int) ≤ (k : Int) := by omega
theorem dv_end {U V m1 e1 m2 e2 z e z' e' : Int} (h : Qt m1 m2 (e1 - e2) z e) (g : Rd z e z' e') (hx : Nf U m1 e1) (hy : Nf V m2 e2) (hu : U.natAbs < 10 ^ 13) (hv0 : V ≠ 0) (hv : V.natAbs ≤ 99) : Dv U V z' e' := by
  have hn := dv_nd h hx hy hu hv0 hv
  obtain ⟨s, st, h1, h2, h3, h4, s1, s2⟩ := qt_abs h
  obtain ⟨j, j1, j2, j3, j4, j5⟩ := dv_nums h1 hx hy hu hv0 hv
  obtain ⟨d, k, K, d1, d2, d3, d4, t1, t2, d5⟩ := rd_open g hn
  obtain ⟨_, b2, _⟩ := nf_abs hx
  obtain ⟨_, c2, _⟩ := nf_abs hy
  have hy0 : e + d < 0 := dve1 h3 j3 j1 d1
  refine ⟨?_, st_bd d2 (n := 16) (dve2 d3 d4) (dve3 h3 j3 j2) (Int.le_of_lt hy0)⟩
  rw [st_rti d2 hy0, dve4 h3 j3 d1 j1]
  have hJ : 100000 ≤ 10 ^ j := Nat.le_trans (by decide) (Nat.pow_le_pow_right (n := 10) (by decide) j1)
  have hD : 10 ^ d ≤ 10000 := Nat.pow_le_pow_right (n := 10) (by decide) d1
  have core : k / 10 ^ (j + 1 - d) = U.natAbs / V.natAbs :=
    dv_core (dve5 hv0) hv hJ ten_pos hD (by rw [← Nat.pow_add, dve6 d1 j1, Nat.pow_succ, Nat.mul_comm]) j4 h2 h4 d5
  have e1 : (10 : Int) ^ (j + 1 - d) = ((10 ^ (j + 1 - d) : Nat) : Int) := ten_nat
  obtain ⟨q1, q2⟩ := tdiv_sg U V
  rw [e1]
  by_cases hsg : m1 < 0 ↔ m2 < 0
  · have k1 := t1 (s1 hsg)
    rw [q1 (by rw [← b2, ← c2]; exact hsg), ← core, dve7 d3 k1, Int.tdiv_eq_ediv_of_nonneg dve9]
    simp
  · have k1 := t2 (s2 hsg)
    rw [q2 (by rw [← b2, ← c2]; exact hsg), ← core, dve8 d3 k1, Int.neg_tdiv, Int.tdiv_eq_ediv_of_nonneg dve9]
    simp
theorem mul_tn {N V m1 e1 m2 e2 z e : Int} (h : z = m1 * m2 ∧ e = e1 + e2) (hx : Nf (10 * N) m1 e1) (hy : Nf V m2 e2) (hb : (N * V).natAbs < 10 ^ 15) (hb2 : (10 * N).natAbs < 10 ^ 15 ∧ V.natAbs < 10 ^ 15) : Tn (N * V) z e := by
  obtain ⟨rfl, rfl⟩ := h
  have tx := nf_tn hx hb2.1
  have ty := nf_tn hy hb2.2
  rcases hx with ⟨h1, rfl, rfl⟩ | ⟨h1, h2, h3⟩
  · have : N = 0 := by clear hb hb2 tx ty hy; omega
    subst this
    exact ⟨by have := ty.1; omega, by have := ty.2.1; omega, by simp⟩
  · have he : 0 ≤ e1 := by
      refine Classical.byContradiction fun q => ?_
      rw [show (e1 + 1).toNat = 0 by clear h3 hb hb2 tx ty hy; omega] at h3
      clear hb hb2 tx ty hy h2 q
      omega
    rcases hy with ⟨g1, rfl, rfl⟩ | ⟨g1, g2, g3⟩
    · subst g1
      exact ⟨by clear hb hb2 tx ty; omega, by have := tx.2.1; clear hb hb2 tx ty; omega, by simp⟩
    · have e : m1 * m2 * 10 ^ (e1 + e2 + 1).toNat = N * V := by
        have p1 : m1 * 10 ^ e1.toNat = N := by
          rw [show (e1 + 1).toNat = e1.toNat + 1 by clear h3 hb hb2 tx ty; omega, Int.pow_succ, ← Int.mul_assoc] at h3
          clear hb hb2 tx ty g3 h2 g2 he
          omega
        rw [show (e1 + e2 + 1).toNat = e1.toNat + (e2 + 1).toNat by clear hb hb2 tx ty p1 g3 h3; omega, Int.pow_add, ← p1, ← g3]
        rw [Int.mul_assoc, Int.mul_assoc, Int.mul_left_comm m2]
      refine ⟨by clear hb hb2 tx ty e g3 h3; omega, ?_, e⟩
      refine Classical.byContradiction fun hlt => ?_
      have hm2 : m2 ≠ 0 := by rintro rfl; simp at g1
      have hm1 : m1 ≠ 0 := by rintro rfl; simp at h1
      have hm : 1 ≤ (m1 * m2).natAbs := by
        exact Int.natAbs_pos.mpr (Int.mul_ne_zero hm1 hm2)
      have e1' : (m1 * m2).natAbs * 10 ^ (e1 + e2 + 1).toNat = (N * V).natAbs := by rw [← e, Int.natAbs_mul (m1 * m2), Int.natAbs_pow] <;> rfl
      have : 10 ^ 15 ≤ 10 ^ (e1 + e2 + 1).toNat := Nat.pow_le_pow_right (by decide) (by clear hb hb2 tx ty e g3 h3 e1' hm; omega)
      have : 1 * 10 ^ (e1 + e2 + 1).toNat ≤ (m1 * m2).natAbs * 10 ^ (e1 + e2 + 1).toNat := Nat.mul_le_mul_right _ hm
      clear tx ty hb2 e g3 h3 hlt hm g2 h2 he
      omega
theorem mul_abs {N V m1 e1 m2 e2 z e : Int} (h : z = m1 * m2 ∧ e = e1 + e2) (hx : Nf (10 * N) m1 e1) (hy : Nf V m2 e2) (hb : (N * V).natAbs < 10 ^ 15) (hb2 : (10 * N).natAbs < 10 ^ 15 ∧ V.natAbs < 10 ^ 15) : z.natAbs < 10 ^ 15 := tn_abs (mul_tn h hx hy hb hb2) hb
theorem mul_e1 {N V m1 e1 m2 e2 z e : Int} (h : z = m1 * m2 ∧ e = e1 + e2) (hx : Nf (10 * N) m1 e1) (hy : Nf V m2 e2) (hb : (N * V).natAbs < 10 ^ 15) (hb2 : (10 * N).natAbs < 10 ^ 15 ∧ V.natAbs < 10 ^ 15) : -1 ≤ e := (mul_tn h hx hy hb hb2).1
theorem mul_e2 {N V m1 e1 m2 e2 z e : Int} (h : z = m1 * m2 ∧ e = e1 + e2) (hx : Nf (10 * N) m1 e1) (hy : Nf V m2 e2) (hb : (N * V).natAbs < 10 ^ 15) (hb2 : (10 * N).natAbs < 10 ^ 15 ∧ V.natAbs < 10 ^ 15) : e ≤ 15 := (mul_tn h hx hy hb hb2).2.1
section
theorem ln43 : True := by
  (k_with "c.dec" => ((try simp only [decide_eq_true_eq, decide_eq_false_iff_not, beq_iff_eq, bne_iff_ne, ne_eq, Bool.and_eq_true, Bool.or_eq_true, Bool.not_eq_true', Bool.not_eq_false', Bool.not_eq_true]); omega))
  (k_with "ite" => (k_here; first | (refine ite_pos (by walk_at "c.dec") ?_; walk_say "DEC+") | (refine ite_neg (by walk_at "c.dec") ?_; walk_say "DEC-")))
  trivial
theorem ln44 : True := by
  (k_with "r.side" => first | assumption | omega | exact tn_abs (by assumption) (by assumption) | exact tn_e1 (by assumption) | exact tn_e2 (by assumption) | exact tn_neg (by assumption) (by assumption) | exact dv_nd40 (by assumption) (by assumption) (by assumption) (by assumption) (by assumption) (by assumption) | exact dv_lead (by assumption) (by assumption) (by assumption) (by assumption) (by assumption) (by assumption) | exact mul_abs (by assumption) (by assumption) (by assumption) (by assumption) (by assumption) | exact mul_e1 (by assumption) (by assumption) (by assumption) (by assumption) (by assumption) | exact mul_e2 (by assumption) (by assumption) (by assumption) (by assumption) (by assumption))
  trivial
theorem ln45 : True := by
  (k_with "call ref" => (k_here; (with_reducible show wpAny _ _ (call (Value.ref 202) _) _ _ _); k_call_by "t.use" (quotient_c ?hyq119 ?hybq119 ?hs0q119 ?hs1q119); (case hyq119 => walk_at "r.side"); (case hybq119 => walk_at "r.side"); (case hs0q119 => walk_at "r.side"); (case hs1q119 => walk_at "r.side"); walk_at "t.back"))
  (k_with "call ref" => (k_here; (with_reducible show wpAny _ _ (call (Value.ref 188) _) _ _ _); k_call_by "t.use" (exact_mul_c ?hT1q120 ?hT2q120 ?hm1q120 ?hm2q120); (case hT1q120 => walk_at "t.is"); (case hT2q120 => walk_at "t.is"); (case hm1q120 => walk_at "r.side"); (case hm2q120 => walk_at "r.side"); walk_at "t.back"))
  (k_with "call ref" => (k_here; (with_reducible show wpAny _ _ (call (Value.ref 251) _) _ _ _); k_call_by "c.use" (real_to_int_c ?hT1q121 ?he1q121 ?he2q121); (case hT1q121 => walk_at "t.is"); (case he1q121 => walk_at "r.side"); (case he2q121 => walk_at "r.side"); walk_at "c.back"))
  (k_with "call ref" => (k_here; (with_reducible show wpAny _ _ (call (Value.ref 174) _) _ _ _); k_call_by "t.use" (round_real_c ?hxq122 ?hleadq122); (case hxq122 => walk_at "r.side"); (case hleadq122 => walk_at "r.side"); walk_at "t.back"))
  trivial
theorem ln46 : True := by
  (k_with "call ref" => (k_here; (with_reducible show wpAny _ _ (call (Value.ref 174) _) _ _ _); k_call_by "t.use" (round_exact_c ?hxq123 ?hy1q123 ?hy2q123); (case hxq123 => walk_at "r.side"); (case hy1q123 => walk_at "r.side"); (case hy2q123 => walk_at "r.side"); walk_at "t.back"))
  (k_with "call ref" => (k_here; (with_reducible show wpAny _ _ (call (Value.ref 181) _) _ _ _); k_call_by "t.use" (exact_add_c ?hT1q124 ?hT2q124 ?hxq124 ?hyq124); (case hT1q124 => walk_at "t.is"); (case hT2q124 => walk_at "t.is"); (case hxq124 => walk_at "r.side"); (case hyq124 => walk_at "r.side"); walk_at "t.back"))
  trivial
theorem real_div_c {w : World} {news : List (Addr × Obj)} {p q : Addr} {U V m1 e1 m2 e2 : Int} {t r : Tok} (hT1 : IsT news p m1 e1) (hT2 : IsT news q m2 e2) (hx : Nf U m1 e1) (hy : Nf V m2 e2) (hu : U.natAbs < 10 ^ 13) (hv0 : V ≠ 0) (hv : V.natAbs ≤ 99) :
    CtT 18 w 230 [.ref p, .ref q, .int 15 t, .int 38 r] news (Dv U V) := by
  obtain ⟨a1, a2, a3, a4, a5, a6⟩ := dv_v hy hv0 hv
  have a2' : m2.natAbs ≤ 1000 := by omega
  have hs0 : 0 ≤ 17 + ((nd m2.natAbs : Nat) : Int) - ((nd m1.natAbs : Nat) : Int) := by have := dv_u hx hu; omega
  have hs1 : 17 + ((nd m2.natAbs : Nat) : Int) - ((nd m1.natAbs : Nat) : Int) ≤ 19 := by have := dv_u hx hu; omega
  intro mean mg mb dp un gd cn cs a ccd outer A₀ base h₀ L m s Q E B F X N T hk hd hu' hret
  walk_at "c.enter"
  k_steps
  all_goals ((refine' hret _ _ _ _ _ _ ?_ ?c1 ?c2 ?c3 ?c4; (case c3 => k_asm); (case c4 => k_asm); (case c1 => walk_at "t.is"); (case c2 => walk_at "t.sub")); exact dv_end (by assumption) (by assumption) hx hy hu hv0 hv)
theorem real_mul_c {w : World} {news : List (Addr × Obj)} {p q : Addr} {N V m1 e1 m2 e2 : Int} {t r : Tok} (hT1 : IsT news p m1 e1) (hT2 : IsT news q m2 e2) (hx : Nf (10 * N) m1 e1) (hy : Nf V m2 e2) (hb : (N * V).natAbs < 10 ^ 15) (hb2 : (10 * N).natAbs < 10 ^ 15 ∧ V.natAbs < 10 ^ 15) :
    CtT 16 w 223 [.ref p, .ref q, .int 15 t, .int 38 r] news (Nf (N * V)) := by
  have hm1 : -1000000000000000 ≤ m1 := by have := tn_abs (nf_tn hx hb2.1) hb2.1; omega
  have hm2 : m1 ≤ 1000000000000000 := by have := tn_abs (nf_tn hx hb2.1) hb2.1; omega
  intro mean mg mb dp un gd cn cs a ccd outer A₀ base h₀ L m s Q E B F X N' T hk hd hu hret
  walk_at "c.enter"
  k_steps
  all_goals ((refine' hret _ _ _ _ _ _ ?_ ?c1 ?c2 ?c3 ?c4; (case c3 => k_asm); (case c4 => k_asm); (case c1 => walk_at "t.is"); (case c2 => walk_at "t.sub")); exact tn_nf (mul_tn (by assumption) hx hy hb hb2) (by assumption))
end
theorem ln47 : True := by
  k_with_none
  (k_with "c.room" => ((try simp only [depth_deeper, depth_mark, depth_in1]); (try dsimp only [cTop]); first | exact room_1 (by assumption) (by decide) | exact room_0 (by assumption) (by decide) | exact room_2 (by assumption) | omega))
  (k_with "c.units" => ((try simp only [units_deeper, Around.mark_units, units_in1]); (try dsimp only [cTop]); first | exact unit_1 (by assumption) (by decide) | exact unit_0 (by assumption) (by decide) | exact unit_2 (by assumption) | omega))
  (k_with "exec Raise some none" => (k_here; refine Raise_mine rfl ?_))
  (k_with "RaiseEnd" => (k_here; refine' raiseEnd_ ?Fq7 ?Xq7 ?Nq7 ?_; (case Fq7 => k_asm); (case Xq7 => k_asm); (case Nq7 => k_asm); k_whole; try dsimp only))
  (k_with "call ref" => (k_here; (with_reducible show wpAny _ _ (call (Value.ref 44) _) _ _ _); k_dflt (refine' rf_call ?Bq8 ?Fq8 ?Xq8 ?Nq8 ?Tq8 ?Aq8 ?fq8 ?kq8 ?dq8 ?_; (case Aq8 => exact rfl); (case fq8 => exact rfl); (case kq8 => exact rfl); (case Bq8 => k_asm); (case Fq8 => k_asm); (case Xq8 => k_asm); (case Nq8 => k_asm); (case Tq8 => k_asm); (case dq8 => walk_at "c.room"); k_whole); intro e' t' d' vs' h' tk' F' N' hn' hn2'; (try k_sweep)))
  (k_with "leaving ref" => (k_here; first
    | (refine' leave_first ?Kq9 ?Fq9 ?Nq9 ?nq9 ?n2q9 ?_; (case Kq9 => assumption); (case Fq9 => assumption); (case Nq9 => assumption); (case nq9 => assumption); (case n2q9 => assumption); k_whole; intro h' R' U'; (try dsimp only at R' U' ⊢))
    | (refine' leave_on ?Kq9 ?Fq9 ?Rq9 ?Uq9 ?_; (case Rq9 => assumption); (case Kq9 => assumption); (case Uq9 => assumption); (case Fq9 => assumption); k_whole; intro h' R' U'; (try dsimp only at R' U' ⊢))))
  (k_with "c.enter" => (refine wpAny_call ?_; k_dflt (refine' code_def ?k1q10 ?k2q10 ?k3q10 ?k4q10 ?k5q10 ?kAq10 ?kFq10 ?kKq10 ?k6q10 ?k7q10 ?k8q10 ?k9q10 ?kBq10 ?_ ?c2q10 ?c3q10 ?c4q10 ?c5q10; (case kAq10 => exact rfl); (case kFq10 => exact rfl); (case kKq10 => assumption); (case k1q10 => k_asm); (case k2q10 => k_asm); (case k3q10 => k_asm); (case k4q10 => k_asm); (case k5q10 => k_asm); (case k6q10 => k_is); (case k7q10 => k_is); (case k8q10 => walk_at "c.room"); (case k9q10 => first | exact BindsTo.of_eq (binds := [(_, _)]) rfl | exact BindsTo.of_eq (binds := [(_, _), (_, _)]) rfl | exact BindsTo.of_eq (binds := [(_, _), (_, _), (_, _)]) rfl | exact BindsTo.of_eq (binds := [(_, _), (_, _), (_, _), (_, _)]) rfl | exact BindsTo.of_eq (binds := [(_, _), (_, _), (_, _), (_, _), (_, _)]) rfl | exact BindsTo.of_eq (binds := [(_, _), (_, _), (_, _), (_, _), (_, _), (_, _)]) rfl); (case c5q10 => decide); (case kBq10 => exact locs rfl); (case c2q10 => exact rfl); (case c3q10 => exact rfl); (case c4q10 => exact rfl); k_whole; intro g' L' h' FG' F' N' B' X' T'; (try dsimp only); (try k_fold))))
  (k_with "c.use.r" => ((case cB => k_asm); (case cF => k_asm); (case cX => k_asm); (case cN => k_asm); (case cT => k_asm); (case ck => first | exact rfl | assumption); (case cd => walk_at "c.room"); (case cu => walk_at "c.units")))
  (k_with "c.back" => ((case' cr => (intro t' h' tk' hx' F' N'; (try k_sweep); (try dsimp only); (try k_fold))); (case' cx => first | exact fun z => False.elim z | (intro hx' e' G' h' tk' FG' R' U'; (try dsimp only); (try k_fold)))))
  (k_with "eval Call" => (k_here; k_dflt (refine Call_ ?_)))
  (k_with "c.side" => first | assumption | omega | (constructor <;> assumption))
  (k_with "ite" => (k_closed; first | refine ite_pos (by decide +kernel) ?_ | refine ite_neg (by decide +kernel) ?_))
  (k_with "call builtin:abs" => (k_here; (with_reducible show wpAny _ _ (call (Value.builtin "abs") [Value.int _ _]) _ _ _); k_dflt (refine abs_r ?_); intro t' tk'))
  (k_with "c.ne" => first | assumption | decide | omega)
  (k_with "c.py" => first | assumption | (rw [Int.natAbs_natCast]; assumption) | decide)
  (k_with "binaryOp FloorDiv int int" => (k_here; k_dflt (refine' floordiv_int ?neq18 ?_ (Or.inl (PyProof.noPylong_of_log2 ?pyq18))); (case neq18 => walk_at "c.ne"); (case pyq18 => walk_at "c.py")))
  (k_with "c.py" => first | assumption | (rw [Int.natAbs_natCast]; assumption) | decide | exact log2_40 (by assumption) (by assumption))
  (k_with "c.num" => first | assumption | omega | decide)
  (k_with "binaryOp Pow int int" => (k_here; k_dflt (refine' pow_int_small ?caq21 ?cbq21 ?ccq21 ?_); (case caq21 => walk_at "c.num"); (case cbq21 => walk_at "c.num"); (case ccq21 => walk_at "c.num")))
  (k_with "subscriptTail" => (k_here; (with_reducible show wpAny _ _ (subscriptTail _ _ (Value.ref _) (Value.int _ _)) _ _ _); k_dflt (refine' item_list_c ?cNq22 ?cmq22 ?c0q22 ?chq22 ?cxq22 ?_ ?csq22; (case cNq22 => k_asm); (case cmq22 => k_mem); (case c0q22 => decide); (case chq22 => decide); (case cxq22 => rfl); (case csq22 => with_unfolding_all rfl); k_whole)))
  (k_with "call ref" => (k_here; (with_reducible show wpAny _ _ (call (Value.ref 53) _) _ _ _); k_call_by "c.use" (fit_int_c ?h1q23 ?h2q23); (case h1q23 => walk_at "c.side"); (case h2q23 => walk_at "c.side"); walk_at "c.back"))
  (k_with "call ref" => (k_here; (with_reducible show wpAny _ _ (call (Value.ref 81) _) _ _ _); k_call_by "c.use" (cutq_c ?hyq24 ?hbq24); (case hyq24 => walk_at "c.side"); (case hbq24 => walk_at "c.side"); walk_at "c.back"))
  (k_with "call ref" => (k_here; (with_reducible show wpAny _ _ (call (Value.ref 60) _) _ _ _); k_call_by "c.use" (int_add_c ?h1q31 ?h2q31); (case h1q31 => walk_at "c.side"); (case h2q31 => walk_at "c.side"); walk_at "c.back"))
  (k_with "call ref" => (k_here; (with_reducible show wpAny _ _ (call (Value.ref 67) _) _ _ _); k_call_by "c.use" (int_sub_c ?h1q32 ?h2q32); (case h1q32 => walk_at "c.side"); (case h2q32 => walk_at "c.side"); walk_at "c.back"))
  (k_with "call ref" => (k_here; (with_reducible show wpAny _ _ (call (Value.ref 74) _) _ _ _); k_call_by "c.use" (int_mul_c ?h1q33 ?h2q33 ?hx1q33 ?hx2q33); (case h1q33 => walk_at "c.side"); (case h2q33 => walk_at "c.side"); (case hx1q33 => walk_at "c.side"); (case hx2q33 => walk_at "c.side"); walk_at "c.back"))
  (k_with "call ref" => (k_here; (with_reducible show wpAny _ _ (call (Value.ref 88) _) _ _ _); k_call_by "c.use" (int_div_c ?h1q34 ?h2q34 ?hy1q34 ?hy2q34); (case h1q34 => walk_at "c.side"); (case h2q34 => walk_at "c.side"); (case hy1q34 => walk_at "c.side"); (case hy2q34 => walk_at "c.side"); walk_at "c.back"))
  (k_with "call ref" => (k_here; (with_reducible show wpAny _ _ (call (Value.ref 102) _) _ _ _); k_call_by "c.use" (int_power_c ?h1q35 ?h2q35 ?hx1q35 ?hx2q35 ?hn1q35 ?hn2q35); (case h1q35 => walk_at "c.side"); (case h2q35 => walk_at "c.side"); (case hx1q35 => walk_at "c.side"); (case hx2q35 => walk_at "c.side"); (case hn1q35 => walk_at "c.side"); (case hn2q35 => walk_at "c.side"); walk_at "c.back"))
  (k_with "call ref" => (k_here; (with_reducible show wpAny _ _ (call (Value.ref 102) _) _ _ _); k_call_by "c.use" (int_power_neg ?h1q36 ?h2q36 ?hn1q36); (case h1q36 => walk_at "c.side"); (case h2q36 => walk_at "c.side"); (case hn1q36 => walk_at "c.side"); walk_at "c.back"))
  (k_with "call ref" => (k_here; (with_reducible show wpAny _ _ (call (Value.ref 109) _) _ _ _); k_call_by "c.use" (order_of_c ); walk_at "c.back"))
  (k_with "call ref" => (k_here; (with_reducible show wpAny _ _ (call (Value.ref 116) _) _ _ _); k_call_by "c.use" (holds_lt_c ); walk_at "c.back"))
  (k_with "call ref" => (k_here; (with_reducible show wpAny _ _ (call (Value.ref 116) _) _ _ _); k_call_by "c.use" (holds_ge_c ); walk_at "c.back"))
  (k_with "call ref" => (k_here; (with_reducible show wpAny _ _ (call (Value.ref 53) _) _ _ _); k_call_by "c.use" (fit_int_c ?h1q40 ?h2q40); (case h1q40 => walk_at "c.side"); (case h2q40 => walk_at "c.side"); walk_at "c.back"))
  (k_with "call ref" => (k_here; (with_reducible show wpAny _ _ (call (Value.ref 81) _) _ _ _); k_call_by "c.use" (cutq_c ?hyq41 ?hbq41); (case hyq41 => walk_at "c.side"); (case hbq41 => walk_at "c.side"); walk_at "c.back"))
  (k_with "call ref" => (k_here; (with_reducible show wpAny _ _ (call (Value.ref 109) _) _ _ _); k_call_by "c.use" (order_of_c ); walk_at "c.back"))
  (k_with "call ref" => (k_here; (with_reducible show wpAny _ _ (call (Value.ref 356) _) _ _ _); k_call_by "c.use" (compare_numbers_c ); walk_at "c.back"))
  (k_with "call ref" => (k_here; (with_reducible show wpAny _ _ (call (Value.ref 370) _) _ _ _); k_call_by "c.use" (extreme_max_c ?hl4q48); (case hl4q48 => k_dflt k_mem); walk_at "c.back"))
  (k_with "call ref" => (k_here; (with_reducible show wpAny _ _ (call (Value.ref 370) _) _ _ _); k_call_by "c.use" (extreme_min_c ?hl4q49); (case hl4q49 => k_dflt k_mem); walk_at "c.back"))
  (k_with "l.enter" => (refine wpAny_call ?_; k_dflt (refine' code_defS ?k1q50 ?k2q50 ?k3q50 ?k4q50 ?k5q50 ?kXq50 ?kTq50 ?kDq50 KtsTurn.refl ?kAq50 ?k6q50 ?k7q50 ?k8q50 ?k9q50 ?kBq50 ?_ ?kKq50 ?c2q50 ?c3q50 ?c4q50 ?c5q50; (case kAq50 => exact rfl); (case kKq50 => assumption); (case k1q50 => k_asm); (case k2q50 => k_asm); (case k3q50 => k_asm); (case k4q50 => k_asm); (case k5q50 => k_asm); (case kXq50 => k_asm); (case kTq50 => k_asm); (case kDq50 => k_asm); (case k6q50 => k_is); (case k7q50 => k_is); (case k8q50 => walk_at "c.room"); (case k9q50 => first | exact BindsTo.of_eq (binds := [(_, _)]) rfl | exact BindsTo.of_eq (binds := [(_, _), (_, _)]) rfl | exact BindsTo.of_eq (binds := [(_, _), (_, _), (_, _)]) rfl | exact BindsTo.of_eq (binds := [(_, _), (_, _), (_, _), (_, _)]) rfl | exact BindsTo.of_eq (binds := [(_, _), (_, _), (_, _), (_, _), (_, _)]) rfl | exact BindsTo.of_eq (binds := [(_, _), (_, _), (_, _), (_, _), (_, _), (_, _)]) rfl); (case c5q50 => decide); (case kBq50 => exact locs rfl); (case c2q50 => exact rfl); (case c3q50 => exact rfl); (case c4q50 => exact rfl); k_whole; intro g' L' h' FG' F' N' B' X' T' D'; (try dsimp only); (try k_fold))))
  (k_with "Exists" => (k_here; k_dflt (refine' kda_made_str ?e1q51 ?e2q51 ?e3q51 ?e4q51 ?e5q51 ?e6q51 ?_; (case e1q51 => k_asm); (case e2q51 => k_asm); (case e3q51 => exact Top.nolimit (by k_asm)); (case e4q51 => kernel_rfl); (case e5q51 => exact of_decide_eq_true (by kernel_rfl)); (case e6q51 => kernel_rfl)); intro h' o' F' N' l1 lo' hd'; (try k_lt l1)))
  (k_with "noteFrame ref" => (k_here; (with_reducible rename RX _ _ _ _ _ _ => rkX); obtain ⟨t', vs', R'⟩ := rkX; k_dflt (refine' caught_SO0 R' ?cFq52 ?cKq52 ?cUq52 ?cXBq52 ?cTBq52 ?cDq52 ?cT0q52 ?cexq52 ?cqq52 ?_ ?chq52 ?cxq52 ?cdq52 ?cEq52; (case cFq52 => k_asm); (case cKq52 => k_asm); (case cUq52 => k_asm); (case cXBq52 => k_asm); (case cTBq52 => k_asm); (case cDq52 => k_asm); (case cT0q52 => first | k_asm | exact KtsTurn.refl); (case cexq52 => k_is); (case cqq52 => kernel_rfl); (case chq52 => rfl); (case cxq52 => rfl); (case cdq52 => decide); (case cEq52 => passes_own)); intro h' g' n2' U' F' N2' G' N' B' X' T' D'; (clear N2' G'); (try k_sweep); (try dsimp only)))
  (k_with "c.bd" => first | assumption | exact bd_int (by walk_at "c.side") (by walk_at "c.side") | exact bd_add (by assumption) (by assumption) | exact bd_sub (by assumption) (by assumption) | exact bd_mul (by assumption) (by assumption) | exact bd_div (by assumption) (by assumption) | exact bd_dim (by assumption) (by assumption) | exact bd_abs (by assumption) (by assumption) | exact bd_sign (by assumption) (by assumption) | exact bd_pow (by assumption) (by assumption) | exact bd_max (by walk_at "c.bd") (by walk_at "c.bd") | exact bd_min (by walk_at "c.bd") (by walk_at "c.bd") | exact bd_mod (by walk_at "c.bd") (by walk_at "c.bd"))
  (k_with "c.iso" => first | exact isO_int | exact isO_opt)
  (k_with "l.use.r" => ((case cB => k_asm); (case cF => k_asm); (case cX => k_asm); (case cN => k_asm); (case cT => k_asm); (case ck => first | exact rfl | assumption); (case cXB => k_asm); (case cTB => k_asm); (case cD => k_asm); (case cd => walk_at "c.room"); (case cu => walk_at "c.units")))
  (k_with "l.back" => ((with_reducible rename Fr _ _ _ _ => oF); (with_reducible rename News _ _ _ _ => oN); (with_reducible rename Below _ _ _ _ => oB); (with_reducible rename Frag.In _ _ => oX); (with_reducible rename Top _ _ _ _ _ _ => oT); (with_reducible rename KtsDicts _ _ => oD); (with_reducible rename KtsTurn _ _ _ => oU); intro t' g' h' tk' U' F' N' B' X' T' D'; (have V' := KtsTurn.trans oU U'); clear oF oN oB oX oT oD oU U'; (try dsimp only); (try k_fold)))
  (k_with "l.begin" => (walk_at "l.enter"; (with_reducible rename Below _ _ _ _ => oB); (have V' := l_refl oB)))
  (k_with "compareOp NotEq" => (k_here; first
    | ((with_reducible show wpAny _ _ (compareOp CmpOp.NotEq (optV _ _) (optV _ _)) _ _ _); k_dflt (refine neV ?_))
    | ((with_reducible show wpAny _ _ (compareOp CmpOp.NotEq (optV _ _) (Value.int _ _)) _ _ _); k_dflt (refine neV (b := some _) ?_))
    | ((with_reducible show wpAny _ _ (compareOp CmpOp.NotEq (Value.int _ _) (optV _ _)) _ _ _); k_dflt (refine neV (a := some _) ?_))))
  (k_with "compareOp Eq" => (k_here; first
    | ((with_reducible show wpAny _ _ (compareOp CmpOp.Eq (optV _ _) (optV _ _)) _ _ _); k_dflt (refine eqV ?_))
    | ((with_reducible show wpAny _ _ (compareOp CmpOp.Eq (optV _ _) (Value.int _ _)) _ _ _); k_dflt (refine eqV (b := some _) ?_))
    | ((with_reducible show wpAny _ _ (compareOp CmpOp.Eq (Value.int _ _) (optV _ _)) _ _ _); k_dflt (refine eqV (a := some _) ?_))))
  (k_with "compareOp Is" => (k_here; (with_reducible show wpAny _ _ (compareOp CmpOp.Is (optV _ _) Value.none) _ _ _); k_dflt (refine isV ?_)))
  (k_with "compareOp IsNot" => (k_here; (with_reducible show wpAny _ _ (compareOp CmpOp.IsNot (optV _ _) Value.none) _ _ _); k_dflt (refine isNotV ?_)))
  (k_with "binaryOp Mult" => (k_here; (with_reducible show wpAny _ _ (binaryOp Operator.Mult (optV _ _) (Value.int _ _)) _ _ _); k_dflt (refine' mulV ?caq67 ?cbq67 ?_; (case caq67 => assumption); (case cbq67 => intro _; exact IntMulOk.of_right (PySem.intBits_le_64 (by l_fact) (by l_fact)))); intro z' hz'))
  (k_with "call builtin:abs" => (k_here; (with_reducible show wpAny _ _ (call (Value.builtin "abs") [optV _ _]) _ _ _); k_dflt (refine' absV ?caq68 ?_; (case caq68 => assumption)); intro z' hz' t' tk'))
  (k_with "call ref" => (k_here; (with_reducible show wpAny _ _ (call (Value.ref 412) [Value.str (PySem.Str.ofString "add") _, _, _, _]) _ _ _); k_call_by "l.use" (mk_add ?h1q69 ?h2q69 ?hl1q69 ?hl2q69 ?haq69 ?hbq69 ?baq69 ?bbq69); k_dflt ((case hl1q69 => k_dflt k_mem); (case hl2q69 => k_dflt k_mem); (case haq69 => walk_at "c.iso"); (case hbq69 => walk_at "c.iso"); (case h1q69 => walk_at "c.side"); (case h2q69 => walk_at "c.side"); (case baq69 => walk_at "c.bd"); (case bbq69 => walk_at "c.bd")); (case' cr => walk_at "l.back")))
  (k_with "call ref" => (k_here; (with_reducible show wpAny _ _ (call (Value.ref 412) [Value.str (PySem.Str.ofString "sub") _, _, _, _]) _ _ _); k_call_by "l.use" (mk_sub ?h1q70 ?h2q70 ?hl1q70 ?hl2q70 ?haq70 ?hbq70 ?baq70 ?bbq70); k_dflt ((case hl1q70 => k_dflt k_mem); (case hl2q70 => k_dflt k_mem); (case haq70 => walk_at "c.iso"); (case hbq70 => walk_at "c.iso"); (case h1q70 => walk_at "c.side"); (case h2q70 => walk_at "c.side"); (case baq70 => walk_at "c.bd"); (case bbq70 => walk_at "c.bd")); (case' cr => walk_at "l.back")))
  (k_with "call ref" => (k_here; (with_reducible show wpAny _ _ (call (Value.ref 412) [Value.str (PySem.Str.ofString "mul") _, _, _, _]) _ _ _); k_call_by "l.use" (mk_mul ?h1q71 ?h2q71 ?hl1q71 ?hl2q71 ?haq71 ?hbq71 ?baq71 ?bbq71); k_dflt ((case hl1q71 => k_dflt k_mem); (case hl2q71 => k_dflt k_mem); (case haq71 => walk_at "c.iso"); (case hbq71 => walk_at "c.iso"); (case h1q71 => walk_at "c.side"); (case h2q71 => walk_at "c.side"); (case baq71 => walk_at "c.bd"); (case bbq71 => walk_at "c.bd")); (case' cr => walk_at "l.back")))
  (k_with "call ref" => (k_here; (with_reducible show wpAny _ _ (call (Value.ref 412) [Value.str (PySem.Str.ofString "div") _, _, _, _]) _ _ _); k_call_by "l.use" (mk_div ?h1q72 ?h2q72 ?hl1q72 ?hl2q72 ?haq72 ?hbq72 ?baq72 ?bbq72); k_dflt ((case hl1q72 => k_dflt k_mem); (case hl2q72 => k_dflt k_mem); (case haq72 => walk_at "c.iso"); (case hbq72 => walk_at "c.iso"); (case h1q72 => walk_at "c.side"); (case h2q72 => walk_at "c.side"); (case baq72 => walk_at "c.bd"); (case bbq72 => walk_at "c.bd")); (case' cr => walk_at "l.back")))
  (k_with "call ref" => (k_here; (with_reducible show wpAny _ _ (call (Value.ref 412) [Value.str (PySem.Str.ofString "MOD") _, _, _, _]) _ _ _); k_call_by "l.use" (mk_mod ?h1q73 ?h2q73 ?hl1q73 ?hl2q73 ?haq73 ?hbq73 ?baq73 ?bbq73); k_dflt ((case hl1q73 => k_dflt k_mem); (case hl2q73 => k_dflt k_mem); (case haq73 => walk_at "c.iso"); (case hbq73 => walk_at "c.iso"); (case h1q73 => walk_at "c.side"); (case h2q73 => walk_at "c.side"); (case baq73 => walk_at "c.bd"); (case bbq73 => walk_at "c.bd")); (case' cr => walk_at "l.back")))
  (k_with "call ref" => (k_here; (with_reducible show wpAny _ _ (call (Value.ref 412) [Value.str (PySem.Str.ofString "MAX") _, _, _, _]) _ _ _); k_call_by "l.use" (mk_max ?h1q74 ?h2q74 ?hl1q74 ?hl2q74 ?haq74 ?hbq74 ?baq74 ?bbq74); k_dflt ((case hl1q74 => k_dflt k_mem); (case hl2q74 => k_dflt k_mem); (case haq74 => walk_at "c.iso"); (case hbq74 => walk_at "c.iso"); (case h1q74 => walk_at "c.side"); (case h2q74 => walk_at "c.side"); (case baq74 => walk_at "c.bd"); (case bbq74 => walk_at "c.bd")); (case' cr => walk_at "l.back")))
  (k_with "call ref" => (k_here; (with_reducible show wpAny _ _ (call (Value.ref 412) [Value.str (PySem.Str.ofString "MIN") _, _, _, _]) _ _ _); k_call_by "l.use" (mk_min ?h1q75 ?h2q75 ?hl1q75 ?hl2q75 ?haq75 ?hbq75 ?baq75 ?bbq75); k_dflt ((case hl1q75 => k_dflt k_mem); (case hl2q75 => k_dflt k_mem); (case haq75 => walk_at "c.iso"); (case hbq75 => walk_at "c.iso"); (case h1q75 => walk_at "c.side"); (case h2q75 => walk_at "c.side"); (case baq75 => walk_at "c.bd"); (case bbq75 => walk_at "c.bd")); (case' cr => walk_at "l.back")))
  (k_with "call ref" => (k_here; (with_reducible show wpAny _ _ (call (Value.ref 412) [Value.str (PySem.Str.ofString "DIM") _, _, _, _]) _ _ _); k_call_by "l.use" (mk_dim ?h1q76 ?h2q76 ?hl1q76 ?hl2q76 ?haq76 ?hbq76 ?baq76 ?bbq76); k_dflt ((case hl1q76 => k_dflt k_mem); (case hl2q76 => k_dflt k_mem); (case haq76 => walk_at "c.iso"); (case hbq76 => walk_at "c.iso"); (case h1q76 => walk_at "c.side"); (case h2q76 => walk_at "c.side"); (case baq76 => walk_at "c.bd"); (case bbq76 => walk_at "c.bd")); (case' cr => walk_at "l.back")))
  (k_with "call ref" => (k_here; (with_reducible show wpAny _ _ (call (Value.ref 412) [Value.str (PySem.Str.ofString "ABS") _, _, _, _]) _ _ _); k_call_by "l.use" (mk_abs ?h1q77 ?h2q77 ?hl1q77 ?hl2q77 ?haq77 ?hbq77 ?baq77 ?bbq77); k_dflt ((case hl1q77 => k_dflt k_mem); (case hl2q77 => k_dflt k_mem); (case haq77 => walk_at "c.iso"); (case hbq77 => walk_at "c.iso"); (case h1q77 => walk_at "c.side"); (case h2q77 => walk_at "c.side"); (case baq77 => walk_at "c.bd"); (case bbq77 => walk_at "c.bd")); (case' cr => walk_at "l.back")))
  (k_with "call ref" => (k_here; (with_reducible show wpAny _ _ (call (Value.ref 412) [Value.str (PySem.Str.ofString "SIGN") _, _, _, _]) _ _ _); k_call_by "l.use" (mk_sign ?h1q78 ?h2q78 ?hl1q78 ?hl2q78 ?haq78 ?hbq78 ?baq78 ?bbq78); k_dflt ((case hl1q78 => k_dflt k_mem); (case hl2q78 => k_dflt k_mem); (case haq78 => walk_at "c.iso"); (case hbq78 => walk_at "c.iso"); (case h1q78 => walk_at "c.side"); (case h2q78 => walk_at "c.side"); (case baq78 => walk_at "c.bd"); (case bbq78 => walk_at "c.bd")); (case' cr => walk_at "l.back")))
  (k_with "call ref" => (k_here; (with_reducible show wpAny _ _ (call (Value.ref 412) [Value.str (PySem.Str.ofString "pow") _, _, _, _]) _ _ _); k_call_by "l.use" (mki_pown ?h1q79 ?h2q79 ?hx1q79 ?hx2q79 ?hn0q79 ?hn1q79 ?hl1q79 ?hl2q79); k_dflt ((case hl1q79 => k_dflt k_mem); (case hl2q79 => k_dflt k_mem); (case h1q79 => walk_at "c.side"); (case h2q79 => walk_at "c.side"); (case hx1q79 => walk_at "c.side"); (case hx2q79 => walk_at "c.side"); (case hn0q79 => walk_at "c.side"); (case hn1q79 => walk_at "c.side")); (case' cr => walk_at "l.back")))
  (k_with "call ref" => (k_here; (with_reducible show wpAny _ _ (call (Value.ref 412) [Value.str (PySem.Str.ofString "pow") _, _, _, _]) _ _ _); k_call_by "l.use" (mk_pow ?h1q80 ?h2q80 ?hn1q80 ?hn2q80 ?hl1q80 ?hl2q80 ?haq80 ?baq80); k_dflt ((case hl1q80 => k_dflt k_mem); (case hl2q80 => k_dflt k_mem); (case haq80 => walk_at "c.iso"); (case h1q80 => walk_at "c.side"); (case h2q80 => walk_at "c.side"); (case hn1q80 => walk_at "c.side"); (case hn2q80 => walk_at "c.side"); (case baq80 => walk_at "c.bd")); (case' cr => walk_at "l.back")))
  (k_with "call ref" => (k_here; (with_reducible show wpAny _ _ (call (Value.ref 412) [Value.str (PySem.Str.ofString "powi") _, _, _, _]) _ _ _); k_call_by "l.use" (mk_powi ?h1q81 ?h2q81 ?hn1q81 ?hn2q81 ?hl1q81 ?hl2q81 ?haq81 ?baq81); k_dflt ((case hl1q81 => k_dflt k_mem); (case hl2q81 => k_dflt k_mem); (case haq81 => walk_at "c.iso"); (case h1q81 => walk_at "c.side"); (case h2q81 => walk_at "c.side"); (case hn1q81 => walk_at "c.side"); (case hn2q81 => walk_at "c.side"); (case baq81 => walk_at "c.bd")); (case' cr => walk_at "l.back")))
  (k_with "call ref" => (k_here; (with_reducible show wpAny _ _ (call (Value.ref 412) [Value.str (PySem.Str.ofString "lt") _, _, _, _]) _ _ _); k_call_by "l.use" (mki_lt ?h1q82 ?h2q82 ?hx1q82 ?hx2q82 ?hy1q82 ?hy2q82 ?hl1q82 ?hl2q82); k_dflt ((case hl1q82 => k_dflt k_mem); (case hl2q82 => k_dflt k_mem); (case h1q82 => walk_at "c.side"); (case h2q82 => walk_at "c.side"); (case hx1q82 => walk_at "c.side"); (case hx2q82 => walk_at "c.side"); (case hy1q82 => walk_at "c.side"); (case hy2q82 => walk_at "c.side")); (case' cr => walk_at "l.back")))
  (k_with "call ref" => (k_here; (with_reducible show wpAny _ _ (call (Value.ref 412) [Value.str (PySem.Str.ofString "ge") _, _, _, _]) _ _ _); k_call_by "l.use" (mki_ge ?h1q83 ?h2q83 ?hx1q83 ?hx2q83 ?hy1q83 ?hy2q83 ?hl1q83 ?hl2q83); k_dflt ((case hl1q83 => k_dflt k_mem); (case hl2q83 => k_dflt k_mem); (case h1q83 => walk_at "c.side"); (case h2q83 => walk_at "c.side"); (case hx1q83 => walk_at "c.side"); (case hx2q83 => walk_at "c.side"); (case hy1q83 => walk_at "c.side"); (case hy2q83 => walk_at "c.side")); (case' cr => walk_at "l.back")))
  (k_with "exec While Compare cons nil" => (k_here; (with_reducible rename Fr _ _ _ _ => lF'); (with_reducible rename News _ _ _ _ => lN'); k_dflt (refine' ksw_while (σ := Int × Int × Tok × Tok) (fun _ => _) (fun c => [(Str.ofString "n", .int c.1 c.2.2.1), (Str.ofString "count", .int c.2.1 c.2.2.2)]) (fun _ => True) [] (CdP _) (fun c => c.1.toNat) (_, _, _, _) lF' lN' trivial ?kkq92 ?kpq92 ?_ ?hEq92; (case kkq92 => kst_all); (case kpq92 => first | exact cd_start | assumption); (case hEq92 => first | passes_own | with_unfolding_all passes_own)); clear lF' lN'; rintro ⟨a', c', t', u'⟩ kU' h' tk' - hI' F' N'; (try dsimp only [kstB] at F'); (try dsimp only); (try k_fold)))
  (k_with "KswEnd" => (k_dflt (refine' ksw_end (_, _, _, _) ?kFq93 ?kNq93 (fun _ h => h) trivial ?kkq93 ?krq93 ?kpq93 ?kmq93; (case kFq93 => assumption); (case kNq93 => assumption); (case kkq93 => kst_all); (case krq93 => ksw_same); (case kpq93 => first | exact cd_nine (by assumption) (by assumption) | exact cd_one (by assumption) (by assumption)); (case kmq93 => first | exact cd_m9 (by assumption) | exact cd_m1 (by assumption)))))
  (k_with "t.sub" => first | assumption | exact fun _ hp => hp | (intro p hp; k_mem))
  (k_with "t.is" => first | assumption | exact IsT.nought | k_dflt (exact IsT.new (by k_mem)) | (refine' IsT.mono (by assumption) ?hzq95; (case hzq95 => walk_at "t.sub")))
  (k_with "t.use.r" => ((case cB => k_asm); (case cF => k_asm); (case cX => k_asm); (case cN => k_asm); (case cT => k_asm); (case ck => first | exact rfl | assumption); (case cd => walk_at "c.room"); (case cu => walk_at "c.units")))
  (k_with "t.back" => (case' cr => (intro b' z' e' n' h' tk' hP' hT' hS' F' N'; (try k_sweep); (try dsimp only); (try k_fold))))
  (k_with "subscriptTail" => (k_here; first
    | ((with_reducible show wpAny _ _ (subscriptTail _ _ (Value.ref _) (Value.int 0 _)) _ _ _); k_dflt (refine' tup_item0 ?cFq97 ?cXq97 ?cNq97 ?cHq97 ?_ ?csq97; (case cFq97 => k_asm); (case cXq97 => k_asm); (case cNq97 => k_asm); (case cHq97 => walk_at "t.is"); (case csq97 => with_unfolding_all rfl)); intro t')
    | ((with_reducible show wpAny _ _ (subscriptTail _ _ (Value.ref _) (Value.int 1 _)) _ _ _); k_dflt (refine' tup_item1 ?cFq97 ?cXq97 ?cNq97 ?cHq97 ?_ ?csq97; (case cFq97 => k_asm); (case cXq97 => k_asm); (case cNq97 => k_asm); (case cHq97 => walk_at "t.is"); (case csq97 => with_unfolding_all rfl)); intro t')))
  (k_with "assign Tuple" => (k_here; k_dflt (refine' tup_assign ?chq98 ?cFq98 ?cXq98 ?cNq98 ?cHq98 ?cnq98 ?csq98 ?_; (case chq98 => exact rfl); (case cFq98 => k_asm); (case cXq98 => k_asm); (case cNq98 => k_asm); (case cHq98 => walk_at "t.is"); (case cnq98 => exact rfl); (case csq98 => exact rfl)); intro t' u' h' F' N'; (try k_sweep)))
  (k_with "t.is" => first | assumption | exact IsT.nought | (refine' IsT.mono (by assumption) ?hzq99; (case hzq99 => walk_at "t.sub")) | k_dflt (exact IsT.new (by k_mem)))
  (k_with "exec While Compare cons nil" => (k_here; (with_reducible rename Fr _ _ _ _ => lF'); (with_reducible rename News _ _ _ _ => lN'); k_dflt (refine' ksw_while (σ := Int × Int × Tok × Tok) (fun _ => _) (fun c => [(Str.ofString "m", .int c.1 c.2.2.1), (Str.ofString "e", .int c.2.1 c.2.2.2)]) (fun _ => True) [] (StP _ _) (fun c => c.1.natAbs) (_, _, _, _) lF' lN' trivial ?kkq100 ?kpq100 ?_ ?hEq100; (case kkq100 => kst_all); (case kpq100 => exact stp_start (by assumption)); (case hEq100 => first | passes_own | with_unfolding_all passes_own)); clear lF' lN'; rintro ⟨a', c', t', u'⟩ kU' h' tk' - hI' F' N'; (try dsimp only [kstB] at F'); (try dsimp only); (try k_fold)))
  (k_with "KswEnd" => (k_dflt (refine' ksw_end (_, _, _, _) ?kFq101 ?kNq101 (fun _ h => h) trivial ?kkq101 ?krq101 ?kpq101 ?kmq101; (case kFq101 => assumption); (case kNq101 => assumption); (case kkq101 => kst_all); (case krq101 => ksw_same); (case kpq101 => exact stp_step (by assumption) (by assumption)); (case kmq101 => exact stp_less (stp_ne (by assumption)) (by assumption)))))
  (k_with "call builtin:divmod" => (k_here; k_dflt (refine' divmod_g ?cFq102 ?cNq102 ?e1q102 ?e2q102 ?eyq102 ?elq102 ?_; (case cFq102 => k_asm); (case cNq102 => k_asm); (case e1q102 => first | exact rfl | exact mul_ten_nat _ _); (case e2q102 => first | exact rfl | exact ten_nat); (case eyq102 => first | exact ten_pos | walk_at "c.num"); (case elq102 => first | exact ten_small (by walk_at "c.num") | walk_at "c.num")); intro D' h' t' u' tk' F' N'; (try k_sweep)))
  (k_with "c.ne" => first | assumption | decide | omega | exact ten_ne _)
  (k_with "c.py" => first | assumption | (rw [Int.natAbs_natCast]; assumption) | decide | exact log2_40 (by assumption) (by assumption) | exact ten_log (by walk_at "c.num"))
  (k_with "binaryOp Mult int int" => (k_here; (with_reducible show wpAny _ _ (binaryOp _ (Value.int _ _) (Value.int (10 ^ _) _)) _ _ _); k_dflt (refine' PyProof.Rows.mul_int ?_ ?ckq105; (case ckq105 => exact mul_ten_ok (by walk_at "c.num")))))
  (k_with "call ref" => (k_here; (with_reducible show wpAny _ _ (call (Value.ref 153) _) _ _ _); k_call_by "c.use" (count_digits_c ); walk_at "c.back"))
  (k_with "call ref" => (k_here; (with_reducible show wpAny _ _ (call (Value.ref 160) _) _ _ _); k_call_by "t.use" (strip_zeros_c ); walk_at "t.back"))
  (k_with "call ref" => (k_here; (with_reducible show wpAny _ _ (call (Value.ref 153) _) _ _ _); k_call_by "c.use" (count_digits_c ); walk_at "c.back"))
  (k_with "call ref" => (k_here; (with_reducible show wpAny _ _ (call (Value.ref 167) _) _ _ _); k_call_by "t.use" (round_digits_c ?hxq109); (case hxq109 => walk_at "c.side"); walk_at "t.back"))
  (k_with "r.side" => first | assumption | omega | exact tn_abs (by assumption) (by assumption) | exact tn_e1 (by assumption) | exact tn_e2 (by assumption) | exact tn_neg (by assumption) (by assumption))
  (k_with "call ref" => (k_here; (with_reducible show wpAny _ _ (call (Value.ref 195) _) _ _ _); k_call_by "t.use" (real_neg_c ?hT1q111); (case hT1q111 => walk_at "t.is"); walk_at "t.back"))
  (k_with "call ref" => (k_here; (with_reducible show wpAny _ _ (call (Value.ref 174) _) _ _ _); k_call_by "t.use" (round_exact_c ?hxq112 ?hy1q112 ?hy2q112); (case hxq112 => walk_at "r.side"); (case hy1q112 => walk_at "r.side"); (case hy2q112 => walk_at "r.side"); walk_at "t.back"))
  (k_with "call ref" => (k_here; (with_reducible show wpAny _ _ (call (Value.ref 181) _) _ _ _); k_call_by "t.use" (exact_add_c ?hT1q113 ?hT2q113 ?hxq113 ?hyq113); (case hT1q113 => walk_at "t.is"); (case hT2q113 => walk_at "t.is"); (case hxq113 => walk_at "r.side"); (case hyq113 => walk_at "r.side"); walk_at "t.back"))
  (k_with "call ref" => (k_here; (with_reducible show wpAny _ _ (call (Value.ref 153) _) _ _ _); k_call_by "c.use" (count_digits_c ); walk_at "c.back"))
  (k_with "call ref" => (k_here; (with_reducible show wpAny _ _ (call (Value.ref 160) _) _ _ _); k_call_by "t.use" (strip_zeros_c ); walk_at "t.back"))
  trivial
theorem tn_rti {S z e : Int} (h : Tn S z e) : rti z e = Int.tdiv S 10 := by
  obtain ⟨h1, h2, h3⟩ := h
  unfold rti
  by_cases he : 0 ≤ e
  · rw [if_pos he, ← h3, show (e + 1).toNat = e.toNat + 1 by omega, Int.pow_succ, ← Int.mul_assoc, Int.mul_tdiv_cancel _ (by decide)]
  · rw [if_neg he, ← h3, show (e + 1).toNat = 0 by omega, show (-e).toNat = 1 by omega]
    simp
theorem tn_half : Tn 5 5 (-1) := ⟨by decide, by decide, by decide⟩
theorem tn_nabs {S z e : Int} (h : Tn S z e) : Tn (S.natAbs : Int) (z.natAbs : Int) e := by
  obtain ⟨h1, h2, h3⟩ := h
  exact ⟨h1, h2, by rw [← h3, Int.natAbs_mul, Int.natAbs_pow, Int.natCast_mul, ten_nat] <;> rfl⟩
theorem tn_lt {S z e : Int} (h : Tn S z e) : z < 0 ↔ S < 0 := by
  obtain ⟨_, _, h3⟩ := h
  rw [← h3]
  have := ten_gt (e + 1).toNat
  constructor
  · intro h; exact Int.mul_neg_of_neg_of_pos h this
  · intro h; exact Classical.byContradiction fun q => by
      have := Int.mul_nonneg (show 0 ≤ z by omega) (Int.le_of_lt this)
      omega
def hup (U : Int) : Int := if U < 0 then -(Int.tdiv ((U.natAbs : Int) + 5) 10) else Int.tdiv ((U.natAbs : Int) + 5) 10
theorem hup_neg {U m e z e' : Int} (hx : Tn U m e) (h : Tn ((U.natAbs : Int) + 5) z e') (g : m < 0) : -rti z e' = hup U := by
  unfold hup; rw [if_pos ((tn_lt hx).mp g), tn_rti h]
theorem hup_pos {U m e z e' : Int} (hx : Tn U m e) (h : Tn ((U.natAbs : Int) + 5) z e') (g : ¬ m < 0) : rti z e' = hup U := by
  unfold hup; rw [if_neg (fun q => g ((tn_lt hx).mpr q)), tn_rti h]
theorem tn_e60 {S z e : Int} (h : Tn S z e) : -60 ≤ e := by have := h.1; omega
theorem tn_e16 {S z e : Int} (h : Tn S z e) : e ≤ 16 := by have := h.2.1; omega
theorem un_bd {V m e l : Int} (hy : Tn V m e) (hl : -1 ≤ l) (h : l ≤ e) (hb : V.natAbs < 10 ^ 15) : (m * 10 ^ (e - l).toNat).natAbs < 10 ^ 15 := by
  have e1 := scale (m := m) hl h
  rw [hy.2.2] at e1
  have e2 : (m * 10 ^ (e - l).toNat).natAbs * 10 ^ (l + 1).toNat = V.natAbs := by rw [← e1, Int.natAbs_mul (m * 10 ^ (e - l).toNat), Int.natAbs_pow] <;> rfl
  have := Nat.le_mul_of_pos_right (m * 10 ^ (e - l).toNat).natAbs (ten_pos (k := (l + 1).toNat))
  omega
theorem un_ne {m : Int} {k : Nat} (h : m ≠ 0) : m * 10 ^ k ≠ 0 := Int.mul_ne_zero h (ten_ne k)
theorem log_15 {a : Int} (h : a.natAbs < 10 ^ 15) : a.natAbs.log2 < 9000 := by
  by_cases z : a.natAbs = 0
  · rw [z]; decide
  · exact (Nat.log2_lt z).mpr (Nat.lt_of_lt_of_le h (Nat.le_trans (show 10 ^ 15 ≤ 2 ^ 64 by decide) (Nat.pow_le_pow_right (by decide) (by decide))))
theorem mul_15 {a b : Int} (h : b.natAbs < 10 ^ 15) : IntMulOk a b := IntMulOk.of_right (PySem.intBits_le_64 (by omega) (by omega))
theorem rest_15 {a b : Int} (h : a.natAbs < 10 ^ 15) : (a - Int.tdiv a b * b).natAbs < 10 ^ 15 := by
  have e : a - Int.tdiv a b * b = Int.tmod a b := by
    have := Int.mul_tdiv_add_tmod a b
    rw [Int.mul_comm] at this
    omega
  rw [e, Int.natAbs_tmod]
  exact Nat.lt_of_le_of_lt (Nat.mod_le _ _) h
theorem rest_nf {U V m1 e1 m2 e2 l a b : Int} (hx : Tn U m1 e1) (hy : Tn V m2 e2)
    (h : Nf ((m1 * 10 ^ (e1 - l).toNat - Int.tdiv (m1 * 10 ^ (e1 - l).toNat) (m2 * 10 ^ (e2 - l).toNat) * (m2 * 10 ^ (e2 - l).toNat)) * 10 ^ (l + 1).toNat) a b) (hl : -1 ≤ l) (h1 : l ≤ e1) (h2 : l ≤ e2) : Nf (U - Int.tdiv U V * V) a b := by
  have p1 := scale (m := m1) hl h1
  have p2 := scale (m := m2) hl h2
  rw [hx.2.2] at p1
  rw [hy.2.2] at p2
  generalize m1 * 10 ^ (e1 - l).toNat = x at *
  generalize m2 * 10 ^ (e2 - l).toNat = y at *
  have hc := ten_gt (l + 1).toNat
  generalize (10 : Int) ^ (l + 1).toNat = c at *
  rw [Int.sub_mul, Int.mul_assoc, p1, p2] at h
  rw [← Int.mul_tdiv_mul_of_pos_left x y hc, p1, p2] at h
  exact h
section
theorem ln48 : True := by
  (k_with "c.dec" => ((try simp only [decide_eq_true_eq, decide_eq_false_iff_not, beq_iff_eq, bne_iff_ne, ne_eq, Bool.and_eq_true, Bool.or_eq_true, Bool.not_eq_true', Bool.not_eq_false', Bool.not_eq_true]); omega))
  (k_with "ite" => (k_here; first | (refine ite_pos (by walk_at "c.dec") ?_; walk_say "DEC+") | (refine ite_neg (by walk_at "c.dec") ?_; walk_say "DEC-")))
  trivial
theorem ln49 : True := by
  (k_with "r.side" => first | assumption | omega | exact tn_abs (by assumption) (by assumption) | exact tn_e1 (by assumption) | exact tn_e2 (by assumption) | exact tn_e60 (by assumption) | exact tn_e16 (by assumption) | exact tn_half | exact tn_nabs (by assumption) | exact un_ne (by assumption) | exact log_15 (un_bd (by assumption) (by omega) (by omega) (by assumption)) | exact rest_15 (un_bd (by assumption) (by omega) (by omega) (by assumption)))
  (k_with "binaryOp Mult int int" => (k_here; (with_reducible show wpAny _ _ (binaryOp _ (Value.int (Int.tdiv _ _) _) (Value.int (_ * 10 ^ _) _)) _ _ _); k_dflt (refine' PyProof.Rows.mul_int ?_ ?ckq128; (case ckq128 => exact mul_15 (un_bd (by assumption) (by omega) (by omega) (by assumption))))))
  trivial
theorem ln50 : True := by
  (k_with "call ref" => (k_here; (with_reducible show wpAny _ _ (call (Value.ref 81) _) _ _ _); k_call_by "c.use" (cutq_c ?hyq129 ?hbq129); (case hyq129 => walk_at "r.side"); (case hbq129 => walk_at "r.side"); walk_at "c.back"))
  (k_with "call ref" => (k_here; (with_reducible show wpAny _ _ (call (Value.ref 174) _) _ _ _); k_call_by "t.use" (round_exact_c ?hxq130 ?hy1q130 ?hy2q130); (case hxq130 => walk_at "r.side"); (case hy1q130 => walk_at "r.side"); (case hy2q130 => walk_at "r.side"); walk_at "t.back"))
  (k_with "call ref" => (k_here; (with_reducible show wpAny _ _ (call (Value.ref 272) _) _ _ _); k_call_by "c.use" (digits_of_c ?hl1q131 ?hl2q131); (case hl1q131 => k_dflt k_mem); (case hl2q131 => k_dflt k_mem); walk_at "c.back"))
  trivial
theorem rest_of_d {w : World} {news : List (Addr × Obj)} {W : Int} {t0 t1 lu : Tok} {lk : Nat → Tok} {la dx lc lv p q : Addr} {U V m1 e1 m2 e2 : Int} (hl1 : (la, instObj 141 dx) ∈ news) (hl2 : (dx, limD w.params W lu lk) ∈ news)
    (hl3 : (lc, listOf [.int 2 t0, .int 2 t1].toArray 0) ∈ news) (hl4 : (lv, listOf [.ref p, .ref q].toArray 0) ∈ news) (hT1 : IsT news p m1 e1) (hT2 : IsT news q m2 e2) (hx : Tn U m1 e1) (hy : Tn V m2 e2) (hv0 : m2 ≠ 0) (hub : U.natAbs < 10 ^ 15) (hvb : V.natAbs < 10 ^ 15) :
    CtT 16 w 342 [.ref lc, .ref lv, .ref la] news (Nf (U - Int.tdiv U V * V)) := by
  have hx1 := hx.1
  have hx2 := hx.2.1
  have hy1 := hy.1
  have hy2 := hy.2.1
  intro mean mg mb dp un gd cn cs a ccd outer A₀ base h₀ L m s Q E B F X N T hk hd hu hret
  walk_at "c.enter"
  k_steps
  all_goals ((refine' hret _ _ _ _ _ _ ?_ ?c1 ?c2 ?c3 ?c4; (case c3 => k_asm); (case c4 => k_asm); (case c1 => walk_at "t.is"); (case c2 => walk_at "t.sub")); exact rest_nf hx hy (by assumption) (by omega) (by omega) (by omega))
end
theorem ln51 : True := by
  k_with_none
  (k_with "c.room" => ((try simp only [depth_deeper, depth_mark, depth_in1]); (try dsimp only [cTop]); first | exact room_1 (by assumption) (by decide) | exact room_0 (by assumption) (by decide) | exact room_2 (by assumption) | omega))
  (k_with "c.units" => ((try simp only [units_deeper, Around.mark_units, units_in1]); (try dsimp only [cTop]); first | exact unit_1 (by assumption) (by decide) | exact unit_0 (by assumption) (by decide) | exact unit_2 (by assumption) | omega))
  (k_with "exec Raise some none" => (k_here; refine Raise_mine rfl ?_))
  (k_with "RaiseEnd" => (k_here; refine' raiseEnd_ ?Fq7 ?Xq7 ?Nq7 ?_; (case Fq7 => k_asm); (case Xq7 => k_asm); (case Nq7 => k_asm); k_whole; try dsimp only))
  (k_with "call ref" => (k_here; (with_reducible show wpAny _ _ (call (Value.ref 44) _) _ _ _); k_dflt (refine' rf_call ?Bq8 ?Fq8 ?Xq8 ?Nq8 ?Tq8 ?Aq8 ?fq8 ?kq8 ?dq8 ?_; (case Aq8 => exact rfl); (case fq8 => exact rfl); (case kq8 => exact rfl); (case Bq8 => k_asm); (case Fq8 => k_asm); (case Xq8 => k_asm); (case Nq8 => k_asm); (case Tq8 => k_asm); (case dq8 => walk_at "c.room"); k_whole); intro e' t' d' vs' h' tk' F' N' hn' hn2'; (try k_sweep)))
  (k_with "leaving ref" => (k_here; first
    | (refine' leave_first ?Kq9 ?Fq9 ?Nq9 ?nq9 ?n2q9 ?_; (case Kq9 => assumption); (case Fq9 => assumption); (case Nq9 => assumption); (case nq9 => assumption); (case n2q9 => assumption); k_whole; intro h' R' U'; (try dsimp only at R' U' ⊢))
    | (refine' leave_on ?Kq9 ?Fq9 ?Rq9 ?Uq9 ?_; (case Rq9 => assumption); (case Kq9 => assumption); (case Uq9 => assumption); (case Fq9 => assumption); k_whole; intro h' R' U'; (try dsimp only at R' U' ⊢))))
  (k_with "c.enter" => (refine wpAny_call ?_; k_dflt (refine' code_def ?k1q10 ?k2q10 ?k3q10 ?k4q10 ?k5q10 ?kAq10 ?kFq10 ?kKq10 ?k6q10 ?k7q10 ?k8q10 ?k9q10 ?kBq10 ?_ ?c2q10 ?c3q10 ?c4q10 ?c5q10; (case kAq10 => exact rfl); (case kFq10 => exact rfl); (case kKq10 => assumption); (case k1q10 => k_asm); (case k2q10 => k_asm); (case k3q10 => k_asm); (case k4q10 => k_asm); (case k5q10 => k_asm); (case k6q10 => k_is); (case k7q10 => k_is); (case k8q10 => walk_at "c.room"); (case k9q10 => first | exact BindsTo.of_eq (binds := [(_, _)]) rfl | exact BindsTo.of_eq (binds := [(_, _), (_, _)]) rfl | exact BindsTo.of_eq (binds := [(_, _), (_, _), (_, _)]) rfl | exact BindsTo.of_eq (binds := [(_, _), (_, _), (_, _), (_, _)]) rfl | exact BindsTo.of_eq (binds := [(_, _), (_, _), (_, _), (_, _), (_, _)]) rfl | exact BindsTo.of_eq (binds := [(_, _), (_, _), (_, _), (_, _), (_, _), (_, _)]) rfl); (case c5q10 => decide); (case kBq10 => exact locs rfl); (case c2q10 => exact rfl); (case c3q10 => exact rfl); (case c4q10 => exact rfl); k_whole; intro g' L' h' FG' F' N' B' X' T'; (try dsimp only); (try k_fold))))
  (k_with "c.use.r" => ((case cB => k_asm); (case cF => k_asm); (case cX => k_asm); (case cN => k_asm); (case cT => k_asm); (case ck => first | exact rfl | assumption); (case cd => walk_at "c.room"); (case cu => walk_at "c.units")))
  (k_with "c.back" => ((case' cr => (intro t' h' tk' hx' F' N'; (try k_sweep); (try dsimp only); (try k_fold))); (case' cx => first | exact fun z => False.elim z | (intro hx' e' G' h' tk' FG' R' U'; (try dsimp only); (try k_fold)))))
  (k_with "eval Call" => (k_here; k_dflt (refine Call_ ?_)))
  (k_with "c.side" => first | assumption | omega | (constructor <;> assumption))
  (k_with "ite" => (k_closed; first | refine ite_pos (by decide +kernel) ?_ | refine ite_neg (by decide +kernel) ?_))
  (k_with "call builtin:abs" => (k_here; (with_reducible show wpAny _ _ (call (Value.builtin "abs") [Value.int _ _]) _ _ _); k_dflt (refine abs_r ?_); intro t' tk'))
  (k_with "c.ne" => first | assumption | decide | omega)
  (k_with "c.py" => first | assumption | (rw [Int.natAbs_natCast]; assumption) | decide)
  (k_with "binaryOp FloorDiv int int" => (k_here; k_dflt (refine' floordiv_int ?neq18 ?_ (Or.inl (PyProof.noPylong_of_log2 ?pyq18))); (case neq18 => walk_at "c.ne"); (case pyq18 => walk_at "c.py")))
  (k_with "c.py" => first | assumption | (rw [Int.natAbs_natCast]; assumption) | decide | exact log2_40 (by assumption) (by assumption))
  (k_with "c.num" => first | assumption | omega | decide)
  (k_with "binaryOp Pow int int" => (k_here; k_dflt (refine' pow_int_small ?caq21 ?cbq21 ?ccq21 ?_); (case caq21 => walk_at "c.num"); (case cbq21 => walk_at "c.num"); (case ccq21 => walk_at "c.num")))
  (k_with "subscriptTail" => (k_here; (with_reducible show wpAny _ _ (subscriptTail _ _ (Value.ref _) (Value.int _ _)) _ _ _); k_dflt (refine' item_list_c ?cNq22 ?cmq22 ?c0q22 ?chq22 ?cxq22 ?_ ?csq22; (case cNq22 => k_asm); (case cmq22 => k_mem); (case c0q22 => decide); (case chq22 => decide); (case cxq22 => rfl); (case csq22 => with_unfolding_all rfl); k_whole)))
  (k_with "call ref" => (k_here; (with_reducible show wpAny _ _ (call (Value.ref 53) _) _ _ _); k_call_by "c.use" (fit_int_c ?h1q23 ?h2q23); (case h1q23 => walk_at "c.side"); (case h2q23 => walk_at "c.side"); walk_at "c.back"))
  (k_with "call ref" => (k_here; (with_reducible show wpAny _ _ (call (Value.ref 81) _) _ _ _); k_call_by "c.use" (cutq_c ?hyq24 ?hbq24); (case hyq24 => walk_at "c.side"); (case hbq24 => walk_at "c.side"); walk_at "c.back"))
  (k_with "call ref" => (k_here; (with_reducible show wpAny _ _ (call (Value.ref 60) _) _ _ _); k_call_by "c.use" (int_add_c ?h1q31 ?h2q31); (case h1q31 => walk_at "c.side"); (case h2q31 => walk_at "c.side"); walk_at "c.back"))
  (k_with "call ref" => (k_here; (with_reducible show wpAny _ _ (call (Value.ref 67) _) _ _ _); k_call_by "c.use" (int_sub_c ?h1q32 ?h2q32); (case h1q32 => walk_at "c.side"); (case h2q32 => walk_at "c.side"); walk_at "c.back"))
  (k_with "call ref" => (k_here; (with_reducible show wpAny _ _ (call (Value.ref 74) _) _ _ _); k_call_by "c.use" (int_mul_c ?h1q33 ?h2q33 ?hx1q33 ?hx2q33); (case h1q33 => walk_at "c.side"); (case h2q33 => walk_at "c.side"); (case hx1q33 => walk_at "c.side"); (case hx2q33 => walk_at "c.side"); walk_at "c.back"))
  (k_with "call ref" => (k_here; (with_reducible show wpAny _ _ (call (Value.ref 88) _) _ _ _); k_call_by "c.use" (int_div_c ?h1q34 ?h2q34 ?hy1q34 ?hy2q34); (case h1q34 => walk_at "c.side"); (case h2q34 => walk_at "c.side"); (case hy1q34 => walk_at "c.side"); (case hy2q34 => walk_at "c.side"); walk_at "c.back"))
  (k_with "call ref" => (k_here; (with_reducible show wpAny _ _ (call (Value.ref 102) _) _ _ _); k_call_by "c.use" (int_power_c ?h1q35 ?h2q35 ?hx1q35 ?hx2q35 ?hn1q35 ?hn2q35); (case h1q35 => walk_at "c.side"); (case h2q35 => walk_at "c.side"); (case hx1q35 => walk_at "c.side"); (case hx2q35 => walk_at "c.side"); (case hn1q35 => walk_at "c.side"); (case hn2q35 => walk_at "c.side"); walk_at "c.back"))
  (k_with "call ref" => (k_here; (with_reducible show wpAny _ _ (call (Value.ref 102) _) _ _ _); k_call_by "c.use" (int_power_neg ?h1q36 ?h2q36 ?hn1q36); (case h1q36 => walk_at "c.side"); (case h2q36 => walk_at "c.side"); (case hn1q36 => walk_at "c.side"); walk_at "c.back"))
  (k_with "call ref" => (k_here; (with_reducible show wpAny _ _ (call (Value.ref 109) _) _ _ _); k_call_by "c.use" (order_of_c ); walk_at "c.back"))
  (k_with "call ref" => (k_here; (with_reducible show wpAny _ _ (call (Value.ref 116) _) _ _ _); k_call_by "c.use" (holds_lt_c ); walk_at "c.back"))
  (k_with "call ref" => (k_here; (with_reducible show wpAny _ _ (call (Value.ref 116) _) _ _ _); k_call_by "c.use" (holds_ge_c ); walk_at "c.back"))
  (k_with "call ref" => (k_here; (with_reducible show wpAny _ _ (call (Value.ref 53) _) _ _ _); k_call_by "c.use" (fit_int_c ?h1q40 ?h2q40); (case h1q40 => walk_at "c.side"); (case h2q40 => walk_at "c.side"); walk_at "c.back"))
  (k_with "call ref" => (k_here; (with_reducible show wpAny _ _ (call (Value.ref 81) _) _ _ _); k_call_by "c.use" (cutq_c ?hyq41 ?hbq41); (case hyq41 => walk_at "c.side"); (case hbq41 => walk_at "c.side"); walk_at "c.back"))
  (k_with "call ref" => (k_here; (with_reducible show wpAny _ _ (call (Value.ref 109) _) _ _ _); k_call_by "c.use" (order_of_c ); walk_at "c.back"))
  (k_with "call ref" => (k_here; (with_reducible show wpAny _ _ (call (Value.ref 356) _) _ _ _); k_call_by "c.use" (compare_numbers_c ); walk_at "c.back"))
  (k_with "call ref" => (k_here; (with_reducible show wpAny _ _ (call (Value.ref 370) _) _ _ _); k_call_by "c.use" (extreme_max_c ?hl4q48); (case hl4q48 => k_dflt k_mem); walk_at "c.back"))
  (k_with "call ref" => (k_here; (with_reducible show wpAny _ _ (call (Value.ref 370) _) _ _ _); k_call_by "c.use" (extreme_min_c ?hl4q49); (case hl4q49 => k_dflt k_mem); walk_at "c.back"))
  (k_with "l.enter" => (refine wpAny_call ?_; k_dflt (refine' code_defS ?k1q50 ?k2q50 ?k3q50 ?k4q50 ?k5q50 ?kXq50 ?kTq50 ?kDq50 KtsTurn.refl ?kAq50 ?k6q50 ?k7q50 ?k8q50 ?k9q50 ?kBq50 ?_ ?kKq50 ?c2q50 ?c3q50 ?c4q50 ?c5q50; (case kAq50 => exact rfl); (case kKq50 => assumption); (case k1q50 => k_asm); (case k2q50 => k_asm); (case k3q50 => k_asm); (case k4q50 => k_asm); (case k5q50 => k_asm); (case kXq50 => k_asm); (case kTq50 => k_asm); (case kDq50 => k_asm); (case k6q50 => k_is); (case k7q50 => k_is); (case k8q50 => walk_at "c.room"); (case k9q50 => first | exact BindsTo.of_eq (binds := [(_, _)]) rfl | exact BindsTo.of_eq (binds := [(_, _), (_, _)]) rfl | exact BindsTo.of_eq (binds := [(_, _), (_, _), (_, _)]) rfl | exact BindsTo.of_eq (binds := [(_, _), (_, _), (_, _), (_, _)]) rfl | exact BindsTo.of_eq (binds := [(_, _), (_, _), (_, _), (_, _), (_, _)]) rfl | exact BindsTo.of_eq (binds := [(_, _), (_, _), (_, _), (_, _), (_, _), (_, _)]) rfl); (case c5q50 => decide); (case kBq50 => exact locs rfl); (case c2q50 => exact rfl); (case c3q50 => exact rfl); (case c4q50 => exact rfl); k_whole; intro g' L' h' FG' F' N' B' X' T' D'; (try dsimp only); (try k_fold))))
  (k_with "Exists" => (k_here; k_dflt (refine' kda_made_str ?e1q51 ?e2q51 ?e3q51 ?e4q51 ?e5q51 ?e6q51 ?_; (case e1q51 => k_asm); (case e2q51 => k_asm); (case e3q51 => exact Top.nolimit (by k_asm)); (case e4q51 => kernel_rfl); (case e5q51 => exact of_decide_eq_true (by kernel_rfl)); (case e6q51 => kernel_rfl)); intro h' o' F' N' l1 lo' hd'; (try k_lt l1)))
  (k_with "noteFrame ref" => (k_here; (with_reducible rename RX _ _ _ _ _ _ => rkX); obtain ⟨t', vs', R'⟩ := rkX; k_dflt (refine' caught_SO0 R' ?cFq52 ?cKq52 ?cUq52 ?cXBq52 ?cTBq52 ?cDq52 ?cT0q52 ?cexq52 ?cqq52 ?_ ?chq52 ?cxq52 ?cdq52 ?cEq52; (case cFq52 => k_asm); (case cKq52 => k_asm); (case cUq52 => k_asm); (case cXBq52 => k_asm); (case cTBq52 => k_asm); (case cDq52 => k_asm); (case cT0q52 => first | k_asm | exact KtsTurn.refl); (case cexq52 => k_is); (case cqq52 => kernel_rfl); (case chq52 => rfl); (case cxq52 => rfl); (case cdq52 => decide); (case cEq52 => passes_own)); intro h' g' n2' U' F' N2' G' N' B' X' T' D'; (clear N2' G'); (try k_sweep); (try dsimp only)))
  (k_with "c.bd" => first | assumption | exact bd_int (by walk_at "c.side") (by walk_at "c.side") | exact bd_add (by assumption) (by assumption) | exact bd_sub (by assumption) (by assumption) | exact bd_mul (by assumption) (by assumption) | exact bd_div (by assumption) (by assumption) | exact bd_dim (by assumption) (by assumption) | exact bd_abs (by assumption) (by assumption) | exact bd_sign (by assumption) (by assumption) | exact bd_pow (by assumption) (by assumption) | exact bd_max (by walk_at "c.bd") (by walk_at "c.bd") | exact bd_min (by walk_at "c.bd") (by walk_at "c.bd") | exact bd_mod (by walk_at "c.bd") (by walk_at "c.bd"))
  (k_with "c.iso" => first | exact isO_int | exact isO_opt)
  (k_with "l.use.r" => ((case cB => k_asm); (case cF => k_asm); (case cX => k_asm); (case cN => k_asm); (case cT => k_asm); (case ck => first | exact rfl | assumption); (case cXB => k_asm); (case cTB => k_asm); (case cD => k_asm); (case cd => walk_at "c.room"); (case cu => walk_at "c.units")))
  (k_with "l.back" => ((with_reducible rename Fr _ _ _ _ => oF); (with_reducible rename News _ _ _ _ => oN); (with_reducible rename Below _ _ _ _ => oB); (with_reducible rename Frag.In _ _ => oX); (with_reducible rename Top _ _ _ _ _ _ => oT); (with_reducible rename KtsDicts _ _ => oD); (with_reducible rename KtsTurn _ _ _ => oU); intro t' g' h' tk' U' F' N' B' X' T' D'; (have V' := KtsTurn.trans oU U'); clear oF oN oB oX oT oD oU U'; (try dsimp only); (try k_fold)))
  (k_with "l.begin" => (walk_at "l.enter"; (with_reducible rename Below _ _ _ _ => oB); (have V' := l_refl oB)))
  (k_with "compareOp NotEq" => (k_here; first
    | ((with_reducible show wpAny _ _ (compareOp CmpOp.NotEq (optV _ _) (optV _ _)) _ _ _); k_dflt (refine neV ?_))
    | ((with_reducible show wpAny _ _ (compareOp CmpOp.NotEq (optV _ _) (Value.int _ _)) _ _ _); k_dflt (refine neV (b := some _) ?_))
    | ((with_reducible show wpAny _ _ (compareOp CmpOp.NotEq (Value.int _ _) (optV _ _)) _ _ _); k_dflt (refine neV (a := some _) ?_))))
  (k_with "compareOp Eq" => (k_here; first
    | ((with_reducible show wpAny _ _ (compareOp CmpOp.Eq (optV _ _) (optV _ _)) _ _ _); k_dflt (refine eqV ?_))
    | ((with_reducible show wpAny _ _ (compareOp CmpOp.Eq (optV _ _) (Value.int _ _)) _ _ _); k_dflt (refine eqV (b := some _) ?_))
    | ((with_reducible show wpAny _ _ (compareOp CmpOp.Eq (Value.int _ _) (optV _ _)) _ _ _); k_dflt (refine eqV (a := some _) ?_))))
  (k_with "compareOp Is" => (k_here; (with_reducible show wpAny _ _ (compareOp CmpOp.Is (optV _ _) Value.none) _ _ _); k_dflt (refine isV ?_)))
  (k_with "compareOp IsNot" => (k_here; (with_reducible show wpAny _ _ (compareOp CmpOp.IsNot (optV _ _) Value.none) _ _ _); k_dflt (refine isNotV ?_)))
  (k_with "binaryOp Mult" => (k_here; (with_reducible show wpAny _ _ (binaryOp Operator.Mult (optV _ _) (Value.int _ _)) _ _ _); k_dflt (refine' mulV ?caq67 ?cbq67 ?_; (case caq67 => assumption); (case cbq67 => intro _; exact IntMulOk.of_right (PySem.intBits_le_64 (by l_fact) (by l_fact)))); intro z' hz'))
  (k_with "call builtin:abs" => (k_here; (with_reducible show wpAny _ _ (call (Value.builtin "abs") [optV _ _]) _ _ _); k_dflt (refine' absV ?caq68 ?_; (case caq68 => assumption)); intro z' hz' t' tk'))
  (k_with "call ref" => (k_here; (with_reducible show wpAny _ _ (call (Value.ref 412) [Value.str (PySem.Str.ofString "add") _, _, _, _]) _ _ _); k_call_by "l.use" (mk_add ?h1q69 ?h2q69 ?hl1q69 ?hl2q69 ?haq69 ?hbq69 ?baq69 ?bbq69); k_dflt ((case hl1q69 => k_dflt k_mem); (case hl2q69 => k_dflt k_mem); (case haq69 => walk_at "c.iso"); (case hbq69 => walk_at "c.iso"); (case h1q69 => walk_at "c.side"); (case h2q69 => walk_at "c.side"); (case baq69 => walk_at "c.bd"); (case bbq69 => walk_at "c.bd")); (case' cr => walk_at "l.back")))
  (k_with "call ref" => (k_here; (with_reducible show wpAny _ _ (call (Value.ref 412) [Value.str (PySem.Str.ofString "sub") _, _, _, _]) _ _ _); k_call_by "l.use" (mk_sub ?h1q70 ?h2q70 ?hl1q70 ?hl2q70 ?haq70 ?hbq70 ?baq70 ?bbq70); k_dflt ((case hl1q70 => k_dflt k_mem); (case hl2q70 => k_dflt k_mem); (case haq70 => walk_at "c.iso"); (case hbq70 => walk_at "c.iso"); (case h1q70 => walk_at "c.side"); (case h2q70 => walk_at "c.side"); (case baq70 => walk_at "c.bd"); (case bbq70 => walk_at "c.bd")); (case' cr => walk_at "l.back")))
  (k_with "call ref" => (k_here; (with_reducible show wpAny _ _ (call (Value.ref 412) [Value.str (PySem.Str.ofString "mul") _, _, _, _]) _ _ _); k_call_by "l.use" (mk_mul ?h1q71 ?h2q71 ?hl1q71 ?hl2q71 ?haq71 ?hbq71 ?baq71 ?bbq71); k_dflt ((case hl1q71 => k_dflt k_mem); (case hl2q71 => k_dflt k_mem); (case haq71 => walk_at "c.iso"); (case hbq71 => walk_at "c.iso"); (case h1q71 => walk_at "c.side"); (case h2q71 => walk_at "c.side"); (case baq71 => walk_at "c.bd"); (case bbq71 => walk_at "c.bd")); (case' cr => walk_at "l.back")))
  (k_with "call ref" => (k_here; (with_reducible show wpAny _ _ (call (Value.ref 412) [Value.str (PySem.Str.ofString "div") _, _, _, _]) _ _ _); k_call_by "l.use" (mk_div ?h1q72 ?h2q72 ?hl1q72 ?hl2q72 ?haq72 ?hbq72 ?baq72 ?bbq72); k_dflt ((case hl1q72 => k_dflt k_mem); (case hl2q72 => k_dflt k_mem); (case haq72 => walk_at "c.iso"); (case hbq72 => walk_at "c.iso"); (case h1q72 => walk_at "c.side"); (case h2q72 => walk_at "c.side"); (case baq72 => walk_at "c.bd"); (case bbq72 => walk_at "c.bd")); (case' cr => walk_at "l.back")))
  (k_with "call ref" => (k_here; (with_reducible show wpAny _ _ (call (Value.ref 412) [Value.str (PySem.Str.ofString "MOD") _, _, _, _]) _ _ _); k_call_by "l.use" (mk_mod ?h1q73 ?h2q73 ?hl1q73 ?hl2q73 ?haq73 ?hbq73 ?baq73 ?bbq73); k_dflt ((case hl1q73 => k_dflt k_mem); (case hl2q73 => k_dflt k_mem); (case haq73 => walk_at "c.iso"); (case hbq73 => walk_at "c.iso"); (case h1q73 => walk_at "c.side"); (case h2q73 => walk_at "c.side"); (case baq73 => walk_at "c.bd"); (case bbq73 => walk_at "c.bd")); (case' cr => walk_at "l.back")))
  (k_with "call ref" => (k_here; (with_reducible show wpAny _ _ (call (Value.ref 412) [Value.str (PySem.Str.ofString "MAX") _, _, _, _]) _ _ _); k_call_by "l.use" (mk_max ?h1q74 ?h2q74 ?hl1q74 ?hl2q74 ?haq74 ?hbq74 ?baq74 ?bbq74); k_dflt ((case hl1q74 => k_dflt k_mem); (case hl2q74 => k_dflt k_mem); (case haq74 => walk_at "c.iso"); (case hbq74 => walk_at "c.iso"); (case h1q74 => walk_at "c.side"); (case h2q74 => walk_at "c.side"); (case baq74 => walk_at "c.bd"); (case bbq74 => walk_at "c.bd")); (case' cr => walk_at "l.back")))
  (k_with "call ref" => (k_here; (with_reducible show wpAny _ _ (call (Value.ref 412) [Value.str (PySem.Str.ofString "MIN") _, _, _, _]) _ _ _); k_call_by "l.use" (mk_min ?h1q75 ?h2q75 ?hl1q75 ?hl2q75 ?haq75 ?hbq75 ?baq75 ?bbq75); k_dflt ((case hl1q75 => k_dflt k_mem); (case hl2q75 => k_dflt k_mem); (case haq75 => walk_at "c.iso"); (case hbq75 => walk_at "c.iso"); (case h1q75 => walk_at "c.side"); (case h2q75 => walk_at "c.side"); (case baq75 => walk_at "c.bd"); (case bbq75 => walk_at "c.bd")); (case' cr => walk_at "l.back")))
  (k_with "call ref" => (k_here; (with_reducible show wpAny _ _ (call (Value.ref 412) [Value.str (PySem.Str.ofString "DIM") _, _, _, _]) _ _ _); k_call_by "l.use" (mk_dim ?h1q76 ?h2q76 ?hl1q76 ?hl2q76 ?haq76 ?hbq76 ?baq76 ?bbq76); k_dflt ((case hl1q76 => k_dflt k_mem); (case hl2q76 => k_dflt k_mem); (case haq76 => walk_at "c.iso"); (case hbq76 => walk_at "c.iso"); (case h1q76 => walk_at "c.side"); (case h2q76 => walk_at "c.side"); (case baq76 => walk_at "c.bd"); (case bbq76 => walk_at "c.bd")); (case' cr => walk_at "l.back")))
  (k_with "call ref" => (k_here; (with_reducible show wpAny _ _ (call (Value.ref 412) [Value.str (PySem.Str.ofString "ABS") _, _, _, _]) _ _ _); k_call_by "l.use" (mk_abs ?h1q77 ?h2q77 ?hl1q77 ?hl2q77 ?haq77 ?hbq77 ?baq77 ?bbq77); k_dflt ((case hl1q77 => k_dflt k_mem); (case hl2q77 => k_dflt k_mem); (case haq77 => walk_at "c.iso"); (case hbq77 => walk_at "c.iso"); (case h1q77 => walk_at "c.side"); (case h2q77 => walk_at "c.side"); (case baq77 => walk_at "c.bd"); (case bbq77 => walk_at "c.bd")); (case' cr => walk_at "l.back")))
  (k_with "call ref" => (k_here; (with_reducible show wpAny _ _ (call (Value.ref 412) [Value.str (PySem.Str.ofString "SIGN") _, _, _, _]) _ _ _); k_call_by "l.use" (mk_sign ?h1q78 ?h2q78 ?hl1q78 ?hl2q78 ?haq78 ?hbq78 ?baq78 ?bbq78); k_dflt ((case hl1q78 => k_dflt k_mem); (case hl2q78 => k_dflt k_mem); (case haq78 => walk_at "c.iso"); (case hbq78 => walk_at "c.iso"); (case h1q78 => walk_at "c.side"); (case h2q78 => walk_at "c.side"); (case baq78 => walk_at "c.bd"); (case bbq78 => walk_at "c.bd")); (case' cr => walk_at "l.back")))
  (k_with "call ref" => (k_here; (with_reducible show wpAny _ _ (call (Value.ref 412) [Value.str (PySem.Str.ofString "pow") _, _, _, _]) _ _ _); k_call_by "l.use" (mki_pown ?h1q79 ?h2q79 ?hx1q79 ?hx2q79 ?hn0q79 ?hn1q79 ?hl1q79 ?hl2q79); k_dflt ((case hl1q79 => k_dflt k_mem); (case hl2q79 => k_dflt k_mem); (case h1q79 => walk_at "c.side"); (case h2q79 => walk_at "c.side"); (case hx1q79 => walk_at "c.side"); (case hx2q79 => walk_at "c.side"); (case hn0q79 => walk_at "c.side"); (case hn1q79 => walk_at "c.side")); (case' cr => walk_at "l.back")))
  (k_with "call ref" => (k_here; (with_reducible show wpAny _ _ (call (Value.ref 412) [Value.str (PySem.Str.ofString "pow") _, _, _, _]) _ _ _); k_call_by "l.use" (mk_pow ?h1q80 ?h2q80 ?hn1q80 ?hn2q80 ?hl1q80 ?hl2q80 ?haq80 ?baq80); k_dflt ((case hl1q80 => k_dflt k_mem); (case hl2q80 => k_dflt k_mem); (case haq80 => walk_at "c.iso"); (case h1q80 => walk_at "c.side"); (case h2q80 => walk_at "c.side"); (case hn1q80 => walk_at "c.side"); (case hn2q80 => walk_at "c.side"); (case baq80 => walk_at "c.bd")); (case' cr => walk_at "l.back")))
  (k_with "call ref" => (k_here; (with_reducible show wpAny _ _ (call (Value.ref 412) [Value.str (PySem.Str.ofString "powi") _, _, _, _]) _ _ _); k_call_by "l.use" (mk_powi ?h1q81 ?h2q81 ?hn1q81 ?hn2q81 ?hl1q81 ?hl2q81 ?haq81 ?baq81); k_dflt ((case hl1q81 => k_dflt k_mem); (case hl2q81 => k_dflt k_mem); (case haq81 => walk_at "c.iso"); (case h1q81 => walk_at "c.side"); (case h2q81 => walk_at "c.side"); (case hn1q81 => walk_at "c.side"); (case hn2q81 => walk_at "c.side"); (case baq81 => walk_at "c.bd")); (case' cr => walk_at "l.back")))
  (k_with "call ref" => (k_here; (with_reducible show wpAny _ _ (call (Value.ref 412) [Value.str (PySem.Str.ofString "lt") _, _, _, _]) _ _ _); k_call_by "l.use" (mki_lt ?h1q82 ?h2q82 ?hx1q82 ?hx2q82 ?hy1q82 ?hy2q82 ?hl1q82 ?hl2q82); k_dflt ((case hl1q82 => k_dflt k_mem); (case hl2q82 => k_dflt k_mem); (case h1q82 => walk_at "c.side"); (case h2q82 => walk_at "c.side"); (case hx1q82 => walk_at "c.side"); (case hx2q82 => walk_at "c.side"); (case hy1q82 => walk_at "c.side"); (case hy2q82 => walk_at "c.side")); (case' cr => walk_at "l.back")))
  (k_with "call ref" => (k_here; (with_reducible show wpAny _ _ (call (Value.ref 412) [Value.str (PySem.Str.ofString "ge") _, _, _, _]) _ _ _); k_call_by "l.use" (mki_ge ?h1q83 ?h2q83 ?hx1q83 ?hx2q83 ?hy1q83 ?hy2q83 ?hl1q83 ?hl2q83); k_dflt ((case hl1q83 => k_dflt k_mem); (case hl2q83 => k_dflt k_mem); (case h1q83 => walk_at "c.side"); (case h2q83 => walk_at "c.side"); (case hx1q83 => walk_at "c.side"); (case hx2q83 => walk_at "c.side"); (case hy1q83 => walk_at "c.side"); (case hy2q83 => walk_at "c.side")); (case' cr => walk_at "l.back")))
  (k_with "exec While Compare cons nil" => (k_here; (with_reducible rename Fr _ _ _ _ => lF'); (with_reducible rename News _ _ _ _ => lN'); k_dflt (refine' ksw_while (σ := Int × Int × Tok × Tok) (fun _ => _) (fun c => [(Str.ofString "n", .int c.1 c.2.2.1), (Str.ofString "count", .int c.2.1 c.2.2.2)]) (fun _ => True) [] (CdP _) (fun c => c.1.toNat) (_, _, _, _) lF' lN' trivial ?kkq92 ?kpq92 ?_ ?hEq92; (case kkq92 => kst_all); (case kpq92 => first | exact cd_start | assumption); (case hEq92 => first | passes_own | with_unfolding_all passes_own)); clear lF' lN'; rintro ⟨a', c', t', u'⟩ kU' h' tk' - hI' F' N'; (try dsimp only [kstB] at F'); (try dsimp only); (try k_fold)))
  (k_with "KswEnd" => (k_dflt (refine' ksw_end (_, _, _, _) ?kFq93 ?kNq93 (fun _ h => h) trivial ?kkq93 ?krq93 ?kpq93 ?kmq93; (case kFq93 => assumption); (case kNq93 => assumption); (case kkq93 => kst_all); (case krq93 => ksw_same); (case kpq93 => first | exact cd_nine (by assumption) (by assumption) | exact cd_one (by assumption) (by assumption)); (case kmq93 => first | exact cd_m9 (by assumption) | exact cd_m1 (by assumption)))))
  (k_with "t.sub" => first | assumption | exact fun _ hp => hp | (intro p hp; k_mem))
  (k_with "t.is" => first | assumption | exact IsT.nought | k_dflt (exact IsT.new (by k_mem)) | (refine' IsT.mono (by assumption) ?hzq95; (case hzq95 => walk_at "t.sub")))
  (k_with "t.use.r" => ((case cB => k_asm); (case cF => k_asm); (case cX => k_asm); (case cN => k_asm); (case cT => k_asm); (case ck => first | exact rfl | assumption); (case cd => walk_at "c.room"); (case cu => walk_at "c.units")))
  (k_with "t.back" => (case' cr => (intro b' z' e' n' h' tk' hP' hT' hS' F' N'; (try k_sweep); (try dsimp only); (try k_fold))))
  (k_with "subscriptTail" => (k_here; first
    | ((with_reducible show wpAny _ _ (subscriptTail _ _ (Value.ref _) (Value.int 0 _)) _ _ _); k_dflt (refine' tup_item0 ?cFq97 ?cXq97 ?cNq97 ?cHq97 ?_ ?csq97; (case cFq97 => k_asm); (case cXq97 => k_asm); (case cNq97 => k_asm); (case cHq97 => walk_at "t.is"); (case csq97 => with_unfolding_all rfl)); intro t')
    | ((with_reducible show wpAny _ _ (subscriptTail _ _ (Value.ref _) (Value.int 1 _)) _ _ _); k_dflt (refine' tup_item1 ?cFq97 ?cXq97 ?cNq97 ?cHq97 ?_ ?csq97; (case cFq97 => k_asm); (case cXq97 => k_asm); (case cNq97 => k_asm); (case cHq97 => walk_at "t.is"); (case csq97 => with_unfolding_all rfl)); intro t')))
  (k_with "assign Tuple" => (k_here; k_dflt (refine' tup_assign ?chq98 ?cFq98 ?cXq98 ?cNq98 ?cHq98 ?cnq98 ?csq98 ?_; (case chq98 => exact rfl); (case cFq98 => k_asm); (case cXq98 => k_asm); (case cNq98 => k_asm); (case cHq98 => walk_at "t.is"); (case cnq98 => exact rfl); (case csq98 => exact rfl)); intro t' u' h' F' N'; (try k_sweep)))
  (k_with "t.is" => first | assumption | exact IsT.nought | (refine' IsT.mono (by assumption) ?hzq99; (case hzq99 => walk_at "t.sub")) | k_dflt (exact IsT.new (by k_mem)))
  (k_with "exec While Compare cons nil" => (k_here; (with_reducible rename Fr _ _ _ _ => lF'); (with_reducible rename News _ _ _ _ => lN'); k_dflt (refine' ksw_while (σ := Int × Int × Tok × Tok) (fun _ => _) (fun c => [(Str.ofString "m", .int c.1 c.2.2.1), (Str.ofString "e", .int c.2.1 c.2.2.2)]) (fun _ => True) [] (StP _ _) (fun c => c.1.natAbs) (_, _, _, _) lF' lN' trivial ?kkq100 ?kpq100 ?_ ?hEq100; (case kkq100 => kst_all); (case kpq100 => exact stp_start (by assumption)); (case hEq100 => first | passes_own | with_unfolding_all passes_own)); clear lF' lN'; rintro ⟨a', c', t', u'⟩ kU' h' tk' - hI' F' N'; (try dsimp only [kstB] at F'); (try dsimp only); (try k_fold)))
  (k_with "KswEnd" => (k_dflt (refine' ksw_end (_, _, _, _) ?kFq101 ?kNq101 (fun _ h => h) trivial ?kkq101 ?krq101 ?kpq101 ?kmq101; (case kFq101 => assumption); (case kNq101 => assumption); (case kkq101 => kst_all); (case krq101 => ksw_same); (case kpq101 => exact stp_step (by assumption) (by assumption)); (case kmq101 => exact stp_less (stp_ne (by assumption)) (by assumption)))))
  (k_with "call builtin:divmod" => (k_here; k_dflt (refine' divmod_g ?cFq102 ?cNq102 ?e1q102 ?e2q102 ?eyq102 ?elq102 ?_; (case cFq102 => k_asm); (case cNq102 => k_asm); (case e1q102 => first | exact rfl | exact mul_ten_nat _ _); (case e2q102 => first | exact rfl | exact ten_nat); (case eyq102 => first | exact ten_pos | walk_at "c.num"); (case elq102 => first | exact ten_small (by walk_at "c.num") | walk_at "c.num")); intro D' h' t' u' tk' F' N'; (try k_sweep)))
  (k_with "c.ne" => first | assumption | decide | omega | exact ten_ne _)
  (k_with "c.py" => first | assumption | (rw [Int.natAbs_natCast]; assumption) | decide | exact log2_40 (by assumption) (by assumption) | exact ten_log (by walk_at "c.num"))
  (k_with "binaryOp Mult int int" => (k_here; (with_reducible show wpAny _ _ (binaryOp _ (Value.int _ _) (Value.int (10 ^ _) _)) _ _ _); k_dflt (refine' PyProof.Rows.mul_int ?_ ?ckq105; (case ckq105 => exact mul_ten_ok (by walk_at "c.num")))))
  (k_with "call ref" => (k_here; (with_reducible show wpAny _ _ (call (Value.ref 153) _) _ _ _); k_call_by "c.use" (count_digits_c ); walk_at "c.back"))
  (k_with "call ref" => (k_here; (with_reducible show wpAny _ _ (call (Value.ref 160) _) _ _ _); k_call_by "t.use" (strip_zeros_c ); walk_at "t.back"))
  (k_with "call ref" => (k_here; (with_reducible show wpAny _ _ (call (Value.ref 153) _) _ _ _); k_call_by "c.use" (count_digits_c ); walk_at "c.back"))
  (k_with "call ref" => (k_here; (with_reducible show wpAny _ _ (call (Value.ref 167) _) _ _ _); k_call_by "t.use" (round_digits_c ?hxq109); (case hxq109 => walk_at "c.side"); walk_at "t.back"))
  (k_with "r.side" => first | assumption | omega | exact tn_abs (by assumption) (by assumption) | exact tn_e1 (by assumption) | exact tn_e2 (by assumption) | exact tn_neg (by assumption) (by assumption))
  (k_with "call ref" => (k_here; (with_reducible show wpAny _ _ (call (Value.ref 195) _) _ _ _); k_call_by "t.use" (real_neg_c ?hT1q111); (case hT1q111 => walk_at "t.is"); walk_at "t.back"))
  (k_with "call ref" => (k_here; (with_reducible show wpAny _ _ (call (Value.ref 174) _) _ _ _); k_call_by "t.use" (round_exact_c ?hxq112 ?hy1q112 ?hy2q112); (case hxq112 => walk_at "r.side"); (case hy1q112 => walk_at "r.side"); (case hy2q112 => walk_at "r.side"); walk_at "t.back"))
  (k_with "call ref" => (k_here; (with_reducible show wpAny _ _ (call (Value.ref 181) _) _ _ _); k_call_by "t.use" (exact_add_c ?hT1q113 ?hT2q113 ?hxq113 ?hyq113); (case hT1q113 => walk_at "t.is"); (case hT2q113 => walk_at "t.is"); (case hxq113 => walk_at "r.side"); (case hyq113 => walk_at "r.side"); walk_at "t.back"))
  (k_with "call ref" => (k_here; (with_reducible show wpAny _ _ (call (Value.ref 153) _) _ _ _); k_call_by "c.use" (count_digits_c ); walk_at "c.back"))
  (k_with "call ref" => (k_here; (with_reducible show wpAny _ _ (call (Value.ref 160) _) _ _ _); k_call_by "t.use" (strip_zeros_c ); walk_at "t.back"))
  trivial
section
theorem ln52 : True := by
  (k_with "r.side" => first | assumption | omega | exact tn_abs (by assumption) (by assumption) | exact tn_e1 (by assumption) | exact tn_e2 (by assumption) | exact tn_e60 (by assumption) | exact tn_e16 (by assumption) | exact tn_half | exact tn_nabs (by assumption) | exact un_ne (by assumption) | exact log_15 (un_bd (by assumption) (by omega) (by omega) (by assumption)) | exact rest_15 (un_bd (by assumption) (by omega) (by omega) (by assumption)))
  (k_with "binaryOp Mult int int" => (k_here; (with_reducible show wpAny _ _ (binaryOp _ (Value.int (Int.tdiv _ _) _) (Value.int (_ * 10 ^ _) _)) _ _ _); k_dflt (refine' PyProof.Rows.mul_int ?_ ?ckq133; (case ckq133 => exact mul_15 (un_bd (by assumption) (by omega) (by omega) (by assumption))))))
  trivial
theorem ln53 : True := by
  (k_with "call ref" => (k_here; (with_reducible show wpAny _ _ (call (Value.ref 251) _) _ _ _); k_call_by "c.use" (real_to_int_c ?hT1q134 ?he1q134 ?he2q134); (case hT1q134 => walk_at "t.is"); (case he1q134 => walk_at "r.side"); (case he2q134 => walk_at "r.side"); walk_at "c.back"))
  (k_with "call ref" => (k_here; (with_reducible show wpAny _ _ (call (Value.ref 174) _) _ _ _); k_call_by "t.use" (round_exact_c ?hxq135 ?hy1q135 ?hy2q135); (case hxq135 => walk_at "r.side"); (case hy1q135 => walk_at "r.side"); (case hy2q135 => walk_at "r.side"); walk_at "t.back"))
  (k_with "call ref" => (k_here; (with_reducible show wpAny _ _ (call (Value.ref 181) _) _ _ _); k_call_by "t.use" (exact_add_c ?hT1q136 ?hT2q136 ?hxq136 ?hyq136); (case hT1q136 => walk_at "t.is"); (case hT2q136 => walk_at "t.is"); (case hxq136 => walk_at "r.side"); (case hyq136 => walk_at "r.side"); walk_at "t.back"))
  (k_with "call ref" => (k_here; (with_reducible show wpAny _ _ (call (Value.ref 272) _) _ _ _); k_call_by "c.use" (digits_of_c ?hl1q137 ?hl2q137); (case hl1q137 => k_dflt k_mem); (case hl2q137 => k_dflt k_mem); walk_at "c.back"))
  trivial
theorem half_up_c {w : World} {news : List (Addr × Obj)} {p : Addr} {U m1 e1 : Int} (hT1 : IsT news p m1 e1) (hx : Tn U m1 e1) :
    Ct 9 w 300 [.ref p] news (fun t => .int (hup U) t) False := by
  intro mean mg mb dp un gd cn cs a ccd outer A₀ base h₀ L m s Q E B F X N T hk hd hu hret hexn
  walk_at "c.enter"
  k_steps
  all_goals ((refine' retI ?e (hret _ _ _ ?_ ?c1 ?c2); (case c1 => k_asm); (case c2 => first | k_asm | (refine' News.perm (by k_asm) ?hz; (case hz => walk_at "t.sub")))); (case e => first | exact hup_neg hx (by assumption) (by assumption) | exact hup_pos hx (by assumption) (by assumption)); exact id)
theorem real_of_int_c {w : World} {news : List (Addr × Obj)} {n : Int} {t u v : Tok} (hn : n.natAbs < 10 ^ 15) :
    CtT 15 w 244 [.int n t, .int 15 u, .int 38 v] news (Nf (n * 10)) := by
  have h01 : (-1 : Int) ≤ 0 := by decide
  have h02 : (0 : Int) ≤ 15 := by decide
  intro mean mg mb dp un gd cn cs a ccd outer A₀ base h₀ L m s Q E B F X N T hk hd hu hret
  walk_at "c.enter"
  k_steps
  all_goals ((refine' hret _ _ _ _ _ _ ?_ ?c1 ?c2 ?c3 ?c4; (case c3 => k_asm); (case c4 => k_asm); (case c1 => walk_at "t.is"); (case c2 => walk_at "t.sub")); assumption)
theorem ln54 : True := by
  (k_with "call ref" => (k_here; (with_reducible show wpAny _ _ (call (Value.ref 53) _) _ _ _); k_call_by "c.use" (fit_int_c ?h1q138 ?h2q138); (case h1q138 => walk_at "r.side"); (case h2q138 => walk_at "r.side"); walk_at "c.back"))
  (k_with "call ref" => (k_here; (with_reducible show wpAny _ _ (call (Value.ref 251) _) _ _ _); k_call_by "c.use" (real_to_int_c ?hT1q139 ?he1q139 ?he2q139); (case hT1q139 => walk_at "t.is"); (case he1q139 => walk_at "r.side"); (case he2q139 => walk_at "r.side"); walk_at "c.back"))
  (k_with "call ref" => (k_here; (with_reducible show wpAny _ _ (call (Value.ref 300) _) _ _ _); k_call_by "c.use" (half_up_c ?hT1q140 ?hxq140); (case hT1q140 => walk_at "t.is"); (case hxq140 => walk_at "r.side"); walk_at "c.back"))
  (k_with "call ref" => (k_here; (with_reducible show wpAny _ _ (call (Value.ref 174) _) _ _ _); k_call_by "t.use" (round_exact_c ?hxq141 ?hy1q141 ?hy2q141); (case hxq141 => walk_at "r.side"); (case hy1q141 => walk_at "r.side"); (case hy2q141 => walk_at "r.side"); walk_at "t.back"))
  (k_with "call ref" => (k_here; (with_reducible show wpAny _ _ (call (Value.ref 272) _) _ _ _); k_call_by "c.use" (digits_of_c ?hl1q142 ?hl2q142); (case hl1q142 => k_dflt k_mem); (case hl2q142 => k_dflt k_mem); walk_at "c.back"))
  (k_with "call ref" => (k_here; (with_reducible show wpAny _ _ (call (Value.ref 244) _) _ _ _); k_call_by "t.use" (real_of_int_c ?hnq143); (case hnq143 => walk_at "r.side"); walk_at "t.back"))
  trivial
theorem conv_int {w : World} {news : List (Addr × Obj)} {W : Int} {t u lu : Tok} {lk : Nat → Tok} {la dx p : Addr} {U m1 e1 : Int} (h1 : 2 ≤ W) (h2 : W ≤ 40) (hl1 : (la, instObj 141 dx) ∈ news) (hl2 : (dx, limD w.params W lu lk) ∈ news) (hT1 : IsT news p m1 e1) (hx : Tn U m1 e1) :
    Ct 7 w 293 [.ref p, .int 2 t, .int 0 u, .ref la] news (fun t => .int (rti m1 e1) t) (NoFit W (rti m1 e1)) := by
  intro mean mg mb dp un gd cn cs a ccd outer A₀ base h₀ L m s Q E B F X N T hk hd hu hret hexn
  walk_at "c.enter"
  k_steps
  all_goals first | ((refine' hret _ _ _ ?_ ?c1 ?c2; (case c1 => k_asm); (case c2 => k_asm)); assumption) | ((refine' hexn ?_ _ _ _ _ ?c1 ?c2 ?c3; (case c2 => first | k_asm | exact RX.sub (by assumption) (fun p hp => List.mem_append_left _ hp)); (case c3 => k_asm); (case c1 => k_asm)); assumption)
theorem near_int_c {w : World} {news : List (Addr × Obj)} {W : Int} {lu : Tok} {lk : Nat → Tok} {la dx lc lv p : Addr} {U m1 e1 : Int} (h1 : 2 ≤ W) (h2 : W ≤ 40) (hl1 : (la, instObj 141 dx) ∈ news) (hl2 : (dx, limD w.params W lu lk) ∈ news) (hl4 : (lv, listOf [.ref p].toArray 0) ∈ news) (hT1 : IsT news p m1 e1) (hx : Tn U m1 e1) :
    Ct 11 w 328 [.ref lc, .ref lv, .ref la] news (fun t => .int (hup U) t) (NoFit W (hup U)) := by
  intro mean mg mb dp un gd cn cs a ccd outer A₀ base h₀ L m s Q E B F X N T hk hd hu hret hexn
  walk_at "c.enter"
  k_steps
  all_goals first | ((refine' hret _ _ _ ?_ ?c1 ?c2; (case c1 => k_asm); (case c2 => k_asm)); assumption) | ((refine' hexn ?_ _ _ _ _ ?c1 ?c2 ?c3; (case c2 => first | k_asm | exact RX.sub (by assumption) (fun p hp => List.mem_append_left _ hp)); (case c3 => k_asm); (case c1 => k_asm)); assumption)
theorem cut_real_c {w : World} {news : List (Addr × Obj)} {W : Int} {t0 lu : Tok} {lk : Nat → Tok} {la dx lc lv p : Addr} {c m1 e1 : Int} (hl1 : (la, instObj 141 dx) ∈ news) (hl2 : (dx, limD w.params W lu lk) ∈ news) (hl3 : (lc, listOf [.int 2 t0].toArray 0) ∈ news) (hl4 : (lv, listOf [.ref p].toArray 0) ∈ news) (hT1 : IsT news p m1 e1) (he1 : -60 ≤ e1) (he2 : e1 ≤ 16) (hc : rti m1 e1 = c) (hb : c.natAbs < 10 ^ 15) :
    CtT 16 w 321 [.ref lc, .ref lv, .ref la] news (Nf (c * 10)) := by
  have hb' : (rti m1 e1).natAbs < 10 ^ 15 := by rw [hc]; exact hb
  have h01 : (-1 : Int) ≤ 0 := by decide
  have h02 : (0 : Int) ≤ 15 := by decide
  intro mean mg mb dp un gd cn cs a ccd outer A₀ base h₀ L m s Q E B F X N T hk hd hu hret
  walk_at "c.enter"
  k_steps
  all_goals ((refine' hret _ _ _ _ _ _ ?_ ?c1 ?c2 ?c3 ?c4; (case c3 => k_asm); (case c4 => k_asm); (case c1 => walk_at "t.is"); (case c2 => walk_at "t.sub")); rw [← hc]; assumption)
theorem real_as_c {w : World} {news : List (Addr × Obj)} {W : Int} {t u v lu : Tok} {lk : Nat → Tok} {la dx : Addr} {n : Int} (hl1 : (la, instObj 141 dx) ∈ news) (hl2 : (dx, limD w.params W lu lk) ∈ news) (hn : n.natAbs < 10 ^ 15) :
    CtT 17 w 286 [.int n t, .int 0 u, .int 2 v, .ref la] news (Nf (n * 10)) := by
  intro mean mg mb dp un gd cn cs a ccd outer A₀ base h₀ L m s Q E B F X N T hk hd hu hret
  walk_at "c.enter"
  k_steps
  all_goals ((refine' hret _ _ _ _ _ _ ?_ ?c1 ?c2 ?c3 ?c4; (case c3 => k_asm); (case c4 => k_asm); (case c1 => walk_at "t.is"); (case c2 => walk_at "t.sub")); assumption)
theorem ln55 : True := by
  (k_with "call ref" => (k_here; (with_reducible show wpAny _ _ (call (Value.ref 209) _) _ _ _); k_call_by "t.use" (real_add_c ?hT1q144 ?hT2q144 ?hxq144 ?hyq144 ?hbq144); (case hT1q144 => walk_at "t.is"); (case hT2q144 => walk_at "t.is"); (case hxq144 => walk_at "r.side"); (case hyq144 => walk_at "r.side"); (case hbq144 => walk_at "r.side"); walk_at "t.back"))
  (k_with "call ref" => (k_here; (with_reducible show wpAny _ _ (call (Value.ref 216) _) _ _ _); k_call_by "t.use" (real_sub_c ?hT1q145 ?hT2q145 ?hxq145 ?hyq145 ?hbq145); (case hT1q145 => walk_at "t.is"); (case hT2q145 => walk_at "t.is"); (case hxq145 => walk_at "r.side"); (case hyq145 => walk_at "r.side"); (case hbq145 => walk_at "r.side"); walk_at "t.back"))
  (k_with "call ref" => (k_here; (with_reducible show wpAny _ _ (call (Value.ref 223) _) _ _ _); k_call_by "t.use" (real_mul_c ?hT1q146 ?hT2q146 ?hxq146 ?hyq146 ?hbq146 ?hb2q146); (case hT1q146 => walk_at "t.is"); (case hT2q146 => walk_at "t.is"); (case hxq146 => walk_at "r.side"); (case hyq146 => walk_at "r.side"); (case hbq146 => walk_at "r.side"); (case hb2q146 => walk_at "r.side"); walk_at "t.back"))
  (k_with "call ref" => (k_here; (with_reducible show wpAny _ _ (call (Value.ref 230) _) _ _ _); k_call_by "t.use" (real_div_c ?hT1q147 ?hT2q147 ?hxq147 ?hyq147 ?huq147 ?hv0q147 ?hvq147); (case hT1q147 => walk_at "t.is"); (case hT2q147 => walk_at "t.is"); (case hxq147 => walk_at "r.side"); (case hyq147 => walk_at "r.side"); (case huq147 => walk_at "r.side"); (case hv0q147 => walk_at "r.side"); (case hvq147 => walk_at "r.side"); walk_at "t.back"))
  (k_with "call ref" => (k_here; (with_reducible show wpAny _ _ (call (Value.ref 272) _) _ _ _); k_call_by "c.use" (digits_of_c ?hl1q148 ?hl2q148); (case hl1q148 => k_dflt k_mem); (case hl2q148 => k_dflt k_mem); walk_at "c.back"))
  trivial
theorem rb_add {w : World} {news : List (Addr × Obj)} {W : Int} {t0 t1 lu : Tok} {lk : Nat → Tok} {la dx p q : Addr} {U V m1 e1 m2 e2 : Int} (hl1 : (la, instObj 141 dx) ∈ news) (hl2 : (dx, limD w.params W lu lk) ∈ news) (hT1 : IsT news p m1 e1) (hT2 : IsT news q m2 e2) (hx : Tn U m1 e1) (hy : Tn V m2 e2) (hb : (U + V).natAbs < 10 ^ 15) :
    CtT 18 w 279 [.str "add" t0, .int 2 t1, .ref p, .ref q, .ref la] news (Nf (U + V)) := by
  intro mean mg mb dp un gd cn cs a ccd outer A₀ base h₀ L m s Q E B F X N T hk hd hu hret
  walk_at "c.enter"
  k_steps
  all_goals ((refine' hret _ _ _ _ _ _ ?_ ?c1 ?c2 ?c3 ?c4; (case c3 => k_asm); (case c4 => k_asm); (case c1 => walk_at "t.is"); (case c2 => walk_at "t.sub")); assumption)
theorem rb_sub {w : World} {news : List (Addr × Obj)} {W : Int} {t0 t1 lu : Tok} {lk : Nat → Tok} {la dx p q : Addr} {U V m1 e1 m2 e2 : Int} (hl1 : (la, instObj 141 dx) ∈ news) (hl2 : (dx, limD w.params W lu lk) ∈ news) (hT1 : IsT news p m1 e1) (hT2 : IsT news q m2 e2) (hx : Tn U m1 e1) (hy : Tn V m2 e2) (hb : (U + -V).natAbs < 10 ^ 15) :
    CtT 18 w 279 [.str "sub" t0, .int 2 t1, .ref p, .ref q, .ref la] news (Nf (U + -V)) := by
  intro mean mg mb dp un gd cn cs a ccd outer A₀ base h₀ L m s Q E B F X N T hk hd hu hret
  walk_at "c.enter"
  k_steps
  all_goals ((refine' hret _ _ _ _ _ _ ?_ ?c1 ?c2 ?c3 ?c4; (case c3 => k_asm); (case c4 => k_asm); (case c1 => walk_at "t.is"); (case c2 => walk_at "t.sub")); assumption)
theorem rb_mul {w : World} {news : List (Addr × Obj)} {W : Int} {t0 t1 lu : Tok} {lk : Nat → Tok} {la dx p q : Addr} {K V m1 e1 m2 e2 : Int} (hl1 : (la, instObj 141 dx) ∈ news) (hl2 : (dx, limD w.params W lu lk) ∈ news) (hT1 : IsT news p m1 e1) (hT2 : IsT news q m2 e2) (hx : Nf (10 * K) m1 e1) (hy : Nf V m2 e2) (hb : (K * V).natAbs < 10 ^ 15) (hb2 : (10 * K).natAbs < 10 ^ 15 ∧ V.natAbs < 10 ^ 15) :
    CtT 18 w 279 [.str "mul" t0, .int 2 t1, .ref p, .ref q, .ref la] news (Nf (K * V)) := by
  intro mean mg mb dp un gd cn cs a ccd outer A₀ base h₀ L m s Q E B F X N T hk hd hu hret
  walk_at "c.enter"
  k_steps
  all_goals ((refine' hret _ _ _ _ _ _ ?_ ?c1 ?c2 ?c3 ?c4; (case c3 => k_asm); (case c4 => k_asm); (case c1 => walk_at "t.is"); (case c2 => walk_at "t.sub")); assumption)
theorem rb_div {w : World} {news : List (Addr × Obj)} {W : Int} {t0 t1 lu : Tok} {lk : Nat → Tok} {la dx p q : Addr} {U V m1 e1 m2 e2 : Int} (hl1 : (la, instObj 141 dx) ∈ news) (hl2 : (dx, limD w.params W lu lk) ∈ news) (hT1 : IsT news p m1 e1) (hT2 : IsT news q m2 e2) (hx : Nf U m1 e1) (hy : Nf V m2 e2) (hu : U.natAbs < 10 ^ 13) (hv0 : V ≠ 0) (hv : V.natAbs ≤ 99) :
    CtT 20 w 279 [.str "div" t0, .int 2 t1, .ref p, .ref q, .ref la] news (Dv U V) := by
  intro mean mg mb dp un gd cn cs a ccd outer A₀ base h₀ L m s Q E B F X N T hk hd hu' hret
  walk_at "c.enter"
  k_steps
  all_goals ((refine' hret _ _ _ _ _ _ ?_ ?c1 ?c2 ?c3 ?c4; (case c3 => k_asm); (case c4 => k_asm); (case c1 => walk_at "t.is"); (case c2 => walk_at "t.sub")); assumption)
theorem ln56 : True := by
  (k_with "call ref" => (k_here; (with_reducible show wpAny _ _ (call (Value.ref 293) _) _ _ _); k_call_by "c.use" (conv_int ?h1q149 ?h2q149 ?hl1q149 ?hl2q149 ?hT1q149 ?hxq149); (case h1q149 => walk_at "r.side"); (case h2q149 => walk_at "r.side"); (case hl1q149 => k_dflt k_mem); (case hl2q149 => k_dflt k_mem); (case hT1q149 => walk_at "t.is"); (case hxq149 => walk_at "r.side"); walk_at "c.back"))
  (k_with "call ref" => (k_here; (with_reducible show wpAny _ _ (call (Value.ref 286) _) _ _ _); k_call_by "t.use" (real_as_c ?hl1q150 ?hl2q150 ?hnq150); (case hl1q150 => k_dflt k_mem); (case hl2q150 => k_dflt k_mem); (case hnq150 => walk_at "r.side"); walk_at "t.back"))
  trivial
theorem as_int_c {w : World} {news : List (Addr × Obj)} {W : Int} {t0 lu : Tok} {lk : Nat → Tok} {la dx lc lv p : Addr} {U m1 e1 : Int} (h1 : 2 ≤ W) (h2 : W ≤ 40) (hl1 : (la, instObj 141 dx) ∈ news) (hl2 : (dx, limD w.params W lu lk) ∈ news) (hl3 : (lc, listOf [.int 2 t0].toArray 0) ∈ news) (hl4 : (lv, listOf [.ref p].toArray 0) ∈ news) (hT1 : IsT news p m1 e1) (hx : Tn U m1 e1) :
    Ct 9 w 307 [.ref lc, .ref lv, .ref la] news (fun t => .int (Int.tdiv U 10) t) (NoFit W (Int.tdiv U 10)) := by
  intro mean mg mb dp un gd cn cs a ccd outer A₀ base h₀ L m s Q E B F X N T hk hd hu hret hexn
  walk_at "c.enter"
  k_steps
  all_goals (try rw [tn_rti hx] at *)
  all_goals first | ((refine' hret _ _ _ ?_ ?c1 ?c2; (case c1 => k_asm); (case c2 => k_asm)); assumption) | ((refine' hexn ?_ _ _ _ _ ?c1 ?c2 ?c3; (case c2 => first | k_asm | exact RX.sub (by assumption) (fun p hp => List.mem_append_left _ hp)); (case c3 => k_asm); (case c1 => k_asm)); assumption)
theorem as_double_c {w : World} {news : List (Addr × Obj)} {W : Int} {t0 t lu : Tok} {lk : Nat → Tok} {la dx lc lv : Addr} {n : Int} (hl1 : (la, instObj 141 dx) ∈ news) (hl2 : (dx, limD w.params W lu lk) ∈ news) (hl3 : (lc, listOf [.int 0 t0].toArray 0) ∈ news) (hl4 : (lv, listOf [.int n t].toArray 0) ∈ news) (hn : n.natAbs < 10 ^ 15) :
    CtT 19 w 314 [.ref lc, .ref lv, .ref la] news (Nf (n * 10)) := by
  intro mean mg mb dp un gd cn cs a ccd outer A₀ base h₀ L m s Q E B F X N T hk hd hu hret
  walk_at "c.enter"
  k_steps
  all_goals ((refine' hret _ _ _ _ _ _ ?_ ?c1 ?c2 ?c3 ?c4; (case c3 => k_asm); (case c4 => k_asm); (case c1 => walk_at "t.is"); (case c2 => walk_at "t.sub")); assumption)
theorem ln57 : True := by
  (k_with "call ref" => (k_here; (with_reducible show wpAny _ _ (call (Value.ref 328) _) _ _ _); k_call_by "c.use" (near_int_c ?h1q151 ?h2q151 ?hl1q151 ?hl2q151 ?hl4q151 ?hT1q151 ?hxq151); (case h1q151 => walk_at "r.side"); (case h2q151 => walk_at "r.side"); (case hl1q151 => k_dflt k_mem); (case hl2q151 => k_dflt k_mem); (case hl4q151 => k_dflt k_mem); (case hT1q151 => walk_at "t.is"); (case hxq151 => walk_at "r.side"); walk_at "c.back"))
  (k_with "call ref" => (k_here; (with_reducible show wpAny _ _ (call (Value.ref 307) _) _ _ _); k_call_by "c.use" (as_int_c ?h1q152 ?h2q152 ?hl1q152 ?hl2q152 ?hl3q152 ?hl4q152 ?hT1q152 ?hxq152); (case h1q152 => walk_at "r.side"); (case h2q152 => walk_at "r.side"); (case hl1q152 => k_dflt k_mem); (case hl2q152 => k_dflt k_mem); (case hl3q152 => k_dflt k_mem); (case hl4q152 => k_dflt k_mem); (case hT1q152 => walk_at "t.is"); (case hxq152 => walk_at "r.side"); walk_at "c.back"))
  trivial
theorem whole_near {w : World} {news : List (Addr × Obj)} {W : Int} {lu : Tok} {lk : Nat → Tok} {la dx p : Addr} {U m1 e1 : Int} (h1 : 2 ≤ W) (h2 : W ≤ 40) (hl1 : (la, instObj 141 dx) ∈ news) (hl2 : (dx, limD w.params W lu lk) ∈ news) (hT1 : IsT news p m1 e1) (hx : Tn U m1 e1) :
    CtL 13 w 419 [.ref 328, .ref p, .ref la] news (fun t => optV (fitO W (hup U)) t) := by
  intro mean mg mb dp un gd cn cs a ccd outer A₀ base h₀ L m s Q E B F X N T hk XB TB D hd hu hret
  walk_at "l.enter"
  k_steps
  all_goals first
    | ((refine' retV ?_ (hret 0 _ _ _ ?c1 ?c2 ?c3 ?c4 ?c5 ?c6 ?c7); (case c2 => k_asm); (case c3 => first | k_asm | exact news_tl (by k_asm) | exact news_tl (news_tl (by k_asm)) | exact news_tl (news_tl (news_tl (by k_asm))) | exact news_tl (news_tl (news_tl (news_tl (by k_asm))))); (case c1 => first | k_asm | exact KtsTurn.refl); (case c4 => k_asm); (case c5 => k_asm); (case c6 => k_asm); (case c7 => k_asm)); rw [fitO_none (by assumption)]; rfl)
    | ((refine' retV ?_ (hret _ _ _ _ ?c1 ?c2 ?c3 ?c4 ?c5 ?c6 ?c7); (case c2 => k_asm); (case c3 => first | k_asm | exact news_tl (by k_asm) | exact news_tl (news_tl (by k_asm)) | exact news_tl (news_tl (news_tl (by k_asm))) | exact news_tl (news_tl (news_tl (news_tl (by k_asm))))); (case c1 => first | k_asm | exact KtsTurn.refl); (case c4 => k_asm); (case c5 => k_asm); (case c6 => k_asm); (case c7 => k_asm)); rw [fitO_some (by assumption)]; rfl)
theorem whole_int {w : World} {news : List (Addr × Obj)} {W : Int} {lu : Tok} {lk : Nat → Tok} {la dx p : Addr} {U m1 e1 : Int} (h1 : 2 ≤ W) (h2 : W ≤ 40) (hl1 : (la, instObj 141 dx) ∈ news) (hl2 : (dx, limD w.params W lu lk) ∈ news) (hT1 : IsT news p m1 e1) (hx : Tn U m1 e1) :
    CtL 13 w 419 [.ref 307, .ref p, .ref la] news (fun t => optV (fitO W (Int.tdiv U 10)) t) := by
  intro mean mg mb dp un gd cn cs a ccd outer A₀ base h₀ L m s Q E B F X N T hk XB TB D hd hu hret
  walk_at "l.enter"
  k_steps
  all_goals first
    | ((refine' retV ?_ (hret 0 _ _ _ ?c1 ?c2 ?c3 ?c4 ?c5 ?c6 ?c7); (case c2 => k_asm); (case c3 => first | k_asm | exact news_tl (by k_asm) | exact news_tl (news_tl (by k_asm)) | exact news_tl (news_tl (news_tl (by k_asm))) | exact news_tl (news_tl (news_tl (news_tl (by k_asm))))); (case c1 => first | k_asm | exact KtsTurn.refl); (case c4 => k_asm); (case c5 => k_asm); (case c6 => k_asm); (case c7 => k_asm)); rw [fitO_none (by assumption)]; rfl)
    | ((refine' retV ?_ (hret _ _ _ _ ?c1 ?c2 ?c3 ?c4 ?c5 ?c6 ?c7); (case c2 => k_asm); (case c3 => first | k_asm | exact news_tl (by k_asm) | exact news_tl (news_tl (by k_asm)) | exact news_tl (news_tl (news_tl (by k_asm))) | exact news_tl (news_tl (news_tl (news_tl (by k_asm))))); (case c1 => first | k_asm | exact KtsTurn.refl); (case c4 => k_asm); (case c5 => k_asm); (case c6 => k_asm); (case c7 => k_asm)); rw [fitO_some (by assumption)]; rfl)
end
theorem ws_tn {U m2 e2 z e : Int} (h : z = (if 0 ≤ m2 then ((5 : Int).natAbs : Int) else -((5 : Int).natAbs : Int)) ∧ e = -1) (hx : Tn U m2 e2) : Tn (if U < 0 then -5 else 5) z e := by
  obtain ⟨rfl, rfl⟩ := h
  have := tn_lt hx
  by_cases hm : 0 ≤ m2
  · rw [if_pos hm, if_neg (by omega)]; exact tn_half
  · rw [if_neg hm, if_pos (by omega)]; exact ⟨by decide, by decide, by decide⟩
theorem hup_law {U : Int} : hup U = Int.tdiv (U + (if U < 0 then -5 else 5)) 10 := by
  unfold hup
  by_cases h : U < 0
  · rw [if_pos h, if_pos h, ← Int.neg_tdiv]; congr 1; omega
  · rw [if_neg h, if_neg h]; congr 1; omega
theorem fit_eq {W a b : Int} (h : a = b) : fitO W a = fitO W b := by rw [h]
theorem nf_sub {U V z e : Int} (h : Nf (U + -V) z e) : Nf (U - V) z e := by rw [Int.sub_eq_add_neg]; exact h
theorem nf_comm {U V z e : Int} (h : Nf (U * V) z e) : Nf (V * U) z e := by rw [Int.mul_comm]; exact h
theorem dv_1 {U V z e : Int} (h : Dv U V z e) : rti z e = Int.tdiv U V := h.1
theorem dv_2 {U V z e : Int} (h : Dv U V z e) : -60 ≤ e := h.2.1
theorem dv_3 {U V z e : Int} (h : Dv U V z e) : e ≤ 16 := h.2.2
theorem ten_tn : Tn 10 1 0 := ⟨by decide, by decide, by decide⟩
theorem optV_some {W n : Int} {t : Tok} (h : (fitO W n).isSome = true) : optV (fitO W n) t = .int n t := by rw [fs h]; rfl
theorem as_double_v {w : World} {news : List (Addr × Obj)} {W : Int} {t0 t lu : Tok} {lk : Nat → Tok} {la dx lc lv : Addr} {n : Int} {v : Value} (hl1 : (la, instObj 141 dx) ∈ news) (hl2 : (dx, limD w.params W lu lk) ∈ news) (hl3 : (lc, listOf [.int 0 t0].toArray 0) ∈ news) (hl4 : (lv, listOf [v].toArray 0) ∈ news) (hv : v = .int n t) (hn : n.natAbs < 10 ^ 15) :
    CtT 19 w 314 [.ref lc, .ref lv, .ref la] news (Nf (n * 10)) := by
  subst hv
  exact as_double_c hl1 hl2 hl3 hl4 hn
theorem neV_no {prog : Program} {w : World} {A : Around} {E : Value → Shared → Prop} {s : Shared} {Q : Value → Shared → Prop} {a b : Option Int} {t u : Tok} (h : a = b) (hq : Q (.bool false) s) : wpAny (model prog w) A (compareOp .NotEq (optV a t) (optV b u)) Q E s :=
  neV (by rw [show decide (a ≠ b) = false by simpa using h]; exact hq)
theorem nat_tdiv (U V : Int) : (Int.tdiv U V).natAbs ≤ U.natAbs := by rw [Int.natAbs_tdiv]; exact Nat.div_le_self _ _
theorem nat_tmod (U V : Int) : (U - Int.tdiv U V * V).natAbs ≤ U.natAbs := rest_bd
theorem nat_tmul (U V : Int) : (Int.tdiv U V * V).natAbs ≤ U.natAbs := by rw [Int.natAbs_mul, Int.natAbs_tdiv]; exact Nat.div_mul_le_self _ _
section
theorem ln58 : True := by
  (k_with "isTrue BoolOp" => (k_here; (fail_if_success (k_dflt (have _ph : Ph2 := by assumption))); (with_reducible show wpAny _ _ (isTrue (Expr.BoolOp BoolOp.And _ _) _ _) _ _ _); (fail_if_success (with_reducible show wpAny _ _ _ (JoinF _ _ _ _ _ _ _ _ _ _ _ _) _ _)); k_dflt (refine' join_f ?cVq153 ?cBq153 ?cFq153 ?cNq153 ?cXq153 ?cTq153 ?_ ?_; (case cFq153 => k_asm); (case cNq153 => k_asm); (case cVq153 => k_asm); (case cBq153 => k_asm); (case cXq153 => k_asm); (case cTq153 => k_asm)); rotate_left; (with_reducible rename Fr _ _ _ _ => oF); (with_reducible rename News _ _ _ _ => oN); (with_reducible rename Below _ _ _ _ => oB); (with_reducible rename Frag.In _ _ => oX); (with_reducible rename Top _ _ _ _ _ _ => oT); (with_reducible rename KtsDicts _ _ => oD); (with_reducible rename KtsTurn _ _ _ => oU); intro g' h' tk' U' F' N' B' X' T' D'; clear oF oN oB oX oT oD oU; (try dsimp only); (try k_fold); rotate_right))
  (k_with "j.end" => (k_dflt (refine' join_end ?_ ?cVq154 ?cFq154 ?cNq154 ?cBq154 ?cXq154 ?cTq154 ?cDq154; (case cFq154 => k_asm); (case cNq154 => k_asm); (case cVq154 => k_asm); (case cBq154 => k_asm); (case cXq154 => k_asm); (case cTq154 => k_asm); (case cDq154 => k_asm))))
  (k_with "isTrue BoolOp" => (k_here; (k_dflt (have _ph : Ph2 := by assumption)); (with_reducible show wpAny _ _ (isTrue (Expr.BoolOp BoolOp.And _ _) _ _) _ _ _); (fail_if_success (with_reducible show wpAny _ _ _ (JoinG _ _ _ _ _) _ _)); k_dflt (refine' join_g ?cFq155 ?cNq155 ?_ ?_; (case cFq155 => k_asm); (case cNq155 => k_asm)); rotate_left; (with_reducible rename Fr _ _ _ _ => oF); (with_reducible rename News _ _ _ _ => oN); intro h' tk' F' N'; clear oF oN; (try dsimp only); (try k_fold); rotate_right))
  (k_with "jg.end" => (k_dflt (refine' joing_end ?_ ?cFq156 ?cNq156; (case cFq156 => k_asm); (case cNq156 => k_asm))))
  (k_with "CompEnd" => (k_dflt (refine' LCg.CompEnd.intro ?cFq157 ?cNq157 _ (fun _ hp => hp) ?coq157 ?csq157 ?_; (case cFq157 => assumption); (case cNq157 => assumption); (case coq157 => assumption); (case csq157 => exact Or.inr ⟨_, by k_mem, rfl, _, rfl⟩))))
  trivial
theorem ln59 : True := by
  (k_with "r.side" => first | assumption | exact nf_tn (by assumption) (by assumption) | exact nf_comm (by assumption) | exact ten_tn | exact tn_half | exact ws_tn (by assumption) (nf_tn (by assumption) (by assumption)) | exact dv_1 (by assumption) | exact dv_2 (by assumption) | exact dv_3 (by assumption) | exact tn_rti (nf_tn (by assumption) (by assumption)) | exact tn_e60 (nf_tn (by assumption) (by assumption)) | exact tn_e16 (nf_tn (by assumption) (by assumption)) | exact optV_some (by assumption) | exact And.intro (by assumption) (by assumption) | decide)
  (k_with "compareOp NotEq" => (k_here; (with_reducible show wpAny _ _ (compareOp CmpOp.NotEq (optV _ _) (optV _ _)) _ _ _); k_dflt (refine' neV_no ?chq159 ?_; (case chq159 => exact fit_eq hup_law))))
  (k_with "compareOp NotEq ref ref" => (k_here; (with_reducible show wpAny _ _ (compareOp CmpOp.NotEq (Value.ref _) (Value.ref _)) _ _ _); k_dflt (refine' tup_ne ?cFq160 ?cXq160 ?cNq160 ?cHq160 ?cGq160 ?cuq160 ?c1q160 ?c2q160 ?_; (case cFq160 => k_asm); (case cXq160 => k_asm); (case cNq160 => k_asm)); (case cHq160 => walk_at "t.is"); (case cGq160 => walk_at "t.is"); (case cuq160 => walk_at "c.units"); (case c1q160 => first | exact (nf_unique (by assumption) (by assumption)).1 | exact (nf_unique (by assumption) (nf_sub (by assumption))).1); (case c2q160 => first | exact (nf_unique (by assumption) (by assumption)).2 | exact (nf_unique (by assumption) (nf_sub (by assumption))).2)))
  (k_with "compareOp Eq ref ref" => (k_here; (with_reducible show wpAny _ _ (compareOp CmpOp.Eq (Value.ref _) (Value.ref _)) _ _ _); k_dflt (refine' tup_eq ?cFq161 ?cXq161 ?cNq161 ?cHq161 ?cGq161 ?cuq161 ?c1q161 ?c2q161 ?_; (case cFq161 => k_asm); (case cXq161 => k_asm); (case cNq161 => k_asm)); (case cHq161 => walk_at "t.is"); (case cGq161 => walk_at "t.is"); (case cuq161 => walk_at "c.units"); (case c1q161 => first | exact (nf_unique (by assumption) (by assumption)).1 | exact (nf_unique (by assumption) (nf_sub (by assumption))).1); (case c2q161 => first | exact (nf_unique (by assumption) (by assumption)).2 | exact (nf_unique (by assumption) (nf_sub (by assumption))).2)))
  trivial
theorem ln60 : True := by
  (k_with "call ref" => (k_here; (with_reducible show wpAny _ _ (call (Value.ref 279) [Value.str (PySem.Str.ofString "add") _, _, _, _, _]) _ _ _); k_call_by "t.use" (rb_add ?hl1q162 ?hl2q162 ?hT1q162 ?hT2q162 ?hxq162 ?hyq162 ?hbq162); (case hl1q162 => k_dflt k_mem); (case hl2q162 => k_dflt k_mem); (case hT1q162 => walk_at "t.is"); (case hT2q162 => walk_at "t.is"); (case hxq162 => walk_at "r.side"); (case hyq162 => walk_at "r.side"); (case hbq162 => walk_at "r.side"); walk_at "t.back"))
  (k_with "call ref" => (k_here; (with_reducible show wpAny _ _ (call (Value.ref 279) [Value.str (PySem.Str.ofString "sub") _, _, _, _, _]) _ _ _); k_call_by "t.use" (rb_sub ?hl1q163 ?hl2q163 ?hT1q163 ?hT2q163 ?hxq163 ?hyq163 ?hbq163); (case hl1q163 => k_dflt k_mem); (case hl2q163 => k_dflt k_mem); (case hT1q163 => walk_at "t.is"); (case hT2q163 => walk_at "t.is"); (case hxq163 => walk_at "r.side"); (case hyq163 => walk_at "r.side"); (case hbq163 => walk_at "r.side"); walk_at "t.back"))
  (k_with "call ref" => (k_here; (with_reducible show wpAny _ _ (call (Value.ref 279) [Value.str (PySem.Str.ofString "mul") _, _, _, _, _]) _ _ _); k_call_by "t.use" (rb_mul ?hl1q164 ?hl2q164 ?hT1q164 ?hT2q164 ?hxq164 ?hyq164 ?hbq164 ?hb2q164); (case hl1q164 => k_dflt k_mem); (case hl2q164 => k_dflt k_mem); (case hT1q164 => walk_at "t.is"); (case hT2q164 => walk_at "t.is"); (case hxq164 => walk_at "r.side"); (case hyq164 => walk_at "r.side"); (case hbq164 => walk_at "r.side"); (case hb2q164 => walk_at "r.side"); walk_at "t.back"))
  (k_with "call ref" => (k_here; (with_reducible show wpAny _ _ (call (Value.ref 279) [Value.str (PySem.Str.ofString "div") _, _, _, _, _]) _ _ _); k_call_by "t.use" (rb_div ?hl1q165 ?hl2q165 ?hT1q165 ?hT2q165 ?hxq165 ?hyq165 ?huq165 ?hv0q165 ?hvq165); (case hl1q165 => k_dflt k_mem); (case hl2q165 => k_dflt k_mem); (case hT1q165 => walk_at "t.is"); (case hT2q165 => walk_at "t.is"); (case hxq165 => walk_at "r.side"); (case hyq165 => walk_at "r.side"); (case huq165 => walk_at "r.side"); (case hv0q165 => walk_at "r.side"); (case hvq165 => walk_at "r.side"); walk_at "t.back"))
  (k_with "call ref" => (k_here; (with_reducible show wpAny _ _ (call (Value.ref 349) [_, _, _]) _ _ _); k_call_by "t.use" (with_sign_d ?hl3q166 ?hl4q166 ?hT1q166 ?hT2q166); (case hl3q166 => k_dflt k_mem); (case hl4q166 => k_dflt k_mem); (case hT1q166 => walk_at "t.is"); (case hT2q166 => walk_at "t.is"); walk_at "t.back"))
  (k_with "call ref" => (k_here; (with_reducible show wpAny _ _ (call (Value.ref 342) [_, _, _]) _ _ _); k_call_by "t.use" (rest_of_d ?hl1q167 ?hl2q167 ?hl3q167 ?hl4q167 ?hT1q167 ?hT2q167 ?hxq167 ?hyq167 ?hv0q167 ?hubq167 ?hvbq167); (case hl1q167 => k_dflt k_mem); (case hl2q167 => k_dflt k_mem); (case hl3q167 => k_dflt k_mem); (case hl4q167 => k_dflt k_mem); (case hT1q167 => walk_at "t.is"); (case hT2q167 => walk_at "t.is"); (case hxq167 => walk_at "r.side"); (case hyq167 => walk_at "r.side"); (case hv0q167 => walk_at "r.side"); (case hubq167 => walk_at "r.side"); (case hvbq167 => walk_at "r.side"); walk_at "t.back"))
  (k_with "call ref" => (k_here; (with_reducible show wpAny _ _ (call (Value.ref 321) [_, _, _]) _ _ _); k_call_by "t.use" (cut_real_c ?hl1q168 ?hl2q168 ?hl3q168 ?hl4q168 ?hT1q168 ?he1q168 ?he2q168 ?hcq168 ?hbq168); (case hl1q168 => k_dflt k_mem); (case hl2q168 => k_dflt k_mem); (case hl3q168 => k_dflt k_mem); (case hl4q168 => k_dflt k_mem); (case hT1q168 => walk_at "t.is"); (case he1q168 => walk_at "r.side"); (case he2q168 => walk_at "r.side"); (case hcq168 => walk_at "r.side"); (case hbq168 => walk_at "r.side"); walk_at "t.back"))
  (k_with "call ref" => (k_here; (with_reducible show wpAny _ _ (call (Value.ref 314) [_, _, _]) _ _ _); k_call_by "t.use" (as_double_v ?hl1q169 ?hl2q169 ?hl3q169 ?hl4q169 ?hvq169 ?hnq169); (case hl1q169 => k_dflt k_mem); (case hl2q169 => k_dflt k_mem); (case hl3q169 => k_dflt k_mem); (case hl4q169 => k_dflt k_mem); (case hvq169 => walk_at "r.side"); (case hnq169 => walk_at "r.side"); walk_at "t.back"))
  (k_with "call ref" => (k_here; (with_reducible show wpAny _ _ (call (Value.ref 419) [Value.ref 328, _, _]) _ _ _); k_call_by "l.use" (whole_near ?h1q170 ?h2q170 ?hl1q170 ?hl2q170 ?hT1q170 ?hxq170); (case h1q170 => walk_at "r.side"); (case h2q170 => walk_at "r.side"); (case hl1q170 => k_dflt k_mem); (case hl2q170 => k_dflt k_mem); (case hT1q170 => walk_at "t.is"); (case hxq170 => walk_at "r.side"); (case' cr => walk_at "l.back")))
  (k_with "call ref" => (k_here; (with_reducible show wpAny _ _ (call (Value.ref 419) [Value.ref 307, _, _]) _ _ _); k_call_by "l.use" (whole_int ?h1q171 ?h2q171 ?hl1q171 ?hl2q171 ?hT1q171 ?hxq171); (case h1q171 => walk_at "r.side"); (case h2q171 => walk_at "r.side"); (case hl1q171 => k_dflt k_mem); (case hl2q171 => k_dflt k_mem); (case hT1q171 => walk_at "t.is"); (case hxq171 => walk_at "r.side"); (case' cr => walk_at "l.back")))
  trivial
theorem ln61 : True := by
  (k_with "j.end" => (k_dflt (refine' join_end ?_ ?cVq172 ?cFq172 ?cNq172 ?cBq172 ?cXq172 ?cTq172 ?cDq172; (case cFq172 => k_asm); (case cNq172 => first | k_asm | (refine' News.perm (by k_asm) ?hzq172; (case hzq172 => walk_at "t.sub"))); (case cVq172 => k_asm); (case cBq172 => k_asm); (case cXq172 => k_asm); (case cTq172 => k_asm); (case cDq172 => k_asm))))
  trivial
theorem tenths_c {w : World} {news : List (Addr × Obj)} {W : Int} {lu : Tok} {lk : Nat → Tok} {la dx p q : Addr} {U V m1 e1 m2 e2 : Int} (h1 : 2 ≤ W) (h2 : W ≤ 40) (hl1 : (la, instObj 141 dx) ∈ news) (hl2 : (dx, limD w.params W lu lk) ∈ news) (hT1 : IsT news p m1 e1) (hT2 : IsT news q m2 e2) (hx : Nf U m1 e1) (hy : Nf V m2 e2)
    (b1 : U.natAbs < 10 ^ 13) (hv0 : V ≠ 0) (hv : V.natAbs ≤ 99) :
    CtL 24 w 452 [.ref p, .ref q, .ref la] news (fun _ => .bool true) := by
  have b2 : U.natAbs < 10 ^ 15 := by omega
  have b3 : (U + (if U < 0 then -5 else 5)).natAbs < 10 ^ 15 := by split <;> omega
  have b4 : (Int.tdiv U 10).natAbs < 10 ^ 15 := by have := nat_tdiv U 10; omega
  have b5 : (Int.tdiv U 10 * 10).natAbs < 10 ^ 15 := by have := nat_tmul U 10; omega
  have b6 : (U + -(Int.tdiv U 10 * 10)).natAbs < 10 ^ 15 := by have := nat_tmod U 10; omega
  have b7 : (Int.tdiv U V).natAbs < 10 ^ 15 := by have := nat_tdiv U V; omega
  have b8 : (10 * Int.tdiv U V).natAbs < 10 ^ 15 := by have := nat_tdiv U V; omega
  have b9 : V.natAbs < 10 ^ 15 := by omega
  have bA : (Int.tdiv U V * V).natAbs < 10 ^ 15 := by have := nat_tmul U V; omega
  have bB : (U + -(Int.tdiv U V * V)).natAbs < 10 ^ 15 := by have := nat_tmod U V; omega
  have bC : (10 : Int).natAbs < 10 ^ 15 := by decide
  have hm2 := (dv_v hy hv0 hv).1
  intro mean mg mb dp un gd cn cs a ccd outer A₀ base h₀ L m s Q E B F X N T hk XB TB D hd hu hret
  walk_at "l.begin"
  k_steps
  all_goals first
    | ((with_reducible show JoinF _ _ _ _ _ _ _ _ _ _ _ _ _ _); walk_at "j.end"; exact rfl)
    | ((refine' retB ?_ (hret 0 _ _ _ ?c1 ?c2 ?c3 ?c4 ?c5 ?c6 ?c7); (case c2 => k_asm); (case c3 => first | k_asm | (refine' News.perm (by k_asm) ?hz; (case hz => walk_at "t.sub"))); (case c1 => first | k_asm | exact KtsTurn.refl); (case c4 => k_asm); (case c5 => k_asm); (case c6 => k_asm); (case c7 => k_asm)); exact rfl)
end
theorem ln62 : True := by
  k_with_none
  (k_with "c.room" => ((try simp only [depth_deeper, depth_mark, depth_in1]); (try dsimp only [cTop]); first | exact room_1 (by assumption) (by decide) | exact room_0 (by assumption) (by decide) | exact room_2 (by assumption) | omega))
  (k_with "c.units" => ((try simp only [units_deeper, Around.mark_units, units_in1]); (try dsimp only [cTop]); first | exact unit_1 (by assumption) (by decide) | exact unit_0 (by assumption) (by decide) | exact unit_2 (by assumption) | omega))
  (k_with "exec Raise some none" => (k_here; refine Raise_mine rfl ?_))
  (k_with "RaiseEnd" => (k_here; refine' raiseEnd_ ?Fq7 ?Xq7 ?Nq7 ?_; (case Fq7 => k_asm); (case Xq7 => k_asm); (case Nq7 => k_asm); k_whole; try dsimp only))
  (k_with "call ref" => (k_here; (with_reducible show wpAny _ _ (call (Value.ref 44) _) _ _ _); k_dflt (refine' rf_call ?Bq8 ?Fq8 ?Xq8 ?Nq8 ?Tq8 ?Aq8 ?fq8 ?kq8 ?dq8 ?_; (case Aq8 => exact rfl); (case fq8 => exact rfl); (case kq8 => exact rfl); (case Bq8 => k_asm); (case Fq8 => k_asm); (case Xq8 => k_asm); (case Nq8 => k_asm); (case Tq8 => k_asm); (case dq8 => walk_at "c.room"); k_whole); intro e' t' d' vs' h' tk' F' N' hn' hn2'; (try k_sweep)))
  (k_with "leaving ref" => (k_here; first
    | (refine' leave_first ?Kq9 ?Fq9 ?Nq9 ?nq9 ?n2q9 ?_; (case Kq9 => assumption); (case Fq9 => assumption); (case Nq9 => assumption); (case nq9 => assumption); (case n2q9 => assumption); k_whole; intro h' R' U'; (try dsimp only at R' U' ⊢))
    | (refine' leave_on ?Kq9 ?Fq9 ?Rq9 ?Uq9 ?_; (case Rq9 => assumption); (case Kq9 => assumption); (case Uq9 => assumption); (case Fq9 => assumption); k_whole; intro h' R' U'; (try dsimp only at R' U' ⊢))))
  (k_with "c.enter" => (refine wpAny_call ?_; k_dflt (refine' code_def ?k1q10 ?k2q10 ?k3q10 ?k4q10 ?k5q10 ?kAq10 ?kFq10 ?kKq10 ?k6q10 ?k7q10 ?k8q10 ?k9q10 ?kBq10 ?_ ?c2q10 ?c3q10 ?c4q10 ?c5q10; (case kAq10 => exact rfl); (case kFq10 => exact rfl); (case kKq10 => assumption); (case k1q10 => k_asm); (case k2q10 => k_asm); (case k3q10 => k_asm); (case k4q10 => k_asm); (case k5q10 => k_asm); (case k6q10 => k_is); (case k7q10 => k_is); (case k8q10 => walk_at "c.room"); (case k9q10 => first | exact BindsTo.of_eq (binds := [(_, _)]) rfl | exact BindsTo.of_eq (binds := [(_, _), (_, _)]) rfl | exact BindsTo.of_eq (binds := [(_, _), (_, _), (_, _)]) rfl | exact BindsTo.of_eq (binds := [(_, _), (_, _), (_, _), (_, _)]) rfl | exact BindsTo.of_eq (binds := [(_, _), (_, _), (_, _), (_, _), (_, _)]) rfl | exact BindsTo.of_eq (binds := [(_, _), (_, _), (_, _), (_, _), (_, _), (_, _)]) rfl); (case c5q10 => decide); (case kBq10 => exact locs rfl); (case c2q10 => exact rfl); (case c3q10 => exact rfl); (case c4q10 => exact rfl); k_whole; intro g' L' h' FG' F' N' B' X' T'; (try dsimp only); (try k_fold))))
  (k_with "c.use.r" => ((case cB => k_asm); (case cF => k_asm); (case cX => k_asm); (case cN => k_asm); (case cT => k_asm); (case ck => first | exact rfl | assumption); (case cd => walk_at "c.room"); (case cu => walk_at "c.units")))
  (k_with "c.back" => ((case' cr => (intro t' h' tk' hx' F' N'; (try k_sweep); (try dsimp only); (try k_fold))); (case' cx => first | exact fun z => False.elim z | (intro hx' e' G' h' tk' FG' R' U'; (try dsimp only); (try k_fold)))))
  (k_with "eval Call" => (k_here; k_dflt (refine Call_ ?_)))
  (k_with "c.side" => first | assumption | omega | (constructor <;> assumption))
  (k_with "ite" => (k_closed; first | refine ite_pos (by decide +kernel) ?_ | refine ite_neg (by decide +kernel) ?_))
  (k_with "call builtin:abs" => (k_here; (with_reducible show wpAny _ _ (call (Value.builtin "abs") [Value.int _ _]) _ _ _); k_dflt (refine abs_r ?_); intro t' tk'))
  (k_with "c.ne" => first | assumption | decide | omega)
  (k_with "c.py" => first | assumption | (rw [Int.natAbs_natCast]; assumption) | decide)
  (k_with "binaryOp FloorDiv int int" => (k_here; k_dflt (refine' floordiv_int ?neq18 ?_ (Or.inl (PyProof.noPylong_of_log2 ?pyq18))); (case neq18 => walk_at "c.ne"); (case pyq18 => walk_at "c.py")))
  (k_with "c.py" => first | assumption | (rw [Int.natAbs_natCast]; assumption) | decide | exact log2_40 (by assumption) (by assumption))
  (k_with "c.num" => first | assumption | omega | decide)
  (k_with "binaryOp Pow int int" => (k_here; k_dflt (refine' pow_int_small ?caq21 ?cbq21 ?ccq21 ?_); (case caq21 => walk_at "c.num"); (case cbq21 => walk_at "c.num"); (case ccq21 => walk_at "c.num")))
  (k_with "subscriptTail" => (k_here; (with_reducible show wpAny _ _ (subscriptTail _ _ (Value.ref _) (Value.int _ _)) _ _ _); k_dflt (refine' item_list_c ?cNq22 ?cmq22 ?c0q22 ?chq22 ?cxq22 ?_ ?csq22; (case cNq22 => k_asm); (case cmq22 => k_mem); (case c0q22 => decide); (case chq22 => decide); (case cxq22 => rfl); (case csq22 => with_unfolding_all rfl); k_whole)))
  (k_with "call ref" => (k_here; (with_reducible show wpAny _ _ (call (Value.ref 53) _) _ _ _); k_call_by "c.use" (fit_int_c ?h1q23 ?h2q23); (case h1q23 => walk_at "c.side"); (case h2q23 => walk_at "c.side"); walk_at "c.back"))
  (k_with "call ref" => (k_here; (with_reducible show wpAny _ _ (call (Value.ref 81) _) _ _ _); k_call_by "c.use" (cutq_c ?hyq24 ?hbq24); (case hyq24 => walk_at "c.side"); (case hbq24 => walk_at "c.side"); walk_at "c.back"))
  (k_with "call ref" => (k_here; (with_reducible show wpAny _ _ (call (Value.ref 60) _) _ _ _); k_call_by "c.use" (int_add_c ?h1q31 ?h2q31); (case h1q31 => walk_at "c.side"); (case h2q31 => walk_at "c.side"); walk_at "c.back"))
  (k_with "call ref" => (k_here; (with_reducible show wpAny _ _ (call (Value.ref 67) _) _ _ _); k_call_by "c.use" (int_sub_c ?h1q32 ?h2q32); (case h1q32 => walk_at "c.side"); (case h2q32 => walk_at "c.side"); walk_at "c.back"))
  (k_with "call ref" => (k_here; (with_reducible show wpAny _ _ (call (Value.ref 74) _) _ _ _); k_call_by "c.use" (int_mul_c ?h1q33 ?h2q33 ?hx1q33 ?hx2q33); (case h1q33 => walk_at "c.side"); (case h2q33 => walk_at "c.side"); (case hx1q33 => walk_at "c.side"); (case hx2q33 => walk_at "c.side"); walk_at "c.back"))
  (k_with "call ref" => (k_here; (with_reducible show wpAny _ _ (call (Value.ref 88) _) _ _ _); k_call_by "c.use" (int_div_c ?h1q34 ?h2q34 ?hy1q34 ?hy2q34); (case h1q34 => walk_at "c.side"); (case h2q34 => walk_at "c.side"); (case hy1q34 => walk_at "c.side"); (case hy2q34 => walk_at "c.side"); walk_at "c.back"))
  (k_with "call ref" => (k_here; (with_reducible show wpAny _ _ (call (Value.ref 102) _) _ _ _); k_call_by "c.use" (int_power_c ?h1q35 ?h2q35 ?hx1q35 ?hx2q35 ?hn1q35 ?hn2q35); (case h1q35 => walk_at "c.side"); (case h2q35 => walk_at "c.side"); (case hx1q35 => walk_at "c.side"); (case hx2q35 => walk_at "c.side"); (case hn1q35 => walk_at "c.side"); (case hn2q35 => walk_at "c.side"); walk_at "c.back"))
  (k_with "call ref" => (k_here; (with_reducible show wpAny _ _ (call (Value.ref 102) _) _ _ _); k_call_by "c.use" (int_power_neg ?h1q36 ?h2q36 ?hn1q36); (case h1q36 => walk_at "c.side"); (case h2q36 => walk_at "c.side"); (case hn1q36 => walk_at "c.side"); walk_at "c.back"))
  (k_with "call ref" => (k_here; (with_reducible show wpAny _ _ (call (Value.ref 109) _) _ _ _); k_call_by "c.use" (order_of_c ); walk_at "c.back"))
  (k_with "call ref" => (k_here; (with_reducible show wpAny _ _ (call (Value.ref 116) _) _ _ _); k_call_by "c.use" (holds_lt_c ); walk_at "c.back"))
  (k_with "call ref" => (k_here; (with_reducible show wpAny _ _ (call (Value.ref 116) _) _ _ _); k_call_by "c.use" (holds_ge_c ); walk_at "c.back"))
  (k_with "call ref" => (k_here; (with_reducible show wpAny _ _ (call (Value.ref 53) _) _ _ _); k_call_by "c.use" (fit_int_c ?h1q40 ?h2q40); (case h1q40 => walk_at "c.side"); (case h2q40 => walk_at "c.side"); walk_at "c.back"))
  (k_with "call ref" => (k_here; (with_reducible show wpAny _ _ (call (Value.ref 81) _) _ _ _); k_call_by "c.use" (cutq_c ?hyq41 ?hbq41); (case hyq41 => walk_at "c.side"); (case hbq41 => walk_at "c.side"); walk_at "c.back"))
  (k_with "call ref" => (k_here; (with_reducible show wpAny _ _ (call (Value.ref 109) _) _ _ _); k_call_by "c.use" (order_of_c ); walk_at "c.back"))
  (k_with "call ref" => (k_here; (with_reducible show wpAny _ _ (call (Value.ref 356) _) _ _ _); k_call_by "c.use" (compare_numbers_c ); walk_at "c.back"))
  (k_with "call ref" => (k_here; (with_reducible show wpAny _ _ (call (Value.ref 370) _) _ _ _); k_call_by "c.use" (extreme_max_c ?hl4q48); (case hl4q48 => k_dflt k_mem); walk_at "c.back"))
  (k_with "call ref" => (k_here; (with_reducible show wpAny _ _ (call (Value.ref 370) _) _ _ _); k_call_by "c.use" (extreme_min_c ?hl4q49); (case hl4q49 => k_dflt k_mem); walk_at "c.back"))
  (k_with "l.enter" => (refine wpAny_call ?_; k_dflt (refine' code_defS ?k1q50 ?k2q50 ?k3q50 ?k4q50 ?k5q50 ?kXq50 ?kTq50 ?kDq50 KtsTurn.refl ?kAq50 ?k6q50 ?k7q50 ?k8q50 ?k9q50 ?kBq50 ?_ ?kKq50 ?c2q50 ?c3q50 ?c4q50 ?c5q50; (case kAq50 => exact rfl); (case kKq50 => assumption); (case k1q50 => k_asm); (case k2q50 => k_asm); (case k3q50 => k_asm); (case k4q50 => k_asm); (case k5q50 => k_asm); (case kXq50 => k_asm); (case kTq50 => k_asm); (case kDq50 => k_asm); (case k6q50 => k_is); (case k7q50 => k_is); (case k8q50 => walk_at "c.room"); (case k9q50 => first | exact BindsTo.of_eq (binds := [(_, _)]) rfl | exact BindsTo.of_eq (binds := [(_, _), (_, _)]) rfl | exact BindsTo.of_eq (binds := [(_, _), (_, _), (_, _)]) rfl | exact BindsTo.of_eq (binds := [(_, _), (_, _), (_, _), (_, _)]) rfl | exact BindsTo.of_eq (binds := [(_, _), (_, _), (_, _), (_, _), (_, _)]) rfl | exact BindsTo.of_eq (binds := [(_, _), (_, _), (_, _), (_, _), (_, _), (_, _)]) rfl); (case c5q50 => decide); (case kBq50 => exact locs rfl); (case c2q50 => exact rfl); (case c3q50 => exact rfl); (case c4q50 => exact rfl); k_whole; intro g' L' h' FG' F' N' B' X' T' D'; (try dsimp only); (try k_fold))))
  (k_with "Exists" => (k_here; k_dflt (refine' kda_made_str ?e1q51 ?e2q51 ?e3q51 ?e4q51 ?e5q51 ?e6q51 ?_; (case e1q51 => k_asm); (case e2q51 => k_asm); (case e3q51 => exact Top.nolimit (by k_asm)); (case e4q51 => kernel_rfl); (case e5q51 => exact of_decide_eq_true (by kernel_rfl)); (case e6q51 => kernel_rfl)); intro h' o' F' N' l1 lo' hd'; (try k_lt l1)))
  (k_with "noteFrame ref" => (k_here; (with_reducible rename RX _ _ _ _ _ _ => rkX); obtain ⟨t', vs', R'⟩ := rkX; k_dflt (refine' caught_SO0 R' ?cFq52 ?cKq52 ?cUq52 ?cXBq52 ?cTBq52 ?cDq52 ?cT0q52 ?cexq52 ?cqq52 ?_ ?chq52 ?cxq52 ?cdq52 ?cEq52; (case cFq52 => k_asm); (case cKq52 => k_asm); (case cUq52 => k_asm); (case cXBq52 => k_asm); (case cTBq52 => k_asm); (case cDq52 => k_asm); (case cT0q52 => first | k_asm | exact KtsTurn.refl); (case cexq52 => k_is); (case cqq52 => kernel_rfl); (case chq52 => rfl); (case cxq52 => rfl); (case cdq52 => decide); (case cEq52 => passes_own)); intro h' g' n2' U' F' N2' G' N' B' X' T' D'; (clear N2' G'); (try k_sweep); (try dsimp only)))
  (k_with "c.bd" => first | assumption | exact bd_int (by walk_at "c.side") (by walk_at "c.side") | exact bd_add (by assumption) (by assumption) | exact bd_sub (by assumption) (by assumption) | exact bd_mul (by assumption) (by assumption) | exact bd_div (by assumption) (by assumption) | exact bd_dim (by assumption) (by assumption) | exact bd_abs (by assumption) (by assumption) | exact bd_sign (by assumption) (by assumption) | exact bd_pow (by assumption) (by assumption) | exact bd_max (by walk_at "c.bd") (by walk_at "c.bd") | exact bd_min (by walk_at "c.bd") (by walk_at "c.bd") | exact bd_mod (by walk_at "c.bd") (by walk_at "c.bd"))
  (k_with "c.iso" => first | exact isO_int | exact isO_opt)
  (k_with "l.use.r" => ((case cB => k_asm); (case cF => k_asm); (case cX => k_asm); (case cN => k_asm); (case cT => k_asm); (case ck => first | exact rfl | assumption); (case cXB => k_asm); (case cTB => k_asm); (case cD => k_asm); (case cd => walk_at "c.room"); (case cu => walk_at "c.units")))
  (k_with "l.back" => ((with_reducible rename Fr _ _ _ _ => oF); (with_reducible rename News _ _ _ _ => oN); (with_reducible rename Below _ _ _ _ => oB); (with_reducible rename Frag.In _ _ => oX); (with_reducible rename Top _ _ _ _ _ _ => oT); (with_reducible rename KtsDicts _ _ => oD); (with_reducible rename KtsTurn _ _ _ => oU); intro t' g' h' tk' U' F' N' B' X' T' D'; (have V' := KtsTurn.trans oU U'); clear oF oN oB oX oT oD oU U'; (try dsimp only); (try k_fold)))
  (k_with "l.begin" => (walk_at "l.enter"; (with_reducible rename Below _ _ _ _ => oB); (have V' := l_refl oB)))
  (k_with "compareOp NotEq" => (k_here; first
    | ((with_reducible show wpAny _ _ (compareOp CmpOp.NotEq (optV _ _) (optV _ _)) _ _ _); k_dflt (refine neV ?_))
    | ((with_reducible show wpAny _ _ (compareOp CmpOp.NotEq (optV _ _) (Value.int _ _)) _ _ _); k_dflt (refine neV (b := some _) ?_))
    | ((with_reducible show wpAny _ _ (compareOp CmpOp.NotEq (Value.int _ _) (optV _ _)) _ _ _); k_dflt (refine neV (a := some _) ?_))))
  (k_with "compareOp Eq" => (k_here; first
    | ((with_reducible show wpAny _ _ (compareOp CmpOp.Eq (optV _ _) (optV _ _)) _ _ _); k_dflt (refine eqV ?_))
    | ((with_reducible show wpAny _ _ (compareOp CmpOp.Eq (optV _ _) (Value.int _ _)) _ _ _); k_dflt (refine eqV (b := some _) ?_))
    | ((with_reducible show wpAny _ _ (compareOp CmpOp.Eq (Value.int _ _) (optV _ _)) _ _ _); k_dflt (refine eqV (a := some _) ?_))))
  (k_with "compareOp Is" => (k_here; (with_reducible show wpAny _ _ (compareOp CmpOp.Is (optV _ _) Value.none) _ _ _); k_dflt (refine isV ?_)))
  (k_with "compareOp IsNot" => (k_here; (with_reducible show wpAny _ _ (compareOp CmpOp.IsNot (optV _ _) Value.none) _ _ _); k_dflt (refine isNotV ?_)))
  (k_with "binaryOp Mult" => (k_here; (with_reducible show wpAny _ _ (binaryOp Operator.Mult (optV _ _) (Value.int _ _)) _ _ _); k_dflt (refine' mulV ?caq67 ?cbq67 ?_; (case caq67 => assumption); (case cbq67 => intro _; exact IntMulOk.of_right (PySem.intBits_le_64 (by l_fact) (by l_fact)))); intro z' hz'))
  (k_with "call builtin:abs" => (k_here; (with_reducible show wpAny _ _ (call (Value.builtin "abs") [optV _ _]) _ _ _); k_dflt (refine' absV ?caq68 ?_; (case caq68 => assumption)); intro z' hz' t' tk'))
  (k_with "call ref" => (k_here; (with_reducible show wpAny _ _ (call (Value.ref 412) [Value.str (PySem.Str.ofString "add") _, _, _, _]) _ _ _); k_call_by "l.use" (mk_add ?h1q69 ?h2q69 ?hl1q69 ?hl2q69 ?haq69 ?hbq69 ?baq69 ?bbq69); k_dflt ((case hl1q69 => k_dflt k_mem); (case hl2q69 => k_dflt k_mem); (case haq69 => walk_at "c.iso"); (case hbq69 => walk_at "c.iso"); (case h1q69 => walk_at "c.side"); (case h2q69 => walk_at "c.side"); (case baq69 => walk_at "c.bd"); (case bbq69 => walk_at "c.bd")); (case' cr => walk_at "l.back")))
  (k_with "call ref" => (k_here; (with_reducible show wpAny _ _ (call (Value.ref 412) [Value.str (PySem.Str.ofString "sub") _, _, _, _]) _ _ _); k_call_by "l.use" (mk_sub ?h1q70 ?h2q70 ?hl1q70 ?hl2q70 ?haq70 ?hbq70 ?baq70 ?bbq70); k_dflt ((case hl1q70 => k_dflt k_mem); (case hl2q70 => k_dflt k_mem); (case haq70 => walk_at "c.iso"); (case hbq70 => walk_at "c.iso"); (case h1q70 => walk_at "c.side"); (case h2q70 => walk_at "c.side"); (case baq70 => walk_at "c.bd"); (case bbq70 => walk_at "c.bd")); (case' cr => walk_at "l.back")))
  (k_with "call ref" => (k_here; (with_reducible show wpAny _ _ (call (Value.ref 412) [Value.str (PySem.Str.ofString "mul") _, _, _, _]) _ _ _); k_call_by "l.use" (mk_mul ?h1q71 ?h2q71 ?hl1q71 ?hl2q71 ?haq71 ?hbq71 ?baq71 ?bbq71); k_dflt ((case hl1q71 => k_dflt k_mem); (case hl2q71 => k_dflt k_mem); (case haq71 => walk_at "c.iso"); (case hbq71 => walk_at "c.iso"); (case h1q71 => walk_at "c.side"); (case h2q71 => walk_at "c.side"); (case baq71 => walk_at "c.bd"); (case bbq71 => walk_at "c.bd")); (case' cr => walk_at "l.back")))
  (k_with "call ref" => (k_here; (with_reducible show wpAny _ _ (call (Value.ref 412) [Value.str (PySem.Str.ofString "div") _, _, _, _]) _ _ _); k_call_by "l.use" (mk_div ?h1q72 ?h2q72 ?hl1q72 ?hl2q72 ?haq72 ?hbq72 ?baq72 ?bbq72); k_dflt ((case hl1q72 => k_dflt k_mem); (case hl2q72 => k_dflt k_mem); (case haq72 => walk_at "c.iso"); (case hbq72 => walk_at "c.iso"); (case h1q72 => walk_at "c.side"); (case h2q72 => walk_at "c.side"); (case baq72 => walk_at "c.bd"); (case bbq72 => walk_at "c.bd")); (case' cr => walk_at "l.back")))
  (k_with "call ref" => (k_here; (with_reducible show wpAny _ _ (call (Value.ref 412) [Value.str (PySem.Str.ofString "MOD") _, _, _, _]) _ _ _); k_call_by "l.use" (mk_mod ?h1q73 ?h2q73 ?hl1q73 ?hl2q73 ?haq73 ?hbq73 ?baq73 ?bbq73); k_dflt ((case hl1q73 => k_dflt k_mem); (case hl2q73 => k_dflt k_mem); (case haq73 => walk_at "c.iso"); (case hbq73 => walk_at "c.iso"); (case h1q73 => walk_at "c.side"); (case h2q73 => walk_at "c.side"); (case baq73 => walk_at "c.bd"); (case bbq73 => walk_at "c.bd")); (case' cr => walk_at "l.back")))
  (k_with "call ref" => (k_here; (with_reducible show wpAny _ _ (call (Value.ref 412) [Value.str (PySem.Str.ofString "MAX") _, _, _, _]) _ _ _); k_call_by "l.use" (mk_max ?h1q74 ?h2q74 ?hl1q74 ?hl2q74 ?haq74 ?hbq74 ?baq74 ?bbq74); k_dflt ((case hl1q74 => k_dflt k_mem); (case hl2q74 => k_dflt k_mem); (case haq74 => walk_at "c.iso"); (case hbq74 => walk_at "c.iso"); (case h1q74 => walk_at "c.side"); (case h2q74 => walk_at "c.side"); (case baq74 => walk_at "c.bd"); (case bbq74 => walk_at "c.bd")); (case' cr => walk_at "l.back")))
  (k_with "call ref" => (k_here; (with_reducible show wpAny _ _ (call (Value.ref 412) [Value.str (PySem.Str.ofString "MIN") _, _, _, _]) _ _ _); k_call_by "l.use" (mk_min ?h1q75 ?h2q75 ?hl1q75 ?hl2q75 ?haq75 ?hbq75 ?baq75 ?bbq75); k_dflt ((case hl1q75 => k_dflt k_mem); (case hl2q75 => k_dflt k_mem); (case haq75 => walk_at "c.iso"); (case hbq75 => walk_at "c.iso"); (case h1q75 => walk_at "c.side"); (case h2q75 => walk_at "c.side"); (case baq75 => walk_at "c.bd"); (case bbq75 => walk_at "c.bd")); (case' cr => walk_at "l.back")))
  (k_with "call ref" => (k_here; (with_reducible show wpAny _ _ (call (Value.ref 412) [Value.str (PySem.Str.ofString "DIM") _, _, _, _]) _ _ _); k_call_by "l.use" (mk_dim ?h1q76 ?h2q76 ?hl1q76 ?hl2q76 ?haq76 ?hbq76 ?baq76 ?bbq76); k_dflt ((case hl1q76 => k_dflt k_mem); (case hl2q76 => k_dflt k_mem); (case haq76 => walk_at "c.iso"); (case hbq76 => walk_at "c.iso"); (case h1q76 => walk_at "c.side"); (case h2q76 => walk_at "c.side"); (case baq76 => walk_at "c.bd"); (case bbq76 => walk_at "c.bd")); (case' cr => walk_at "l.back")))
  (k_with "call ref" => (k_here; (with_reducible show wpAny _ _ (call (Value.ref 412) [Value.str (PySem.Str.ofString "ABS") _, _, _, _]) _ _ _); k_call_by "l.use" (mk_abs ?h1q77 ?h2q77 ?hl1q77 ?hl2q77 ?haq77 ?hbq77 ?baq77 ?bbq77); k_dflt ((case hl1q77 => k_dflt k_mem); (case hl2q77 => k_dflt k_mem); (case haq77 => walk_at "c.iso"); (case hbq77 => walk_at "c.iso"); (case h1q77 => walk_at "c.side"); (case h2q77 => walk_at "c.side"); (case baq77 => walk_at "c.bd"); (case bbq77 => walk_at "c.bd")); (case' cr => walk_at "l.back")))
  (k_with "call ref" => (k_here; (with_reducible show wpAny _ _ (call (Value.ref 412) [Value.str (PySem.Str.ofString "SIGN") _, _, _, _]) _ _ _); k_call_by "l.use" (mk_sign ?h1q78 ?h2q78 ?hl1q78 ?hl2q78 ?haq78 ?hbq78 ?baq78 ?bbq78); k_dflt ((case hl1q78 => k_dflt k_mem); (case hl2q78 => k_dflt k_mem); (case haq78 => walk_at "c.iso"); (case hbq78 => walk_at "c.iso"); (case h1q78 => walk_at "c.side"); (case h2q78 => walk_at "c.side"); (case baq78 => walk_at "c.bd"); (case bbq78 => walk_at "c.bd")); (case' cr => walk_at "l.back")))
  (k_with "call ref" => (k_here; (with_reducible show wpAny _ _ (call (Value.ref 412) [Value.str (PySem.Str.ofString "pow") _, _, _, _]) _ _ _); k_call_by "l.use" (mki_pown ?h1q79 ?h2q79 ?hx1q79 ?hx2q79 ?hn0q79 ?hn1q79 ?hl1q79 ?hl2q79); k_dflt ((case hl1q79 => k_dflt k_mem); (case hl2q79 => k_dflt k_mem); (case h1q79 => walk_at "c.side"); (case h2q79 => walk_at "c.side"); (case hx1q79 => walk_at "c.side"); (case hx2q79 => walk_at "c.side"); (case hn0q79 => walk_at "c.side"); (case hn1q79 => walk_at "c.side")); (case' cr => walk_at "l.back")))
  (k_with "call ref" => (k_here; (with_reducible show wpAny _ _ (call (Value.ref 412) [Value.str (PySem.Str.ofString "pow") _, _, _, _]) _ _ _); k_call_by "l.use" (mk_pow ?h1q80 ?h2q80 ?hn1q80 ?hn2q80 ?hl1q80 ?hl2q80 ?haq80 ?baq80); k_dflt ((case hl1q80 => k_dflt k_mem); (case hl2q80 => k_dflt k_mem); (case haq80 => walk_at "c.iso"); (case h1q80 => walk_at "c.side"); (case h2q80 => walk_at "c.side"); (case hn1q80 => walk_at "c.side"); (case hn2q80 => walk_at "c.side"); (case baq80 => walk_at "c.bd")); (case' cr => walk_at "l.back")))
  (k_with "call ref" => (k_here; (with_reducible show wpAny _ _ (call (Value.ref 412) [Value.str (PySem.Str.ofString "powi") _, _, _, _]) _ _ _); k_call_by "l.use" (mk_powi ?h1q81 ?h2q81 ?hn1q81 ?hn2q81 ?hl1q81 ?hl2q81 ?haq81 ?baq81); k_dflt ((case hl1q81 => k_dflt k_mem); (case hl2q81 => k_dflt k_mem); (case haq81 => walk_at "c.iso"); (case h1q81 => walk_at "c.side"); (case h2q81 => walk_at "c.side"); (case hn1q81 => walk_at "c.side"); (case hn2q81 => walk_at "c.side"); (case baq81 => walk_at "c.bd")); (case' cr => walk_at "l.back")))
  (k_with "call ref" => (k_here; (with_reducible show wpAny _ _ (call (Value.ref 412) [Value.str (PySem.Str.ofString "lt") _, _, _, _]) _ _ _); k_call_by "l.use" (mki_lt ?h1q82 ?h2q82 ?hx1q82 ?hx2q82 ?hy1q82 ?hy2q82 ?hl1q82 ?hl2q82); k_dflt ((case hl1q82 => k_dflt k_mem); (case hl2q82 => k_dflt k_mem); (case h1q82 => walk_at "c.side"); (case h2q82 => walk_at "c.side"); (case hx1q82 => walk_at "c.side"); (case hx2q82 => walk_at "c.side"); (case hy1q82 => walk_at "c.side"); (case hy2q82 => walk_at "c.side")); (case' cr => walk_at "l.back")))
  (k_with "call ref" => (k_here; (with_reducible show wpAny _ _ (call (Value.ref 412) [Value.str (PySem.Str.ofString "ge") _, _, _, _]) _ _ _); k_call_by "l.use" (mki_ge ?h1q83 ?h2q83 ?hx1q83 ?hx2q83 ?hy1q83 ?hy2q83 ?hl1q83 ?hl2q83); k_dflt ((case hl1q83 => k_dflt k_mem); (case hl2q83 => k_dflt k_mem); (case h1q83 => walk_at "c.side"); (case h2q83 => walk_at "c.side"); (case hx1q83 => walk_at "c.side"); (case hx2q83 => walk_at "c.side"); (case hy1q83 => walk_at "c.side"); (case hy2q83 => walk_at "c.side")); (case' cr => walk_at "l.back")))
  (k_with "exec While Compare cons nil" => (k_here; (with_reducible rename Fr _ _ _ _ => lF'); (with_reducible rename News _ _ _ _ => lN'); k_dflt (refine' ksw_while (σ := Int × Int × Tok × Tok) (fun _ => _) (fun c => [(Str.ofString "n", .int c.1 c.2.2.1), (Str.ofString "count", .int c.2.1 c.2.2.2)]) (fun _ => True) [] (CdP _) (fun c => c.1.toNat) (_, _, _, _) lF' lN' trivial ?kkq92 ?kpq92 ?_ ?hEq92; (case kkq92 => kst_all); (case kpq92 => first | exact cd_start | assumption); (case hEq92 => first | passes_own | with_unfolding_all passes_own)); clear lF' lN'; rintro ⟨a', c', t', u'⟩ kU' h' tk' - hI' F' N'; (try dsimp only [kstB] at F'); (try dsimp only); (try k_fold)))
  (k_with "KswEnd" => (k_dflt (refine' ksw_end (_, _, _, _) ?kFq93 ?kNq93 (fun _ h => h) trivial ?kkq93 ?krq93 ?kpq93 ?kmq93; (case kFq93 => assumption); (case kNq93 => assumption); (case kkq93 => kst_all); (case krq93 => ksw_same); (case kpq93 => first | exact cd_nine (by assumption) (by assumption) | exact cd_one (by assumption) (by assumption)); (case kmq93 => first | exact cd_m9 (by assumption) | exact cd_m1 (by assumption)))))
  (k_with "t.sub" => first | assumption | exact fun _ hp => hp | (intro p hp; k_mem))
  (k_with "t.is" => first | assumption | exact IsT.nought | k_dflt (exact IsT.new (by k_mem)) | (refine' IsT.mono (by assumption) ?hzq95; (case hzq95 => walk_at "t.sub")))
  (k_with "t.use.r" => ((case cB => k_asm); (case cF => k_asm); (case cX => k_asm); (case cN => k_asm); (case cT => k_asm); (case ck => first | exact rfl | assumption); (case cd => walk_at "c.room"); (case cu => walk_at "c.units")))
  (k_with "t.back" => (case' cr => (intro b' z' e' n' h' tk' hP' hT' hS' F' N'; (try k_sweep); (try dsimp only); (try k_fold))))
  (k_with "subscriptTail" => (k_here; first
    | ((with_reducible show wpAny _ _ (subscriptTail _ _ (Value.ref _) (Value.int 0 _)) _ _ _); k_dflt (refine' tup_item0 ?cFq97 ?cXq97 ?cNq97 ?cHq97 ?_ ?csq97; (case cFq97 => k_asm); (case cXq97 => k_asm); (case cNq97 => k_asm); (case cHq97 => walk_at "t.is"); (case csq97 => with_unfolding_all rfl)); intro t')
    | ((with_reducible show wpAny _ _ (subscriptTail _ _ (Value.ref _) (Value.int 1 _)) _ _ _); k_dflt (refine' tup_item1 ?cFq97 ?cXq97 ?cNq97 ?cHq97 ?_ ?csq97; (case cFq97 => k_asm); (case cXq97 => k_asm); (case cNq97 => k_asm); (case cHq97 => walk_at "t.is"); (case csq97 => with_unfolding_all rfl)); intro t')))
  (k_with "assign Tuple" => (k_here; k_dflt (refine' tup_assign ?chq98 ?cFq98 ?cXq98 ?cNq98 ?cHq98 ?cnq98 ?csq98 ?_; (case chq98 => exact rfl); (case cFq98 => k_asm); (case cXq98 => k_asm); (case cNq98 => k_asm); (case cHq98 => walk_at "t.is"); (case cnq98 => exact rfl); (case csq98 => exact rfl)); intro t' u' h' F' N'; (try k_sweep)))
  (k_with "t.is" => first | assumption | exact IsT.nought | (refine' IsT.mono (by assumption) ?hzq99; (case hzq99 => walk_at "t.sub")) | k_dflt (exact IsT.new (by k_mem)))
  (k_with "exec While Compare cons nil" => (k_here; (with_reducible rename Fr _ _ _ _ => lF'); (with_reducible rename News _ _ _ _ => lN'); k_dflt (refine' ksw_while (σ := Int × Int × Tok × Tok) (fun _ => _) (fun c => [(Str.ofString "m", .int c.1 c.2.2.1), (Str.ofString "e", .int c.2.1 c.2.2.2)]) (fun _ => True) [] (StP _ _) (fun c => c.1.natAbs) (_, _, _, _) lF' lN' trivial ?kkq100 ?kpq100 ?_ ?hEq100; (case kkq100 => kst_all); (case kpq100 => exact stp_start (by assumption)); (case hEq100 => first | passes_own | with_unfolding_all passes_own)); clear lF' lN'; rintro ⟨a', c', t', u'⟩ kU' h' tk' - hI' F' N'; (try dsimp only [kstB] at F'); (try dsimp only); (try k_fold)))
  (k_with "KswEnd" => (k_dflt (refine' ksw_end (_, _, _, _) ?kFq101 ?kNq101 (fun _ h => h) trivial ?kkq101 ?krq101 ?kpq101 ?kmq101; (case kFq101 => assumption); (case kNq101 => assumption); (case kkq101 => kst_all); (case krq101 => ksw_same); (case kpq101 => exact stp_step (by assumption) (by assumption)); (case kmq101 => exact stp_less (stp_ne (by assumption)) (by assumption)))))
  (k_with "call builtin:divmod" => (k_here; k_dflt (refine' divmod_g ?cFq102 ?cNq102 ?e1q102 ?e2q102 ?eyq102 ?elq102 ?_; (case cFq102 => k_asm); (case cNq102 => k_asm); (case e1q102 => first | exact rfl | exact mul_ten_nat _ _); (case e2q102 => first | exact rfl | exact ten_nat); (case eyq102 => first | exact ten_pos | walk_at "c.num"); (case elq102 => first | exact ten_small (by walk_at "c.num") | walk_at "c.num")); intro D' h' t' u' tk' F' N'; (try k_sweep)))
  (k_with "c.ne" => first | assumption | decide | omega | exact ten_ne _)
  (k_with "c.py" => first | assumption | (rw [Int.natAbs_natCast]; assumption) | decide | exact log2_40 (by assumption) (by assumption) | exact ten_log (by walk_at "c.num"))
  (k_with "binaryOp Mult int int" => (k_here; (with_reducible show wpAny _ _ (binaryOp _ (Value.int _ _) (Value.int (10 ^ _) _)) _ _ _); k_dflt (refine' PyProof.Rows.mul_int ?_ ?ckq105; (case ckq105 => exact mul_ten_ok (by walk_at "c.num")))))
  (k_with "call ref" => (k_here; (with_reducible show wpAny _ _ (call (Value.ref 153) _) _ _ _); k_call_by "c.use" (count_digits_c ); walk_at "c.back"))
  (k_with "call ref" => (k_here; (with_reducible show wpAny _ _ (call (Value.ref 160) _) _ _ _); k_call_by "t.use" (strip_zeros_c ); walk_at "t.back"))
  (k_with "call ref" => (k_here; (with_reducible show wpAny _ _ (call (Value.ref 153) _) _ _ _); k_call_by "c.use" (count_digits_c ); walk_at "c.back"))
  (k_with "call ref" => (k_here; (with_reducible show wpAny _ _ (call (Value.ref 167) _) _ _ _); k_call_by "t.use" (round_digits_c ?hxq109); (case hxq109 => walk_at "c.side"); walk_at "t.back"))
  (k_with "r.side" => first | assumption | omega | exact tn_abs (by assumption) (by assumption) | exact tn_e1 (by assumption) | exact tn_e2 (by assumption) | exact tn_neg (by assumption) (by assumption))
  (k_with "call ref" => (k_here; (with_reducible show wpAny _ _ (call (Value.ref 195) _) _ _ _); k_call_by "t.use" (real_neg_c ?hT1q111); (case hT1q111 => walk_at "t.is"); walk_at "t.back"))
  (k_with "call ref" => (k_here; (with_reducible show wpAny _ _ (call (Value.ref 174) _) _ _ _); k_call_by "t.use" (round_exact_c ?hxq112 ?hy1q112 ?hy2q112); (case hxq112 => walk_at "r.side"); (case hy1q112 => walk_at "r.side"); (case hy2q112 => walk_at "r.side"); walk_at "t.back"))
  (k_with "call ref" => (k_here; (with_reducible show wpAny _ _ (call (Value.ref 181) _) _ _ _); k_call_by "t.use" (exact_add_c ?hT1q113 ?hT2q113 ?hxq113 ?hyq113); (case hT1q113 => walk_at "t.is"); (case hT2q113 => walk_at "t.is"); (case hxq113 => walk_at "r.side"); (case hyq113 => walk_at "r.side"); walk_at "t.back"))
  (k_with "call ref" => (k_here; (with_reducible show wpAny _ _ (call (Value.ref 153) _) _ _ _); k_call_by "c.use" (count_digits_c ); walk_at "c.back"))
  (k_with "call ref" => (k_here; (with_reducible show wpAny _ _ (call (Value.ref 160) _) _ _ _); k_call_by "t.use" (strip_zeros_c ); walk_at "t.back"))
  (k_with "r.side" => first | assumption | omega | exact tn_abs (by assumption) (by assumption) | exact tn_e1 (by assumption) | exact tn_e2 (by assumption) | exact tn_e60 (by assumption) | exact tn_e16 (by assumption) | exact tn_half | exact tn_nabs (by assumption) | exact un_ne (by assumption) | exact log_15 (un_bd (by assumption) (by omega) (by omega) (by assumption)) | exact rest_15 (un_bd (by assumption) (by omega) (by omega) (by assumption)))
  (k_with "binaryOp Mult int int" => (k_here; (with_reducible show wpAny _ _ (binaryOp _ (Value.int (Int.tdiv _ _) _) (Value.int (_ * 10 ^ _) _)) _ _ _); k_dflt (refine' PyProof.Rows.mul_int ?_ ?ckq133; (case ckq133 => exact mul_15 (un_bd (by assumption) (by omega) (by omega) (by assumption))))))
  (k_with "call ref" => (k_here; (with_reducible show wpAny _ _ (call (Value.ref 251) _) _ _ _); k_call_by "c.use" (real_to_int_c ?hT1q134 ?he1q134 ?he2q134); (case hT1q134 => walk_at "t.is"); (case he1q134 => walk_at "r.side"); (case he2q134 => walk_at "r.side"); walk_at "c.back"))
  (k_with "call ref" => (k_here; (with_reducible show wpAny _ _ (call (Value.ref 174) _) _ _ _); k_call_by "t.use" (round_exact_c ?hxq135 ?hy1q135 ?hy2q135); (case hxq135 => walk_at "r.side"); (case hy1q135 => walk_at "r.side"); (case hy2q135 => walk_at "r.side"); walk_at "t.back"))
  (k_with "call ref" => (k_here; (with_reducible show wpAny _ _ (call (Value.ref 181) _) _ _ _); k_call_by "t.use" (exact_add_c ?hT1q136 ?hT2q136 ?hxq136 ?hyq136); (case hT1q136 => walk_at "t.is"); (case hT2q136 => walk_at "t.is"); (case hxq136 => walk_at "r.side"); (case hyq136 => walk_at "r.side"); walk_at "t.back"))
  (k_with "call ref" => (k_here; (with_reducible show wpAny _ _ (call (Value.ref 272) _) _ _ _); k_call_by "c.use" (digits_of_c ?hl1q137 ?hl2q137); (case hl1q137 => k_dflt k_mem); (case hl2q137 => k_dflt k_mem); walk_at "c.back"))
  (k_with "call ref" => (k_here; (with_reducible show wpAny _ _ (call (Value.ref 53) _) _ _ _); k_call_by "c.use" (fit_int_c ?h1q138 ?h2q138); (case h1q138 => walk_at "r.side"); (case h2q138 => walk_at "r.side"); walk_at "c.back"))
  (k_with "call ref" => (k_here; (with_reducible show wpAny _ _ (call (Value.ref 251) _) _ _ _); k_call_by "c.use" (real_to_int_c ?hT1q139 ?he1q139 ?he2q139); (case hT1q139 => walk_at "t.is"); (case he1q139 => walk_at "r.side"); (case he2q139 => walk_at "r.side"); walk_at "c.back"))
  (k_with "call ref" => (k_here; (with_reducible show wpAny _ _ (call (Value.ref 300) _) _ _ _); k_call_by "c.use" (half_up_c ?hT1q140 ?hxq140); (case hT1q140 => walk_at "t.is"); (case hxq140 => walk_at "r.side"); walk_at "c.back"))
  (k_with "call ref" => (k_here; (with_reducible show wpAny _ _ (call (Value.ref 174) _) _ _ _); k_call_by "t.use" (round_exact_c ?hxq141 ?hy1q141 ?hy2q141); (case hxq141 => walk_at "r.side"); (case hy1q141 => walk_at "r.side"); (case hy2q141 => walk_at "r.side"); walk_at "t.back"))
  (k_with "call ref" => (k_here; (with_reducible show wpAny _ _ (call (Value.ref 272) _) _ _ _); k_call_by "c.use" (digits_of_c ?hl1q142 ?hl2q142); (case hl1q142 => k_dflt k_mem); (case hl2q142 => k_dflt k_mem); walk_at "c.back"))
  (k_with "call ref" => (k_here; (with_reducible show wpAny _ _ (call (Value.ref 244) _) _ _ _); k_call_by "t.use" (real_of_int_c ?hnq143); (case hnq143 => walk_at "r.side"); walk_at "t.back"))
  (k_with "call ref" => (k_here; (with_reducible show wpAny _ _ (call (Value.ref 209) _) _ _ _); k_call_by "t.use" (real_add_c ?hT1q144 ?hT2q144 ?hxq144 ?hyq144 ?hbq144); (case hT1q144 => walk_at "t.is"); (case hT2q144 => walk_at "t.is"); (case hxq144 => walk_at "r.side"); (case hyq144 => walk_at "r.side"); (case hbq144 => walk_at "r.side"); walk_at "t.back"))
  (k_with "call ref" => (k_here; (with_reducible show wpAny _ _ (call (Value.ref 216) _) _ _ _); k_call_by "t.use" (real_sub_c ?hT1q145 ?hT2q145 ?hxq145 ?hyq145 ?hbq145); (case hT1q145 => walk_at "t.is"); (case hT2q145 => walk_at "t.is"); (case hxq145 => walk_at "r.side"); (case hyq145 => walk_at "r.side"); (case hbq145 => walk_at "r.side"); walk_at "t.back"))
  (k_with "call ref" => (k_here; (with_reducible show wpAny _ _ (call (Value.ref 223) _) _ _ _); k_call_by "t.use" (real_mul_c ?hT1q146 ?hT2q146 ?hxq146 ?hyq146 ?hbq146 ?hb2q146); (case hT1q146 => walk_at "t.is"); (case hT2q146 => walk_at "t.is"); (case hxq146 => walk_at "r.side"); (case hyq146 => walk_at "r.side"); (case hbq146 => walk_at "r.side"); (case hb2q146 => walk_at "r.side"); walk_at "t.back"))
  (k_with "call ref" => (k_here; (with_reducible show wpAny _ _ (call (Value.ref 230) _) _ _ _); k_call_by "t.use" (real_div_c ?hT1q147 ?hT2q147 ?hxq147 ?hyq147 ?huq147 ?hv0q147 ?hvq147); (case hT1q147 => walk_at "t.is"); (case hT2q147 => walk_at "t.is"); (case hxq147 => walk_at "r.side"); (case hyq147 => walk_at "r.side"); (case huq147 => walk_at "r.side"); (case hv0q147 => walk_at "r.side"); (case hvq147 => walk_at "r.side"); walk_at "t.back"))
  (k_with "call ref" => (k_here; (with_reducible show wpAny _ _ (call (Value.ref 272) _) _ _ _); k_call_by "c.use" (digits_of_c ?hl1q148 ?hl2q148); (case hl1q148 => k_dflt k_mem); (case hl2q148 => k_dflt k_mem); walk_at "c.back"))
  (k_with "call ref" => (k_here; (with_reducible show wpAny _ _ (call (Value.ref 293) _) _ _ _); k_call_by "c.use" (conv_int ?h1q149 ?h2q149 ?hl1q149 ?hl2q149 ?hT1q149 ?hxq149); (case h1q149 => walk_at "r.side"); (case h2q149 => walk_at "r.side"); (case hl1q149 => k_dflt k_mem); (case hl2q149 => k_dflt k_mem); (case hT1q149 => walk_at "t.is"); (case hxq149 => walk_at "r.side"); walk_at "c.back"))
  (k_with "call ref" => (k_here; (with_reducible show wpAny _ _ (call (Value.ref 286) _) _ _ _); k_call_by "t.use" (real_as_c ?hl1q150 ?hl2q150 ?hnq150); (case hl1q150 => k_dflt k_mem); (case hl2q150 => k_dflt k_mem); (case hnq150 => walk_at "r.side"); walk_at "t.back"))
  (k_with "call ref" => (k_here; (with_reducible show wpAny _ _ (call (Value.ref 328) _) _ _ _); k_call_by "c.use" (near_int_c ?h1q151 ?h2q151 ?hl1q151 ?hl2q151 ?hl4q151 ?hT1q151 ?hxq151); (case h1q151 => walk_at "r.side"); (case h2q151 => walk_at "r.side"); (case hl1q151 => k_dflt k_mem); (case hl2q151 => k_dflt k_mem); (case hl4q151 => k_dflt k_mem); (case hT1q151 => walk_at "t.is"); (case hxq151 => walk_at "r.side"); walk_at "c.back"))
  (k_with "call ref" => (k_here; (with_reducible show wpAny _ _ (call (Value.ref 307) _) _ _ _); k_call_by "c.use" (as_int_c ?h1q152 ?h2q152 ?hl1q152 ?hl2q152 ?hl3q152 ?hl4q152 ?hT1q152 ?hxq152); (case h1q152 => walk_at "r.side"); (case h2q152 => walk_at "r.side"); (case hl1q152 => k_dflt k_mem); (case hl2q152 => k_dflt k_mem); (case hl3q152 => k_dflt k_mem); (case hl4q152 => k_dflt k_mem); (case hT1q152 => walk_at "t.is"); (case hxq152 => walk_at "r.side"); walk_at "c.back"))
  trivial
abbrev wellK (w : World) (wa : Addr) (n : Int) (u : Tok) (o : Obj) : Prop := Obj.IsDictOf (PySem.strKind Challenge.rw_sa0216_01.row.prog w) o [(Str.ofString "water", .ref wa), (Str.ofString "dips", .int n u)]
/-- a call that hands back an int z with P z, having dipped c times at most into the well at dw -/
abbrev CtD (D : Nat) (w : World) (f : Addr) (vs : List Value) (dw wa : Addr) (o : Obj) (rest : List (Addr × Obj)) (n c : Int) (P : Int → Prop) : Prop :=
  ∀ (mean : ExcName → Option Value) (mg mb : Str → Option Value) (dp un : Nat) (gd : Option (List Code)) (cn : Str) (cs : Scope) (a : Addr) (ccd : Value) (outer : List Env) (A₀ : Around) (base h₀ : Heap) (L : Addr) (m : Str → Option Value) (s : Shared) (Q E : Value → Shared → Prop),
    Below A₀ base outer h₀ → Fr h₀ L s.heap m → (tp.heap_1 w.params).In h₀ → News h₀ L s.heap ((dw, o) :: rest) → Top tp.vw (looseW tp.vw []) mean mg mb h₀ → cs.kind = .function →
    dp + D < recursionLimit → un + 10 * D < cLine →
    (∀ z t n' u' o' h' tk', P z → n ≤ n' → n' ≤ n + c → wellK w wa n' u' o' → Fr h₀ L h' m → News h₀ L h' ((dw, o') :: rest) → Q (.int z t) { s with heap := h', toks := tk' }) →
    wpAny (model Challenge.rw_sa0216_01.row.prog w) (cTop dp un gd cn cs L a ccd outer) (call (.ref f) vs) Q E s
section
section
variable {w : World} {A : Around} {E : Value → Shared → Prop} {s : Shared} {h₀ : Heap} {L d : Addr} {m : Str → Option Value} {news rest : List (Addr × Obj)} {o : Obj} {wa : Addr} {n z : Int} {u t k : Tok} {value slice : PySem.Expr}
theorem well_set {Q : Unit → Shared → Prop} (F : Fr h₀ L s.heap m) (N : News h₀ L s.heap ((d, o) :: rest)) (hne : ∀ p ∈ rest, p.1 ≠ d) (hd : wellK w wa n u o)
    (h : ∀ h' o', Fr h₀ L h' m → News h₀ L h' ((d, o') :: rest) → wellK w wa z t o' → Q () { s with heap := h', toks := s.toks + 1 }) : wpAny (MD w) A (setItem (.ref d) (.str (Str.ofString "dips") k) (.int z t)) Q E s :=
  kda_set (knd := PySem.strKind _ _) (k := Str.ofString "dips") F N (UpdF.head hne) hd (strKind_is _ _ _ _) (by rw [sizeLine_eq]; exact Nat.le_of_ble_eq_true (by with_unfolding_all rfl)) fun h' o' F' N' hd' => h h' o' F' N' hd'
theorem well_dips {Q : Value → Shared → Prop} (N : News h₀ L s.heap ((d, o) :: rest)) (hd : wellK w wa n u o) (h : Q (.int n u) { s with toks := s.toks + 1 }) : wpAny (MD w) A (getItem (.ref d) (.str (Str.ofString "dips") k)) Q E s :=
  kdt_getItem (knd := PySem.strKind _ _) (k := Str.ofString "dips") N (.head _) hd (strKind_is _ _ _ _) rfl h
theorem well_dipsT {Q : Value → Shared → Prop} (N : News h₀ L s.heap ((d, o) :: rest)) (hd : wellK w wa n u o) (h : Q (.int n u) { s with toks := s.toks + 1 })
    (hs : subscripted slice false (.ref d) (.str (Str.ofString "dips") k) = operate [.ref d, (.str (Str.ofString "dips") k)] (getItem (.ref d) (.str (Str.ofString "dips") k))) : wpAny (MD w) A (subscriptTail value slice (.ref d) (.str (Str.ofString "dips") k)) Q E s :=
  kdt_tail (knd := PySem.strKind _ _) N (.head _) hd (well_dips N hd h) hs
theorem well_waterT {Q : Value → Shared → Prop} (N : News h₀ L s.heap ((d, o) :: rest)) (hd : wellK w wa n u o) (h : Q (.ref wa) { s with toks := s.toks + 1 })
    (hs : subscripted slice false (.ref d) (.str (Str.ofString "water") k) = operate [.ref d, (.str (Str.ofString "water") k)] (getItem (.ref d) (.str (Str.ofString "water") k))) : wpAny (MD w) A (subscriptTail value slice (.ref d) (.str (Str.ofString "water") k)) Q E s :=
  kdt_tail (knd := PySem.strKind _ _) N (.head _) hd (kdt_getItem (knd := PySem.strKind _ _) (k := Str.ofString "water") N (.head _) hd (strKind_is _ _ _ _) rfl h) hs
theorem water_len {Q : Value → Shared → Prop} {ws : List Value} {ns : List Int} (N : News h₀ L s.heap ((d, o) :: rest)) (hw : (wa, listOf ws.toArray 0) ∈ rest) (hi : IntsAre ws ns) (hl : ns.length ≤ 20)
    (h : Q (.int (ns.length : Int) (s.toks + 1)) { s with toks := s.toks + 1 + 1 }) : wpAny (MD w) A (call (.builtin "len") [.ref wa]) Q E s :=
  len_list (News.isList N (.tail _ hw)) (by rw [List.size_toArray, hi.length]; omega) (by rw [List.size_toArray, hi.length]; exact h)
theorem water_at {Q : Value → Shared → Prop} {ws : List Value} {ns : List Int} {i : Int} (N : News h₀ L s.heap ((d, o) :: rest)) (hw : (wa, listOf ws.toArray 0) ∈ rest) (hi : IntsAre ws ns) (hl : ns.length ≤ 20) (h0 : 0 ≤ i) (h1 : i < ns.length)
    (h : ∀ z t, Q (.int z t) s)
    (hs : subscripted slice false (.ref wa) (.int i k) = operate [.ref wa, .int i k] (getItem (.ref wa) (.int i k))) : wpAny (MD w) A (subscriptTail value slice (.ref wa) (.int i k)) Q E s := by
  have hL : s.heap.IsList wa ws.toArray := News.isList N (.tail _ hw)
  obtain ⟨t, e⟩ := hi.get i.toNat (ns[i.toNat]'(by omega)) (by simp)
  exact tail_any hL.typeIs slot_list_getitem.lookup (wpAny_getItem_list hL h0 (by omega) (by simpa using e) (h _ _)) hs
theorem dip_mod {Q : Value → Shared → Prop} {a K : Int} (hK : 0 < K) (h : ∀ z t tk, 0 ≤ z ∧ z < K → Q (.int z t) { s with toks := tk }) : wpAny (MD w) A (binaryOp .Mod (.int a t) (.int K u)) Q E s :=
  PyProof.Rows.mod_int' (by omega) (h _ _ _ ⟨Int.fmod_nonneg_of_pos _ hK, Int.fmod_lt_of_pos _ hK⟩)
end
theorem ln63 : True := by
  (k_with "getItem ref str" => (k_here; k_dflt (refine' well_dips ?Nq173 ?dq173 ?_; (case Nq173 => k_asm); (case dq173 => k_asm))))
  (k_with "setItem ref str" => (k_here; k_dflt (refine' well_set ?Fq174 ?Nq174 ?nq174 ?dq174 ?_; (case Fq174 => k_asm); (case Nq174 => k_asm); (case nq174 => assumption); (case dq174 => k_asm)); intro h' o' F' N' hd'))
  (k_with "subscriptTail" => (k_here; first
    | ((with_reducible show wpAny _ _ (subscriptTail _ _ (Value.ref _) (Value.int _ _)) _ _ _); k_dflt (refine' water_at ?Nq175 ?wq175 ?iq175 ?lq175 ?h0q175 ?h1q175 ?_ ?sq175; (case Nq175 => k_asm); (case wq175 => assumption); (case iq175 => assumption); (case lq175 => assumption); (case h0q175 => omega); (case h1q175 => omega); (case sq175 => with_unfolding_all rfl)); intro z' t')
    | ((with_reducible show wpAny _ _ (subscriptTail _ _ (Value.ref _) (Value.str (PySem.Str.ofString "dips") _)) _ _ _); k_dflt (refine' well_dipsT ?Nq175 ?dq175 ?_ ?sq175; (case Nq175 => k_asm); (case dq175 => k_asm); (case sq175 => with_unfolding_all rfl)))
    | ((with_reducible show wpAny _ _ (subscriptTail _ _ (Value.ref _) (Value.str (PySem.Str.ofString "water") _)) _ _ _); k_dflt (refine' well_waterT ?Nq175 ?dq175 ?_ ?sq175; (case Nq175 => k_asm); (case dq175 => k_asm); (case sq175 => with_unfolding_all rfl)))))
  (k_with "call builtin:len" => (k_here; k_dflt (refine' water_len ?Nq176 ?wq176 ?iq176 ?lq176 ?_; (case Nq176 => k_asm); (case wq176 => assumption); (case iq176 => assumption); (case lq176 => assumption))))
  (k_with "binaryOp Mod int int" => (k_here; k_dflt (refine' dip_mod ?Kq177 ?_; (case Kq177 => walk_at "c.num")); intro z' t' tk' hz'))
  trivial
theorem dip_c {w : World} {rest : List (Addr × Obj)} {dw wa : Addr} {o : Obj} {u t : Tok} {n K : Int} {ws : List Value} {ns : List Int} (hw : (wa, listOf ws.toArray 0) ∈ rest) (hi : IntsAre ws ns) (hl : ns.length ≤ 20) (ho : wellK w wa n u o) (hne : ∀ p ∈ rest, p.1 ≠ dw) (hn0 : 0 ≤ n) (hn1 : n ≤ 20) (hK : 0 < K) (hK2 : K ≤ 1099511627776) :
    CtD 5 w 391 [.ref dw, .int K t] dw wa o rest n 1 (fun z => 0 ≤ z ∧ z < K) := by
  intro mean mg mb dp un gd cn cs a ccd outer A₀ base h₀ L m s Q E B F X N T hk hd hu hret
  walk_at "c.enter"
  k_steps
  all_goals ((refine' hret _ _ _ _ _ _ _ ?_ ?c1 ?c2 ?c3 ?c4 ?c5; (case c3 => k_asm); (case c4 => k_asm); (case c5 => k_asm); (case c1 => omega); (case c2 => omega)); assumption)
end
theorem ln64 : True := by
  k_with_none
  (k_with "c.room" => ((try simp only [depth_deeper, depth_mark, depth_in1]); (try dsimp only [cTop]); first | exact room_1 (by assumption) (by decide) | exact room_0 (by assumption) (by decide) | exact room_2 (by assumption) | omega))
  (k_with "c.units" => ((try simp only [units_deeper, Around.mark_units, units_in1]); (try dsimp only [cTop]); first | exact unit_1 (by assumption) (by decide) | exact unit_0 (by assumption) (by decide) | exact unit_2 (by assumption) | omega))
  (k_with "exec Raise some none" => (k_here; refine Raise_mine rfl ?_))
  (k_with "RaiseEnd" => (k_here; refine' raiseEnd_ ?Fq7 ?Xq7 ?Nq7 ?_; (case Fq7 => k_asm); (case Xq7 => k_asm); (case Nq7 => k_asm); k_whole; try dsimp only))
  (k_with "call ref" => (k_here; (with_reducible show wpAny _ _ (call (Value.ref 44) _) _ _ _); k_dflt (refine' rf_call ?Bq8 ?Fq8 ?Xq8 ?Nq8 ?Tq8 ?Aq8 ?fq8 ?kq8 ?dq8 ?_; (case Aq8 => exact rfl); (case fq8 => exact rfl); (case kq8 => exact rfl); (case Bq8 => k_asm); (case Fq8 => k_asm); (case Xq8 => k_asm); (case Nq8 => k_asm); (case Tq8 => k_asm); (case dq8 => walk_at "c.room"); k_whole); intro e' t' d' vs' h' tk' F' N' hn' hn2'; (try k_sweep)))
  (k_with "leaving ref" => (k_here; first
    | (refine' leave_first ?Kq9 ?Fq9 ?Nq9 ?nq9 ?n2q9 ?_; (case Kq9 => assumption); (case Fq9 => assumption); (case Nq9 => assumption); (case nq9 => assumption); (case n2q9 => assumption); k_whole; intro h' R' U'; (try dsimp only at R' U' ⊢))
    | (refine' leave_on ?Kq9 ?Fq9 ?Rq9 ?Uq9 ?_; (case Rq9 => assumption); (case Kq9 => assumption); (case Uq9 => assumption); (case Fq9 => assumption); k_whole; intro h' R' U'; (try dsimp only at R' U' ⊢))))
  (k_with "c.enter" => (refine wpAny_call ?_; k_dflt (refine' code_def ?k1q10 ?k2q10 ?k3q10 ?k4q10 ?k5q10 ?kAq10 ?kFq10 ?kKq10 ?k6q10 ?k7q10 ?k8q10 ?k9q10 ?kBq10 ?_ ?c2q10 ?c3q10 ?c4q10 ?c5q10; (case kAq10 => exact rfl); (case kFq10 => exact rfl); (case kKq10 => assumption); (case k1q10 => k_asm); (case k2q10 => k_asm); (case k3q10 => k_asm); (case k4q10 => k_asm); (case k5q10 => k_asm); (case k6q10 => k_is); (case k7q10 => k_is); (case k8q10 => walk_at "c.room"); (case k9q10 => first | exact BindsTo.of_eq (binds := [(_, _)]) rfl | exact BindsTo.of_eq (binds := [(_, _), (_, _)]) rfl | exact BindsTo.of_eq (binds := [(_, _), (_, _), (_, _)]) rfl | exact BindsTo.of_eq (binds := [(_, _), (_, _), (_, _), (_, _)]) rfl | exact BindsTo.of_eq (binds := [(_, _), (_, _), (_, _), (_, _), (_, _)]) rfl | exact BindsTo.of_eq (binds := [(_, _), (_, _), (_, _), (_, _), (_, _), (_, _)]) rfl); (case c5q10 => decide); (case kBq10 => exact locs rfl); (case c2q10 => exact rfl); (case c3q10 => exact rfl); (case c4q10 => exact rfl); k_whole; intro g' L' h' FG' F' N' B' X' T'; (try dsimp only); (try k_fold))))
  (k_with "c.use.r" => ((case cB => k_asm); (case cF => k_asm); (case cX => k_asm); (case cN => k_asm); (case cT => k_asm); (case ck => first | exact rfl | assumption); (case cd => walk_at "c.room"); (case cu => walk_at "c.units")))
  (k_with "c.back" => ((case' cr => (intro t' h' tk' hx' F' N'; (try k_sweep); (try dsimp only); (try k_fold))); (case' cx => first | exact fun z => False.elim z | (intro hx' e' G' h' tk' FG' R' U'; (try dsimp only); (try k_fold)))))
  (k_with "eval Call" => (k_here; k_dflt (refine Call_ ?_)))
  (k_with "c.side" => first | assumption | omega | (constructor <;> assumption))
  (k_with "ite" => (k_closed; first | refine ite_pos (by decide +kernel) ?_ | refine ite_neg (by decide +kernel) ?_))
  (k_with "call builtin:abs" => (k_here; (with_reducible show wpAny _ _ (call (Value.builtin "abs") [Value.int _ _]) _ _ _); k_dflt (refine abs_r ?_); intro t' tk'))
  (k_with "c.ne" => first | assumption | decide | omega)
  (k_with "c.py" => first | assumption | (rw [Int.natAbs_natCast]; assumption) | decide)
  (k_with "binaryOp FloorDiv int int" => (k_here; k_dflt (refine' floordiv_int ?neq18 ?_ (Or.inl (PyProof.noPylong_of_log2 ?pyq18))); (case neq18 => walk_at "c.ne"); (case pyq18 => walk_at "c.py")))
  (k_with "c.py" => first | assumption | (rw [Int.natAbs_natCast]; assumption) | decide | exact log2_40 (by assumption) (by assumption))
  (k_with "c.num" => first | assumption | omega | decide)
  (k_with "binaryOp Pow int int" => (k_here; k_dflt (refine' pow_int_small ?caq21 ?cbq21 ?ccq21 ?_); (case caq21 => walk_at "c.num"); (case cbq21 => walk_at "c.num"); (case ccq21 => walk_at "c.num")))
  (k_with "subscriptTail" => (k_here; (with_reducible show wpAny _ _ (subscriptTail _ _ (Value.ref _) (Value.int _ _)) _ _ _); k_dflt (refine' item_list_c ?cNq22 ?cmq22 ?c0q22 ?chq22 ?cxq22 ?_ ?csq22; (case cNq22 => k_asm); (case cmq22 => k_mem); (case c0q22 => decide); (case chq22 => decide); (case cxq22 => rfl); (case csq22 => with_unfolding_all rfl); k_whole)))
  (k_with "call ref" => (k_here; (with_reducible show wpAny _ _ (call (Value.ref 53) _) _ _ _); k_call_by "c.use" (fit_int_c ?h1q23 ?h2q23); (case h1q23 => walk_at "c.side"); (case h2q23 => walk_at "c.side"); walk_at "c.back"))
  (k_with "call ref" => (k_here; (with_reducible show wpAny _ _ (call (Value.ref 81) _) _ _ _); k_call_by "c.use" (cutq_c ?hyq24 ?hbq24); (case hyq24 => walk_at "c.side"); (case hbq24 => walk_at "c.side"); walk_at "c.back"))
  (k_with "call ref" => (k_here; (with_reducible show wpAny _ _ (call (Value.ref 60) _) _ _ _); k_call_by "c.use" (int_add_c ?h1q31 ?h2q31); (case h1q31 => walk_at "c.side"); (case h2q31 => walk_at "c.side"); walk_at "c.back"))
  (k_with "call ref" => (k_here; (with_reducible show wpAny _ _ (call (Value.ref 67) _) _ _ _); k_call_by "c.use" (int_sub_c ?h1q32 ?h2q32); (case h1q32 => walk_at "c.side"); (case h2q32 => walk_at "c.side"); walk_at "c.back"))
  (k_with "call ref" => (k_here; (with_reducible show wpAny _ _ (call (Value.ref 74) _) _ _ _); k_call_by "c.use" (int_mul_c ?h1q33 ?h2q33 ?hx1q33 ?hx2q33); (case h1q33 => walk_at "c.side"); (case h2q33 => walk_at "c.side"); (case hx1q33 => walk_at "c.side"); (case hx2q33 => walk_at "c.side"); walk_at "c.back"))
  (k_with "call ref" => (k_here; (with_reducible show wpAny _ _ (call (Value.ref 88) _) _ _ _); k_call_by "c.use" (int_div_c ?h1q34 ?h2q34 ?hy1q34 ?hy2q34); (case h1q34 => walk_at "c.side"); (case h2q34 => walk_at "c.side"); (case hy1q34 => walk_at "c.side"); (case hy2q34 => walk_at "c.side"); walk_at "c.back"))
  (k_with "call ref" => (k_here; (with_reducible show wpAny _ _ (call (Value.ref 102) _) _ _ _); k_call_by "c.use" (int_power_c ?h1q35 ?h2q35 ?hx1q35 ?hx2q35 ?hn1q35 ?hn2q35); (case h1q35 => walk_at "c.side"); (case h2q35 => walk_at "c.side"); (case hx1q35 => walk_at "c.side"); (case hx2q35 => walk_at "c.side"); (case hn1q35 => walk_at "c.side"); (case hn2q35 => walk_at "c.side"); walk_at "c.back"))
  (k_with "call ref" => (k_here; (with_reducible show wpAny _ _ (call (Value.ref 102) _) _ _ _); k_call_by "c.use" (int_power_neg ?h1q36 ?h2q36 ?hn1q36); (case h1q36 => walk_at "c.side"); (case h2q36 => walk_at "c.side"); (case hn1q36 => walk_at "c.side"); walk_at "c.back"))
  (k_with "call ref" => (k_here; (with_reducible show wpAny _ _ (call (Value.ref 109) _) _ _ _); k_call_by "c.use" (order_of_c ); walk_at "c.back"))
  (k_with "call ref" => (k_here; (with_reducible show wpAny _ _ (call (Value.ref 116) _) _ _ _); k_call_by "c.use" (holds_lt_c ); walk_at "c.back"))
  (k_with "call ref" => (k_here; (with_reducible show wpAny _ _ (call (Value.ref 116) _) _ _ _); k_call_by "c.use" (holds_ge_c ); walk_at "c.back"))
  (k_with "call ref" => (k_here; (with_reducible show wpAny _ _ (call (Value.ref 53) _) _ _ _); k_call_by "c.use" (fit_int_c ?h1q40 ?h2q40); (case h1q40 => walk_at "c.side"); (case h2q40 => walk_at "c.side"); walk_at "c.back"))
  (k_with "call ref" => (k_here; (with_reducible show wpAny _ _ (call (Value.ref 81) _) _ _ _); k_call_by "c.use" (cutq_c ?hyq41 ?hbq41); (case hyq41 => walk_at "c.side"); (case hbq41 => walk_at "c.side"); walk_at "c.back"))
  (k_with "call ref" => (k_here; (with_reducible show wpAny _ _ (call (Value.ref 109) _) _ _ _); k_call_by "c.use" (order_of_c ); walk_at "c.back"))
  (k_with "call ref" => (k_here; (with_reducible show wpAny _ _ (call (Value.ref 356) _) _ _ _); k_call_by "c.use" (compare_numbers_c ); walk_at "c.back"))
  (k_with "call ref" => (k_here; (with_reducible show wpAny _ _ (call (Value.ref 370) _) _ _ _); k_call_by "c.use" (extreme_max_c ?hl4q48); (case hl4q48 => k_dflt k_mem); walk_at "c.back"))
  (k_with "call ref" => (k_here; (with_reducible show wpAny _ _ (call (Value.ref 370) _) _ _ _); k_call_by "c.use" (extreme_min_c ?hl4q49); (case hl4q49 => k_dflt k_mem); walk_at "c.back"))
  (k_with "l.enter" => (refine wpAny_call ?_; k_dflt (refine' code_defS ?k1q50 ?k2q50 ?k3q50 ?k4q50 ?k5q50 ?kXq50 ?kTq50 ?kDq50 KtsTurn.refl ?kAq50 ?k6q50 ?k7q50 ?k8q50 ?k9q50 ?kBq50 ?_ ?kKq50 ?c2q50 ?c3q50 ?c4q50 ?c5q50; (case kAq50 => exact rfl); (case kKq50 => assumption); (case k1q50 => k_asm); (case k2q50 => k_asm); (case k3q50 => k_asm); (case k4q50 => k_asm); (case k5q50 => k_asm); (case kXq50 => k_asm); (case kTq50 => k_asm); (case kDq50 => k_asm); (case k6q50 => k_is); (case k7q50 => k_is); (case k8q50 => walk_at "c.room"); (case k9q50 => first | exact BindsTo.of_eq (binds := [(_, _)]) rfl | exact BindsTo.of_eq (binds := [(_, _), (_, _)]) rfl | exact BindsTo.of_eq (binds := [(_, _), (_, _), (_, _)]) rfl | exact BindsTo.of_eq (binds := [(_, _), (_, _), (_, _), (_, _)]) rfl | exact BindsTo.of_eq (binds := [(_, _), (_, _), (_, _), (_, _), (_, _)]) rfl | exact BindsTo.of_eq (binds := [(_, _), (_, _), (_, _), (_, _), (_, _), (_, _)]) rfl); (case c5q50 => decide); (case kBq50 => exact locs rfl); (case c2q50 => exact rfl); (case c3q50 => exact rfl); (case c4q50 => exact rfl); k_whole; intro g' L' h' FG' F' N' B' X' T' D'; (try dsimp only); (try k_fold))))
  (k_with "Exists" => (k_here; k_dflt (refine' kda_made_str ?e1q51 ?e2q51 ?e3q51 ?e4q51 ?e5q51 ?e6q51 ?_; (case e1q51 => k_asm); (case e2q51 => k_asm); (case e3q51 => exact Top.nolimit (by k_asm)); (case e4q51 => kernel_rfl); (case e5q51 => exact of_decide_eq_true (by kernel_rfl)); (case e6q51 => kernel_rfl)); intro h' o' F' N' l1 lo' hd'; (try k_lt l1)))
  (k_with "noteFrame ref" => (k_here; (with_reducible rename RX _ _ _ _ _ _ => rkX); obtain ⟨t', vs', R'⟩ := rkX; k_dflt (refine' caught_SO0 R' ?cFq52 ?cKq52 ?cUq52 ?cXBq52 ?cTBq52 ?cDq52 ?cT0q52 ?cexq52 ?cqq52 ?_ ?chq52 ?cxq52 ?cdq52 ?cEq52; (case cFq52 => k_asm); (case cKq52 => k_asm); (case cUq52 => k_asm); (case cXBq52 => k_asm); (case cTBq52 => k_asm); (case cDq52 => k_asm); (case cT0q52 => first | k_asm | exact KtsTurn.refl); (case cexq52 => k_is); (case cqq52 => kernel_rfl); (case chq52 => rfl); (case cxq52 => rfl); (case cdq52 => decide); (case cEq52 => passes_own)); intro h' g' n2' U' F' N2' G' N' B' X' T' D'; (clear N2' G'); (try k_sweep); (try dsimp only)))
  (k_with "c.bd" => first | assumption | exact bd_int (by walk_at "c.side") (by walk_at "c.side") | exact bd_add (by assumption) (by assumption) | exact bd_sub (by assumption) (by assumption) | exact bd_mul (by assumption) (by assumption) | exact bd_div (by assumption) (by assumption) | exact bd_dim (by assumption) (by assumption) | exact bd_abs (by assumption) (by assumption) | exact bd_sign (by assumption) (by assumption) | exact bd_pow (by assumption) (by assumption) | exact bd_max (by walk_at "c.bd") (by walk_at "c.bd") | exact bd_min (by walk_at "c.bd") (by walk_at "c.bd") | exact bd_mod (by walk_at "c.bd") (by walk_at "c.bd"))
  (k_with "c.iso" => first | exact isO_int | exact isO_opt)
  (k_with "l.use.r" => ((case cB => k_asm); (case cF => k_asm); (case cX => k_asm); (case cN => k_asm); (case cT => k_asm); (case ck => first | exact rfl | assumption); (case cXB => k_asm); (case cTB => k_asm); (case cD => k_asm); (case cd => walk_at "c.room"); (case cu => walk_at "c.units")))
  (k_with "l.back" => ((with_reducible rename Fr _ _ _ _ => oF); (with_reducible rename News _ _ _ _ => oN); (with_reducible rename Below _ _ _ _ => oB); (with_reducible rename Frag.In _ _ => oX); (with_reducible rename Top _ _ _ _ _ _ => oT); (with_reducible rename KtsDicts _ _ => oD); (with_reducible rename KtsTurn _ _ _ => oU); intro t' g' h' tk' U' F' N' B' X' T' D'; (have V' := KtsTurn.trans oU U'); clear oF oN oB oX oT oD oU U'; (try dsimp only); (try k_fold)))
  (k_with "l.begin" => (walk_at "l.enter"; (with_reducible rename Below _ _ _ _ => oB); (have V' := l_refl oB)))
  (k_with "compareOp NotEq" => (k_here; first
    | ((with_reducible show wpAny _ _ (compareOp CmpOp.NotEq (optV _ _) (optV _ _)) _ _ _); k_dflt (refine neV ?_))
    | ((with_reducible show wpAny _ _ (compareOp CmpOp.NotEq (optV _ _) (Value.int _ _)) _ _ _); k_dflt (refine neV (b := some _) ?_))
    | ((with_reducible show wpAny _ _ (compareOp CmpOp.NotEq (Value.int _ _) (optV _ _)) _ _ _); k_dflt (refine neV (a := some _) ?_))))
  (k_with "compareOp Eq" => (k_here; first
    | ((with_reducible show wpAny _ _ (compareOp CmpOp.Eq (optV _ _) (optV _ _)) _ _ _); k_dflt (refine eqV ?_))
    | ((with_reducible show wpAny _ _ (compareOp CmpOp.Eq (optV _ _) (Value.int _ _)) _ _ _); k_dflt (refine eqV (b := some _) ?_))
    | ((with_reducible show wpAny _ _ (compareOp CmpOp.Eq (Value.int _ _) (optV _ _)) _ _ _); k_dflt (refine eqV (a := some _) ?_))))
  (k_with "compareOp Is" => (k_here; (with_reducible show wpAny _ _ (compareOp CmpOp.Is (optV _ _) Value.none) _ _ _); k_dflt (refine isV ?_)))
  (k_with "compareOp IsNot" => (k_here; (with_reducible show wpAny _ _ (compareOp CmpOp.IsNot (optV _ _) Value.none) _ _ _); k_dflt (refine isNotV ?_)))
  (k_with "binaryOp Mult" => (k_here; (with_reducible show wpAny _ _ (binaryOp Operator.Mult (optV _ _) (Value.int _ _)) _ _ _); k_dflt (refine' mulV ?caq67 ?cbq67 ?_; (case caq67 => assumption); (case cbq67 => intro _; exact IntMulOk.of_right (PySem.intBits_le_64 (by l_fact) (by l_fact)))); intro z' hz'))
  (k_with "call builtin:abs" => (k_here; (with_reducible show wpAny _ _ (call (Value.builtin "abs") [optV _ _]) _ _ _); k_dflt (refine' absV ?caq68 ?_; (case caq68 => assumption)); intro z' hz' t' tk'))
  (k_with "call ref" => (k_here; (with_reducible show wpAny _ _ (call (Value.ref 412) [Value.str (PySem.Str.ofString "add") _, _, _, _]) _ _ _); k_call_by "l.use" (mk_add ?h1q69 ?h2q69 ?hl1q69 ?hl2q69 ?haq69 ?hbq69 ?baq69 ?bbq69); k_dflt ((case hl1q69 => k_dflt k_mem); (case hl2q69 => k_dflt k_mem); (case haq69 => walk_at "c.iso"); (case hbq69 => walk_at "c.iso"); (case h1q69 => walk_at "c.side"); (case h2q69 => walk_at "c.side"); (case baq69 => walk_at "c.bd"); (case bbq69 => walk_at "c.bd")); (case' cr => walk_at "l.back")))
  (k_with "call ref" => (k_here; (with_reducible show wpAny _ _ (call (Value.ref 412) [Value.str (PySem.Str.ofString "sub") _, _, _, _]) _ _ _); k_call_by "l.use" (mk_sub ?h1q70 ?h2q70 ?hl1q70 ?hl2q70 ?haq70 ?hbq70 ?baq70 ?bbq70); k_dflt ((case hl1q70 => k_dflt k_mem); (case hl2q70 => k_dflt k_mem); (case haq70 => walk_at "c.iso"); (case hbq70 => walk_at "c.iso"); (case h1q70 => walk_at "c.side"); (case h2q70 => walk_at "c.side"); (case baq70 => walk_at "c.bd"); (case bbq70 => walk_at "c.bd")); (case' cr => walk_at "l.back")))
  (k_with "call ref" => (k_here; (with_reducible show wpAny _ _ (call (Value.ref 412) [Value.str (PySem.Str.ofString "mul") _, _, _, _]) _ _ _); k_call_by "l.use" (mk_mul ?h1q71 ?h2q71 ?hl1q71 ?hl2q71 ?haq71 ?hbq71 ?baq71 ?bbq71); k_dflt ((case hl1q71 => k_dflt k_mem); (case hl2q71 => k_dflt k_mem); (case haq71 => walk_at "c.iso"); (case hbq71 => walk_at "c.iso"); (case h1q71 => walk_at "c.side"); (case h2q71 => walk_at "c.side"); (case baq71 => walk_at "c.bd"); (case bbq71 => walk_at "c.bd")); (case' cr => walk_at "l.back")))
  (k_with "call ref" => (k_here; (with_reducible show wpAny _ _ (call (Value.ref 412) [Value.str (PySem.Str.ofString "div") _, _, _, _]) _ _ _); k_call_by "l.use" (mk_div ?h1q72 ?h2q72 ?hl1q72 ?hl2q72 ?haq72 ?hbq72 ?baq72 ?bbq72); k_dflt ((case hl1q72 => k_dflt k_mem); (case hl2q72 => k_dflt k_mem); (case haq72 => walk_at "c.iso"); (case hbq72 => walk_at "c.iso"); (case h1q72 => walk_at "c.side"); (case h2q72 => walk_at "c.side"); (case baq72 => walk_at "c.bd"); (case bbq72 => walk_at "c.bd")); (case' cr => walk_at "l.back")))
  (k_with "call ref" => (k_here; (with_reducible show wpAny _ _ (call (Value.ref 412) [Value.str (PySem.Str.ofString "MOD") _, _, _, _]) _ _ _); k_call_by "l.use" (mk_mod ?h1q73 ?h2q73 ?hl1q73 ?hl2q73 ?haq73 ?hbq73 ?baq73 ?bbq73); k_dflt ((case hl1q73 => k_dflt k_mem); (case hl2q73 => k_dflt k_mem); (case haq73 => walk_at "c.iso"); (case hbq73 => walk_at "c.iso"); (case h1q73 => walk_at "c.side"); (case h2q73 => walk_at "c.side"); (case baq73 => walk_at "c.bd"); (case bbq73 => walk_at "c.bd")); (case' cr => walk_at "l.back")))
  (k_with "call ref" => (k_here; (with_reducible show wpAny _ _ (call (Value.ref 412) [Value.str (PySem.Str.ofString "MAX") _, _, _, _]) _ _ _); k_call_by "l.use" (mk_max ?h1q74 ?h2q74 ?hl1q74 ?hl2q74 ?haq74 ?hbq74 ?baq74 ?bbq74); k_dflt ((case hl1q74 => k_dflt k_mem); (case hl2q74 => k_dflt k_mem); (case haq74 => walk_at "c.iso"); (case hbq74 => walk_at "c.iso"); (case h1q74 => walk_at "c.side"); (case h2q74 => walk_at "c.side"); (case baq74 => walk_at "c.bd"); (case bbq74 => walk_at "c.bd")); (case' cr => walk_at "l.back")))
  (k_with "call ref" => (k_here; (with_reducible show wpAny _ _ (call (Value.ref 412) [Value.str (PySem.Str.ofString "MIN") _, _, _, _]) _ _ _); k_call_by "l.use" (mk_min ?h1q75 ?h2q75 ?hl1q75 ?hl2q75 ?haq75 ?hbq75 ?baq75 ?bbq75); k_dflt ((case hl1q75 => k_dflt k_mem); (case hl2q75 => k_dflt k_mem); (case haq75 => walk_at "c.iso"); (case hbq75 => walk_at "c.iso"); (case h1q75 => walk_at "c.side"); (case h2q75 => walk_at "c.side"); (case baq75 => walk_at "c.bd"); (case bbq75 => walk_at "c.bd")); (case' cr => walk_at "l.back")))
  (k_with "call ref" => (k_here; (with_reducible show wpAny _ _ (call (Value.ref 412) [Value.str (PySem.Str.ofString "DIM") _, _, _, _]) _ _ _); k_call_by "l.use" (mk_dim ?h1q76 ?h2q76 ?hl1q76 ?hl2q76 ?haq76 ?hbq76 ?baq76 ?bbq76); k_dflt ((case hl1q76 => k_dflt k_mem); (case hl2q76 => k_dflt k_mem); (case haq76 => walk_at "c.iso"); (case hbq76 => walk_at "c.iso"); (case h1q76 => walk_at "c.side"); (case h2q76 => walk_at "c.side"); (case baq76 => walk_at "c.bd"); (case bbq76 => walk_at "c.bd")); (case' cr => walk_at "l.back")))
  (k_with "call ref" => (k_here; (with_reducible show wpAny _ _ (call (Value.ref 412) [Value.str (PySem.Str.ofString "ABS") _, _, _, _]) _ _ _); k_call_by "l.use" (mk_abs ?h1q77 ?h2q77 ?hl1q77 ?hl2q77 ?haq77 ?hbq77 ?baq77 ?bbq77); k_dflt ((case hl1q77 => k_dflt k_mem); (case hl2q77 => k_dflt k_mem); (case haq77 => walk_at "c.iso"); (case hbq77 => walk_at "c.iso"); (case h1q77 => walk_at "c.side"); (case h2q77 => walk_at "c.side"); (case baq77 => walk_at "c.bd"); (case bbq77 => walk_at "c.bd")); (case' cr => walk_at "l.back")))
  (k_with "call ref" => (k_here; (with_reducible show wpAny _ _ (call (Value.ref 412) [Value.str (PySem.Str.ofString "SIGN") _, _, _, _]) _ _ _); k_call_by "l.use" (mk_sign ?h1q78 ?h2q78 ?hl1q78 ?hl2q78 ?haq78 ?hbq78 ?baq78 ?bbq78); k_dflt ((case hl1q78 => k_dflt k_mem); (case hl2q78 => k_dflt k_mem); (case haq78 => walk_at "c.iso"); (case hbq78 => walk_at "c.iso"); (case h1q78 => walk_at "c.side"); (case h2q78 => walk_at "c.side"); (case baq78 => walk_at "c.bd"); (case bbq78 => walk_at "c.bd")); (case' cr => walk_at "l.back")))
  (k_with "call ref" => (k_here; (with_reducible show wpAny _ _ (call (Value.ref 412) [Value.str (PySem.Str.ofString "pow") _, _, _, _]) _ _ _); k_call_by "l.use" (mki_pown ?h1q79 ?h2q79 ?hx1q79 ?hx2q79 ?hn0q79 ?hn1q79 ?hl1q79 ?hl2q79); k_dflt ((case hl1q79 => k_dflt k_mem); (case hl2q79 => k_dflt k_mem); (case h1q79 => walk_at "c.side"); (case h2q79 => walk_at "c.side"); (case hx1q79 => walk_at "c.side"); (case hx2q79 => walk_at "c.side"); (case hn0q79 => walk_at "c.side"); (case hn1q79 => walk_at "c.side")); (case' cr => walk_at "l.back")))
  (k_with "call ref" => (k_here; (with_reducible show wpAny _ _ (call (Value.ref 412) [Value.str (PySem.Str.ofString "pow") _, _, _, _]) _ _ _); k_call_by "l.use" (mk_pow ?h1q80 ?h2q80 ?hn1q80 ?hn2q80 ?hl1q80 ?hl2q80 ?haq80 ?baq80); k_dflt ((case hl1q80 => k_dflt k_mem); (case hl2q80 => k_dflt k_mem); (case haq80 => walk_at "c.iso"); (case h1q80 => walk_at "c.side"); (case h2q80 => walk_at "c.side"); (case hn1q80 => walk_at "c.side"); (case hn2q80 => walk_at "c.side"); (case baq80 => walk_at "c.bd")); (case' cr => walk_at "l.back")))
  (k_with "call ref" => (k_here; (with_reducible show wpAny _ _ (call (Value.ref 412) [Value.str (PySem.Str.ofString "powi") _, _, _, _]) _ _ _); k_call_by "l.use" (mk_powi ?h1q81 ?h2q81 ?hn1q81 ?hn2q81 ?hl1q81 ?hl2q81 ?haq81 ?baq81); k_dflt ((case hl1q81 => k_dflt k_mem); (case hl2q81 => k_dflt k_mem); (case haq81 => walk_at "c.iso"); (case h1q81 => walk_at "c.side"); (case h2q81 => walk_at "c.side"); (case hn1q81 => walk_at "c.side"); (case hn2q81 => walk_at "c.side"); (case baq81 => walk_at "c.bd")); (case' cr => walk_at "l.back")))
  (k_with "call ref" => (k_here; (with_reducible show wpAny _ _ (call (Value.ref 412) [Value.str (PySem.Str.ofString "lt") _, _, _, _]) _ _ _); k_call_by "l.use" (mki_lt ?h1q82 ?h2q82 ?hx1q82 ?hx2q82 ?hy1q82 ?hy2q82 ?hl1q82 ?hl2q82); k_dflt ((case hl1q82 => k_dflt k_mem); (case hl2q82 => k_dflt k_mem); (case h1q82 => walk_at "c.side"); (case h2q82 => walk_at "c.side"); (case hx1q82 => walk_at "c.side"); (case hx2q82 => walk_at "c.side"); (case hy1q82 => walk_at "c.side"); (case hy2q82 => walk_at "c.side")); (case' cr => walk_at "l.back")))
  (k_with "call ref" => (k_here; (with_reducible show wpAny _ _ (call (Value.ref 412) [Value.str (PySem.Str.ofString "ge") _, _, _, _]) _ _ _); k_call_by "l.use" (mki_ge ?h1q83 ?h2q83 ?hx1q83 ?hx2q83 ?hy1q83 ?hy2q83 ?hl1q83 ?hl2q83); k_dflt ((case hl1q83 => k_dflt k_mem); (case hl2q83 => k_dflt k_mem); (case h1q83 => walk_at "c.side"); (case h2q83 => walk_at "c.side"); (case hx1q83 => walk_at "c.side"); (case hx2q83 => walk_at "c.side"); (case hy1q83 => walk_at "c.side"); (case hy2q83 => walk_at "c.side")); (case' cr => walk_at "l.back")))
  (k_with "exec While Compare cons nil" => (k_here; (with_reducible rename Fr _ _ _ _ => lF'); (with_reducible rename News _ _ _ _ => lN'); k_dflt (refine' ksw_while (σ := Int × Int × Tok × Tok) (fun _ => _) (fun c => [(Str.ofString "n", .int c.1 c.2.2.1), (Str.ofString "count", .int c.2.1 c.2.2.2)]) (fun _ => True) [] (CdP _) (fun c => c.1.toNat) (_, _, _, _) lF' lN' trivial ?kkq92 ?kpq92 ?_ ?hEq92; (case kkq92 => kst_all); (case kpq92 => first | exact cd_start | assumption); (case hEq92 => first | passes_own | with_unfolding_all passes_own)); clear lF' lN'; rintro ⟨a', c', t', u'⟩ kU' h' tk' - hI' F' N'; (try dsimp only [kstB] at F'); (try dsimp only); (try k_fold)))
  (k_with "KswEnd" => (k_dflt (refine' ksw_end (_, _, _, _) ?kFq93 ?kNq93 (fun _ h => h) trivial ?kkq93 ?krq93 ?kpq93 ?kmq93; (case kFq93 => assumption); (case kNq93 => assumption); (case kkq93 => kst_all); (case krq93 => ksw_same); (case kpq93 => first | exact cd_nine (by assumption) (by assumption) | exact cd_one (by assumption) (by assumption)); (case kmq93 => first | exact cd_m9 (by assumption) | exact cd_m1 (by assumption)))))
  (k_with "t.sub" => first | assumption | exact fun _ hp => hp | (intro p hp; k_mem))
  (k_with "t.is" => first | assumption | exact IsT.nought | k_dflt (exact IsT.new (by k_mem)) | (refine' IsT.mono (by assumption) ?hzq95; (case hzq95 => walk_at "t.sub")))
  (k_with "t.use.r" => ((case cB => k_asm); (case cF => k_asm); (case cX => k_asm); (case cN => k_asm); (case cT => k_asm); (case ck => first | exact rfl | assumption); (case cd => walk_at "c.room"); (case cu => walk_at "c.units")))
  (k_with "t.back" => (case' cr => (intro b' z' e' n' h' tk' hP' hT' hS' F' N'; (try k_sweep); (try dsimp only); (try k_fold))))
  (k_with "subscriptTail" => (k_here; first
    | ((with_reducible show wpAny _ _ (subscriptTail _ _ (Value.ref _) (Value.int 0 _)) _ _ _); k_dflt (refine' tup_item0 ?cFq97 ?cXq97 ?cNq97 ?cHq97 ?_ ?csq97; (case cFq97 => k_asm); (case cXq97 => k_asm); (case cNq97 => k_asm); (case cHq97 => walk_at "t.is"); (case csq97 => with_unfolding_all rfl)); intro t')
    | ((with_reducible show wpAny _ _ (subscriptTail _ _ (Value.ref _) (Value.int 1 _)) _ _ _); k_dflt (refine' tup_item1 ?cFq97 ?cXq97 ?cNq97 ?cHq97 ?_ ?csq97; (case cFq97 => k_asm); (case cXq97 => k_asm); (case cNq97 => k_asm); (case cHq97 => walk_at "t.is"); (case csq97 => with_unfolding_all rfl)); intro t')))
  (k_with "assign Tuple" => (k_here; k_dflt (refine' tup_assign ?chq98 ?cFq98 ?cXq98 ?cNq98 ?cHq98 ?cnq98 ?csq98 ?_; (case chq98 => exact rfl); (case cFq98 => k_asm); (case cXq98 => k_asm); (case cNq98 => k_asm); (case cHq98 => walk_at "t.is"); (case cnq98 => exact rfl); (case csq98 => exact rfl)); intro t' u' h' F' N'; (try k_sweep)))
  (k_with "t.is" => first | assumption | exact IsT.nought | (refine' IsT.mono (by assumption) ?hzq99; (case hzq99 => walk_at "t.sub")) | k_dflt (exact IsT.new (by k_mem)))
  (k_with "exec While Compare cons nil" => (k_here; (with_reducible rename Fr _ _ _ _ => lF'); (with_reducible rename News _ _ _ _ => lN'); k_dflt (refine' ksw_while (σ := Int × Int × Tok × Tok) (fun _ => _) (fun c => [(Str.ofString "m", .int c.1 c.2.2.1), (Str.ofString "e", .int c.2.1 c.2.2.2)]) (fun _ => True) [] (StP _ _) (fun c => c.1.natAbs) (_, _, _, _) lF' lN' trivial ?kkq100 ?kpq100 ?_ ?hEq100; (case kkq100 => kst_all); (case kpq100 => exact stp_start (by assumption)); (case hEq100 => first | passes_own | with_unfolding_all passes_own)); clear lF' lN'; rintro ⟨a', c', t', u'⟩ kU' h' tk' - hI' F' N'; (try dsimp only [kstB] at F'); (try dsimp only); (try k_fold)))
  (k_with "KswEnd" => (k_dflt (refine' ksw_end (_, _, _, _) ?kFq101 ?kNq101 (fun _ h => h) trivial ?kkq101 ?krq101 ?kpq101 ?kmq101; (case kFq101 => assumption); (case kNq101 => assumption); (case kkq101 => kst_all); (case krq101 => ksw_same); (case kpq101 => exact stp_step (by assumption) (by assumption)); (case kmq101 => exact stp_less (stp_ne (by assumption)) (by assumption)))))
  (k_with "call builtin:divmod" => (k_here; k_dflt (refine' divmod_g ?cFq102 ?cNq102 ?e1q102 ?e2q102 ?eyq102 ?elq102 ?_; (case cFq102 => k_asm); (case cNq102 => k_asm); (case e1q102 => first | exact rfl | exact mul_ten_nat _ _); (case e2q102 => first | exact rfl | exact ten_nat); (case eyq102 => first | exact ten_pos | walk_at "c.num"); (case elq102 => first | exact ten_small (by walk_at "c.num") | walk_at "c.num")); intro D' h' t' u' tk' F' N'; (try k_sweep)))
  (k_with "c.ne" => first | assumption | decide | omega | exact ten_ne _)
  (k_with "c.py" => first | assumption | (rw [Int.natAbs_natCast]; assumption) | decide | exact log2_40 (by assumption) (by assumption) | exact ten_log (by walk_at "c.num"))
  (k_with "binaryOp Mult int int" => (k_here; (with_reducible show wpAny _ _ (binaryOp _ (Value.int _ _) (Value.int (10 ^ _) _)) _ _ _); k_dflt (refine' PyProof.Rows.mul_int ?_ ?ckq105; (case ckq105 => exact mul_ten_ok (by walk_at "c.num")))))
  (k_with "call ref" => (k_here; (with_reducible show wpAny _ _ (call (Value.ref 153) _) _ _ _); k_call_by "c.use" (count_digits_c ); walk_at "c.back"))
  (k_with "call ref" => (k_here; (with_reducible show wpAny _ _ (call (Value.ref 160) _) _ _ _); k_call_by "t.use" (strip_zeros_c ); walk_at "t.back"))
  (k_with "call ref" => (k_here; (with_reducible show wpAny _ _ (call (Value.ref 153) _) _ _ _); k_call_by "c.use" (count_digits_c ); walk_at "c.back"))
  (k_with "call ref" => (k_here; (with_reducible show wpAny _ _ (call (Value.ref 167) _) _ _ _); k_call_by "t.use" (round_digits_c ?hxq109); (case hxq109 => walk_at "c.side"); walk_at "t.back"))
  (k_with "r.side" => first | assumption | omega | exact tn_abs (by assumption) (by assumption) | exact tn_e1 (by assumption) | exact tn_e2 (by assumption) | exact tn_neg (by assumption) (by assumption))
  (k_with "call ref" => (k_here; (with_reducible show wpAny _ _ (call (Value.ref 195) _) _ _ _); k_call_by "t.use" (real_neg_c ?hT1q111); (case hT1q111 => walk_at "t.is"); walk_at "t.back"))
  (k_with "call ref" => (k_here; (with_reducible show wpAny _ _ (call (Value.ref 174) _) _ _ _); k_call_by "t.use" (round_exact_c ?hxq112 ?hy1q112 ?hy2q112); (case hxq112 => walk_at "r.side"); (case hy1q112 => walk_at "r.side"); (case hy2q112 => walk_at "r.side"); walk_at "t.back"))
  (k_with "call ref" => (k_here; (with_reducible show wpAny _ _ (call (Value.ref 181) _) _ _ _); k_call_by "t.use" (exact_add_c ?hT1q113 ?hT2q113 ?hxq113 ?hyq113); (case hT1q113 => walk_at "t.is"); (case hT2q113 => walk_at "t.is"); (case hxq113 => walk_at "r.side"); (case hyq113 => walk_at "r.side"); walk_at "t.back"))
  (k_with "call ref" => (k_here; (with_reducible show wpAny _ _ (call (Value.ref 153) _) _ _ _); k_call_by "c.use" (count_digits_c ); walk_at "c.back"))
  (k_with "call ref" => (k_here; (with_reducible show wpAny _ _ (call (Value.ref 160) _) _ _ _); k_call_by "t.use" (strip_zeros_c ); walk_at "t.back"))
  (k_with "r.side" => first | assumption | omega | exact tn_abs (by assumption) (by assumption) | exact tn_e1 (by assumption) | exact tn_e2 (by assumption) | exact tn_e60 (by assumption) | exact tn_e16 (by assumption) | exact tn_half | exact tn_nabs (by assumption) | exact un_ne (by assumption) | exact log_15 (un_bd (by assumption) (by omega) (by omega) (by assumption)) | exact rest_15 (un_bd (by assumption) (by omega) (by omega) (by assumption)))
  (k_with "binaryOp Mult int int" => (k_here; (with_reducible show wpAny _ _ (binaryOp _ (Value.int (Int.tdiv _ _) _) (Value.int (_ * 10 ^ _) _)) _ _ _); k_dflt (refine' PyProof.Rows.mul_int ?_ ?ckq133; (case ckq133 => exact mul_15 (un_bd (by assumption) (by omega) (by omega) (by assumption))))))
  (k_with "call ref" => (k_here; (with_reducible show wpAny _ _ (call (Value.ref 251) _) _ _ _); k_call_by "c.use" (real_to_int_c ?hT1q134 ?he1q134 ?he2q134); (case hT1q134 => walk_at "t.is"); (case he1q134 => walk_at "r.side"); (case he2q134 => walk_at "r.side"); walk_at "c.back"))
  (k_with "call ref" => (k_here; (with_reducible show wpAny _ _ (call (Value.ref 174) _) _ _ _); k_call_by "t.use" (round_exact_c ?hxq135 ?hy1q135 ?hy2q135); (case hxq135 => walk_at "r.side"); (case hy1q135 => walk_at "r.side"); (case hy2q135 => walk_at "r.side"); walk_at "t.back"))
  (k_with "call ref" => (k_here; (with_reducible show wpAny _ _ (call (Value.ref 181) _) _ _ _); k_call_by "t.use" (exact_add_c ?hT1q136 ?hT2q136 ?hxq136 ?hyq136); (case hT1q136 => walk_at "t.is"); (case hT2q136 => walk_at "t.is"); (case hxq136 => walk_at "r.side"); (case hyq136 => walk_at "r.side"); walk_at "t.back"))
  (k_with "call ref" => (k_here; (with_reducible show wpAny _ _ (call (Value.ref 272) _) _ _ _); k_call_by "c.use" (digits_of_c ?hl1q137 ?hl2q137); (case hl1q137 => k_dflt k_mem); (case hl2q137 => k_dflt k_mem); walk_at "c.back"))
  (k_with "call ref" => (k_here; (with_reducible show wpAny _ _ (call (Value.ref 53) _) _ _ _); k_call_by "c.use" (fit_int_c ?h1q138 ?h2q138); (case h1q138 => walk_at "r.side"); (case h2q138 => walk_at "r.side"); walk_at "c.back"))
  (k_with "call ref" => (k_here; (with_reducible show wpAny _ _ (call (Value.ref 251) _) _ _ _); k_call_by "c.use" (real_to_int_c ?hT1q139 ?he1q139 ?he2q139); (case hT1q139 => walk_at "t.is"); (case he1q139 => walk_at "r.side"); (case he2q139 => walk_at "r.side"); walk_at "c.back"))
  (k_with "call ref" => (k_here; (with_reducible show wpAny _ _ (call (Value.ref 300) _) _ _ _); k_call_by "c.use" (half_up_c ?hT1q140 ?hxq140); (case hT1q140 => walk_at "t.is"); (case hxq140 => walk_at "r.side"); walk_at "c.back"))
  (k_with "call ref" => (k_here; (with_reducible show wpAny _ _ (call (Value.ref 174) _) _ _ _); k_call_by "t.use" (round_exact_c ?hxq141 ?hy1q141 ?hy2q141); (case hxq141 => walk_at "r.side"); (case hy1q141 => walk_at "r.side"); (case hy2q141 => walk_at "r.side"); walk_at "t.back"))
  (k_with "call ref" => (k_here; (with_reducible show wpAny _ _ (call (Value.ref 272) _) _ _ _); k_call_by "c.use" (digits_of_c ?hl1q142 ?hl2q142); (case hl1q142 => k_dflt k_mem); (case hl2q142 => k_dflt k_mem); walk_at "c.back"))
  (k_with "call ref" => (k_here; (with_reducible show wpAny _ _ (call (Value.ref 244) _) _ _ _); k_call_by "t.use" (real_of_int_c ?hnq143); (case hnq143 => walk_at "r.side"); walk_at "t.back"))
  (k_with "call ref" => (k_here; (with_reducible show wpAny _ _ (call (Value.ref 209) _) _ _ _); k_call_by "t.use" (real_add_c ?hT1q144 ?hT2q144 ?hxq144 ?hyq144 ?hbq144); (case hT1q144 => walk_at "t.is"); (case hT2q144 => walk_at "t.is"); (case hxq144 => walk_at "r.side"); (case hyq144 => walk_at "r.side"); (case hbq144 => walk_at "r.side"); walk_at "t.back"))
  (k_with "call ref" => (k_here; (with_reducible show wpAny _ _ (call (Value.ref 216) _) _ _ _); k_call_by "t.use" (real_sub_c ?hT1q145 ?hT2q145 ?hxq145 ?hyq145 ?hbq145); (case hT1q145 => walk_at "t.is"); (case hT2q145 => walk_at "t.is"); (case hxq145 => walk_at "r.side"); (case hyq145 => walk_at "r.side"); (case hbq145 => walk_at "r.side"); walk_at "t.back"))
  (k_with "call ref" => (k_here; (with_reducible show wpAny _ _ (call (Value.ref 223) _) _ _ _); k_call_by "t.use" (real_mul_c ?hT1q146 ?hT2q146 ?hxq146 ?hyq146 ?hbq146 ?hb2q146); (case hT1q146 => walk_at "t.is"); (case hT2q146 => walk_at "t.is"); (case hxq146 => walk_at "r.side"); (case hyq146 => walk_at "r.side"); (case hbq146 => walk_at "r.side"); (case hb2q146 => walk_at "r.side"); walk_at "t.back"))
  (k_with "call ref" => (k_here; (with_reducible show wpAny _ _ (call (Value.ref 230) _) _ _ _); k_call_by "t.use" (real_div_c ?hT1q147 ?hT2q147 ?hxq147 ?hyq147 ?huq147 ?hv0q147 ?hvq147); (case hT1q147 => walk_at "t.is"); (case hT2q147 => walk_at "t.is"); (case hxq147 => walk_at "r.side"); (case hyq147 => walk_at "r.side"); (case huq147 => walk_at "r.side"); (case hv0q147 => walk_at "r.side"); (case hvq147 => walk_at "r.side"); walk_at "t.back"))
  (k_with "call ref" => (k_here; (with_reducible show wpAny _ _ (call (Value.ref 272) _) _ _ _); k_call_by "c.use" (digits_of_c ?hl1q148 ?hl2q148); (case hl1q148 => k_dflt k_mem); (case hl2q148 => k_dflt k_mem); walk_at "c.back"))
  (k_with "call ref" => (k_here; (with_reducible show wpAny _ _ (call (Value.ref 293) _) _ _ _); k_call_by "c.use" (conv_int ?h1q149 ?h2q149 ?hl1q149 ?hl2q149 ?hT1q149 ?hxq149); (case h1q149 => walk_at "r.side"); (case h2q149 => walk_at "r.side"); (case hl1q149 => k_dflt k_mem); (case hl2q149 => k_dflt k_mem); (case hT1q149 => walk_at "t.is"); (case hxq149 => walk_at "r.side"); walk_at "c.back"))
  (k_with "call ref" => (k_here; (with_reducible show wpAny _ _ (call (Value.ref 286) _) _ _ _); k_call_by "t.use" (real_as_c ?hl1q150 ?hl2q150 ?hnq150); (case hl1q150 => k_dflt k_mem); (case hl2q150 => k_dflt k_mem); (case hnq150 => walk_at "r.side"); walk_at "t.back"))
  (k_with "call ref" => (k_here; (with_reducible show wpAny _ _ (call (Value.ref 328) _) _ _ _); k_call_by "c.use" (near_int_c ?h1q151 ?h2q151 ?hl1q151 ?hl2q151 ?hl4q151 ?hT1q151 ?hxq151); (case h1q151 => walk_at "r.side"); (case h2q151 => walk_at "r.side"); (case hl1q151 => k_dflt k_mem); (case hl2q151 => k_dflt k_mem); (case hl4q151 => k_dflt k_mem); (case hT1q151 => walk_at "t.is"); (case hxq151 => walk_at "r.side"); walk_at "c.back"))
  (k_with "call ref" => (k_here; (with_reducible show wpAny _ _ (call (Value.ref 307) _) _ _ _); k_call_by "c.use" (as_int_c ?h1q152 ?h2q152 ?hl1q152 ?hl2q152 ?hl3q152 ?hl4q152 ?hT1q152 ?hxq152); (case h1q152 => walk_at "r.side"); (case h2q152 => walk_at "r.side"); (case hl1q152 => k_dflt k_mem); (case hl2q152 => k_dflt k_mem); (case hl3q152 => k_dflt k_mem); (case hl4q152 => k_dflt k_mem); (case hT1q152 => walk_at "t.is"); (case hxq152 => walk_at "r.side"); walk_at "c.back"))
  trivial
section
theorem ln65 : True := by
  (k_with "d.num" => first | assumption | exact Int.le_trans (by assumption) (by assumption) | exact d_20 (by assumption) (by assumption) | decide | omega | (split <;> omega))
  (k_with "d.back" => (case' cr => (intro z' t' n' u' o' h' tk' hz' hn1' hn2' hd' F' N'; (try k_sweep); (try dsimp only); (try k_fold))))
  (k_with "call ref" => (k_here; (with_reducible show wpAny _ _ (call (Value.ref 391) _) _ _ _); k_call_by "t.use" (dip_c ?hw ?hi ?hl ?ho ?hne ?hn0q180 ?hn1q180 ?hKq180 ?hK2q180); (case hw => assumption); (case hi => assumption); (case hl => assumption); (case ho => assumption); (case hne => assumption); (case hn0q180 => walk_at "d.num"); (case hn1q180 => walk_at "d.num"); (case hKq180 => walk_at "d.num"); (case hK2q180 => walk_at "d.num"); walk_at "d.back"))
  trivial
theorem d_20 {n n' : Int} (h : n ≤ 19) (h1 : n' ≤ n + 1) : n' ≤ 20 := by omega
theorem two_pow {W : Int} (h1 : 2 ≤ W) (h2 : W ≤ 40) : (2 : Int) ≤ 2 ^ (W - 1).toNat ∧ (2 : Int) ^ (W - 1).toNat ≤ 549755813888 ∧ (2 : Int) ^ W.toNat = 2 * 2 ^ (W - 1).toNat := by
  obtain ⟨k, hk⟩ : ∃ k, (W - 1).toNat = k + 1 := ⟨(W - 1).toNat - 1, by omega⟩
  have e : W.toNat = (W - 1).toNat + 1 := by omega
  have a : 2 ^ 1 ≤ 2 ^ (W - 1).toNat := Nat.pow_le_pow_right (by decide) (by omega)
  have b : 2 ^ (W - 1).toNat ≤ 2 ^ 39 := Nat.pow_le_pow_right (by decide) (by omega)
  have c : ((2 : Int) ^ (W - 1).toNat) = ((2 ^ (W - 1).toNat : Nat) : Int) := (Int.natCast_pow 2 _).symm
  refine ⟨by rw [c]; omega, by rw [c]; omega, ?_⟩
  rw [e, Int.pow_succ, Int.mul_comm]
theorem small_end {W z : Int} (hp : (2 : Int) ≤ 2 ^ (W - 1).toNat) (h : 0 ≤ z ∧ z < 2 * (if (2 : Int) ^ (W - 1).toNat < 6 then 2 ^ (W - 1).toNat else 6)) :
    ¬ NoFit W (z - if (2 : Int) ^ (W - 1).toNat < 6 then 2 ^ (W - 1).toNat else 6) ∧ -6 ≤ (z - if (2 : Int) ^ (W - 1).toNat < 6 then 2 ^ (W - 1).toNat else 6) ∧ (z - if (2 : Int) ^ (W - 1).toNat < 6 then 2 ^ (W - 1).toNat else 6) ≤ 5 := by
  unfold NoFit
  split at h
  · rename_i q; rw [if_pos q]; omega
  · rename_i q; rw [if_neg q]; omega
theorem small_c {w : World} {rest : List (Addr × Obj)} {dw wa : Addr} {o : Obj} {u t : Tok} {n W : Int} {ws : List Value} {ns : List Int} (hw : (wa, listOf ws.toArray 0) ∈ rest) (hi : IntsAre ws ns) (hl : ns.length ≤ 20) (ho : wellK w wa n u o) (hne : ∀ p ∈ rest, p.1 ≠ dw) (hn0 : 0 ≤ n) (hn1 : n ≤ 20) (h1 : 2 ≤ W) (h2 : W ≤ 40) :
    CtD 8 w 398 [.ref dw, .int W t] dw wa o rest n 1 (fun z => ¬ NoFit W z ∧ -6 ≤ z ∧ z ≤ 5) := by
  obtain ⟨p1, p2, p3⟩ := two_pow h1 h2
  intro mean mg mb dp un gd cn cs a ccd outer A₀ base h₀ L m s Q E B F X N T hk hd hu hret
  walk_at "c.enter"
  k_steps
  all_goals ((refine' hret _ _ _ _ _ _ _ ?_ ?c1 ?c2 ?c3 ?c4 ?c5; (case c3 => k_asm); (case c4 => k_asm); (case c5 => k_asm); (case c1 => omega); (case c2 => omega)); exact small_end p1 (by assumption))
theorem ln66 : True := by
  (k_with "call ref" => (k_here; (with_reducible show wpAny _ _ (call (Value.ref 398) _) _ _ _); k_call_by "t.use" (small_c ?hw ?hi ?hl ?ho ?hne ?hn0q181 ?hn1q181 ?h1q181 ?h2q181); (case hw => assumption); (case hi => assumption); (case hl => assumption); (case ho => assumption); (case hne => assumption); (case hn0q181 => walk_at "d.num"); (case hn1q181 => walk_at "d.num"); (case h1q181 => walk_at "d.num"); (case h2q181 => walk_at "d.num"); walk_at "d.back"))
  trivial
theorem num1 {W z : Int} (p1 : (2 : Int) ≤ 2 ^ (W - 1).toNat) (p3 : (2 : Int) ^ W.toNat = 2 * 2 ^ (W - 1).toNat) (h : 0 ≤ z ∧ z < 5) (h2 : z < 2) : ¬ NoFit W (z * (2 ^ W.toNat - 1) - 2 ^ (W - 1).toNat) := by
  unfold NoFit
  rw [p3]
  generalize (2 : Int) ^ (W - 1).toNat = p at *
  have : z = 0 ∨ z = 1 := by omega
  rcases this with rfl | rfl <;> omega
theorem num2 {W z : Int} (h : ¬ NoFit W z ∧ -6 ≤ z ∧ z ≤ 5) : ¬ NoFit W z := h.1
theorem num3 {W z : Int} (p1 : (2 : Int) ≤ 2 ^ (W - 1).toNat) (p3 : (2 : Int) ^ W.toNat = 2 * 2 ^ (W - 1).toNat) (h : 0 ≤ z ∧ z < 2 ^ W.toNat) : ¬ NoFit W (z - 2 ^ (W - 1).toNat) := by
  unfold NoFit
  rw [p3] at h
  generalize (2 : Int) ^ (W - 1).toNat = p at *
  omega
theorem number_c {w : World} {rest : List (Addr × Obj)} {dw wa : Addr} {o : Obj} {u t : Tok} {n W : Int} {ws : List Value} {ns : List Int} (hw : (wa, listOf ws.toArray 0) ∈ rest) (hi : IntsAre ws ns) (hl : ns.length ≤ 20) (ho : wellK w wa n u o) (hne : ∀ p ∈ rest, p.1 ≠ dw) (hn0 : 0 ≤ n) (hn1 : n ≤ 19) (h1 : 2 ≤ W) (h2 : W ≤ 40) :
    CtD 11 w 405 [.ref dw, .int W t] dw wa o rest n 2 (fun z => ¬ NoFit W z) := by
  obtain ⟨p1, p2, p3⟩ := two_pow h1 h2
  intro mean mg mb dp un gd cn cs a ccd outer A₀ base h₀ L m s Q E B F X N T hk hd hu hret
  walk_at "c.enter"
  k_steps
  all_goals ((refine' hret _ _ _ _ _ _ _ ?_ ?c1 ?c2 ?c3 ?c4 ?c5; (case c3 => k_asm); (case c4 => k_asm); (case c5 => k_asm); (case c1 => omega); (case c2 => omega)); first | exact num1 p1 p3 (by assumption) (by assumption) | exact num3 p1 p3 (by assumption) | exact num2 (by assumption))
end
theorem lim_conv {P : Params} {h₀ h : Heap} {L x d : Addr} {W : Int} {u k0 k1 k2 k3 k4 k5 k6 k7 : Tok} {r : List (Addr × Obj)}
    (N : News h₀ L h ((x, instObj 141 d) :: (d, dictOf [
      ⟨PyData.keyHash P (Str.ofString "width"), .str (Str.ofString "width") k0, .int W u⟩,
      ⟨PyData.keyHash P (Str.ofString "real_digits"), .str (Str.ofString "real_digits") k1, .int 7 363⟩,
      ⟨PyData.keyHash P (Str.ofString "double_digits"), .str (Str.ofString "double_digits") k2, .int 15 364⟩,
      ⟨PyData.keyHash P (Str.ofString "top_exponent"), .str (Str.ofString "top_exponent") k3, .int 38 365⟩,
      ⟨PyData.keyHash P (Str.ofString "steps"), .str (Str.ofString "steps") k4, .int 1000000 366⟩,
      ⟨PyData.keyHash P (Str.ofString "continuations"), .str (Str.ofString "continuations") k5, .int 19 367⟩,
      ⟨PyData.keyHash P (Str.ofString "columns"), .str (Str.ofString "columns") k6, .int 72 368⟩,
      ⟨PyData.keyHash P (Str.ofString "depth"), .str (Str.ofString "depth") k7, .int 40 369⟩] 8) :: r)) :
    ∃ lk : Nat → Tok, News h₀ L h ((x, instObj 141 d) :: (d, limD P W u lk) :: r) :=
  ⟨fun i => [k0, k1, k2, k3, k4, k5, k6, k7].getD i 0, N⟩
theorem CtD.weak {D : Nat} {w : World} {f : Addr} {vs : List Value} {dw wa : Addr} {o : Obj} {rest : List (Addr × Obj)} {n c : Int} {P P' : Int → Prop} (h : CtD D w f vs dw wa o rest n c P) (hp : ∀ z, P z → P' z) : CtD D w f vs dw wa o rest n c P' :=
  fun mean mg mb dp un gd cn cs a ccd outer A₀ base h₀ L m s Q E B F X N T hk hd hu hret =>
    h mean mg mb dp un gd cn cs a ccd outer A₀ base h₀ L m s Q E B F X N T hk hd hu (fun z t n' u' o' h' tk' q => hret z t n' u' o' h' tk' (hp z q))
theorem number_l {w : World} {rest : List (Addr × Obj)} {dw wa : Addr} {o : Obj} {u t : Tok} {n W : Int} {ws : List Value} {ns : List Int} (hw : (wa, listOf ws.toArray 0) ∈ rest) (hi : IntsAre ws ns) (hl : ns.length ≤ 20) (ho : wellK w wa n u o) (hne : ∀ p ∈ rest, p.1 ≠ dw) (hn0 : 0 ≤ n) (hn1 : n ≤ 19) (h1 : 2 ≤ W) (h2 : W ≤ 40) :
    CtD 11 w 405 [.ref dw, .int W t] dw wa o rest n 2 (fun z => ¬ NoFit W z ∧ -549755813888 ≤ z ∧ z ≤ 549755813888) :=
  (number_c hw hi hl ho hne hn0 hn1 h1 h2).weak fun z h => ⟨h, fit_39 h1 h2 h⟩
theorem fit_zero {W : Int} (h1 : 2 ≤ W) (h2 : W ≤ 40) : ¬ NoFit W 0 := by
  have := two_pow h1 h2
  unfold NoFit; omega
theorem fit_m1 {W : Int} (h1 : 2 ≤ W) (h2 : W ≤ 40) : ¬ NoFit W (-1) := by
  have := two_pow h1 h2
  unfold NoFit; omega
theorem round_tenth {w : World} {news : List (Addr × Obj)} {x : Int} {t u v r : Tok} (hx : x.natAbs < 10 ^ 15) :
    CtT 14 w 174 [.int x t, .int (-1) u, .int 15 v, .int 38 r] news (Nf x) :=
  (round_exact_c hx (by decide) (by decide)).weak fun z e h => by
    rw [show ((-1 : Int) + 1).toNat = 0 from rfl, Int.pow_zero, Int.mul_one] at h; exact h
theorem tup_out {D : Nat} {w : World} {f : Addr} {vs : List Value} {dw wa : Addr} {o : Obj} {rest : List (Addr × Obj)} {n : Int} {u : Tok} {P : Int → Int → Prop} (hc : CtT D w f vs ((dw, o) :: rest) P) (hd : wellK w wa n u o) (hne : ∀ p ∈ rest, p.1 ≠ dw)
    (mean : ExcName → Option Value) (mg mb : Str → Option Value) (dp un : Nat) (gd : Option (List Code)) (cn : Str) (cs : Scope) (a : Addr) (ccd : Value) (outer : List Env) (A₀ : Around) (base h₀ : Heap) (L : Addr) (m : Str → Option Value) (s : Shared) (Q E : Value → Shared → Prop)
    (B : Below A₀ base outer h₀) (F : Fr h₀ L s.heap m) (X : (tp.heap_1 w.params).In h₀) (N : News h₀ L s.heap ((dw, o) :: rest)) (T : Top tp.vw (looseW tp.vw []) mean mg mb h₀) (hk : cs.kind = .function)
    (hdp : dp + D < recursionLimit) (hun : un + 10 * D < cLine)
    (hret : ∀ b z e r' h' tk', P z e → IsT r' b z e → (∀ p ∈ rest, p ∈ r') → (∀ p ∈ r', p.1 ≠ dw) → Fr h₀ L h' m → News h₀ L h' ((dw, o) :: r') → Q (.ref b) { s with heap := h', toks := tk' }) :
    wpAny (model Challenge.rw_sa0216_01.row.prog w) (cTop dp un gd cn cs L a ccd outer) (call (.ref f) vs) Q E s := by
  refine hc mean mg mb dp un gd cn cs a ccd outer A₀ base h₀ L m s Q E B F X N T hk hdp hun fun b z e n' h' tk' hP hT hS F' N' => ?_
  rcases hT with hT | ⟨t, v, hm⟩
  · exact hret b z e rest h' tk' hP (.inl hT) (fun _ h => h) hne F' (N'.perm hS)
  · have hb : b ≠ dw := by
      rintro rfl
      have e1 := N'.get hm
      have e2 := N'.get (hS _ (.head _))
      rw [e1] at e2
      obtain ⟨es, ep, _, hx, _⟩ := hd
      have := (Option.some.inj e2).symm ▸ hx
      cases this
    refine hret b z e ((b, tupO z e t v) :: rest) h' tk' hP (IsT.new (.head _)) (fun _ h => .tail _ h) (fun p hp => ?_) F' (N'.perm fun p hp => ?_)
    · rcases List.mem_cons.mp hp with rfl | hp
      · exact hb
      · exact hne p hp
    · rcases List.mem_cons.mp hp with rfl | hp
      · exact hS _ (.head _)
      rcases List.mem_cons.mp hp with rfl | hp
      · exact hm
      · exact hS _ (.tail _ hp)
theorem w0 {z : Int} (h : 0 ≤ z ∧ z < 39) : 2 ≤ 2 + z ∧ 2 + z ≤ 40 ∧ ¬ NoFit (2 + z) 0 ∧ ¬ NoFit (2 + z) (-1) :=
  ⟨by omega, by omega, fit_zero (by omega) (by omega), fit_m1 (by omega) (by omega)⟩
theorem fr_turn {g g' h : Heap} {L : Addr} {m : Str → Option Value} (V : KtsTurn (([] : List Env).filterMap (·.frame)) g g') (F : Fr g' L h m) : Fr g L h m :=
  ⟨F.ns, fun b o e => F.keep b o (V.other b o e (fun q => nomatch q)), V.size ▸ F.above⟩
theorem news_turn {g g' h : Heap} {L : Addr} {news : List (Addr × Obj)} (V : KtsTurn (([] : List Env).filterMap (·.frame)) g g') (N : News g' L h news) : News g L h [] := fun _ q => nomatch q
theorem law_post (ns : List Int) : PySem.Challenge.rw_sa0216_01.row.toRowW.claim.post [ofPy (PyData.list (List.map PyData.int ns))] (.bool true) [ofPy (PyData.list (List.map PyData.int ns))] = true := by
  kernel_rfl
theorem d_lo {n n' : Int} (h : 0 ≤ n) (h1 : n ≤ n') : 0 ≤ n' := Int.le_trans h h1
def NB (n b : Int) : Prop := n ≤ b
theorem nb_0 : NB 0 0 := Int.le_refl 0
theorem d_hi {n n' b c : Int} (h : NB n b) (h1 : n' ≤ n + c) : NB n' (b + c) := Int.le_trans h1 (Int.add_le_add_right h c)
theorem nb_le {n b c : Int} (h : NB n b) (e : b ≤ c) : n ≤ c := Int.le_trans h e
theorem sd_m0 {z : Int} (h : 0 ≤ z ∧ z < 7) : 0 ≤ z := h.1
theorem sd_m1 {z : Int} (h : 0 ≤ z ∧ z < 7) : z ≤ 6 := by omega
theorem sd_n0 {z : Int} (h : 0 ≤ z ∧ z < 7) : 1 ≤ 1 + z := by omega
theorem sd_n1 {z : Int} (h : 0 ≤ z ∧ z < 7) : 1 + z ≤ 7 := by omega
theorem sd_t15 {x d : Int} (h1 : -549755813888 ≤ x) (h2 : x ≤ 549755813888) (h : 0 ≤ d ∧ d < 21) : (10 * x + d - 10).natAbs < 10 ^ 15 := by omega
theorem sd_t13 {x d : Int} (h1 : -549755813888 ≤ x) (h2 : x ≤ 549755813888) (h : 0 ≤ d ∧ d < 21) : (10 * x + d - 10).natAbs < 10 ^ 13 := by omega
theorem sd_u15a {z : Int} (h : 0 ≤ z ∧ z < 198) : (z - 99).natAbs < 10 ^ 15 := by omega
theorem sd_u15b {z : Int} (h : 0 ≤ z ∧ z < 198) : (z - 99 + 1).natAbs < 10 ^ 15 := by omega
theorem sd_ua0 {z : Int} (g : ¬ 0 ≤ z - 99) : z - 99 ≠ 0 := by omega
theorem sd_ub0 {z : Int} (g : 0 ≤ z - 99) : z - 99 + 1 ≠ 0 := by omega
theorem sd_uva {z : Int} (h : 0 ≤ z ∧ z < 198) (g : ¬ 0 ≤ z - 99) : (z - 99).natAbs ≤ 99 := by omega
theorem sd_uvb {z : Int} (h : 0 ≤ z ∧ z < 198) (g : 0 ≤ z - 99) : (z - 99 + 1).natAbs ≤ 99 := by omega
theorem ne_fact {h₀ h : Heap} {L d : Addr} {o : Obj} {r : List (Addr × Obj)} (_N : News h₀ L h ((d, o) :: r)) (k : ∀ p ∈ r, p.1 ≠ d) : ∀ p ∈ r, p.1 ≠ d := k
noncomputable def tp.lawD : DefRec := match (PySem.Challenge.pw_sa0216_01.main.body.drop 74 : List Stmt) with
  | [Stmt.FunctionDef n a b _ _ _ s _ _ p] => ⟨n, a, b, s, p⟩
  | _ => ⟨Str.ofString "", default, [], default, default⟩
abbrev Walk : Prop := WalkO tp.vw [] (XL tp.vw []) (fun w h => (tp.heap_1 w.params).In h) PySem.Challenge.rw_sa0216_01.row.toRowW tp.lawD [] (fun f vs => PySem.call f vs)
section
theorem dw1 {h₀ h : Heap} {L d : Addr} {o : Obj} {p : Addr × Obj} {r : List (Addr × Obj)} (N : News h₀ L h (p :: (d, o) :: r)) : News h₀ L h ((d, o) :: p :: r) := N.perm fun q hq => by
  rcases List.mem_cons.mp hq with rfl | hq
  · exact .tail _ (.head _)
  rcases List.mem_cons.mp hq with rfl | hq
  · exact .head _
  · exact .tail _ (.tail _ hq)
theorem dw2 {h₀ h : Heap} {L d : Addr} {o : Obj} {p p' : Addr × Obj} {r : List (Addr × Obj)} (N : News h₀ L h (p :: p' :: (d, o) :: r)) : News h₀ L h ((d, o) :: p :: p' :: r) := N.perm fun q hq => by
  rcases List.mem_cons.mp hq with rfl | hq
  · exact .tail _ (.tail _ (.head _))
  rcases List.mem_cons.mp hq with rfl | hq
  · exact .head _
  rcases List.mem_cons.mp hq with rfl | hq
  · exact .tail _ (.head _)
  · exact .tail _ (.tail _ (.tail _ hq))
theorem law_kind : tp.lawD.scope.kind = .function := by kernel_rfl
theorem ln67 : True := by
  (k_with "d.num" => first | assumption | decide | exact nb_le (by assumption) (by decide) | omega)
  (k_with "d.back" => (case' cr => (intro z' t' n' u' o' h' tk' hz' hn1' hn2' hd' F' N'; (have hB' := d_hi (by assumption) hn2'); (have hA' := d_lo (by assumption) hn1'); clear hn1' hn2'; (try k_sweep); (try dsimp only); (try k_fold))))
  (k_with "d.room" => first | decide +kernel | (show (_ : Nat) < _; (try simp only [depth_deeper, depth_mark, depth_in1]); (try dsimp only [cTop]); omega))
  (k_with "d.N" => first | k_asm | exact dw1 (by k_asm) | exact dw2 (by k_asm))
  (k_with "d.use.r" => ((case cB => k_asm); (case cF => k_asm); (case cX => k_asm); (case cN => walk_at "d.N"); (case cT => k_asm); (case ck => first | assumption | exact law_kind); (case cd => walk_at "d.room"); (case cu => walk_at "d.room"); (case ho => assumption); (case hw => k_mem); (case hi => assumption); (case hl => first | exact List.length_take_le _ _ | omega); (case hne => first | assumption | k_all)))
  trivial
local macro_rules | `(tactic| k_call_by "d.use" $t:term) => `(tactic| (k_dflt (refine' $t _ _ _ _ _ _ _ _ _ _ _ _ _ _ _ _ _ _ _ ?cB ?cF ?cX ?cN ?cT ?ck ?cd ?cu ?cr; walk_at "d.use.r")))
theorem ln68 : True := by
  (k_with "d.back3" => (case' cr => (intro z' t' n' u' o' h' tk' hz' hn1' hn2' hd' F' N'; (have hB' := d_hi (by assumption) hn2'); (have hA' := d_lo (by assumption) hn1'); clear hn1' hn2'; obtain ⟨hz1', hz2', hz3'⟩ := hz'; (try k_sweep); (try dsimp only); (try k_fold))))
  (k_with "m.side" => first | assumption | exact sd_m0 (by assumption) | exact sd_m1 (by assumption) | exact sd_n0 (by assumption) | exact sd_n1 (by assumption) | exact sd_t15 (by assumption) (by assumption) (by assumption) | exact sd_t13 (by assumption) (by assumption) (by assumption) | exact sd_u15a (by assumption) | exact sd_u15b (by assumption) | exact sd_ua0 (by assumption) | exact sd_ub0 (by assumption) | exact sd_uva (by assumption) (by assumption) | exact sd_uvb (by assumption) (by assumption) | omega)
  (k_with "d.tup.r" => ((case cB => k_asm); (case cF => k_asm); (case cX => k_asm); (case cN => walk_at "d.N"); (case cT => k_asm); (case ck => first | assumption | exact law_kind); (case cd => walk_at "d.room"); (case cu => walk_at "d.room"); (case hd => assumption); (case hne => first | assumption | k_all)))
  trivial
local macro_rules | `(tactic| k_call_by "d.tup" $t:term) => `(tactic| (k_dflt (refine' $t _ _ _ _ _ _ _ _ _ _ _ _ _ _ _ _ _ _ _ ?cB ?cF ?cX ?cN ?cT ?ck ?cd ?cu ?cr; walk_at "d.tup.r")))
theorem ln69 : True := by
  (k_with "call ref" => (k_here; (with_reducible show wpAny _ _ (call (Value.ref 174) _) _ _ _); k_call_by "d.tup" (tup_out (round_tenth ?hxq188) ?hd ?hne); (case hxq188 => walk_at "m.side"); (case' cr => (intro b' z' e' r' h' tk' hP' hT' hS' hne' F' N'; (try k_sweep); (try dsimp only); (try k_fold)))))
  (k_with "m.use.r" => ((case cB => k_asm); (case cF => k_asm); (case cX => k_asm); (case cN => k_asm); (case cT => k_asm); (case ck => first | assumption | exact law_kind); (case cXB => k_asm); (case cTB => k_asm); (case cD => k_asm); (case cd => walk_at "d.room"); (case cu => walk_at "d.room")))
  trivial
local macro_rules | `(tactic| k_call_by "m.use" $t:term) => `(tactic| (k_dflt (refine' $t _ _ _ _ _ _ _ _ _ _ _ _ _ _ _ _ _ _ _ ?cB ?cF ?cX ?cN ?cT ?ck ?cXB ?cTB ?cD ?cd ?cu ?cr; walk_at "m.use.r")))
theorem ln70 : True := by
  (k_with "call ref" => (k_here; (with_reducible show wpAny _ _ (call (Value.ref 391) _) _ _ _); k_call_by "d.use" (dip_c ?hw ?hi ?hl ?ho ?hne ?hn0q189 ?hn1q189 ?hKq189 ?hK2q189); (case hn0q189 => walk_at "d.num"); (case hn1q189 => walk_at "d.num"); (case hKq189 => walk_at "d.num"); (case hK2q189 => walk_at "d.num"); walk_at "d.back"))
  (k_with "call ref" => (k_here; (with_reducible show wpAny _ _ (call (Value.ref 398) _) _ _ _); k_call_by "d.use" (small_c ?hw ?hi ?hl ?ho ?hne ?hn0q190 ?hn1q190 ?h1q190 ?h2q190); (case hn0q190 => walk_at "d.num"); (case hn1q190 => walk_at "d.num"); (case h1q190 => walk_at "d.num"); (case h2q190 => walk_at "d.num"); walk_at "d.back3"))
  (k_with "call ref" => (k_here; (with_reducible show wpAny _ _ (call (Value.ref 405) _) _ _ _); k_call_by "d.use" (number_l ?hw ?hi ?hl ?ho ?hne ?hn0q191 ?hn1q191 ?h1q191 ?h2q191); (case hn0q191 => walk_at "d.num"); (case hn1q191 => walk_at "d.num"); (case h1q191 => walk_at "d.num"); (case h2q191 => walk_at "d.num"); walk_at "d.back3"))
  (k_with "call ref" => (k_here; (with_reducible show wpAny _ _ (call (Value.ref 426) _) _ _ _); k_call_by "m.use" (rest_c ?h1q192 ?h2q192 ?hxq192 ?hyq192 ?hl1q192 ?hl2q192); (case h1q192 => walk_at "m.side"); (case h2q192 => walk_at "m.side"); (case hxq192 => walk_at "m.side"); (case hyq192 => walk_at "m.side"); (case hl1q192 => k_dflt k_mem); (case hl2q192 => k_dflt k_mem); (case' cr => walk_at "l.back")))
  (k_with "call ref" => (k_here; (with_reducible show wpAny _ _ (call (Value.ref 433) _) _ _ _); k_call_by "m.use" (gaps_c ?h1q193 ?h2q193 ?hxq193 ?hyq193 ?hl1q193 ?hl2q193); (case h1q193 => walk_at "m.side"); (case h2q193 => walk_at "m.side"); (case hxq193 => walk_at "m.side"); (case hyq193 => walk_at "m.side"); (case hl1q193 => k_dflt k_mem); (case hl2q193 => k_dflt k_mem); (case' cr => walk_at "l.back")))
  (k_with "call ref" => (k_here; (with_reducible show wpAny _ _ (call (Value.ref 438) _) _ _ _); k_call_by "m.use" (ring_c ?h1q194 ?h2q194 ?hxq194 ?hyq194 ?hzq194 ?hl1q194 ?hl2q194); (case h1q194 => walk_at "m.side"); (case h2q194 => walk_at "m.side"); (case hxq194 => walk_at "m.side"); (case hyq194 => walk_at "m.side"); (case hzq194 => walk_at "m.side"); (case hl1q194 => k_dflt k_mem); (case hl2q194 => k_dflt k_mem); (case' cr => walk_at "l.back")))
  (k_with "call ref" => (k_here; (with_reducible show wpAny _ _ (call (Value.ref 445) _) _ _ _); k_call_by "m.use" (powers_c ?h1q195 ?h2q195 ?hxq195 ?hyq195 ?hm0q195 ?hm1q195 ?hn0q195 ?hn1q195 ?hl1q195 ?hl2q195); (case h1q195 => walk_at "m.side"); (case h2q195 => walk_at "m.side"); (case hxq195 => walk_at "m.side"); (case hyq195 => walk_at "m.side"); (case hm0q195 => walk_at "m.side"); (case hm1q195 => walk_at "m.side"); (case hn0q195 => walk_at "m.side"); (case hn1q195 => walk_at "m.side"); (case hl1q195 => k_dflt k_mem); (case hl2q195 => k_dflt k_mem); (case' cr => walk_at "l.back")))
  (k_with "call ref" => (k_here; (with_reducible show wpAny _ _ (call (Value.ref 452) _) _ _ _); k_call_by "m.use" (tenths_c ?h1q196 ?h2q196 ?hl1q196 ?hl2q196 ?hT1q196 ?hT2q196 ?hxq196 ?hyq196 ?b1q196 ?hv0q196 ?hvq196); (case h1q196 => walk_at "m.side"); (case h2q196 => walk_at "m.side"); (case hl1q196 => k_dflt k_mem); (case hl2q196 => k_dflt k_mem); (case hT1q196 => walk_at "t.is"); (case hT2q196 => walk_at "t.is"); (case hxq196 => walk_at "m.side"); (case hyq196 => walk_at "m.side"); (case b1q196 => walk_at "m.side"); (case hv0q196 => walk_at "m.side"); (case hvq196 => walk_at "m.side"); (case' cr => walk_at "l.back")))
  (k_with "l.back" => ((with_reducible rename Fr _ _ _ _ => oF); (with_reducible rename News _ _ _ _ => oN); (with_reducible rename Below _ _ _ _ => oB); (with_reducible rename Frag.In _ _ => oX); (with_reducible rename Top _ _ _ _ _ _ => oT); (with_reducible rename KtsDicts _ _ => oD); (with_reducible rename KtsTurn _ _ _ => oU); intro t' g' h' tk' U' F' N' B' X' T' D'; (have V' := KtsTurn.trans oU U'); clear oF oN oB oX oT oD oU U'; (try dsimp only); (try k_fold)))
  trivial
theorem walk : Walk := by
  unfold Walk
  intro w s₀ s₁ mg mb G Y fa o pm cd doc dV kV ho hd hcd hD hmg hg args vals as hpre hlay hrd hwl hlo
  have KX : (tp.heap_1 w.params).In s₁.heap := Y
  k_behind G ho hd hcd hD hmg hpre hlay hrd hwl hlo cd
  all_goals try k_fold
  have hA0 : (0 : Int) ≤ 0 := Int.le_refl 0
  have hN0 := nb_0
  with_reducible rename Below _ _ _ _ => KB0
  with_reducible rename Top _ _ _ _ _ _ => TT0
  repeat' ((fail_if_success (with_reducible show wpAny _ _ (call (Value.ref 405) _) _ _ _)); first | (k_unfold; (try dsimp only)) | (k_end; wrow_close) | walk1 | (dsimp only; walk1))
  with_reducible rename News _ _ _ _ => oN
  obtain ⟨lk', oN2⟩ := lim_conv oN
  clear oN
  have oN3 := dw2 oN2
  clear oN2
  have hne3 := ne_fact oN3 (by k_all)
  rename (0 ≤ _ ∧ _ < (39 : Int)) => h39
  obtain ⟨w1, w2, w3, w4⟩ := w0 h39
  repeat' ((fail_if_success (with_reducible show wpAny _ _ (call (Value.ref 426) _) _ _ _)); first | (k_unfold; (try dsimp only)) | (k_end; wrow_close) | walk1 | (dsimp only; walk1))
  with_reducible rename News _ _ _ _ => oN
  with_reducible rename Fr _ _ _ _ => oF
  have F2 : Fr s₁.heap _ _ _ := oF
  have N2 : News s₁.heap _ _ _ := oN
  have B2 : Below callerA s₁.heap [] s₁.heap := KB0
  have XB2 := KX
  have TB2 : Top tp.vw (looseW tp.vw []) _ mg mb s₁.heap := TT0
  have D2 : KtsDicts (([] : List Env).filterMap (·.frame)) s₁.heap := ktsDicts_nil
  have V2 := l_refl B2
  repeat' (first | (k_unfold; (try dsimp only)) | (k_end; wrow_close) | walk1 | (dsimp only; walk1))
  all_goals
    with_reducible rename KtsTurn _ _ _ => eV
    with_reducible rename Fr _ _ _ _ => eF
    refine goodW_bool (fr_turn eV eF) hg (raisesW_false ?_) ?_
    · wrow_none_raised
    · exact law_post _
end
end
theorem top.tw3679297852845921468 : True := trivial
theorem top.tw16541100652227675460 : True := trivial
theorem top.tw16241847101741091476 : True := trivial
theorem top.tw18064794426631996164 : True := trivial
theorem top.tw4009212813583148329 : True := trivial
theorem top.tw1611573162277260326 : True := trivial
theorem top.tw3290017127015548484 : True := trivial
theorem top.tw18155606418883590854 : True := trivial
theorem top.tw10198731048903201221 : True := trivial
theorem top.tw1756701500820069048 : True := trivial
theorem top.tw13008162212692895743 : True := trivial
theorem top.tw401521755349398269 : True := trivial
theorem top.tw2377541652452675900 : True := trivial
theorem top.tw18237780215024852062 : True := trivial
theorem top.tw16082718784150747160 : True := trivial
theorem top.tw13637463451757290726 : True := trivial
theorem top.tw15688460231516280413 : True := trivial
theorem top.tw8321918168302905379 : True := trivial
theorem top.tw7386116660499605909 : True := trivial
theorem top.tw16597617366809209970 : True := trivial
theorem top.tw6520327441239513222 : True := trivial
theorem top.tw9919435345466941130 : True := trivial
theorem top.tw13001836021917841797 : True := trivial
theorem top.tw5480147950964735628 : True := trivial
theorem top.tw17542608870123051758 : True := trivial
theorem top.tw1754339480302792767 : True := trivial
theorem top.tw9195894827357321740 : True := trivial
theorem top.tw9377227683167951974 : True := trivial
theorem top.tw13290321428070320777 : True := trivial
theorem top.tw4498253355057717688 : True := trivial
theorem top.tw18177719399980262173 : True := trivial
theorem top.tw1108800333578037850 : True := trivial
theorem top.tw1291508964198565346 : True := trivial
theorem top.tw5278709424875269971 : True := trivial
theorem top.tw9366391650621772374 : True := trivial
theorem top.tw17428532607074087071 : True := trivial
theorem top.tw427269002284569659 : True := trivial
theorem top.tw11240886729373846589 : True := trivial
theorem top.tw6930518751129746686 : True := trivial
theorem top.tw877433047237710547 : True := trivial
theorem top.tw1732150942055357024 : True := trivial
theorem top.tw17555251805378815213 : True := trivial
theorem top.tw2907113945770861938 : True := trivial
theorem top.tw13090165191389475591 : True := trivial
theorem top.tw10956490626425055710 : True := trivial
theorem top.tw7652560490529028683 : True := trivial
theorem top.tw14399976873020721970 : True := trivial
theorem top.tw10006222313960134694 : True := trivial
theorem top.tw15918733279669447828 : True := trivial
theorem top.tw14796646475526232899 : True := trivial
theorem top.tw9335426496214029073 : True := trivial
theorem top.tw2555065506035805374 : True := trivial
theorem top.tw4656485037274611717 : True := trivial
theorem top.tw7715697345341360870 : True := trivial
theorem top.tw7847650389618582240 : True := trivial
theorem top.tw2443449257678562572 : True := trivial
theorem top.tw14263998999751124003 : True := trivial
theorem top.tw14459580976405569124 : True := trivial
theorem top.tw6885214360128481674 : True := trivial
theorem top.tw10648311167861321448 : True := trivial
theorem top.tw16821654228018055803 : True := trivial
theorem top.tw6898770573198911631 : True := trivial
theorem top.tw6761616313442571491 : True := trivial
theorem top.tw9059672392935016618 : True := trivial
theorem top.tw15503665604740900718 : True := trivial
theorem top.tw339143206060000330 : True := trivial
theorem top.tw14502225709538309166 : True := trivial
theorem top.tw15299407806266782574 : True := trivial
theorem top.tw12483720753089274532 : True := trivial
theorem top.tw1736530178072539846 : True := trivial
theorem top.tw3969286963782609292 : True := trivial
theorem top.tw2126296398998916975 : True := trivial
theorem top.tw8622502720953521162 : True := trivial
theorem top.tw14142502885225118848 : True := trivial
theorem top.tw2758071753971750899 : True := trivial
theorem top.tw12425085872883035938 : True := trivial
theorem top.tw9108098604805947806 : True := trivial
theorem top.tw708234853630380328 : True := trivial
theorem top.tw6370870915552960936 : True := trivial
theorem top.tw4076138812419527698 : True := trivial
theorem top.tw11466170419677230873 : True := trivial
theorem top.tw5088376156974544275 : True := trivial
theorem top.tw76412952228603488 : True := trivial
theorem top.tw11520865232209809239 : True := trivial
theorem top.tw9768079942903668216 : True := trivial
theorem top.tw5938664839603501006 : True := trivial
theorem top.tw4321519831107876412 : True := trivial
theorem top.tw8435561252592420358 : True := trivial
theorem top.tw1638113669730673903 : True := trivial
theorem top.tw18063644159110109576 : True := trivial
theorem top.tw7527032243904285869 : True := trivial
theorem top.tw5889316905344633881 : True := trivial
theorem top.tw1886144042066472794 : True := trivial
theorem top.tw14374289702345001990 : True := trivial
theorem top.tw6211089042160764376 : True := trivial
theorem top.tw53344730913325255 : True := trivial
theorem top.tw1492452104121835379 : True := trivial
theorem top.tw15985961358823992270 : True := trivial
theorem top.tw13307591127769906961 : True := trivial
theorem top.tw5667650583090716360 : True := trivial
theorem top.tw10187264123177260123 : True := trivial
theorem top.tw12080426169559351053 : True := trivial
theorem top.tw16054190913257422852 : True := trivial
theorem top.tw10548783162686979305 : True := trivial
theorem top.tw3337584539547039419 : True := trivial
theorem top.tw649594095290182367 : True := trivial
theorem top.tw9259421805112917234 : True := trivial
theorem top.tw10773188271377071773 : True := trivial
theorem top.tw1814787853859245837 : True := trivial
theorem top.tw9631074621892390191 : True := trivial
theorem top.tw2741389259953327712 : True := trivial
theorem top.tw1212798325632107971 : True := trivial
theorem top.tw10801874191123338550 : True := trivial
theorem top.tw13044034144603486326 : True := trivial
theorem top.tw12787338502077490372 : True := trivial
theorem top.tw6749217079512962374 : True := trivial
theorem top.tw6430265229019958763 : True := trivial
theorem top.tw12166907935582030026 : True := trivial
theorem top.tw8204474986945543665 : True := trivial
theorem top.tw11762496359356365647 : True := trivial
theorem top.tw7600245330811189008 : True := trivial
theorem top.tw12415523145999629524 : True := trivial
theorem top.tw11546936639936008217 : True := trivial
theorem top.tw16439428074185983240 : True := trivial
theorem top.tw14917401599646851644 : True := trivial
theorem top.tw11334203419191126389 : True := trivial
theorem top.tw13091174067606910046 : True := trivial
theorem top.tw14861896470697024400 : True := trivial
theorem top.tw9378254376102152143 : True := trivial
theorem top.tw14371913498598963198 : True := trivial
theorem top.tw16352630495959832749 : True := trivial
theorem top.tw453181688931711583 : True := trivial
theorem top.tw6333448901615975916 : True := trivial
theorem top.tw18186074749648716422 : True := trivial
theorem top.tw4713442408853163898 : True := trivial
theorem top.tw10864713392326063847 : True := trivial
theorem top.tw14762295962024373759 : True := trivial
theorem top.tw16273406610938067001 : True := trivial
theorem top.tw10090393231696489298 : True := trivial
theorem top.tw3776753064480771068 : True := trivial
theorem top.tw8640399195822439974 : True := trivial
theorem top.tw8689318265317240412 : True := trivial
theorem top.tw6756868429301003459 : True := trivial
theorem top.tw14597223018079223185 : True := trivial
theorem top.tw10657950659306570408 : True := trivial
theorem top.tw11459358961799972967 : True := trivial
theorem top.tw4828031223510198475 : True := trivial
theorem top.tw11279390925490393535 : True := trivial
theorem top.tw1294077662247117797 : True := trivial
theorem top.tw7855079511596107753 : True := trivial
theorem top.tw2057334267981633021 : True := trivial
theorem top.tw18245740138792012028 : True := trivial
theorem top.tw4205137553216949640 : True := trivial
theorem top.tw10936122117785486979 : True := trivial
theorem top.tw216529984938456764 : True := trivial
theorem top.tw2822501910515967889 : True := trivial
theorem top.tw14901070454687303710 : True := trivial
theorem top.tw17470836177267949868 : True := trivial
theorem top.tw860223938195835975 : True := trivial
theorem top.tw283044589724301 : True := trivial
theorem top.tw18367679650794681301 : True := trivial
theorem top.tw7008692893051332821 : True := trivial
theorem top.tw8735323631387419056 : True := trivial
theorem top.tw6694047246710070196 : True := trivial
theorem top.tw17323899518341599180 : True := trivial
theorem top.tw14390669486469195807 : True := trivial
theorem top.tw390997316461189296 : True := trivial
theorem top.tw8813761850579938390 : True := trivial
theorem top.tw2732273902793177162 : True := trivial
theorem top.tw10996937224433265937 : True := trivial
theorem top.tw16550210197400561554 : True := trivial
theorem top.tw3195968871104189447 : True := trivial
theorem top.tw16104615914030681952 : True := trivial
theorem top.tw2369445192022557226 : True := trivial
theorem top.tw8363718466572441477 : True := trivial
theorem top.tw11199710921928265848 : True := trivial
theorem top.tw16174758807025615021 : True := trivial
theorem top.tw1869187583165140508 : True := trivial
theorem top.tw1068965626710143233 : True := trivial
theorem top.tw13799840507378627052 : True := trivial
theorem top.tw10617020205504526918 : True := trivial
theorem top.tw2683898200743741643 : True := trivial
theorem top.tw14632489290957082403 : True := trivial
theorem top.tw7414872774492366064 : True := trivial
theorem top.tw11133666699803404755 : True := trivial
theorem top.tw8025738503920905074 : True := trivial
theorem top.tw6176384092110617959 : True := trivial
theorem top.tw8443935842833279946 : True := trivial
theorem top.tw501154541418245514 : True := trivial
theorem top.tw13272337422414781067 : True := trivial
theorem top.tw15860264024139754761 : True := trivial
theorem top.tw12622177474791663080 : True := trivial
theorem top.tw15092371282622821202 : True := trivial
theorem top.tw9382581127745807760 : True := trivial
theorem top.tw16453443671601555132 : True := trivial
theorem top.tw7429413206186439793 : True := trivial
theorem top.tw1676862907878916244 : True := trivial
theorem top.tw13822267516522204269 : True := trivial
theorem top.tw9614876229902214918 : True := trivial
theorem top.tw5868845118606482295 : True := trivial
theorem top.tw4159251561096739476 : True := trivial
theorem top.tw8265191368974092141 : True := trivial
theorem top.tw4299629679881509495 : True := trivial
theorem top.tw8410488445778877200 : True := trivial
theorem top.tw3584897518013459382 : True := trivial
theorem top.tw9851269098105209369 : True := trivial
theorem top.tw18008055252877512497 : True := trivial
theorem top.tw8523463495250067690 : True := trivial
theorem top.tw15095372191486117680 : True := trivial
theorem top.tw81815255157605957 : True := trivial
theorem top.tw6189502492464219833 : True := trivial
theorem top.tw13134186033006778460 : True := trivial
theorem top.tw12535971307161669396 : True := trivial
theorem top.tw17315540178315561739 : True := trivial
theorem top.tw18164388396756303480 : True := trivial
theorem top.tw8140125068956082859 : True := trivial
theorem top.tw2617719716777270872 : True := trivial
theorem top.tw17355269125676882429 : True := trivial
theorem top.tw6919701780365589675 : True := trivial
theorem top.tw8657480035899644758 : True := trivial
theorem top.tw8107780213005350392 : True := trivial
theorem top.tw381845443943030031 : True := trivial
theorem top.tw14823308797102314842 : True := trivial
theorem top.tw14697636140705633519 : True := trivial
theorem top.tw7297446738713254254 : True := trivial
theorem top.tw12819366960792805191 : True := trivial
theorem top.tw5303079699428457377 : True := trivial
theorem top.tw16900427199656544559 : True := trivial
theorem top.tw18371284783138465269 : True := trivial
theorem top.tw4047667213573674445 : True := trivial
theorem top.tw908825868028484722 : True := trivial
theorem top.tw13420762306968818387 : True := trivial
theorem top.tw5225916559131626549 : True := trivial
theorem top.tw14987219478266130788 : True := trivial
theorem top.tw15740088241188596515 : True := trivial
theorem top.tw9165953624949470791 : True := trivial
theorem top.tw8139039716903228087 : True := trivial
theorem top.tw9800703332001039478 : True := trivial
theorem top.tw2464713573024523455 : True := trivial
theorem top.tw8598144960395782539 : True := trivial
theorem top.tw13501252493785611398 : True := trivial
theorem top.tw12342655685612074800 : True := trivial
theorem top.tw2988451766255067171 : True := trivial
theorem top.tw12376051458212225564 : True := trivial
theorem top.tw9759319705405543751 : True := trivial
theorem top.tw11203750815551599093 : True := trivial
theorem top.tw10987319290404115282 : True := trivial
theorem top.tw7743179893348639699 : True := trivial
theorem top.tw6572447435987645144 : True := trivial
theorem top.tw7250933059871147345 : True := trivial
theorem top.tw17046948494117081484 : True := trivial
theorem top.tw2581206410525282061 : True := trivial
theorem top.tw7313339093194340965 : True := trivial
theorem top.tw594810645892935528 : True := trivial
theorem top.tw6491118196486620199 : True := trivial
theorem top.tw3195522803047326042 : True := trivial
theorem top.tw6240723676877644813 : True := trivial
theorem top.tw5155950481276406077 : True := trivial
theorem top.tw8810280945414196856 : True := trivial
theorem top.tw8143265674769528471 : True := trivial
theorem top.tw17177869089781658578 : True := trivial
theorem top.tw2835187731363253809 : True := trivial
theorem top.tw2782073688633401757 : True := trivial
theorem top.tw9962302188120564619 : True := trivial
theorem top.tw16123964013534891561 : True := trivial
theorem top.tw1400011881503588481 : True := trivial
theorem top.tw8538268897159353584 : True := trivial
theorem top.tw14789260269991461300 : True := trivial
theorem top.tw18034075008235765660 : True := trivial
theorem top.tw5476889619067714990 : True := trivial
theorem top.tw16878204669230926818 : True := trivial
theorem top.tw10567129059001840431 : True := trivial
theorem top.tw4213018616267185653 : True := trivial
theorem top.tw16155163154822807229 : True := trivial
theorem top.tw2924597203103170677 : True := trivial
theorem top.tw4655869559712951663 : True := trivial
theorem top.tw17492772389151264855 : True := trivial
theorem top.tw1149218181149386328 : True := trivial
theorem top.tw15569959144833144457 : True := trivial
theorem top.tw8345894832289464959 : True := trivial
theorem top.tw15177526630643400193 : True := trivial
theorem top.tw18086089286151905521 : True := trivial
theorem top.tw8679235539786439492 : True := trivial
theorem top.tw5597187220613765494 : True := trivial
theorem top.tw2867133514656366558 : True := trivial
theorem top.tw1245559373397905713 : True := trivial
theorem top.tw11423202765487971197 : True := trivial
theorem top.tw16782997733028217545 : True := trivial
theorem top.tw9601329371697537090 : True := trivial
theorem top.tw14611434983143301774 : True := trivial
theorem top.tw2249405535684624136 : True := trivial
theorem top.tw1047907039808853306 : True := trivial
theorem top.tw11334415319851112604 : True := trivial
theorem top.tw1284575025550258836 : True := trivial
theorem top.tw16058212318047004132 : True := trivial
theorem top.tw13928562000808390012 : True := trivial
theorem top.tw814325599930780420 : True := trivial
theorem top.tw13369591340354186047 : True := trivial
theorem top.tw1195175773429642966 : True := trivial
theorem top.tw17810072253543177317 : True := trivial
theorem top.tw1516213087968936877 : True := trivial
theorem top.tw12392516345856041104 : True := trivial
theorem top.tw7458633546980236471 : True := trivial
theorem top.tw10797620697341660853 : True := trivial
theorem top.tw956942650209027819 : True := trivial
theorem top.tw17565814175750979855 : True := trivial
theorem top.tw9951221954081769418 : True := trivial
theorem top.tw5058314954733539658 : True := trivial
theorem top.tw8645369167282567922 : True := trivial
theorem top.tw12094960947251128927 : True := trivial
theorem top.tw17469865338272021226 : True := trivial
theorem top.tw1040915598704419856 : True := trivial
theorem top.tw9442318146202087700 : True := trivial
theorem top.tw3422688185749166683 : True := trivial
theorem top.tw7990429038631628895 : True := trivial
theorem top.tw8892184565913893157 : True := trivial
theorem top.tw13120753694373217308 : True := trivial
theorem top.tw9743097575036673082 : True := trivial
theorem top.tw13802547742096326172 : True := trivial
theorem top.tw5860347150701562758 : True := trivial
theorem top.tw2985252069258134486 : True := trivial
theorem top.tw11613256710310857696 : True := trivial
theorem top.tw4526881389914513428 : True := trivial
theorem top.tw4551080515912023512 : True := trivial
theorem top.tw5523086135645875356 : True := trivial
theorem top.tw1483126911874232274 : True := trivial
theorem top.tw12427389293880184781 : True := trivial
theorem top.tw14608685727046917156 : True := trivial
theorem top.tw987869383939708018 : True := trivial
theorem top.tw15169761463676818070 : True := trivial
theorem top.tw11858546649754279707 : True := trivial
theorem top.tw3315250197877816394 : True := trivial
theorem top.tw887695700811335699 : True := trivial
theorem top.tw105208000716104510 : True := trivial
theorem top.tw4859757453598101857 : True := trivial
theorem top.tw13177472732611162249 : True := trivial
theorem top.tw11582926029173025856 : True := trivial
theorem top.tw6662652255960138227 : True := trivial
theorem top.tw3976154599441133093 : True := trivial
theorem top.tw9059832203979395877 : True := trivial
theorem top.tw3561193834555079511 : True := trivial
theorem top.tw4597200072644226624 : True := trivial
theorem top.tw11845233108574324481 : True := trivial
theorem top.tw9063741608606530840 : True := trivial
theorem top.tw8148004212497801138 : True := trivial
theorem top.tw6624316729101989866 : True := trivial
theorem top.tw12012865196380796599 : True := trivial
theorem top.tw5581607755468803823 : True := trivial
theorem top.tw8507776931139520737 : True := trivial
theorem top.tw620129878449983639 : True := trivial
theorem top.tw11430207588045935325 : True := trivial
theorem top.tw2287823674025257028 : True := trivial
theorem top.tw6127594578889010139 : True := trivial
theorem top.tw9961057766049560675 : True := trivial
theorem top.tw7444641836354208208 : True := trivial
theorem top.tw15254643099363442306 : True := trivial
theorem top.tw728428047077509346 : True := trivial
theorem top.tw14282377253939248939 : True := trivial
theorem top.tw12317137736924338119 : True := trivial
theorem top.tw15361541807878343388 : True := trivial
theorem top.tw16719718919923625709 : True := trivial
theorem top.tw2812155379371279736 : True := trivial
theorem top.tw6859976401760118174 : True := trivial
theorem top.tw11334350811105764591 : True := trivial
theorem top.tw13370750898655102155 : True := trivial
theorem top.tw16044733080236030384 : True := trivial
theorem top.tw4186445540838780016 : True := trivial
theorem top.tw9272544492142499777 : True := trivial
theorem top.tw6431110157172167083 : True := trivial
theorem top.tw8729362747519067210 : True := trivial
theorem top.tw16580785732701462914 : True := trivial
theorem top.tw2145171640123136144 : True := trivial
theorem top.tw6812286434817487243 : True := trivial
theorem top.tw15362295582089109014 : True := trivial
theorem top.tw18085771088847121727 : True := trivial
theorem top.tw7671549972530922468 : True := trivial
theorem top.tw17886615442053742456 : True := trivial
theorem top.tw12540527436937284434 : True := trivial
theorem top.tw17219337458794519322 : True := trivial
theorem top.tw11922380849998532372 : True := trivial
theorem top.tw8679839319945467846 : True := trivial
theorem top.tw3730354652608582461 : True := trivial
theorem top.tw10195997230039290492 : True := trivial
theorem top.tw3254097082911018636 : True := trivial
theorem top.tw8212240652046128837 : True := trivial
theorem top.tw9739860059890490050 : True := trivial
theorem top.tw1139600151236580504 : True := trivial
theorem top.tw10008474027749305400 : True := trivial
theorem top.tw15877122091014420850 : True := trivial
theorem top.tw8472579005086612782 : True := trivial
theorem top.tw3855276242980373810 : True := trivial
theorem top.tw16759092144687519636 : True := trivial
theorem top.tw342308947776675178 : True := trivial
theorem top.tw8694864300669457046 : True := trivial
theorem top.tw17089494485692210459 : True := trivial
theorem top.tw6505410396798821541 : True := trivial
theorem top.tw196536941598035525 : True := trivial
theorem top.tw7673058066778466091 : True := trivial
theorem top.tw10404823597219466188 : True := trivial
theorem top.tw5766051744304087583 : True := trivial
theorem top.tw5969682004907312646 : True := trivial
theorem top.tw15240379268576122478 : True := trivial
theorem top.tw864819663365544661 : True := trivial
theorem top.tw11199532085631943738 : True := trivial
theorem top.tw6883741973766446791 : True := trivial
theorem top.tw9233335307524088747 : True := trivial
theorem top.tw13160728816969591200 : True := trivial
theorem top.tw13889309363888878346 : True := trivial
theorem top.tw5244899138074338376 : True := trivial
theorem top.tw2462062305354472974 : True := trivial
theorem top.tw8184561461823581802 : True := trivial
theorem top.tw13264354339760550358 : True := trivial
theorem top.tw9305691244287143441 : True := trivial
theorem top.tw1706793611546318481 : True := trivial
theorem top.tw1617357707322924660 : True := trivial
theorem top.tw14724332232928298890 : True := trivial
theorem top.tw13896958669275611876 : True := trivial
theorem top.tw11960245374511038805 : True := trivial
theorem top.tw14372152842798730730 : True := trivial
theorem top.tw4940147422707163885 : True := trivial
theorem top.tw9843447840031818808 : True := trivial
set_option Elab.async true
theorem top : PySem.Challenge.rw_sa0216_01.Holds := by
  w_on; o_law; k_head; (case hw => w_witness2)
  exact walk
end Mine
theorem PySem.Challenge.cw_sa0216_01_holds : PySem.Challenge.rw_sa0216_01.Holds := by
  exact Mine.top
