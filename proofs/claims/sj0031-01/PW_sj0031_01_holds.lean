import PyProof.Rows.All
import Wide.All
import OpenK.AllK
import Wide.FinOn
import PySem.Challenge.RW_sj0031_01
open PySem PySem.W PyProof.Rows
set_option Elab.async false
set_option compiler.extract_closed false
theorem Mine.hdWay : True := by
  run_tac do
    let mut m := (← PySem.W.Fast.primed.get).insert `PySem.Challenge.pw_sj0031_01 none
    for p in ["heap_", "view_", "tree_", "sts_", "o_"] do
      for k in [0:400] do
        m := m.insert (`hd ++ Lean.Name.mkSimple (p ++ toString k)) none
    PySem.W.Fast.primed.set m
  trivial
set_option maxRecDepth 100000 in
set_option maxHeartbeats 8000000 in
open_top hd for PySem.Challenge.rw_sj0031_01
open PySem PySem.W PyProof.Rows PySem.Calls
namespace Mine
theorem gtk {α : Type} {M : Model} {A : Around} {t : Sem α} {Q : α → Shared → Prop} {E : Value → Shared → Prop} {h : Heap} {g : Array GenState} {d : Drawn} {X : Nat} {os : OsState} (H : ∀ k, wpAny M A t Q E ⟨h, g, d, k, os⟩) : wpAny M A t Q E ⟨h, g, d, X + 1, os⟩ := H (X + 1)
theorem gtkA {α : Type} {M : Model} {A : Around} {t : Sem α} {Q : α → Shared → Prop} {E : Value → Shared → Prop} {h : Heap} {g : Array GenState} {d : Drawn} {X : Nat} {os : OsState} (H : ∀ k, wpAny M A t Q E ⟨h, g, d, k, os⟩) : wpAny M A t Q E ⟨h, g, d, X, os⟩ := H X
theorem room_of {a k m n c : Nat} (h : a + k < c) (e : Nat.ble (m + n) k = true) : a + m + n < c := by
  rw [Nat.add_assoc]; exact Nat.lt_of_le_of_lt (Nat.add_le_add_left (Nat.le_of_ble_eq_true e) a) h
theorem cg (n : Addr) {M : Model} {A : Around} {l : List Value} {Q E : Value → Shared → Prop} {s : Shared} (H : wpAny M A (PySem.call (.ref n) l) Q E s) : wpAny M A (PySem.call (.ref n) l) Q E s := H
theorem ac {x d : Addr} {o : Obj} {l : List (Addr × Obj)} (h1 : x ≠ d) (h2 : ∀ q ∈ l, q.1 ≠ d) : ∀ q ∈ (x, o) :: l, q.1 ≠ d := List.forall_mem_cons.mpr ⟨h1, h2⟩
end Mine
set_option Elab.async false
set_option maxRecDepth 100000
local macro_rules | `(tactic| k_mem) => `(tactic| first | with_reducible assumption | exact List.Mem.head _ | (refine List.mem_cons_of_mem _ ?_; k_mem) | (refine List.mem_append_right _ ?_; k_mem) | (refine List.mem_append_left _ ?_; k_mem))
local macro_rules | `(tactic| walk_at "gt") => `(tactic| first | exact Nat.ne_of_gt (And.left (by with_reducible assumption)) | exact Nat.ne_of_gt (And.left (And.right (by with_reducible assumption))) | exact Nat.ne_of_gt (And.left (And.right (And.right (by with_reducible assumption)))) | exact Nat.ne_of_gt (And.left (And.right (And.right (And.right (by with_reducible assumption))))) | exact Nat.ne_of_gt (And.left (And.right (And.right (And.right (And.right (by with_reducible assumption)))))) | exact Nat.ne_of_gt (And.left (And.right (And.right (And.right (And.right (And.right (by with_reducible assumption))))))) | exact Nat.ne_of_gt (And.left (And.right (And.right (And.right (And.right (And.right (And.right (by with_reducible assumption)))))))) | exact Nat.ne_of_gt (And.left (And.right (And.right (And.right (And.right (And.right (And.right (And.right (by with_reducible assumption))))))))))
local macro_rules | `(tactic| k_all) => `(tactic| first | with_reducible assumption | (refine Mine.ac ?ka1 ?ka2; (case ka1 => first | with_reducible assumption | (refine Ne.symm ?_; with_reducible assumption) | walk_at "gt" | exact Nat.ne_of_gt (by omega) | exact Nat.ne_of_lt (by omega) | k_ne); (case ka2 => k_all)) | (refine List.forall_mem_append.mpr ⟨?ka1, ?ka2⟩ <;> k_all) | assumption)
local macro_rules | `(tactic| k_ne) => `(tactic| first | assumption | (refine Ne.symm ?_; assumption))
local macro_rules | `(tactic| ktr_enter) => `(tactic| (refine' code_def ?k1 ?k2 ?k3 ?k4 ?k5 ?kA ?kF ?kK ?k6 ?k7 ?k8 ?k9 ?kB ?_ ?c2 ?c3 ?c4 ?c5; (case kA | kF => exact rfl); (case kK => first | assumption | exact rfl); (case k1 | k2 | k3 | k4 | k5 => k_asm); (case k6 | k7 => k_is); (case k8 => ktr_room); (case k9 => first | exact BindsTo.of_eq rfl | exact binds_K (by k_in) rfl (by k_is) rfl rfl rfl); (case c5 => decide); (case kB => exact locs rfl); (case c2 | c3 | c4 => exact rfl); k_whole; intros; (try dsimp only); (try k_fold); (try (with_reducible refine Mine.gtkA ?_; intro tk'))))
local macro_rules | `(tactic| k_enter) => `(tactic| ktr_enter)
local macro_rules | `(tactic| walk_at "call builtin:len") => `(tactic| (k_here; (with_reducible show wpAny _ _ (call (Value.builtin "len") [Value.ref _]) _ _ _); k_dflt (refine' PyProof.Rows.len_list (News.isList (by k_asm) (by k_mem)) ?k1 ?_; (case k1 => (simp only [List.size_toArray, List.length_map, List.length_nil] at *; omega)); k_whole); (try simp only [List.size_toArray, List.length_map, List.length_nil])))
local macro_rules | `(tactic| walk_at "execs nil") => `(tactic| (with_reducible refine wpAny_execs_nil ?_))
local macro_rules | `(tactic| walk_at "execs cons") => `(tactic| ((with_reducible refine wpAny_execs_cons ?_); (try dsimp only); (try k_fold)))
local macro_rules | `(tactic| walk_at "execs nil") => `(tactic| (with_reducible refine Mine.gtk ?_; intro tk'))
local macro_rules | `(tactic| walk_at "execs cons") => `(tactic| (with_reducible refine Mine.gtk ?_; intro tk'))
local macro_rules | `(tactic| walk_at "cr") => `(tactic| (k_here; (try dsimp only [List.cons_append, List.nil_append])))
local macro_rules | `(tactic| walk_at "nn") => `(tactic| k_asm)
local macro_rules | `(tactic| walk_at "std") => `(tactic| ((case B | F | X | T => k_asm); (case N => walk_at "nn"); (case hk => with_unfolding_all rfl); (case hd => ktr_room); (case hu => ktr_units)))
local macro_rules | `(tactic| walk_at "kw") => `(tactic| (k_whole; intros; (try k_sweep)))
local macro_rules | `(tactic| walk_at "kn") => `(tactic| (k_whole; intros))
local macro_rules | `(tactic| walk_at "ke") => `(tactic| (k_whole; k_dflt (intro h' tk' e' dx' g' ke' tx' ta' y' ty' FG' R' U')))
local macro_rules | `(tactic| walk_at "stop") => `(tactic| ((fail_if_success (with_reducible show wpAny _ _ (PySem.exec (Stmt.While _ _ _ _) _) _ _ _)); (fail_if_success (with_reducible show wpAny _ _ (PySem.exec (Stmt.For _ _ _ _ _) _) _ _ _)); (fail_if_success (with_reducible show wpAny _ _ (PySem.exec (Stmt.Try _ _ _ _ _) _) _ _ _))))
local macro_rules | `(tactic| walk_at "go") => `(tactic| first | (k_unfold; (try dsimp only)) | walk1 | (dsimp only; walk1))
local macro_rules | `(tactic| ktn_open) => `(tactic| repeat' (walk_at "stop"; walk_at "go"))
local macro_rules | `(tactic| walk_at "fp") => `(tactic| ((case hI | hlen | n1 => assumption); (case o1 | o2 => k_all)))
local macro_rules | `(tactic| walk_at "len") => `(tactic| first | assumption | omega | (simp only [List.length_append, List.length_singleton, List.length_cons, List.length_nil] at *; omega))
local macro_rules | `(tactic| walk_at "kd") => `(tactic| (k_whole; intros; rename_i l1'; (try k_lt l1')))
local macro_rules | `(tactic| walk_at "kl") => `(tactic| (k_whole; intros; rename_i l1' F' N'; (try k_lt l1'); (try k_sweep)))
section
local macro_rules | `(tactic| ktr_room) => `(tactic| exact Mine.room_of (by with_reducible assumption) (by rfl))
local macro_rules | `(tactic| ktr_units) => `(tactic| exact Mine.room_of (by with_reducible assumption) (by rfl))
namespace Mine
section
open Builtin Builtin.ObjectAttr
noncomputable abbrev excObj (dd : Option Addr) (tp : Addr) : Obj := { cls := .ref 73, dict := dd, data := .fields #[.ref tp, .none, .none, .none, .bool false, .none] }
noncomputable abbrev tupObj (vs : List Value) : Obj := { cls := .type "tuple", data := .seq vs.toArray }
set_option maxHeartbeats 4000000
theorem mk_exc {w : World} {A : Around} {R : Result → Shared → Prop} {hh : Heap} {g : Array GenState} {d : Drawn} {t : Nat} {os : OsState} {a b c : Value} (X : (hd.heap_39 w.params).In hh)
  (hq : codeAny (model PySem.Challenge.rw_sj0031_01.row.prog w) (A.under (.builtin "type.__call__" ⟨[.ref 73, a, b, c], []⟩)) (.call (.ref 57) ⟨[.ref (hh.objs.size + 1), a, b, c], []⟩) (InitBack (hh.objs.size + 1) R)
     ⟨(hh.push (tupObj [a, b, c])).push (excObj none hh.objs.size), g, d, t, os⟩) :
  codeAny (model PySem.Challenge.rw_sj0031_01.row.prog w) A (.call (.ref 73) ⟨[a, b, c], []⟩) R ⟨hh, g, d, t, os⟩ := by
  have hC := X 73 _ rfl
  have call : Looks (model PySem.Challenge.rw_sj0031_01.row.prog w) hh (specialOf (.ref 73) "__call__") (some (.builtin "type.__call__")) := Looks.of_peek X (by kernel_rfl)
  have typ : Looks (model PySem.Challenge.rw_sj0031_01.row.prog w) hh (isInstance (.ref 73) (.type "type")) true := Looks.of_peek X (by kernel_rfl)
  have made : Looks (model PySem.Challenge.rw_sj0031_01.row.prog w) hh (Bind.madeBy (.ref 73)) (some "Exception.__new__") := Looks.of_peek X (by kernel_rfl)
  have chk : Looks (model PySem.Challenge.rw_sj0031_01.row.prog w) hh (checkBuiltinCall "Exception.__new__" ⟨[.ref 73, a, b, c], []⟩) () := Looks.of_peek X (by kernel_rfl)
  have hi : Looks (model PySem.Challenge.rw_sj0031_01.row.prog w) hh (typeLookup (.ref 73) "__init__") (some (.ref 57)) := Looks.of_peek X (by kernel_rfl)
  have hm : Looks (model PySem.Challenge.rw_sj0031_01.row.prog w) hh (mroOf (.ref 73)) [.ref 73, .ref 60, .type "Exception", .type "BaseException", .type "object"] := Looks.of_peek X (by kernel_rfl)
  refine codeAny_of_tree ?_
  show wpAny _ _ (callAny (.ref 73) _) _ _ _
  refine nd_load hC ?_
  show wpAny _ _ (callAny.viaDunder (.ref 73) _) _ _ _
  unfold callAny.viaDunder
  refine wpAny_bind (call.at ?_)
  dsimp only
  rw [tc_bind]
  refine wpAny_bind (wpAny_pure (wpAny_bind (wpAny_pure ?_)))
  refine wpAny_pure (a := Fin.again (.call (.builtin "type.__call__") ⟨[.ref 73, a, b, c], []⟩)) (And.intro rfl ?_)
  refine codeAny_call_builtin_at (Code.quiet_builtin _ (by decide +kernel)) entry_typeCall (check_slot tc_kind tc_split typ (tc_args _ _ _) ?_)
  unfold Builtin.«type.__call__»
  repeat (first | with_reducible refine wpAny_call ?_ | lk)
  have FE := PySem.F.excBase_Exception
  have here : Looks (model PySem.Challenge.rw_sj0031_01.row.prog w) hh (Bind.madeHere "BaseException.__new__" (.ref 73)) () := Looks.of_peek X (by kernel_rfl)
  have sA : Looks (model PySem.Challenge.rw_sj0031_01.row.prog w) hh (isSubtype (.ref 73) (.type "AttributeError")) false := Looks.of_peek X (by kernel_rfl)
  have sN : Looks (model PySem.Challenge.rw_sj0031_01.row.prog w) hh (isSubtype (.ref 73) (.type "NameError")) false := Looks.of_peek X (by kernel_rfl)
  have sB : Looks (model PySem.Challenge.rw_sj0031_01.row.prog w) hh (isSubtype (.ref 73) (.type "Exception")) true := Looks.of_peek X (by kernel_rfl)
  have new : ∀ {A' : Around} {R' : Result → Shared → Prop}, R' (.ok (.ret (.ref (hh.objs.size + 1)))) ⟨(hh.push (tupObj [a, b, c])).push (excObj none hh.objs.size), g, d, t, os⟩ → codeAny (model PySem.Challenge.rw_sj0031_01.row.prog w) A' (.builtin "Exception.__new__" ⟨[.ref 73, a, b, c], []⟩) R' ⟨hh, g, d, t, os⟩ := by
    intro A' R' hR
    have hends := FE.ends
    have isT : Looks (model PySem.Challenge.rw_sj0031_01.row.prog w) hh (isType (.ref 73)) true := Looks.of_peek X (by kernel_rfl)
    refine codeAny_builtinAt FE.entry ?_
    unfold Builtin.«BaseException.__new__»
    refine PySem.wpAt_bind ?_
    show PySem.wpAt _ _ _ (PySem.stack >>= _) _ _ _
    refine PySem.wpAt_bind (PySem.wpAt_stack fun p below => PySem.wpAt_of_wpAny ?_)
    wp_walk
    refine PySem.wpAt_of_wpAny ?_
    rw [FE.owner]
    repeat lk
    refine nd_load (Heap.get?_push_of_some _ (Heap.get?_push_of_some _ hC)) ?_
    repeat lk
    rw [Heap.size_push]
    exact hR
  refine codeAny_call_builtin_code (Code.quiet_builtin _ FE.quiet) (chk.at (new ?_))
  have k : ∀ b' o, hh.get? b' = some o → ((hh.push (tupObj [a, b, c])).push (excObj none hh.objs.size)).get? b' = some o := fun b o e => Heap.get?_push_of_some _ (Heap.get?_push_of_some _ e)
  have X₁ := X.keeps k
  have hx : ((hh.push (tupObj [a, b, c])).push (excObj none hh.objs.size)).get? (hh.objs.size + 1) = some (excObj none hh.objs.size) := by heap_get
  have t1 : Looks (model PySem.Challenge.rw_sj0031_01.row.prog w) ((hh.push (tupObj [a, b, c])).push (excObj none hh.objs.size)) (typeOf (.ref (hh.objs.size + 1))) (.ref 73) := (Looks.ld hx).andThen .now
  have s1 : Looks (model PySem.Challenge.rw_sj0031_01.row.prog w) ((hh.push (tupObj [a, b, c])).push (excObj none hh.objs.size)) (isSubtype (.ref 73) (.ref 73)) true := Looks.of_peek X₁ (by kernel_rfl)
  have i1 := hi.keeps k
  have b1 := bind_fn (M := model PySem.Challenge.rw_sj0031_01.row.prog w) (f := 57) X₁ (.ref (hh.objs.size + 1)) (by kernel_rfl)
  unfold isInstance callSpecial? specialOf
  repeat (first | with_reducible refine wpAny_call ?_ | lk)
  refine codeAny_mono hq fun r s' z => ?_
  rcases r with e | (v | _ | _ | _) <;> first | exact z | exact z.elim | skip
  obtain ⟨rfl, z⟩ := z
  exact wpAny_pure (wpAny_pure z)
end
section
open Builtin Builtin.ObjectAttr
theorem fillE2 (w : World) (h : Heap) (X : (hd.heap_39 w.params).In h) : (hd.heap_39 w.params).In h ∧ PySem.Challenge.rw_sj0031_01.prog = PySem.Challenge.rw_sj0031_01.prog := by
  k_fill
  exact ⟨X, rfl⟩
set_option maxHeartbeats 4000000
theorem exc_open {w : World} {A : Around} {Q : Unit → Shared → Prop} {E : Value → Shared → Prop} {hh : Heap} {g : Array GenState} {d : Drawn} {t : Nat} {os : OsState} {e : Addr} {ox : Obj} {od : Option Obj} {name : Str} {v : Value} (X : (hd.heap_39 w.params).In hh)
  (I : InstAt hh e ox 73 od) (hn : takerIn (hd.heap_39 w.params) 73 name = some none)
  (h : ∀ b, wpAny (model PySem.Challenge.rw_sj0031_01.row.prog w) A.in1 (storeInOwnDict (.ref e) (.ref 73) (.str name t) name v b) (fun fin s' => match fin with | .done (.ret _) => Q () s' | _ => False) E ⟨hh, g, d, t + 1, os⟩) :
  wpAny (model PySem.Challenge.rw_sj0031_01.row.prog w) A (setAttr (.ref e) name v) Q E ⟨hh, g, d, t, os⟩ := by
  refine set_plain X I (by k_is) ?_
  have SF := PySem.F.store_object
  have sub : Looks (model PySem.Challenge.rw_sj0031_01.row.prog w) hh (isInstance (.ref e) (.type "object")) true := I.type.andThen (Looks.of_peek X (by kernel_rfl))
  refine codeAny_call_builtin SF.slot.plain SF.entry (@check_slot (model PySem.Challenge.rw_sj0031_01.row.prog w) _ _ _ "object.__setattr__" "object" "__setattr__" (.ref e) [.str name t, v] [] _ SF.kind SF.split sub (SF.args (.ref e) (.str name t) v) ?_)
  rw [osa_eq, refuse_eq]
  have ty : Looks (model PySem.Challenge.rw_sj0031_01.row.prog w) hh (typeOf (.ref e)) (.ref 73) := I.type
  have hm : Looks (model PySem.Challenge.rw_sj0031_01.row.prog w) hh (mroOf (.ref 73)) [.ref 73, .ref 60, .type "Exception", .type "BaseException", .type "object"] := Looks.of_peek X (by kernel_rfl)
  have ref : refuseLoop (.ref e) "__setattr__" [.ref 73, .ref 60, .type "Exception", .type "BaseException", .type "object"] = pure () := by kernel_rfl
  obtain ⟨attr, ha, hr⟩ := Option.bind_eq_some_iff.mp hn
  have L2 := looks_findIn (M := model PySem.Challenge.rw_sj0031_01.row.prog w) X ha
  have L3 : Looks (model PySem.Challenge.rw_sj0031_01.row.prog w) hh (storeTaker? attr) none := by
    cases attr with
    | none => exact .now
    | some a =>
      obtain ⟨b, hb, hb'⟩ := Option.map_eq_some_iff.mp hr
      refine (looks_takesIn X hb).andThen ?_
      cases b
      · exact .now
      · cases hb'
  refine wpAny_bind (wpAny_bind (ty.at (wpAny_bind (hm.at ?_))))
  rw [ref]
  refine wpAny_pure (wpAny_bind (ty.at (wpAny_bind (L2.at (wpAny_bind (L3.at ?_))))))
  dsimp only
  refine wpAny_mono (h _) (fun fin s' z => ?_) fun _ _ z => z
  rcases fin with (f | f)
  · cases f <;> first | exact z | exact z.elim
  · exact z.elim

theorem store_dict {M : Model} {A : Around} {Q : PySem.Fin → Shared → Prop} {E : Value → Shared → Prop} {s : Shared} {h₀ : Heap} {L : Addr} {m : Str → Option Value} {dx : Addr} {es es' : List DictEntry} {n n' : Nat} {pre post : List (Addr × Obj)} {name : Str} {tk : Tok} {v : Value}
  (F : Fr h₀ L s.heap m) (N : News h₀ L s.heap (pre ++ (dx, dictOf es n) :: post)) (h1 : ∀ p ∈ pre, p.1 ≠ dx) (h2 : ∀ p ∈ post, p.1 ≠ dx)
  (hl : (getL name es).isSome = true) (e : (putL name (PyData.keyHash M.w.params name) (.str name s.toks) v es, putN name es n) = (es', n')) (hz : es'.length ≤ 1000)
  (h : ∀ h', Fr h₀ L h' m → News h₀ L h' (pre ++ (dx, dictOf es' n') :: post) → Q (.done (.ret .none)) { s with heap := h', toks := s.toks + 1 }) :
  wpAny M A (storeInDict dx (.str name tk) name v) Q E s := by
  obtain ⟨e1, e2⟩ := Prod.mk.inj e
  have e0 : Obj.putName name (PyData.keyHash M.w.params name) (.str name s.toks) v (dictOf es n) = dictOf es' n' := by rw [putName_dict, e1, e2]
  obtain ⟨U1, U2⟩ := news_upd (f := Obj.putName name (PyData.keyHash M.w.params name) (.str name s.toks) v) F N h1 h2 e0 rfl
  have D := (N (dx, dictOf es n) (by simp)).1
  have D' := (U2 (dx, dictOf es' n') (by simp)).1
  refine wpAny_bind (wpAny_pure (wpAny_bind ?_))
  unfold nsSet
  refine wpAny_bind (wpAny_bind (wpAny_askSetting (wpAny_pure (wpAny_bind (wpAny_mkText (wpAny_bind (wpAny_loadPart D ?_)))))))
  dsimp only
  have c : (!es.toArray.any (·.key.isStr name) && es.toArray.any (·.refKey)) = false := by
    unfold getL at hl
    rw [← Array.any_toList, ← Array.any_toList]
    split at hl
    · rename_i en he
      rw [List.any_eq_true.mpr ⟨en, List.mem_of_find?_eq_some he, List.find?_some he⟩]; rfl
    · split at hl
      · cases hl
      · rename_i z; rw [Bool.not_eq_true] at z; show (_ && es.any (·.refKey)) = false; rw [z, Bool.and_false]
  rw [aRefKeyMayBeTheName_at, c]
  refine wpAny_updatePart D ?_
  refine wpAny_bind (wpAny_lookBehind D' (pastItsLine_dict (by rw [List.size_toArray, sizeLine_eq]; omega)) ?_)
  exact wpAny_pure (h _ U1 U2)
end
section
open Builtin Builtin.ObjectAttr
set_option maxHeartbeats 4000000
section
variable {w : World} {A : Around} {Q : Unit → Shared → Prop} {E : Value → Shared → Prop} {s : Shared} {h₀ : Heap} {L : Addr} {m : Str → Option Value} {e tp dx : Addr} {rest : List (Addr × Obj)} {name : Str} {v : Value} {es es' : List DictEntry} {n n' : Nat}
theorem exc_set1 (F : Fr h₀ L s.heap m) (X₀ : (hd.heap_39 w.params).In h₀) (N : News h₀ L s.heap ((e, excObj none tp) :: rest)) (hne : ∀ p ∈ rest, p.1 ≠ e) (hn : takerIn (hd.heap_39 w.params) 73 name = some none)
  (ret : ∀ h' dx, Fr h₀ L h' m → News h₀ L h' ((dx, dictOf [⟨PyData.keyHash w.params name, .str name (s.toks + 1), v⟩] 1) :: (e, excObj (some dx) tp) :: rest) → (∀ p ∈ rest, p.1 ≠ dx) → e ≠ dx → Q () { s with heap := h', toks := s.toks + 2 }) :
  wpAny (model PySem.Challenge.rw_sj0031_01.row.prog w) A (setAttr (.ref e) name v) Q E s := by
  have X := X₀.keeps F.keep
  have I : InstAt s.heap e (excObj none tp) 73 none := ⟨(N _ (.head _)).1, rfl, rfl, trivial⟩
  obtain ⟨hh, g, d, t, os⟩ := s
  refine exc_open X I hn fun b => ?_
  have he : hh.get? e = some (excObj none tp) := (N _ (.head _)).1
  have hC := X 73 _ rfl
  have hlt : ∀ p ∈ (e, excObj none tp) :: rest, p.1 < hh.objs.size := fun p hp => Heap.lt_size (N p hp).1
  unfold storeInOwnDict ownDictForStores
  repeat lk
  have F1 := F.push emptyDict
  have N1 := N.push F emptyDict
  obtain ⟨F2, N2⟩ := news_upd (pre := [(hh.objs.size, emptyDict)]) (f := fun o => { cls := o.cls, dict := some hh.objs.size, data := o.data, slots := o.slots }) (o' := excObj (some hh.objs.size) tp) F1 N1
    (fun p hp => by rw [List.mem_singleton.mp hp]; exact Nat.ne_of_gt (hlt _ (.head _))) hne rfl rfl
  refine wpAny_bind (m := updatePart e none _) (f := fun _ => _) (wpAny_updatePart (N1 (e, excObj none tp) (.tail _ (.head _))).1 ?_)
  repeat ((fail_if_success (with_reducible show wpAny _ _ (storeInDict _ _ _ _) _ _ _)); lk)
  refine store_dict (M := model PySem.Challenge.rw_sj0031_01.row.prog w) (s := ⟨(hh.push emptyDict).update e fun o => { cls := o.cls, dict := some hh.objs.size, data := o.data, slots := o.slots }, g, d, t + 1, os⟩) (pre := []) (es := []) (n := 0) (es' := [⟨PyData.keyHash w.params name, .str name (t + 1), v⟩]) (n' := 1) F2 N2 (fun _ h => nomatch h) ?_ rfl rfl (Nat.le_of_ble_eq_true rfl) ?_
  · intro p hp
    rcases List.mem_cons.mp hp with rfl | hp
    · exact Nat.ne_of_lt (hlt (e, excObj none tp) (.head _))
    · exact Nat.ne_of_lt (hlt _ (.tail _ hp))
  · intro h' F3 N3
    exact ret h' _ F3 N3 (fun p hp => Nat.ne_of_lt (hlt p (.tail _ hp))) (Nat.ne_of_lt (hlt (e, excObj none tp) (.head _)))

theorem exc_set2 (F : Fr h₀ L s.heap m) (X₀ : (hd.heap_39 w.params).In h₀) (N : News h₀ L s.heap ((dx, dictOf es n) :: (e, excObj (some dx) tp) :: rest)) (hne : ∀ p ∈ rest, p.1 ≠ dx) (hne' : e ≠ dx) (hn : takerIn (hd.heap_39 w.params) 73 name = some none)
  (hl : (getL name es).isSome = true) (he : (putL name (PyData.keyHash w.params name) (.str name (s.toks + 1)) v es, putN name es n) = (es', n')) (hz : es'.length ≤ 1000)
  (ret : ∀ h', Fr h₀ L h' m → News h₀ L h' ((dx, dictOf es' n') :: (e, excObj (some dx) tp) :: rest) → Q () { s with heap := h', toks := s.toks + 2 }) :
  wpAny (model PySem.Challenge.rw_sj0031_01.row.prog w) A (setAttr (.ref e) name v) Q E s := by
  have X := X₀.keeps F.keep
  have I : InstAt s.heap e (excObj (some dx) tp) 73 (some (dictOf es n)) := ⟨(N _ (.tail _ (.head _))).1, rfl, rfl, (N _ (.head _)).1⟩
  obtain ⟨hh, g, d, t, os⟩ := s
  refine exc_open X I hn fun b => ?_
  have he0 : hh.get? e = some (excObj (some dx) tp) := (N _ (.tail _ (.head _))).1
  have hC := X 73 _ rfl
  unfold storeInOwnDict ownDictForStores
  repeat ((fail_if_success (with_reducible show wpAny _ _ (storeInDict _ _ _ _) _ _ _)); lk)
  refine store_dict (M := model PySem.Challenge.rw_sj0031_01.row.prog w) (s := ⟨hh, g, d, t + 1, os⟩) (pre := []) F N (fun _ h => nomatch h) ?_ hl he hz ?_
  · intro p hp
    rcases List.mem_cons.mp hp with rfl | hp
    · exact hne'
    · exact hne p hp
  · intro h' F3 N3
    exact ret h' F3 N3
end
end
section
theorem rstE4 : True := by
  w_top off
  trivial
open Builtin Builtin.ObjectAttr
set_option maxHeartbeats 4000000
noncomputable abbrev Lz : List Str := looseW hd.view_39 [Str.ofString "GateloomError"]
noncomputable def kOf3 (a b c : Int × Tok) : Nat → Int × Tok
  | 0 => a
  | 1 => b
  | _ => c
section
variable {w : World} {mean : ExcName → Option Value} {mg mb : Str → Option Value} {dp un : Nat} {gd : Option (List Code)} {cn : Str} {cs : Scope} {a : Addr} {ccd : Value} {outer : List Env} {A₀ : Around} {base h₀ : Heap} {L : Addr} {m : Str → Option Value}
    {news : List (Addr × Obj)} {s : Shared} {Q E : Value → Shared → Prop}
local macro_rules | `(tactic| walk_at "setAttr ref") => `(tactic| (k_here; first
  | (refine' exc_set1 ?k1 ?k2 ?k3 ?k4 ?k5 ?_; (case k1 => k_asm); (case k2 => k_asm); (case k3 => k_asm); (case k4 => assumption); (case k5 => k_is); k_whole; intro h' dx' F' N' l1 l2; (try k_sweep))
  | (refine' exc_set2 ?k1 ?k2 ?k3 ?k4 ?k5 ?k6 ?k7 ?k8 ?k9 ?_; (case k1 => k_asm); (case k2 => k_asm); (case k3 => k_asm); (case k6 => k_is); (case k7 => k_get); (case k8 => k_put); (case k9 => exact Nat.le_of_ble_eq_true rfl); (case k4 => assumption); (case k5 => assumption); k_whole; intro h' F' N'; (try k_sweep))))
theorem exc_new {x y : Str} {tx ty ta : Tok} {i : Int} (B : Below A₀ base outer h₀) (F : Fr h₀ L s.heap m) (X : (hd.heap_39 w.params).In h₀) (N : News h₀ L s.heap news) (T : Top hd.view_39 Lz mean mg mb h₀) (hk : cs.kind = .function)
    (hd : dp + 3 < recursionLimit) (hu : un + 40 < cLine)
    (ret : ∀ h' tk' e dx tp (k : Nat → Int × Tok), Fr h₀ L h' m → News h₀ L h' ((dx, dictOf [⟨(k 0).1, .str "kind" (k 0).2, .str x tx⟩, ⟨(k 1).1, .str "at" (k 1).2, .int i ta⟩, ⟨(k 2).1, .str "detail" (k 2).2, .str y ty⟩] 3) :: (e, excObj (some dx) tp) :: (tp, tupObj [.str x tx, .int i ta, .str y ty]) :: news) → (∀ p ∈ news, p.1 ≠ e) → e ≠ dx → Q (.ref e) { s with heap := h', toks := tk' }) :
    wpAny (model PySem.Challenge.rw_sj0031_01.row.prog w) (ktrTop dp un gd cn cs L a ccd [] outer) (call (.ref 73) [.str x tx, .int i ta, .str y ty]) Q E s := by
  have X₁ := X.keeps F.keep
  have F1 := (F.push (tupObj [.str x tx, .int i ta, .str y ty])).push (excObj none s.heap.objs.size)
  have N1 := (N.push F (tupObj [.str x tx, .int i ta, .str y ty])).push (F.push _) (excObj none s.heap.objs.size)
  rw [Heap.size_push] at N1
  have hlt : ∀ p ∈ news, p.1 < s.heap.objs.size := fun p hp => Heap.lt_size (N p hp).1
  have hne : ∀ p ∈ (s.heap.objs.size, tupObj [.str x tx, .int i ta, .str y ty]) :: news, p.1 ≠ s.heap.objs.size + 1 := by
    intro p hp
    rcases List.mem_cons.mp hp with rfl | hp
    · exact Nat.ne_of_lt (Nat.lt_succ_self _)
    · exact Nat.ne_of_lt (Nat.lt_succ_of_lt (hlt p hp))
  refine wpAny_call ?_
  obtain ⟨hh, g, d, t, os⟩ := s
  dsimp only at F1 N1 X₁ hne hlt
  refine mk_exc X₁ ?_
  clear N F X₁
  generalize hsz : hh.objs.size = z at *
  generalize ((hh.push (tupObj [.str x tx, .int i ta, .str y ty])).push (excObj none z)) = hh1 at *
  k_dflt ktr_enter
  k_steps
  exact ret _ _ _ _ _ (kOf3 (_, _) (_, _) (_, _)) (by assumption) (by assumption) (fun p hp => hne p (.tail _ hp)) (by assumption)
end
end
section
open Builtin Builtin.ObjectAttr
set_option maxHeartbeats 4000000
noncomputable def RaisOwn (w : World) (E : Value → Shared → Prop) (v : Value) (s₁ : Shared) : Prop :=
  ∃ x dd tp, v = .ref x ∧ (hd.heap_39 w.params).In s₁.heap ∧ s₁.heap.get? x = some (excObj dd tp) ∧ E (.ref x) s₁
theorem Raise_own {w : World} {A : Around} {Q : Flow → Shared → Prop} {E : Value → Shared → Prop} {s : Shared} {env : Env} {e : Expr} {pos : Pos} (hh : A.handled = none)
  (h : wpAny (model PySem.Challenge.rw_sj0031_01.row.prog w) A (eval e env) (RaisOwn w E) E s) : wpAny (model PySem.Challenge.rw_sj0031_01.row.prog w) A (exec (.Raise (some e) none pos) env) Q E s := by
  show wpAny (model PySem.Challenge.rw_sj0031_01.row.prog w) A (do standAt pos; raiseStmt env (some (do let v ← PySem.eval e env; standAt pos; pure v)) none) Q E s
  refine wpAny_bind (wpAny_standAt ?_)
  unfold raiseStmt
  dsimp only
  refine wpAny_bind (wpAny_bind (wpAny_mono h (fun v s₁ h₁ => wpAny_bind (wpAny_standAt (wpAny_pure ?_))) fun _ _ x => x))
  obtain ⟨x, dd, tp, rfl, X, hx, hE⟩ := h₁
  obtain ⟨hp, g, d, tk, os⟩ := s₁
  have ty : Looks (model PySem.Challenge.rw_sj0031_01.row.prog w) hp (typeOf (.ref x)) (.ref 73) := (Looks.ld hx).andThen .now
  have s1 : Looks (model PySem.Challenge.rw_sj0031_01.row.prog w) hp (isSubtype (.ref 73) (.type "type")) false := Looks.of_peek X (by kernel_rfl)
  have s2 : Looks (model PySem.Challenge.rw_sj0031_01.row.prog w) hp (isSubtype (.ref 73) (.type "BaseException")) true := Looks.of_peek X (by kernel_rfl)
  dsimp only at hx
  have s3 : Looks (model PySem.Challenge.rw_sj0031_01.row.prog w) hp (typeOf (.ref 73)) (.type "type") := Looks.of_peek X (by kernel_rfl)
  repeat ((fail_if_success (with_reducible show wpAny _ _ (raiseNew _) _ _ _)); lk)
  exact wpAny_raiseNew_none hh hE
end
section
set_option maxHeartbeats 4000000
noncomputable def FlyD (B : Heap) (l : List Env) (e dx : Addr) (fl : Value) (h : Heap) : Prop :=
  B.StaysIn h ∧ B.get? e = none ∧ h.FunFrames B l ∧ ∃ oe vs T oT ts, h.get? e = some oe ∧ (oe.cls = .ref 73 ∧ oe.dict = some dx) ∧ oe.data = .fields vs ∧ vs[1]? = some (.ref T) ∧ B.get? T = none ∧ T ≠ e ∧ h.get? T = some oT ∧ oT.data = .fields ts ∧ ts[3]? = some fl
theorem dict_mapFields (f : Array Value → Array Value) (o : Obj) : (Obj.mapFields f o).dict = o.dict := by
  obtain ⟨_, _, d, _⟩ := o
  cases d <;> rfl
section
variable {M : Model} {A : Around} {E : Value → Shared → Prop} {s : Shared} {B : Heap} {env : Env} {outer : List Env} {L e dx : Addr} {Q : Unit → Shared → Prop}
theorem entry_D {oe : Obj} {vs : Array Value} {head : Value} {hadNext : Bool}
    (hfr : A.frames = some (env :: outer)) (hl : s.heap.FunFrames B (env :: outer)) (hf : env.frame = some L) (hkb : B.StaysIn s.heap) (hen : B.get? e = none)
    (he : s.heap.get? e = some oe) (hc : oe.cls = .ref 73 ∧ oe.dict = some dx) (hd : oe.data = .fields vs) (hsz : 1 < vs.size)
    (h : ∀ h', FlyD B (env :: outer) e dx (rawInt L) h' → s.heap.UpToSlots h' → Q () { s with heap := h' }) :
    wpAny M A (do let a ← frameOf env; let pl ← entryPlaceOf L hadNext; let b ← EntryCells.newEntry head a .none (rawInt L) .none pl; setField (.ref e) 1 b) Q E s := by
  have hene : e ∉ (env :: outer).filterMap (·.frame) := fun hm => by
    obtain ⟨_, o, ho, hnf⟩ := hl.mem hm
    rw [he] at ho; injection ho with ho; subst ho; exact hnf vs hd
  refine wpAny_bind (wpAny_frameOf_fun hfr hl hf fun h₁ hs₁ => ?_)
  refine wpAny_bind (wpAny_entryPlaceOf fun pl hpl => ?_)
  unfold EntryCells.newEntry newFields
  refine wpAny_bind (wpAny_newObj_type ?_ (hpl.sizeOk5 _ _ _ _ _))
  have he₁ : h₁.get? e = some oe := (hs₁.2.1 e hene).trans he
  have kb₁ : B.StaysIn h₁ := fun b o hbo => (hs₁.2.1 b fun hm => by rw [(hl.mem hm).1] at hbo; cases hbo).trans (hkb b o hbo)
  have noRecord : ∀ b o, s.heap.get? b = some o → (∀ vs, o.data ≠ .fields vs) → b ≠ e := fun b o hb hnf q => by
    rw [q, he] at hb; injection hb with hb; subst hb; exact hnf vs hd
  have hts : (([head, .ref L, .none, rawInt L, .none] ++ (if pl.isEmpty then List.replicate 6 Value.none else pl)).toArray : Array Value)[3]? = some (rawInt L) := by simp
  generalize hts0 : (([head, .ref L, .none, rawInt L, .none] ++ (if pl.isEmpty then List.replicate 6 Value.none else pl)).toArray : Array Value) = ts at hts
  have he₂ := Heap.get?_push_of_some (h := h₁) { cls := .type "traceback", dict := none, data := .fields ts } he₁
  refine wpAny_setField he₂ hd hsz (h _ ?_ ?_)
  · have hTe : h₁.objs.size ≠ e := Nat.ne_of_gt (Heap.lt_size he₁)
    have hd₃ := Obj.data_mapFields hd (·.setIfInBounds 1 (Value.ref h₁.objs.size))
    have he₃ := Heap.get?_update_self (Obj.mapFields (·.setIfInBounds 1 (Value.ref h₁.objs.size))) he₂ (Obj.isFreed_of_fields hd₃)
    have hT₃ := (Heap.get?_update_other (h₁.push { cls := .type "traceback", dict := none, data := .fields ts }) (Obj.mapFields (·.setIfInBounds 1 (Value.ref h₁.objs.size))) (Ne.symm hTe)).trans (Heap.get?_push_size h₁ rfl)
    have keep : ∀ b o, b ≠ e → h₁.get? b = some o → ((h₁.push { cls := .type "traceback", dict := none, data := .fields ts }).update e (Obj.mapFields (·.setIfInBounds 1 (Value.ref h₁.objs.size)))).get? b = some o :=
      fun b o hbe hb => by
        rw [Heap.get?_update_other _ _ (Ne.symm hbe)]
        exact Heap.get?_push_of_some _ hb
    refine ⟨fun b o hbo => keep b o (fun q => by rw [q, hen] at hbo; cases hbo) (kb₁ b o hbo), hen, hl.of_keeps fun b o hb hnf => ?_, ?_⟩
    · obtain ⟨sl, hs⟩ := hs₁.2.2 b o hb
      exact ⟨_, keep b _ (noRecord b o hb hnf) hs, rfl⟩
    · exact ⟨_, _, h₁.objs.size, _, _, he₃, ⟨(Obj.cls_mapFields _ _).trans hc.1, (dict_mapFields _ _).trans hc.2⟩, hd₃, by simp [hsz], kb₁.fresh, hTe, hT₃, rfl, hts⟩
  · intro b o hb hnf
    obtain ⟨sl, hs⟩ := hs₁.2.2 b o hb
    refine ⟨sl, ?_⟩
    have hbe := noRecord b o hb hnf
    show ((h₁.push { cls := .type "traceback", dict := none, data := .fields ts }).update e _).get? b = _
    rw [Heap.get?_update_other _ _ (Ne.symm hbe)]
    exact Heap.get?_push_of_some _ hs

theorem land_D {l : List Env} {fl : Value} (hh : FlyD B l e dx fl s.heap) (hQ : ∀ h', FlyD B l e dx .none h' → s.heap.UpToSlots h' → Q () { s with heap := h' }) : wpAny M A (setFlight (.ref e) none) Q E s := by
  obtain ⟨hkb, hen, hl, oe, vs, T, oT, ts, he, hcls, hd, h1, hnT, hTe, hT, hdT, h3⟩ := hh
  have hsz3 : 3 < ts.size := (Array.getElem?_eq_some_iff.mp h3).1
  have other : ∀ b, b ≠ T → (s.heap.update T (Obj.mapFields (·.setIfInBounds 3 ((none : Option Addr).elim Value.none fun f => rawInt f)))).get? b = s.heap.get? b :=
    fun b hb => Heap.get?_update_other _ _ (Ne.symm hb)
  have noRecord : ∀ b o, s.heap.get? b = some o → (∀ vs, o.data ≠ .fields vs) → b ≠ T := fun b o hb hnf q => by
    rw [q, hT] at hb; injection hb with hb; subst hb; exact hnf ts hdT
  unfold setFlight
  refine wpAny_bind (wpAny_field he hd h1 ?_)
  rw [if_pos (show (Value.ref T != Value.none) = true from by simp)]
  refine wpAny_setField hT hdT hsz3 (hQ _ ⟨fun b o hbo => (other b fun q => by rw [q, hnT] at hbo; cases hbo).trans (hkb b o hbo), hen,
    hl.of_keeps fun b o hb hnf => ⟨o, (other b (noRecord b o hb hnf)).trans hb, rfl⟩, ?_⟩ fun b o hb hn => ⟨o.slots, (other b (noRecord b o hb hn)).trans hb⟩)
  exact ⟨oe, vs, T, _, _, (other e (Ne.symm hTe)).trans he, hcls, hd, h1, hnT, hTe, Heap.get?_update_self _ hT (Obj.isFreed_of_fields (Obj.data_mapFields hdT _)), Obj.data_mapFields hdT _, by simp [hsz3]⟩

theorem note_first_D {oe : Obj} {vs : Array Value} 
    (hfr : A.frames = some (env :: outer)) (hl : s.heap.FunFrames B (env :: outer)) (hf : env.frame = some L) (hkb : B.StaysIn s.heap) (hen : B.get? e = none)
    (he : s.heap.get? e = some oe) (hc : oe.cls = .ref 73 ∧ oe.dict = some dx) (hd : oe.data = .fields vs) (h1 : vs[1]? = some .none)
    (h : ∀ h', FlyD B (env :: outer) e dx (rawInt L) h' → s.heap.UpToSlots h' → Q () { s with heap := h' }) : wpAny M A (noteFrame (.ref e) env) Q E s := by
  unfold noteFrame
  simp only [hf]
  refine wpAny_bind (wpAny_field he hd h1 ?_)
  rw [if_neg (by decide)]
  exact entry_D hfr hl hf hkb hen he hc hd (Array.getElem?_eq_some_iff.mp h1).1 h

theorem note_on_D (hfr : A.frames = some (env :: outer)) (hf : env.frame = some L) (hh : FlyD B (env :: outer) e dx .none s.heap)
    (h : ∀ h', FlyD B (env :: outer) e dx (rawInt L) h' → s.heap.UpToSlots h' → Q () { s with heap := h' }) : wpAny M A (noteFrame (.ref e) env) Q E s := by
  obtain ⟨hkb, hen, hl, oe, vs, T, oT, ts, he, hcls, hd, h1, hnT, hTe, hT, hdT, h3⟩ := hh
  unfold noteFrame
  simp only [hf]
  refine wpAny_bind (wpAny_field he hd h1 ?_)
  rw [if_pos (show (Value.ref T != Value.none) = true from by simp)]
  refine wpAny_bind (wpAny_field hT hdT h3 ?_)
  rw [if_neg (show ¬ ((Value.none == rawInt L) = true) from by simp [rawInt])]
  refine wpAny_bind (wpAny_setField hT hdT (Array.getElem?_eq_some_iff.mp h3).1 ?_)
  have other : ∀ b, b ≠ T → (s.heap.update T (Obj.mapFields (·.setIfInBounds 3 Value.none))).get? b = s.heap.get? b := fun b hb => Heap.get?_update_other _ _ (Ne.symm hb)
  have noRecord : ∀ b o, s.heap.get? b = some o → (∀ vs, o.data ≠ .fields vs) → b ≠ T := fun b o hb hnf q => by
    rw [q, hT] at hb; injection hb with hb; subst hb; exact hnf ts hdT
  refine entry_D hfr (hl.of_keeps fun b o hb hnf => ⟨o, (other b (noRecord b o hb hnf)).trans hb, rfl⟩) hf (fun b o hbo => (other b fun q => by rw [q, hnT] at hbo; cases hbo).trans (hkb b o hbo)) hen ((other e (Ne.symm hTe)).trans he)
    hcls hd (Array.getElem?_eq_some_iff.mp h1).1 fun h' x y => h h' x fun b o hb hnf => y b o ((other b (noRecord b o hb hnf)).trans hb) hnf

theorem leave_first_D {oe : Obj} {vs : Array Value}
    (hfr : A.frames = some (env :: outer)) (hl : s.heap.FunFrames B (env :: outer)) (hf : env.frame = some L) (hkb : B.StaysIn s.heap) (hen : B.get? e = none)
    (he : s.heap.get? e = some oe) (hc : oe.cls = .ref 73 ∧ oe.dict = some dx) (hd : oe.data = .fields vs) (h1 : vs[1]? = some .none)
    (h : ∀ h', FlyD B outer e dx .none h' → s.heap.UpToSlots h' → Q () { s with heap := h' }) : wpAny M A (leaving env (.ref e)) Q E s := by
  unfold leaving
  refine wpAny_bind (note_first_D hfr hl hf hkb hen he hc hd h1 fun h₁ x y => land_D x fun h₂ x' y' => ?_)
  obtain ⟨a1, a2, ⟨_, _, a3⟩, a4⟩ := x'
  exact h h₂ ⟨a1, a2, a3, a4⟩ (y.trans y')

theorem leave_next_D (hfr : A.frames = some (env :: outer)) (hf : env.frame = some L) (hh : FlyD B (env :: outer) e dx .none s.heap)
    (h : ∀ h', FlyD B outer e dx .none h' → s.heap.UpToSlots h' → Q () { s with heap := h' }) : wpAny M A (leaving env (.ref e)) Q E s := by
  unfold leaving
  refine wpAny_bind (note_on_D hfr hf hh fun h₁ x y => land_D x fun h₂ x' y' => ?_)
  obtain ⟨a1, a2, ⟨_, _, a3⟩, a4⟩ := x'
  exact h h₂ ⟨a1, a2, a3, a4⟩ (y.trans y')
end
end
section
set_option maxHeartbeats 4000000
noncomputable def Raised (base G : Heap) (l : List Env) (e dx : Addr) (news : List (Addr × Obj)) (h : Heap) : Prop :=
  ∃ B, base.StaysIn B ∧ (∀ b o, G.get? b = some o → b ∉ l.filterMap (·.frame) → B.get? b = some o) ∧ (∀ q ∈ news, B.get? q.1 = some q.2 ∧ G.get? q.1 = none ∧ base.get? q.1 = none) ∧ FlyD B l e dx .none h
section
variable {M : Model} {A : Around} {E : Value → Shared → Prop} {s' : Shared} {base g g₂ : Heap} {outer : List Env} {L a e dx tp : Addr} {m : Str → Option Value} {name : Str} {scope : Scope} {cd : Value} {Q : Unit → Shared → Prop} {news news' : List (Addr × Obj)}
theorem leave_raise_D (K : Below A base outer g) (F : Fr g L s'.heap m) (N : News g L s'.heap news) (he : (e, excObj (some dx) tp) ∈ news) (hs : ∀ q ∈ news', q ∈ news ∧ q.1 ≠ e)
    (hQ : ∀ h', Raised base g outer e dx news' h' → g.UpToSlots h' → Q () { s' with heap := h' }) (hk : scope.kind = .function := by rfl) :
    wpAny M (A.deeper (envOf name scope L a cd)) (leaving (envOf name scope L a cd) (.ref e)) Q E s' := by
  have K' := K.push (name := name) (a := a) (cd := cd) F hk
  have hin : ∀ env ∈ (envOf name scope L a cd :: outer), ∀ b, env.frame = some b → b ∈ e :: (envOf name scope L a cd :: outer).filterMap (·.frame) := fun env he b hb => List.mem_cons_of_mem _ (List.mem_filterMap.mpr ⟨env, he, hb⟩)
  have ge := N _ he
  have nb : base.get? e = none := fresh_of_stays K.stays ge.2.2
  have st : base.StaysIn (hideAll s'.heap (e :: (envOf name scope L a cd :: outer).filterMap (·.frame))) := fun b o q => hideAll_get _ (K'.stays b o q) fun hm => by
    rcases List.mem_cons.mp hm with rfl | hm
    · rw [nb] at q; cases q
    · rw [(K'.frames.mem hm).1] at q; cases q
  have sg : ∀ b o, g.get? b = some o → b ∉ outer.filterMap (·.frame) → (hideAll s'.heap (e :: (envOf name scope L a cd :: outer).filterMap (·.frame))).get? b = some o := fun b o q nm => hideAll_get _ (F.keep b o q) fun hm => by
    rcases List.mem_cons.mp hm with rfl | hm
    · rw [ge.2.2] at q; cases q
    · rcases kts_mem hm with z | z
      · rw [z, kts_self F] at q
        cases q
      · exact nm z
  have hl : ∀ q ∈ news', (hideAll s'.heap (e :: (envOf name scope L a cd :: outer).filterMap (·.frame))).get? q.1 = some q.2 ∧ g.get? q.1 = none ∧ base.get? q.1 = none := fun q hq' => by
    obtain ⟨hq, hne⟩ := hs q hq'
    refine ⟨hideAll_get _ (N q hq).1 fun hm => ?_, (N q hq).2.2, fresh_of_stays K.stays (N q hq).2.2⟩
    rcases List.mem_cons.mp hm with z | hm
    · exact hne z
    · obtain ⟨env, he, hf⟩ := List.mem_filterMap.mp hm
      rcases List.mem_cons.mp he with rfl | he
      · exact (N q hq).2.1 (Option.some.inj hf).symm
      · obtain ⟨o, ho, _⟩ := (K.frames.mem (List.mem_filterMap.mpr ⟨env, he, hf⟩)).2
        rw [(N q hq).2.2] at ho; cases ho
  refine leave_first_D (B := hideAll s'.heap (e :: (envOf name scope L a cd :: outer).filterMap (·.frame))) K'.stack (funFrames_hide K'.frames hin) rfl (fun b o q => of_hideAll _ q) (hideAll_none _ (.head _)) ge.1 ⟨rfl, rfl⟩ rfl rfl fun h' x y => ?_
  exact hQ h' ⟨_, st, sg, hl, x⟩ ((Heap.UpToSlots.of_keeps F.keep).trans y)

theorem leave_made_D {od ot : Obj} {rest : List (Addr × Obj)} (K : Below A base outer g) (F : Fr g L s'.heap m) (N : News g L s'.heap ((dx, od) :: (e, excObj (some dx) tp) :: (tp, ot) :: rest)) (hne : ∀ p ∈ rest, p.1 ≠ e) (hne' : e ≠ dx)
    (hQ : ∀ h', Raised base g outer e dx ((dx, od) :: rest) h' → g.UpToSlots h' → Q () { s' with heap := h' }) (hk : scope.kind = .function := by rfl) :
    wpAny M (A.deeper (envOf name scope L a cd)) (leaving (envOf name scope L a cd) (.ref e)) Q E s' := by
  refine leave_raise_D K F N (.tail _ (.head _)) (fun q hq => ?_) hQ hk
  rcases List.mem_cons.mp hq with rfl | hq
  · exact ⟨.head _, Ne.symm hne'⟩
  · exact ⟨.tail _ (.tail _ (.tail _ hq)), hne q hq⟩

theorem leave_on_D (K : Below A base outer g) (F : Fr g L g₂ m) (R : Raised base g₂ (envOf name scope L a cd :: outer) e dx news s'.heap) (hsm : g₂.UpToSlots s'.heap)
    (hQ : ∀ h', Raised base g outer e dx news h' → g.UpToSlots h' → Q () { s' with heap := h' }) :
    wpAny M (A.deeper (envOf name scope L a cd)) (leaving (envOf name scope L a cd) (.ref e)) Q E s' := by
  obtain ⟨B, hB, hBG, hl, hfl⟩ := R
  exact leave_next_D (Around.frames_deeper K.stack) rfl hfl fun h' x1 x2 =>
    hQ h' ⟨B, hB, fun b o q nm => hBG b o (F.keep b o q) (fun hm => by
      rcases kts_mem hm with z | z
      · rw [z, kts_self F] at q
        cases q
      · exact nm z), fun q hq => ⟨(hl q hq).1, kts_none F.keep (hl q hq).2.1, (hl q hq).2.2⟩, x1⟩ ((Heap.UpToSlots.of_keeps F.keep).trans (hsm.trans x2))
end
end
section
set_option maxHeartbeats 4000000
section
variable {prog : Program} {w : World} {A₀ : Around} {E : Value → Shared → Prop} {s' : Shared} {base g g₀ G : Heap} {outer : List Env} {L a e dx : Addr} {m : Str → Option Value} {name : Str} {scope : Scope} {cd : Value}
  {n : Str} {b₀ : Stmt} {suite : List Stmt} {pos np : Pos} {rest : List ExceptHandler} {Q : Flow → Shared → Prop} {news : List (Addr × Obj)} {KF : Frag}
  {p : Program} {loose : List Str} {mean : ExcName → Option Value} {mg mb : Str → Option Value} {x : Str}
theorem caught_D (R : Raised base G (envOf name scope L a cd :: outer) e dx news s'.heap) (F : Fr g L G m) (K : Below A₀ base outer g) (hsm : G.UpToSlots s'.heap) (XB : KF.In base) (TB : Top p loose mean mg mb base)
    (D : KtsDicts (outer.filterMap (·.frame)) g) (T0 : KtsTurn (outer.filterMap (·.frame)) g₀ g)
    (ex : nsIn KF mainGlobals x = some (some (.ref 73))) (q : ktsIn KF 73 "BaseException" = true)
    (k : ∀ h' g' oe tk, KtsTurn (outer.filterMap (·.frame)) g₀ g' → Fr g' L h' (fun y => if y = n then some (.ref e) else m y) → oe.cls = .ref 73 ∧ oe.dict = some dx ∧ (∃ vs, oe.data = .fields vs) → News g' L h' ((e, oe) :: news) → Below A₀ base outer g' → KF.In g' → Top p loose mean mg mb g' → KtsDicts (outer.filterMap (·.frame)) g' →
      wpAny (model prog w) ((A₀.deeper (envOf name scope L a cd)).mark (some (.ref e))) (execs (b₀ :: suite) (envOf name scope L a cd))
        (fun f s₄ => wpAny (model prog w) (A₀.deeper (envOf name scope L a cd)) (do bindName (envOf name scope L a cd) n .none; unbindBehindTheSuite (envOf name scope L a cd) n pos) (fun _ s₅ => Q f s₅) E s₄)
        (AsSuiteRaised (model prog w) ((A₀.deeper (envOf name scope L a cd)).mark (some (.ref e))) (envOf name scope L a cd) n pos (notedBy (model prog w) ((A₀.deeper (envOf name scope L a cd)).mark (some (.ref e))) (envOf name scope L a cd) (cameBackBy (model prog w) (A₀.deeper (envOf name scope L a cd)) (envOf name scope L a cd) E)))
        { s' with heap := h', toks := tk })
    (hk : scope.kind = .function := by rfl) (hlo : (envOf name scope L a cd).kindOf n = some .local := by rfl) (hx : (envOf name scope L a cd).kindOf x = some .globalImplicit := by rfl) (hd : (x == ("__debug__" : Str)) = false := by decide) :
    wpAny (model prog w) (A₀.deeper (envOf name scope L a cd)) (noteFrame (.ref e) (envOf name scope L a cd))
      (fun _ s₂ => wpAny (model prog w) (A₀.deeper (envOf name scope L a cd)) (setFlight (.ref e) none) (fun _ s₃ =>
        wpAny (model prog w) (A₀.deeper (envOf name scope L a cd)) (handleBy (.ref e) (envOf name scope L a cd) (.ExceptHandler (some (.Name x np)) (some n) (b₀ :: suite) pos :: rest)) Q E s₃) E s₂) E s' := by
  obtain ⟨B, hB, hBG, hl, hfl⟩ := R
  have hL : B.get? L = none := by
    obtain ⟨_, ⟨L', _, hf, hn', _⟩, _⟩ := hfl.2.2.1
    obtain rfl : L = L' := Option.some.inj hf
    exact hn'
  refine note_on_D (Around.frames_deeper K.stack) rfl hfl fun h₄ hheld₄ hsm₄ => ?_
  refine land_D hheld₄ fun h₅ hheld hsm₅' => ?_
  have hsm₅ := hsm₄.trans hsm₅'
  obtain ⟨g₅, T₅, F₅, K₅⟩ := kts_ground K F hBG hheld.1 (hsm.trans hsm₅)
  have X₅ : KF.In g₅ := XB.keeps K₅.stays
  have P₅ : TopRead p loose mg mb g₅ := topRead_of (TB.keeps K₅.stays)
  obtain ⟨ob, _, _, _, _, hob, hobc, _⟩ := hheld.2.2.2
  obtain ⟨nm, q', N, bs, bm, hdct, sn, sub, ab, col, dd, k0, k1, k2, k3, k5, newId, hC, hbase, hbT⟩ := kts_cls X₅ q
  have hC₅ := F₅.keep _ _ hC
  refine wpAny_handleBy_cons (codeAny_handlers_test (name_K F₅ X₅ P₅ ex ?_ hk hx hd)) (by intro q; cases q)
  refine wpAny_excMatches_sub_self hC₅ hob hobc.1 hbase (codeAny_handlers_suite_as ?_)
  refine land_D hheld fun h₆ hfl₆ hsm₆ => ?_
  obtain ⟨g₆, T₆, F₆, K₆⟩ := kts_ground K F hBG hfl₆.1 ((hsm.trans hsm₅).trans hsm₆)
  obtain ⟨oe, ws, _, _, _, hoe, hoec, hoed, _⟩ := hfl₆.2.2.2
  have ne₆ : g₆.get? e = none := T₆.none_ _ (kts_fresh F hBG hfl₆.2.1 fun o ho m => by
    obtain ⟨_, o', ho', hd⟩ := K.frames.mem m
    rw [ho] at ho'
    cases ho'
    obtain ⟨sl, hs⟩ := ((hsm.trans hsm₅).trans hsm₆) _ _ (F.keep _ _ ho) hd
    rw [hoe] at hs
    cases hs
    exact hd _ hoed)
  have Nl : News g₆ L h₆ news := fun q hq => ⟨hfl₆.1 _ _ (hl q hq).1, (fun z => by have := (hl q hq).1; rw [z, hL] at this; cases this), T₆.none_ _ (kts_none F.keep (hl q hq).2.1)⟩
  have N₆ : News g₆ L h₆ ((e, oe) :: news) := News.more F₆ Nl hoe (fun es n q => by rw [hoed] at q; cases q) ne₆
  have X₆ : KF.In g₆ := XB.keeps K₆.stays
  have P₆ : Top p loose mean mg mb g₆ := TB.keeps K₆.stays
  have D₆ : KtsDicts (outer.filterMap (·.frame)) g₆ := D.turn T₆
  refine stN F₆ N₆ (fun h₇ F₇ N₇ => ?_) hk hlo
  exact k h₇ g₆ oe _ (T0.trans T₆) F₇ ⟨hoec.1, hoec.2, ⟨_, hoed⟩⟩ N₇ K₆ X₆ P₆ D₆
end
end
section
inductive Tk where
  | key (x : Str)
  | num (a b : Str) (c : Bool) (d : Str)
  | str (x : Str)
  | id (x : Str)
  | op (x : Str)
  | eof
noncomputable def Tk.kind : Tk → Str
  | .key _ => "key"
  | .num .. => "num"
  | .str _ => "str"
  | .id _ => "id"
  | .op _ => "op"
  | .eof => "eof"
noncomputable def Tk.val : Tk → Dat
  | .key x => .str x
  | .num a b c d => .tuple [.str a, .str b, .bool c, .str d]
  | .str x => .str x
  | .id x => .str x
  | .op x => .str x
  | .eof => .str ""
noncomputable def Tk.isOp : Tk → Str → Bool
  | .op y, x => y == x
  | _, _ => false
noncomputable def Tk.isKey : Tk → Str → Bool
  | .key y, x => y == x
  | _, _ => false
noncomputable abbrev ent (k : Nat → Int × Tok) (i : Nat) (x : Str) (v : Value) : DictEntry := ⟨(k i).1, .str x (k i).2, v⟩
noncomputable abbrev curObj (k : Nat → Int × Tok) (src ah : Addr) (hb : Bool) (t : Addr) (a : Int) (ta : Tok) : Obj :=
  dictOf [ent k 0 "source" (.ref src), ent k 1 "ahead" (.ref ah), ent k 2 "hashed" (.bool hb), ent k 3 "token" (.ref t), ent k 4 "at" (.int a ta)] 5
noncomputable abbrev rowObj (k : Nat → Int × Tok) (lT : Addr) (p : Int) (tp : Tok) (pb : Bool) : Obj :=
  dictOf [ent k 0 "tokens" (.ref lT), ent k 1 "place" (.int p tp), ent k 2 "parted" (.bool pb)] 3
noncomputable abbrev tokObj (k : Nat → Int × Tok) (kind : Str) (kk : Tok) (v : Value) (a : Int) (ta : Tok) : Obj :=
  dictOf [ent k 0 "kind" (.str kind kk), ent k 1 "value" v, ent k 2 "at" (.int a ta)] 3
noncomputable abbrev excDict (k : Nat → Int × Tok) (x : Str) (tx : Tok) (i : Int) (ta : Tok) (y : Str) (ty : Tok) : Obj :=
  dictOf [⟨(k 0).1, .str "kind" (k 0).2, .str x tx⟩, ⟨(k 1).1, .str "at" (k 1).2, .int i ta⟩, ⟨(k 2).1, .str "detail" (k 2).2, .str y ty⟩] 3
/-- a token lies at x -/
noncomputable def TokAt (led : List (Addr × Obj)) (x : Addr) (t : Tk × Int) : Prop :=
  ∃ d k kk v ta, (x, instObj 92 d) ∈ led ∧ (d, tokObj k t.1.kind kk v t.2 ta) ∈ led ∧ DatIn led v t.1.val
theorem TokAt.mono {led led' : List (Addr × Obj)} {x : Addr} {t : Tk × Int} (h : TokAt led x t) (hs : ∀ p ∈ led, p ∈ led') : TokAt led' x t := by
  obtain ⟨d, k, kk, v, ta, h1, h2, h3⟩ := h
  exact ⟨d, k, kk, v, ta, hs _ h1, hs _ h2, h3.mono hs⟩
inductive ToksAt (led : List (Addr × Obj)) : List Addr → List (Tk × Int) → Prop
  | nil : ToksAt led [] []
  | cons {x t xs ts} : TokAt led x t → ToksAt led xs ts → ToksAt led (x :: xs) (t :: ts)
theorem ToksAt.mono {led led' : List (Addr × Obj)} {xs : List Addr} {ts : List (Tk × Int)} (h : ToksAt led xs ts) (hs : ∀ p ∈ led, p ∈ led') : ToksAt led' xs ts := by
  induction h with
  | nil => exact .nil
  | cons h _ ih => exact .cons (h.mono hs) ih
theorem ToksAt.length {led : List (Addr × Obj)} {xs : List Addr} {ts : List (Tk × Int)} (h : ToksAt led xs ts) : xs.length = ts.length := by
  induction h with
  | nil => rfl
  | cons _ _ ih => simp [ih]
theorem ToksAt.get {led : List (Addr × Obj)} {xs : List Addr} {ts : List (Tk × Int)} (h : ToksAt led xs ts) : ∀ {k : Nat} {t : Tk × Int}, ts[k]? = some t → ∃ x, xs[k]? = some x ∧ TokAt led x t := by
  induction h with
  | nil => intro k t e; simp at e
  | cons h _ ih =>
    intro k t e
    cases k with
    | zero => simp at e; subst e; exact ⟨_, rfl, h⟩
    | succ k => simp at e; obtain ⟨x, h1, h2⟩ := ih e; exact ⟨x, by simpa using h1, h2⟩
noncomputable def hdT (ts : List (Tk × Int)) : Tk × Int := ts.headD (.eof, -1)
/-- the parser's state: the ledger's part that does not turn, the current token's place, what is left -/
structure PSt (dC dR c src ah lT : Addr) (kR : Nat → Int × Tok) (toks : List (Tk × Int)) (refs : List Addr) (rest : List (Addr × Obj)) (t : Addr) (p : Nat) (ts : List (Tk × Int)) : Prop where
  cur : (c, instObj 220 dC) ∈ rest
  srcM : (src, instObj 120 dR) ∈ rest
  ahead : ∃ n, (ah, listOf #[] n) ∈ rest
  lst : ∃ n, (lT, listOf (refs.map Value.ref).toArray n) ∈ rest
  all : ToksAt rest refs toks
  tok : TokAt rest t (hdT ts)
  fut : toks.drop p = ts.tail
  ple : p ≤ toks.length
  off : ∀ q ∈ rest, q.1 ≠ dC ∧ q.1 ≠ dR
  ne : dC ≠ dR
  small : toks.length < 1000
noncomputable def Tk.isEnd (t : Tk) : Bool := t.isOp ":" || t.isOp ";"
noncomputable def Tk.piece : Tk → Option Str
  | .num a b _ d => if a == "" && b == "" then some d else none
  | .id x => some (Txt.lower x)
  | .op x => some x
  | _ => none
noncomputable def Tk.len : Tk → Nat
  | .num _ _ _ d => d.length
  | .id x => x.length
  | .op x => x.length
  | _ => 0
noncomputable def Small (ts : List (Tk × Int)) : Prop := ∀ t ∈ ts, t.1.len ≤ 100
noncomputable def cut (x : Str) : List (Tk × Int) → Option Str × List (Tk × Int)
  | [] => (none, [])
  | t :: ts => if t.1.isEnd then (some x, t :: ts) else match t.1.piece with
    | some y => cut (x ++ y) ts
    | none => (none, t :: ts)
theorem PSt.len {dC dR c src ah lT : Addr} {kR : Nat → Int × Tok} {toks ts : List (Tk × Int)} {refs : List Addr} {rest : List (Addr × Obj)} {t : Addr} {p : Nat} (P : PSt dC dR c src ah lT kR toks refs rest t p ts) : ts.length ≤ 1000 := by
  have h := congrArg List.length P.fut
  rw [List.length_drop, List.length_tail] at h
  have := P.small
  omega
theorem da_cons {led : List (Addr × Obj)} {vs : List Value} {d : Dat} {ds : List Dat} (h : DatAll led vs (d :: ds)) : ∃ v r, vs = v :: r ∧ DatIn led v d ∧ DatAll led r ds := by
  cases h with | cons a b => exact ⟨_, _, rfl, a, b⟩
theorem da_nil {led : List (Addr × Obj)} {vs : List Value} (h : DatAll led vs []) : vs = [] := by cases h; rfl
theorem di_str {led : List (Addr × Obj)} {v : Value} {x : Str} (h : DatIn led v (.str x)) : ∃ t, v = .str x t := by cases h; exact ⟨_, rfl⟩
theorem di_bool {led : List (Addr × Obj)} {v : Value} {x : Bool} (h : DatIn led v (.bool x)) : v = .bool x := by cases h; rfl
theorem di_int {led : List (Addr × Obj)} {v : Value} {x : Int} (h : DatIn led v (.int x)) : ∃ t, v = .int x t := by cases h; exact ⟨_, rfl⟩
theorem di_tup {led : List (Addr × Obj)} {v : Value} {ds : List Dat} (h : DatIn led v (.tuple ds)) : ∃ q vs n, v = .ref q ∧ (q, ({ cls := .type "tuple", data := .seq vs.toArray n } : Obj)) ∈ led ∧ DatAll led vs ds := by
  cases h with | tuple a b => exact ⟨_, _, _, rfl, a, b⟩
theorem di_num {led : List (Addr × Obj)} {v : Value} {a b d : Str} {c : Bool} (h : DatIn led v (.tuple [.str a, .str b, .bool c, .str d])) :
    ∃ q t1 t2 t3 n, v = .ref q ∧ (q, ({ cls := .type "tuple", data := .seq #[.str a t1, .str b t2, .bool c, .str d t3] n } : Obj)) ∈ led := by
  obtain ⟨q, vs, n, e, hm, h⟩ := di_tup h
  obtain ⟨v1, r, e0, h1, h⟩ := da_cons h
  obtain ⟨v2, r2, e2, h2, h⟩ := da_cons h
  obtain ⟨v3, r3, e3, h3, h⟩ := da_cons h
  obtain ⟨v4, r4, e4, h4, h⟩ := da_cons h
  obtain ⟨t1, f1⟩ := di_str h1
  obtain ⟨t2, f2⟩ := di_str h2
  obtain ⟨t3, f3⟩ := di_str h4
  rw [e0, e2, e3, e4, da_nil h, f1, f2, di_bool h3, f3] at hm
  exact ⟨q, t1, t2, t3, n, e, hm⟩
end
section
theorem rstS1 : True := by
  w_top off
  trivial
set_option maxHeartbeats 4000000
theorem Raised.sub {base G : Heap} {l : List Env} {e dx : Addr} {news news' : List (Addr × Obj)} {h : Heap} (R : Raised base G l e dx news h) (hs : ∀ p ∈ news', p ∈ news) : Raised base G l e dx news' h := by
  obtain ⟨B, h1, h2, h3, h4⟩ := R
  exact ⟨B, h1, h2, fun q hq => h3 q (hs q hq), h4⟩
/-- where a raise is handed on -/
noncomputable def ExcTo (base h₀ : Heap) (L : Addr) (m : Str → Option Value) (env : Env) (outer : List Env) (rest : List (Addr × Obj)) (kind : Str) (at_ : Int) (s : Shared) (E : Value → Shared → Prop) : Prop :=
  ∀ h' tk' e dx g k tx ta y ty, Fr h₀ L g m → Raised base g (env :: outer) e dx ((dx, excDict k kind tx at_ ta y ty) :: rest) h' → g.UpToSlots h' → E (.ref e) { s with heap := h', toks := tk' }
local macro_rules | `(tactic| walk_at "exec Raise some none") => `(tactic| (k_here; (with_reducible refine Raise_own ?h0 ?_); (case h0 => with_unfolding_all rfl)))
local macro_rules | `(tactic| walk_at "call ref") => `(tactic| (k_here; (with_reducible refine Mine.cg 73 ?_); k_dflt (apply exc_new; walk_at "std"; walk_at "kn")))
section
variable {w : World} {mean : ExcName → Option Value} {mg mb : Str → Option Value} {dp un : Nat} {gd : Option (List Code)} {cn : Str} {cs : Scope} {a : Addr} {ccd : Value} {outer : List Env} {A₀ : Around} {base h₀ : Heap} {L : Addr} {m : Str → Option Value}
    {news : List (Addr × Obj)} {s : Shared} {Q E : Value → Shared → Prop}
    {c dC t src ah : Addr} {x y : Str} {tx ty : Tok} {kC : Nat → Int × Tok} {hb : Bool} {at_ : Int} {ta : Tok}
theorem fail_spec1
    (B : Below A₀ base outer h₀) (F : Fr h₀ L s.heap m) (X : (hd.heap_39 w.params).In h₀) (N : News h₀ L s.heap news) (T : Top hd.view_39 Lz mean mg mb h₀) (hk : cs.kind = .function)
    (hd : dp + 6 < recursionLimit) (hu : un + 60 < cLine)
    (hD : (dC, curObj kC src ah hb t at_ ta) ∈ news) (hC : (c, instObj 220 dC) ∈ news)
    (exc : ExcTo base h₀ L m (envOf cn cs L a ccd) outer news x at_ s E) :
    wpAny (model PySem.Challenge.rw_sj0031_01.row.prog w) (ktrTop dp un gd cn cs L a ccd [] outer) (call (.ref 217) [.ref c, .str x tx]) Q E s := by
  refine wpAny_call ?_
  k_dflt ktr_enter
  k_steps
  rename Fr h₀ L _ m => FG'
  rename Fr _ _ _ _ => F'
  rename News _ _ _ _ => N'
  rename Below _ _ _ _ => B'
  rename Frag.In _ _ => X'
  refine ⟨_, _, _, rfl, X'.keeps F'.keep, (N' _ (.tail _ (.head _))).1, ?_⟩
  show wpAny _ _ _ _ _ _
  refine leave_made_D B' F' N' (by assumption) (by assumption) ?_
  intro h'' R U
  exact exc _ _ _ _ _ _ _ _ _ _ FG' R U
theorem fail_spec2
    (B : Below A₀ base outer h₀) (F : Fr h₀ L s.heap m) (X : (hd.heap_39 w.params).In h₀) (N : News h₀ L s.heap news) (T : Top hd.view_39 Lz mean mg mb h₀) (hk : cs.kind = .function)
    (hd : dp + 6 < recursionLimit) (hu : un + 60 < cLine)
    (hD : (dC, curObj kC src ah hb t at_ ta) ∈ news) (hC : (c, instObj 220 dC) ∈ news)
    (exc : ExcTo base h₀ L m (envOf cn cs L a ccd) outer news x at_ s E) :
    wpAny (model PySem.Challenge.rw_sj0031_01.row.prog w) (ktrTop dp un gd cn cs L a ccd [] outer) (call (.ref 217) [.ref c, .str x tx, .str y ty]) Q E s := by
  refine wpAny_call ?_
  k_dflt ktr_enter
  k_steps
  rename Fr h₀ L _ m => FG'
  rename Fr _ _ _ _ => F'
  rename News _ _ _ _ => N'
  rename Below _ _ _ _ => B'
  rename Frag.In _ _ => X'
  refine ⟨_, _, _, rfl, X'.keeps F'.keep, (N' _ (.tail _ (.head _))).1, ?_⟩
  show wpAny _ _ _ _ _ _
  refine leave_made_D B' F' N' (by assumption) (by assumption) ?_
  intro h'' R U
  exact exc _ _ _ _ _ _ _ _ _ _ FG' R U
end
end
section
theorem rstS2 : True := by
  w_top off
  trivial
set_option maxHeartbeats 4000000
section
variable {w : World} {mean : ExcName → Option Value} {mg mb : Str → Option Value} {dp un : Nat} {gd : Option (List Code)} {cn : Str} {cs : Scope} {a : Addr} {ccd : Value} {outer : List Env} {A₀ : Around} {base h₀ : Heap} {L : Addr} {m : Str → Option Value}
    {rest news : List (Addr × Obj)} {s : Shared} {Q E : Value → Shared → Prop}
    {c dC t src ah : Addr} {x : Str} {tx : Tok} {kC : Nat → Int × Tok} {hb : Bool} {at_ : Int} {ta : Tok} {tk : Tk × Int}
theorem is_op_spec 
    (B : Below A₀ base outer h₀) (F : Fr h₀ L s.heap m) (X : (hd.heap_39 w.params).In h₀) (N : News h₀ L s.heap news) (T : Top hd.view_39 Lz mean mg mb h₀) (hk : cs.kind = .function)
    (hd : dp + 3 < recursionLimit) (hu : un + 40 < cLine)
    (hD : (dC, curObj kC src ah hb t at_ ta) ∈ news) (hC : (c, instObj 220 dC) ∈ news) (hT : TokAt rest t tk) (hsub : ∀ p ∈ rest, p ∈ news)
    (ret : ∀ h' tk', Fr h₀ L h' m → News h₀ L h' news → Q (.bool (tk.1.isOp x)) { s with heap := h', toks := tk' }) :
    wpAny (model PySem.Challenge.rw_sj0031_01.row.prog w) (ktrTop dp un gd cn cs L a ccd [] outer) (call (.ref 167) [.ref c, .str x tx]) Q E s := by
  obtain ⟨dT, kT, kk, v, tat, h1, h2, h3⟩ := hT.mono hsub
  obtain ⟨tk, tat'⟩ := tk
  by_cases hop : ∃ y, tk = .op y
  · obtain ⟨y, rfl⟩ := hop
    dsimp only [Tk.kind, Tk.val, Tk.isOp] at *
    cases h3
    refine wpAny_call ?_
    k_dflt ktr_enter
    k_steps
    exact ret _ _ (by assumption) (by assumption)
  · have e1 : tk.isOp x = false := by cases tk <;> first | rfl | exact absurd ⟨_, rfl⟩ hop
    have e2 : (tk.kind == ("op" : Str)) = false := by cases tk <;> first | (simp only [Tk.kind]; decide +kernel) | exact absurd ⟨_, rfl⟩ hop
    rw [e1] at ret
    dsimp only at *
    clear h3 e1 hop
    generalize tk.kind = kn at *
    refine wpAny_call ?_
    k_dflt ktr_enter
    k_steps
    rw [e2]
    exact ret _ _ (by assumption) (by assumption)
theorem is_key_spec 
    (B : Below A₀ base outer h₀) (F : Fr h₀ L s.heap m) (X : (hd.heap_39 w.params).In h₀) (N : News h₀ L s.heap news) (T : Top hd.view_39 Lz mean mg mb h₀) (hk : cs.kind = .function)
    (hd : dp + 3 < recursionLimit) (hu : un + 40 < cLine)
    (hD : (dC, curObj kC src ah hb t at_ ta) ∈ news) (hC : (c, instObj 220 dC) ∈ news) (hT : TokAt rest t tk) (hsub : ∀ p ∈ rest, p ∈ news)
    (ret : ∀ h' tk', Fr h₀ L h' m → News h₀ L h' news → Q (.bool (tk.1.isKey x)) { s with heap := h', toks := tk' }) :
    wpAny (model PySem.Challenge.rw_sj0031_01.row.prog w) (ktrTop dp un gd cn cs L a ccd [] outer) (call (.ref 174) [.ref c, .str x tx]) Q E s := by
  obtain ⟨dT, kT, kk, v, tat, h1, h2, h3⟩ := hT.mono hsub
  obtain ⟨tk, tat'⟩ := tk
  by_cases hop : ∃ y, tk = .key y
  · obtain ⟨y, rfl⟩ := hop
    dsimp only [Tk.kind, Tk.val, Tk.isKey] at *
    cases h3
    refine wpAny_call ?_
    k_dflt ktr_enter
    k_steps
    exact ret _ _ (by assumption) (by assumption)
  · have e1 : tk.isKey x = false := by cases tk <;> first | rfl | exact absurd ⟨_, rfl⟩ hop
    have e2 : (tk.kind == ("key" : Str)) = false := by cases tk <;> first | (simp only [Tk.kind]; decide +kernel) | exact absurd ⟨_, rfl⟩ hop
    rw [e1] at ret
    dsimp only at *
    clear h3 e1 hop
    generalize tk.kind = kn at *
    refine wpAny_call ?_
    k_dflt ktr_enter
    k_steps
    rw [e2]
    exact ret _ _ (by assumption) (by assumption)
end
end
section
theorem rstS3 : True := by
  w_top off
  trivial
set_option maxHeartbeats 4000000
theorem my_item {prog w A E s} {value slice : PySem.Expr} {l : Addr} {items : Array Value} {k : Int} {u : Tok} {v : Value} {Q : Value → Shared → Prop}
    (hl : s.heap.IsList l items) (h0 : 0 ≤ k) (hhi : k < 2 ^ 63) (hx : items[k.toNat]? = some v) (h : Q v s)
    (hs : subscripted slice false (.ref l) (.int k u) = operate [.ref l, .int k u] (getItem (.ref l) (.int k u)) := by with_unfolding_all rfl) :
    wpAny (model prog w) A (subscriptTail value slice (.ref l) (.int k u)) Q E s :=
  tail_any hl.typeIs slot_list_getitem.lookup (wpAny_getItem_list hl h0 hhi hx h) hs
local macro_rules | `(tactic| walk_at "call builtin:len") => `(tactic| (k_here; (with_reducible show wpAny _ _ (call (Value.builtin "len") [Value.ref _]) _ _ _); k_dflt (refine' PyProof.Rows.len_list (News.isList (by k_asm) (by k_mem)) ?k1 ?_; (case k1 => (simp only [List.size_toArray, List.length_map] at *; omega)); k_whole); (try simp only [List.size_toArray, List.length_map, List.length_nil])))
local macro_rules | `(tactic| walk_at "subscriptTail") => `(tactic| (k_here; (with_reducible show wpAny _ _ (subscriptTail _ _ (Value.ref _) (Value.int _ _)) _ _ _); k_dflt (refine my_item (News.isList (by k_asm) (by k_mem)) (by omega) (by omega) (by assumption) ?_ (by with_unfolding_all rfl); k_whole)))
section
variable {w : World} {mean : ExcName → Option Value} {mg mb : Str → Option Value} {dp un : Nat} {gd : Option (List Code)} {cn : Str} {cs : Scope} {a : Addr} {ccd : Value} {outer : List Env} {A₀ : Around} {base h₀ : Heap} {L : Addr} {m : Str → Option Value}
    {rest : List (Addr × Obj)} {s : Shared} {Q E : Value → Shared → Prop}
    {src dR lT x : Addr} {kR : Nat → Int × Tok} {p : Nat} {tp : Tok} {pb : Bool} {refs : List Addr} {n : Nat}
theorem next_some
    (B : Below A₀ base outer h₀) (F : Fr h₀ L s.heap m) (X : (hd.heap_39 w.params).In h₀) (N : News h₀ L s.heap ((dR, rowObj kR lT p tp pb) :: rest)) (T : Top hd.view_39 Lz mean mg mb h₀) (hk : cs.kind = .function)
    (hd : dp + 6 < recursionLimit) (hu : un + 60 < cLine)
    (hS : (src, instObj 120 dR) ∈ rest) (hL : (lT, listOf (refs.map Value.ref).toArray n) ∈ rest) (hsm : refs.length < 1000) (hp : p < refs.length) (hx : (refs.map Value.ref).toArray[(p : Int).toNat]? = some (.ref x)) (hoff : ∀ q ∈ rest, q.1 ≠ dR)
    (ret : ∀ h' tk' tp', Fr h₀ L h' m → News h₀ L h' ((dR, rowObj kR lT ((p + 1 : Nat) : Int) tp' pb) :: rest) → Q (.ref x) { s with heap := h', toks := tk' }) :
    wpAny (model PySem.Challenge.rw_sj0031_01.row.prog w) (ktrTop dp un gd cn cs L a ccd [] outer) (call (.ref 117) [.ref src]) Q E s := by
  refine wpAny_call ?_
  k_dflt ktr_enter
  k_steps
  exact ret _ _ _ (by assumption) (by assumption)
theorem tok_new {news : List (Addr × Obj)} {kind : Str} {kk ta : Tok} {v : Value} {i : Int}
    (B : Below A₀ base outer h₀) (F : Fr h₀ L s.heap m) (X : (hd.heap_39 w.params).In h₀) (N : News h₀ L s.heap news) (T : Top hd.view_39 Lz mean mg mb h₀) (hk : cs.kind = .function)
    (hd : dp + 3 < recursionLimit) (hu : un + 40 < cLine)
    (ret : ∀ h' tk' x d k, Fr h₀ L h' m → News h₀ L h' ((x, instObj 92 d) :: (d, tokObj k kind kk v i ta) :: news) → (∀ q ∈ news, q.1 < d) → d < x → Q (.ref x) { s with heap := h', toks := tk' }) :
    wpAny (model PySem.Challenge.rw_sj0031_01.row.prog w) (ktrTop dp un gd cn cs L a ccd [] outer) (call (.ref 92) [.str kind kk, v, .int i ta]) Q E s := by
  refine call_cls F X N (by k_is) (by k_is) (by k_is) ?_
  intro x' d' h' F' N' l1 l2
  have l3 : ∀ p ∈ news, p.1 ≠ d' := fun p hp => Nat.ne_of_lt (l1 p hp)
  have l4 : d' ≠ x' := Nat.ne_of_lt l2
  k_enter
  k_steps
  exact ret _ _ _ _ (kOf3 (_, _) (_, _) (_, _)) (by assumption) (by assumption) l1 l2
local macro_rules | `(tactic| walk_at "call ref") => `(tactic| (k_here; (with_reducible refine Mine.cg 92 ?_); k_dflt (apply tok_new; walk_at "std"; walk_at "kw")))
theorem next_eof
    (B : Below A₀ base outer h₀) (F : Fr h₀ L s.heap m) (X : (hd.heap_39 w.params).In h₀) (N : News h₀ L s.heap ((dR, rowObj kR lT p tp pb) :: rest)) (T : Top hd.view_39 Lz mean mg mb h₀) (hk : cs.kind = .function)
    (hd : dp + 6 < recursionLimit) (hu : un + 60 < cLine)
    (hS : (src, instObj 120 dR) ∈ rest) (hL : (lT, listOf (refs.map Value.ref).toArray n) ∈ rest) (hsm : refs.length < 1000) (hp : refs.length ≤ p)
    (ret : ∀ h' tk' x d k kk tv ta, Fr h₀ L h' m → News h₀ L h' ((x, instObj 92 d) :: (d, tokObj k "eof" kk (.str "" tv) (-1) ta) :: (dR, rowObj kR lT p tp pb) :: rest) → (∀ q ∈ (dR, rowObj kR lT p tp pb) :: rest, q.1 < d) → d < x → Q (.ref x) { s with heap := h', toks := tk' }) :
    wpAny (model PySem.Challenge.rw_sj0031_01.row.prog w) (ktrTop dp un gd cn cs L a ccd [] outer) (call (.ref 117) [.ref src]) Q E s := by
  refine wpAny_call ?_
  k_dflt ktr_enter
  k_steps
  exact ret _ _ _ _ _ _ _ _ (by assumption) (by assumption) (by assumption) (by assumption)
end
end
section
set_option maxHeartbeats 4000000
theorem News.sub {h₀ h : Heap} {L : Addr} {l l' : List (Addr × Obj)} (N : News h₀ L h l) (hs : ∀ p ∈ l', p ∈ l) : News h₀ L h l' := fun p hp => N p (hs p hp)
/-- what is newly made lies above all that stood -/
noncomputable def Newer (dC dR : Addr) (tl rest : List (Addr × Obj)) : Prop := ∀ q ∈ tl, @LT.lt Nat _ dC q.1 ∧ @LT.lt Nat _ dR q.1 ∧ ∀ q' ∈ rest, @LT.lt Nat _ q'.1 q.1
section
variable {w : World} {mean : ExcName → Option Value} {mg mb : Str → Option Value} {dp un : Nat} {gd : Option (List Code)} {cn : Str} {cs : Scope} {a : Addr} {ccd : Value} {outer : List Env} {A₀ : Around} {base h₀ : Heap} {L : Addr} {m : Str → Option Value}
    {rest : List (Addr × Obj)} {s : Shared} {Q E : Value → Shared → Prop}
    {dC src dR lT : Addr} {kR : Nat → Int × Tok} {p : Nat} {tp : Tok} {pb : Bool} {refs : List Addr} {toks : List (Tk × Int)} {oC : Obj}
theorem next_spec
    (B : Below A₀ base outer h₀) (F : Fr h₀ L s.heap m) (X : (hd.heap_39 w.params).In h₀) (N : News h₀ L s.heap ((dC, oC) :: (dR, rowObj kR lT p tp pb) :: rest)) (T : Top hd.view_39 Lz mean mg mb h₀) (hk : cs.kind = .function)
    (hd : dp + 6 < recursionLimit) (hu : un + 60 < cLine)
    (hS : (src, instObj 120 dR) ∈ rest) (hL : ∃ n, (lT, listOf (refs.map Value.ref).toArray n) ∈ rest) (all : ToksAt rest refs toks) (hsm : toks.length < 1000) (hp : p ≤ toks.length) (hoff : ∀ q ∈ rest, q.1 ≠ dC ∧ q.1 ≠ dR) (hne : dC ≠ dR)
    (ret : ∀ h' tk' x p' tp' tl, Fr h₀ L h' m → News h₀ L h' ((dC, oC) :: (dR, rowObj kR lT ((p' : Nat) : Int) tp' pb) :: (tl ++ rest)) → TokAt (tl ++ rest) x (hdT (toks.drop p)) → toks.drop p' = (toks.drop p).tail → p' ≤ toks.length → Newer dC dR tl rest → Q (.ref x) { s with heap := h', toks := tk' }) :
    wpAny (model PySem.Challenge.rw_sj0031_01.row.prog w) (ktrTop dp un gd cn cs L a ccd [] outer) (call (.ref 117) [.ref src]) Q E s := by
  obtain ⟨n, hL⟩ := hL
  have hlen := all.length
  have N1 : News h₀ L s.heap ((dR, rowObj kR lT p tp pb) :: (dC, oC) :: rest) := News.sub N (fun q hq => by
    rcases List.mem_cons.mp hq with rfl | hq
    · exact .tail _ (.head _)
    · rcases List.mem_cons.mp hq with rfl | hq
      · exact .head _
      · exact .tail _ (.tail _ hq))
  have hoff1 : ∀ q ∈ (dC, oC) :: rest, q.1 ≠ dR := fun q hq => by
    rcases List.mem_cons.mp hq with rfl | hq
    · exact hne
    · exact (hoff q hq).2
  by_cases hlt : p < toks.length
  · obtain ⟨x, hx, hxt⟩ := all.get (List.getElem?_eq_getElem hlt)
    refine next_some B F X N1 T hk hd hu (.tail _ hS) (.tail _ hL) (by omega) (by omega) (x := x) ?_ hoff1 ?_
    · simp [hx]
    · intro h' tk' tp' F' N'
      refine ret h' tk' x (p + 1) tp' [] F' (News.sub N' fun q hq => ?_) ?_ ?_ (by omega) (fun _ h => nomatch h)
      · rcases List.mem_cons.mp hq with rfl | hq
        · exact .tail _ (.head _)
        · rcases List.mem_cons.mp hq with rfl | hq
          · exact .head _
          · exact .tail _ (.tail _ hq)
      · have : hdT (toks.drop p) = toks[p] := by simp [hdT, List.headD_eq_head?_getD, List.head?_drop, hlt]
        rw [this]
        exact hxt
      · rw [List.tail_drop]
  · have he : toks.drop p = [] := List.drop_eq_nil_of_le (by omega)
    refine next_eof B F X N1 T hk hd hu (.tail _ hS) (.tail _ hL) (by omega) (by omega) ?_
    intro h' tk' x d k kk tv ta F' N' hfr hdx
    refine ret h' tk' x p tp [(x, instObj 92 d), (d, tokObj k "eof" kk (.str "" tv) (-1) ta)] F' (News.sub N' fun q hq => ?_) ?_ ?_ hp ?_
    · rcases List.mem_cons.mp hq with rfl | hq
      · exact .tail _ (.tail _ (.tail _ (.head _)))
      · rcases List.mem_cons.mp hq with rfl | hq
        · exact .tail _ (.tail _ (.head _))
        · rcases List.mem_cons.mp hq with rfl | hq
          · exact .head _
          · rcases List.mem_cons.mp hq with rfl | hq
            · exact .tail _ (.head _)
            · exact .tail _ (.tail _ (.tail _ (.tail _ hq)))
    · rw [he]
      exact ⟨d, k, kk, _, ta, .head _, .tail _ (.head _), .str _ _⟩
    · rw [he]; rfl
    · have a1 : ∀ q' ∈ (dR, rowObj kR lT p tp pb) :: (dC, oC) :: rest, @LT.lt Nat _ q'.1 d := hfr
      have b1 := a1 _ (.head _)
      have b2 := a1 _ (.tail _ (.head _))
      have b3 : @LT.lt Nat _ d x := hdx
      intro q hq
      rcases List.mem_cons.mp hq with rfl | hq
      · exact ⟨Nat.lt_trans b2 b3, Nat.lt_trans b1 b3, fun q' h' => Nat.lt_trans (a1 q' (.tail _ (.tail _ h'))) b3⟩
      · obtain rfl := List.mem_singleton.mp hq
        exact ⟨b2, b1, fun q' h' => a1 q' (.tail _ (.tail _ h'))⟩
end
end
section
theorem rstS5 : True := by
  w_top off
  trivial
set_option maxHeartbeats 4000000
theorem TokAt.two {led : List (Addr × Obj)} {x : Addr} {t : Tk × Int} (h : TokAt led x t) :
    (∃ y d k kk tv ta, t.1 = .op y ∧ (x, instObj 92 d) ∈ led ∧ (d, tokObj k "op" kk (.str y tv) t.2 ta) ∈ led) ∨
    (∃ d k kn kk v ta, (kn == ("op" : Str)) = false ∧ (∀ y, t.1.isOp y = false) ∧ (x, instObj 92 d) ∈ led ∧ (d, tokObj k kn kk v t.2 ta) ∈ led) := by
  obtain ⟨d, k, kk, v, ta, h1, h2, h3⟩ := h
  obtain ⟨tk, i⟩ := t
  cases tk with
  | op y =>
    cases h3
    exact .inl ⟨y, d, k, kk, _, ta, rfl, h1, h2⟩
  | _ =>
    refine .inr ⟨d, k, _, kk, v, ta, ?_, fun _ => rfl, h1, h2⟩
    simp only [Tk.kind]
    decide +kernel
theorem newer_offC {dC dR : Addr} {tl rest : List (Addr × Obj)} (h : Newer dC dR tl rest) (ho : ∀ q ∈ rest, q.1 ≠ dC ∧ q.1 ≠ dR) : ∀ q ∈ tl ++ rest, q.1 ≠ dC := fun q hq => by
  rcases List.mem_append.mp hq with hq | hq
  · exact Ne.symm (Nat.ne_of_lt (h q hq).1)
  · exact (ho q hq).1
theorem newer_offR {dC dR : Addr} {tl rest : List (Addr × Obj)} (h : Newer dC dR tl rest) (ho : ∀ q ∈ rest, q.1 ≠ dC ∧ q.1 ≠ dR) : ∀ q ∈ tl ++ rest, q.1 ≠ dR := fun q hq => by
  rcases List.mem_append.mp hq with hq | hq
  · exact Ne.symm (Nat.ne_of_lt (h q hq).2.1)
  · exact (ho q hq).2
local macro_rules | `(tactic| walk_at "call ref") => `(tactic| (walk_at "cr"; (with_reducible refine Mine.cg 117 ?_); k_dflt (apply next_spec; walk_at "std"; (case hS | hL | all | hsm | hp | hoff | hne => assumption); walk_at "kn"; rename_i tok' fut' ple' new'; (try k_sweep); (have nd1 := newer_offC new' (by assumption)); (have nd2 := newer_offR new' (by assumption)); rcases TokAt.two tok' with ⟨y', d', kt', kk', tv', ta', e1', m1', m2'⟩ | ⟨d', kt', kn', kk', v', ta', e1', e2', m1', m2'⟩)))
noncomputable abbrev curObj3 (k : Nat → Int × Tok) (src ah : Addr) (hb : Bool) : Obj :=
  dictOf [ent k 0 "source" (.ref src), ent k 1 "ahead" (.ref ah), ent k 2 "hashed" (.bool hb)] 3
section
variable {w : World} {mean : ExcName → Option Value} {mg mb : Str → Option Value} {dp un : Nat} {gd : Option (List Code)} {cn : Str} {cs : Scope} {a : Addr} {ccd : Value} {outer : List Env} {A₀ : Around} {base h₀ : Heap} {L : Addr} {m : Str → Option Value}
    {rest : List (Addr × Obj)} {s : Shared} {Q E : Value → Shared → Prop}
    {c ah t dC src dR lT : Addr} {kC kR : Nat → Int × Tok} {p : Nat} {tp ta : Tok} {pb hb : Bool} {at_ : Int} {refs : List Addr} {toks : List (Tk × Int)}
theorem fetch_spec
    (B : Below A₀ base outer h₀) (F : Fr h₀ L s.heap m) (X : (hd.heap_39 w.params).In h₀) (N : News h₀ L s.heap ((dC, curObj kC src ah hb t at_ ta) :: (dR, rowObj kR lT p tp pb) :: rest)) (T : Top hd.view_39 Lz mean mg mb h₀) (hk : cs.kind = .function)
    (hd : dp + 9 < recursionLimit) (hu : un + 80 < cLine) (hC : (c, instObj 220 dC) ∈ rest)
    (hS : (src, instObj 120 dR) ∈ rest) (hL : ∃ n, (lT, listOf (refs.map Value.ref).toArray n) ∈ rest) (all : ToksAt rest refs toks) (hsm : toks.length < 1000) (hp : p ≤ toks.length) (hoff : ∀ q ∈ rest, q.1 ≠ dC ∧ q.1 ≠ dR) (hne : dC ≠ dR)
    (ret : ∀ h' tk' x hb' p' tp' pb' tl, Fr h₀ L h' m → News h₀ L h' ((dC, curObj kC src ah hb' t at_ ta) :: (dR, rowObj kR lT ((p' : Nat) : Int) tp' pb') :: (tl ++ rest)) → TokAt (tl ++ rest) x (hdT (toks.drop p)) → toks.drop p' = (toks.drop p).tail → p' ≤ toks.length → Newer dC dR tl rest → Q (.ref x) { s with heap := h', toks := tk' }) :
    wpAny (model PySem.Challenge.rw_sj0031_01.row.prog w) (ktrTop dp un gd cn cs L a ccd [] outer) (call (.ref 145) [.ref c]) Q E s := by
  have hoff1 : ∀ q ∈ rest, q.1 ≠ dC := fun q hq => (hoff q hq).1
  have hoff2 : ∀ q ∈ rest, q.1 ≠ dR := fun q hq => (hoff q hq).2
  refine wpAny_call ?_
  k_dflt ktr_enter
  k_steps
  all_goals exact ret _ _ _ _ _ _ _ _ (by assumption) (by assumption) (by assumption) (by assumption) (by assumption) (by assumption)
theorem fetch_init
    (B : Below A₀ base outer h₀) (F : Fr h₀ L s.heap m) (X : (hd.heap_39 w.params).In h₀) (N : News h₀ L s.heap ((dC, curObj3 kC src ah hb) :: (dR, rowObj kR lT p tp pb) :: rest)) (T : Top hd.view_39 Lz mean mg mb h₀) (hk : cs.kind = .function)
    (hd : dp + 9 < recursionLimit) (hu : un + 80 < cLine) (hC : (c, instObj 220 dC) ∈ rest)
    (hS : (src, instObj 120 dR) ∈ rest) (hL : ∃ n, (lT, listOf (refs.map Value.ref).toArray n) ∈ rest) (all : ToksAt rest refs toks) (hsm : toks.length < 1000) (hp : p ≤ toks.length) (hoff : ∀ q ∈ rest, q.1 ≠ dC ∧ q.1 ≠ dR) (hne : dC ≠ dR)
    (ret : ∀ h' tk' x hb' p' tp' pb' tl, Fr h₀ L h' m → News h₀ L h' ((dC, curObj3 kC src ah hb') :: (dR, rowObj kR lT ((p' : Nat) : Int) tp' pb') :: (tl ++ rest)) → TokAt (tl ++ rest) x (hdT (toks.drop p)) → toks.drop p' = (toks.drop p).tail → p' ≤ toks.length → Newer dC dR tl rest → Q (.ref x) { s with heap := h', toks := tk' }) :
    wpAny (model PySem.Challenge.rw_sj0031_01.row.prog w) (ktrTop dp un gd cn cs L a ccd [] outer) (call (.ref 145) [.ref c]) Q E s := by
  have hoff1 : ∀ q ∈ rest, q.1 ≠ dC := fun q hq => (hoff q hq).1
  have hoff2 : ∀ q ∈ rest, q.1 ≠ dR := fun q hq => (hoff q hq).2
  refine wpAny_call ?_
  k_dflt ktr_enter
  k_steps
  all_goals exact ret _ _ _ _ _ _ _ _ (by assumption) (by assumption) (by assumption) (by assumption) (by assumption) (by assumption)
end
end
section
local macro_rules | `(tactic| walk_at "pad") => `(tactic| fail "pad")
theorem rstS6 : True := by
  w_top off
  trivial
set_option maxHeartbeats 4000000
theorem PSt.step {dC dR c src ah lT : Addr} {kR : Nat → Int × Tok} {toks ts : List (Tk × Int)} {refs : List Addr} {rest tl : List (Addr × Obj)} {t x : Addr} {p p' : Nat} (P : PSt dC dR c src ah lT kR toks refs rest t p ts)
    (h1 : TokAt (tl ++ rest) x (hdT (toks.drop p))) (h2 : toks.drop p' = (toks.drop p).tail) (h3 : p' ≤ toks.length) (h4 : Newer dC dR tl rest) : PSt dC dR c src ah lT kR toks refs (tl ++ rest) x p' ts.tail := by
  have sub : ∀ q ∈ rest, q ∈ tl ++ rest := fun q hq => List.mem_append_right _ hq
  refine ⟨sub _ P.cur, sub _ P.srcM, P.ahead.imp fun _ h => sub _ h, P.lst.imp fun _ h => sub _ h, P.all.mono sub, by rw [← P.fut]; exact h1, by rw [h2, P.fut], h3, fun q hq => ⟨newer_offC h4 P.off q hq, newer_offR h4 P.off q hq⟩, P.ne, P.small⟩
local macro_rules | `(tactic| walk_at "call ref") => `(tactic| (walk_at "cr"; (with_reducible refine Mine.cg 145 ?_); k_dflt (apply fetch_spec; walk_at "std"; (case hC | hS | hL | all | hsm | hp | hoff | hne => assumption); walk_at "kn"; rename_i tok' fut' ple' new'; (try k_sweep); (have nd1 := newer_offC new' (by assumption)); (have nd2 := newer_offR new' (by assumption)); (have tok2' := tok'); obtain ⟨d', kt', kk', v', ta', m1', m2', m3'⟩ := tok2')))
section
variable {w : World} {mean : ExcName → Option Value} {mg mb : Str → Option Value} {dp un : Nat} {gd : Option (List Code)} {cn : Str} {cs : Scope} {a : Addr} {ccd : Value} {outer : List Env} {A₀ : Around} {base h₀ : Heap} {L : Addr} {m : Str → Option Value}
    {rest : List (Addr × Obj)} {s : Shared} {Q E : Value → Shared → Prop}
    {c ah t dC src dR lT : Addr} {kC kR : Nat → Int × Tok} {p : Nat} {tp ta : Tok} {pb hb : Bool} {refs : List Addr} {toks ts : List (Tk × Int)}
theorem take_spec
    (B : Below A₀ base outer h₀) (F : Fr h₀ L s.heap m) (X : (hd.heap_39 w.params).In h₀) (N : News h₀ L s.heap ((dC, curObj kC src ah hb t (hdT ts).2 ta) :: (dR, rowObj kR lT p tp pb) :: rest)) (T : Top hd.view_39 Lz mean mg mb h₀) (hk : cs.kind = .function)
    (hd : dp + 12 < recursionLimit) (hu : un + 100 < cLine) (P : PSt dC dR c src ah lT kR toks refs rest t p ts)
    (ret : ∀ h' tk' t' hb' ta' p' tp' pb' tl, Fr h₀ L h' m → News h₀ L h' ((dC, curObj kC src ah hb' t' (hdT ts.tail).2 ta') :: (dR, rowObj kR lT ((p' : Nat) : Int) tp' pb') :: (tl ++ rest)) → PSt dC dR c src ah lT kR toks refs (tl ++ rest) t' p' ts.tail → Newer dC dR tl rest → Q (.ref t) { s with heap := h', toks := tk' }) :
    wpAny (model PySem.Challenge.rw_sj0031_01.row.prog w) (ktrTop dp un gd cn cs L a ccd [] outer) (call (.ref 160) [.ref c]) Q E s := by
  have P0 := P
  obtain ⟨p1, p2, ⟨na, p3⟩, p4, p5, p6, p7, p8, p9, p10, p11⟩ := P0
  have hoff1 : ∀ q ∈ rest, q.1 ≠ dC := fun q hq => (p9 q hq).1
  have hoff2 : ∀ q ∈ rest, q.1 ≠ dR := fun q hq => (p9 q hq).2
  have e7 : (hdT ts.tail).2 = (hdT (toks.drop p)).2 := by rw [p7]
  rw [e7] at ret
  refine wpAny_call ?_
  k_dflt ktr_enter
  k_steps
  exact ret _ _ _ _ _ _ _ _ _ (by assumption) (by assumption) (P.step (by assumption) (by assumption) (by assumption) (by assumption)) (by assumption)
end
end
section
section
variable {prog : Program} {w : World} {A : Around} {E : Value → Shared → Prop} {s : Shared} {env : Env} {h₀ : Heap} {x : Str} {body : List Stmt} {Q : Flow → Shared → Prop}
set_option maxHeartbeats 3200000 in
/-- a for over a tuple of the ledger, by an invariant over the turn's number, the frame's map and the ledger -/
theorem tup_iter {l : Addr} {vs : List Value} {nn : Nat} {m₀ : Str → Option Value} {news : List (Addr × Obj)} (J : Nat → (Str → Option Value) → List (Addr × Obj) → Prop)
    (hh : A.handled = none) (hl : (l, ({ cls := .type "tuple", data := .seq vs.toArray nn } : Obj)) ∈ news) (F : Fr h₀ env.locals s.heap m₀) (N : News h₀ env.locals s.heap news) (hj : J 0 m₀ news)
    (turn : ∀ i v m₁ news₁ h tk own, vs[i]? = some v → OwnOff own (news₁.map (·.1)) → (l, ({ cls := .type "tuple", data := .seq vs.toArray nn } : Obj)) ∈ news₁ → J i m₁ news₁ → Fr h₀ env.locals h (fun y => if y = x then some v else m₁ y) → News h₀ env.locals h (news₁ ++ own) →
      wpAny (model prog w) A (execs body env) (InvPostG h₀ env.locals (fun m' nx => (l, ({ cls := .type "tuple", data := .seq vs.toArray nn } : Obj)) ∈ nx ∧ J (i + 1) m' nx) own { s with heap := h, toks := tk } Q) E { s with heap := h, toks := tk })
    (done : ∀ m₁ news₁ h tk, J vs.length m₁ news₁ → Fr h₀ env.locals h m₁ → News h₀ env.locals h news₁ → Q .next { s with heap := h, toks := tk }) :
    wpAny (model prog w) A (pyIter (.ref l)) (fun it s₂ => LoopAtV prog w A h₀ env x body Q E it s₂) E s := by
  have hol := (N _ hl).1
  have hls : s.heap.IsTuple l vs.toArray := ⟨_, hol, rfl, nn, rfl⟩
  have hne : l ≠ s.heap.objs.size := Nat.ne_of_lt (Heap.lt_size hol)
  refine wpAny_pyIter_tuple hls ?_
  have W := Walks.tuple (prog := prog) (w := w) hh s.heap.objs.size l hne vs.toArray
  have hlen : vs.toArray.size = vs.length := by simp
  rw [hlen] at W
  refine ⟨_, _, _, vs.length, _, _, m₀, news, (fun i m nx => (l, ({ cls := .type "tuple", data := .seq vs.toArray nn } : Obj)) ∈ nx ∧ J i m nx), rfl, W, ?_, ?_, ?_, ⟨⟨_, Heap.get?_push_size _ rfl, rfl, rfl⟩, hls.at fun o e => Heap.get?_push_of_some _ e⟩, F.push _, (fun p hp => ⟨Heap.get?_push_of_some _ (N p hp).1, (N p hp).2⟩), ⟨hl, hj⟩, ?_, ?_⟩
  · intro hm
    rcases List.mem_cons.mp hm with e | hm
    · exact absurd F.ns.lt (e ▸ Nat.lt_irrefl _)
    · exact (N _ hl).2.1 ((List.mem_singleton.mp hm).symm)
  · intro b hb
    rw [List.mem_singleton.mp hb]
    exact next_is_new F
  · intro p hp hI
    exact absurd (Heap.lt_size (N p hp).1) ((List.mem_singleton.mp hI) ▸ Nat.lt_irrefl _)
  · rintro i v m₁ news₁ s₁ own ⟨hh', tk', rfl⟩ hin hP ⟨hl₁, hJ⟩ hoff hown hget hfp hst F₁ N₁
    have hP' : vs[i]? = some v := by simpa using hP
    have hI0 : h₀.get? s.heap.objs.size = none := next_is_new F
    obtain ⟨⟨oI, hoI, _⟩, _⟩ := id hst
    have hIown : (s.heap.objs.size, oI) ∈ own.filter fun p => decide (p.1 = s.heap.objs.size) := List.mem_filter.mpr ⟨hfp _ (List.mem_cons.mpr (.inl rfl)) hI0 _ hoI, by simp⟩
    have hsep : OwnOff (own.filter fun p => decide (p.1 = s.heap.objs.size)) (news₁.map (·.1)) := by
      intro p hp b hb e
      obtain ⟨q, hq, rfl⟩ := List.mem_map.mp hb
      have h1 : p.1 = s.heap.objs.size := by simpa using (List.mem_filter.mp hp).2
      exact hoff q hq (List.mem_singleton.mpr (e ▸ h1))
    have N₂ : News h₀ env.locals hh' (news₁ ++ own.filter fun p => decide (p.1 = s.heap.objs.size)) := fun p hp => N₁ p ((List.mem_append.mp hp).elim (fun h => List.mem_append.mpr (.inr h)) fun h => List.mem_append.mpr (.inl ((List.mem_filter.mp h).1)))
    have hlo : hh'.get? l = some _ := (N₁ _ (List.mem_append.mpr (.inr hl₁))).1
    refine wpAny_mono (turn i v m₁ news₁ hh' tk' _ hP' hsep hl₁ hJ F₁ N₂) (fun f s₂ p => ?_) fun _ _ e => e
    have fin : InvEndG h₀ env.locals (fun m' nx => (l, ({ cls := .type "tuple", data := .seq vs.toArray nn } : Obj)) ∈ nx ∧ J (i + 1) m' nx) (own.filter fun p => decide (p.1 = s.heap.objs.size)) { s with heap := hh', toks := tk' } s₂ →
        LoopStepU h₀ env.locals [s.heap.objs.size] own (fun m nx => (l, ({ cls := .type "tuple", data := .seq vs.toArray nn } : Obj)) ∈ nx ∧ J (i + 1) m nx) { s with heap := hh', toks := tk' } .next s₂ := by
      rintro ⟨h', tk, m', news', nx, e, F', N', hn, ho, ha, hm⟩
      refine ⟨rfl, h', tk, m', nx, e, F', fun p hp => ?_, fun p hp hq => ?_, hm⟩
      · rcases List.mem_append.mp hp with h | h
        · by_cases hI : p.1 = s.heap.objs.size
          · exact N' p (ho p (List.mem_filter.mpr ⟨h, by simpa using hI⟩))
          · have h1 : p.1 = l := by
              rcases List.mem_cons.mp (hown p h) with h2 | h2
              · exact absurd h2 hI
              · exact List.mem_singleton.mp h2
            have h2 : hh'.get? p.1 = some p.2 := hget p h
            rw [h1, hlo] at h2
            have h3 : p = (l, _) := Prod.ext h1 (Option.some.inj h2).symm
            rw [h3]
            exact N' _ (hn _ hm.1)
        · exact N' p (hn p h)
      · exact ha _ hIown p.1 (List.mem_map.mpr ⟨p, hp, rfl⟩) (List.mem_singleton.mp hq).symm
    cases f with
    | ret v => exact .ret p
    | brk => exact .brk p
    | next => exact .next (fin p)
    | cont => exact .cont (fin p)
  · rintro h' tk m' news' F' N' _ ⟨_, hJ⟩
    exact done m' news' h' tk hJ F' N'
end
end
section
section
variable {prog : Program} {w : World} {A : Around} {E : Value → Shared → Prop} {s : Shared} {env : Env} {h₀ : Heap} {x : Str} {body : List Stmt} {Q : Flow → Shared → Prop}
/-- the end of a turn over a pair -/
noncomputable def PairEnd (h₀ : Heap) (L : Addr) (x : Str) (m₀ : Str → Option Value) (led : List (Addr × Obj)) (G : Prop) (s s₂ : Shared) : Prop :=
  G ∧ ∃ h' tk u, s₂ = { s with heap := h', toks := tk } ∧ Fr h₀ L h' (fun z => if z = x then u else m₀ z) ∧ News h₀ L h' led
noncomputable def PairPost (h₀ : Heap) (L : Addr) (x : Str) (m₀ : Str → Option Value) (led : List (Addr × Obj)) (G : Prop) (s : Shared) (Q : Flow → Shared → Prop) (f : Flow) (s₂ : Shared) : Prop :=
  match f with
  | .ret v => Q (.ret v) s₂
  | .brk => False
  | _ => PairEnd h₀ L x m₀ led G s s₂
theorem pair_iter {l : Addr} {a b : Str} {ta tb : Tok} {nn : Nat} {m₀ : Str → Option Value} {news : List (Addr × Obj)} (G : Str → Prop)
    (hh : A.handled = none) (hl : (l, ({ cls := .type "tuple", data := .seq [Value.str a ta, Value.str b tb].toArray nn } : Obj)) ∈ news) (F : Fr h₀ env.locals s.heap m₀) (N : News h₀ env.locals s.heap news)
    (turn : ∀ y t h tk own, y = a ∨ y = b → OwnOff own (news.map (·.1)) → Fr h₀ env.locals h (fun z => if z = x then some (.str y t) else m₀ z) → News h₀ env.locals h (news ++ own) →
      wpAny (model prog w) A (execs body env) (PairPost h₀ env.locals x m₀ (news ++ own) (G y) { s with heap := h, toks := tk } Q) E { s with heap := h, toks := tk })
    (done : ∀ u h tk, G a → G b → Fr h₀ env.locals h (fun z => if z = x then u else m₀ z) → News h₀ env.locals h news → Q .next { s with heap := h, toks := tk }) :
    wpAny (model prog w) A (pyIter (.ref l)) (fun it s₂ => LoopAtV prog w A h₀ env x body Q E it s₂) E s := by
  have mEq : ∀ {m₁ : Str → Option Value} {u : Option Value}, (∀ z, z ≠ x → m₁ z = m₀ z) → (fun z => if z = x then u else m₁ z) = fun z => if z = x then u else m₀ z := fun h => funext fun z => by
    by_cases e : z = x
    · simp only [e, if_true]
    · simp only [e, if_false, h z e]
  refine tup_iter (fun i m nx => nx = news ∧ (∀ z, z ≠ x → m z = m₀ z) ∧ (1 ≤ i → G a) ∧ (2 ≤ i → G b)) hh hl F N ⟨rfl, fun _ _ => rfl, fun h => absurd h (by decide), fun h => absurd h (by decide)⟩ ?_ ?_
  · rintro i v m₁ news₁ h tk own hv hoff hl₁ ⟨rfl, hm, g1, g2⟩ F₁ N₁
    have hv' : ∃ y t, v = .str y t ∧ (y = a ∨ y = b) ∧ (G y → (1 ≤ i + 1 → G a) ∧ (2 ≤ i + 1 → G b)) := by
      match i, hv with
      | 0, hv => exact ⟨a, ta, (Option.some.inj hv).symm, .inl rfl, fun g => ⟨fun _ => g, fun h => absurd h (by decide)⟩⟩
      | 1, hv => exact ⟨b, tb, (Option.some.inj hv).symm, .inr rfl, fun g => ⟨fun _ => g1 (Nat.le_refl _), fun _ => g⟩⟩
      | n + 2, hv => exact absurd hv (by simp)
    obtain ⟨y, t, rfl, hy, hg⟩ := hv'
    rw [mEq hm] at F₁
    refine wpAny_mono (turn y t h tk own hy hoff F₁ N₁) (fun f s₂ p => ?_) fun _ _ e => e
    have fin : PairEnd h₀ env.locals x m₀ (news₁ ++ own) (G y) { s with heap := h, toks := tk } s₂ →
        InvEndG h₀ env.locals (fun m' nx => (l, ({ cls := .type "tuple", data := .seq [Value.str a ta, Value.str b tb].toArray nn } : Obj)) ∈ nx ∧ nx = news₁ ∧ (∀ z, z ≠ x → m' z = m₀ z) ∧ (1 ≤ i + 1 → G a) ∧ (2 ≤ i + 1 → G b)) own { s with heap := h, toks := tk } s₂ := by
      rintro ⟨g, h', tk', u, rfl, F', N'⟩
      exact InvEndG.intro F' N' ⟨hl₁, rfl, fun z hz => if_neg hz, hg g⟩ hoff (fun p hp => List.mem_append_left _ hp) (fun p hp => List.mem_append_right _ hp)
    cases f with
    | ret v => exact p
    | brk => exact p.elim
    | next => exact fin p
    | cont => exact fin p
  · rintro m₁ news₁ h tk ⟨rfl, hm, g1, g2⟩ F₁ N₁
    refine done (m₁ x) h tk (g1 (Nat.le_add_left 1 1)) (g2 (Nat.le_refl 2)) ?_ N₁
    rw [← mEq hm]
    have e : (fun z => if z = x then m₁ x else m₁ z) = m₁ := funext fun z => by
      by_cases e : z = x
      · simp only [e, if_true]
      · simp only [e, if_false]
    rw [e]
    exact F₁
end
end
section
section
variable {prog : Program} {w : World} {A₀ A : Around} {E : Value → Shared → Prop} {s : Shared} {env eW : Env} {base g : Heap} {x : Str} {body : List Stmt} {Q : Flow → Shared → Prop} {Lw : Addr}
/-- the end of a turn over two truths, the ground of which may have turned -/
noncomputable def BoolEnd (g : Heap) (Lw L : Addr) (m₀ : Str → Option Value) (S : List Str) (led : List (Addr × Obj)) (s s₂ : Shared) : Prop :=
  ∃ h' tk g' m', s₂ = { s with heap := h', toks := tk } ∧ KtsTurn [Lw] g g' ∧ Fr g' L h' m' ∧ (∀ z, S.contains z = false → m' z = m₀ z) ∧ News g' L h' led
noncomputable def BoolPost (g : Heap) (Lw L : Addr) (m₀ : Str → Option Value) (S : List Str) (led : List (Addr × Obj)) (s : Shared) (Q : Flow → Shared → Prop) (f : Flow) (s₂ : Shared) : Prop :=
  match f with
  | .ret v => Q (.ret v) s₂
  | .brk => False
  | _ => BoolEnd g Lw L m₀ S led s s₂
theorem bool_iter {l : Addr} {b1 b2 : Bool} {nn : Nat} {m₀ : Str → Option Value} {news : List (Addr × Obj)} {oW : Obj} {S : List Str}
    (hh : A.handled = none) (hl : (l, ({ cls := .type "tuple", data := .seq [Value.bool b1, Value.bool b2].toArray nn } : Obj)) ∈ news) (F : Fr g env.locals s.heap m₀) (N : News g env.locals s.heap news)
    (hoW : g.get? Lw = some oW) (hx : S.contains x = true)
    (turn : ∀ b (m₁ : Str → Option Value) (g' h : Heap) tk own, b = b1 ∨ b = b2 → KtsTurn [Lw] g g' → (∀ z, S.contains z = false → m₁ z = m₀ z) → OwnOff own (news.map (·.1)) → Fr g' env.locals h (fun z => if z = x then some (.bool b) else m₁ z) → News g' env.locals h (news ++ own) →
      wpAny (model prog w) A (execs body env) (BoolPost g Lw env.locals m₀ S (news ++ own) { s with heap := h, toks := tk } Q) E { s with heap := h, toks := tk })
    (done : ∀ (g' h : Heap) tk (m' : Str → Option Value), KtsTurn [Lw] g g' → (∀ z, S.contains z = false → m' z = m₀ z) → Fr g' env.locals h m' → News g' env.locals h news → Q .next { s with heap := h, toks := tk }) :
    wpAny (model prog w) A (pyIter (.ref l)) (fun it s₂ => LoopAtV prog w A (hideAll g [Lw]) env x body Q E it s₂) E s := by
  have hLw : Lw ∈ [Lw] := .head _
  have wne : Lw ≠ env.locals := fun e => absurd (Nat.lt_of_lt_of_le (Heap.lt_size hoW) F.above) (e ▸ Nat.lt_irrefl _)
  have gnone : ∀ {b : Addr}, g.get? b = none → (hideAll g [Lw]).get? b = none := fun {b} e => by
    cases q : (hideAll g [Lw]).get? b with
    | none => rfl
    | some o => rw [of_hideAll _ q] at e; cases e
  have gnone' : ∀ {b : Addr}, (hideAll g [Lw]).get? b = none → b ≠ Lw → g.get? b = none := fun {b} e hb => by
    cases q : g.get? b with
    | none => rfl
    | some o => rw [hideAll_get [Lw] q (by simpa using hb)] at e; cases e
  -- from a turned ground to the hidden one
  have down : ∀ {g' h' : Heap} {m' : Str → Option Value} {led : List (Addr × Obj)}, KtsTurn [Lw] g g' → Fr g' env.locals h' m' → News g' env.locals h' led →
      Fr (hideAll g [Lw]) env.locals h' m' ∧ ∃ sl, News (hideAll g [Lw]) env.locals h' ((Lw, { oW with slots := sl }) :: led) := fun {g' h' m' led} T F' N' => by
    refine ⟨⟨F'.ns, fun b o e => ?_, by rw [hideAll_size, ← T.size]; exact F'.above⟩, ?_⟩
    · have hb : b ∉ [Lw] := fun hm => by rw [hideAll_none [Lw] hm] at e; cases e
      exact F'.keep _ _ (T.other _ _ (of_hideAll _ e) hb)
    · obtain ⟨sl, hs⟩ := T.frame _ _ hoW hLw
      refine ⟨sl, fun p hp => ?_⟩
      rcases List.mem_cons.mp hp with rfl | hp
      · exact ⟨F'.keep _ _ hs, wne, hideAll_none [Lw] hLw⟩
      · refine ⟨(N' p hp).1, (N' p hp).2.1, gnone ?_⟩
        cases q : g.get? p.1 with
        | none => rfl
        | some o =>
          obtain ⟨sl', hs'⟩ := T.up q
          have := (N' p hp).2.2
          rw [hs'] at this; cases this
  -- and up again
  have up : ∀ {h' : Heap} {m' : Str → Option Value} {led : List (Addr × Obj)} {sl : Array (Option Value)}, Fr (hideAll g [Lw]) env.locals h' m' → News (hideAll g [Lw]) env.locals h' ((Lw, { oW with slots := sl }) :: led) → (∀ p ∈ led, p.1 ≠ Lw) →
      ∃ g', KtsTurn [Lw] g g' ∧ Fr g' env.locals h' m' ∧ News g' env.locals h' led := fun {h' m' led sl} F' N' hne => by
    obtain ⟨T, S⟩ := kts_turn_at (h := h') (fs := [Lw]) (g := g) (fun b hb => by rw [List.mem_singleton.mp hb]; exact ⟨_, hoW⟩) (fun b o e nm => F'.keep _ _ (hideAll_get [Lw] e nm))
      (fun b o e hm => by
        rw [List.mem_singleton.mp hm] at e ⊢
        rw [hoW] at e
        cases e
        exact ⟨sl, (N' _ (.head _)).1⟩)
    refine ⟨_, T, ⟨F'.ns, S, by rw [T.size]; have := F'.above; rwa [hideAll_size] at this⟩, fun p hp => ⟨(N' p (.tail _ hp)).1, (N' p (.tail _ hp)).2.1, T.none_ _ (gnone' (N' p (.tail _ hp)).2.2 (hne p hp))⟩⟩
  have newsne : ∀ p ∈ news, p.1 ≠ Lw := fun p hp e => by
    have := (N p hp).2.2
    rw [e, hoW] at this
    cases this
  obtain ⟨F0, sl0, N0⟩ := down KtsTurn.refl F N
  refine tup_iter (fun _ m nx => (∃ sl, nx = (Lw, { oW with slots := sl }) :: news) ∧ ∀ z, S.contains z = false → m z = m₀ z) hh (.tail _ hl) F0 N0 ⟨⟨sl0, rfl⟩, fun _ _ => rfl⟩ ?_ ?_
  · rintro i v m₁ news₁ h tk own hv hoff hl₁ ⟨⟨sl, rfl⟩, hm⟩ F₁ N₁
    have hv' : ∃ b, v = .bool b ∧ (b = b1 ∨ b = b2) := by
      match i, hv with
      | 0, hv => exact ⟨b1, (Option.some.inj hv).symm, .inl rfl⟩
      | 1, hv => exact ⟨b2, (Option.some.inj hv).symm, .inr rfl⟩
      | n + 2, hv => exact absurd hv (by simp)
    obtain ⟨b, rfl, hb⟩ := hv'
    have ownne : ∀ p ∈ own, p.1 ≠ Lw := fun p hp => hoff p hp Lw (.head _)
    obtain ⟨g', T', F', N'⟩ := up F₁ N₁ fun p hp => (List.mem_append.mp hp).elim (newsne p) (ownne p)
    refine wpAny_mono (turn b m₁ g' h tk own hb T' hm (fun p hp b hb => hoff p hp b (.tail _ hb)) F' N') (fun f s₂ p => ?_) fun _ _ e => e
    have fin : BoolEnd g Lw env.locals m₀ S (news ++ own) { s with heap := h, toks := tk } s₂ →
        InvEndG (hideAll g [Lw]) env.locals (fun m' nx => (l, ({ cls := .type "tuple", data := .seq [Value.bool b1, Value.bool b2].toArray nn } : Obj)) ∈ nx ∧ (∃ sl, nx = (Lw, { oW with slots := sl }) :: news) ∧ ∀ z, S.contains z = false → m' z = m₀ z) own { s with heap := h, toks := tk } s₂ := by
      rintro ⟨h', tk', g'', m', rfl, T2, F2, hm2, N2⟩
      obtain ⟨F3, sl3, N3⟩ := down T2 F2 N2
      refine InvEndG.intro (nx := (Lw, { oW with slots := sl3 }) :: news) F3 N3 ⟨.tail _ hl, ⟨sl3, rfl⟩, hm2⟩ hoff (fun p hp => ?_) (fun p hp => .tail _ (List.mem_append_right _ hp))
      rcases List.mem_cons.mp hp with rfl | hp
      · exact .head _
      · exact .tail _ (List.mem_append_left _ hp)
    cases f with
    | ret v => exact p
    | brk => exact p.elim
    | next => exact fin p
    | cont => exact fin p
  · rintro m₁ news₁ h tk ⟨⟨sl, rfl⟩, hm⟩ F₁ N₁
    obtain ⟨g', T', F', N'⟩ := up F₁ N₁ newsne
    exact done g' h tk m₁ T' hm F' N'
end
end
section
section
variable {prog : Program} {w : World} {A : Around} {E : Value → Shared → Prop} {s : Shared} {env : Env} {h₀ : Heap} {x : Str} {body : List Stmt} {Q : Flow → Shared → Prop} {σ : Type}
/-- the map of a loop's frame -/
noncomputable abbrev stM (x : Str) (v : Option Value) (stored : List Str) (u m₀ : Str → Option Value) (ps : List (Str × Value)) : Str → Option Value := fun y => if y = x then v else kstB (fun z => if stored.contains z then u z else m₀ z) ps y
/-- the end of a turn of a loop with a state -/
noncomputable def StEnd (h₀ : Heap) (L : Addr) (x : Str) (Led : σ → List (Addr × Obj)) (ps : σ → List (Str × Value)) (stored : List Str) (m₀ : Str → Option Value) (J : σ → Prop) (own : List (Addr × Obj)) (s s₂ : Shared) : Prop :=
  ∃ c' h' tk m' news', s₂ = { s with heap := h', toks := tk } ∧ Fr h₀ L h' m' ∧ News h₀ L h' news' ∧ (∀ p ∈ Led c', p ∈ news') ∧ (∀ p ∈ own, p ∈ news') ∧ OwnOff own ((Led c').map (·.1)) ∧
    (∀ q ∈ ps c', m' q.1 = some q.2) ∧ (∀ z, z ≠ x → stored.contains z = false → (∀ q ∈ ps c', z ≠ q.1) → m' z = m₀ z) ∧ J c'
noncomputable def StPost (h₀ : Heap) (L : Addr) (x : Str) (Led : σ → List (Addr × Obj)) (ps : σ → List (Str × Value)) (stored : List Str) (m₀ : Str → Option Value) (J : σ → Prop) (own : List (Addr × Obj)) (s : Shared) (Q : Flow → Shared → Prop) (f : Flow) (s₂ : Shared) : Prop :=
  match f with
  | .ret v => Q (.ret v) s₂
  | .brk => Q .next s₂
  | _ => StEnd h₀ L x Led ps stored m₀ J own s s₂
/-- what holds of the frame between the turns -/
noncomputable def StJ (x : Str) (Led : σ → List (Addr × Obj)) (ps : σ → List (Str × Value)) (stored : List Str) (m₀ : Str → Option Value) (J : σ → Prop) (m : Str → Option Value) (nx : List (Addr × Obj)) : Prop :=
  ∃ c, nx = Led c ∧ (∀ q ∈ ps c, m q.1 = some q.2) ∧ (∀ z, z ≠ x → stored.contains z = false → (∀ q ∈ ps c, z ≠ q.1) → m z = m₀ z) ∧ J c
theorem stM_eq {ps : List (Str × Value)} {stored : List Str} {m₀ m : Str → Option Value} (v : Option Value)
    (h1 : ∀ q ∈ ps, m q.1 = some q.2) (h2 : ∀ z, z ≠ x → stored.contains z = false → (∀ q ∈ ps, z ≠ q.1) → m z = m₀ z) :
    (fun y => if y = x then v else m y) = stM x v stored m m₀ ps := by
  funext y
  show _ = if y = x then v else _
  by_cases e : y = x
  · rw [if_pos e, if_pos e]
  · rw [if_neg e, if_neg e]
    refine (kstB_eq (m₁ := m) (fun q hq => h1 q hq) (fun h3 => ?_)).symm
    show (if stored.contains y then m y else m₀ y) = m y
    cases hs : stored.contains y with
    | true => rfl
    | false => exact (h2 y e hs h3).symm
theorem StJ.fin {L : Addr} {Led : σ → List (Addr × Obj)} {ps : σ → List (Str × Value)} {stored : List Str} {m₀ : Str → Option Value} {J : σ → Prop} {own : List (Addr × Obj)} {s₁ s₂ : Shared}
    (h : StEnd h₀ L x Led ps stored m₀ J own s₁ s₂) : InvEndG h₀ L (StJ x Led ps stored m₀ J) own s₁ s₂ := by
  obtain ⟨c', h', tk, m', news', rfl, F, N, h1, h2, h3, h4, h5, h6⟩ := h
  exact InvEndG.intro F N ⟨c', rfl, h4, h5, h6⟩ h3 h1 h2
theorem StJ.post {L : Addr} {Led : σ → List (Addr × Obj)} {ps : σ → List (Str × Value)} {stored : List Str} {m₀ : Str → Option Value} {J : σ → Prop} {own : List (Addr × Obj)} {s₁ s₂ : Shared} {f : Flow}
    (h : StPost h₀ L x Led ps stored m₀ J own s₁ Q f s₂) : InvPostG h₀ L (StJ x Led ps stored m₀ J) own s₁ Q f s₂ := by
  cases f with
  | ret v => exact h
  | brk => exact h
  | next => exact StJ.fin h
  | cont => exact StJ.fin h
/-- a for over range(n) with a state -/
theorem st_range {r : Addr} {t₀ u₀ v₀ : Tok} {n : Nat} {b : Int} {m₀ : Str → Option Value} (Led : σ → List (Addr × Obj)) (ps : σ → List (Str × Value)) (stored : List Str) (J : Nat → σ → Prop) (c₀ : σ)
    (hh : A.handled = none) (hr : IsRange s.heap r 0 b 1 t₀ u₀ v₀) (hb : b = (n : Int)) (hsmall : n < 100000) (F : Fr h₀ env.locals s.heap m₀) (N : News h₀ env.locals s.heap (Led c₀)) (hk : ∀ q ∈ ps c₀, m₀ q.1 = some q.2) (hj : J 0 c₀)
    (turn : ∀ (c : σ) (i : Nat) t (u : Str → Option Value) (h : Heap) tk own, i < n → J i c → OwnOff own ((Led c).map (·.1)) → Fr h₀ env.locals h (stM x (some (.int (i : Int) t)) stored u m₀ (ps c)) → News h₀ env.locals h (Led c ++ own) →
      wpAny (model prog w) A (execs body env) (StPost h₀ env.locals x Led ps stored m₀ (J (i + 1)) own { s with heap := h, toks := tk } Q) E { s with heap := h, toks := tk })
    (done : ∀ (c : σ) (u : Str → Option Value) v (h : Heap) tk, J n c → Fr h₀ env.locals h (stM x v stored u m₀ (ps c)) → News h₀ env.locals h (Led c) → Q .next { s with heap := h, toks := tk }) :
    wpAny (model prog w) A (pyIter (.ref r)) (fun it s₂ => LoopAtV prog w A h₀ env x body Q E it s₂) E s := by
  subst hb
  have hsz : Builtin.Range.rangeSize 0 (n : Int) 1 = (n : Int) := by simp [Builtin.Range.rangeSize]; omega
  refine wpAny_pyIter_range hr ?_ ?_
  · exact small_one (by omega) (by omega) (by omega) (by omega)
  have W : Walks prog w A s.heap.objs.size [s.heap.objs.size] [s.heap.objs.size] n (fun i v => i < n ∧ ∃ t, v = .int (0 + i * 1) t)
      (fun i h => IsRangeIter h s.heap.objs.size (0 + (i : Nat) * 1) ((n : Int) - (i : Nat)) 1) := (Walks.range hh _ 0 1 n).bound
  refine kdr_loop (fun i m nx => StJ x Led ps stored m₀ (J i) m nx) W (fun _ h => h) (fun _ h => h) ?_ ?_ ?_ ?_ (by show IsRangeIter _ _ _ _ _; rw [hsz]; simpa using Heap.get?_push_size _ rfl) (F.push _) (fun p hp => ⟨Heap.get?_push_of_some _ (N p hp).1, (N p hp).2⟩) ⟨c₀, rfl, hk, fun _ _ _ _ => rfl, hj⟩ ?_ ?_
  · intro i h hi b hb
    rw [List.mem_singleton.mp hb]
    exact ⟨_, hi⟩
  · intro hm
    exact absurd F.ns.lt ((List.mem_singleton.mp hm) ▸ Nat.lt_irrefl _)
  · intro b hb
    rw [List.mem_singleton.mp hb]
    exact next_is_new F
  · intro p hp hm
    exact absurd (Heap.lt_size (N p hp).1) ((List.mem_singleton.mp hm) ▸ Nat.lt_irrefl _)
  · rintro i v m₁ nx h tk own hi ⟨_, t, rfl⟩ hoff ⟨c, rfl, h1, h2, hJ⟩ F₁ N₁
    rw [stM_eq _ h1 h2] at F₁
    have e : (0 + (i : Int) * 1) = (i : Int) := by omega
    rw [e] at F₁
    exact wpAny_mono (turn c i t m₁ h tk own hi hJ hoff F₁ N₁) (fun f s₂ p => StJ.post p) fun _ _ e => e
  · rintro m₁ nx h tk ⟨c, rfl, h1, h2, hJ⟩ F₁ N₁
    have e := stM_eq (x := x) (m₁ x) h1 h2
    have e2 : (fun y => if y = x then m₁ x else m₁ y) = m₁ := funext fun y => by
      by_cases e : y = x
      · simp only [e, if_true]
      · simp only [e, if_false]
    exact done c m₁ (m₁ x) h tk hJ (by rw [← e, e2]; exact F₁) N₁
end
end
section
/-- the signs of a text, each a text -/
noncomputable def chars (x : Str) : List Str := (List.range x.length).map fun (k : Nat) => Txt.item x (k : Int)
noncomputable def isLev (y : Str) : Bool := [("0" : Str), "1", "x", "?", "b"].any fun x => x == y
noncomputable def isSym (y : Str) : Bool := !(Builtin.Str.occurrences ("01x?brfpn*" : Str) y 0 ("01x?brfpn*" : Str).length 1).isEmpty
noncomputable def edgeD (a b : Str) : Dat := .tuple [.str "edge", .str a, .str b]
noncomputable def symL : List Str → Option (List Dat)
  | [] => some []
  | y :: r => if y == "(" then (match r with
      | a :: b :: e :: r' => if e == ")" && isLev a && isLev b then (symL r').map (edgeD a b :: ·) else none
      | _ => none)
    else if isSym y then (symL r).map (.str y :: ·) else none
theorem chars_length (x : Str) : (chars x).length = x.length := by simp [chars]
theorem chars_drop {x : Str} {i : Nat} (h : i < x.length) : (chars x).drop i = Txt.item x (i : Int) :: (chars x).drop (i + 1) := by
  rw [List.drop_eq_getElem_cons (by rw [chars_length]; exact h)]
  simp [chars]
theorem chars_end {x : Str} {i : Nat} (h : x.length ≤ i) : (chars x).drop i = [] := List.drop_eq_nil_of_le (by rw [chars_length]; exact h)
theorem symL_par {y : Str} {r : List Str} (h : (y == ("(" : Str)) = true) : symL (y :: r) = (match r with
      | a :: b :: e :: r' => if e == ")" && isLev a && isLev b then (symL r').map (edgeD a b :: ·) else none
      | _ => none) := by
  rcases r with _ | ⟨a, _ | ⟨b, _ | ⟨e, r'⟩⟩⟩ <;> simp only [symL, h, if_true]
theorem symL_one {y : Str} {r : List Str} (h : (y == ("(" : Str)) = false) : symL (y :: r) = if isSym y then (symL r).map (.str y :: ·) else none := by
  rcases r with _ | ⟨a, _ | ⟨b, _ | ⟨e, r'⟩⟩⟩ <;> simp [symL, h]
section
variable {x : Str} {i : Nat}
theorem sym_short (h : (i : Int) < (x.length : Int)) (h1 : (Txt.item x (i : Int) == ("(" : Str)) = true) (h2 : (x.length : Int) ≤ (i : Int) + 3) : symL ((chars x).drop i) = none := by
  rw [chars_drop (by omega), symL_par h1]
  have h3 : ((chars x).drop (i + 1)).length ≤ 2 := by rw [List.length_drop, chars_length]; omega
  rcases hr : (chars x).drop (i + 1) with _ | ⟨a, _ | ⟨b, _ | ⟨e, r'⟩⟩⟩
  · rfl
  · rfl
  · rfl
  · rw [hr] at h3; simp at h3
theorem sym_edge (h : ¬ (x.length : Int) ≤ (i : Int) + 3) (h1 : (Txt.item x (i : Int) == ("(" : Str)) = true) :
    symL ((chars x).drop i) = if (Txt.item x ((i : Int) + 3) == (")" : Str)) && isLev (Txt.item x ((i : Int) + 1)) && isLev (Txt.item x ((i : Int) + 2)) then (symL ((chars x).drop (i + 4))).map (edgeD (Txt.item x ((i : Int) + 1)) (Txt.item x ((i : Int) + 2)) :: ·) else none := by
  rw [chars_drop (by omega : i < x.length), symL_par h1, chars_drop (by omega : i + 1 < x.length), chars_drop (by omega : i + 2 < x.length), chars_drop (by omega : i + 3 < x.length)]
  rfl
theorem sym_one (h : (i : Int) < (x.length : Int)) (h1 : (Txt.item x (i : Int) == ("(" : Str)) = false) :
    symL ((chars x).drop i) = if isSym (Txt.item x (i : Int)) then (symL ((chars x).drop (i + 1))).map (.str (Txt.item x (i : Int)) :: ·) else none := by
  rw [chars_drop (by omega : i < x.length), symL_one h1]
theorem sym_end (h : ¬ (i : Int) < (x.length : Int)) : symL ((chars x).drop i) = some [] := by
  rw [chars_end (by omega)]
  rfl
end
end
section
noncomputable abbrev Rd (α : Type) := Except (Str × Int) α
noncomputable def want (x : Str) (ts : List (Tk × Int)) : Rd (List (Tk × Int)) := if (hdT ts).1.isOp x then .ok ts.tail else .error ("unexpected_token", (hdT ts).2)
noncomputable def field (ts : List (Tk × Int)) : Rd (Str × List (Tk × Int)) := match cut "" ts with
  | (some x, r) => .ok (x, r)
  | (none, r) => .error ("bad_table", (hdT r).2)
noncomputable def levelF (al : List Str) (ts : List (Tk × Int)) : Rd (Str × List (Tk × Int)) := match field ts with
  | .ok (x, r) => if (al.any fun z => z == x) then .ok (x, r) else .error ("bad_table", (hdT r).2)
  | .error e => .error e
noncomputable def symF (ts : List (Tk × Int)) : Rd (List Dat × List (Tk × Int)) := match field ts with
  | .ok (x, r) => (match symL (chars x) with
    | some ds => .ok (ds, r)
    | none => .error ("bad_table", (hdT r).2))
  | .error e => .error e
noncomputable def thenR {α β : Type} (x : Rd α) (f : α → Rd β) : Rd β := match x with
  | .ok a => f a
  | .error e => .error e
noncomputable def stL : List Str := ["0", "1", "x", "?", "b"]
noncomputable def outL : List Str := ["0", "1", "x", "-"]
noncomputable def outF (d : Dat) (st : Dat) (ts : List (Tk × Int)) : Rd (Dat × List (Tk × Int)) :=
  thenR (levelF outL ts) fun q => thenR (want ";" q.2) fun r => .ok (.tuple [d, st, .str q.1], r)
noncomputable def stateF (d : Dat) (ts : List (Tk × Int)) : Rd (Dat × List (Tk × Int)) :=
  thenR (levelF stL ts) fun q => thenR (want ":" q.2) fun r => outF d (.str q.1) r
noncomputable def oneRow (held : Bool) (ts : List (Tk × Int)) : Rd (Dat × List (Tk × Int)) :=
  thenR (symF ts) fun q => thenR (want ":" q.2) fun r => if held then stateF (.tuple q.1) r else outF (.tuple q.1) .none r
noncomputable def rowsL (held : Bool) : Nat → List Dat → List (Tk × Int) → Rd (List Dat × List (Tk × Int))
  | 0, _, _ => .error ("", 0)
  | n + 1, acc, ts => if (hdT ts).1.isKey "endtable" then .ok (acc, ts.tail) else thenR (oneRow held ts) fun q => rowsL held n (acc ++ [q.1]) q.2
noncomputable def tableL (held : Bool) (ts : List (Tk × Int)) : Rd (List Dat × List (Tk × Int)) :=
  if (hdT ts).1.isKey "table" then
    thenR (rowsL held (ts.length + 1) [] ts.tail) fun q => if (hdT q.2).1.isKey "endprimitive" then .ok (q.1, q.2.tail) else .error ("unexpected_token", (hdT q.2).2)
  else .error ("unexpected_token", (hdT ts).2)
theorem cut_len : ∀ (ts : List (Tk × Int)) (x : Str), (cut x ts).2.length ≤ ts.length
  | [], _ => Nat.le_refl _
  | t :: ts, x => by
    unfold cut
    split
    · exact Nat.le_refl _
    · split
      · exact Nat.le_succ_of_le (cut_len ts _)
      · exact Nat.le_refl _
theorem cut_small : ∀ (ts : List (Tk × Int)) (x : Str), Small ts → Small (cut x ts).2
  | [], _, h => h
  | t :: ts, x, h => by
    unfold cut
    split
    · exact h
    · split
      · exact cut_small ts _ fun q hq => h q (.tail _ hq)
      · exact h
theorem cut_len' {ts ts' : List (Tk × Int)} {x : Str} {o : Option Str} (h : cut x ts = (o, ts')) : ts'.length ≤ ts.length := by
  have := cut_len ts x; rwa [h] at this
theorem cut_small' {ts ts' : List (Tk × Int)} {x : Str} {o : Option Str} (hs : Small ts) (h : cut x ts = (o, ts')) : Small ts' := by
  have := cut_small ts x hs; rwa [h] at this
theorem Small.tail {ts : List (Tk × Int)} (h : Small ts) : Small ts.tail := fun q hq => h q (List.mem_of_mem_tail hq)
theorem op_len {ts : List (Tk × Int)} {x : Str} (h : (hdT ts).1.isOp x = true) : ts.tail.length < ts.length := by
  cases ts with
  | nil => exact absurd h (by simp [hdT, Tk.isOp])
  | cons t ts => exact Nat.lt_succ_self _
theorem field_ok {ts r : List (Tk × Int)} {x : Str} (h : cut "" ts = (some x, r)) : field ts = .ok (x, r) := by rw [field, h]
theorem field_bad {ts r : List (Tk × Int)} (h : cut "" ts = (none, r)) : field ts = .error ("bad_table", (hdT r).2) := by rw [field, h]
theorem want_ok {ts : List (Tk × Int)} {x : Str} (h : (hdT ts).1.isOp x = true) : want x ts = .ok ts.tail := if_pos h
theorem want_bad {ts : List (Tk × Int)} {x : Str} (h : (hdT ts).1.isOp x = false) : want x ts = .error ("unexpected_token", (hdT ts).2) := if_neg (by rw [h]; decide)
theorem levelF_ok {ts r : List (Tk × Int)} {x : Str} {al : List Str} (h : cut "" ts = (some x, r)) (h2 : (al.any fun z => z == x) = true) : levelF al ts = .ok (x, r) := by rw [levelF, field_ok h]; exact if_pos h2
theorem levelF_no {ts r : List (Tk × Int)} {x : Str} {al : List Str} (h : cut "" ts = (some x, r)) (h2 : (al.any fun z => z == x) = false) : levelF al ts = .error ("bad_table", (hdT r).2) := by rw [levelF, field_ok h]; exact if_neg (by rw [h2]; decide)
theorem levelF_bad {ts r : List (Tk × Int)} {al : List Str} (h : cut "" ts = (none, r)) : levelF al ts = .error ("bad_table", (hdT r).2) := by rw [levelF, field_bad h]
theorem symF_ok {ts r : List (Tk × Int)} {x : Str} {ds : List Dat} (h : cut "" ts = (some x, r)) (h2 : symL (chars x) = some ds) : symF ts = .ok (ds, r) := by simp only [symF, field_ok h, h2]
theorem symF_no {ts r : List (Tk × Int)} {x : Str} (h : cut "" ts = (some x, r)) (h2 : symL (chars x) = none) : symF ts = .error ("bad_table", (hdT r).2) := by simp only [symF, field_ok h, h2]
theorem symF_bad {ts r : List (Tk × Int)} (h : cut "" ts = (none, r)) : symF ts = .error ("bad_table", (hdT r).2) := by rw [symF, field_bad h]
theorem thenR_ok {α β : Type} {x : Rd α} {a : α} {f : α → Rd β} (h : x = .ok a) : thenR x f = f a := by rw [h]; rfl
theorem thenR_err {α β : Type} {x : Rd α} {e : Str × Int} {f : α → Rd β} (h : x = .error e) : thenR x f = .error e := by rw [h]; rfl
/-- a token's lying is not moved by a list of another kind -/
theorem TokAt.drop {led led' : List (Addr × Obj)} {x : Addr} {t : Tk × Int} (h : TokAt led x t) (hs : ∀ p ∈ led, p ∈ led' ∨ p.2.cls = .type "list") : TokAt led' x t := by
  obtain ⟨d, k, kk, v, ta, h1, h2, h3⟩ := h
  refine ⟨d, k, kk, v, ta, (hs _ h1).resolve_right (fun h => by cases h), (hs _ h2).resolve_right (fun h => by revert h; simp [dictOf]), ?_⟩
  rcases t with ⟨t, at0⟩
  cases t with
  | num na nb nc nd =>
    obtain ⟨q, t1, t2, t3, n, rfl, ma⟩ := di_num h3
    exact .tuple (vs := [.str na t1, .str nb t2, .bool nc, .str nd t3]) ((hs _ ma).resolve_right (fun h => by revert h; simp)) (.cons (.str _ _) (.cons (.str _ _) (.cons (.bool _) (.cons (.str _ _) .nil))))
  | key => obtain ⟨_, rfl⟩ := di_str h3; exact .str _ _
  | str => obtain ⟨_, rfl⟩ := di_str h3; exact .str _ _
  | id => obtain ⟨_, rfl⟩ := di_str h3; exact .str _ _
  | op => obtain ⟨_, rfl⟩ := di_str h3; exact .str _ _
  | eof => obtain ⟨_, rfl⟩ := di_str h3; exact .str _ _
theorem ToksAt.drop {led led' : List (Addr × Obj)} {xs : List Addr} {ts : List (Tk × Int)} (h : ToksAt led xs ts) (hs : ∀ p ∈ led, p ∈ led' ∨ p.2.cls = .type "list") : ToksAt led' xs ts := by
  induction h with
  | nil => exact .nil
  | cons h _ ih => exact .cons (h.drop hs) ih
theorem PSt.swap {dC dR c src ah lT lR : Addr} {kR : Nat → Int × Tok} {toks ts : List (Tk × Int)} {refs : List Addr} {rest rest' : List (Addr × Obj)} {t : Addr} {p : Nat} (P : PSt dC dR c src ah lT kR toks refs rest t p ts)
    (hs : ∀ q ∈ rest, q ∈ rest' ∨ (q.1 = lR ∧ q.2.cls = .type "list")) (h1 : ah ≠ lR) (h2 : lT ≠ lR) (off : ∀ q ∈ rest', q.1 ≠ dC ∧ q.1 ≠ dR) : PSt dC dR c src ah lT kR toks refs rest' t p ts where
  cur := (hs _ P.cur).resolve_right fun h => by cases h.2
  srcM := (hs _ P.srcM).resolve_right fun h => by cases h.2
  ahead := by obtain ⟨n, h⟩ := P.ahead; exact ⟨n, (hs _ h).resolve_right fun h => h1 h.1⟩
  lst := by obtain ⟨n, h⟩ := P.lst; exact ⟨n, (hs _ h).resolve_right fun h => h2 h.1⟩
  all := P.all.drop fun q hq => (hs q hq).imp id (·.2)
  tok := P.tok.drop fun q hq => (hs q hq).imp id (·.2)
  fut := P.fut
  ple := P.ple
  off := off
  ne := P.ne
  small := P.small
end
section
/-- the words that the law's texts are cut into -/
noncomputable def vocab : List Str := ["1", "0", "01", "x", "B", "?", "rF", "N", "*", "**", "(", ")", "p", "k", "2", "begin", "1'b0", "quoted", "r", "-", "b", "X", "xx", "endtable", ":", ";", "table", "endprimitive"]
noncomputable def V (z : Str) : Bool := vocab.contains z
end
section
theorem AllLt.mem' {d : Nat} {l : List (Addr × Obj)} (h : AllLt d l) : ∀ q ∈ l, @LT.lt Nat _ q.1 d := by
  induction l with
  | nil => intro q hq; exact absurd hq List.not_mem_nil
  | cons p r ih =>
    intro q hq
    cases hq with
    | head => exact h.1
    | tail _ hq => exact ih h.2 q hq
theorem News.drop1 {h₀ h : Heap} {L : Addr} {x : Addr × Obj} {led : List (Addr × Obj)} (N : News h₀ L h (x :: led)) : News h₀ L h led := fun p hp => N p (.tail _ hp)
section
variable {prog : Program} {w : World} {A : Around} {E : Value → Shared → Prop} {s : Shared} {h₀ : Heap} {L : Addr} {led : List (Addr × Obj)} {Q : Value → Shared → Prop} {l lE : Addr} {vs : List Value} {ns : List Int} {nC nE : Nat}
theorem eq_nil (N : News h₀ L s.heap led) (m1 : (l, listOf vs.toArray nC) ∈ led) (m2 : (lE, listOf #[] nE) ∈ led) (hI : DatAll [] vs (ns.map Dat.int)) (hu : A.units + 64 < cLine)
    (h1 : ns = [] → Q (.bool true) s) (h2 : ns ≠ [] → Q (.bool false) s) : wpAny (model prog w) A (compareOp .Eq (.ref l) (.ref lE)) Q E s := by
  refine kqd_eq (es := []) (n₂ := []) N m1 rfl rfl hI (fun _ h => nomatch h) m2 rfl (ys := []) rfl .nil (fun _ h => nomatch h) (fun d hd => ?_) (fun _ h => nomatch h) hu ?_
  · obtain ⟨i, _, rfl⟩ := List.mem_map.mp hd
    rfl
  · by_cases e : ns = []
    · rw [decide_eq_true (by rw [e]; rfl)]; exact h1 e
    · rw [decide_eq_false (by simpa using e)]; exact h2 e
theorem pop0 {m : Str → Option Value} {D : Addr} {n : Nat} {u : Tok} {news' : List (Addr × Obj)} (F : Fr h₀ L s.heap m) (N : News h₀ L s.heap led) (hI : DatAll [] vs (ns.map Dat.int)) (hne : ns ≠ []) (hlen : vs.length ≤ 40)
    (U : Upd D (listOf vs.toArray n) (listOf vs.tail.toArray (n + 1)) led news')
    (h : ∀ h' i t, DatAll [] vs.tail (ns.tail.map Dat.int) → vs.tail.length ≤ 40 → Fr h₀ L h' m → News h₀ L h' news' → Q (.int i t) { s with heap := h' }) : wpAny (model prog w) A (call (.builtin "list.pop") [.ref D, .int 0 u]) Q E s := by
  cases ns with
  | nil => exact absurd rfl hne
  | cons i ns =>
    cases hI with
    | cons d r =>
      cases d with
      | int i t =>
        rename_i vs'
        refine kl_popAt (k := 0) (p := []) (q := vs') (y := .int i t) F N rfl ?_ (by simp [kl_cut]) U ?_ fun h' F' N' => h h' i t r (by simp only [List.tail_cons, List.length_cons] at hlen ⊢; omega) F' N'
        · simp [seqIndex?]
        · exact Nat.le_trans hlen (Nat.le_of_ble_eq_true rfl)
theorem item_str {value slice : PySem.Expr} {xs : List Str} {k : Int} {u : Tok} (N : News h₀ L s.heap led) (hm : (l, listOf vs.toArray nC) ∈ led) (hd : DatAll [] vs (xs.map Dat.str)) (h0 : 0 ≤ k) (h1 : k < (vs.length : Int)) (hfit : vs.length ≤ 1000)
    (hxl : ∀ x ∈ xs, x.length ≤ 100) (h : ∀ x t, x ∈ xs → x.length ≤ 100 → Q (.str x t) s) (hs : subscripted slice false (.ref l) (.int k u) = operate [.ref l, .int k u] (getItem (.ref l) (.int k u)) := by with_unfolding_all rfl) :
    wpAny (model prog w) A (subscriptTail value slice (.ref l) (.int k u)) Q E s := by
  have hl := hd.length
  refine kd_item N hm hd h0 (by omega) (by omega) (fun v d _ hd' hv => ?_) hs
  obtain ⟨x, hx, rfl⟩ := List.mem_map.mp hd'
  cases hv with
  | str _ t => exact h x t hx (hxl x hx)
theorem strs_dat {vs : List Value} {xs : List Str} (h : StrsAre vs xs) : DatAll [] vs (xs.map Dat.str) := by
  induction h with
  | nil => exact .nil
  | cons x t _ ih => exact .cons (.str x t) ih
theorem news_rotA {h : Heap} {z a b : Addr × Obj} {r : List (Addr × Obj)} (N : News h₀ L h (z :: a :: b :: r)) : News h₀ L h (a :: b :: z :: r) := fun q hq => N q (by
  simp only [List.mem_cons] at hq ⊢
  rcases hq with h | h | h | h <;> simp [h])
theorem news_rotB {h : Heap} {z y a b : Addr × Obj} {r : List (Addr × Obj)} (N : News h₀ L h (z :: y :: a :: b :: r)) : News h₀ L h (a :: b :: z :: y :: r) := fun q hq => N q (by
  simp only [List.mem_cons] at hq ⊢
  rcases hq with h | h | h | h | h <;> simp [h])
theorem news_rotC {h : Heap} {z y x a b : Addr × Obj} {r : List (Addr × Obj)} (N : News h₀ L h (z :: y :: x :: a :: b :: r)) : News h₀ L h (a :: b :: z :: y :: x :: r) := fun q hq => N q (by
  simp only [List.mem_cons] at hq ⊢
  rcases hq with h | h | h | h | h | h <;> simp [h])
theorem news_rotD {h : Heap} {z y x v a b : Addr × Obj} {r : List (Addr × Obj)} (N : News h₀ L h (z :: y :: x :: v :: a :: b :: r)) : News h₀ L h (a :: b :: z :: y :: x :: v :: r) := fun q hq => N q (by
  simp only [List.mem_cons] at hq ⊢
  rcases hq with h | h | h | h | h | h | h <;> simp [h])
theorem add_letters {m : Str → Option Value} {a b : Addr} {us ws : List Value} {n1 n2 : Nat} (F : Fr h₀ L s.heap m) (N : News h₀ L s.heap led) (m1 : (a, listOf us.toArray n1) ∈ led) (m2 : (b, listOf ws.toArray n2) ∈ led) (l1 : us.length ≤ 10000) (l2 : ws.length ≤ 10000)
    (h : ∀ D h', Fr h₀ L h' m → News h₀ L h' ((D, listOf (us ++ ws).toArray 0) :: led) → (∀ p ∈ led, p.1 < D) → Q (.ref D) { s with heap := h' }) : wpAny (model prog w) A (binaryOp .Add (.ref a) (.ref b)) Q E s :=
  kmk_add_lit F N ⟨_, (N _ m1).1, rfl, n1, rfl⟩ ⟨_, (N _ m2).1, rfl, n2, rfl⟩ rfl h (Nat.le_trans (Nat.add_le_add l1 l2) (Nat.le_of_ble_eq_true rfl))
theorem log_small {i : Int} (h0 : 0 < i) (h : i ≤ 1000) : i.natAbs.log2 < 9000 := Nat.lt_of_le_of_lt (Nat.log2_le_self _) (by omega)
end
end
end Mine
namespace Mine
local macro_rules | `(tactic| walk_at "call ref") => `(tactic| (walk_at "cr"; (with_reducible refine Mine.cg 167 ?_); k_dflt (apply is_op_spec; walk_at "std"; (case hD | hC => k_mem); (case hT => exact PSt.tok (by assumption)); (case hsub => exact fun _ h => List.mem_cons_of_mem _ (List.mem_cons_of_mem _ h)); walk_at "kw")))
local macro_rules | `(tactic| walk_at "call ref") => `(tactic| (walk_at "cr"; (with_reducible refine Mine.cg 174 ?_); k_dflt (apply is_key_spec; walk_at "std"; (case hD | hC => k_mem); (case hT => exact PSt.tok (by assumption)); (case hsub => exact fun _ h => List.mem_cons_of_mem _ (List.mem_cons_of_mem _ h)); walk_at "kw")))
local macro_rules | `(tactic| walk_at "call ref") => `(tactic| (walk_at "cr"; (with_reducible refine Mine.cg 160 ?_); k_dflt (apply take_spec; walk_at "std"; (case P => assumption); walk_at "kw")))
local macro_rules | `(tactic| walk_at "call ref") => `(tactic| (walk_at "cr"; (with_reducible refine Mine.cg 217 ?_); k_dflt ((first | apply fail_spec1 | apply fail_spec2); walk_at "std"; (case hD | hC => k_mem); walk_at "ke")))
local macro_rules | `(tactic| walk_at "leaving ref") => `(tactic| (k_here; (refine' leave_on_D ?k1 ?k2 ?k3 ?k4 ?_; (case k3 | k1 | k4 | k2 => assumption); k_whole; intro h' R' U')))
section
theorem rstS7 : True := by
  w_top off
  trivial
set_option maxHeartbeats 4000000
section
variable {w : World} {mean : ExcName → Option Value} {mg mb : Str → Option Value} {dp un : Nat} {gd : Option (List Code)} {cn : Str} {cs : Scope} {a : Addr} {ccd : Value} {outer : List Env} {A₀ : Around} {base h₀ : Heap} {L : Addr} {m : Str → Option Value}
    {rest : List (Addr × Obj)} {s : Shared} {Q E : Value → Shared → Prop}
    {c ah t dC src dR lT : Addr} {kC kR : Nat → Int × Tok} {p : Nat} {tp ta tx : Tok} {pb hb : Bool} {refs : List Addr} {toks ts : List (Tk × Int)} {x : Str}
theorem accept_op_yes
    (B : Below A₀ base outer h₀) (F : Fr h₀ L s.heap m) (X : (hd.heap_39 w.params).In h₀) (N : News h₀ L s.heap ((dC, curObj kC src ah hb t (hdT ts).2 ta) :: (dR, rowObj kR lT p tp pb) :: rest)) (T : Top hd.view_39 Lz mean mg mb h₀) (hk : cs.kind = .function)
    (hd : dp + 15 < recursionLimit) (hu : un + 120 < cLine) (P : PSt dC dR c src ah lT kR toks refs rest t p ts) (yes : (hdT ts).1.isOp x = true)
    (ret : ∀ h' tk' t' hb' ta' p' tp' pb' tl, Fr h₀ L h' m → News h₀ L h' ((dC, curObj kC src ah hb' t' (hdT ts.tail).2 ta') :: (dR, rowObj kR lT ((p' : Nat) : Int) tp' pb') :: (tl ++ rest)) → PSt dC dR c src ah lT kR toks refs (tl ++ rest) t' p' ts.tail → Newer dC dR tl rest → Q (.bool true) { s with heap := h', toks := tk' }) :
    wpAny (model PySem.Challenge.rw_sj0031_01.row.prog w) (ktrTop dp un gd cn cs L a ccd [] outer) (call (.ref 181) [.ref c, .str x tx]) Q E s := by
  have p1 := P.cur
  refine wpAny_call ?_
  k_dflt ktr_enter
  k_steps
  exact ret _ _ _ _ _ _ _ _ _ (by assumption) (by assumption) (by assumption) (by assumption)
theorem accept_op_no
    (B : Below A₀ base outer h₀) (F : Fr h₀ L s.heap m) (X : (hd.heap_39 w.params).In h₀) (N : News h₀ L s.heap ((dC, curObj kC src ah hb t (hdT ts).2 ta) :: (dR, rowObj kR lT p tp pb) :: rest)) (T : Top hd.view_39 Lz mean mg mb h₀) (hk : cs.kind = .function)
    (hd : dp + 15 < recursionLimit) (hu : un + 120 < cLine) (P : PSt dC dR c src ah lT kR toks refs rest t p ts) (no : (hdT ts).1.isOp x = false)
    (ret : ∀ h' tk', Fr h₀ L h' m → News h₀ L h' ((dC, curObj kC src ah hb t (hdT ts).2 ta) :: (dR, rowObj kR lT p tp pb) :: rest) → Q (.bool false) { s with heap := h', toks := tk' }) :
    wpAny (model PySem.Challenge.rw_sj0031_01.row.prog w) (ktrTop dp un gd cn cs L a ccd [] outer) (call (.ref 181) [.ref c, .str x tx]) Q E s := by
  have p1 := P.cur
  refine wpAny_call ?_
  k_dflt ktr_enter
  k_steps
  exact ret _ _ (by assumption) (by assumption)
theorem accept_key_yes
    (B : Below A₀ base outer h₀) (F : Fr h₀ L s.heap m) (X : (hd.heap_39 w.params).In h₀) (N : News h₀ L s.heap ((dC, curObj kC src ah hb t (hdT ts).2 ta) :: (dR, rowObj kR lT p tp pb) :: rest)) (T : Top hd.view_39 Lz mean mg mb h₀) (hk : cs.kind = .function)
    (hd : dp + 15 < recursionLimit) (hu : un + 120 < cLine) (P : PSt dC dR c src ah lT kR toks refs rest t p ts) (yes : (hdT ts).1.isKey x = true)
    (ret : ∀ h' tk' t' hb' ta' p' tp' pb' tl, Fr h₀ L h' m → News h₀ L h' ((dC, curObj kC src ah hb' t' (hdT ts.tail).2 ta') :: (dR, rowObj kR lT ((p' : Nat) : Int) tp' pb') :: (tl ++ rest)) → PSt dC dR c src ah lT kR toks refs (tl ++ rest) t' p' ts.tail → Newer dC dR tl rest → Q (.bool true) { s with heap := h', toks := tk' }) :
    wpAny (model PySem.Challenge.rw_sj0031_01.row.prog w) (ktrTop dp un gd cn cs L a ccd [] outer) (call (.ref 188) [.ref c, .str x tx]) Q E s := by
  have p1 := P.cur
  refine wpAny_call ?_
  k_dflt ktr_enter
  k_steps
  exact ret _ _ _ _ _ _ _ _ _ (by assumption) (by assumption) (by assumption) (by assumption)
theorem accept_key_no
    (B : Below A₀ base outer h₀) (F : Fr h₀ L s.heap m) (X : (hd.heap_39 w.params).In h₀) (N : News h₀ L s.heap ((dC, curObj kC src ah hb t (hdT ts).2 ta) :: (dR, rowObj kR lT p tp pb) :: rest)) (T : Top hd.view_39 Lz mean mg mb h₀) (hk : cs.kind = .function)
    (hd : dp + 15 < recursionLimit) (hu : un + 120 < cLine) (P : PSt dC dR c src ah lT kR toks refs rest t p ts) (no : (hdT ts).1.isKey x = false)
    (ret : ∀ h' tk', Fr h₀ L h' m → News h₀ L h' ((dC, curObj kC src ah hb t (hdT ts).2 ta) :: (dR, rowObj kR lT p tp pb) :: rest) → Q (.bool false) { s with heap := h', toks := tk' }) :
    wpAny (model PySem.Challenge.rw_sj0031_01.row.prog w) (ktrTop dp un gd cn cs L a ccd [] outer) (call (.ref 188) [.ref c, .str x tx]) Q E s := by
  have p1 := P.cur
  refine wpAny_call ?_
  k_dflt ktr_enter
  k_steps
  exact ret _ _ (by assumption) (by assumption)
end
end
local macro_rules | `(tactic| walk_at "call ref") => `(tactic| (walk_at "cr"; (with_reducible refine Mine.cg 181 ?_); first | k_dflt (apply accept_op_yes; walk_at "std"; (case P | yes => assumption); walk_at "kw") | k_dflt (apply accept_op_no; walk_at "std"; (case P | no => assumption); walk_at "kw")))
local macro_rules | `(tactic| walk_at "call ref") => `(tactic| (walk_at "cr"; (with_reducible refine Mine.cg 188 ?_); first | k_dflt (apply accept_key_yes; walk_at "std"; (case P | yes => assumption); walk_at "kw") | k_dflt (apply accept_key_no; walk_at "std"; (case P | no => assumption); walk_at "kw")))
section
theorem rstS8 : True := by
  w_top off
  trivial
set_option maxHeartbeats 4000000
section
variable {w : World} {mean : ExcName → Option Value} {mg mb : Str → Option Value} {dp un : Nat} {gd : Option (List Code)} {cn : Str} {cs : Scope} {a : Addr} {ccd : Value} {outer : List Env} {A₀ : Around} {base h₀ : Heap} {L : Addr} {m : Str → Option Value}
    {rest : List (Addr × Obj)} {s : Shared} {Q E : Value → Shared → Prop}
    {c ah t dC src dR lT : Addr} {kC kR : Nat → Int × Tok} {p : Nat} {tp ta tx : Tok} {pb hb : Bool} {refs : List Addr} {toks ts : List (Tk × Int)} {x : Str}
theorem exc_sub2 {q a b : Addr × Obj} {rest : List (Addr × Obj)} : ∀ p ∈ q :: rest, p ∈ q :: a :: b :: rest := fun p hp => by
  rcases List.mem_cons.mp hp with rfl | hp
  · exact .head _
  · exact .tail _ (.tail _ (.tail _ hp))
theorem expect_op_yes
    (B : Below A₀ base outer h₀) (F : Fr h₀ L s.heap m) (X : (hd.heap_39 w.params).In h₀) (N : News h₀ L s.heap ((dC, curObj kC src ah hb t (hdT ts).2 ta) :: (dR, rowObj kR lT p tp pb) :: rest)) (T : Top hd.view_39 Lz mean mg mb h₀) (hk : cs.kind = .function)
    (hd : dp + 18 < recursionLimit) (hu : un + 140 < cLine) (P : PSt dC dR c src ah lT kR toks refs rest t p ts) (yes : (hdT ts).1.isOp x = true)
    (ret : ∀ h' tk' t' hb' ta' p' tp' pb' tl, Fr h₀ L h' m → News h₀ L h' ((dC, curObj kC src ah hb' t' (hdT ts.tail).2 ta') :: (dR, rowObj kR lT ((p' : Nat) : Int) tp' pb') :: (tl ++ rest)) → PSt dC dR c src ah lT kR toks refs (tl ++ rest) t' p' ts.tail → Newer dC dR tl rest → Q .none { s with heap := h', toks := tk' }) :
    wpAny (model PySem.Challenge.rw_sj0031_01.row.prog w) (ktrTop dp un gd cn cs L a ccd [] outer) (call (.ref 195) [.ref c, .str x tx]) Q E s := by
  have p1 := P.cur
  refine wpAny_call ?_
  k_dflt ktr_enter
  k_steps
  exact ret _ _ _ _ _ _ _ _ _ (by assumption) (by assumption) (by assumption) (by assumption)
theorem expect_op_no
    (B : Below A₀ base outer h₀) (F : Fr h₀ L s.heap m) (X : (hd.heap_39 w.params).In h₀) (N : News h₀ L s.heap ((dC, curObj kC src ah hb t (hdT ts).2 ta) :: (dR, rowObj kR lT p tp pb) :: rest)) (T : Top hd.view_39 Lz mean mg mb h₀) (hk : cs.kind = .function)
    (hd : dp + 18 < recursionLimit) (hu : un + 140 < cLine) (P : PSt dC dR c src ah lT kR toks refs rest t p ts) (no : (hdT ts).1.isOp x = false)
    (exc : ExcTo base h₀ L m (envOf cn cs L a ccd) outer rest "unexpected_token" (hdT ts).2 s E) :
    wpAny (model PySem.Challenge.rw_sj0031_01.row.prog w) (ktrTop dp un gd cn cs L a ccd [] outer) (call (.ref 195) [.ref c, .str x tx]) Q E s := by
  have p1 := P.cur
  refine wpAny_call ?_
  k_dflt ktr_enter
  k_steps
  rename Fr h₀ L _ m => FG'
  exact exc _ _ _ _ _ _ _ _ _ _ FG' (Raised.sub (by assumption) (exc_sub2)) (by assumption)
theorem expect_key_yes
    (B : Below A₀ base outer h₀) (F : Fr h₀ L s.heap m) (X : (hd.heap_39 w.params).In h₀) (N : News h₀ L s.heap ((dC, curObj kC src ah hb t (hdT ts).2 ta) :: (dR, rowObj kR lT p tp pb) :: rest)) (T : Top hd.view_39 Lz mean mg mb h₀) (hk : cs.kind = .function)
    (hd : dp + 18 < recursionLimit) (hu : un + 140 < cLine) (P : PSt dC dR c src ah lT kR toks refs rest t p ts) (yes : (hdT ts).1.isKey x = true)
    (ret : ∀ h' tk' t' hb' ta' p' tp' pb' tl, Fr h₀ L h' m → News h₀ L h' ((dC, curObj kC src ah hb' t' (hdT ts.tail).2 ta') :: (dR, rowObj kR lT ((p' : Nat) : Int) tp' pb') :: (tl ++ rest)) → PSt dC dR c src ah lT kR toks refs (tl ++ rest) t' p' ts.tail → Newer dC dR tl rest → Q .none { s with heap := h', toks := tk' }) :
    wpAny (model PySem.Challenge.rw_sj0031_01.row.prog w) (ktrTop dp un gd cn cs L a ccd [] outer) (call (.ref 202) [.ref c, .str x tx]) Q E s := by
  have p1 := P.cur
  refine wpAny_call ?_
  k_dflt ktr_enter
  k_steps
  exact ret _ _ _ _ _ _ _ _ _ (by assumption) (by assumption) (by assumption) (by assumption)
theorem expect_key_no
    (B : Below A₀ base outer h₀) (F : Fr h₀ L s.heap m) (X : (hd.heap_39 w.params).In h₀) (N : News h₀ L s.heap ((dC, curObj kC src ah hb t (hdT ts).2 ta) :: (dR, rowObj kR lT p tp pb) :: rest)) (T : Top hd.view_39 Lz mean mg mb h₀) (hk : cs.kind = .function)
    (hd : dp + 18 < recursionLimit) (hu : un + 140 < cLine) (P : PSt dC dR c src ah lT kR toks refs rest t p ts) (no : (hdT ts).1.isKey x = false)
    (exc : ExcTo base h₀ L m (envOf cn cs L a ccd) outer rest "unexpected_token" (hdT ts).2 s E) :
    wpAny (model PySem.Challenge.rw_sj0031_01.row.prog w) (ktrTop dp un gd cn cs L a ccd [] outer) (call (.ref 202) [.ref c, .str x tx]) Q E s := by
  have p1 := P.cur
  refine wpAny_call ?_
  k_dflt ktr_enter
  k_steps
  rename Fr h₀ L _ m => FG'
  exact exc _ _ _ _ _ _ _ _ _ _ FG' (Raised.sub (by assumption) (exc_sub2)) (by assumption)
end
end
section
local macro_rules | `(tactic| walk_at "pad") => `(tactic| fail "pad")
theorem rstS9 : True := by
  w_top off
  trivial
set_option maxHeartbeats 4000000
structure FtS where
  x : Str
  tx : Tok
  ts : List (Tk × Int)
  t : Addr
  hb : Bool
  ta : Tok
  p : Nat
  tp : Tok
  pb : Bool
  tl : List (Addr × Obj)
noncomputable abbrev ftLed (dC dR src ah lT : Addr) (kC kR : Nat → Int × Tok) (rest : List (Addr × Obj)) (c' : FtS) : List (Addr × Obj) := (dC, curObj kC src ah c'.hb c'.t (hdT c'.ts).2 c'.ta) :: (dR, rowObj kR lT c'.p c'.tp c'.pb) :: (c'.tl ++ rest)
noncomputable abbrev ftPs (c' : FtS) : List (Str × Value) := [("text", .str c'.x c'.tx)]
noncomputable abbrev ftFacts (dC dR c src ah lT : Addr) (kR : Nat → Int × Tok) (toks : List (Tk × Int)) (refs : List Addr) (rest : List (Addr × Obj)) (c' : FtS) : Prop := PSt dC dR c src ah lT kR toks refs (c'.tl ++ rest) c'.t c'.p c'.ts ∧ Newer dC dR c'.tl rest
noncomputable abbrev ftP (res : Option Str × List (Tk × Int)) (c' : FtS) : Prop := cut c'.x c'.ts = res ∧ Small c'.ts ∧ c'.x.length + 300 * c'.ts.length ≤ 301000
theorem Newer.app {dC dR : Addr} {tl' tl rest : List (Addr × Obj)} (h' : Newer dC dR tl' (tl ++ rest)) (h : Newer dC dR tl rest) : Newer dC dR (tl' ++ tl) rest := fun q hq => by
  rcases List.mem_append.mp hq with hq | hq
  · obtain ⟨a, b, c⟩ := h' q hq
    exact ⟨a, b, fun q' hq' => c q' (List.mem_append_right _ hq')⟩
  · exact h q hq
theorem ft_end {dC dR c src ah lT : Addr} {kC kR : Nat → Int × Tok} {toks : List (Tk × Int)} {refs : List Addr} {rest tl tl' : List (Addr × Obj)} {res : Option Str × List (Tk × Int)} {h₀ h' : Heap} {L : Addr} {s : Shared} {m₀ m' : Str → Option Value} {c' : FtS} {tk : Nat}
    {x' : Str} {tx' ta' tp' : Tok} {ts' : List (Tk × Int)} {t' : Addr} {hb' pb' : Bool} {p' : Nat}
    (F : Fr h₀ L h' m') (N : News h₀ L h' ((dC, curObj kC src ah hb' t' (hdT ts').2 ta') :: (dR, rowObj kR lT p' tp' pb') :: (tl' ++ (tl ++ rest)))) (P : PSt dC dR c src ah lT kR toks refs (tl' ++ (tl ++ rest)) t' p' ts') (w : Newer dC dR tl' (tl ++ rest)) (nw : Newer dC dR tl rest)
    (hk : m' "text" = some (.str x' tx')) (hr : ∀ z, z ≠ ("text" : Str) → z ≠ ("token" : Str) → m' z = m₀ z) (hc : cut x' ts' = res) (hsm : Small ts') (hln : x'.length + 300 * ts'.length ≤ 301000) (hlt : ts'.length < c'.ts.length) :
    KswEnd h₀ L s (ftLed dC dR src ah lT kC kR rest) ftPs (ftFacts dC dR c src ah lT kR toks refs rest) ["token"] m₀ (ftP res) (fun c' => c'.ts.length) c' { s with heap := h', toks := tk } := by
  rw [← List.append_assoc] at N P
  refine ksw_end ⟨x', tx', ts', t', hb', ta', p', tp', pb', tl' ++ tl⟩ F N (fun _ h => h) ⟨P, w.app nw⟩ (fun q hq => ?_) (fun z h1 h2 => hr z (h1 _ (List.mem_singleton_self _)) ?_) ⟨hc, hsm, hln⟩ hlt
  · rw [List.mem_singleton.mp hq]; exact hk
  · intro e
    subst e
    revert h2
    decide +kernel
theorem and_yes {a b : Bool} (h1 : a = true) (h2 : b = true) : (a && b) = true := by rw [h1, h2]; rfl
theorem and_na {a b : Bool} (h : a = false) : ¬ (a && b) = true := by rw [h]; nofun
theorem and_nb {a b : Bool} (h : b = false) : ¬ (a && b) = true := by rw [h, Bool.and_false]; nofun
theorem ft_stop {ts : List (Tk × Int)} {x : Str} (h : (hdT ts).1.isOp ":" = true ∨ (hdT ts).1.isOp ";" = true) : cut x ts = (some x, ts) := by
  have h2 : (hdT ts).1.isEnd = true := by rw [Tk.isEnd]; rcases h with h | h <;> simp [h]
  cases ts with
  | nil => exact absurd h2 (by decide +kernel)
  | cons t r =>
    simp only [hdT, List.headD_cons] at h2
    rw [cut, if_pos h2]
theorem ft_go {ts : List (Tk × Int)} {x y : Str} (h1 : (hdT ts).1.isOp ":" = false) (h2 : (hdT ts).1.isOp ";" = false) (hp : (hdT ts).1.piece = some y) : cut x ts = cut (x ++ y) ts.tail ∧ ts.tail.length < ts.length := by
  cases ts with
  | nil => exact nomatch hp
  | cons t r =>
    simp only [hdT, List.headD_cons] at h1 h2 hp
    simp [cut, Tk.isEnd, h1, h2, hp]
theorem ft_no {ts : List (Tk × Int)} {x : Str} (h1 : (hdT ts).1.isOp ":" = false) (h2 : (hdT ts).1.isOp ";" = false) (hp : (hdT ts).1.piece = none) : cut x ts = (none, ts) := by
  cases ts with
  | nil => rfl
  | cons t r =>
    simp only [hdT, List.headD_cons] at h1 h2 hp
    simp [cut, Tk.isEnd, h1, h2, hp]
theorem small_hd {ts : List (Tk × Int)} (h : Small ts) : (hdT ts).1.len ≤ 100 := by
  cases ts with
  | nil => exact Nat.zero_le _
  | cons t r => exact h _ (.head _)
theorem small_tl {ts : List (Tk × Int)} (h : Small ts) : Small ts.tail := fun q hq => h q (List.mem_of_mem_tail hq)
theorem tok_view {led : List (Addr × Obj)} {x : Addr} {t : Tk × Int} (h : TokAt led x t) : ∃ d k kk ta, (x, instObj 92 d) ∈ led ∧ (
    (∃ y tv, t.1.piece = some (Txt.lower y) ∧ y.length = t.1.len ∧ (d, tokObj k "id" kk (.str y tv) t.2 ta) ∈ led) ∨
    (∃ y tv, t.1.piece = some y ∧ y.length = t.1.len ∧ (d, tokObj k "op" kk (.str y tv) t.2 ta) ∈ led) ∨
    (∃ v a b c y t1 t2 t3 n, t.1.piece = (if (a == ("" : Str)) && (b == ("" : Str)) then some y else none) ∧ y.length = t.1.len ∧ (d, tokObj k "num" kk (.ref v) t.2 ta) ∈ led ∧ (v, ({ cls := .type "tuple", data := .seq #[.str a t1, .str b t2, .bool c, .str y t3] n } : Obj)) ∈ led) ∨
    (∃ kn v, (kn == ("num" : Str)) = false ∧ (kn == ("id" : Str)) = false ∧ (kn == ("op" : Str)) = false ∧ t.1.piece = none ∧ (d, tokObj k kn kk v t.2 ta) ∈ led)) := by
  obtain ⟨d, k, kk, v, ta, h1, h2, h3⟩ := h
  obtain ⟨tk, i⟩ := t
  refine ⟨d, k, kk, ta, h1, ?_⟩
  cases tk with
  | id y => cases h3; exact .inl ⟨y, _, rfl, rfl, h2⟩
  | op y => cases h3; exact .inr (.inl ⟨y, _, rfl, rfl, h2⟩)
  | num a b c y =>
    obtain ⟨q, t1, t2, t3, n, rfl, ma⟩ := di_num h3
    exact .inr (.inr (.inl ⟨_, a, b, c, y, _, _, _, _, rfl, rfl, h2, ma⟩))
  | _ => exact .inr (.inr (.inr ⟨_, _, by simp only [Tk.kind]; decide +kernel, by simp only [Tk.kind]; decide +kernel, by simp only [Tk.kind]; decide +kernel, rfl, h2⟩))
theorem exc_sub3 {q a b : Addr × Obj} {tl rest : List (Addr × Obj)} : ∀ p ∈ q :: rest, p ∈ q :: a :: b :: (tl ++ rest) := fun p hp => by
  rcases List.mem_cons.mp hp with rfl | hp
  · exact .head _
  · exact .tail _ (.tail _ (.tail _ (List.mem_append_right _ hp)))
section
variable {w : World} {mean : ExcName → Option Value} {mg mb : Str → Option Value} {dp un : Nat} {gd : Option (List Code)} {cn : Str} {cs : Scope} {a : Addr} {ccd : Value} {outer : List Env} {A₀ : Around} {base h₀ : Heap} {L : Addr} {m : Str → Option Value}
    {rest : List (Addr × Obj)} {s : Shared} {Q E : Value → Shared → Prop}
    {c ah t dC src dR lT : Addr} {kC kR : Nat → Int × Tok} {p : Nat} {tp ta tx : Tok} {pb hb : Bool} {refs : List Addr} {toks ts : List (Tk × Int)} {x : Str}
theorem field_text_spec
    (B : Below A₀ base outer h₀) (F : Fr h₀ L s.heap m) (X : (hd.heap_39 w.params).In h₀) (N : News h₀ L s.heap ((dC, curObj kC src ah hb t (hdT ts).2 ta) :: (dR, rowObj kR lT p tp pb) :: rest)) (T : Top hd.view_39 Lz mean mg mb h₀) (hk : cs.kind = .function)
    (hd : dp + 21 < recursionLimit) (hu : un + 160 < cLine) (P : PSt dC dR c src ah lT kR toks refs rest t p ts) (hsm : Small ts)
    (ret : ∀ h' tk' x tx ts' t' hb' ta' p' tp' pb' tl, cut "" ts = (some x, ts') → x.length ≤ 301000 → Fr h₀ L h' m → News h₀ L h' ((dC, curObj kC src ah hb' t' (hdT ts').2 ta') :: (dR, rowObj kR lT ((p' : Nat) : Int) tp' pb') :: (tl ++ rest)) → PSt dC dR c src ah lT kR toks refs (tl ++ rest) t' p' ts' → Newer dC dR tl rest → Q (.str x tx) { s with heap := h', toks := tk' })
    (exc : ∀ ts', cut "" ts = (none, ts') → ExcTo base h₀ L m (envOf cn cs L a ccd) outer rest "bad_table" (hdT ts').2 s E) :
    wpAny (model PySem.Challenge.rw_sj0031_01.row.prog w) (ktrTop dp un gd cn cs L a ccd [] outer) (call (.ref 35) [.ref c]) Q E s := by
  have p1 := P.cur
  have hlen := P.len
  refine wpAny_call ?_
  k_dflt ktr_enter
  ktn_open
  rename Fr _ _ _ _ => F'
  rename News _ _ _ _ => N'
  generalize hc0 : cut "" ts = res at ret exc
  refine' ksw_while (σ := FtS) (ftLed dC dR src ah lT kC kR rest) ftPs (ftFacts dC dR c src ah lT kR toks refs rest) ["token"] (ftP res) (fun c' => c'.ts.length) ⟨"", ?tx, ts, t, hb, ta, p, tp, pb, []⟩ F' N' ⟨P, ?nw⟩ ?hk ?hp ?turn ?hE
  case hk =>
    intro q hq
    rw [List.mem_singleton.mp hq]
    with_unfolding_all rfl
  case nw => exact fun _ h => nomatch h
  case hp =>
    refine ⟨hc0, hsm, ?_⟩
    show 0 + 300 * ts.length ≤ 301000
    omega
  case hE => passes_own
  case turn =>
    clear F' N' N P p1 hc0 hlen hsm
    rintro ⟨x, tx, ts, t, hb, ta, p, tp, pb, tl⟩ u h tk ⟨P, nw⟩ ⟨hc, hsm, hln⟩ F1 N1
    dsimp only at P nw hc hsm hln F1 N1
    have p1 := P.cur
    repeat' ((fail_if_success (with_reducible show wpAny _ _ (PySem.exec (Stmt.If _ _ _ _) _) _ _ _)); walk_at "go")
    · exact ret _ _ _ _ _ _ _ _ _ _ _ tl (hc.symm.trans (ft_stop (.inl (by assumption)))) (by omega) (by assumption) (by assumption) P nw
    · exact ret _ _ _ _ _ _ _ _ _ _ _ tl (hc.symm.trans (ft_stop (.inr (by assumption)))) (by omega) (by assumption) (by assumption) P nw
    · have o1 : (hdT ts).1.isOp ":" = false := by assumption
      have o2 : (hdT ts).1.isOp ";" = false := by assumption
      have hsz := small_hd hsm
      obtain ⟨d0, k0, kk0, ta0, m1, hv⟩ := tok_view P.tok
      rcases hv with ⟨y, tv, hp, hy, m2⟩ | ⟨y, tv, hp, hy, m2⟩ | ⟨v, a9, b9, c9, y, t1, t2, t3, n9, hp, hy, m2, m3⟩ | ⟨kn, v, n1, n2, n3, hp, m2⟩
      · obtain ⟨hc', hl'⟩ := ft_go (x := x) o1 o2 hp
        rw [← hy] at hsz
        k_steps
        rename Fr _ _ _ _ => F9
        rename News _ _ _ _ => N9
        have hl9 : (Txt.lower y).length ≤ 3 * y.length := by assumption
        refine ft_end F9 N9 (by assumption) (by assumption) nw (by with_unfolding_all rfl) ?_ (hc'.symm.trans hc) (small_tl hsm) ?_ hl'
        · intro z h1 h2
          simp [h1, h2, kstB]
        · simp only [Str.length_append]
          omega
      · obtain ⟨hc', hl'⟩ := ft_go (x := x) o1 o2 hp
        rw [← hy] at hsz
        k_steps
        rename Fr _ _ _ _ => F9
        rename News _ _ _ _ => N9
        refine ft_end F9 N9 (by assumption) (by assumption) nw (by with_unfolding_all rfl) ?_ (hc'.symm.trans hc) (small_tl hsm) ?_ hl'
        · intro z h1 h2
          simp [h1, h2, kstB]
        · simp only [Str.length_append]
          omega
      · rw [← hy] at hsz
        k_steps
        · obtain ⟨hc', hl'⟩ := ft_go (x := x) o1 o2 (hp.trans (if_pos (and_yes (by assumption) (by assumption))))
          rename Fr _ _ _ _ => F9
          rename News _ _ _ _ => N9
          refine ft_end F9 N9 (by assumption) (by assumption) nw (by with_unfolding_all rfl) ?_ (hc'.symm.trans hc) (small_tl hsm) ?_ hl'
          · intro z h1 h2
            simp [h1, h2, kstB]
          · simp only [Str.length_append]
            omega
        all_goals (rename Fr h₀ L _ m => FG'; exact exc ts (hc.symm.trans (ft_no o1 o2 (hp.trans (if_neg (by first | exact and_na (by assumption) | exact and_nb (by assumption)))))) _ _ _ _ _ _ _ _ _ _ FG' (Raised.sub (by assumption) exc_sub3) (by assumption))
      · k_steps
        rename Fr h₀ L _ m => FG'
        exact exc ts (hc.symm.trans (ft_no o1 o2 hp)) _ _ _ _ _ _ _ _ _ _ FG' (Raised.sub (by assumption) exc_sub3) (by assumption)
end
end
section
theorem rstS10 : True := by
  w_top off
  trivial
set_option maxHeartbeats 4000000
structure ScS where
  i : Nat
  ti : Tok
  vs : List Value
  n : Nat
  ds : List Dat
  tl : List (Addr × Obj)
theorem sy_sub {q b : Addr × Obj} {tl rest : List (Addr × Obj)} : ∀ p ∈ q :: rest, p ∈ q :: b :: (tl ++ rest) := fun p hp => by
  rcases List.mem_cons.mp hp with rfl | hp
  · exact .head _
  · exact .tail _ (.tail _ (List.mem_append_right _ hp))
theorem sy_subP {q a b c : Addr × Obj} {tl own rest : List (Addr × Obj)} : ∀ p ∈ q :: rest, p ∈ q :: a :: (b :: c :: (tl ++ rest) ++ own) := fun p hp => by
  rcases List.mem_cons.mp hp with rfl | hp
  · exact .head _
  · exact .tail _ (.tail _ (List.mem_append_left _ (.tail _ (.tail _ (List.mem_append_right _ hp)))))
theorem sy_news {h₀ h' : Heap} {L e D1 lS : Addr} {o o1 : Obj} {tl rest : List (Addr × Obj)} {vs : List Value} {v : Value} {n : Nat} (N : News h₀ L h' ((e, o) :: (D1, o1) :: (lS, listOf (vs.toArray.push v) n) :: (tl ++ rest))) :
    News h₀ L h' ((lS, listOf (vs ++ [v]).toArray n) :: (((e, o) :: tl) ++ rest)) := by
  rw [← List.push_toArray]
  refine News.sub N fun p hp => ?_
  rcases List.mem_cons.mp hp with rfl | hp
  · exact .tail _ (.tail _ (.head _))
  · rcases List.mem_cons.mp hp with rfl | hp
    · exact .head _
    · exact .tail _ (.tail _ (.tail _ hp))
theorem sy_ret {h₀ h' : Heap} {L D lS : Addr} {o o1 : Obj} {tl rest : List (Addr × Obj)} (N : News h₀ L h' ((D, o) :: (lS, o1) :: (tl ++ rest))) : News h₀ L h' (((D, o) :: tl) ++ rest) := by
  refine News.sub N fun p hp => ?_
  rcases List.mem_cons.mp hp with rfl | hp
  · exact .head _
  · exact .tail _ (.tail _ hp)
noncomputable abbrev scLed (lS : Addr) (rest : List (Addr × Obj)) (c' : ScS) : List (Addr × Obj) := (lS, listOf c'.vs.toArray c'.n) :: (c'.tl ++ rest)
noncomputable abbrev syPs (c' : ScS) : List (Str × Value) := [("i", .int c'.i c'.ti)]
noncomputable abbrev syF (rest : List (Addr × Obj)) (c' : ScS) : Prop := DatAll c'.tl c'.vs c'.ds ∧ c'.vs.length ≤ c'.i ∧ (∀ q ∈ c'.tl, q.2.cls = .type "tuple")
noncomputable abbrev syP (x : Str) (c' : ScS) : Prop := c'.i ≤ x.length ∧ symL (chars x) = (symL ((chars x).drop c'.i)).map (c'.ds ++ ·)
theorem sy_end {lS : Addr} {rest tl' : List (Addr × Obj)} {x : Str} {h₀ h' : Heap} {L : Addr} {s : Shared} {m₀ m' : Str → Option Value} {c' : ScS} {tk i' n' : Nat} {ti' : Tok} {vs' : List Value} {ds' : List Dat}
    (F : Fr h₀ L h' m') (N : News h₀ L h' ((lS, listOf vs'.toArray n') :: (tl' ++ rest))) (D : DatAll tl' vs' ds') (hv : vs'.length ≤ i') (hcl : ∀ q ∈ tl', q.2.cls = .type "tuple")
    (hk : m' "i" = some (.int i' ti')) (hr : ∀ z, z ≠ ("i" : Str) → z ≠ ("level" : Str) → m' z = m₀ z) (hi : i' ≤ x.length) (hs : symL (chars x) = (symL ((chars x).drop i')).map (ds' ++ ·)) (hlt : c'.i < i') :
    KswEnd h₀ L s (scLed lS rest) syPs (syF rest) ["level"] m₀ (syP x) (fun c' => x.length - c'.i) c' { s with heap := h', toks := tk } := by
  refine ksw_end ⟨i', ti', vs', n', ds', tl'⟩ F N (fun _ h => h) ⟨D, hv, hcl⟩ (fun q hq => ?_) (fun z h1 h2 => hr z (h1 _ (List.mem_singleton_self _)) ?_) ⟨hi, hs⟩ ?_
  · rw [List.mem_singleton.mp hq]; exact hk
  · intro e
    subst e
    revert h2
    decide +kernel
  · show x.length - i' < x.length - c'.i
    omega
theorem sym_add {o : Option (List Dat)} {d : Dat} {ds : List Dat} : (o.map (d :: ·)).map (ds ++ ·) = o.map ((ds ++ [d]) ++ ·) := by
  cases o <;> simp
section
variable {w : World} {mean : ExcName → Option Value} {mg mb : Str → Option Value} {dp un : Nat} {gd : Option (List Code)} {cn : Str} {cs : Scope} {a : Addr} {ccd : Value} {outer : List Env} {A₀ : Around} {base h₀ : Heap} {L : Addr} {m : Str → Option Value}
    {rest : List (Addr × Obj)} {s : Shared} {Q E : Value → Shared → Prop}
    {c ah t dC src dR lT : Addr} {kC kR : Nat → Int × Tok} {tp ta tx : Tok} {pb hb : Bool} {x : Str} {at_ : Int}
theorem symbols_of_spec
    (B : Below A₀ base outer h₀) (F : Fr h₀ L s.heap m) (X : (hd.heap_39 w.params).In h₀) (N : News h₀ L s.heap rest) (T : Top hd.view_39 Lz mean mg mb h₀) (hk : cs.kind = .function)
    (hd : dp + 21 < recursionLimit) (hu : un + 160 < cLine) (hD : (dC, curObj kC src ah hb t at_ ta) ∈ rest) (hC : (c, instObj 220 dC) ∈ rest) (hx : x.length ≤ 301000)
    (ret : ∀ h' tk' D ds tl, symL (chars x) = some ds → Fr h₀ L h' m → News h₀ L h' (tl ++ rest) → DatIn tl (.ref D) (.tuple ds) → (∀ q ∈ tl, q.2.cls = .type "tuple") → Q (.ref D) { s with heap := h', toks := tk' })
    (exc : symL (chars x) = none → ExcTo base h₀ L m (envOf cn cs L a ccd) outer rest "bad_table" at_ s E) :
    wpAny (model PySem.Challenge.rw_sj0031_01.row.prog w) (ktrTop dp un gd cn cs L a ccd [] outer) (call (.ref 42) [.ref c, .str x tx]) Q E s := by
  refine wpAny_call ?_
  k_dflt ktr_enter
  ktn_open
  rename Fr _ _ _ _ => F'
  rename News _ _ _ _ => N'
  rename_i lS _ l1 _ _ _ _ _ _
  have hoff0 : ∀ q ∈ rest, q.1 ≠ lS := fun q hq => Nat.ne_of_lt (l1 q hq)
  refine' ksw_while (σ := ScS) (scLed lS rest) syPs (syF rest) ["level"] (syP x) (fun c' => x.length - c'.i) ⟨0, ?ti, [], 0, [], []⟩ F' N' ?hf ?hk ?hp ?turn ?hE
  case hk =>
    intro q hq
    rw [List.mem_singleton.mp hq]
    with_unfolding_all rfl
  case hf => exact ⟨.nil, Nat.le_refl _, fun _ h => nomatch h⟩
  case hp => exact ⟨Nat.zero_le _, (Option.map_id' (x := symL (chars x))).symm⟩
  case hE => passes_own
  case turn =>
    clear F' N' N l1
    rintro ⟨i, ti, vs, n, ds, tl⟩ u h tk ⟨D, hv, hcl⟩ ⟨hP, hsym⟩ F1 N1
    dsimp only at D hv hcl hP hsym F1 N1
    have hoff : ∀ q ∈ tl ++ rest, q.1 ≠ lS := fun q hq => by
      rcases List.mem_append.mp hq with hq | hq
      · intro e
        have h1 := (N1 q (.tail _ (List.mem_append_left _ hq))).1
        rw [e, (N1 _ (.head _)).1] at h1
        have h2 := hcl q hq
        rw [← Option.some.inj h1] at h2
        exact absurd h2 (by simp [W.listOf])
      · exact hoff0 q hq
    ktn_open
    · rename Fr h₀ L _ m => FG'
      refine exc ?_ _ _ _ _ _ _ _ _ _ _ FG' (Raised.sub (by assumption) sy_sub) (by assumption)
      rw [hsym, sym_short (by assumption) (by assumption) (by assumption)]; rfl
    · rename Fr h₀ L _ m => FG'
      refine exc ?_ _ _ _ _ _ _ _ _ _ _ FG' (Raised.sub (by assumption) sy_sub) (by assumption)
      have e3 : (Txt.item x ((i : Int) + 3) != (")" : Str)) = true := by assumption
      rw [hsym, sym_edge (by assumption) (by assumption), (by simpa using e3 : (Txt.item x ((i : Int) + 3) == (")" : Str)) = false)]; rfl
    · rename Fr _ _ _ _ => F'
      k_dflt (refine For_invVF F' (by with_unfolding_all rfl) (by with_unfolding_all rfl) ?_)
      ktn_open
      rename Fr _ _ _ _ => F'
      rename News _ _ _ _ => N'
      have e0 : (Txt.item x (i : Int) == ("(" : Str)) = true := by assumption
      have e3 : (Txt.item x ((i : Int) + 3) != (")" : Str)) = false := by assumption
      have e4 : ¬ (x.length : Int) ≤ (i : Int) + 3 := by assumption
      have e5 := sym_edge e4 e0
      rw [(by simpa using e3 : (Txt.item x ((i : Int) + 3) == (")" : Str)) = true)] at e5
      refine pair_iter (fun y => isLev y = true) (by with_unfolding_all rfl) (.head _) F' N' ?_ ?_
      · intro y t h tk own hy hoff' F2 N2
        ktn_open
        · rename Fr _ _ _ _ => F9
          rename News _ _ _ _ => N9
          have e6 : isLev y = true := by assumption
          exact ⟨e6, _, _, _, rfl, F9, News.sub N9 fun _ h => .tail _ h⟩
        · rename Fr h₀ L _ m => FG'
          refine exc ?_ _ _ _ _ _ _ _ _ _ _ FG' (Raised.sub (by assumption) sy_subP) (by assumption)
          have e6 : isLev y = false := by assumption
          rw [hsym, e5]
          rcases hy with rfl | rfl
          · rw [e6]; rfl
          · rw [e6, Bool.and_false]; rfl
      · intro u h tk g1 g2 F2 N2
        rw [g1, g2] at e5
        ktn_open
        rename Fr _ _ _ _ => F9
        rename News _ _ _ _ => N9
        refine sy_end (n' := n + 1) (i' := i + 4) F9 (sy_news N9) ((D.mono fun p hp => .tail _ hp).append (.one (.tuple (ds := [.str "edge", .str _, .str _]) (.head _) (.cons (.str _ _) (.cons (.str _ _) (.cons (.str _ _) .nil)))))) ?_ ?_ (by with_unfolding_all rfl) ?_ ?_ ?_ (Nat.lt_add_of_pos_right (by decide))
        · simp only [List.length_append, List.length_singleton]; omega
        · intro q hq
          rcases List.mem_cons.mp hq with rfl | hq
          · rfl
          · exact hcl q hq
        · intro z h1 h2
          simp [h1, h2, kstB]
        · omega
        · rw [hsym, e5]
          exact sym_add
    · rename Fr h₀ L _ m => FG'
      refine exc ?_ _ _ _ _ _ _ _ _ _ _ FG' (Raised.sub (by assumption) sy_sub) (by assumption)
      rw [hsym, sym_one (by assumption) (by assumption), if_neg]
      · rfl
      · unfold isSym
        rw [(by assumption : (Builtin.Str.occurrences ("01x?brfpn*" : Str) (Txt.item x (i : Int)) 0 ("01x?brfpn*" : Str).length 1).isEmpty = true)]
        decide
    · rename Fr _ _ _ _ => F'
      rename News _ _ _ _ => N'
      have e0 : (Txt.item x (i : Int) == ("(" : Str)) = false := by assumption
      have e1 : isSym (Txt.item x (i : Int)) = true := by
        unfold isSym
        rw [(by assumption : (Builtin.Str.occurrences ("01x?brfpn*" : Str) (Txt.item x (i : Int)) 0 ("01x?brfpn*" : Str).length 1).isEmpty = false)]
        rfl
      refine sy_end (n' := n + 1) (vs' := vs ++ [_]) (i' := i + 1) F' (List.push_toArray .. ▸ N') (D.append (.one (.str _ _))) ?_ hcl (by with_unfolding_all rfl) ?_ ?_ ?_ (Nat.lt_succ_self _)
      · simp only [List.length_append, List.length_singleton]; omega
      · intro z h1 h2
        simp [h1, h2, kstB]
      · omega
      · rw [hsym, sym_one (by assumption) e0, if_pos e1, sym_add]
    · rename News h₀ L _ _ => N9
      refine ret _ _ _ ds _ ?_ (by assumption) (sy_ret N9) (.tuple (.head _) (D.mono fun p hp => .tail _ hp)) ?_
      · rw [hsym, sym_end (by assumption)]
        simp
      · intro q hq
        rcases List.mem_cons.mp hq with rfl | hq
        · rfl
        · exact hcl q hq
end
end
section
set_option maxHeartbeats 4000000
/-- the parser's state beside a list of rows -/
structure RSt (lR dC dR c src ah lT : Addr) (kR : Nat → Int × Tok) (toks : List (Tk × Int)) (refs : List Addr) (rest : List (Addr × Obj)) (t : Addr) (p : Nat) (ts : List (Tk × Int)) : Prop where
  st : PSt dC dR c src ah lT kR toks refs rest t p ts
  offR : ∀ q ∈ rest, q.1 ≠ lR
  n1 : lR ≠ dC
  n2 : lR ≠ dR
  sm : Small ts
section
variable {lR dC dR c src ah lT : Addr} {kR : Nat → Int × Tok} {toks ts : List (Tk × Int)} {refs : List Addr} {rest tl : List (Addr × Obj)} {t : Addr} {p : Nat} {vs : Array Value} {n : Nat}
theorem RSt.up (R : RSt lR dC dR c src ah lT kR toks refs rest t p ts) : PSt dC dR c src ah lT kR toks refs ((lR, listOf vs n) :: rest) t p ts :=
  R.st.swap (lR := lR) (fun _ hq => .inl (.tail _ hq)) (by obtain ⟨n, h⟩ := R.st.ahead; exact R.offR _ h) (by obtain ⟨n, h⟩ := R.st.lst; exact R.offR _ h) fun q hq => by
    rcases List.mem_cons.mp hq with rfl | hq
    · exact ⟨R.n1, R.n2⟩
    · exact R.st.off q hq
theorem RSt.down {ts' : List (Tk × Int)} {t' : Addr} {p' : Nat} (R : RSt lR dC dR c src ah lT kR toks refs rest t p ts) (P : PSt dC dR c src ah lT kR toks refs (tl ++ (lR, listOf vs n) :: rest) t' p' ts') (w : ∀ q ∈ tl, q.1 ≠ dC ∧ q.1 ≠ dR ∧ q.1 ≠ lR) (sm : Small ts') :
    RSt lR dC dR c src ah lT kR toks refs (tl ++ rest) t' p' ts' where
  st := P.swap (lR := lR) (fun q hq => by
      rcases List.mem_append.mp hq with hq | hq
      · exact .inl (List.mem_append_left _ hq)
      · rcases List.mem_cons.mp hq with rfl | hq
        · exact .inr ⟨rfl, rfl⟩
        · exact .inl (List.mem_append_right _ hq)) (by obtain ⟨n, h⟩ := R.st.ahead; exact R.offR _ h) (by obtain ⟨n, h⟩ := R.st.lst; exact R.offR _ h) fun q hq => by
    rcases List.mem_append.mp hq with hq | hq
    · exact ⟨(w q hq).1, (w q hq).2.1⟩
    · exact R.st.off q hq
  offR q hq := by
    rcases List.mem_append.mp hq with hq | hq
    · exact (w q hq).2.2
    · exact R.offR q hq
  n1 := R.n1
  n2 := R.n2
  sm := sm
theorem Newer.at (w : Newer dC dR tl ((lR, listOf vs n) :: rest)) : ∀ q ∈ tl, q.1 ≠ dC ∧ q.1 ≠ dR ∧ q.1 ≠ lR := fun q hq => ⟨Nat.ne_of_gt (w q hq).1, Nat.ne_of_gt (w q hq).2.1, Nat.ne_of_gt ((w q hq).2.2 _ (.head _))⟩
theorem news_re {h₀ h : Heap} {L : Addr} {a b z : Addr × Obj} (N : News h₀ L h (a :: b :: (tl ++ z :: rest))) : News h₀ L h (a :: b :: z :: (tl ++ rest)) := by
  refine News.sub N fun q hq => ?_
  simp only [List.mem_cons, List.mem_append] at hq ⊢
  rcases hq with h | h | h | h | h <;> simp [h]
end
theorem news_rot {h₀ h : Heap} {L : Addr} {z a b : Addr × Obj} {rest : List (Addr × Obj)} (N : News h₀ L h (z :: a :: b :: rest)) : News h₀ L h (a :: b :: z :: rest) := by
  refine News.sub N fun q hq => ?_
  simp only [List.mem_cons] at hq ⊢
  rcases hq with h | h | h | h <;> simp [h]
theorem ExcTo.wk {base h₀ : Heap} {L : Addr} {m : Str → Option Value} {env : Env} {outer : List Env} {rest rest' : List (Addr × Obj)} {kind : Str} {at_ : Int} {s : Shared} {E : Value → Shared → Prop} (h : ExcTo base h₀ L m env outer rest kind at_ s E) (hs : ∀ p ∈ rest, p ∈ rest') :
    ExcTo base h₀ L m env outer rest' kind at_ s E := fun h' tk' e dx g k tx ta y ty F R U => h h' tk' e dx g k tx ta y ty F (R.sub fun p hp => by
      rcases List.mem_cons.mp hp with rfl | hp
      · exact .head _
      · exact .tail _ (hs p hp)) U
section
variable {w : World} {mean : ExcName → Option Value} {mg mb : Str → Option Value} {dp un : Nat} {gd : Option (List Code)} {cn : Str} {cs : Scope} {a : Addr} {ccd : Value} {outer : List Env} {A₀ : Around} {base h₀ : Heap} {L : Addr} {m : Str → Option Value}
    {rest : List (Addr × Obj)} {s : Shared} {Q E : Value → Shared → Prop}
    {c ah t dC src dR lT lR : Addr} {kC kR : Nat → Int × Tok} {p : Nat} {tp ta tx : Tok} {pb hb : Bool} {refs : List Addr} {toks ts : List (Tk × Int)} {x : Str} {vs : Array Value} {n : Nat}
/-- a tuple is laid beside the parser's state -/
theorem RSt.tup {vt : Array Value} {nt : Nat} {D : Addr} {h : Heap} (R : RSt lR dC dR c src ah lT kR toks refs rest t p ts) (N : News h₀ L h ((D, ({ cls := .type "tuple", data := .seq vt nt } : Obj)) :: (dC, curObj kC src ah hb t (hdT ts).2 ta) :: (dR, rowObj kR lT p tp pb) :: (lR, listOf vs n) :: rest)) :
    RSt lR dC dR c src ah lT kR toks refs ((D, ({ cls := .type "tuple", data := .seq vt nt } : Obj)) :: rest) t p ts := by
  have hne : ∀ b o, (b, o) ∈ (dC, curObj kC src ah hb t (hdT ts).2 ta) :: (dR, rowObj kR lT p tp pb) :: (lR, listOf vs n) :: rest → o.cls ≠ .type "tuple" → D ≠ b := fun b o hb ho eq => by
    have h1 := (N _ (.head _)).1
    have h2 := (N _ (.tail _ hb)).1
    rw [eq] at h1
    rw [h1] at h2
    have h3 : _ = o := Option.some.inj h2
    rw [← h3] at ho
    exact ho rfl
  have n1 : D ≠ dC := hne _ _ (.head _) (by simp [dictOf])
  have n2 : D ≠ dR := hne _ _ (.tail _ (.head _)) (by simp [dictOf])
  have n3 : D ≠ lR := hne _ _ (.tail _ (.tail _ (.head _))) (by simp [W.listOf])
  refine ⟨R.st.swap (lR := lR) (fun q hq => .inl (.tail _ hq)) (by obtain ⟨n, h⟩ := R.st.ahead; exact R.offR _ h) (by obtain ⟨n, h⟩ := R.st.lst; exact R.offR _ h) fun q hq => ?_, fun q hq => ?_, R.n1, R.n2, R.sm⟩
  · rcases List.mem_cons.mp hq with rfl | hq
    · exact ⟨n1, n2⟩
    · exact R.st.off q hq
  · rcases List.mem_cons.mp hq with rfl | hq
    · exact n3
    · exact R.offR q hq
theorem news_rot3 {h : Heap} {z a b d : Addr × Obj} (N : News h₀ L h (z :: a :: b :: d :: rest)) : News h₀ L h (a :: b :: d :: (z :: rest)) := by
  refine News.sub N fun q hq => ?_
  simp only [List.mem_cons] at hq ⊢
  rcases hq with h | h | h | h | h <;> simp [h]
theorem want3
    (B : Below A₀ base outer h₀) (F : Fr h₀ L s.heap m) (X : (hd.heap_39 w.params).In h₀) (N : News h₀ L s.heap ((dC, curObj kC src ah hb t (hdT ts).2 ta) :: (dR, rowObj kR lT p tp pb) :: (lR, listOf vs n) :: rest)) (T : Top hd.view_39 Lz mean mg mb h₀) (hk : cs.kind = .function)
    (hd : dp + 18 < recursionLimit) (hu : un + 140 < cLine) (R : RSt lR dC dR c src ah lT kR toks refs rest t p ts)
    (ret : (hdT ts).1.isOp x = true → ts.tail.length < ts.length → ∀ h' tk' t' hb' ta' p' tp' pb' tl, Fr h₀ L h' m → News h₀ L h' ((dC, curObj kC src ah hb' t' (hdT ts.tail).2 ta') :: (dR, rowObj kR lT ((p' : Nat) : Int) tp' pb') :: (lR, listOf vs n) :: (tl ++ rest)) → RSt lR dC dR c src ah lT kR toks refs (tl ++ rest) t' p' ts.tail → Q .none { s with heap := h', toks := tk' })
    (exc : (hdT ts).1.isOp x = false → ExcTo base h₀ L m (envOf cn cs L a ccd) outer rest "unexpected_token" (hdT ts).2 s E) :
    wpAny (model PySem.Challenge.rw_sj0031_01.row.prog w) (ktrTop dp un gd cn cs L a ccd [] outer) (call (.ref 195) [.ref c, .str x tx]) Q E s := by
  cases e : (hdT ts).1.isOp x with
  | true => exact expect_op_yes B F X N T hk hd hu R.up e fun h' tk' t' hb' ta' p' tp' pb' tl F' N' P' w' => ret e (op_len e) h' tk' t' hb' ta' p' tp' pb' tl F' (news_re N') (R.down P' w'.at R.sm.tail)
  | false => exact expect_op_no B F X N T hk hd hu R.up e ((exc e).wk fun _ h => .tail _ h)
theorem key3
    (B : Below A₀ base outer h₀) (F : Fr h₀ L s.heap m) (X : (hd.heap_39 w.params).In h₀) (N : News h₀ L s.heap ((dC, curObj kC src ah hb t (hdT ts).2 ta) :: (dR, rowObj kR lT p tp pb) :: (lR, listOf vs n) :: rest)) (T : Top hd.view_39 Lz mean mg mb h₀) (hk : cs.kind = .function)
    (hd : dp + 18 < recursionLimit) (hu : un + 140 < cLine) (R : RSt lR dC dR c src ah lT kR toks refs rest t p ts)
    (ret : (hdT ts).1.isKey x = true → ∀ h' tk' t' hb' ta' p' tp' pb' tl, Fr h₀ L h' m → News h₀ L h' ((dC, curObj kC src ah hb' t' (hdT ts.tail).2 ta') :: (dR, rowObj kR lT ((p' : Nat) : Int) tp' pb') :: (lR, listOf vs n) :: (tl ++ rest)) → RSt lR dC dR c src ah lT kR toks refs (tl ++ rest) t' p' ts.tail → Q .none { s with heap := h', toks := tk' })
    (exc : (hdT ts).1.isKey x = false → ExcTo base h₀ L m (envOf cn cs L a ccd) outer rest "unexpected_token" (hdT ts).2 s E) :
    wpAny (model PySem.Challenge.rw_sj0031_01.row.prog w) (ktrTop dp un gd cn cs L a ccd [] outer) (call (.ref 202) [.ref c, .str x tx]) Q E s := by
  cases e : (hdT ts).1.isKey x with
  | true => exact expect_key_yes B F X N T hk hd hu R.up e fun h' tk' t' hb' ta' p' tp' pb' tl F' N' P' w' => ret e h' tk' t' hb' ta' p' tp' pb' tl F' (news_re N') (R.down P' w'.at R.sm.tail)
  | false => exact expect_key_no B F X N T hk hd hu R.up e ((exc e).wk fun _ h => .tail _ h)
theorem acc3
    (B : Below A₀ base outer h₀) (F : Fr h₀ L s.heap m) (X : (hd.heap_39 w.params).In h₀) (N : News h₀ L s.heap ((dC, curObj kC src ah hb t (hdT ts).2 ta) :: (dR, rowObj kR lT p tp pb) :: (lR, listOf vs n) :: rest)) (T : Top hd.view_39 Lz mean mg mb h₀) (hk : cs.kind = .function)
    (hd : dp + 15 < recursionLimit) (hu : un + 120 < cLine) (R : RSt lR dC dR c src ah lT kR toks refs rest t p ts)
    (yes : (hdT ts).1.isKey x = true → ∀ h' tk' t' hb' ta' p' tp' pb' tl, Fr h₀ L h' m → News h₀ L h' ((dC, curObj kC src ah hb' t' (hdT ts.tail).2 ta') :: (dR, rowObj kR lT ((p' : Nat) : Int) tp' pb') :: (lR, listOf vs n) :: (tl ++ rest)) → RSt lR dC dR c src ah lT kR toks refs (tl ++ rest) t' p' ts.tail → Q (.bool true) { s with heap := h', toks := tk' })
    (no : (hdT ts).1.isKey x = false → ∀ h' tk', Fr h₀ L h' m → News h₀ L h' ((dC, curObj kC src ah hb t (hdT ts).2 ta) :: (dR, rowObj kR lT p tp pb) :: (lR, listOf vs n) :: rest) → Q (.bool false) { s with heap := h', toks := tk' }) :
    wpAny (model PySem.Challenge.rw_sj0031_01.row.prog w) (ktrTop dp un gd cn cs L a ccd [] outer) (call (.ref 188) [.ref c, .str x tx]) Q E s := by
  cases e : (hdT ts).1.isKey x with
  | true => exact accept_key_yes B F X N T hk hd hu R.up e fun h' tk' t' hb' ta' p' tp' pb' tl F' N' P' w' => yes e h' tk' t' hb' ta' p' tp' pb' tl F' (news_re N') (R.down P' w'.at R.sm.tail)
  | false => exact accept_key_no B F X N T hk hd hu R.up e (no e)
theorem field3
    (B : Below A₀ base outer h₀) (F : Fr h₀ L s.heap m) (X : (hd.heap_39 w.params).In h₀) (N : News h₀ L s.heap ((dC, curObj kC src ah hb t (hdT ts).2 ta) :: (dR, rowObj kR lT p tp pb) :: (lR, listOf vs n) :: rest)) (T : Top hd.view_39 Lz mean mg mb h₀) (hk : cs.kind = .function)
    (hd : dp + 21 < recursionLimit) (hu : un + 160 < cLine) (R : RSt lR dC dR c src ah lT kR toks refs rest t p ts)
    (ret : ∀ h' tk' x tx ts' t' hb' ta' p' tp' pb' tl, cut "" ts = (some x, ts') → ts'.length ≤ ts.length → x.length ≤ 301000 → Fr h₀ L h' m → News h₀ L h' ((dC, curObj kC src ah hb' t' (hdT ts').2 ta') :: (dR, rowObj kR lT ((p' : Nat) : Int) tp' pb') :: (lR, listOf vs n) :: (tl ++ rest)) → RSt lR dC dR c src ah lT kR toks refs (tl ++ rest) t' p' ts' → Q (.str x tx) { s with heap := h', toks := tk' })
    (exc : ∀ ts', cut "" ts = (none, ts') → ExcTo base h₀ L m (envOf cn cs L a ccd) outer rest "bad_table" (hdT ts').2 s E) :
    wpAny (model PySem.Challenge.rw_sj0031_01.row.prog w) (ktrTop dp un gd cn cs L a ccd [] outer) (call (.ref 35) [.ref c]) Q E s :=
  field_text_spec B F X N T hk hd hu R.up R.sm (fun h' tk' x tx ts' t' hb' ta' p' tp' pb' tl hc hl F' N' P' w' => ret h' tk' x tx ts' t' hb' ta' p' tp' pb' tl hc (cut_len' hc) hl F' (news_re N') (R.down P' w'.at (cut_small' R.sm hc)))
    fun ts' hc => (exc ts' hc).wk fun _ h => .tail _ h
theorem sym3
    (B : Below A₀ base outer h₀) (F : Fr h₀ L s.heap m) (X : (hd.heap_39 w.params).In h₀) (N : News h₀ L s.heap ((dC, curObj kC src ah hb t (hdT ts).2 ta) :: (dR, rowObj kR lT p tp pb) :: (lR, listOf vs n) :: rest)) (T : Top hd.view_39 Lz mean mg mb h₀) (hk : cs.kind = .function)
    (hd : dp + 21 < recursionLimit) (hu : un + 160 < cLine) (R : RSt lR dC dR c src ah lT kR toks refs rest t p ts) (hx : x.length ≤ 301000)
    (ret : ∀ h' tk' D ds tl, symL (chars x) = some ds → Fr h₀ L h' m → News h₀ L h' ((dC, curObj kC src ah hb t (hdT ts).2 ta) :: (dR, rowObj kR lT p tp pb) :: (lR, listOf vs n) :: (tl ++ rest)) → RSt lR dC dR c src ah lT kR toks refs (tl ++ rest) t p ts → DatIn (tl ++ rest) (.ref D) (.tuple ds) → Q (.ref D) { s with heap := h', toks := tk' })
    (exc : symL (chars x) = none → ExcTo base h₀ L m (envOf cn cs L a ccd) outer rest "bad_table" (hdT ts).2 s E) :
    wpAny (model PySem.Challenge.rw_sj0031_01.row.prog w) (ktrTop dp un gd cn cs L a ccd [] outer) (call (.ref 42) [.ref c, .str x tx]) Q E s := by
  refine symbols_of_spec B F X N T hk hd hu (.head _) (.tail _ (.tail _ (.tail _ R.st.cur))) hx (fun h' tk' D ds tl e F' N' D' hcl => ?_) fun e => (exc e).wk fun _ h => .tail _ (.tail _ (.tail _ h))
  have hne : ∀ q ∈ tl, ∀ b o, (b, o) ∈ (dC, curObj kC src ah hb t (hdT ts).2 ta) :: (dR, rowObj kR lT p tp pb) :: (lR, listOf vs n) :: rest → o.cls ≠ .type "tuple" → q.1 ≠ b := fun q hq b o hb ho eq => by
    have h1 := (N' q (List.mem_append_left _ hq)).1
    have h2 := (N' _ (List.mem_append_right _ hb)).1
    rw [eq] at h1
    rw [h1] at h2
    have h3 := hcl q hq
    rw [Option.some.inj h2] at h3
    exact ho h3
  have hn : ∀ q ∈ tl, q.1 ≠ dC ∧ q.1 ≠ dR ∧ q.1 ≠ lR := fun q hq => ⟨hne q hq _ _ (.head _) (by simp [dictOf]), hne q hq _ _ (.tail _ (.head _)) (by simp [dictOf]), hne q hq _ _ (.tail _ (.tail _ (.head _))) (by simp [W.listOf])⟩
  refine ret h' tk' D ds tl e F' (News.sub N' fun q hq => ?_) ?_ ?_
  · simp only [List.mem_cons, List.mem_append] at hq ⊢
    rcases hq with h | h | h | h | h <;> simp [h]
  · refine ⟨R.st.swap (lR := lR) (fun q hq => .inl (List.mem_append_right _ hq)) (by obtain ⟨n, h⟩ := R.st.ahead; exact R.offR _ h) (by obtain ⟨n, h⟩ := R.st.lst; exact R.offR _ h) fun q hq => ?_, fun q hq => ?_, R.n1, R.n2, R.sm⟩
    · rcases List.mem_append.mp hq with hq | hq
      · exact ⟨(hn q hq).1, (hn q hq).2.1⟩
      · exact R.st.off q hq
    · rcases List.mem_append.mp hq with hq | hq
      · exact (hn q hq).2.2
      · exact R.offR q hq
  · exact D'.mono fun p hp => List.mem_append_left _ hp
theorem fail3
    (B : Below A₀ base outer h₀) (F : Fr h₀ L s.heap m) (X : (hd.heap_39 w.params).In h₀) (N : News h₀ L s.heap ((dC, curObj kC src ah hb t (hdT ts).2 ta) :: (dR, rowObj kR lT p tp pb) :: (lR, listOf vs n) :: rest)) (T : Top hd.view_39 Lz mean mg mb h₀) (hk : cs.kind = .function)
    (hd : dp + 6 < recursionLimit) (hu : un + 60 < cLine) (R : RSt lR dC dR c src ah lT kR toks refs rest t p ts)
    (exc : ExcTo base h₀ L m (envOf cn cs L a ccd) outer rest x (hdT ts).2 s E) :
    wpAny (model PySem.Challenge.rw_sj0031_01.row.prog w) (ktrTop dp un gd cn cs L a ccd [] outer) (call (.ref 217) [.ref c, .str x tx]) Q E s :=
  fail_spec1 B F X N T hk hd hu (.head _) (.tail _ (.tail _ (.tail _ R.st.cur))) (exc.wk fun _ h => .tail _ (.tail _ (.tail _ h)))
end
end
local macro_rules | `(tactic| walk_at "nn") => `(tactic| first | k_asm | exact News.drop1 (by assumption))
local macro_rules | `(tactic| walk_at "kr") => `(tactic| (k_whole; intros; (have o' := RSt.offR (by assumption)); (try k_sweep)))
local macro_rules | `(tactic| walk_at "kx") => `(tactic| (k_whole; intros; k_dflt (intro h' tk' e' dx' g' ke' tx' ta' y' ty' FG' R' U')))
local macro_rules | `(tactic| walk_at "call ref") => `(tactic| (walk_at "cr"; (with_reducible refine Mine.cg 195 ?_); k_dflt (apply want3; walk_at "std"; (case R => assumption); (case' ret => walk_at "kr"); (case' exc => walk_at "kx"))))
local macro_rules | `(tactic| walk_at "call ref") => `(tactic| (walk_at "cr"; (with_reducible refine Mine.cg 202 ?_); k_dflt (apply key3; walk_at "std"; (case R => assumption); (case' ret => walk_at "kr"); (case' exc => walk_at "kx"))))
local macro_rules | `(tactic| walk_at "call ref") => `(tactic| (walk_at "cr"; (with_reducible refine Mine.cg 188 ?_); k_dflt (apply acc3; walk_at "std"; (case R => assumption); (case' yes => walk_at "kr"); (case' no => walk_at "kw"))))
local macro_rules | `(tactic| walk_at "call ref") => `(tactic| (walk_at "cr"; (with_reducible refine Mine.cg 35 ?_); k_dflt (apply field3; walk_at "std"; (case R => assumption); (case' ret => walk_at "kr"); (case' exc => walk_at "kx"))))
local macro_rules | `(tactic| walk_at "call ref") => `(tactic| (walk_at "cr"; (with_reducible refine Mine.cg 42 ?_); k_dflt (apply sym3; walk_at "std"; (case R | hx => assumption); (case' ret => walk_at "kr"); (case' exc => walk_at "kx"))))
local macro_rules | `(tactic| walk_at "call ref") => `(tactic| (walk_at "cr"; (with_reducible refine Mine.cg 217 ?_); k_dflt (apply fail3; walk_at "std"; (case R => assumption); walk_at "kx")))
section
theorem rstS12 : True := by
  w_top off
  trivial
set_option maxHeartbeats 4000000
structure TrS where
  vs : List Value
  n : Nat
  acc : List Dat
  ts : List (Tk × Int)
  t : Addr
  hb : Bool
  ta : Tok
  p : Nat
  tp : Tok
  pb : Bool
  tl : List (Addr × Obj)
noncomputable abbrev trLed (lR dC dR src ah lT : Addr) (kC kR : Nat → Int × Tok) (rest : List (Addr × Obj)) (c' : TrS) : List (Addr × Obj) := (dC, curObj kC src ah c'.hb c'.t (hdT c'.ts).2 c'.ta) :: (dR, rowObj kR lT c'.p c'.tp c'.pb) :: (lR, listOf c'.vs.toArray c'.n) :: (c'.tl ++ rest)
noncomputable abbrev trPs (_c' : TrS) : List (Str × Value) := []
noncomputable abbrev trF (lR dC dR c src ah lT : Addr) (kR : Nat → Int × Tok) (toks : List (Tk × Int)) (refs : List Addr) (rest : List (Addr × Obj)) (c' : TrS) : Prop := RSt lR dC dR c src ah lT kR toks refs (c'.tl ++ rest) c'.t c'.p c'.ts ∧ DatAll (c'.tl ++ rest) c'.vs c'.acc ∧ c'.vs.length + c'.ts.length ≤ 1000
noncomputable abbrev trP (held : Bool) (res : Rd (List Dat × List (Tk × Int))) (c' : TrS) : Prop := ∃ k, c'.ts.length < k ∧ rowsL held k c'.acc c'.ts = res
theorem tr_end {lR dC dR c src ah lT D : Addr} {kC kR : Nat → Int × Tok} {toks : List (Tk × Int)} {refs : List Addr} {rest led : List (Addr × Obj)} {held : Bool} {res : Rd (List Dat × List (Tk × Int))} {h₀ h' : Heap} {L : Addr} {s : Shared} {m₀ m' : Str → Option Value} {c' : TrS} {tk k n' p' nt : Nat}
    {vs vt : List Value} {acc : List Dat} {ts' : List (Tk × Int)} {t' : Addr} {hb' pb' : Bool} {ta' tp' : Tok}
    (F : Fr h₀ L h' m') (N : News h₀ L h' ((D, ({ cls := .type "tuple", data := .seq vt.toArray nt } : Obj)) :: (dC, curObj kC src ah hb' t' (hdT ts').2 ta') :: (dR, rowObj kR lT ((p' : Nat) : Int) tp' pb') :: (lR, listOf (vs.toArray.push (.ref D)) n') :: led)) (hl : ∃ tl', led = tl' ++ rest)
    (R : RSt lR dC dR c src ah lT kR toks refs led t' p' ts') (Da : DatAll led vs acc) {dv : List Dat} (Dd : DatAll led vt dv) (hn : vs.length + 1 + ts'.length ≤ 1000) (hr : ∀ z, (["ins", "state", "out"] : List Str).contains z = false → m' z = m₀ z)
    (hk : ts'.length < k) (hres : rowsL held k (acc ++ [.tuple dv]) ts' = res) (hlt : ts'.length < c'.ts.length) :
    KswEnd h₀ L s (trLed lR dC dR src ah lT kC kR rest) trPs (trF lR dC dR c src ah lT kR toks refs rest) ["ins", "state", "out"] m₀ (trP held res) (fun c' => c'.ts.length) c' { s with heap := h', toks := tk } := by
  obtain ⟨tl', rfl⟩ := hl
  rw [List.push_toArray] at N
  refine ksw_end ⟨vs ++ [.ref D], n', acc ++ [.tuple dv], ts', t', hb', ta', p', tp', pb', (D, _) :: tl'⟩ F (news_rot3 N) (fun _ h => h) ⟨R.tup N, ?_, ?_⟩ (fun q hq => nomatch hq) (fun z h1 h2 => hr z h2) ⟨k, hk, hres⟩ hlt
  · exact (Da.mono fun _ h => .tail _ h).append (.one (.tuple (.head _) (Dd.mono fun _ h => .tail _ h)))
  · simp only [List.length_append, List.length_singleton]; omega
theorem tr_fin {lR dC dR c src ah lT D : Addr} {kC kR : Nat → Int × Tok} {toks : List (Tk × Int)} {refs : List Addr} {rest led : List (Addr × Obj)} {h₀ h' : Heap} {L : Addr} {p' nt n' : Nat}
    {vs : List Value} {va : Array Value} {acc : List Dat} {ts' : List (Tk × Int)} {t' : Addr} {hb' pb' : Bool} {ta' tp' : Tok}
    (N : News h₀ L h' ((D, ({ cls := .type "tuple", data := .seq vs.toArray nt } : Obj)) :: (dC, curObj kC src ah hb' t' (hdT ts').2 ta') :: (dR, rowObj kR lT ((p' : Nat) : Int) tp' pb') :: (lR, listOf va n') :: led)) (hl : ∃ tl', led = tl' ++ rest)
    (R : RSt lR dC dR c src ah lT kR toks refs led t' p' ts') (Da : DatAll led vs acc) :
    ∃ tl, News h₀ L h' ((dC, curObj kC src ah hb' t' (hdT ts').2 ta') :: (dR, rowObj kR lT ((p' : Nat) : Int) tp' pb') :: (tl ++ rest)) ∧ PSt dC dR c src ah lT kR toks refs (tl ++ rest) t' p' ts' ∧ DatIn (tl ++ rest) (.ref D) (.tuple acc) := by
  obtain ⟨tl', rfl⟩ := hl
  refine ⟨(D, _) :: tl', News.sub (news_rot3 N) fun q hq => ?_, (R.tup N).st, .tuple (.head _) (Da.mono fun _ h => .tail _ h)⟩
  simp only [List.mem_cons, List.mem_append, List.cons_append] at hq ⊢
  rcases hq with h | h | h | h | h <;> simp [h]
theorem Raised.tl {base G : Heap} {l : List Env} {e dx : Addr} {q : Addr × Obj} {led rest : List (Addr × Obj)} {h : Heap} (R : Raised base G l e dx (q :: led) h) (hs : ∀ p ∈ rest, p ∈ led) : Raised base G l e dx (q :: rest) h := R.sub fun p hp => by
  rcases List.mem_cons.mp hp with rfl | hp
  · exact .head _
  · exact .tail _ (hs p hp)
theorem suf_app {x led rest : List (Addr × Obj)} (h : ∃ tl', led = tl' ++ rest) : ∃ tl', x ++ led = tl' ++ rest := by
  obtain ⟨tl, rfl⟩ := h
  exact ⟨x ++ tl, (List.append_assoc _ _ _).symm⟩
theorem row_step {held : Bool} {ts ts' : List (Tk × Int)} {acc : List Dat} {d : Dat} {k : Nat} {res : Rd (List Dat × List (Tk × Int))} (h : (thenR (oneRow held ts) fun q => rowsL held k (acc ++ [q.1]) q.2) = res) (h2 : oneRow held ts = .ok (d, ts')) : rowsL held k (acc ++ [d]) ts' = res := by
  rw [h2] at h; exact h
theorem ne_tt {b : Bool} (h : b = false) : ¬ b = true := by rw [h]; decide
section
variable {w : World} {mean : ExcName → Option Value} {mg mb : Str → Option Value} {dp un : Nat} {gd : Option (List Code)} {cn : Str} {cs : Scope} {a : Addr} {ccd : Value} {outer : List Env} {A₀ : Around} {base h₀ : Heap} {L : Addr} {m : Str → Option Value}
    {rest : List (Addr × Obj)} {s : Shared} {Q E : Value → Shared → Prop}
    {c ah t dC src dR lT : Addr} {kC kR : Nat → Int × Tok} {p : Nat} {tp ta tx : Tok} {pb hb held : Bool} {refs : List Addr} {toks ts : List (Tk × Int)}
theorem table_rows_spec
    (B : Below A₀ base outer h₀) (F : Fr h₀ L s.heap m) (X : (hd.heap_39 w.params).In h₀) (N : News h₀ L s.heap ((dC, curObj kC src ah hb t (hdT ts).2 ta) :: (dR, rowObj kR lT p tp pb) :: rest)) (T : Top hd.view_39 Lz mean mg mb h₀) (hk : cs.kind = .function)
    (hd : dp + 24 < recursionLimit) (hu : un + 180 < cLine) (P : PSt dC dR c src ah lT kR toks refs rest t p ts) (hsm : Small ts)
    (ret : ∀ h' tk' D rs ts' t' hb' ta' p' tp' pb' tl, tableL held ts = .ok (rs, ts') → Fr h₀ L h' m → News h₀ L h' ((dC, curObj kC src ah hb' t' (hdT ts').2 ta') :: (dR, rowObj kR lT ((p' : Nat) : Int) tp' pb') :: (tl ++ rest)) → PSt dC dR c src ah lT kR toks refs (tl ++ rest) t' p' ts' → DatIn (tl ++ rest) (.ref D) (.tuple rs) → Q (.ref D) { s with heap := h', toks := tk' })
    (exc : ∀ kind at_, tableL held ts = .error (kind, at_) → ExcTo base h₀ L m (envOf cn cs L a ccd) outer rest kind at_ s E) :
    wpAny (model PySem.Challenge.rw_sj0031_01.row.prog w) (ktrTop dp un gd cn cs L a ccd [] outer) (call (.ref 28) [.ref c, .bool held]) Q E s := by
  have p1 := P.cur
  have hlen := P.len
  refine wpAny_call ?_
  k_dflt ktr_enter
  repeat' ((fail_if_success (with_reducible show wpAny _ _ (PySem.call (Value.ref 202) _) _ _ _)); first | (k_unfold; (try dsimp only)) | walk1 | (dsimp only; walk1))
  rename_i lR _ l1 _ _ _ _
  have R0 : RSt lR dC dR c src ah lT kR toks refs rest t p ts := ⟨P, fun q hq => Nat.ne_of_lt (AllLt.mem' l1.2.2 q hq), Nat.ne_of_gt l1.1, Nat.ne_of_gt l1.2.1, hsm⟩
  rename News _ _ _ _ => N1
  have N2 := news_rot N1
  clear N1 l1
  ktn_open
  · rename Fr h₀ L _ m => FG'
    exact exc _ _ (if_neg (by simp only [Bool.not_eq_true]; assumption)) _ _ _ _ _ _ _ _ _ _ FG' (by assumption) (by assumption)
  have e0 : (hdT ts).1.isKey "table" = true := by assumption
  generalize hres : rowsL held (ts.length + 1) [] ts.tail = res
  have exc2 : ∀ kind at_, res = .error (kind, at_) → ExcTo base h₀ L m (envOf cn cs L a ccd) outer rest kind at_ s E := fun kind at_ e => exc kind at_ (by rw [tableL, if_pos e0, thenR_err (hres.trans e)])
  have exc3 : ∀ rs ts', res = .ok (rs, ts') → (hdT ts').1.isKey "endprimitive" = false → ExcTo base h₀ L m (envOf cn cs L a ccd) outer rest "unexpected_token" (hdT ts').2 s E := fun rs ts' e e' => exc _ _ (by rw [tableL, if_pos e0, thenR_ok (hres.trans e), if_neg (by simp only [Bool.not_eq_true]; exact e')])
  have ret2 := fun h' tk' D rs ts' t' hb' ta' p' tp' pb' tl (e : res = .ok (rs, ts')) (e' : (hdT ts').1.isKey "endprimitive" = true) => ret h' tk' D rs ts'.tail t' hb' ta' p' tp' pb' tl (by rw [tableL, if_pos e0, thenR_ok (hres.trans e), if_pos e'])
  clear exc ret
  rename Fr _ _ _ _ => F'
  rename News _ _ _ _ => N'
  rename RSt _ _ _ _ _ _ _ _ _ _ _ _ _ _ => R'
  refine' ksw_while (σ := TrS) (trLed lR dC dR src ah lT kC kR rest) trPs (trF lR dC dR c src ah lT kR toks refs rest) ["ins", "state", "out"] (trP held res) (fun c' => c'.ts.length) ⟨[], _, [], ts.tail, _, _, _, _, _, _, _⟩ F' N' ?hf ?hk ?hp ?turn ?hE
  case hk => exact fun q hq => nomatch hq
  case hf =>
    refine ⟨R', .nil, ?_⟩
    simp only [List.length_nil, List.length_tail]; omega
  case hp =>
    refine ⟨ts.length + 1, ?_, hres⟩
    simp only [List.length_tail]; omega
  case hE => passes_own
  case turn =>
    clear F' N' R' R0 N P p1 hres
    clear hlen hsm e0
    rintro ⟨vs, n, acc, ts1, t, hb, ta, p, tp, pb, tl⟩ u h tk ⟨R, D, hl⟩ ⟨k, hk1, hr⟩ F1 N1
    dsimp only [trLed] at R D hl hk1 hr F1 N1
    have o1 := R.offR
    have n1 := R.n1
    have n2 := R.n2
    have p1 := R.st.cur
    cases k with
    | zero => omega
    | succ k =>
    rw [rowsL] at hr
    ktn_open
    all_goals first
      | (rename Fr h₀ L _ m => FG'
         rename Raised _ _ _ _ _ _ _ => R8
         rw [if_neg (ne_tt (by assumption))] at hr
         refine exc2 _ _ (hr.symm.trans (thenR_err ?_)) _ _ _ _ _ _ _ _ _ _ FG' (Raised.tl R8 fun p hp => by repeat (first | exact hp | refine List.mem_append_right _ ?_)) (by assumption)
         repeat' (first
          | exact thenR_err (symF_bad (by assumption))
          | exact thenR_err (symF_no (by assumption) (by assumption))
          | exact thenR_err (want_bad (by assumption))
          | exact thenR_err (levelF_bad (by assumption))
          | exact thenR_err (levelF_no (by assumption) (by assumption))
          | (refine (thenR_ok (symF_ok (by assumption) (by assumption))).trans ?_; try dsimp only)
          | (refine (thenR_ok (want_ok (by assumption))).trans ?_; try dsimp only)
          | (refine (thenR_ok (levelF_ok (by assumption) (by assumption))).trans ?_; try dsimp only)
          | (refine (if_pos (by assumption)).trans ?_)
          | (refine (if_neg (ne_tt (by assumption))).trans ?_)
          | unfold oneRow
          | unfold stateF
          | unfold outF
          | exact rfl)
         done)
      | (rename Fr h₀ L _ m => FG'
         rename Raised _ _ _ _ _ _ _ => R8
         rw [if_pos (by assumption)] at hr
         refine exc3 _ _ hr.symm (by assumption) _ _ _ _ _ _ _ _ _ _ FG' (Raised.tl R8 fun p hp => by repeat (first | exact hp | refine List.mem_append_right _ ?_)) (by assumption))
      | skip
    · rename Fr _ _ _ _ => F9
      rename News _ _ _ _ => N9
      rename RSt _ _ _ _ _ _ _ _ _ _ _ _ _ _ => R9
      rename DatIn _ _ _ => d9
      rw [if_neg (ne_tt (by assumption))] at hr
      refine tr_end (k := k) F9 N9 ?_ R9 (D.mono fun p hp => by repeat (first | exact hp | refine List.mem_append_right _ ?_)) (.cons (d9.mono fun p hp => by repeat (first | exact hp | refine List.mem_append_right _ ?_)) (.cons (.str _ _) (.cons (.str _ _) .nil))) ?_ ?_ ?_ (row_step hr ?_) ?_
      · repeat refine suf_app ?_
        exact ⟨[], rfl⟩
      · omega
      · intro z hz
        simp only [List.contains_cons, List.contains_nil, Bool.or_false, Bool.or_eq_false_iff, beq_eq_false_iff_ne] at hz
        simp [hz, kstB]
      · omega
      · repeat' (first
          | exact thenR_err (symF_bad (by assumption))
          | exact thenR_err (symF_no (by assumption) (by assumption))
          | exact thenR_err (want_bad (by assumption))
          | exact thenR_err (levelF_bad (by assumption))
          | exact thenR_err (levelF_no (by assumption) (by assumption))
          | (refine (thenR_ok (symF_ok (by assumption) (by assumption))).trans ?_; try dsimp only)
          | (refine (thenR_ok (want_ok (by assumption))).trans ?_; try dsimp only)
          | (refine (thenR_ok (levelF_ok (by assumption) (by assumption))).trans ?_; try dsimp only)
          | (refine (if_pos (by assumption)).trans ?_)
          | (refine (if_neg (ne_tt (by assumption))).trans ?_)
          | unfold oneRow
          | unfold stateF
          | unfold outF
          | exact rfl)
      · show _ < ts1.length
        omega
    · rename Fr _ _ _ _ => F9
      rename News _ _ _ _ => N9
      rename RSt _ _ _ _ _ _ _ _ _ _ _ _ _ _ => R9
      rename DatIn _ _ _ => d9
      rw [if_neg (ne_tt (by assumption))] at hr
      refine tr_end (k := k) F9 N9 ?_ R9 (D.mono fun p hp => by repeat (first | exact hp | refine List.mem_append_right _ ?_)) (.cons (d9.mono fun p hp => by repeat (first | exact hp | refine List.mem_append_right _ ?_)) (.cons .none (.cons (.str _ _) .nil))) ?_ ?_ ?_ (row_step hr ?_) ?_
      · repeat refine suf_app ?_
        exact ⟨[], rfl⟩
      · omega
      · intro z hz
        simp only [List.contains_cons, List.contains_nil, Bool.or_false, Bool.or_eq_false_iff, beq_eq_false_iff_ne] at hz
        simp [hz, kstB]
      · omega
      · repeat' (first
          | exact thenR_err (symF_bad (by assumption))
          | exact thenR_err (symF_no (by assumption) (by assumption))
          | exact thenR_err (want_bad (by assumption))
          | exact thenR_err (levelF_bad (by assumption))
          | exact thenR_err (levelF_no (by assumption) (by assumption))
          | (refine (thenR_ok (symF_ok (by assumption) (by assumption))).trans ?_; try dsimp only)
          | (refine (thenR_ok (want_ok (by assumption))).trans ?_; try dsimp only)
          | (refine (thenR_ok (levelF_ok (by assumption) (by assumption))).trans ?_; try dsimp only)
          | (refine (if_pos (by assumption)).trans ?_)
          | (refine (if_neg (ne_tt (by assumption))).trans ?_)
          | unfold oneRow
          | unfold stateF
          | unfold outF
          | exact rfl)
      · show _ < ts1.length
        omega
    · rename Fr h₀ L _ _ => F9
      rename News h₀ L _ _ => N9
      rename RSt _ _ _ _ _ _ _ _ _ _ _ _ _ _ => R9
      rw [if_pos (by assumption)] at hr
      obtain ⟨tl9, N8, P8, D8⟩ := tr_fin (rest := rest) N9 (by (repeat refine suf_app ?_); exact ⟨[], rfl⟩) R9 (D.mono fun p hp => by repeat (first | exact hp | refine List.mem_append_right _ ?_))
      exact ret2 _ _ _ _ _ _ _ _ _ _ _ tl9 hr.symm (by assumption) F9 N8 P8 D8
end
end
end Mine
namespace Mine
section
theorem rstS13 : True := by
  w_top off
  trivial
set_option maxHeartbeats 4000000
theorem news_sw {h₀ h : Heap} {L : Addr} {a b c d : Addr × Obj} {r : List (Addr × Obj)} (N : News h₀ L h (a :: b :: c :: d :: r)) : News h₀ L h (c :: d :: a :: b :: r) := fun q hq => N q (by
  simp only [List.mem_cons] at hq ⊢
  rcases hq with h | h | h | h | h <;> simp [h])
theorem off_sw {h₀ h : Heap} {L lA x' d' dR : Addr} {oA oX oD oR oR' : Obj} {rest : List (Addr × Obj)} (_ : News h₀ L h ((lA, oA) :: (x', oX) :: (d', oD) :: (dR, oR) :: rest)) (l9 : @LT.lt Nat _ x' lA ∧ @LT.lt Nat _ d' lA ∧ @LT.lt Nat _ dR lA ∧ AllLt lA rest)
    (l1 : ∀ q ∈ (dR, oR') :: rest, @LT.lt Nat _ q.1 d') (l2 : @LT.lt Nat _ d' x') (hoff : ∀ q ∈ rest, q.1 ≠ dR) : ∀ q ∈ (lA, oA) :: (x', oX) :: rest, q.1 ≠ d' ∧ q.1 ≠ dR := fun q hq => by
  have d1 : @LT.lt Nat _ dR d' := l1 _ (.head _)
  rcases List.mem_cons.mp hq with rfl | hq
  · exact ⟨Nat.ne_of_gt l9.2.1, Nat.ne_of_gt l9.2.2.1⟩
  rcases List.mem_cons.mp hq with rfl | hq
  · exact ⟨Nat.ne_of_gt l2, Nat.ne_of_gt (Nat.lt_trans d1 l2)⟩
  · exact ⟨Nat.ne_of_lt (l1 q (.tail _ hq)), hoff q hq⟩
theorem ex_sw {h₀ h : Heap} {L lA d' src : Addr} {a c : Addr × Obj} {r : List (Addr × Obj)} {i1 i2 i3 : Int} {t1 t2 t3 : Tok} {oA : Obj} (N : News h₀ L h ((lA, oA) :: a :: (d', dictOf [⟨i1, .str "source" t1, .ref src⟩, ⟨i2, .str "ahead" t2, .ref lA⟩, ⟨i3, .str "hashed" t3, .bool false⟩] 3) :: c :: r)) :
    ∃ kC, News h₀ L h ((d', curObj3 kC src lA false) :: c :: (lA, oA) :: a :: r) := ⟨kOf3 (i1, t1) (i2, t2) (i3, t3), news_sw N⟩
theorem ex_cur {h₀ h : Heap} {L d' src ah t : Addr} {at_ : Int} {ta t1 t2 : Tok} {i1 i2 : Int} {hb : Bool} {kC : Nat → Int × Tok} {r : List (Addr × Obj)} (N : News h₀ L h ((d', dictOf [ent kC 0 "source" (.ref src), ent kC 1 "ahead" (.ref ah), ent kC 2 "hashed" (.bool hb), ⟨i1, .str "token" t1, .ref t⟩, ⟨i2, .str "at" t2, .int at_ ta⟩] 5) :: r)) :
    ∃ kC, News h₀ L h ((d', curObj kC src ah hb t at_ ta) :: r) := ⟨fun n => match n with | 0 => kC 0 | 1 => kC 1 | 2 => kC 2 | 3 => (i1, t1) | _ => (i2, t2), N⟩
theorem under_units {dp un : Nat} {gd : Option (List Code)} {cn : Str} {cs : Scope} {L a : Addr} {ccd : Value} {outer : List Env} {args : Args} (hu : un + 300 < cLine) : ((ktrTop dp un gd cn cs L a ccd [] outer).under (Code.builtin "type.__call__" args)).units + 3 + 80 < cLine := by
  have e : ((ktrTop dp un gd cn cs L a ccd [] outer).under (Code.builtin "type.__call__" args)).units = un + 1 := rfl
  omega
theorem fin_cur {h₀ h' : Heap} {L lA d' dR src x' t lT : Addr} {ta t1 t2 : Tok} {i1 i2 : Int} {hb pb : Bool} {kC kR : Nat → Int × Tok} {rest tl : List (Addr × Obj)} {m : Str → Option Value} {toks : List (Tk × Int)} {refs : List Addr} {p nL : Nat} {tp : Tok} {G : Prop}
    (N : News h₀ L h' ((d', dictOf [ent kC 0 "source" (.ref src), ent kC 1 "ahead" (.ref lA), ent kC 2 "hashed" (.bool hb), ⟨i1, .str "token" t1, .ref t⟩, ⟨i2, .str "at" t2, .int (hdT (toks.drop 0)).2 ta⟩] 5) :: (dR, rowObj kR lT p tp pb) :: (tl ++ (lA, listOf #[] 0) :: (x', instObj 220 d') :: rest))) (_ : Fr h₀ L h' m)
    (hS : (src, instObj 120 dR) ∈ rest) (hL : (lT, listOf (refs.map Value.ref).toArray nL) ∈ rest) (all : ToksAt rest refs toks) (hsm : toks.length < 1000)
    (tok : TokAt (tl ++ (lA, listOf #[] 0) :: (x', instObj 220 d') :: rest) t (hdT (toks.drop 0))) (fut : toks.drop p = (toks.drop 0).tail) (ple : p ≤ toks.length) (offA : ∀ q ∈ tl ++ (lA, listOf #[] 0) :: (x', instObj 220 d') :: rest, q.1 ≠ d') (offB : ∀ q ∈ tl ++ (lA, listOf #[] 0) :: (x', instObj 220 d') :: rest, q.1 ≠ dR) (ne : d' ≠ dR)
    (k : ∀ tl' kC', tl' = tl ++ [(lA, listOf #[] 0), (x', instObj 220 d')] → p ≤ toks.length → d' ≠ dR → News h₀ L h' ((d', curObj kC' src lA hb t (hdT toks).2 ta) :: (dR, rowObj kR lT p tp pb) :: (tl' ++ rest)) → PSt d' dR x' src lA lT kR toks refs (tl' ++ rest) t p toks → G) : G := by
  obtain ⟨kC', N'⟩ := ex_cur N
  have e : (tl ++ [(lA, listOf #[] 0), (x', instObj 220 d')]) ++ rest = tl ++ (lA, listOf #[] 0) :: (x', instObj 220 d') :: rest := by simp
  refine k (tl ++ [(lA, listOf #[] 0), (x', instObj 220 d')]) kC' rfl ple ne (by rw [e]; exact N') ?_
  rw [e]
  have up : ∀ q ∈ rest, q ∈ tl ++ (lA, listOf #[] 0) :: (x', instObj 220 d') :: rest := fun q hq => List.mem_append_right _ (.tail _ (.tail _ hq))
  exact ⟨List.mem_append_right _ (.tail _ (.head _)), up _ hS, ⟨_, List.mem_append_right _ (.head _)⟩, ⟨_, up _ hL⟩, all.mono up, tok, fut, ple, fun q hq => ⟨offA q hq, offB q hq⟩, ne, hsm⟩
section
variable {w : World} {mean : ExcName → Option Value} {mg mb : Str → Option Value} {dp un : Nat} {gd : Option (List Code)} {cn : Str} {cs : Scope} {a : Addr} {ccd : Value} {outer : List Env} {A₀ : Around} {base h₀ : Heap} {L : Addr} {m : Str → Option Value}
    {rest news : List (Addr × Obj)} {s : Shared} {Q E : Value → Shared → Prop}
    {src dR lT x : Addr} {kR : Nat → Int × Tok} {p : Nat} {tp : Tok} {pb : Bool} {refs : List Addr} {toks : List (Tk × Int)}
theorem row_new
    (B : Below A₀ base outer h₀) (F : Fr h₀ L s.heap m) (X : (hd.heap_39 w.params).In h₀) (N : News h₀ L s.heap news) (T : Top hd.view_39 Lz mean mg mb h₀) (hk : cs.kind = .function)
    (hd : dp + 3 < recursionLimit) (hu : un + 40 < cLine)
    (ret : ∀ h' tk' x d k tp, Fr h₀ L h' m → News h₀ L h' ((x, instObj 120 d) :: (d, rowObj k lT 0 tp false) :: news) → (∀ q ∈ news, q.1 < d) → d < x → Q (.ref x) { s with heap := h', toks := tk' }) :
    wpAny (model PySem.Challenge.rw_sj0031_01.row.prog w) (ktrTop dp un gd cn cs L a ccd [] outer) (call (.ref 120) [.ref lT]) Q E s := by
  refine call_cls F X N (by k_is) (by k_is) (by k_is) ?_
  intro x' d' h' F' N' l1 l2
  have l3 : ∀ p ∈ news, p.1 ≠ d' := fun p hp => Nat.ne_of_lt (l1 p hp)
  have l4 : d' ≠ x' := Nat.ne_of_lt l2
  k_enter
  k_steps
  exact ret _ _ _ _ (kOf3 (_, _) (_, _) (_, _)) _ (by assumption) (by assumption) l1 l2
theorem cur_new
    (B : Below A₀ base outer h₀) (F : Fr h₀ L s.heap m) (X : (hd.heap_39 w.params).In h₀) (N : News h₀ L s.heap ((dR, rowObj kR lT 0 tp pb) :: rest)) (T : Top hd.view_39 Lz mean mg mb h₀) (hk : cs.kind = .function)
    (hd : dp + 20 < recursionLimit) (hu : un + 300 < cLine)
    (hS : (src, instObj 120 dR) ∈ rest) (hL : ∃ n, (lT, listOf (refs.map Value.ref).toArray n) ∈ rest) (all : ToksAt rest refs toks) (hsm : toks.length < 1000) (hoff : ∀ q ∈ rest, q.1 ≠ dR)
    (ret : ∀ h' tk' c dC ah kC hb t ta p' tp' pb' tl, Fr h₀ L h' m → News h₀ L h' ((dC, curObj kC src ah hb t (hdT toks).2 ta) :: (dR, rowObj kR lT ((p' : Nat) : Int) tp' pb') :: (tl ++ rest)) → PSt dC dR c src ah lT kR toks refs (tl ++ rest) t p' toks → Q (.ref c) { s with heap := h', toks := tk' }) :
    wpAny (model PySem.Challenge.rw_sj0031_01.row.prog w) (ktrTop dp un gd cn cs L a ccd [] outer) (call (.ref 220) [.ref src]) Q E s := by
  refine call_cls F X N (by k_is) (by k_is) (by k_is) ?_
  intro x' d' h' F' N' l1 l2
  have l3 : ∀ p ∈ (dR, rowObj kR lT 0 tp pb) :: rest, p.1 ≠ d' := fun p hp => Nat.ne_of_lt (l1 p hp)
  have l4 : d' ≠ x' := Nat.ne_of_lt l2
  k_enter
  repeat' ((fail_if_success (with_reducible show wpAny _ _ (PySem.call (Value.ref 145) _) _ _ _)); first | (k_unfold; (try dsimp only)) | walk1 | (dsimp only; walk1))
  rename Fr _ _ _ _ => F9
  rename News _ _ _ _ => N9
  rename (@LT.lt Nat _ _ _ ∧ @LT.lt Nat _ _ _ ∧ @LT.lt Nat _ _ _ ∧ AllLt _ _) => l9
  have d1 : @LT.lt Nat _ dR d' := l1 _ (.head _)
  have hoff9 := off_sw N9 l9 l1 l2 hoff
  obtain ⟨nL, hL⟩ := hL
  obtain ⟨kC, N7⟩ := ex_sw N9
  k_dflt (refine fetch_init (kC := kC) (rest := (_, listOf #[] 0) :: (x', instObj 220 d') :: rest) (by k_asm) F9 (by k_asm) N7 (by k_asm) (by with_unfolding_all rfl) ?kd ?ku (.tail _ (.head _)) (.tail _ (.tail _ hS)) ⟨nL, .tail _ (.tail _ hL)⟩ (all.mono fun q hq => .tail _ (.tail _ hq)) hsm (Nat.zero_le _) hoff9 (Nat.ne_of_gt d1) ?_)
  case kd => ktr_room
  case ku => exact under_units hu
  intro h8 tk8 t8 hb8 p8 tp8 pb8 tl8 F8 N8 tok8 fut8 ple8 new8
  have offA := newer_offC new8 hoff9
  have offB := newer_offR new8 hoff9
  have ne1 := Nat.ne_of_gt d1
  obtain ⟨dT, kT, kkT, vT, taT, m1, m2, m3⟩ := id tok8
  clear N7 N9
  k_whole
  k_steps
  rename News h₀ _ _ _ => N9
  rename Fr h₀ _ _ m => F9
  exact fin_cur N9 F9 (hS := hS) (hL := hL) (all := all) hsm tok8 fut8 ple8 offA offB ne1 fun _ kC _ _ _ N P => ret _ _ _ _ _ kC _ _ _ _ _ _ _ F9 N P
end
end
section
theorem rstP1 : True := by
  w_top off
  trivial
set_option maxHeartbeats 4000000
local macro_rules | `(tactic| walk_at "binaryOp FloorDiv int int") => `(tactic| (k_here; (refine floordiv_int (by assumption) ?_ (Or.inl (PyProof.noPylong_of_log2 (by assumption))))))
local macro_rules | `(tactic| walk_at "call builtin:list.pop") => `(tactic| (k_here; k_dflt (apply pop0; (case F | N => k_asm); (case U => k_upd); (case hI | hne | hlen => assumption); walk_at "kn")))
local macro_rules | `(tactic| walk_at "compareOp Eq ref ref") => `(tactic| (k_here; k_dflt (apply eq_nil; (case N => k_asm); (case m1 | m2 => k_mem); (case hI => assumption); (case hu => ktr_units); (case' h1 => walk_at "kn"); (case' h2 => walk_at "kn"))))
section
variable {w : World} {mean : ExcName → Option Value} {mg mb : Str → Option Value} {dp un : Nat} {gd : Option (List Code)} {cn : Str} {cs : Scope} {a : Addr} {ccd : Value} {outer : List Env} {A₀ : Around} {base h₀ : Heap} {L : Addr} {m : Str → Option Value}
    {rest : List (Addr × Obj)} {s : Shared} {Q E : Value → Shared → Prop} {lF lC : Addr} {x y many : Int} {tx ty tm : Tok} {vs : List Value} {ns : List Int} {nF nC : Nat}
theorem pick_spec
    (B : Below A₀ base outer h₀) (F : Fr h₀ L s.heap m) (X : (hd.heap_39 w.params).In h₀) (N : News h₀ L s.heap ((lF, listOf #[.ref lC, .int x tx, .int y ty] nF) :: (lC, listOf vs.toArray nC) :: rest)) (T : Top hd.view_39 Lz mean mg mb h₀) (hk : cs.kind = .function)
    (hd : dp + 3 < recursionLimit) (hu : un + 100 < cLine) (hI : DatAll [] vs (ns.map Dat.int)) (hm : 0 < many) (hm2 : many ≤ 1000) (hlen : vs.length ≤ 40) (n1 : lF ≠ lC) (o1 : ∀ q ∈ rest, q.1 ≠ lF) (o2 : ∀ q ∈ rest, q.1 ≠ lC)
    (ret : ∀ (h' : Heap) tk' r tr x' tx' y' ty' (vs' : List Value) (ns' : List Int) nC' nF', 0 ≤ r → r < many → DatAll [] vs' (ns'.map Dat.int) → vs'.length ≤ 40 → Fr h₀ L h' m → News h₀ L h' ((lF, listOf #[.ref lC, .int x' tx', .int y' ty'] nF') :: (lC, listOf vs'.toArray nC') :: rest) → Q (.int r tr) { s with heap := h', toks := tk' }) :
    wpAny (model PySem.Challenge.rw_sj0031_01.row.prog w) (ktrTop dp un gd cn cs L a ccd [] outer) (call (.ref 236) [.ref lF, .int many tm]) Q E s := by
  have hne : many ≠ 0 := by omega
  have hlog := log_small hm hm2
  refine wpAny_call ?_
  k_dflt ktr_enter
  ktn_open
  · rename News h₀ L _ _ => N9
    exact ret _ _ _ _ _ _ _ _ _ _ _ _ (Int.fmod_nonneg_of_pos _ hm) (Int.fmod_lt_of_pos _ hm) (by assumption) (by assumption) (by assumption) (News.drop1 N9)
  · rename News h₀ L _ _ => N9
    exact ret _ _ _ _ _ _ _ _ _ _ _ _ (Int.fmod_nonneg_of_pos _ hm) (Int.fmod_lt_of_pos _ hm) hI hlen (by assumption) (News.drop1 N9)
  · rename News h₀ L _ _ => N9
    exact ret _ _ _ _ _ _ _ _ _ _ _ _ (Int.fmod_nonneg_of_pos _ hm) (Int.fmod_lt_of_pos _ hm) hI hlen (by assumption) N9
end
end
local macro_rules | `(tactic| walk_at "call ref") => `(tactic| (walk_at "cr"; (with_reducible refine Mine.cg 236 ?_); k_dflt (apply pick_spec; walk_at "std"; walk_at "fp"; (case hm | hm2 => first | decide | assumption | omega); walk_at "kw")))
local macro_rules | `(tactic| walk_at "call builtin:str.split") => `(tactic| (k_here; (refine KSpl.split1 (by k_asm) (by k_asm) (by decide) ?_ (by size_fits)); intros))
section
local macro_rules | `(tactic| walk_at "pad") => `(tactic| fail "pad")
theorem rstP2 : True := by
  w_top off
  trivial
set_option maxHeartbeats 4000000
local macro_rules | `(tactic| walk_at "subscriptTail") => `(tactic| (k_here; (with_reducible show wpAny _ _ (subscriptTail _ _ (Value.ref _) (Value.int _ _)) _ _ _); k_dflt (refine item_str (by k_asm) (by k_mem) (by assumption) (by assumption) (by assumption) (by assumption) (by assumption) ?_ (by with_unfolding_all rfl); intros)))
section
variable {w : World} {mean : ExcName → Option Value} {mg mb : Str → Option Value} {dp un : Nat} {gd : Option (List Code)} {cn : Str} {cs : Scope} {a : Addr} {ccd : Value} {outer : List Env} {A₀ : Around} {base h₀ : Heap} {L : Addr} {m : Str → Option Value}
    {rest : List (Addr × Obj)} {s : Shared} {Q E : Value → Shared → Prop} {lF lC lS lO : Addr} {x y : Int} {tx ty : Tok} {vs ss os : List Value} {ns : List Int} {xs ys : List Str} {nF nC nS nO : Nat}
theorem some_spec
    (B : Below A₀ base outer h₀) (F : Fr h₀ L s.heap m) (X : (hd.heap_39 w.params).In h₀) (N : News h₀ L s.heap ((lF, listOf #[.ref lC, .int x tx, .int y ty] nF) :: (lC, listOf vs.toArray nC) :: rest)) (T : Top hd.view_39 Lz mean mg mb h₀) (hk : cs.kind = .function)
    (hd : dp + 6 < recursionLimit) (hu : un + 120 < cLine) (hI : DatAll [] vs (ns.map Dat.int)) (hlen : vs.length ≤ 40) (n1 : lF ≠ lC) (o1 : ∀ q ∈ rest, q.1 ≠ lF) (o2 : ∀ q ∈ rest, q.1 ≠ lC)
    (mS : (lS, listOf ss.toArray nS) ∈ rest) (mO : (lO, listOf os.toArray nO) ∈ rest) (dS : StrsAre ss xs) (dO : StrsAre os ys) (hS : 0 < (ss.length : Int)) (hO : 0 < (os.length : Int)) (hS2 : ss.length ≤ 1000) (hO2 : os.length ≤ 1000) (hxl : ∀ x ∈ xs, x.length ≤ 100) (hyl : ∀ x ∈ ys, x.length ≤ 100) (hxv : ∀ x ∈ xs, (Txt.split x " ").length ≤ 5 ∧ ∀ z ∈ Txt.split x " ", V z = true) (hyv : ∀ x ∈ ys, (Txt.split x " ").length ≤ 5 ∧ ∀ z ∈ Txt.split x " ", V z = true)
    (ret : ∀ (h' : Heap) tk' D (us : List Value) (zs : List Str) x' tx' y' ty' (vs' : List Value) (ns' : List Int) nC' nF', us.length ≤ 5 → (∀ z ∈ zs, V z = true) → DatAll [] us (zs.map Dat.str) → DatAll [] vs' (ns'.map Dat.int) → vs'.length ≤ 40 → (∀ q ∈ rest, @LT.lt Nat _ q.1 D) → @LT.lt Nat _ lF D → @LT.lt Nat _ lC D → Fr h₀ L h' m →
      News h₀ L h' ((D, listOf us.toArray 0) :: (lF, listOf #[.ref lC, .int x' tx', .int y' ty'] nF') :: (lC, listOf vs'.toArray nC') :: rest) → Q (.ref D) { s with heap := h', toks := tk' }) :
    wpAny (model PySem.Challenge.rw_sj0031_01.row.prog w) (ktrTop dp un gd cn cs L a ccd [] outer) (call (.ref 250) [.ref lF, .ref lS, .ref lO]) Q E s := by
  have dS' := strs_dat dS
  have dO' := strs_dat dO
  have hS3 : (ss.length : Int) ≤ 1000 := by omega
  have hO3 : (os.length : Int) ≤ 1000 := by omega
  refine wpAny_call ?_
  k_dflt ktr_enter
  ktn_open
  · rename News h₀ L _ _ => N9
    rename StrsAre _ _ => a9
    rename_i l1 _ _ _
    have d9 := strs_dat a9
    rename (List.map _ _ = Txt.split _ _) => e9
    have v9 := hyv _ (by assumption)
    exact ret _ _ _ _ _ _ _ _ _ _ _ _ _ (by rw [d9.length, List.length_map, e9]; exact v9.1) (by rw [e9]; exact v9.2) d9 (by assumption) (by assumption) (fun q hq => l1 q (.tail _ (.tail _ hq))) (l1 _ (.head _)) (l1 _ (.tail _ (.head _))) (by assumption) N9
  · rename News h₀ L _ _ => N9
    rename StrsAre _ _ => a9
    rename_i l1 _ _ _
    have d9 := strs_dat a9
    rename (List.map _ _ = Txt.split _ _) => e9
    have v9 := hxv _ (by assumption)
    exact ret _ _ _ _ _ _ _ _ _ _ _ _ _ (by rw [d9.length, List.length_map, e9]; exact v9.1) (by rw [e9]; exact v9.2) d9 (by assumption) (by assumption) (fun q hq => l1 q (.tail _ (.tail _ hq))) (l1 _ (.head _)) (l1 _ (.tail _ (.head _))) (by assumption) N9
end
end
section
theorem item_nat {x : Str} {i c : Nat} (h : x.cps[i]? = some c) : Txt.item x (i : Int) = ⟨#[c]⟩ := by
  have hlt : i < x.length := (Array.getElem?_eq_some_iff.mp h).1
  have e : Txt.charAt x (i : Int) = some c := by
    have e1 : seqIndex? (i : Int) x.length = some i := by
      unfold seqIndex?
      simp
      omega
    show ((seqIndex? (i : Int) x.length).bind (x.cps[·]?)) = some c
    rw [e1]
    exact h
  rw [Txt.item, e]
  rfl
theorem chars_eq (x : Str) : chars x = x.cps.toList.map fun (c : Nat) => (⟨#[c]⟩ : Str) := by
  refine List.ext_getElem? fun i => ?_
  rw [chars, List.getElem?_map, List.getElem?_map, Array.getElem?_toList (xs := x.cps)]
  cases h : x.cps[i]? with
  | none =>
    have : x.length ≤ i := Array.getElem?_eq_none_iff.mp h
    rw [List.getElem?_eq_none (by rw [List.length_range]; exact this)]
    rfl
  | some c =>
    have hlt : i < x.length := (Array.getElem?_eq_some_iff.mp h).1
    rw [List.getElem?_range hlt]
    exact congrArg some (item_nat h)
section
variable {prog : Program} {w : World} {A : Around} {E : Value → Shared → Prop} {s : Shared} {env : Env} {h₀ : Heap} {x : Str} {body : List Stmt} {Q : Flow → Shared → Prop} {σ : Type}
theorem st_walks {I : Addr} {St : Nat → Heap → Prop} {y : Str} {m₀ : Str → Option Value} (Led : σ → List (Addr × Obj)) (ps : σ → List (Str × Value)) (stored : List Str) (J : Nat → σ → Prop) (c₀ : σ)
    (W : Walks prog w A I [I] [I] y.cps.size (SignAt y) St) (hob : ∀ i h, St i h → ∃ o, h.get? I = some o) (hLf : env.locals ≠ I) (hI : h₀.get? I = none) (hst : St 0 s.heap) (hnew : ∀ p ∈ Led c₀, p.1 ≠ I)
    (F : Fr h₀ env.locals s.heap m₀) (N : News h₀ env.locals s.heap (Led c₀)) (hk : ∀ q ∈ ps c₀, m₀ q.1 = some q.2) (hj : J 0 c₀)
    (turn : ∀ (c : σ) (i : Nat) z t (u : Str → Option Value) (h : Heap) tk own, (chars y)[i]? = some z → J i c → OwnOff own ((Led c).map (·.1)) → Fr h₀ env.locals h (stM x (some (.str z t)) stored u m₀ (ps c)) → News h₀ env.locals h (Led c ++ own) →
      wpAny (model prog w) A (execs body env) (StPost h₀ env.locals x Led ps stored m₀ (J (i + 1)) own { s with heap := h, toks := tk } Q) E { s with heap := h, toks := tk })
    (done : ∀ (c : σ) (u : Str → Option Value) v (h : Heap) tk, J (chars y).length c → Fr h₀ env.locals h (stM x v stored u m₀ (ps c)) → News h₀ env.locals h (Led c) → Q .next { s with heap := h, toks := tk }) :
    LoopAtV prog w A h₀ env x body Q E (.ref I) s := by
  refine kdr_loop (fun i m nx => StJ x Led ps stored m₀ (J i) m nx) W (fun _ h => h) (fun _ h => h) ?_ ?_ ?_ ?_ hst F N ⟨c₀, rfl, hk, fun _ _ _ _ => rfl, hj⟩ ?_ ?_
  · intro i h hi b hb
    rw [List.mem_singleton.mp hb]
    exact hob i h hi
  · intro hm
    exact hLf (List.mem_singleton.mp hm)
  · intro b hb
    rw [List.mem_singleton.mp hb]
    exact hI
  · intro p hp hm
    exact hnew p hp (List.mem_singleton.mp hm)
  · rintro i v m₁ nx h tk own hi ⟨cc, t, hc, rfl⟩ hoff ⟨c, rfl, h1, h2, hJ⟩ F₁ N₁
    rw [stM_eq _ h1 h2] at F₁
    have e : (chars y)[i]? = some ⟨#[cc]⟩ := by rw [chars_eq, List.getElem?_map, Array.getElem?_toList, hc]; rfl
    exact wpAny_mono (turn c i _ t m₁ h tk own e hJ hoff F₁ N₁) (fun f s₂ p => StJ.post p) fun _ _ e => e
  · rintro m₁ nx h tk ⟨c, rfl, h1, h2, hJ⟩ F₁ N₁
    have e := stM_eq (x := x) (m₁ x) h1 h2
    have e2 : (fun y => if y = x then m₁ x else m₁ y) = m₁ := funext fun y => by
      by_cases e : y = x
      · simp only [e, if_true]
      · simp only [e, if_false]
    exact done c m₁ (m₁ x) h tk (by rw [chars_length]; exact hJ) (by rw [← e, e2]; exact F₁) N₁
/-- a for over the signs of a text with a state -/
theorem st_str {y : Str} {ty : Tok} {m₀ : Str → Option Value} (Led : σ → List (Addr × Obj)) (ps : σ → List (Str × Value)) (stored : List Str) (J : Nat → σ → Prop) (c₀ : σ)
    (hh : A.handled = none) (F : Fr h₀ env.locals s.heap m₀) (N : News h₀ env.locals s.heap (Led c₀)) (hk : ∀ q ∈ ps c₀, m₀ q.1 = some q.2) (hj : J 0 c₀)
    (turn : ∀ (c : σ) (i : Nat) z t (u : Str → Option Value) (h : Heap) tk own, (chars y)[i]? = some z → J i c → OwnOff own ((Led c).map (·.1)) → Fr h₀ env.locals h (stM x (some (.str z t)) stored u m₀ (ps c)) → News h₀ env.locals h (Led c ++ own) →
      wpAny (model prog w) A (execs body env) (StPost h₀ env.locals x Led ps stored m₀ (J (i + 1)) own { s with heap := h, toks := tk } Q) E { s with heap := h, toks := tk })
    (done : ∀ (c : σ) (u : Str → Option Value) v (h : Heap) tk, J (chars y).length c → Fr h₀ env.locals h (stM x v stored u m₀ (ps c)) → News h₀ env.locals h (Led c) → Q .next { s with heap := h, toks := tk }) :
    wpAny (model prog w) A (pyIter (.str y ty)) (fun it s₂ => LoopAtV prog w A h₀ env x body Q E it s₂) E s := by
  have hL := F.ns.lt
  have hN : ∀ p ∈ Led c₀, p.1 ≠ s.heap.objs.size := fun p hp => Nat.ne_of_lt (Heap.lt_size (N p hp).1)
  cases ha : y.cps.all (· < 128)
  · exact wpAny_pyIter_wide ha (st_walks Led ps stored J c₀ (Walks.strWide hh _ y ty) (fun i h st => let ⟨o, ho, _⟩ := st; ⟨o, ho⟩) (Nat.ne_of_lt hL) (next_is_new F) ⟨_, Heap.get?_push_size _ rfl, rfl, rfl⟩ hN (F.push _) (fun p hp => ⟨Heap.get?_push_of_some _ (N p hp).1, (N p hp).2⟩) hk hj turn done)
  · exact wpAny_pyIter_ascii ha (st_walks Led ps stored J c₀ (Walks.strAscii hh _ y ty) (fun i h st => let ⟨o, ho, _⟩ := st; ⟨o, ho⟩) (Nat.ne_of_lt hL) (next_is_new F) ⟨_, Heap.get?_push_size _ rfl, rfl, rfl⟩ hN (F.push _) (fun p hp => ⟨Heap.get?_push_of_some _ (N p hp).1, (N p hp).2⟩) hk hj turn done)
end
end
section
noncomputable def cat (a b : Option (List Dat)) : Option (List Dat) := a.bind fun x => b.map (x ++ ·)
noncomputable def lettersD (cs : List Str) : Option (List Dat) := if cs.all isSym then some (cs.map Dat.str) else none
noncomputable def edgeP : List Str → Option (List Dat)
  | a :: b :: e :: r => if e == ")" && isLev a && isLev b then (lettersD r).map (edgeD a b :: ·) else none
  | _ => none
noncomputable def flatP (ps : List Str) : List Str := (ps.map fun p => ("(" : Str) :: chars p).flatten
noncomputable def sufL (x : Str) (ps : List Str) (k : Nat) : Option (List Dat) := if k = 0 then symL (chars x) else symL (flatP (ps.drop k))
theorem cat_cat (xs ys : List Dat) (b : Option (List Dat)) : cat (some xs) (cat (some ys) b) = cat (some (xs ++ ys)) b := by
  cases b <;> simp [cat]
theorem cat_none (xs : List Dat) (b : Option (List Dat)) : cat (some xs) (cat none b) = none := rfl
theorem letters_cons {y : Str} {r : List Str} : lettersD (y :: r) = if isSym y then (lettersD r).map (.str y :: ·) else none := by
  unfold lettersD
  rw [List.all_cons]
  cases isSym y <;> cases r.all isSym <;> rfl
theorem symL_letters {t : List Str} : ∀ {cs : List Str}, (∀ y ∈ cs, (y == ("(" : Str)) = false) → symL (cs ++ t) = cat (lettersD cs) (symL t)
  | [], _ => by
    show symL t = (symL t).map _
    cases symL t <;> rfl
  | y :: r, h => by
    rw [List.cons_append, symL_one (h y (.head _)), letters_cons, symL_letters fun z hz => h z (.tail _ hz)]
    cases isSym y
    · rfl
    · cases lettersD r <;> cases symL t <;> rfl
theorem lev_par : isLev ("(" : Str) = false := by decide +kernel
theorem par_end : (("(" : Str) == (")" : Str)) = false := by decide +kernel
theorem par_par : (("(" : Str) == ("(" : Str)) = true := by decide +kernel
/-- what follows a part: nothing, or the next sign that opens -/
noncomputable def Opens (t : List Str) : Prop := t = [] ∨ ∃ r, t = ("(" : Str) :: r
theorem symL_edge {p t : List Str} (hp : ∀ y ∈ p, (y == ("(" : Str)) = false) (ht : Opens t) : symL (("(" : Str) :: (p ++ t)) = cat (edgeP p) (symL t) := by
  rw [symL_par par_par]
  rcases p with _ | ⟨a, _ | ⟨b, _ | ⟨e, r⟩⟩⟩
  · rcases ht with rfl | ⟨r, rfl⟩
    · rfl
    · rcases r with _ | ⟨b, _ | ⟨e, r⟩⟩
      · rfl
      · rfl
      · simp [lev_par, cat, edgeP]
  · rcases ht with rfl | ⟨r, rfl⟩
    · rfl
    · rcases r with _ | ⟨e, r⟩
      · rfl
      · simp [lev_par, cat, edgeP]
  · rcases ht with rfl | ⟨r, rfl⟩
    · rfl
    · simp [par_end, cat, edgeP]
  · simp only [List.cons_append, edgeP]
    rw [symL_letters fun y hy => hp y (.tail _ (.tail _ (.tail _ hy)))]
    cases (e == (")" : Str) && isLev a && isLev b)
    · rfl
    · cases lettersD r <;> cases symL t <;> rfl
theorem chars_append (x y : Str) : chars (x ++ y) = chars x ++ chars y := by
  rw [chars_eq, chars_eq, chars_eq, ← List.map_append]
  congr 1
  exact Array.toList_append
theorem chars_par : chars ("(" : Str) = [("(" : Str)] := by decide +kernel
theorem chars_join : ∀ (p : Str) (ps : List Str), chars (Str.join "(" (p :: ps)) = chars p ++ flatP ps
  | p, [] => by simp [Str.join, flatP]
  | p, q :: r => by
    show chars (p ++ "(" ++ Str.join "(" (q :: r)) = _
    rw [chars_append, chars_append, chars_join q r, chars_par]
    simp [flatP]
theorem flat_opens (ps : List Str) : Opens (flatP ps) := by
  cases ps with
  | nil => exact .inl rfl
  | cons p r => exact .inr ⟨_, rfl⟩
theorem free_par {x p : Str} (hp : p ∈ Txt.split x "(") : ∀ y ∈ chars p, (y == ("(" : Str)) = false := by
  intro y hy
  have hc : (("(" : Str)) = ⟨#[40]⟩ := by decide +kernel
  rw [hc] at hp
  have h1 := StrLaws.split_free x 40 p hp
  rw [chars_eq] at hy
  obtain ⟨c, hm, rfl⟩ := List.mem_map.mp hy
  rw [hc]
  refine Bool.eq_false_iff.mpr fun h => ?_
  have h2 : (⟨#[c]⟩ : Str) = ⟨#[40]⟩ := by simpa using h
  have h3 : c = 40 := by simpa using h2
  exact h1 (h3 ▸ hm)
theorem suf_zero {x p : Str} {ps : List Str} (h : Txt.split x "(" = p :: ps) : sufL x (p :: ps) 0 = cat (lettersD (chars p)) (sufL x (p :: ps) 1) := by
  have e : chars x = chars p ++ flatP ps := by
    rw [← chars_join, ← h, StrLaws.join_split]
  show symL (chars x) = cat _ (symL (flatP ps))
  rw [e]
  exact symL_letters (free_par (x := x) (h ▸ .head _))
theorem suf_step {x p : Str} {k : Nat} (hk : 0 < k) (hp : (Txt.split x "(")[k]? = some p) : sufL x (Txt.split x "(") k = cat (edgeP (chars p)) (sufL x (Txt.split x "(") (k + 1)) := by
  obtain ⟨hlt, hpe⟩ := List.getElem?_eq_some_iff.mp hp
  rw [sufL, if_neg (by omega), sufL, if_neg (by omega), List.drop_eq_getElem_cons hlt, hpe]
  exact symL_edge (free_par (x := x) (hpe ▸ List.getElem_mem hlt)) (flat_opens _)
theorem suf_end {x : Str} {k : Nat} (hk : 0 < k) (h : (Txt.split x "(").length ≤ k) : sufL x (Txt.split x "(") k = some [] := by
  rw [sufL, if_neg (by omega), List.drop_eq_nil_of_le h]
  rfl
theorem suf_first {x p : Str} (hp : (Txt.split x "(")[0]? = some p) : sufL x (Txt.split x "(") 0 = cat (lettersD (chars p)) (sufL x (Txt.split x "(") 1) := by
  rcases h : Txt.split x "(" with _ | ⟨q, ps⟩
  · rw [h] at hp; cases hp
  · rw [h] at hp; cases hp
    exact suf_zero h
theorem slice3 {x : Str} (h : 3 ≤ x.length) : (Txt.slice x (some 3) none).cps.toList = x.cps.toList.drop 3 := by
  have e : Builtin.Str.strSliceIndices (some 3) none 1 x.length = (List.range (x.length - 3)).map (3 + ·) := by
    rw [← sliceRange_one]
    unfold Builtin.Str.strSliceIndices
    simp only [show (1 : Int) > 0 by decide, if_true]
    have e3 : max 0 (min (if (3 : Int) < 0 then 3 + (x.length : Int) else 3) (x.length : Int)) = ((3 : Nat) : Int) := by
      rw [if_neg (by decide)]; omega
    rw [e3]
  have hl : (Builtin.Str.strSliceIndices (some 3) none 1 x.length).length ≠ x.length := by
    rw [e, List.length_map, List.length_range]; omega
  unfold Txt.slice
  rw [if_neg (by simpa using hl), e]
  show List.filterMap _ _ = _
  rw [pick_run]
  exact List.take_of_length_le (by rw [List.length_drop]; exact Nat.le_refl _)
theorem chars_slice3 {x : Str} (h : 3 ≤ x.length) : chars (Txt.slice x (some 3) none) = (chars x).drop 3 := by
  rw [chars_eq, chars_eq, slice3 h, List.map_drop]
theorem chars3 {p : Str} (h : 3 ≤ p.length) : chars p = Txt.item p 0 :: Txt.item p 1 :: Txt.item p 2 :: chars (Txt.slice p (some 3) none) := by
  rw [chars_slice3 h]
  have e := chars_drop (x := p) (i := 0) (by omega)
  have e1 := chars_drop (x := p) (i := 1) (by omega)
  have e2 := chars_drop (x := p) (i := 2) (by omega)
  rw [List.drop_zero] at e
  rw [e, e1, e2]
  rfl
noncomputable def hasS (x y : Str) : Bool := !(Builtin.Str.occurrences x y 0 x.length 1).isEmpty
theorem lev_item (p : Str) (k : Int) : hasS "01x?b" (Txt.item p k) = isLev (Txt.item p k) := by
  unfold Txt.item hasS isLev
  generalize (Txt.charAt p k).getD 0 = c
  rw [StrLaws.found_one]
  have e0 : ("0" : Str) = ⟨#[48]⟩ := by decide +kernel
  have e1 : ("1" : Str) = ⟨#[49]⟩ := by decide +kernel
  have e2 : ("x" : Str) = ⟨#[120]⟩ := by decide +kernel
  have e3 : ("?" : Str) = ⟨#[63]⟩ := by decide +kernel
  have e4 : ("b" : Str) = ⟨#[98]⟩ := by decide +kernel
  have e5 : ("01x?b" : Str).cps.toList = [48, 49, 120, 63, 98] := by decide +kernel
  rw [e5, e0, e1, e2, e3, e4]
  have hb : ∀ d : Nat, ((⟨#[d]⟩ : Str) == (⟨#[c]⟩ : Str)) = (c == d) := fun d => by
    by_cases h : d = c
    · subst h; simp
    · rw [beq_eq_false_iff_ne.mpr (fun e => h (by simpa using e)), beq_eq_false_iff_ne.mpr (fun e => h e.symm)]
  simp only [List.any_cons, List.any_nil, hb, List.mem_cons, List.not_mem_nil, Bool.or_false, or_false]
  rw [Bool.eq_iff_iff]
  simp
theorem edge_short {p : Str} (h : (p.length : Int) < 3) : edgeP (chars p) = none := by
  have hl : (chars p).length < 3 := by rw [chars_length]; omega
  generalize chars p = c at hl ⊢
  rcases c with _ | ⟨a, _ | ⟨b, _ | ⟨e, r⟩⟩⟩
  · rfl
  · rfl
  · rfl
  · simp only [List.length_cons] at hl; omega
section
variable {p : Str} (h : ¬ (p.length : Int) < 3)
include h
theorem edge_no2 (h2 : (Txt.item p 2 != (")" : Str)) = true) : edgeP (chars p) = none := by
  rw [chars3 (by omega)]
  have : (Txt.item p 2 == (")" : Str)) = false := by simpa [bne] using h2
  simp [edgeP, this]
theorem edge_no0 (h2 : hasS "01x?b" (Txt.item p 0) = false) : edgeP (chars p) = none := by
  rw [chars3 (by omega)]
  rw [lev_item] at h2
  simp [edgeP, h2]
theorem edge_no1 (h2 : hasS "01x?b" (Txt.item p 1) = false) : edgeP (chars p) = none := by
  rw [chars3 (by omega)]
  rw [lev_item] at h2
  simp [edgeP, h2]
theorem edge_noL {z : Str} (hz : z ∈ chars (Txt.slice p (some 3) none)) (h2 : isSym z = false) : edgeP (chars p) = none := by
  rw [chars3 (by omega)]
  have : lettersD (chars (Txt.slice p (some 3) none)) = none := if_neg fun hh => by rw [List.all_eq_true.mp hh z hz] at h2; cases h2
  simp [edgeP, this]
theorem edge_ok (h2 : (Txt.item p 2 != (")" : Str)) = false) (h3 : hasS "01x?b" (Txt.item p 0) = true) (h4 : hasS "01x?b" (Txt.item p 1) = true) (h5 : ∀ y ∈ chars (Txt.slice p (some 3) none), isSym y = true) :
    edgeP (chars p) = some (edgeD (Txt.item p 0) (Txt.item p 1) :: (chars (Txt.slice p (some 3) none)).map Dat.str) := by
  rw [chars3 (by omega)]
  have e2 : (Txt.item p 2 == (")" : Str)) = true := by simpa [bne] using h2
  rw [lev_item] at h3 h4
  have : lettersD (chars (Txt.slice p (some 3) none)) = some _ := if_pos (List.all_eq_true.mpr h5)
  simp [edgeP, this, e2, h3, h4]
end
theorem lett_no {p z : Str} (hz : z ∈ chars p) (h2 : isSym z = false) : lettersD (chars p) = none := if_neg fun hh => by rw [List.all_eq_true.mp hh z hz] at h2; cases h2
theorem lett_ok {p : Str} (h5 : ∀ y ∈ chars p, isSym y = true) : lettersD (chars p) = some ((chars p).map Dat.str) := if_pos (List.all_eq_true.mpr h5)
end
section
noncomputable def rowD (t : Tk × Int) : Dat := .tuple [.str t.1.kind, t.1.val, .int t.2]
/-- the row with the two marks of the end -/
noncomputable def full (toks : List (Tk × Int)) : List (Tk × Int) := toks ++ [(.eof, -1), (.eof, -1)]
noncomputable def Good : Tk → Prop
  | .num a b _ d => ((a == "") = (b == "")) ∧ Txt.lower d = d ∧ d.length ≤ 10
  | .id x => (Txt.lower x).length ≤ 10 ∧ x.length ≤ 10
  | .op x => Txt.lower x = x ∧ x.length ≤ 10
  | .eof => False
  | _ => True
theorem datall_get {led : List (Addr × Obj)} {vs : List Value} {ds : List Dat} {i : Nat} {d : Dat} (h : DatAll led vs ds) (hd : ds[i]? = some d) : ∃ v, vs[i]? = some v ∧ DatIn led v d := by
  obtain ⟨hlt, rfl⟩ := List.getElem?_eq_some_iff.mp hd
  exact h.get hlt
noncomputable abbrev tup3 (k : Str) (kk : Tok) (v : Value) (i : Int) (tm : Tok) (nn : Nat) : Obj := { cls := .type "tuple", data := .seq #[.str k kk, v, .int i tm] nn }
/-- a row's token lies in the ledger -/
theorem rowTok {led : List (Addr × Obj)} {refs : List Value} {R : List (Tk × Int)} {i : Nat} {t : Tk × Int} (h : DatAll led refs (R.map rowD)) (hR : R[i]? = some t) :
    ∃ b kk v tm nn, refs[i]? = some (.ref b) ∧ (b, tup3 t.1.kind kk v t.2 tm nn) ∈ led ∧ DatIn led v t.1.val := by
  obtain ⟨v, hv, hd⟩ := datall_get h (i := i) (d := rowD t) (by rw [List.getElem?_map, hR]; rfl)
  obtain ⟨b, vs, nn, rfl, hm, ha⟩ := di_tup hd
  obtain ⟨v1, r1, rfl, d1, ha⟩ := da_cons ha
  obtain ⟨v2, r2, rfl, d2, ha⟩ := da_cons ha
  obtain ⟨v3, r3, rfl, d3, ha⟩ := da_cons ha
  obtain rfl := da_nil ha
  obtain ⟨kk, rfl⟩ := di_str d1
  obtain ⟨tm, rfl⟩ := di_int d3
  exact ⟨b, kk, v2, tm, nn, hv, hm, d2⟩
theorem ref_item {prog : Program} {w : World} {A : Around} {E : Value → Shared → Prop} {s : Shared} {h₀ : Heap} {L : Addr} {led : List (Addr × Obj)} {Q : Value → Shared → Prop} {l : Addr} {vs : List Value} {nC : Nat} {value slice : PySem.Expr} {k : Int} {i : Nat} {u : Tok} {v : Value} (N : News h₀ L s.heap led) (hm : (l, listOf vs.toArray nC) ∈ led) (hk : k = (i : Int)) (hv : vs[i]? = some v) (hi : i ≤ 100000)
    (h : Q v s) (hs : subscripted slice false (.ref l) (.int k u) = operate [.ref l, .int k u] (getItem (.ref l) (.int k u)) := by with_unfolding_all rfl) :
    wpAny (model prog w) A (subscriptTail value slice (.ref l) (.int k u)) Q E s := by
  have hl : s.heap.IsList l vs.toArray := ⟨_, (N _ hm).1, rfl, nC, rfl⟩
  refine tail_any hl.typeIs PySem.F.slot_list_getitem.lookup ?_ hs
  exact wpAny_getItem_list hl (by omega) (by omega) (by rw [hk]; simpa using hv) h
theorem full_some {toks : List (Tk × Int)} {i : Nat} {t : Tk × Int} (h : toks[i]? = some t) : (full toks)[i]? = some t := by
  rw [full, List.getElem?_append_left (List.getElem?_eq_some_iff.mp h).1, h]
theorem full_end {toks : List (Tk × Int)} : (full toks)[toks.length]? = some (.eof, -1) := by
  rw [full, List.getElem?_append_right (Nat.le_refl _), Nat.sub_self]; rfl
theorem full_end1 {toks : List (Tk × Int)} : (full toks)[toks.length + 1]? = some (.eof, -1) := by
  rw [full, List.getElem?_append_right (Nat.le_succ _)]
  rw [show toks.length + 1 - toks.length = 1 by omega]; rfl
theorem full_len {toks : List (Tk × Int)} : (full toks).length = toks.length + 2 := by simp [full]
/-- the token at a place of the row, as hdT sees it -/
theorem full_hd {toks : List (Tk × Int)} {i : Nat} (h : i ≤ toks.length + 1) : (full toks)[i]? = some (hdT (toks.drop i)) := by
  by_cases h1 : i < toks.length
  · rw [full_some (t := toks[i]) (List.getElem?_eq_getElem h1), List.drop_eq_getElem_cons h1]; rfl
  · by_cases h2 : i = toks.length
    · subst h2; rw [full_end, List.drop_eq_nil_of_le (Nat.le_refl _)]; rfl
    · have : i = toks.length + 1 := by omega
      subst this; rw [full_end1, List.drop_eq_nil_of_le (Nat.le_succ _)]; rfl
theorem hd_mem {toks : List (Tk × Int)} {i : Nat} {t : Tk} {a : Int} (h : hdT (toks.drop i) = (t, a)) (hne : t ≠ .eof) : (t, a) ∈ toks ∧ i < toks.length ∧ toks.drop i = (t, a) :: toks.drop (i + 1) := by
  by_cases h1 : i < toks.length
  · have e := List.drop_eq_getElem_cons h1
    rw [e] at h
    have h' : toks[i] = (t, a) := h
    exact ⟨h' ▸ List.getElem_mem h1, h1, by rw [e, h']⟩
  · rw [List.drop_eq_nil_of_le (by omega)] at h
    exact absurd (Prod.mk.inj h).1.symm hne
section
variable {toks : List (Tk × Int)} {i : Nat} {t : Tk} {a : Int} {x y : Str} (h : toks.drop i = (t, a) :: toks.drop (i + 1))
include h
theorem cut_bad (h1 : t.isEnd = false) (h2 : t.piece = none) : cut x (toks.drop i) = (none, toks.drop i) := by
  rw [h, cut]; simp [h1, h2]
theorem cut_end (h1 : t.isEnd = true) : cut x (toks.drop i) = (some x, toks.drop i) := by
  rw [h, cut]; simp [h1]
theorem cut_go (h1 : t.isEnd = false) (h2 : t.piece = some y) : cut x (toks.drop i) = cut (x ++ y) (toks.drop (i + 1)) := by
  rw [h, cut]; simp [h1, h2]
end
theorem end_any {y : Str} {b : Bool} (h : ([(":" : Str), ";"].any fun z => z == y) = b) : (Tk.op y).isEnd = b := by
  have e : ∀ a c : Str, (a == c) = (c == a) := fun a c => by
    by_cases h : a = c
    · subst h; rfl
    · rw [beq_eq_false_iff_ne.mpr h, beq_eq_false_iff_ne.mpr fun k => h k.symm]
  simp only [List.any_cons, List.any_nil, Bool.or_false] at h
  rw [← h, Tk.isEnd, Tk.isOp, Tk.isOp, e y ":", e y ";"]
theorem num_no {a b d : Str} {c : Bool} (h : (b != ("" : Str)) = true) : (Tk.num a b c d).piece = none := by
  have : (b == ("" : Str)) = false := by simpa [bne] using h
  simp [Tk.piece, this]
theorem num_yes {a b d : Str} {c : Bool} (hg : Good (.num a b c d)) (h : (b != ("" : Str)) = false) : (Tk.num a b c d).piece = some (Txt.lower d) := by
  have hb : (b == ("" : Str)) = true := by simpa [bne] using h
  have ha : (a == ("" : Str)) = true := by rw [hg.1]; exact hb
  simp only [Tk.piece, ha, hb, Bool.and_self, if_true, hg.2.1]
theorem op_yes {y : Str} (hg : Good (.op y)) : (Tk.op y).piece = some (Txt.lower y) := by rw [Tk.piece, hg.1]
end
section
open Builtin.Slice
section
variable {prog : Program} {w : World} {A : Around} {E : Value → Shared → Prop} {s : Shared} {h₀ : Heap} {L : Addr} {m : Str → Option Value} {led : List (Addr × Obj)} {x y z : Value}
/-- the cut [:2] of a tuple of three -/
theorem applied2 {sl : Addr} {u : Tok} {Q : Int × Int × Nat → Shared → Prop} (hs : s.heap.IsSliceOf sl .none (.int 2 u) .none) (h : Q ((0 : Int), 1, 2) s) :
    wpAny (model prog w) A (sliceApplied (.ref sl) (pure (3 : Int))) Q E s := by
  obtain ⟨os, hos, hcs, hds⟩ := id hs
  unfold sliceApplied sliceFields
  refine wpAny_bind (wpAny_bind (wpAny_field hos hds (x := .none) rfl (wpAny_bind (wpAny_field hos hds (x := .int 2 u) rfl (wpAny_bind (wpAny_field hos hds (x := .none) rfl (wpAny_pure ?_)))))))
  refine wpAny_bind (slicePart_none ?_)
  show wpAny _ _ (if ((1 : Int) == 0) = true then _ else _) _ _ s
  rw [if_neg (by decide)]
  refine wpAny_bind (slicePart_none (wpAny_bind (slicePart_int (wpAny_bind (wpAny_pure ?_)))))
  exact wpAny_pure h
theorem getItem2 {t sl : Addr} {u : Tok} {Q : Value → Shared → Prop} (ht : IsTup s.heap t #[x, y, z]) (hs : s.heap.IsSliceOf sl .none (.int 2 u) .none)
    (h : Q (.ref s.heap.objs.size) { s with heap := s.heap.push { cls := .type "tuple", data := .seq #[x, y] } }) : wpAny (model prog w) A (getItem (.ref t) (.ref sl)) Q E s := by
  have hdrop : sizeOk (.seq #[x, y]) := Nat.le_of_ble_eq_true rfl
  obtain ⟨os, hos, hcs, hds⟩ := id hs
  have hTs : s.TypeIs (.ref sl) "slice" := ⟨os, hos, hcs⟩
  unfold getItem
  try with_reducible refine wpAny_holding ?_
  first | refine wpAny_bind (wpAny_pure ?_) | skip
  refine wpAny_bind (wpAny_sequenceKey ht.typeIs (by decide) ?_)
  refine wpAny_bind (wpAny_callSpecial?_slot (name := Str.ofString "__getitem__") ht.typeIs PySem.F.slot_tuple_getitem
    (wpAny_call_entry PySem.F.slot_tuple_getitem ht.typeIs PySem.F.entry_tuple_getitem ?_ (PyProof.Rows.args_tuple_getitem _ _)))
  show wpAny _ _ (Builtin.Tuple.tupleItemsOf (.ref t) >>= _) _ _ s
  refine wpAny_bind (tupleItemsOf_ ht ?_)
  refine wpAny_bind (wpAny_typeOf hTs ?_)
  rw [if_pos (by decide)]
  refine wpAny_bind (applied2 hs ?_)
  first
    | exact wpAny_bind (m := Builtin.Tuple.tupleExact _) (wpAny_newObj_type (wpAny_pure ⟨_, rfl, wpAny_pure h⟩) hdrop)
    | exact wpAny_bind (m := Builtin.Tuple.tupleExact _) (wpAny_newObj_type (wpAny_bind (wpAny_pure (wpAny_pure ⟨_, rfl, wpAny_pure h⟩))) hdrop)
    | exact wpAny_bind (wpAny_bind (m := Builtin.Tuple.tupleExact _) (wpAny_newObj_type (wpAny_pure (wpAny_pure ⟨_, rfl, wpAny_pure h⟩)) hdrop))
    | exact wpAny_bind (wpAny_bind (m := Builtin.Tuple.tupleExact _) (wpAny_newObj_type (wpAny_pure ⟨_, rfl, wpAny_pure h⟩) hdrop))
theorem cut2 {value slice : PySem.Expr} {t : Addr} {u : Tok} {nn : Nat} {Q : Value → Shared → Prop}
    (F : Fr h₀ L s.heap m) (N : News h₀ L s.heap led) (hm : (t, ({ cls := .type "tuple", data := .seq #[x, y, z] nn } : Obj)) ∈ led)
    (h : ∀ D h', Fr h₀ L h' m → News h₀ L h' ((D, tupObj [x, y]) :: led) → (∀ p ∈ led, @LT.lt Nat _ p.1 D) → Q (.ref D) { s with heap := h' })
    (hs : subscripted slice false (.ref t) (.ref s.heap.objs.size) = operate [.ref s.heap.objs.size, .ref t] (getItem (.ref t) (.ref s.heap.objs.size)) := by with_unfolding_all rfl)
    (hg : ∀ r, letTemporaryGo value (.ref t) r = pure () := by intro _; with_unfolding_all rfl) :
    wpAny (model prog w) A (subscriptTail value slice (.ref t) (.ref s.heap.objs.size)) Q E { s with heap := s.heap.push { cls := .type "slice", data := .fields #[.none, .int 2 u, .none] } } := by
  have ht : IsTup s.heap t #[x, y, z] := ⟨_, (N _ hm).1, rfl, nn, rfl⟩
  have ht' : IsTup (s.heap.push { cls := .type "slice", data := .fields #[.none, .int 2 u, .none] }) t #[x, y, z] := ht.keeps fun _ _ e => Heap.get?_push_of_some _ e
  refine subscriptTail_ops (s := { s with heap := s.heap.push { cls := .type "slice", data := .fields #[.none, .int 2 u, .none] } }) ht'.typeIs PySem.F.slot_tuple_getitem.lookup
    (getItem2 ht' (Heap.IsSliceOf.new ..) ?_) hs hg
  have N0 : News h₀ L (s.heap.push { cls := .type "slice", data := .fields #[.none, .int 2 u, .none] }) led := N.grown fun _ _ e => Heap.get?_push_of_some _ e
  exact h _ _ ((F.push _).push _) (News.push (F.push _) N0 _) fun p hp => Heap.lt_size (N0 p hp).1
end
end
section
/-- data whose texts can lie in a list, no deeper than n -/
inductive DOk : Nat → Dat → Prop
  | none {n} : DOk n .none
  | bool {n b} : DOk n (.bool b)
  | int {n i} : DOk n (.int i)
  | str {n x} : PyData.strOk x = true → DOk n (.str x)
  | tuple {n ds} : (∀ d ∈ ds, DOk n d) → DOk (n + 1) (.tuple ds)
theorem DOk.up {d : Dat} {n m : Nat} (h : DOk n d) : n ≤ m → DOk m d := by
  induction h generalizing m with
  | none => exact fun _ => .none
  | bool => exact fun _ => .bool
  | int => exact fun _ => .int
  | str hx => exact fun _ => .str hx
  | tuple _ ih =>
    intro hm
    match m, hm with
    | m + 1, hm => exact .tuple fun d hd => ih d hd (by omega)
theorem dok_all {n : Nat} {ds : List Dat} (hP : ∀ d ∈ ds, (PyData.canLay0 (kqdP d) = true ∧ (kqdP d).depth ≤ n) ∧ PyData.eqv (kqdP d) (kqdP d) = true) :
    (PyData.canLayAll0 (kqdPs ds) = true ∧ PyData.depthAll (kqdPs ds) ≤ n) ∧ PyData.eqvAll (kqdPs ds) (kqdPs ds) = true := by
  induction ds with
  | nil => simp [kqdPs, PyData.canLayAll0, PyData.depthAll, PyData.eqvAll]
  | cons d ds ih =>
    have h1 := hP d (.head _)
    have h2 := ih fun e he => hP e (.tail _ he)
    simp only [kqdPs, PyData.canLayAll0, PyData.depthAll, PyData.eqvAll, h1.1.1, h1.2, h2.1.1, h2.2, Bool.and_self, true_and, and_true]
    have a1 := h1.1.2
    have a2 := h2.1.2
    omega
theorem dok_lay {n : Nat} {d : Dat} (h : DOk n d) : (PyData.canLay0 (kqdP d) = true ∧ (kqdP d).depth ≤ n) ∧ PyData.eqv (kqdP d) (kqdP d) = true := by
  induction h with
  | none => simp [kqdP, PyData.canLay0, PyData.depth, PyData.eqv]
  | bool => simp [kqdP, PyData.canLay0, PyData.depth, PyData.eqv]
  | int => simp [kqdP, PyData.canLay0, PyData.depth, PyData.eqv]
  | str hx => simp [kqdP, PyData.canLay0, PyData.depth, PyData.eqv, hx]
  | tuple _ ih =>
    have q := dok_all ih
    simp only [kqdP, PyData.canLay0, PyData.depth, PyData.eqv, q.1.1, q.2, true_and, and_true]
    have := q.1.2
    omega
theorem dok_shaped {n : Nat} {d : Dat} (h : DOk n d) (hn : n ≤ 64) : SeqAt.shaped (kqdP d) = true := by
  have l := (dok_lay h).1
  unfold SeqAt.shaped
  rw [l.1, Bool.true_and]
  exact decide_eq_true (Nat.le_trans l.2 hn)
section
variable {h₀ h : Heap} {L : Addr} {led : List (Addr × Obj)}
mutual
theorem dat_reads (N : News h₀ L h led) : ∀ {v : Value} {d : Dat} {n : Nat}, DatIn led v d → DOk n d → ∃ as, Reads h v (kqdP d) as
  | _, _, _, .none, _ => ⟨_, Reads.none⟩
  | _, _, _, .bool b, _ => ⟨_, Reads.bool b⟩
  | _, _, _, .int i t, _ => ⟨_, Reads.int i t⟩
  | _, _, _, .str x t, _ => ⟨_, Reads.str x t⟩
  | _, _, _, .bytes _ _, hk => by cases hk
  | _, _, _, .list _ _, hk => by cases hk
  | _, _, _, .tuple hm r, hk => by
    cases hk with
    | tuple hk =>
      obtain ⟨as, q⟩ := dat_readsAll N r hk
      rw [kqdP]
      exact ⟨as, reads_tuple_at (N.get hm) rfl rfl (by simpa using q)⟩
theorem dat_readsAll (N : News h₀ L h led) : ∀ {vs : List Value} {ds : List Dat} {n : Nat}, DatAll led vs ds → (∀ d ∈ ds, DOk n d) → ∃ as, ReadsAll h vs (kqdPs ds) as
  | _, _, _, .nil, _ => ⟨_, ReadsAll.nil⟩
  | _, _, _, .cons hd r, hk => by
    obtain ⟨as, q⟩ := dat_reads N hd (hk _ (.head _))
    obtain ⟨bs, p⟩ := dat_readsAll N r fun d hm => hk d (.tail _ hm)
    rw [kqdPs]
    exact ⟨_, ReadsAll.cons q p⟩
end
end
section
variable {prog : Program} {w : World} {A : Around} {E : Value → Shared → Prop} {s : Shared} {h₀ : Heap} {L : Addr} {led : List (Addr × Obj)} {Q : Value → Shared → Prop}
/-- the same data twice -/
theorem ne_same {a b : Value} {d : Dat} {n : Nat} (N : News h₀ L s.heap led) (da : DatIn led a d) (db : DatIn led b d) (hk : DOk n d) (hn : n ≤ 64) (hu : A.units + 64 < cLine) (h : Q (.bool false) s) : wpAny (model prog w) A (compareOp .NotEq a b) Q E s := by
  obtain ⟨as, ra⟩ := dat_reads N da hk
  obtain ⟨bs, rb⟩ := dat_reads N db hk
  exact ne_dataH ra rb (dok_shaped hk hn) (dok_shaped hk hn) hu (by rw [(dok_lay hk).2]; exact h)
noncomputable def TkOk (t : Tk) : Prop := DOk 1 t.val
theorem kind_ok (t : Tk) : PyData.strOk t.kind = true := by cases t <;> (dsimp only [Tk.kind]; decide +kernel)
theorem key_eqv {t : Tk} {x : Str} : PyData.eqv (kqdP (.tuple [.str t.kind, t.val])) (kqdP (.tuple [.str "key", .str x])) = t.isKey x := by
  have e1 : (("num" : Str) == ("key" : Str)) = false := by decide +kernel
  have e2 : (("str" : Str) == ("key" : Str)) = false := by decide +kernel
  have e3 : (("id" : Str) == ("key" : Str)) = false := by decide +kernel
  have e4 : (("op" : Str) == ("key" : Str)) = false := by decide +kernel
  have e5 : (("eof" : Str) == ("key" : Str)) = false := by decide +kernel
  have e6 : (("key" : Str) == ("key" : Str)) = true := by decide +kernel
  cases t <;> simp only [kqdP, kqdPs, PyData.eqv, PyData.eqvAll, Tk.kind, Tk.val, Tk.isKey, e1, e2, e3, e4, e5, e6, Bool.false_and, Bool.true_and, Bool.and_true]
/-- a token's first two parts against a word -/
theorem ne_key {L9 : List (Addr × Obj)} {a b : Addr} {t : Tk} {kk t1 t2 : Tok} {v : Value} {x : Str} {n1 n2 : Nat} (N : News h₀ L s.heap led) (m1 : (a, ({ cls := .type "tuple", data := .seq #[.str t.kind kk, v] n1 } : Obj)) ∈ led) (hv : DatIn L9 v t.val) (hs : ∀ p ∈ L9, p ∈ led) (hk : TkOk t)
    (m2 : (b, ({ cls := .type "tuple", data := .seq #[.str "key" t1, .str x t2] n2 } : Obj)) ∈ led) (hx : PyData.strOk x = true) (hu : A.units + 64 < cLine) (h : Q (.bool (!t.isKey x)) s) : wpAny (model prog w) A (compareOp .NotEq (.ref a) (.ref b)) Q E s := by
  have d1 : DatIn led (.ref a) (.tuple [.str t.kind, t.val]) := .tuple (vs := [.str t.kind kk, v]) m1 (.cons (.str _ _) (.cons (hv.mono hs) .nil))
  have d2 : DatIn led (.ref b) (.tuple [.str "key", .str x]) := .tuple (vs := [.str "key" t1, .str x t2]) m2 (.cons (.str _ _) (.cons (.str _ _) .nil))
  have k1 : DOk 2 (.tuple [.str t.kind, t.val]) := .tuple fun d hd => by
    rcases List.mem_cons.mp hd with rfl | hd
    · exact .str (kind_ok t)
    · rw [List.mem_singleton.mp hd]; exact hk
  have k2 : DOk 2 (.tuple [.str "key", .str x]) := .tuple fun d hd => by
    rcases List.mem_cons.mp hd with rfl | hd
    · exact .str (by decide +kernel)
    · rw [List.mem_singleton.mp hd]; exact .str hx
  obtain ⟨as, ra⟩ := dat_reads N d1 k1
  obtain ⟨bs, rb⟩ := dat_reads N d2 k2
  exact ne_dataH ra rb (dok_shaped k1 (by decide)) (dok_shaped k2 (by decide)) hu (by rw [key_eqv]; exact h)
end
end
section
section
variable {prog : Program} {w : World} {A : Around} {E : Value → Shared → Prop} {s : Shared} {env : Env} {h₀ : Heap} {x : Str} {body : List Stmt} {Q : Flow → Shared → Prop} {σ : Type}
/-- a for over a list of the ledger with a state -/
theorem st_list {l : Addr} {vs : List Value} {nn : Nat} {m₀ : Str → Option Value} (Led : σ → List (Addr × Obj)) (ps : σ → List (Str × Value)) (stored : List Str) (J : Nat → σ → Prop) (c₀ : σ)
    (hh : A.handled = none) (hl : ∀ c, (l, listOf vs.toArray nn) ∈ Led c) (F : Fr h₀ env.locals s.heap m₀) (N : News h₀ env.locals s.heap (Led c₀)) (hk : ∀ q ∈ ps c₀, m₀ q.1 = some q.2) (hj : J 0 c₀)
    (turn : ∀ (c : σ) (i : Nat) v (u : Str → Option Value) (h : Heap) tk own, vs[i]? = some v → J i c → OwnOff own ((Led c).map (·.1)) → Fr h₀ env.locals h (stM x (some v) stored u m₀ (ps c)) → News h₀ env.locals h (Led c ++ own) →
      wpAny (model prog w) A (execs body env) (StPost h₀ env.locals x Led ps stored m₀ (J (i + 1)) own { s with heap := h, toks := tk } Q) E { s with heap := h, toks := tk })
    (done : ∀ (c : σ) (u : Str → Option Value) v (h : Heap) tk, J vs.length c → Fr h₀ env.locals h (stM x v stored u m₀ (ps c)) → News h₀ env.locals h (Led c) → Q .next { s with heap := h, toks := tk }) :
    wpAny (model prog w) A (pyIter (.ref l)) (fun it s₂ => LoopAtV prog w A h₀ env x body Q E it s₂) E s := by
  refine kdl_iter (fun i m nx => StJ x Led ps stored m₀ (J i) m nx) hh (hl c₀) F N ⟨c₀, rfl, hk, fun _ _ _ _ => rfl, hj⟩ ?_ ?_
  · rintro i v m₁ nx h tk own hv hoff _ ⟨c, rfl, h1, h2, hJ⟩ F₁ N₁
    rw [stM_eq _ h1 h2] at F₁
    refine wpAny_mono (turn c i v m₁ h tk own hv hJ hoff F₁ N₁) (fun f s₂ p => ?_) fun _ _ e => e
    have fin : StEnd h₀ env.locals x Led ps stored m₀ (J (i + 1)) own { s with heap := h, toks := tk } s₂ → InvEndG h₀ env.locals (fun m' nx => (l, listOf vs.toArray nn) ∈ nx ∧ StJ x Led ps stored m₀ (J (i + 1)) m' nx) own { s with heap := h, toks := tk } s₂ := by
      rintro ⟨c', h', tk', m', news', rfl, F', N', g1, g2, g3, g4, g5, g6⟩
      exact InvEndG.intro F' N' ⟨hl c', c', rfl, g4, g5, g6⟩ g3 g1 g2
    cases f with
    | ret v => exact p
    | brk => exact p
    | next => exact fin p
    | cont => exact fin p
  · rintro m₁ nx h tk ⟨c, rfl, h1, h2, hJ⟩ F₁ N₁
    have e := stM_eq (x := x) (m₁ x) h1 h2
    have e2 : (fun y => if y = x then m₁ x else m₁ y) = m₁ := funext fun y => by
      by_cases e : y = x
      · simp only [e, if_true]
      · simp only [e, if_false]
    exact done c m₁ (m₁ x) h tk hJ (by rw [← e, e2]; exact F₁) N₁
end
end
section
/-- what is left of a row when the fields fs are read -/
noncomputable def stageR (held : Bool) (fs : List Dat) (ts : List (Tk × Int)) : Rd (Dat × List (Tk × Int)) := match held, fs with
  | held, [] => oneRow held ts
  | true, [d] => stateF d ts
  | true, [d, st] => outF d st ts
  | true, [d, st, o] => .ok (.tuple [d, st, o], ts)
  | false, [d] => outF d .none ts
  | false, [d, o] => .ok (.tuple [d, .none, o], ts)
  | _, _ => .error ("", 0)
/-- a reading as a datum -/
noncomputable def outD : Rd (List Dat × List (Tk × Int)) → Dat
  | .ok q => .tuple [.str "read", .tuple q.1, rowD (hdT q.2)]
  | .error e => .tuple [.str e.1, .int e.2]
theorem cut_isEnd : ∀ {ts r : List (Tk × Int)} {x z : Str}, cut x ts = (some z, r) → ∃ y a r', r = (.op y, a) :: r' ∧ (Tk.op y).isEnd = true
  | [], r, x, z, h => by simp [cut] at h
  | t :: ts, r, x, z, h => by
    unfold cut at h
    split at h
    · rename_i he
      rcases t with ⟨t, a⟩
      cases t with
      | op y => exact ⟨y, a, ts, by cases h; rfl, he⟩
      | _ => simp [Tk.isEnd, Tk.isOp] at he
    · split at h
      · exact cut_isEnd h
      · simp at h
theorem lev1 {x : Str} (h : x.length = 1) : hasS "01x?b" x = stL.any fun z => z == x := by
  have : Txt.item x 0 = x := by
    have h2 : x.cps.size = 1 := h
    obtain ⟨c, hc⟩ : ∃ c, x.cps = #[c] := by
      rcases x with ⟨⟨l⟩⟩
      match l, h2 with
      | [c], _ => exact ⟨c, rfl⟩
    have e : x.cps[0]? = some c := by rw [hc]; rfl
    have := item_nat e
    rw [show ((0 : Nat) : Int) = 0 from rfl] at this
    rw [this]
    rcases x with ⟨l⟩
    simp only at hc
    rw [hc]
  rw [← this, lev_item]
  rfl
theorem out1 {x : Str} (h : x.length = 1) : hasS "01x-" x = outL.any fun z => z == x := by
  have h2 : x.cps.size = 1 := h
  obtain ⟨c, hc⟩ : ∃ c, x = ⟨#[c]⟩ := by
    rcases x with ⟨⟨l⟩⟩
    match l, h2 with
    | [c], _ => exact ⟨c, rfl⟩
  subst hc
  unfold hasS outL
  rw [StrLaws.found_one]
  have e0 : ("0" : Str) = ⟨#[48]⟩ := by decide +kernel
  have e1 : ("1" : Str) = ⟨#[49]⟩ := by decide +kernel
  have e2 : ("x" : Str) = ⟨#[120]⟩ := by decide +kernel
  have e3 : ("-" : Str) = ⟨#[45]⟩ := by decide +kernel
  have e5 : ("01x-" : Str).cps.toList = [48, 49, 120, 45] := by decide +kernel
  rw [e5, e0, e1, e2, e3]
  have hb : ∀ d : Nat, ((⟨#[d]⟩ : Str) == (⟨#[c]⟩ : Str)) = (c == d) := fun d => by
    by_cases h : d = c
    · subst h; simp
    · rw [beq_eq_false_iff_ne.mpr (fun e => h (by simpa using e)), beq_eq_false_iff_ne.mpr (fun e => h e.symm)]
  simp only [List.any_cons, List.any_nil, hb, List.mem_cons, List.not_mem_nil, Bool.or_false, or_false]
  rw [Bool.eq_iff_iff]
  simp
theorem one_no {x : Str} {al : List Str} (ha : ∀ z ∈ al, z.length = 1) (h : x.length ≠ 1) : (al.any fun z => z == x) = false := by
  rw [List.any_eq_false]
  intro z hz he
  exact h ((beq_iff_eq.mp he) ▸ ha z hz)
theorem stL_one : ∀ z ∈ stL, z.length = 1 := by decide +kernel
theorem outL_one : ∀ z ∈ outL, z.length = 1 := by decide +kernel
section
variable {held : Bool} {d st : Dat} {ts r : List (Tk × Int)} {x : Str} {ds : List Dat} {e : Str × Int}
theorem row_sym_err (h : symF ts = .error e) : oneRow held ts = .error e := thenR_err h
theorem row_sym_want {r : List (Tk × Int)} (h : symF ts = .ok (ds, r)) (h2 : want ":" r = .error e) : oneRow held ts = .error e := (thenR_ok h).trans (thenR_err h2)
theorem row_sym_ok {r q : List (Tk × Int)} (h : symF ts = .ok (ds, r)) (h2 : want ":" r = .ok q) : oneRow held ts = stageR held [.tuple ds] q := by
  rw [oneRow, thenR_ok h, thenR_ok h2]
  cases held <;> rfl
theorem row_st_err (h : levelF stL ts = .error e) : stageR true [d] ts = .error e := thenR_err h
theorem row_st_want (h : levelF stL ts = .ok (x, r)) (h2 : want ":" r = .error e) : stageR true [d] ts = .error e := (thenR_ok h).trans (thenR_err h2)
theorem row_st_ok {q : List (Tk × Int)} (h : levelF stL ts = .ok (x, r)) (h2 : want ":" r = .ok q) : stageR true [d] ts = stageR true [d, .str x] q := by
  show stateF d ts = outF d (.str x) q
  rw [stateF, thenR_ok h, thenR_ok h2]
theorem out_err (h : levelF outL ts = .error e) : outF d st ts = .error e := thenR_err h
theorem out_want (h : levelF outL ts = .ok (x, r)) (h2 : want ";" r = .error e) : outF d st ts = .error e := (thenR_ok h).trans (thenR_err h2)
theorem out_ok {q : List (Tk × Int)} (h : levelF outL ts = .ok (x, r)) (h2 : want ";" r = .ok q) : outF d st ts = .ok (.tuple [d, st, .str x], q) := by
  rw [outF, thenR_ok h, thenR_ok h2]
end
end
section
section
variable {held : Bool} {d st : Dat} {ts r r' : List (Tk × Int)} {x y : Str} {ds : List Dat} {t : Tk} {at9 : Int}
theorem want_no {z : Str} (hr : r = (.op y, at9) :: r') (h : (y != z) = true) : want z r = .error ("unexpected_token", at9) := by
  subst hr
  exact want_bad (by simpa [hdT, Tk.isOp, bne] using h)
theorem want_yes {z : Str} (hr : r = (.op y, at9) :: r') (h : (y != z) = false) : want z r = .ok r' := by
  subst hr
  exact want_ok (by simpa [hdT, Tk.isOp, bne] using h)
theorem hd2 (hr : r = (.op y, at9) :: r') : (hdT r).2 = at9 := by subst hr; rfl
theorem insN (h : cut "" ts = (none, r)) (ht : hdT r = (t, at9)) : stageR held [] ts = .error ("bad_table", at9) := by
  have e := symF_bad h
  rw [ht] at e
  show oneRow held ts = _
  exact row_sym_err e
theorem insS (h : cut "" ts = (some x, r)) (hr : r = (.op y, at9) :: r') (hx : symL (chars x) = none) : stageR held [] ts = .error ("bad_table", at9) := by
  have e := symF_no h hx
  rw [hd2 hr] at e
  exact row_sym_err e
theorem insW (h : cut "" ts = (some x, r)) (hr : r = (.op y, at9) :: r') (hx : symL (chars x) = some ds) (hw : (y != (":" : Str)) = true) : stageR held [] ts = .error ("unexpected_token", at9) :=
  row_sym_want (symF_ok h hx) (want_no hr hw)
theorem insK (h : cut "" ts = (some x, r)) (hr : r = (.op y, at9) :: r') (hx : symL (chars x) = some ds) (hw : (y != (":" : Str)) = false) : stageR held [] ts = stageR held [.tuple ds] r' :=
  row_sym_ok (symF_ok h hx) (want_yes hr hw)
theorem stN (h : cut "" ts = (none, r)) (ht : hdT r = (t, at9)) : stageR true [d] ts = .error ("bad_table", at9) := by
  have e := levelF_bad (al := stL) h
  rw [ht] at e
  exact row_st_err e
theorem stS (h : cut "" ts = (some x, r)) (hr : r = (.op y, at9) :: r') (hx : (stL.any fun z => z == x) = false) : stageR true [d] ts = .error ("bad_table", at9) := by
  have e := levelF_no h hx
  rw [hd2 hr] at e
  exact row_st_err e
theorem stW (h : cut "" ts = (some x, r)) (hr : r = (.op y, at9) :: r') (hx : (stL.any fun z => z == x) = true) (hw : (y != (":" : Str)) = true) : stageR true [d] ts = .error ("unexpected_token", at9) :=
  row_st_want (levelF_ok h hx) (want_no hr hw)
theorem stK (h : cut "" ts = (some x, r)) (hr : r = (.op y, at9) :: r') (hx : (stL.any fun z => z == x) = true) (hw : (y != (":" : Str)) = false) : stageR true [d] ts = stageR true [d, .str x] r' :=
  row_st_ok (levelF_ok h hx) (want_yes hr hw)
theorem ouN (h : cut "" ts = (none, r)) (ht : hdT r = (t, at9)) : outF d st ts = .error ("bad_table", at9) := by
  have e := levelF_bad (al := outL) h
  rw [ht] at e
  exact out_err e
theorem ouS (h : cut "" ts = (some x, r)) (hr : r = (.op y, at9) :: r') (hx : (outL.any fun z => z == x) = false) : outF d st ts = .error ("bad_table", at9) := by
  have e := levelF_no h hx
  rw [hd2 hr] at e
  exact out_err e
theorem ouW (h : cut "" ts = (some x, r)) (hr : r = (.op y, at9) :: r') (hx : (outL.any fun z => z == x) = true) (hw : (y != (";" : Str)) = true) : outF d st ts = .error ("unexpected_token", at9) :=
  out_want (levelF_ok h hx) (want_no hr hw)
theorem ouK (h : cut "" ts = (some x, r)) (hr : r = (.op y, at9) :: r') (hx : (outL.any fun z => z == x) = true) (hw : (y != (";" : Str)) = false) : outF d st ts = .ok (.tuple [d, st, .str x], r') :=
  out_ok (levelF_ok h hx) (want_yes hr hw)
theorem st_not1 (h : ¬ ((x.length : Int) = 1)) : (stL.any fun z => z == x) = false := one_no stL_one (by omega)
theorem ou_not1 (h : ¬ ((x.length : Int) = 1)) : (outL.any fun z => z == x) = false := one_no outL_one (by omega)
theorem st_has {b : Bool} (h : (x.length : Int) = 1) (hb : b = hasS "01x?b" x) : (stL.any fun z => z == x) = b := by rw [hb, lev1 (by omega)]
theorem ou_has {b : Bool} (h : (x.length : Int) = 1) (hb : b = hasS "01x-" x) : (outL.any fun z => z == x) = b := by rw [hb, out1 (by omega)]
end
section
variable {held : Bool} {toks : List (Tk × Int)} {j f : Nat} {ds : List Dat} {e : Str × Int}
/-- the rows read so far -/
noncomputable def RowsAt (held : Bool) (toks : List (Tk × Int)) (j : Nat) (ds : List Dat) : Prop := ∃ f, rowsL held (toks.length + 1) [] toks.tail = rowsL held f ds (toks.drop j) ∧ (toks.drop j).length < f
theorem rows_start (h : (hdT toks).1.isKey "table" = true) : RowsAt held toks 1 [] := by
  refine ⟨toks.length + 1, by rw [← List.drop_one], ?_⟩
  rw [List.length_drop]; omega
theorem rows_bad (hT : (hdT toks).1.isKey "table" = true) (hA : RowsAt held toks j ds) (hk : (hdT (toks.drop j)).1.isKey "endtable" = false) (h : oneRow held (toks.drop j) = .error e) : outD (tableL held toks) = .tuple [.str e.1, .int e.2] := by
  obtain ⟨f, h1, h2⟩ := hA
  match f, h2 with
  | f + 1, _ =>
    have h3 : rowsL held (f + 1) ds (toks.drop j) = .error e := by
      rw [rowsL, if_neg (by rw [hk]; decide)]
      exact thenR_err h
    rw [tableL, if_pos hT, h1, h3]
    rfl
theorem rows_next {j' : Nat} {d : Dat} (hA : RowsAt held toks j ds) (hk : (hdT (toks.drop j)).1.isKey "endtable" = false) (h : oneRow held (toks.drop j) = .ok (d, toks.drop j')) (hj : j < j') (hl : j < toks.length) : RowsAt held toks j' (ds ++ [d]) := by
  obtain ⟨f, h1, h2⟩ := hA
  match f, h2 with
  | f + 1, h2 =>
    refine ⟨f, ?_, ?_⟩
    · rw [h1, rowsL, if_neg (by rw [hk]; decide)]
      exact thenR_ok h
    · rw [List.length_drop] at h2 ⊢; omega
theorem rows_end (hT : (hdT toks).1.isKey "table" = true) (hA : RowsAt held toks j ds) (hk : (hdT (toks.drop j)).1.isKey "endtable" = true) :
    tableL held toks = if (hdT (toks.drop (j + 1))).1.isKey "endprimitive" then .ok (ds, toks.drop (j + 2)) else .error ("unexpected_token", (hdT (toks.drop (j + 1))).2) := by
  obtain ⟨f, h1, h2⟩ := hA
  match f, h2 with
  | f + 1, _ =>
    rw [tableL, if_pos hT, h1, rowsL, if_pos hk]
    show (if (hdT (toks.drop j).tail).1.isKey "endprimitive" then Except.ok (ds, (toks.drop j).tail.tail) else _) = _
    rw [List.tail_drop, List.tail_drop]
theorem table_no (hT : (hdT toks).1.isKey "table" = false) : outD (tableL held toks) = .tuple [.str "unexpected_token", .int (hdT toks).2] := by
  rw [tableL, if_neg (by rw [hT]; decide)]; rfl
end
theorem key_lt {toks : List (Tk × Int)} {j : Nat} {x : Str} (h : (hdT (toks.drop j)).1.isKey x = true) : j < toks.length := by
  by_cases h1 : j < toks.length
  · exact h1
  · rw [List.drop_eq_nil_of_le (by omega)] at h
    exact absurd h Bool.false_ne_true
end
local macro_rules | `(tactic| walk_at "nn") => `(tactic| first | k_asm | exact news_rotA (by assumption) | exact news_rotB (by assumption) | exact news_rotC (by assumption) | exact news_rotD (by assumption))
local macro_rules | `(tactic| walk_at "call ref") => `(tactic| (walk_at "cr"; (with_reducible refine Mine.cg 250 ?_); k_dflt (apply some_spec; walk_at "std"; walk_at "fp"; (case mS | mO => k_mem); (case dS | dO => (repeat constructor)); (case hS | hO | hS2 | hO2 => simp); (case hxl | hyl | hxv | hyv => decide +kernel); walk_at "kw")))
local macro_rules | `(tactic| walk_at "binaryOp Add ref ref") => `(tactic| (k_here; k_dflt (apply add_letters; (case F | N => k_asm); (case m1 | m2 => k_mem); (case l1 | l2 => walk_at "len"); walk_at "kd")))
section
theorem rstP3 : True := by
  w_top off
  trivial
set_option maxHeartbeats 4000000
theorem ne_row {d : Addr} {a b : Addr × Obj} {rest : List (Addr × Obj)} (h1 : @LT.lt Nat _ a.1 d) (h2 : @LT.lt Nat _ b.1 d) (h3 : AllLt d rest) : ∀ q ∈ a :: b :: rest, q.1 ≠ d := fun q hq => by
  rcases List.mem_cons.mp hq with rfl | hq
  · exact Nat.ne_of_lt h1
  rcases List.mem_cons.mp hq with rfl | hq
  · exact Nat.ne_of_lt h2
  · exact Nat.ne_of_lt (AllLt.mem' h3 q hq)
theorem allLt_left {d : Nat} {a b : List (Addr × Obj)} (h : AllLt d (a ++ b)) : AllLt d a := by
  induction a with
  | nil => trivial
  | cons p r ih => exact ⟨h.1, ih h.2⟩
theorem sub_turn {X : Type} {a b c d e : X} {cst own : List X} : ∀ p ∈ a :: b :: c :: cst, p ∈ c :: d :: a :: b :: e :: (cst ++ own) := fun p hp => by
  simp only [List.mem_cons, List.mem_append] at hp ⊢
  rcases hp with h | h | h | h <;> simp [h]
theorem news4 {h₀ h : Heap} {L : Addr} {a b c : Addr × Obj} {rest led : List (Addr × Obj)} (N : News h₀ L h led) (m1 : a ∈ led) (m2 : b ∈ led) (m3 : c ∈ led) (mr : ∀ q ∈ rest, q ∈ led) : News h₀ L h (a :: b :: c :: rest) := fun q hq => N q (by
  rcases List.mem_cons.mp hq with rfl | hq
  · exact m1
  rcases List.mem_cons.mp hq with rfl | hq
  · exact m2
  rcases List.mem_cons.mp hq with rfl | hq
  · exact m3
  exact mr q hq)
theorem app_letter {prog : Program} {w : World} {A : Around} {E : Value → Shared → Prop} {s : Shared} {h₀ : Heap} {L : Addr} {news news' : List (Addr × Obj)} {m : Str → Option Value} {D : Addr} {us : List Value} {n : Nat} {x : Value} {Q : Value → Shared → Prop} (F : Fr h₀ L s.heap m) (N : News h₀ L s.heap news) (U : Upd D (listOf us.toArray n) (listOf (us ++ [x]).toArray (n + 1)) news news')
    (hsz : us.length ≤ 10000) (h : ∀ h', Fr h₀ L h' m → News h₀ L h' news' → Q .none { s with heap := h' }) : wpAny (model prog w) A (call (.builtin "list.append") [.ref D, x]) Q E s :=
  append_K F N (by rw [List.push_toArray]; exact U) h (Nat.le_trans (by simpa using hsz) (Nat.le_of_ble_eq_true rfl))
theorem V_app {xs ys : List Str} (h1 : ∀ z ∈ xs, V z = true) (h2 : ∀ z ∈ ys, V z = true) : ∀ z ∈ xs ++ ys, V z = true := fun z hz => (List.mem_append.mp hz).elim (h1 z) (h2 z)
theorem V_one {x : Str} (h : V x = true) : ∀ z ∈ [x], V z = true := fun z hz => by rw [List.mem_singleton.mp hz]; exact h
theorem dat_app {us vs : List Value} {xs ys : List Str} (h1 : DatAll [] us (xs.map Dat.str)) (h2 : DatAll [] vs (ys.map Dat.str)) : DatAll [] (us ++ vs) ((xs ++ ys).map Dat.str) := by
  rw [List.map_append]; exact h1.append h2
theorem dat_one {x : Str} {t : Tok} : DatAll [] [Value.str x t] (([x] : List Str).map Dat.str) := .cons (.str x t) .nil
local macro_rules | `(tactic| walk_at "call builtin:list.append") => `(tactic| (k_here; k_dflt (apply app_letter; (case F | N => k_asm); (case U => k_upd); (case hsz => walk_at "len"); walk_at "kw")))
structure SpS where
  us : List Value
  zs : List Str
  nR : Nat
  lR : Addr
  x : Int
  tx : Tok
  y : Int
  ty : Tok
  vs : List Value
  ns : List Int
  nC : Nat
  nF : Nat
noncomputable abbrev spLed (lF lC : Addr) (cst : List (Addr × Obj)) (c : SpS) : List (Addr × Obj) := (lF, listOf #[.ref lC, .int c.x c.tx, .int c.y c.ty] c.nF) :: (lC, listOf c.vs.toArray c.nC) :: (c.lR, listOf c.us.toArray c.nR) :: cst
noncomputable abbrev spPs (c : SpS) : List (Str × Value) := [("row", .ref c.lR)]
structure SpJ (lF lC : Addr) (cst : List (Addr × Obj)) (i : Nat) (c : SpS) : Prop where
  d : DatAll [] c.us (c.zs.map Dat.str)
  v : ∀ z ∈ c.zs, V z = true
  l : c.zs.length ≤ 5 * i
  f : DatAll [] c.vs (c.ns.map Dat.int)
  k : c.vs.length ≤ 40
  n1 : c.lR ≠ lF
  n2 : c.lR ≠ lC
  n3 : ∀ q ∈ cst, q.1 ≠ c.lR
section
variable {w : World} {mean : ExcName → Option Value} {mg mb : Str → Option Value} {dp un : Nat} {gd : Option (List Code)} {cn : Str} {cs : Scope} {a : Addr} {ccd : Value} {outer : List Env} {A₀ : Around} {base h₀ : Heap} {L : Addr} {m : Str → Option Value}
    {rest : List (Addr × Obj)} {s : Shared} {Q E : Value → Shared → Prop} {lF lC : Addr} {x y : Int} {tx ty : Tok} {vs : List Value} {ns : List Int} {nF nC : Nat} {held : Bool}
theorem spelled_spec
    (B : Below A₀ base outer h₀) (F : Fr h₀ L s.heap m) (X : (hd.heap_39 w.params).In h₀) (N : News h₀ L s.heap ((lF, listOf #[.ref lC, .int x tx, .int y ty] nF) :: (lC, listOf vs.toArray nC) :: rest)) (T : Top hd.view_39 Lz mean mg mb h₀) (hk : cs.kind = .function)
    (hd : dp + 9 < recursionLimit) (hu : un + 140 < cLine) (hI : DatAll [] vs (ns.map Dat.int)) (hlen : vs.length ≤ 40) (n1 : lF ≠ lC) (o1 : ∀ q ∈ rest, q.1 ≠ lF) (o2 : ∀ q ∈ rest, q.1 ≠ lC)
    (ret : ∀ (h' : Heap) tk' D (us : List Value) (zs : List Str) nD x' tx' y' ty' (vs' : List Value) (ns' : List Int) nC' nF', us.length ≤ 40 → (∀ z ∈ zs, V z = true) → DatAll [] us (zs.map Dat.str) → DatAll [] vs' (ns'.map Dat.int) → vs'.length ≤ 40 → (∀ q ∈ rest, @LT.lt Nat _ q.1 D) → @LT.lt Nat _ lF D → @LT.lt Nat _ lC D → Fr h₀ L h' m →
      News h₀ L h' ((D, listOf us.toArray nD) :: (lF, listOf #[.ref lC, .int x' tx', .int y' ty'] nF') :: (lC, listOf vs'.toArray nC') :: rest) → Q (.ref D) { s with heap := h', toks := tk' }) :
    wpAny (model PySem.Challenge.rw_sj0031_01.row.prog w) (ktrTop dp un gd cn cs L a ccd [] outer) (call (.ref 257) [.ref lF, .bool held]) Q E s := by
  refine wpAny_call ?_
  k_dflt ktr_enter
  ktn_open
  rename Fr _ _ _ _ => F'
  k_dflt (refine For_invVF F' (by with_unfolding_all rfl) (by with_unfolding_all rfl) ?_)
  repeat' ((fail_if_success (with_reducible show wpAny _ _ (PySem.pyIter _) _ _ _)); first | (k_unfold; (try dsimp only)) | walk1 | (dsimp only; walk1))
  rename (_ ∧ _ ∧ _ ∧ _ ∧ AllLt _ _) => q9
  rename IsRange _ _ _ _ _ _ _ _ => hR
  rename Fr _ _ _ _ => F'
  rename News _ _ _ _ => N'
  refine' st_range (σ := SpS) (spLed lF lC ?cst) spPs [] (SpJ lF lC ?cst) ⟨[], [], _, _, _, _, _, _, _, _, _, _⟩ ?hh hR (Int.toNat_of_nonneg (by assumption)).symm ?hs F' N' ?hk ?hj ?turn ?done
  case hh => with_unfolding_all rfl
  case hs => omega
  case hk =>
    intro q hq
    rw [List.mem_singleton.mp hq]
    with_unfolding_all rfl
  case hj => exact ⟨.nil, (fun _ h => nomatch h), Nat.zero_le _, by assumption, by assumption, Nat.ne_of_gt q9.2.2.1, Nat.ne_of_gt q9.2.2.2.1, ne_row q9.1 q9.2.1 q9.2.2.2.2⟩
  case turn =>
    clear F' N' N hR
    rintro ⟨us, zs, nR, lR, x, tx, y, ty, vs, ns, nC, nF⟩ i t u h tk own hi J hoff F1 N1
    dsimp only [spLed, spPs, List.cons_append, envOf] at hoff F1 N1
    unfold stM at F1
    obtain ⟨j1, j2, j3, j4, j5, j6, j7, j8⟩ := J
    dsimp only at j1 j2 j3 j4 j5 j6 j7 j8
    have hn3 : i ≤ 3 := by omega
    have j1' := j1.length
    rw [List.length_map] at j1'
    have w1 : ∀ q ∈ own, q.1 ≠ lF := fun q hq => hoff q hq _ (.head _)
    have w2 : ∀ q ∈ own, q.1 ≠ lC := fun q hq => hoff q hq _ (.tail _ (.head _))
    ktn_open
    rename_i us1 zs1 x1 tx1 y1 ty1 vs1 ns1 nC1 nF1 ul uv dz I1 l1 f1 f2 f3 D1 h1 l9 h2 F9 N9 _
    have dz' := dz.length
    rw [List.length_map] at dz'
    show StEnd _ _ _ _ _ _ _ _ _ _ _
    refine ⟨⟨us ++ us1, zs ++ zs1, 0, D1, x1, tx1, y1, ty1, vs1, ns1, nC1, nF1⟩, _, _, _, _, rfl, F9, N9, sub_turn, fun p hp => .tail _ (.tail _ (.tail _ (.tail _ (.tail _ (.tail _ (.tail _ (List.mem_append_right _ hp))))))), ?_, ?_, ?_, ⟨dat_app j1 dz, V_app j2 uv, by rw [List.length_append]; omega, I1, l1, Nat.ne_of_gt l9.2.1, Nat.ne_of_gt l9.2.2.1, ne_row l9.2.2.2.2.1 l9.2.2.2.2.2.1 (allLt_left l9.2.2.2.2.2.2)⟩⟩
    · intro p hp b hb
      have hlt : @LT.lt Nat _ p.1 D1 := AllLt.mem' l9.2.2.2.2.2.2 p (List.mem_append_right _ hp)
      rcases List.mem_cons.mp hb with rfl | hb
      · exact w1 p hp
      rcases List.mem_cons.mp hb with rfl | hb
      · exact w2 p hp
      rcases List.mem_cons.mp hb with rfl | hb
      · exact Nat.ne_of_lt hlt
      · exact hoff p hp b (.tail _ (.tail _ (.tail _ hb)))
    · intro q hq
      rw [List.mem_singleton.mp hq]
      rfl
    · intro z h1 h2 h3
      have h4 := h3 _ (.head _)
      show (if z = _ then _ else if z = _ then _ else if z = _ then _ else _) = _
      rw [if_neg h4, if_neg h1, if_neg h4]
      rfl
  case done =>
    clear F' N' hR
    rintro ⟨us, zs, nR, lR, x, tx, y, ty, vs, ns, nC, nF⟩ u v h tk J F1 N1
    dsimp only [spLed, spPs, envOf] at F1 N1
    unfold stM at F1
    obtain ⟨j1, j2, j3, j4, j5, j6, j7, j8⟩ := J
    dsimp only at j1 j2 j3 j4 j5 j6 j7 j8
    have j1' := j1.length
    rw [List.length_map] at j1'
    have w3 := j8 _ (.head _)
    have w4 := j8 _ (.tail _ (.head _))
    have w5 : ∀ q ∈ rest, q.1 ≠ lR := fun q hq => j8 q (.tail _ (.tail _ hq))
    have j6' := j6.symm
    have j7' := j7.symm
    dsimp only at w3 w4
    have hz : zs.length ≤ 20 := by omega
    clear j8
    ktn_open
    all_goals (
      rename News h₀ L _ _ => N9
      rename Fr h₀ L _ _ => F9
      rename (@LT.lt Nat _ _ _ ∧ @LT.lt Nat _ lF _ ∧ @LT.lt Nat _ lC _ ∧ _) => l9
      rename DatAll [] _ (List.map Dat.str _) => z1
      have e1 := l9.2.1
      have e2 := l9.2.2.1
      first | have l3 := @AllLt.mem' _ rest l9.2.2.2.2.2.2.2.2 | have l3 := @AllLt.mem' _ rest l9.2.2.2.2.2.2.2.2.2.2.2.2
      first
      | (have hh9 : held = false := by assumption
         refine' ret _ _ _ _ _ _ _ _ _ _ _ _ _ _ ?hl ?hv (dat_app (dat_app (dat_app j1 dat_one) z1) dat_one) (by assumption) (by assumption) l3 e1 e2 F9 ?hn
         (case hn => exact news4 N9 (by k_mem) (by k_mem) (by k_mem) (fun q hq => by k_mem))
         (case hl => (simp only [List.length_append, List.length_cons, List.length_nil]; omega))
         (case hv => exact V_app (V_app (V_app j2 (V_one (by decide +kernel))) (by assumption)) (V_one (by decide +kernel))))
      | (have hh9 : held = true := by assumption
         revert z1
         rename DatAll [] _ (List.map Dat.str _) => z2
         rename (∀ z ∈ _, V z = true) => v1
         revert v1
         rename (∀ z ∈ _, V z = true) => v2
         intro v1 z1
         refine' ret _ _ _ _ _ _ _ _ _ _ _ _ _ _ ?hl ?hv (dat_app (dat_app (dat_app (dat_app (dat_app j1 dat_one) z2) dat_one) z1) dat_one) (by assumption) (by assumption) l3 e1 e2 F9 ?hn
         (case hn => exact news4 N9 (by k_mem) (by k_mem) (by k_mem) (fun q hq => by k_mem))
         (case hl => (simp only [List.length_append, List.length_cons, List.length_nil]; omega))
         (case hv => exact V_app (V_app (V_app (V_app (V_app j2 (V_one (by decide +kernel))) v2) (V_one (by decide +kernel))) v1) (V_one (by decide +kernel)))))
end
end
section
theorem rstP4 : True := by
  w_top off
  trivial
theorem ints_dat {vs : List Value} {xs : List Int} (h : IntsAre vs xs) : DatAll [] vs (xs.map Dat.int) := by
  induction h with
  | nil => exact .nil
  | cons x t _ ih => exact .cons (.int x t) ih
set_option maxHeartbeats 1000000
section
variable {w : World} {mean : ExcName → Option Value} {mg mb : Str → Option Value} {dp un : Nat} {gd : Option (List Code)} {cn : Str} {cs : Scope} {a : Addr} {ccd : Value} {outer : List Env} {A₀ : Around} {base h₀ : Heap} {L : Addr} {m : Str → Option Value}
    {rest : List (Addr × Obj)} {s : Shared} {Q E : Value → Shared → Prop} {lS : Addr} {vs : List Value} {is : List Int}
theorem feed_spec
    (B : Below A₀ base outer h₀) (F : Fr h₀ L s.heap m) (X : (hd.heap_39 w.params).In h₀) (N : News h₀ L s.heap []) (T : Top hd.view_39 Lz mean mg mb h₀) (hk : cs.kind = .function)
    (hd : dp + 3 < recursionLimit) (hu : un + 100 < cLine) (hL : h₀.IsList lS vs.toArray) (hI : IntsAre vs is) (hlen : ¬ ((63 : Nat) : Int) < (is.length : Int))
    (ret : ∀ (h' : Heap) tk' lF lC x' tx' y' ty' (vs' : List Value) (ns' : List Int) nC' nF', DatAll [] vs' (ns'.map Dat.int) → vs'.length ≤ 40 → lF ≠ lC → Fr h₀ L h' m → News h₀ L h' [(lF, listOf #[.ref lC, .int x' tx', .int y' ty'] nF'), (lC, listOf vs'.toArray nC')] → Q (.ref lF) { s with heap := h', toks := tk' }) :
    wpAny (model PySem.Challenge.rw_sj0031_01.row.prog w) (ktrTop dp un gd cn cs L a ccd [] outer) (call (.ref 229) [.ref lS]) Q E s := by
  refine wpAny_call ?_
  k_dflt ktr_enter
  have hL9 := Fr.lst (by assumption) hL
  ktn_open
  rename News h₀ L _ _ => N9
  rename IntsAre _ _ => I9
  have hy := I9.length
  rw [List.length_map, List.length_take] at hy
  rename (@LT.lt Nat _ _ _ ∧ @LT.lt Nat _ _ _) => l9
  exact ret _ _ _ _ _ _ _ _ _ _ _ _ (ints_dat I9) (by rw [hy]; exact Nat.min_le_left ..) (Nat.ne_of_gt l9.1) (by assumption) (fun q hq => N9 q (by
    rcases List.mem_cons.mp hq with rfl | hq
    · exact .head _
    · rw [List.mem_singleton.mp hq]; exact .tail _ (.head _)))
end
end
section
local macro_rules | `(tactic| walk_at "pad") => `(tactic| fail "pad")
theorem rstP5 : True := by
  w_top off
  trivial
/-- the token that the law makes of a text -/
noncomputable def tokOf (x : Str) : Tk :=
  if ([("table" : Str), "endtable", "endprimitive", "begin"].any fun z => z == x) = true then .key x
  else if (x == "1'b0") = true then .num "1" "b" false "0"
  else if (x == "quoted") = true then .str "1"
  else if ¬ x.cps.toList < ("0" : Str).cps.toList ∧ x.cps.toList < (":" : Str).cps.toList then .num "" "" true x
  else if Txt.isalpha x = true then .id x else .op x
section
variable {x : Str}
theorem ne_t {b : Bool} (h : b = false) : ¬ b = true := by rw [h]; decide
theorem tok1 (h1 : ([("table" : Str), "endtable", "endprimitive", "begin"].any fun z => z == x) = true) : tokOf x = .key x := if_pos h1
theorem tok2 (h1 : ([("table" : Str), "endtable", "endprimitive", "begin"].any fun z => z == x) = false) (h2 : (x == "1'b0") = true) : tokOf x = .num "1" "b" false "0" := by rw [tokOf, if_neg (ne_t h1), if_pos h2]
theorem tok3 (h1 : ([("table" : Str), "endtable", "endprimitive", "begin"].any fun z => z == x) = false) (h2 : (x == "1'b0") = false) (h3 : (x == "quoted") = true) : tokOf x = .str "1" := by rw [tokOf, if_neg (ne_t h1), if_neg (ne_t h2), if_pos h3]
theorem tok4 (h1 : ([("table" : Str), "endtable", "endprimitive", "begin"].any fun z => z == x) = false) (h2 : (x == "1'b0") = false) (h3 : (x == "quoted") = false) (h4 : ¬ x.cps.toList < ("0" : Str).cps.toList) (h5 : x.cps.toList < (":" : Str).cps.toList) : tokOf x = .num "" "" true x := by rw [tokOf, if_neg (ne_t h1), if_neg (ne_t h2), if_neg (ne_t h3), if_pos ⟨h4, h5⟩]
theorem tok5 (h1 : ([("table" : Str), "endtable", "endprimitive", "begin"].any fun z => z == x) = false) (h2 : (x == "1'b0") = false) (h3 : (x == "quoted") = false) (h4 : x.cps.toList < ("0" : Str).cps.toList) (h5 : Txt.isalpha x = true) : tokOf x = .id x := by rw [tokOf, if_neg (ne_t h1), if_neg (ne_t h2), if_neg (ne_t h3), if_neg (fun h => h.1 h4), if_pos h5]
theorem tok6 (h1 : ([("table" : Str), "endtable", "endprimitive", "begin"].any fun z => z == x) = false) (h2 : (x == "1'b0") = false) (h3 : (x == "quoted") = false) (h4 : ¬ x.cps.toList < (":" : Str).cps.toList) (h5 : Txt.isalpha x = true) : tokOf x = .id x := by rw [tokOf, if_neg (ne_t h1), if_neg (ne_t h2), if_neg (ne_t h3), if_neg (fun h => h4 h.2), if_pos h5]
theorem tok7 (h1 : ([("table" : Str), "endtable", "endprimitive", "begin"].any fun z => z == x) = false) (h2 : (x == "1'b0") = false) (h3 : (x == "quoted") = false) (h4 : x.cps.toList < ("0" : Str).cps.toList) (h5 : Txt.isalpha x = false) : tokOf x = .op x := by rw [tokOf, if_neg (ne_t h1), if_neg (ne_t h2), if_neg (ne_t h3), if_neg (fun h => h.1 h4), if_neg (ne_t h5)]
theorem tok8 (h1 : ([("table" : Str), "endtable", "endprimitive", "begin"].any fun z => z == x) = false) (h2 : (x == "1'b0") = false) (h3 : (x == "quoted") = false) (h4 : ¬ x.cps.toList < (":" : Str).cps.toList) (h5 : Txt.isalpha x = false) : tokOf x = .op x := by rw [tokOf, if_neg (ne_t h1), if_neg (ne_t h2), if_neg (ne_t h3), if_neg (fun h => h4 h.2), if_neg (ne_t h5)]
end
theorem news2 {h₀ h : Heap} {L : Addr} {a : Addr × Obj} {rest led : List (Addr × Obj)} (N : News h₀ L h led) (m1 : a ∈ led) (mr : ∀ q ∈ rest, q ∈ led) : News h₀ L h (a :: rest) := fun q hq => N q (by
  rcases List.mem_cons.mp hq with rfl | hq
  · exact m1
  exact mr q hq)
set_option maxHeartbeats 1000000
section
variable {w : World} {mean : ExcName → Option Value} {mg mb : Str → Option Value} {dp un : Nat} {gd : Option (List Code)} {cn : Str} {cs : Scope} {a : Addr} {ccd : Value} {outer : List Env} {A₀ : Around} {base h₀ : Heap} {L : Addr} {m : Str → Option Value}
    {rest : List (Addr × Obj)} {s : Shared} {Q E : Value → Shared → Prop} {x : Str} {tx : Tok}
theorem token_spec
    (B : Below A₀ base outer h₀) (F : Fr h₀ L s.heap m) (X : (hd.heap_39 w.params).In h₀) (N : News h₀ L s.heap rest) (T : Top hd.view_39 Lz mean mg mb h₀) (hk : cs.kind = .function)
    (hd : dp + 3 < recursionLimit) (hu : un + 100 < cLine)
    (ret : ∀ (h' : Heap) tk' D kk v tl, DatIn tl v (tokOf x).val → (∀ p ∈ rest, ∀ q ∈ tl, @LT.lt Nat _ p.1 q.1) → (∀ p ∈ tl ++ rest, @LT.lt Nat _ p.1 D) → Fr h₀ L h' m → News h₀ L h' ((D, tupObj [.str (tokOf x).kind kk, v]) :: (tl ++ rest)) → Q (.ref D) { s with heap := h', toks := tk' }) :
    wpAny (model PySem.Challenge.rw_sj0031_01.row.prog w) (ktrTop dp un gd cn cs L a ccd [] outer) (call (.ref 243) [.str x tx]) Q E s := by
  refine wpAny_call ?_
  k_dflt ktr_enter
  ktn_open
  all_goals (rename News h₀ L _ _ => N9; rename Fr h₀ L _ _ => F9)
  all_goals first
    | (have e := tok1 (x := x) (by assumption)
       simp only [e] at ret
       refine ret _ _ _ _ _ [] (.str _ _) (fun _ _ _ h => nomatch h) ?_ F9 (news2 N9 (.head _) (fun q hq => by (replace hq : q ∈ rest := hq); k_mem))
       intro q hq
       rename (_ ∧ AllLt _ rest) => l9
       exact AllLt.mem' l9.2 q hq)
    | (have e := tok2 (x := x) (by assumption) (by assumption)
       rename (_ ∧ _ ∧ AllLt _ rest) => l9
       revert l9
       rename (_ ∧ AllLt _ rest) => l8
       intro l9
       simp only [e] at ret
       refine ret _ _ _ _ _ [_] (.tuple (.head _) (.cons (.str _ _) (.cons (.str _ _) (.cons (.bool _) (.cons (.str _ _) .nil))))) ?_ ?_ F9 (news2 N9 (.head _) (fun q hq => by rcases List.mem_cons.mp hq with rfl | hq; exact .tail _ (.head _); (replace hq : q ∈ rest := hq); k_mem))
       · intro p hp q hq
         rw [List.mem_singleton.mp hq]
         exact AllLt.mem' l8.2 p hp
       · intro q hq
         rcases List.mem_cons.mp hq with rfl | hq
         · exact l9.1
         · exact AllLt.mem' l9.2.2 q hq)
    | (have e := tok3 (x := x) (by assumption) (by assumption) (by assumption)
       simp only [e] at ret
       refine ret _ _ _ _ _ [] (.str _ _) (fun _ _ _ h => nomatch h) ?_ F9 (news2 N9 (.head _) (fun q hq => by (replace hq : q ∈ rest := hq); k_mem))
       intro q hq
       rename (_ ∧ AllLt _ rest) => l9
       exact AllLt.mem' l9.2 q hq)
    | (have e := tok4 (x := x) (by assumption) (by assumption) (by assumption) (by assumption) (by assumption)
       rename (_ ∧ _ ∧ AllLt _ rest) => l9
       revert l9
       rename (_ ∧ AllLt _ rest) => l8
       intro l9
       simp only [e] at ret
       refine ret _ _ _ _ _ [_] (.tuple (.head _) (.cons (.str _ _) (.cons (.str _ _) (.cons (.bool _) (.cons (.str _ _) .nil))))) ?_ ?_ F9 (news2 N9 (.head _) (fun q hq => by rcases List.mem_cons.mp hq with rfl | hq; exact .tail _ (.head _); (replace hq : q ∈ rest := hq); k_mem))
       · intro p hp q hq
         rw [List.mem_singleton.mp hq]
         exact AllLt.mem' l8.2 p hp
       · intro q hq
         rcases List.mem_cons.mp hq with rfl | hq
         · exact l9.1
         · exact AllLt.mem' l9.2.2 q hq)
    | (have e := tok5 (x := x) (by assumption) (by assumption) (by assumption) (by assumption) (by assumption)
       simp only [e] at ret
       refine ret _ _ _ _ _ [] (.str _ _) (fun _ _ _ h => nomatch h) ?_ F9 (news2 N9 (.head _) (fun q hq => by (replace hq : q ∈ rest := hq); k_mem))
       intro q hq
       rename (_ ∧ AllLt _ rest) => l9
       exact AllLt.mem' l9.2 q hq)
    | (have e := tok6 (x := x) (by assumption) (by assumption) (by assumption) (by assumption) (by assumption)
       simp only [e] at ret
       refine ret _ _ _ _ _ [] (.str _ _) (fun _ _ _ h => nomatch h) ?_ F9 (news2 N9 (.head _) (fun q hq => by (replace hq : q ∈ rest := hq); k_mem))
       intro q hq
       rename (_ ∧ AllLt _ rest) => l9
       exact AllLt.mem' l9.2 q hq)
    | (have e := tok7 (x := x) (by assumption) (by assumption) (by assumption) (by assumption) (by assumption)
       simp only [e] at ret
       refine ret _ _ _ _ _ [] (.str _ _) (fun _ _ _ h => nomatch h) ?_ F9 (news2 N9 (.head _) (fun q hq => by (replace hq : q ∈ rest := hq); k_mem))
       intro q hq
       rename (_ ∧ AllLt _ rest) => l9
       exact AllLt.mem' l9.2 q hq)
    | (have e := tok8 (x := x) (by assumption) (by assumption) (by assumption) (by assumption) (by assumption)
       simp only [e] at ret
       refine ret _ _ _ _ _ [] (.str _ _) (fun _ _ _ h => nomatch h) ?_ F9 (news2 N9 (.head _) (fun q hq => by (replace hq : q ∈ rest := hq); k_mem))
       intro q hq
       rename (_ ∧ AllLt _ rest) => l9
       exact AllLt.mem' l9.2 q hq)
end
end
section
theorem rstP6 : True := by
  w_top off
  trivial
set_option maxHeartbeats 1000000
theorem part_item {prog : Program} {w : World} {A : Around} {E : Value → Shared → Prop} {s : Shared} {h₀ : Heap} {L : Addr} {led : List (Addr × Obj)} {Q : Value → Shared → Prop} {l : Addr} {vs : List Value} {nC : Nat} {value slice : PySem.Expr} {xs : List Str} {i : Nat} {u : Tok} (N : News h₀ L s.heap led) (hm : (l, listOf vs.toArray nC) ∈ led) (hd : DatAll [] vs (xs.map Dat.str)) (h1 : i < xs.length) (hfit : xs.length ≤ 100000) (hlen : ∀ p ∈ xs, p.length ≤ 2000)
    (h : ∀ p t, xs[i]? = some p → p.length ≤ 2000 → Q (.str p t) s) (hs : subscripted slice false (.ref l) (.int (i : Int) u) = operate [.ref l, .int (i : Int) u] (getItem (.ref l) (.int (i : Int) u)) := by with_unfolding_all rfl) :
    wpAny (model prog w) A (subscriptTail value slice (.ref l) (.int (i : Int) u)) Q E s := by
  refine kd_item N hm hd (by omega) (by rw [List.length_map]; omega) (by omega) (fun v d hv _ hd' => ?_) hs
  rw [List.getElem?_map] at hv
  obtain ⟨p, hp, rfl⟩ := Option.map_eq_some_iff.mp hv
  cases hd' with
  | str _ t => exact h p t (by simpa using hp) (hlen p (List.mem_of_getElem? (by simpa using hp)))
theorem notIn_gen {prog : Program} {w : World} {A : Around} {E : Value → Shared → Prop} {s : Shared} {x y : Str} {t u : Tok} {Q : Value → Shared → Prop} (h : ∀ b : Bool, b = hasS x y → Q (.bool (!b)) s) : wpAny (model prog w) A (compareOp .NotIn (.str y u) (.str x t)) Q E s := PyProof.Rows.notIn_str (h _ rfl)
local macro_rules | `(tactic| walk_at "compareOp NotIn str str") => `(tactic| (k_here; (refine notIn_gen ?_); intros))
local macro_rules | `(tactic| walk_at "subscriptTail Name Name ref int") => `(tactic| (k_here; k_dflt (apply part_item; (case N => k_asm); (case hm => k_mem); (case hd | h1 | hfit | hlen => assumption); (case hs => with_unfolding_all rfl); walk_at "kn")))
theorem iteF {a b : Prop} {d : Decidable (false = true)} (h : b) : @ite Prop (false = true) d a b := by rw [if_neg Bool.false_ne_true]; exact h
theorem iteT {a b : Prop} {d : Decidable (true = true)} (h : a) : @ite Prop (true = true) d a b := by rw [if_pos rfl]; exact h
theorem stRet {σ : Type} {h₀ : Heap} {L : Addr} {x : Str} {Led : σ → List (Addr × Obj)} {ps : σ → List (Str × Value)} {stored : List Str} {m₀ : Str → Option Value} {J : σ → Prop} {own : List (Addr × Obj)} {s s₂ : Shared} {Q : Flow → Shared → Prop} {v : Value} (h : Q (.ret v) s₂) : StPost h₀ L x Led ps stored m₀ J own s Q (.ret v) s₂ := h
theorem app_sym {prog : Program} {w : World} {A : Around} {E : Value → Shared → Prop} {s : Shared} {h₀ : Heap} {L : Addr} {news news' : List (Addr × Obj)} {m : Str → Option Value} {D : Addr} {us : List Value} {n : Nat} {x : Value} {Q : Value → Shared → Prop} (F : Fr h₀ L s.heap m) (N : News h₀ L s.heap news) (U : Upd D (listOf us.toArray n) (listOf (us ++ [x]).toArray (n + 1)) news news')
    (hsz : us.length ≤ 6000000) (h : ∀ h', Fr h₀ L h' m → News h₀ L h' news' → Q .none { s with heap := h' }) : wpAny (model prog w) A (call (.builtin "list.append") [.ref D, x]) Q E s :=
  append_K F N (by rw [List.push_toArray]; exact U) h (Nat.le_trans (by simpa using hsz) (Nat.le_of_ble_eq_true rfl))
local macro_rules | `(tactic| walk_at "call builtin:list.append") => `(tactic| (k_here; k_dflt (apply app_sym; (case F | N => k_asm); (case U => k_upd); (case hsz => walk_at "len"); walk_at "kw")))
structure SyS where
  vs : List Value
  ds : List Dat
  n : Nat
  tl : List (Addr × Obj)
noncomputable abbrev syLed (lP lY : Addr) (o : Obj) (rest : List (Addr × Obj)) (c : SyS) : List (Addr × Obj) := (lP, o) :: (lY, listOf c.vs.toArray c.n) :: (c.tl ++ rest)
structure SyJ (lP lY : Addr) (rest : List (Addr × Obj)) (x : Str) (i : Nat) (c : SyS) : Prop where
  d : DatAll c.tl c.vs c.ds
  e : symL (chars x) = cat (some c.ds) (sufL x (Txt.split x "(") i)
  o1 : ∀ q ∈ c.tl, q.1 ≠ lP
  o2 : ∀ q ∈ c.tl, q.1 ≠ lY
  z : c.vs.length ≤ 2001 * i
  o3 : ∀ q ∈ c.tl, ∀ p ∈ rest, @LT.lt Nat _ p.1 q.1
structure LtS where
  vs : List Value
  ds : List Dat
  n : Nat
noncomputable abbrev ltLed (lY : Addr) (cst : List (Addr × Obj)) (c : LtS) : List (Addr × Obj) := (lY, listOf c.vs.toArray c.n) :: cst
structure LtJ (dl : List (Addr × Obj)) (r : Str) (ds0 : List Dat) (len0 : Nat) (j : Nat) (c : LtS) : Prop where
  d : DatAll dl c.vs c.ds
  e : c.ds = ds0 ++ ((chars r).take j).map Dat.str
  a : ∀ y ∈ (chars r).take j, isSym y = true
  z : c.vs.length ≤ len0 + j
theorem LtJ.next {dl : List (Addr × Obj)} {r z : Str} {ds0 : List Dat} {len0 j n : Nat} {vs : List Value} {ds : List Dat} {t : Tok} (J : LtJ dl r ds0 len0 j ⟨vs, ds, n⟩) (hz : (chars r)[j]? = some z) (hs : isSym z = true) : LtJ dl r ds0 len0 (j + 1) ⟨vs ++ [.str z t], ds ++ [.str z], n + 1⟩ := by
  obtain ⟨d, e, a, zz⟩ := J
  dsimp only at d e a zz
  have ht : (chars r).take (j + 1) = (chars r).take j ++ [z] := by rw [List.take_add_one, hz]; rfl
  refine ⟨d.append (.one (.str z t)), ?_, ?_, ?_⟩
  · show ds ++ [Dat.str z] = _
    rw [e, ht, List.map_append, List.append_assoc]; rfl
  · rw [ht]
    intro y hy
    rcases List.mem_append.mp hy with hy | hy
    · exact a y hy
    · rw [List.mem_singleton.mp hy]; exact hs
  · show (vs ++ [_]).length ≤ _
    rw [List.length_append]; simp only [List.length_cons, List.length_nil]; omega
theorem news_2nd {h₀ h : Heap} {L : Addr} {a y : Addr × Obj} {r : List (Addr × Obj)} (N : News h₀ L h (a :: y :: r)) : News h₀ L h (y :: a :: r) := fun q hq => N q (by
  simp only [List.mem_cons] at hq ⊢
  rcases hq with h | h | h <;> simp [h])
theorem news_3rd {h₀ h : Heap} {L : Addr} {a b y : Addr × Obj} {r : List (Addr × Obj)} (N : News h₀ L h (a :: b :: y :: r)) : News h₀ L h (y :: a :: b :: r) := fun q hq => N q (by
  simp only [List.mem_cons] at hq ⊢
  rcases hq with h | h | h | h <;> simp [h])
theorem tup_sym {prog : Program} {w : World} {A : Around} {E : Value → Shared → Prop} {s : Shared} {h₀ : Heap} {L : Addr} {led : List (Addr × Obj)} {m : Str → Option Value} {l : Addr} {us : List Value} {n : Nat} {Q : Value → Shared → Prop} (F : Fr h₀ L s.heap m) (N : News h₀ L s.heap led) (m1 : (l, listOf us.toArray n) ∈ led) (hz : us.length ≤ 6000000)
    (h : ∀ D h', Fr h₀ L h' m → News h₀ L h' ((D, tupObj us) :: led) → (∀ p ∈ led, @LT.lt Nat _ p.1 D) → Q (.ref D) { s with heap := h' }) : wpAny (model prog w) A (call (.type "tuple") [.ref l]) Q E s := by
  refine call_tuple_list (News.isList N m1) (fun h' hk => ?_) (Nat.le_trans (by simpa using hz) (Nat.le_of_ble_eq_true rfl))
  have F' : Fr h₀ L h' m := F.keeps hk
  have N' : News h₀ L h' led := fun p hp => ⟨hk _ _ (N p hp).1, (N p hp).2⟩
  exact h _ _ (F'.push _) (N'.push F' _) fun p hp => Heap.lt_size (N' p hp).1
local macro_rules | `(tactic| walk_at "call type:tuple") => `(tactic| (k_here; k_dflt (apply tup_sym; (case F | N => k_asm); (case m1 => k_mem); (case hz => first | assumption | omega); walk_at "kn")))
theorem take_edge {h₀ h : Heap} {L D lY : Addr} {x y : Str} {t1 t2 t3 : Tok} {nn n : Nat} {vs : List Value} {b : Addr × Obj} {r : List (Addr × Obj)} {P : Addr → Prop} (N : News h₀ L h ((D, { cls := .type "tuple", data := .seq #[.str "edge" t1, .str x t2, .str y t3] nn }) :: b :: (lY, listOf (vs ++ [Value.ref D]).toArray n) :: r)) (hP : P D) :
    ∃ D9 eo, P D9 ∧ (∀ led, (D9, eo) ∈ led → DatIn led (.ref D9) (edgeD x y)) ∧ News h₀ L h ((lY, listOf (vs ++ [Value.ref D9]).toArray n) :: (D9, eo) :: b :: r) :=
  ⟨D, _, hP, fun _ hm => .tuple hm (.cons (.str _ _) (.cons (.str _ _) (.cons (.str _ _) .nil))), news_3rd N⟩
theorem sub_l3 {X : Type} {a b c : X} {r o : List X} : ∀ p ∈ a :: b :: c :: r, p ∈ a :: b :: c :: (r ++ o) := fun p hp => by
  simp only [List.mem_cons, List.mem_append] at hp ⊢
  rcases hp with h | h | h | h <;> simp [h]
theorem sub_l2 {X : Type} {a b : X} {r o : List X} : ∀ p ∈ a :: b :: r, p ∈ a :: b :: (r ++ o) := fun p hp => by
  simp only [List.mem_cons, List.mem_append] at hp ⊢
  rcases hp with h | h | h <;> simp [h]
theorem sub_e3 {X : Type} {a b c : X} {r q o : List X} : ∀ p ∈ c :: a :: ((b :: r) ++ q), p ∈ a :: b :: c :: (r ++ q ++ o) := fun p hp => by
  simp only [List.mem_cons, List.mem_append, List.cons_append] at hp ⊢
  rcases hp with h | h | h | h | h <;> simp [h]
theorem sub_e2 {X : Type} {a c : X} {r q o : List X} : ∀ p ∈ c :: a :: (r ++ q), p ∈ a :: c :: (r ++ q ++ o) := fun p hp => by
  simp only [List.mem_cons, List.mem_append] at hp ⊢
  rcases hp with h | h | h | h <;> simp [h]
theorem not_in2 {z : Str} (h : (["rest", "letter"] : List Str).contains z = false) : z ≠ ("rest" : Str) ∧ z ≠ ("letter" : Str) := by
  constructor <;> (rintro rfl; exact absurd h (by decide +kernel))
theorem dat_mono {l l' : List (Addr × Obj)} {vs : List Value} {ds : List Dat} (h : DatAll l vs ds) (hs : ∀ p ∈ l, p ∈ l') : DatAll l' vs ds := h.mono hs
section
variable {w : World} {mean : ExcName → Option Value} {mg mb : Str → Option Value} {dp un : Nat} {gd : Option (List Code)} {cn : Str} {cs : Scope} {a : Addr} {ccd : Value} {outer : List Env} {A₀ : Around} {base h₀ : Heap} {L : Addr} {m : Str → Option Value}
    {rest : List (Addr × Obj)} {s : Shared} {Q E : Value → Shared → Prop} {x : Str} {tx : Tok}
theorem symbols_spec
    (B : Below A₀ base outer h₀) (F : Fr h₀ L s.heap m) (X : (hd.heap_39 w.params).In h₀) (N : News h₀ L s.heap rest) (T : Top hd.view_39 Lz mean mg mb h₀) (hk : cs.kind = .function)
    (hd : dp + 3 < recursionLimit) (hu : un + 100 < cLine) (hx : x.length ≤ 2000)
    (retN : ∀ h' tk', symL (chars x) = none → Fr h₀ L h' m → News h₀ L h' rest → Q .none { s with heap := h', toks := tk' })
    (retS : ∀ h' tk' D vs ds tl, symL (chars x) = some ds → DatAll tl vs ds → (∀ q ∈ tl, ∀ p ∈ rest, @LT.lt Nat _ p.1 q.1) → (∀ q ∈ tl ++ rest, @LT.lt Nat _ q.1 D) → Fr h₀ L h' m → News h₀ L h' ((D, tupObj vs) :: (tl ++ rest)) → Q (.ref D) { s with heap := h', toks := tk' }) :
    wpAny (model PySem.Challenge.rw_sj0031_01.row.prog w) (ktrTop dp un gd cn cs L a ccd [] outer) (call (.ref 271) [.str x tx]) Q E s := by
  refine wpAny_call ?_
  k_dflt ktr_enter
  ktn_open
  rename Fr _ _ _ _ => F'
  k_dflt (refine For_invVF F' (by with_unfolding_all rfl) (by with_unfolding_all rfl) ?_)
  repeat' ((fail_if_success (with_reducible show wpAny _ _ (PySem.pyIter _) _ _ _)); first | (k_unfold; (try dsimp only)) | walk1 | (dsimp only; walk1))
  rename IsRange _ _ _ _ _ _ _ _ => hR
  rename Fr _ _ _ _ => F'
  rename News _ _ _ _ => N'
  rename StrsAre _ _ => a9
  have d9 := strs_dat a9
  rename (List.map _ _ = Txt.split _ _) => e9
  rw [e9] at d9
  have hn := congrArg List.length e9
  rw [List.length_map] at hn
  have hfit9 := split_le x "("
  have hfit : (Txt.split x "(").length ≤ 100000 := Nat.le_trans (split_le x "(") (by omega)
  have hlen : ∀ p ∈ Txt.split x "(", p.length ≤ 2000 := fun p hp => Nat.le_trans (part_short hp) hx
  rename (∀ p : Addr × Obj, p ∈ _ → @LT.lt Nat _ p.1 _) => l9
  revert l9
  rename (∀ p : Addr × Obj, p ∈ rest → @LT.lt Nat _ p.1 _) => q8
  intro l9
  refine' st_range (σ := SyS) (syLed ?lP ?lY ?oo rest) (fun _ => []) ["rest", "letter"] (SyJ ?lP ?lY rest x) ⟨[], [], 0, []⟩ ?hh hR rfl ?hs F' N' ?hk ?hj ?turn ?done
  case hh => with_unfolding_all rfl
  case hs => omega
  case hk => exact fun _ h => nomatch h
  case hj =>
    refine ⟨.nil, ?_, (fun _ h => nomatch h), (fun _ h => nomatch h), Nat.zero_le _, (fun _ h => nomatch h)⟩
    show symL (chars x) = cat (some []) (symL (chars x))
    cases symL (chars x) <;> rfl
  case turn =>
    clear F' N' hR
    rintro ⟨vs, ds, n, tl⟩ i t u h tk own hi J hoff F1 N1
    dsimp only [syLed, List.cons_append, envOf] at hoff F1 N1
    unfold stM at F1
    obtain ⟨j1, j2, j3, j4, j5, j6⟩ := J
    dsimp only at j1 j2 j3 j4 j5 j6
    rw [hn] at hi
    have w1 : ∀ q ∈ own, q.1 ≠ _ := fun q hq => hoff q hq _ (.head _)
    have w2 : ∀ q ∈ own, q.1 ≠ _ := fun q hq => hoff q hq _ (.tail _ (.head _))
    have w3 : _ ≠ _ := Nat.ne_of_lt (l9 _ (.head _))
    have w4 : ∀ q ∈ rest, q.1 ≠ _ := fun q hq => Nat.ne_of_lt (q8 q hq)
    dsimp only at w1 w2 w3 w4
    have hz9 : vs.length ≤ 6000000 := by omega
    repeat' ((fail_if_success (with_reducible show wpAny _ _ (PySem.exec (Stmt.For _ _ _ _ _) _) _ _ _)); first | (with_reducible refine iteF ?_) | (with_reducible refine iteT ?_) | (with_reducible refine stRet ?_; (try dsimp only)) | (dsimp only; with_reducible refine stRet ?_; (try dsimp only)) | (k_unfold; (try dsimp only)) | walk1 | (dsimp only; walk1))
    · rename News h₀ L _ _ => N9
      refine retN _ _ ?_ (by assumption) (fun q hq => N9 q (by k_mem))
      rw [j2, suf_step (by omega) (by assumption), edge_short (by assumption)]; rfl
    · rename News h₀ L _ _ => N9
      refine retN _ _ ?_ (by assumption) (fun q hq => N9 q (by k_mem))
      rw [j2, suf_step (by omega) (by assumption), edge_no2 (by assumption) (by assumption)]; rfl
    · rename Str => p9
      rename ((Txt.split x "(")[_]? = some _) => hx9
      rename (p9.length ≤ 2000) => hl9
      have e3 : ¬ (p9.length : Int) < 3 := by assumption
      rename (_ = hasS _ _) => hb7
      revert hb7
      rename (_ = hasS _ _) => hb8
      intro hb7
      rename Fr _ _ _ _ => F'
      k_dflt (refine For_invVF F' (by with_unfolding_all rfl) (by with_unfolding_all rfl) ?_)
      repeat' ((fail_if_success (with_reducible show wpAny _ _ (PySem.pyIter _) _ _ _)); first | (k_unfold; (try dsimp only)) | walk1 | (dsimp only; walk1))
      rename Fr _ _ _ _ => F2
      rename News _ _ _ _ => N2
      rename (_ ∧ _ ∧ AllLt _ _) => l7
      obtain ⟨D9, eo, l8, hE, N3⟩ := take_edge (P := fun z => @LT.lt Nat _ _ z ∧ @LT.lt Nat _ _ z ∧ AllLt z (tl ++ rest ++ own)) N2 l7
      have hrl : (chars (Txt.slice p9 (some 3) none)).length ≤ p9.length := by rw [chars_length]; exact Txt.slice_le ..
      refine' st_str (σ := LtS) (ltLed ?lY2 ?cst2) (fun _ => []) [] (LtJ ((D9, eo) :: tl) (Txt.slice p9 (some 3) none) (ds ++ [edgeD (Txt.item p9 0) (Txt.item p9 1)]) (vs.length + 1)) ⟨vs ++ [.ref D9], ds ++ [edgeD (Txt.item p9 0) (Txt.item p9 1)], n + 1⟩ ?hh2 F2 N3 ?hk2 ?hj2 ?turn2 ?done2
      case hh2 => with_unfolding_all rfl
      case hk2 => exact fun _ h => nomatch h
      case hj2 => exact ⟨(dat_mono j1 fun p hp => .tail _ hp).append (.one (hE _ (.head _))), by simp, (fun _ h => nomatch h), by simp⟩
      case turn2 =>
        clear N2 F2 N3
        rintro ⟨vs2, ds2, n2⟩ j z tz u2 h2 tk2 own2 hz J2 hoff2 F3 N4
        dsimp only [ltLed, List.cons_append, envOf] at hoff2 F3 N4
        unfold stM at F3
        have w5 : ∀ q ∈ own2, q.1 ≠ _ := fun q hq => hoff2 q hq _ (.head _)
        have hz7 : vs2.length ≤ 6000000 := by
          have h7 := J2.z
          have h8 := (List.getElem?_eq_some_iff.mp hz).1
          dsimp only at h7
          omega
        repeat' ((fail_if_success (with_reducible show wpAny _ _ (PySem.exec (Stmt.For _ _ _ _ _) _) _ _ _)); first | (with_reducible refine iteF ?_) | (with_reducible refine iteT ?_) | (with_reducible refine stRet ?_; (try dsimp only)) | (dsimp only; with_reducible refine stRet ?_; (try dsimp only)) | (k_unfold; (try dsimp only)) | walk1 | (dsimp only; walk1))
        · rename (_ = hasS _ _) => hb9
          rename (_ = true) => ha9
          rename News _ _ _ _ => N9
          rename Fr _ _ _ _ => F9
          show StEnd _ _ _ _ _ _ _ _ _ _ _
          refine ⟨⟨vs2 ++ [.str z tz], ds2 ++ [.str z], n2 + 1⟩, _, _, _, _, rfl, F9, N9, sub_l3, fun p hp => .tail _ (.tail _ (.tail _ (List.mem_append_right _ hp))), hoff2, (fun _ h => nomatch h), fun y h1 _ _ => if_neg h1, J2.next hz (hb9.symm.trans ha9)⟩
        · rename (_ = hasS _ _) => hb9
          rename (_ = false) => ha9
          rename News h₀ L _ _ => N9
          refine retN _ _ ?_ (by assumption) (fun q hq => N9 q (by k_mem))
          rw [j2, suf_step (by omega) hx9, edge_noL e3 (List.mem_of_getElem? hz) (hb9.symm.trans ha9)]; rfl
      case done2 =>
        clear N2 F2 N3
        rintro ⟨vs2, ds2, n2⟩ u2 v2 h2 tk2 J2 F3 N4
        dsimp only [ltLed, envOf] at F3 N4
        unfold stM at F3
        repeat' ((fail_if_success (with_reducible show wpAny _ _ (PySem.exec (Stmt.For _ _ _ _ _) _) _ _ _)); first | (with_reducible refine iteF ?_) | (with_reducible refine iteT ?_) | (with_reducible refine stRet ?_; (try dsimp only)) | (dsimp only; with_reducible refine stRet ?_; (try dsimp only)) | (k_unfold; (try dsimp only)) | walk1 | (dsimp only; walk1))
        have hta : (chars (Txt.slice p9 (some 3) none)).take (chars (Txt.slice p9 (some 3) none)).length = chars (Txt.slice p9 (some 3) none) := List.take_length
        have hall : ∀ y ∈ chars (Txt.slice p9 (some 3) none), isSym y = true := by
          have := J2.a
          rwa [hta] at this
        have hz7 := J2.z
        dsimp only at hz7
        show StEnd _ _ _ _ _ _ _ _ _ _ _
        refine ⟨⟨vs2, ds2, n2, ((D9, eo) :: tl)⟩, _, _, _, _, rfl, F3, N4, sub_e3, fun p hp => .tail _ (.tail _ (.tail _ (List.mem_append_right _ hp))), ?_, (fun _ h => nomatch h), ?_, ⟨J2.d, ?_, fun q hq => (List.mem_cons.mp hq).elim (fun e => by rw [e]; exact Nat.ne_of_gt l8.1) (j3 q), fun q hq => (List.mem_cons.mp hq).elim (fun e => by rw [e]; exact Nat.ne_of_gt l8.2.1) (j4 q), by show vs2.length ≤ _; omega, fun q hq => (List.mem_cons.mp hq).elim (fun e => by rw [e]; exact fun p hp => AllLt.mem' l8.2.2 p (List.mem_append_left _ (List.mem_append_right _ hp))) (j6 q)⟩⟩
        · intro p hp b hb
          rcases List.mem_cons.mp hb with rfl | hb
          · exact w1 p hp
          rcases List.mem_cons.mp hb with rfl | hb
          · exact w2 p hp
          rcases List.mem_cons.mp hb with rfl | hb
          · exact Nat.ne_of_lt (AllLt.mem' l8.2.2 p (List.mem_append_right _ hp))
          exact hoff p hp b (.tail _ (.tail _ hb))
        · intro y h1 h2 _
          obtain ⟨hr, hl⟩ := not_in2 h2
          simp only [kstB, List.contains_nil, Bool.false_eq_true, if_false, if_neg hl, if_neg hr, if_neg h1, h2]
        · show symL (chars x) = cat (some ds2) _
          have je := J2.e
          dsimp only at je
          rw [j2, suf_step (by omega) hx9, edge_ok e3 (by assumption) (hb8.symm.trans (by assumption)) (hb7.symm.trans (by assumption)) hall, cat_cat, je, hta]
          congr 2
          simp
    · rename (_ = hasS _ _) => hb9
      rename News h₀ L _ _ => N9
      refine retN _ _ ?_ (by assumption) (fun q hq => N9 q (by k_mem))
      rw [j2, suf_step (by omega) (by assumption), edge_no1 (by assumption) (hb9.symm.trans (by assumption))]; rfl
    · rename (_ = hasS _ _) => hb9
      rename News h₀ L _ _ => N9
      refine retN _ _ ?_ (by assumption) (fun q hq => N9 q (by k_mem))
      rw [j2, suf_step (by omega) (by assumption), edge_no0 (by assumption) (hb9.symm.trans (by assumption))]; rfl
    · rename Str => p9
      rename ((Txt.split x "(")[_]? = some _) => hx9
      rename (p9.length ≤ 2000) => hl9
      have e0 : i = 0 := by omega
      subst e0
      rename Fr _ _ _ _ => F'
      k_dflt (refine For_invVF F' (by with_unfolding_all rfl) (by with_unfolding_all rfl) ?_)
      repeat' ((fail_if_success (with_reducible show wpAny _ _ (PySem.pyIter _) _ _ _)); first | (k_unfold; (try dsimp only)) | walk1 | (dsimp only; walk1))
      rename Fr _ _ _ _ => F2
      rename News _ _ _ _ => N2
      have hrl : (chars p9).length ≤ p9.length := by rw [chars_length]; exact Nat.le_refl _
      refine' st_str (σ := LtS) (ltLed ?lY3 ?cst3) (fun _ => []) [] (LtJ tl p9 ds vs.length) ⟨vs, ds, n⟩ ?hh2 F2 (news_2nd N2) ?hk2 ?hj2 ?turn2 ?done2
      case hh2 => with_unfolding_all rfl
      case hk2 => exact fun _ h => nomatch h
      case hj2 => exact ⟨j1, by simp, (fun _ h => nomatch h), Nat.le_refl _⟩
      case turn2 =>
        clear N2 F2
        rintro ⟨vs2, ds2, n2⟩ j z tz u2 h2 tk2 own2 hz J2 hoff2 F3 N4
        dsimp only [ltLed, List.cons_append, envOf] at hoff2 F3 N4
        unfold stM at F3
        have w5 : ∀ q ∈ own2, q.1 ≠ _ := fun q hq => hoff2 q hq _ (.head _)
        have hz7 : vs2.length ≤ 6000000 := by
          have h7 := J2.z
          have h8 := (List.getElem?_eq_some_iff.mp hz).1
          dsimp only at h7
          omega
        repeat' ((fail_if_success (with_reducible show wpAny _ _ (PySem.exec (Stmt.For _ _ _ _ _) _) _ _ _)); first | (with_reducible refine iteF ?_) | (with_reducible refine iteT ?_) | (with_reducible refine stRet ?_; (try dsimp only)) | (dsimp only; with_reducible refine stRet ?_; (try dsimp only)) | (k_unfold; (try dsimp only)) | walk1 | (dsimp only; walk1))
        · rename (_ = hasS _ _) => hb9
          rename (_ = true) => ha9
          rename News _ _ _ _ => N9
          rename Fr _ _ _ _ => F9
          show StEnd _ _ _ _ _ _ _ _ _ _ _
          refine ⟨⟨vs2 ++ [.str z tz], ds2 ++ [.str z], n2 + 1⟩, _, _, _, _, rfl, F9, N9, sub_l2, fun p hp => .tail _ (.tail _ (List.mem_append_right _ hp)), hoff2, (fun _ h => nomatch h), fun y h1 _ _ => if_neg h1, J2.next hz (hb9.symm.trans ha9)⟩
        · rename (_ = hasS _ _) => hb9
          rename (_ = false) => ha9
          rename News h₀ L _ _ => N9
          refine retN _ _ ?_ (by assumption) (fun q hq => N9 q (by k_mem))
          rw [j2, suf_first hx9, lett_no (List.mem_of_getElem? hz) (hb9.symm.trans ha9)]; rfl
      case done2 =>
        clear N2 F2
        rintro ⟨vs2, ds2, n2⟩ u2 v2 h2 tk2 J2 F3 N4
        dsimp only [ltLed, envOf] at F3 N4
        unfold stM at F3
        repeat' ((fail_if_success (with_reducible show wpAny _ _ (PySem.exec (Stmt.For _ _ _ _ _) _) _ _ _)); first | (with_reducible refine iteF ?_) | (with_reducible refine iteT ?_) | (with_reducible refine stRet ?_; (try dsimp only)) | (dsimp only; with_reducible refine stRet ?_; (try dsimp only)) | (k_unfold; (try dsimp only)) | walk1 | (dsimp only; walk1))
        have hta : (chars p9).take (chars p9).length = chars p9 := List.take_length
        have hall : ∀ y ∈ chars p9, isSym y = true := by
          have := J2.a
          rwa [hta] at this
        have hz7 := J2.z
        dsimp only at hz7
        show StEnd _ _ _ _ _ _ _ _ _ _ _
        refine ⟨⟨vs2, ds2, n2, tl⟩, _, _, _, _, rfl, F3, N4, sub_e2, fun p hp => .tail _ (.tail _ (List.mem_append_right _ hp)), ?_, (fun _ h => nomatch h), ?_, ⟨J2.d, ?_, j3, j4, by show vs2.length ≤ _; omega, j6⟩⟩
        · intro p hp b hb
          rcases List.mem_cons.mp hb with rfl | hb
          · exact w1 p hp
          rcases List.mem_cons.mp hb with rfl | hb
          · exact w2 p hp
          exact hoff p hp b (.tail _ (.tail _ hb))
        · intro y h1 h2 _
          obtain ⟨hr, hl⟩ := not_in2 h2
          simp only [kstB, List.contains_nil, Bool.false_eq_true, if_false, if_neg hl, if_neg hr, if_neg h1, h2]
        · show symL (chars x) = cat (some ds2) _
          have je := J2.e
          dsimp only at je
          rw [j2, suf_first hx9, lett_ok hall, cat_cat, je, hta]
  case done =>
    clear F' N' hR
    rintro ⟨vs, ds, n, tl⟩ u v h tk J F1 N1
    dsimp only [syLed, envOf] at F1 N1
    unfold stM at F1
    obtain ⟨j1, j2, j3, j4, j5, j6⟩ := J
    dsimp only at j1 j2 j3 j4 j5 j6
    have hz6 : vs.length ≤ 6000000 := by omega
    ktn_open
    rename News h₀ L _ _ => N9
    rename (∀ p : Addr × Obj, _ → @LT.lt Nat _ p.1 _) => l8
    have hpos : 0 < (Txt.split x "(").length := split_pos x "("
    rw [suf_end (by omega) (by omega)] at j2
    exact retS _ _ _ _ _ _ (by rw [j2]; simp [cat]) j1 j6 (fun q hq => l8 q (.tail _ (.tail _ hq))) (by assumption) (news2 N9 (.head _) fun q hq => .tail _ (.tail _ (.tail _ hq)))
end
end
local macro_rules | `(tactic| walk_at "compareOp NotIn str str") => `(tactic| (k_here; (refine notIn_gen ?_); intros))
local macro_rules | `(tactic| walk_at "call builtin:list.append") => `(tactic| (k_here; k_dflt (apply app_sym; (case F | N => k_asm); (case U => k_upd); (case hsz => walk_at "len"); walk_at "kw")))
local macro_rules | `(tactic| walk_at "subscriptTail Name Name ref int") => `(tactic| (k_here; k_dflt (apply ref_item; (case N => k_asm); (case hm => k_mem); (case hk => rfl); (case hv | hi => assumption); (case hs => with_unfolding_all rfl); walk_at "kn")))
section
theorem rstP7 : True := by
  w_top off
  trivial
set_option maxHeartbeats 1000000
structure CtS where
  i : Nat
  ti : Tok
  x : Str
  tx : Tok
noncomputable abbrev ctPs (c : CtS) : List (Str × Value) := [("text", .str c.x c.tx), ("spot", .int c.i c.ti)]
noncomputable abbrev ctP (toks : List (Tk × Int)) (i0 : Nat) (c : CtS) : Prop := i0 ≤ c.i ∧ c.i ≤ toks.length ∧ cut "" (toks.drop i0) = cut c.x (toks.drop c.i) ∧ c.x.length ≤ 10 * c.i
theorem not_in3 {z : Str} (h : (["kind", "value", "mark"] : List Str).contains z = false) : z ≠ ("kind" : Str) ∧ z ≠ ("value" : Str) ∧ z ≠ ("mark" : Str) := by
  refine ⟨?_, ?_, ?_⟩ <;> (rintro rfl; exact absurd h (by decide +kernel))
theorem ct_end {rest : List (Addr × Obj)} {toks : List (Tk × Int)} {i0 i : Nat} {ti ti' tx tx' : Tok} {x y : Str} {h₀ h' : Heap} {L : Addr} {s : Shared} {m₀ m' : Str → Option Value} {news' : List (Addr × Obj)} {tk : Nat}
    (F : Fr h₀ L h' m') (N : News h₀ L h' news') (hs : ∀ q ∈ rest, q ∈ news') (k1 : m' "text" = some (.str (x ++ y) tx')) (k2 : m' "spot" = some (.int ((i + 1 : Nat) : Int) ti'))
    (hr : ∀ z, z ≠ ("text" : Str) → z ≠ ("spot" : Str) → z ≠ ("kind" : Str) → z ≠ ("value" : Str) → z ≠ ("mark" : Str) → m' z = m₀ z) (p1 : i0 ≤ i) (p2 : i < toks.length) (p3 : cut "" (toks.drop i0) = cut x (toks.drop i)) (p4 : x.length ≤ 10 * i) (hc : cut x (toks.drop i) = cut (x ++ y) (toks.drop (i + 1))) (hy : y.length ≤ 10) :
    KswEnd h₀ L s (fun _ => rest) ctPs (fun _ => True) ["kind", "value", "mark"] m₀ (ctP toks i0) (fun c => toks.length - c.i) ⟨i, ti, x, tx⟩ { s with heap := h', toks := tk } := by
  refine ksw_end ⟨i + 1, ti', x ++ y, tx'⟩ F N hs trivial (fun q hq => ?_) (fun z z1 z2 => ?_) ⟨Nat.le_succ_of_le p1, p2, p3.trans hc, ?_⟩ (by show toks.length - (i + 1) < toks.length - i; omega)
  · rcases List.mem_cons.mp hq with rfl | hq
    · exact k1
    · rw [List.mem_singleton.mp hq]; exact k2
  · obtain ⟨n3, n4, n5⟩ := not_in3 z2
    exact hr z (z1 _ (.head _)) (z1 _ (.tail _ (.head _))) n3 n4 n5
  · show (x ++ y).length ≤ 10 * (i + 1)
    rw [Str.length_append]; omega
theorem kswRet {σ : Type} {h₀ : Heap} {L : Addr} {s s₂ : Shared} {Led : σ → List (Addr × Obj)} {ps : σ → List (Str × Value)} {Facts : σ → Prop} {stored : List Str} {m₀ : Str → Option Value} {P : σ → Prop} {μ : σ → Nat} {Q : Flow → Shared → Prop} {c : σ} {v : Value} (h : Q (.ret v) s₂) : KswPost h₀ L s Led ps Facts stored m₀ P μ Q c (.ret v) s₂ := h
theorem row_view {led : List (Addr × Obj)} {v : Value} {t : Tk} {kn : Str} (h : DatIn led v t.val) (e : t.kind = kn) :
    (∃ y ty, t = .key y ∧ v = .str y ty ∧ kn = "key") ∨ (∃ y ty, t = .str y ∧ v = .str y ty ∧ kn = "str") ∨ (∃ y ty, t = .id y ∧ v = .str y ty ∧ kn = "id") ∨ (∃ y ty, t = .op y ∧ v = .str y ty ∧ kn = "op") ∨
    (∃ a b c d q t1 t2 t3 n, t = .num a b c d ∧ v = .ref q ∧ kn = "num" ∧ (q, ({ cls := .type "tuple", data := .seq #[.str a t1, .str b t2, .bool c, .str d t3] n } : Obj)) ∈ led) ∨ (t = .eof ∧ kn = "eof") := by
  subst e
  cases t with
  | key y => obtain ⟨_, rfl⟩ := di_str h; exact .inl ⟨y, _, rfl, rfl, rfl⟩
  | str y => obtain ⟨_, rfl⟩ := di_str h; exact .inr (.inl ⟨y, _, rfl, rfl, rfl⟩)
  | id y => obtain ⟨_, rfl⟩ := di_str h; exact .inr (.inr (.inl ⟨y, _, rfl, rfl, rfl⟩))
  | op y => obtain ⟨_, rfl⟩ := di_str h; exact .inr (.inr (.inr (.inl ⟨y, _, rfl, rfl, rfl⟩)))
  | num a b c y =>
    obtain ⟨q, t1, t2, t3, n, rfl, ma⟩ := di_num h
    exact .inr (.inr (.inr (.inr (.inl ⟨a, b, c, y, _, _, _, _, _, rfl, rfl, rfl, ma⟩))))
  | eof => exact .inr (.inr (.inr (.inr (.inr ⟨rfl, rfl⟩))))
section
variable {w : World} {mean : ExcName → Option Value} {mg mb : Str → Option Value} {dp un : Nat} {gd : Option (List Code)} {cn : Str} {cs : Scope} {a : Addr} {ccd : Value} {outer : List Env} {A₀ : Around} {base h₀ : Heap} {L : Addr} {m : Str → Option Value}
    {rest : List (Addr × Obj)} {s : Shared} {Q E : Value → Shared → Prop} {lR : Addr} {refs : List Value} {toks : List (Tk × Int)} {nR i0 : Nat} {ti0 : Tok}
theorem cut_spec
    (B : Below A₀ base outer h₀) (F : Fr h₀ L s.heap m) (X : (hd.heap_39 w.params).In h₀) (N : News h₀ L s.heap rest) (T : Top hd.view_39 Lz mean mg mb h₀) (hk : cs.kind = .function)
    (hd : dp + 3 < recursionLimit) (hu : un + 100 < cLine) (hm : (lR, listOf refs.toArray nR) ∈ rest) (hR : DatAll rest refs ((full toks).map rowD)) (hG : ∀ t ∈ toks, Good t.1) (hlen : toks.length ≤ 150) (hi0 : i0 ≤ toks.length)
    (retN : ∀ h' tk' D j tj, cut "" (toks.drop i0) = (none, toks.drop j) → i0 ≤ j → j ≤ toks.length → (∀ q ∈ rest, @LT.lt Nat _ q.1 D) → Fr h₀ L h' m → News h₀ L h' ((D, tupObj [.none, .int (j : Int) tj]) :: rest) → Q (.ref D) { s with heap := h', toks := tk' })
    (retS : ∀ h' tk' D x tx j tj, cut "" (toks.drop i0) = (some x, toks.drop j) → x.length ≤ 1500 → i0 ≤ j → j < toks.length → (∀ q ∈ rest, @LT.lt Nat _ q.1 D) → Fr h₀ L h' m → News h₀ L h' ((D, tupObj [.str x tx, .int (j : Int) tj]) :: rest) → Q (.ref D) { s with heap := h', toks := tk' }) :
    wpAny (model PySem.Challenge.rw_sj0031_01.row.prog w) (ktrTop dp un gd cn cs L a ccd [] outer) (call (.ref 264) [.ref lR, .int (i0 : Int) ti0]) Q E s := by
  refine wpAny_call ?_
  k_dflt ktr_enter
  ktn_open
  rename Fr _ _ _ _ => F'
  rename News _ _ _ _ => N'
  refine' ksw_while (σ := CtS) (fun _ => rest) ctPs (fun _ => True) ["kind", "value", "mark"] (ctP toks i0) (fun c => toks.length - c.i) ⟨i0, ti0, "", ?tx⟩ F' N' trivial ?hk ?hp ?turn ?hE
  case hk =>
    intro q hq
    rcases List.mem_cons.mp hq with rfl | hq
    · with_unfolding_all rfl
    · rw [List.mem_singleton.mp hq]; with_unfolding_all rfl
  case hp => exact ⟨Nat.le_refl _, hi0, rfl, Nat.zero_le _⟩
  case hE => passes_own
  case turn =>
    clear F' N' N
    rintro ⟨i, ti, x, tx⟩ u h tk - ⟨p1, p2, p3, p4⟩ F1 N1
    dsimp only at p1 p2 p3 p4 F1 N1
    have hi9 : i ≤ 100000 := by omega
    obtain ⟨b, kk, v, tm, nn, hv, hb, hd⟩ := rowTok hR (full_hd (toks := toks) (i := i) (by omega))
    rcases ht : hdT (toks.drop i) with ⟨t, at9⟩
    rw [ht] at hb hd
    dsimp only at hb hd
    generalize hkn : t.kind = kn at hb
    repeat' ((fail_if_success (with_reducible show wpAny _ _ (PySem.exec (Stmt.If _ _ _ _) _) _ _ _)); first | (with_reducible refine kswRet ?_; (try dsimp only)) | (dsimp only; with_reducible refine kswRet ?_; (try dsimp only)) | walk_at "go")
    · have hne : (kn != ("eof" : Str)) = true := by assumption
      obtain ⟨m1, m2, m3⟩ := hd_mem ht (by rintro rfl; rw [← hkn] at hne; exact absurd hne (by decide +kernel))
      have hg := hG _ m1
      clear hb ht
      rcases row_view hd hkn with ⟨y, ty, rfl, rfl, rfl⟩ | ⟨y, ty, rfl, rfl, rfl⟩ | ⟨y, ty, rfl, rfl, rfl⟩ | ⟨y, ty, rfl, rfl, rfl⟩ | ⟨na, nb, nc, nd, q, t1, t2, t3, n9, rfl, rfl, rfl, hq⟩ | ⟨rfl, rfl⟩
      · repeat' (first | (with_reducible refine kswRet ?_; (try dsimp only)) | (dsimp only; with_reducible refine kswRet ?_; (try dsimp only)) | walk_at "go")
        rename News h₀ L _ _ => N9
        rename (_ ∧ AllLt _ rest) => l9
        exact retN _ _ _ i ti (by rw [p3]; exact cut_bad m3 rfl rfl) p1 p2 (fun q hq => AllLt.mem' l9.2 q hq) (by assumption) (news2 N9 (.head _) fun q hq => .tail _ (.tail _ hq))
      · repeat' (first | (with_reducible refine kswRet ?_; (try dsimp only)) | (dsimp only; with_reducible refine kswRet ?_; (try dsimp only)) | walk_at "go")
        rename News h₀ L _ _ => N9
        rename (_ ∧ AllLt _ rest) => l9
        exact retN _ _ _ i ti (by rw [p3]; exact cut_bad m3 rfl rfl) p1 p2 (fun q hq => AllLt.mem' l9.2 q hq) (by assumption) (news2 N9 (.head _) fun q hq => .tail _ (.tail _ hq))
      · have hg3 := hg.2
        have hg4 := hg.1
        repeat' (first | (with_reducible refine kswRet ?_; (try dsimp only)) | (dsimp only; with_reducible refine kswRet ?_; (try dsimp only)) | walk_at "go")
        rename News _ _ _ _ => N9
        rename Fr _ _ _ _ => F9
        exact ct_end F9 N9 (fun q hq => by k_mem) (by with_unfolding_all rfl) (by with_unfolding_all rfl) (fun z n1 n2 n3 n4 n5 => by simp [kstB, n1, n2, n3, n4, n5]) p1 m2 p3 p4 (cut_go m3 rfl rfl) hg4
      · have hg3 := hg.2
        have hg4 : (Txt.lower y).length ≤ 10 := by rw [hg.1]; exact hg3
        repeat' (first | (with_reducible refine kswRet ?_; (try dsimp only)) | (dsimp only; with_reducible refine kswRet ?_; (try dsimp only)) | walk_at "go")
        · rename News h₀ L _ _ => N9
          rename (_ ∧ AllLt _ rest) => l9
          exact retS _ _ _ _ _ i ti (by rw [p3]; exact cut_end m3 (end_any (by assumption))) (by omega) p1 m2 (fun q hq => AllLt.mem' l9.2 q hq) (by assumption) (news2 N9 (.head _) fun q hq => .tail _ (.tail _ hq))
        · rename News _ _ _ _ => N9
          rename Fr _ _ _ _ => F9
          exact ct_end F9 N9 (fun q hq => by k_mem) (by with_unfolding_all rfl) (by with_unfolding_all rfl) (fun z n1 n2 n3 n4 n5 => by simp [kstB, n1, n2, n3, n4, n5]) p1 m2 p3 p4 (cut_go m3 (end_any (by assumption)) (op_yes hg)) hg4
      · have hg3 := hg.2.2
        have hg4 : (Txt.lower nd).length ≤ 10 := by rw [hg.2.1]; exact hg3
        repeat' (first | (with_reducible refine kswRet ?_; (try dsimp only)) | (dsimp only; with_reducible refine kswRet ?_; (try dsimp only)) | walk_at "go")
        · rename News h₀ L _ _ => N9
          rename (_ ∧ AllLt _ rest) => l9
          exact retN _ _ _ i ti (by rw [p3]; exact cut_bad m3 rfl (num_no (by assumption))) p1 p2 (fun q hq => AllLt.mem' l9.2 q hq) (by assumption) (news2 N9 (.head _) fun q hq => .tail _ (.tail _ hq))
        · rename News _ _ _ _ => N9
          rename Fr _ _ _ _ => F9
          exact ct_end F9 N9 (fun q hq => by k_mem) (by with_unfolding_all rfl) (by with_unfolding_all rfl) (fun z n1 n2 n3 n4 n5 => by simp [kstB, n1, n2, n3, n4, n5]) p1 m2 p3 p4 (cut_go m3 rfl (num_yes hg (by assumption))) hg4
      · exact absurd hne (by decide +kernel)
    · have hte : t = .eof := by
        have hne : (kn != ("eof" : Str)) = false := by assumption
        rw [← hkn] at hne
        cases t <;> first | rfl | exact absurd hne (by dsimp only [Tk.kind]; decide +kernel)
      have hnil : toks.drop i = [] := by
        rcases hdr : toks.drop i with _ | ⟨q, r⟩
        · rfl
        · rw [hdr] at ht
          have hq : q ∈ toks := List.mem_of_mem_drop (i := i) (by rw [hdr]; exact .head _)
          have hg := hG q hq
          have e : q = (t, at9) := ht
          rw [e, hte] at hg
          exact hg.elim
      rename News h₀ L _ _ => N9
      exact retN _ _ _ i ti (by rw [p3, hnil]; rfl) p1 p2 (by assumption) (by assumption) N9
end
end
section
section
variable {prog : Program} {w : World} {A : Around} {E : Value → Shared → Prop} {s : Shared} {h₀ : Heap} {L : Addr} {led : List (Addr × Obj)} {Q : Value → Shared → Prop} {l : Addr} {vs : List Value} {nC : Nat} {value slice : PySem.Expr} {i : Nat} {u : Tok} {v : Value}
theorem ref_item0 (N : News h₀ L s.heap led) (hm : (l, listOf vs.toArray nC) ∈ led) (hv : vs[0]? = some v) (h : Q v s) (hs : subscripted slice false (.ref l) (.int 0 u) = operate [.ref l, .int 0 u] (getItem (.ref l) (.int 0 u)) := by with_unfolding_all rfl) :
    wpAny (model prog w) A (subscriptTail value slice (.ref l) (.int 0 u)) Q E s := ref_item N hm rfl hv (Nat.zero_le _) h hs
theorem ref_item1 (N : News h₀ L s.heap led) (hm : (l, listOf vs.toArray nC) ∈ led) (hv : vs[i + 1]? = some v) (hi : i ≤ 1000) (h : Q v s) (hs : subscripted slice false (.ref l) (.int ((i : Int) + 1) u) = operate [.ref l, .int ((i : Int) + 1) u] (getItem (.ref l) (.int ((i : Int) + 1) u)) := by with_unfolding_all rfl) :
    wpAny (model prog w) A (subscriptTail value slice (.ref l) (.int ((i : Int) + 1) u)) Q E s := ref_item N hm (i := i + 1) (by omega) hv (by omega) h hs
theorem ref_item2 (N : News h₀ L s.heap led) (hm : (l, listOf vs.toArray nC) ∈ led) (hv : vs[i + 2]? = some v) (hi : i ≤ 1000) (h : Q v s) (hs : subscripted slice false (.ref l) (.int ((i : Int) + 2) u) = operate [.ref l, .int ((i : Int) + 2) u] (getItem (.ref l) (.int ((i : Int) + 2) u)) := by with_unfolding_all rfl) :
    wpAny (model prog w) A (subscriptTail value slice (.ref l) (.int ((i : Int) + 2) u)) Q E s := ref_item N hm (i := i + 2) (by omega) hv (by omega) h hs
theorem in_gen {x y : Str} {t u : Tok} (h : ∀ b : Bool, b = hasS x y → Q (.bool b) s) : wpAny (model prog w) A (compareOp .In (.str y u) (.str x t)) Q E s := PyProof.Rows.in_str (h _ rfl)
end
section
variable {w : World} {mean : ExcName → Option Value} {mg mb : Str → Option Value} {dp un : Nat} {gd : Option (List Code)} {cn : Str} {cs : Scope} {a : Addr} {ccd : Value} {outer : List Env} {A₀ : Around} {base h₀ : Heap} {L : Addr} {m : Str → Option Value}
    {led L9 : List (Addr × Obj)} {s : Shared} {Q E : Value → Shared → Prop} {lR : Addr} {refs : List Value} {toks : List (Tk × Int)} {nR i0 : Nat} {ti0 : Tok}
theorem cut_specW
    (B : Below A₀ base outer h₀) (F : Fr h₀ L s.heap m) (X : (hd.heap_39 w.params).In h₀) (N : News h₀ L s.heap led) (T : Top hd.view_39 Lz mean mg mb h₀) (hk : cs.kind = .function)
    (hd : dp + 3 < recursionLimit) (hu : un + 100 < cLine) (hm : (lR, listOf refs.toArray nR) ∈ led) (hR : DatAll L9 refs ((full toks).map rowD)) (hs : ∀ q ∈ L9, q ∈ led) (hG : ∀ t ∈ toks, Good t.1) (hlen : toks.length ≤ 150) (hi0 : i0 ≤ toks.length)
    (retN : ∀ h' tk' D j tj b t kk v at9 tm nn, cut "" (toks.drop i0) = (none, toks.drop j) → i0 ≤ j → j ≤ toks.length → j ≤ 100000 → refs[j]? = some (.ref b) → hdT (toks.drop j) = (t, at9) → (b, tup3 t.kind kk v at9 tm nn) ∈ L9 → (∀ q ∈ led, @LT.lt Nat _ q.1 D) → Fr h₀ L h' m → News h₀ L h' ((D, tupObj [.none, .int (j : Int) tj]) :: led) → Q (.ref D) { s with heap := h', toks := tk' })
    (retS : ∀ h' tk' D x tx j tj b y ty kk at9 tm nn, cut "" (toks.drop i0) = (some x, toks.drop j) → x.length ≤ 1500 → i0 ≤ j → j < toks.length → j ≤ 100000 → refs[j]? = some (.ref b) → toks.drop j = (.op y, at9) :: toks.drop (j + 1) → (b, tup3 "op" kk (.str y ty) at9 tm nn) ∈ L9 → (∀ q ∈ led, @LT.lt Nat _ q.1 D) → Fr h₀ L h' m → News h₀ L h' ((D, tupObj [.str x tx, .int (j : Int) tj]) :: led) → Q (.ref D) { s with heap := h', toks := tk' }) :
    wpAny (model PySem.Challenge.rw_sj0031_01.row.prog w) (ktrTop dp un gd cn cs L a ccd [] outer) (call (.ref 264) [.ref lR, .int (i0 : Int) ti0]) Q E s := by
  refine cut_spec B F X N T hk hd hu hm (hR.mono hs) hG hlen hi0 ?_ ?_
  · intro h' tk' D j tj e h1 h2 h3 F' N'
    obtain ⟨b, kk, v, tm, nn, hv, hb, _⟩ := rowTok hR (full_hd (toks := toks) (i := j) (by omega))
    rcases ht : hdT (toks.drop j) with ⟨t, at9⟩
    rw [ht] at hb
    exact retN _ _ _ _ _ _ _ _ _ _ _ _ e h1 h2 (by omega) hv ht hb h3 F' N'
  · intro h' tk' D x tx j tj e hx h1 h2 h3 F' N'
    obtain ⟨b, kk, v, tm, nn, hv, hb, hd9⟩ := rowTok hR (full_hd (toks := toks) (i := j) (by omega))
    obtain ⟨y, at9, r', er, hE⟩ := cut_isEnd e
    have ht : hdT (toks.drop j) = (.op y, at9) := by rw [er]; rfl
    rw [ht] at hb hd9
    cases hd9
    obtain ⟨_, _, m3⟩ := hd_mem ht (by intro e; cases e)
    exact retS _ _ _ _ _ _ _ _ _ _ _ _ _ _ e hx h1 h2 (by omega) hv m3 hb h3 F' N'
theorem symbols_specW {x : Str} {tx : Tok}
    (B : Below A₀ base outer h₀) (F : Fr h₀ L s.heap m) (X : (hd.heap_39 w.params).In h₀) (N : News h₀ L s.heap led) (T : Top hd.view_39 Lz mean mg mb h₀) (hk : cs.kind = .function)
    (hd : dp + 3 < recursionLimit) (hu : un + 100 < cLine) (hx : x.length ≤ 1500)
    (retN : ∀ h' tk', symL (chars x) = none → Fr h₀ L h' m → News h₀ L h' led → Q .none { s with heap := h', toks := tk' })
    (retS : ∀ h' tk' D vs ds tl, symL (chars x) = some ds → DatAll tl vs ds → (∀ q ∈ tl, ∀ p ∈ led, @LT.lt Nat _ p.1 q.1) → (∀ q ∈ led, @LT.lt Nat _ q.1 D) → Fr h₀ L h' m → News h₀ L h' ((D, tupObj vs) :: (led ++ tl)) → Q (.ref D) { s with heap := h', toks := tk' }) :
    wpAny (model PySem.Challenge.rw_sj0031_01.row.prog w) (ktrTop dp un gd cn cs L a ccd [] outer) (call (.ref 271) [.str x tx]) Q E s :=
  symbols_spec B F X N T hk hd hu (Nat.le_trans hx (by decide)) retN fun h' tk' D vs ds tl e d f l F' N' => retS h' tk' D vs ds tl e d f (fun q hq => l q (List.mem_append_right _ hq)) F' (fun q hq => N' q (by
    rcases List.mem_cons.mp hq with rfl | hq
    · exact .head _
    · exact .tail _ ((List.mem_append.mp hq).elim (List.mem_append_right _) (List.mem_append_left _))))
end
theorem fresh_off {tl led : List (Addr × Obj)} {d : Addr} {o : Obj} (hf : ∀ q ∈ tl, ∀ p ∈ led, @LT.lt Nat _ p.1 q.1) (hm : (d, o) ∈ led) : ∀ q ∈ tl, q.1 ≠ d := fun q hq => Nat.ne_of_gt (hf q hq _ hm)
end
section
structure DuS where
  j : Nat
  tj : Tok
  vs : List Value
  ds : List Dat
  n : Nat
  tl : List (Addr × Obj)
noncomputable abbrev duLed (lW : Addr) (cst : List (Addr × Obj)) (c : DuS) : List (Addr × Obj) := (lW, listOf c.vs.toArray c.n) :: (c.tl ++ cst)
noncomputable abbrev duPs (c : DuS) : List (Str × Value) := [("spot", .int c.j c.tj)]
noncomputable abbrev duF (lW : Addr) (c : DuS) : Prop := DatAll c.tl c.vs c.ds ∧ (∀ q ∈ c.tl, q.1 ≠ lW) ∧ c.vs.length ≤ c.j
noncomputable abbrev duP (held : Bool) (toks : List (Tk × Int)) (c : DuS) : Prop := 1 ≤ c.j ∧ c.j ≤ toks.length ∧ RowsAt held toks c.j c.ds
structure FiJ (held : Bool) (toks : List (Tk × Int)) (j0 : Nat) (lF : Addr) (cst : List (Addr × Obj)) (i : Nat) (c : DuS) : Prop where
  d : DatAll c.tl c.vs c.ds
  ld : c.ds.length = i
  o1 : ∀ q ∈ c.tl, q.1 ≠ lF
  o2 : ∀ q ∈ c.tl, ∀ p ∈ cst, @LT.lt Nat _ p.1 q.1
  e : oneRow held (toks.drop j0) = stageR held c.ds (toks.drop c.j)
  p : j0 ≤ c.j ∧ c.j ≤ toks.length ∧ (0 < i → j0 < c.j)
theorem off_of {h₀ h : Heap} {L lK lF : Addr} {o1 o2 : Obj} {r : List (Addr × Obj)} (_ : News h₀ L h ((lK, o1) :: (lF, o2) :: r)) (h1 : AllLt lK ((lF, o2) :: r)) (h2 : AllLt lF r) : ∀ q ∈ (lK, o1) :: r, q.1 ≠ lF := fun q hq => by
  rcases List.mem_cons.mp hq with rfl | hq
  · exact Nat.ne_of_gt h1.1
  · exact Nat.ne_of_lt (AllLt.mem' h2 q hq)
theorem led_lt {d : Addr} {o o' : Obj} {lF D1 : Addr} {x tl : List (Addr × Obj)} (l1 : AllLt d ((D1, o') :: (lF, o) :: x)) (f1 : ∀ q ∈ tl, ∀ p ∈ (D1, o') :: (lF, o) :: x, @LT.lt Nat _ p.1 q.1) {od : Obj} : ∀ q ∈ (d, od) :: tl, ∀ p ∈ (lF, o) :: x, @LT.lt Nat _ p.1 q.1 := fun q hq p hp => by
  rcases List.mem_cons.mp hq with rfl | hq
  · exact AllLt.mem' l1 p (.tail _ hp)
  · exact f1 q hq p (.tail _ hp)
/-- the end of a field's turn: the inputs -/
theorem fi_ins {held : Bool} {toks : List (Tk × Int)} {j0 j' n' : Nat} {lF D1 D' : Addr} {oF oF2 o1 o1' : Obj} {cst tl2 own tl' : List (Addr × Obj)} {vs' : List Value} {ds' : List Dat} {h₀ h' : Heap} {L : Addr} {s : Shared} {m' m₀ : Str → Option Value} {tk : Nat} {tj' : Tok}
    (F : Fr h₀ L h' m') (N : News h₀ L h' ((D', tupObj vs') :: (D1, o1) :: (lF, listOf (([] : List Value) ++ [Value.ref D']).toArray n') :: ((tl2 ++ cst ++ own) ++ tl')))
    (l1 : AllLt D' ((D1, o1') :: (lF, oF) :: (tl2 ++ cst ++ own))) (f1 : ∀ q ∈ tl', ∀ p ∈ (D1, o1') :: (lF, oF) :: (tl2 ++ cst ++ own), @LT.lt Nat _ p.1 q.1) (d1 : DatAll tl' vs' ds')
    (hoff : OwnOff own (((lF, oF2) :: (tl2 ++ cst)).map (·.1))) (k : m' "spot" = some (.int (((j' + 1 : Nat)) : Int) tj')) (hr : ∀ z, z ≠ ("role" : Str) → z ≠ ("spot" : Str) → z ≠ ("text" : Str) → z ≠ ("spells" : Str) → m' z = m₀ z)
    (e : oneRow held (toks.drop j0) = stageR held [.tuple ds'] (toks.drop (j' + 1))) (p : j0 ≤ j') (p' : j' < toks.length) :
    StEnd h₀ L "role" (duLed lF cst) duPs ["text", "spells"] m₀ (FiJ held toks j0 lF cst 1) own s { s with heap := h', toks := tk } := by
  have hh := led_lt l1 f1 (od := tupObj vs')
  refine ⟨⟨j' + 1, tj', ([] : List Value) ++ [Value.ref D'], [.tuple ds'], n', (D', tupObj vs') :: tl'⟩, _, _, _, _, rfl, F, N, fun q hq => ?_, fun q hq => ?_, fun q hq b hb => ?_, fun q hq => ?_, fun z h1 h2 h3 => ?_, ⟨.cons (.tuple (.head _) (d1.mono fun q hq => .tail _ hq)) .nil, rfl, fun q hq => Nat.ne_of_gt (hh q hq _ (.head _)), fun q hq p hp => hh q hq p (.tail _ (List.mem_append_left _ (List.mem_append_right _ hp))), e, Nat.le_succ_of_le p, p', fun _ => Nat.lt_succ_of_le p⟩⟩
  · rcases List.mem_cons.mp hq with rfl | hq
    · exact .tail _ (.tail _ (.head _))
    rcases List.mem_append.mp hq with hq | hq
    · rcases List.mem_cons.mp hq with rfl | hq
      · exact .head _
      · exact .tail _ (.tail _ (.tail _ (List.mem_append_right _ hq)))
    · exact .tail _ (.tail _ (.tail _ (List.mem_append_left _ (List.mem_append_left _ (List.mem_append_right _ hq)))))
  · exact .tail _ (.tail _ (.tail _ (List.mem_append_left _ (List.mem_append_right _ hq))))
  · obtain ⟨z, hz, rfl⟩ := List.mem_map.mp hb
    rcases List.mem_cons.mp hz with rfl | hz
    · exact hoff q hq _ (List.mem_map.mpr ⟨_, .head _, rfl⟩)
    rcases List.mem_append.mp hz with hz | hz
    · exact Nat.ne_of_lt (hh z hz q (.tail _ (List.mem_append_right _ hq)))
    · exact hoff q hq _ (List.mem_map.mpr ⟨z, .tail _ (List.mem_append_right _ hz), rfl⟩)
  · rw [List.mem_singleton.mp hq]; exact k
  · have h4 := h3 _ (.head _)
    have h5 : z ≠ ("text" : Str) ∧ z ≠ ("spells" : Str) := by simpa using h2
    exact hr z h1 h4 h5.1 h5.2
/-- the end of a field's turn: a level -/
theorem fi_str {held : Bool} {toks : List (Tk × Int)} {j0 j' i n' : Nat} {lF D1 : Addr} {o1 oF2 : Obj} {cst tl2 own : List (Addr × Obj)} {vs2 : List Value} {ds2 : List Dat} {h₀ h' : Heap} {L : Addr} {s : Shared} {m' m₀ : Str → Option Value} {tk : Nat} {tj' tx : Tok} {x : Str}
    (F : Fr h₀ L h' m') (N : News h₀ L h' ((D1, o1) :: (lF, listOf (vs2 ++ [Value.str x tx]).toArray n') :: (tl2 ++ cst ++ own)))
    (d : DatAll tl2 vs2 ds2) (ld : ds2.length = i) (o1 : ∀ q ∈ tl2, q.1 ≠ lF) (o2 : ∀ q ∈ tl2, ∀ p ∈ cst, @LT.lt Nat _ p.1 q.1)
    (hoff : OwnOff own (((lF, oF2) :: (tl2 ++ cst)).map (·.1))) (k : m' "spot" = some (.int (((j' + 1 : Nat)) : Int) tj')) (hr : ∀ z, z ≠ ("role" : Str) → z ≠ ("spot" : Str) → z ≠ ("text" : Str) → z ≠ ("spells" : Str) → m' z = m₀ z)
    (e : oneRow held (toks.drop j0) = stageR held (ds2 ++ [Dat.str x]) (toks.drop (j' + 1))) (p : j0 ≤ j') (p' : j' < toks.length) :
    StEnd h₀ L "role" (duLed lF cst) duPs ["text", "spells"] m₀ (FiJ held toks j0 lF cst (i + 1)) own s { s with heap := h', toks := tk } := by
  refine ⟨⟨j' + 1, tj', vs2 ++ [Value.str x tx], ds2 ++ [Dat.str x], n', tl2⟩, _, _, _, _, rfl, F, N, fun q hq => ?_, fun q hq => ?_, hoff, fun q hq => ?_, fun z h1 h2 h3 => ?_, ⟨d.append (.cons (.str _ _) .nil), ?_, o1, o2, e, Nat.le_succ_of_le p, p', fun _ => Nat.lt_succ_of_le p⟩⟩
  · rcases List.mem_cons.mp hq with rfl | hq
    · exact .tail _ (.head _)
    · exact .tail _ (.tail _ (List.mem_append_left _ hq))
  · exact .tail _ (.tail _ (List.mem_append_right _ hq))
  · rw [List.mem_singleton.mp hq]; exact k
  · have h4 := h3 _ (.head _)
    have h5 : z ≠ ("text" : Str) ∧ z ≠ ("spells" : Str) := by simpa using h2
    exact hr z h1 h4 h5.1 h5.2
  · show (ds2 ++ [_]).length = _
    rw [List.length_append, ld]; rfl
theorem off_1 {h₀ h : Heap} {L lW : Addr} {o : Obj} {r : List (Addr × Obj)} (_ : News h₀ L h ((lW, o) :: r)) (h1 : AllLt lW r) : ∀ q ∈ r, q.1 ≠ lW := fun q hq => Nat.ne_of_lt (AllLt.mem' h1 q hq)
/-- the row's append -/
theorem due_app {prog : Program} {w : World} {A : Around} {E : Value → Shared → Prop} {s : Shared} {h₀ : Heap} {L : Addr} {news x : List (Addr × Obj)} {m : Str → Option Value} {lW : Addr} {us : List Value} {n : Nat} {v : Value} {Q : Value → Shared → Prop} (F : Fr h₀ L s.heap m) (N : News h₀ L s.heap news)
    (hm : (lW, listOf us.toArray n) ∈ news) (hx : ∀ q ∈ x, q ∈ news) (off : ∀ q ∈ x, q.1 ≠ lW) (hsz : us.length ≤ 6000000) (h : ∀ h', Fr h₀ L h' m → News h₀ L h' ((lW, listOf (us ++ [v]).toArray (n + 1)) :: x) → Q .none { s with heap := h' }) :
    wpAny (model prog w) A (call (.builtin "list.append") [.ref lW, v]) Q E s :=
  app_sym (news := (lW, listOf us.toArray n) :: x) F (fun q hq => N q (by
    rcases List.mem_cons.mp hq with rfl | hq
    · exact hm
    · exact hx q hq)) (Upd.head off) hsz h
theorem not_in4 {z : Str} (h : (["fields", "role", "text", "spells"] : List Str).contains z = false) : z ≠ ("fields" : Str) ∧ z ≠ ("role" : Str) ∧ z ≠ ("text" : Str) ∧ z ≠ ("spells" : Str) := by simpa using h
/-- the end of a row -/
theorem du_end {held : Bool} {toks : List (Tk × Int)} {j j2 n n2 : Nat} {tj tj2 : Tok} {lW D : Addr} {cst tl tl2 : List (Addr × Obj)} {vs us : List Value} {ds es : List Dat} {h₀ h' : Heap} {L : Addr} {s : Shared} {m' m₀ : Str → Option Value} {tk : Nat}
    (F : Fr h₀ L h' m') (N : News h₀ L h' ((lW, listOf (vs ++ [Value.ref D]).toArray (n + 1)) :: (((D, ({ cls := .type "tuple", data := .seq us.toArray n2 } : Obj)) :: (tl2 ++ tl)) ++ cst)))
    (dA : DatAll tl2 us es) (f1 : DatAll tl vs ds) (off : ∀ q ∈ ((D, ({ cls := .type "tuple", data := .seq us.toArray n2 } : Obj)) :: (tl2 ++ tl)) ++ cst, q.1 ≠ lW) (f3 : vs.length ≤ j) (hj : j < j2)
    (k : m' "spot" = some (.int (j2 : Int) tj2)) (hr : ∀ z, z ≠ ("spot" : Str) → z ≠ ("fields" : Str) → z ≠ ("role" : Str) → z ≠ ("text" : Str) → z ≠ ("spells" : Str) → m' z = m₀ z)
    (p1 : 1 ≤ j) (p2 : j2 ≤ toks.length) (hA : RowsAt held toks j2 (ds ++ [.tuple es])) :
    KswEnd h₀ L s (duLed lW cst) duPs (duF lW) ["fields", "role", "text", "spells"] m₀ (duP held toks) (fun c => toks.length - c.j) ⟨j, tj, vs, ds, n, tl⟩ { s with heap := h', toks := tk } := by
  refine ksw_end ⟨j2, tj2, vs ++ [Value.ref D], ds ++ [.tuple es], n + 1, (D, { cls := .type "tuple", data := .seq us.toArray n2 }) :: (tl2 ++ tl)⟩ F N (fun q hq => hq) ⟨?_, fun q hq => off q (List.mem_append_left _ hq), ?_⟩ (fun q hq => ?_) (fun z z1 z2 => ?_) ⟨Nat.le_trans p1 (Nat.le_of_lt hj), p2, hA⟩ (by show toks.length - j2 < toks.length - j; omega)
  · exact (f1.mono fun q hq => .tail _ (List.mem_append_right _ hq)).append (.cons (.tuple (.head _) (dA.mono fun q hq => .tail _ (List.mem_append_left _ hq))) .nil)
  · show (vs ++ [_]).length ≤ j2
    rw [List.length_append]
    show vs.length + 1 ≤ j2
    omega
  · rw [List.mem_singleton.mp hq]; exact k
  · obtain ⟨n3, n4, n5, n6⟩ := not_in4 z2
    exact hr z (z1 _ (.head _)) n3 n4 n5 n6
theorem mem_2 {d : Addr × Obj} {x y z led : List (Addr × Obj)} (h1 : d ∈ led) (h2 : ∀ q ∈ x, q ∈ led) (h3 : ∀ q ∈ y, q ∈ led) (h4 : ∀ q ∈ z, q ∈ led) : ∀ q ∈ (d :: (x ++ y)) ++ z, q ∈ led := fun q hq => by
  rcases List.mem_append.mp hq with hq | hq
  · rcases List.mem_cons.mp hq with rfl | hq
    · exact h1
    · exact (List.mem_append.mp hq).elim (h2 q) (h3 q)
  · exact h4 q hq
theorem off_2 {d : Addr × Obj} {l : Addr} {x y z : List (Addr × Obj)} (h1 : d.1 ≠ l) (h2 : ∀ q ∈ x, q.1 ≠ l) (h3 : ∀ q ∈ y, q.1 ≠ l) (h4 : ∀ q ∈ z, q.1 ≠ l) : ∀ q ∈ (d :: (x ++ y)) ++ z, q.1 ≠ l := fun q hq => by
  rcases List.mem_append.mp hq with hq | hq
  · rcases List.mem_cons.mp hq with rfl | hq
    · exact h1
    · exact (List.mem_append.mp hq).elim (h2 q) (h3 q)
  · exact h4 q hq
theorem ref_itemC {prog : Program} {w : World} {A : Around} {E : Value → Shared → Prop} {s : Shared} {h₀ : Heap} {L : Addr} {led : List (Addr × Obj)} {Q : Value → Shared → Prop} {l : Addr} {vs : List Value} {nC : Nat} {value slice : PySem.Expr} {u : Tok} {v : Value} (N : News h₀ L s.heap led) (hm : (l, listOf vs.toArray nC) ∈ led) (hv : vs[1]? = some v) (h : Q v s) (hs : subscripted slice false (.ref l) (.int 1 u) = operate [.ref l, .int 1 u] (getItem (.ref l) (.int 1 u)) := by with_unfolding_all rfl) :
    wpAny (model prog w) A (subscriptTail value slice (.ref l) (.int 1 u)) Q E s := ref_item N hm rfl hv (by decide) h hs
theorem kbaT {prog : Program} {w : World} {A : Around} {E : Value → Shared → Prop} {s : Shared} {value slice : PySem.Expr} {o i : Value} {Q : Value → Shared → Prop} (h : wpAny (model prog w) A (subscriptTail (PySem.Expr.Name (PySem.Str.ofString "_") ⟨0, 0, 0, 0⟩) slice o i) Q E s) : wpAny (model prog w) A (subscriptTail value slice o i) Q E s := kba_turn (fun _ => rfl) h
end
local macro_rules | `(tactic| walk_at "go7") => `(tactic| first | (with_reducible refine iteF ?_) | (with_reducible refine iteT ?_) | (with_reducible refine stRet ?_; (try dsimp only)) | (with_reducible refine kswRet ?_; (try dsimp only)) | (dsimp only; with_reducible refine stRet ?_; (try dsimp only)) | (dsimp only; with_reducible refine kswRet ?_; (try dsimp only)) | walk_at "go")
local macro_rules | `(tactic| ktn_open) => `(tactic| repeat' (walk_at "stop"; walk_at "go7"))
local macro_rules | `(tactic| k_all) => `(tactic| exact fresh_off (by assumption) (by k_mem))
local macro_rules | `(tactic| walk_at "compareOp In str str") => `(tactic| (k_here; (refine in_gen ?_); intros))
local macro_rules | `(tactic| walk_at "subscriptTail Name Slice ref ref") => `(tactic| (k_here; k_dflt (refine cut2 (by k_asm) (by k_asm) (by k_mem) ?_ (by with_unfolding_all rfl) (by intro _; with_unfolding_all rfl)); intros; rename_i l1'; (try k_lt l1'); (try k_sweep)))
local macro_rules | `(tactic| walk_at "compareOp NotEq ref ref") => `(tactic| (k_here; k_dflt (apply ne_key; (case N => k_asm); (case m1 | m2 => k_mem); (case hv => assumption); (case hs => (intro q hq; k_mem)); (case hk => assumption); (case hx => decide +kernel); (case hu => ktr_units); walk_at "kn")))
local macro_rules | `(tactic| walk_at "call ref") => `(tactic| (walk_at "cr"; (with_reducible refine Mine.cg 264 ?_); k_dflt (apply cut_specW; walk_at "std"; (case hm => k_mem); (case hR => assumption); (case hs => (intro q hq; k_mem)); (case hG | hlen | hi0 => assumption); (case' retN => walk_at "kl"); (case' retS => walk_at "kl"))))
local macro_rules | `(tactic| walk_at "call ref") => `(tactic| (walk_at "cr"; (with_reducible refine Mine.cg 271 ?_); k_dflt (apply symbols_specW; walk_at "std"; (case hx => assumption); (case' retN => walk_at "kw"); (case' retS => (k_whole; intros; rename_i f1' l1' F' N'; (try dsimp only [List.cons_append] at f1' l1' N'); (try k_lt l1'); (try k_sweep))))))
local macro_rules | `(tactic| walk_at "kba") => `(tactic| (k_here; k_dflt (refine kbaT ?_)))
local macro_rules | `(tactic| walk_at "kbt") => `(tactic| (walk_at "kba"; k_dflt (refine item_tupleL (News.isTup (by k_asm) (by k_mem)) (by decide) (by decide) rfl rfl ?_ (by with_unfolding_all rfl) (by intro _; with_unfolding_all rfl)); k_whole))
local macro_rules | `(tactic| walk_at "subscriptTail Subscript Name Constant Constant ref int") => `(tactic| walk_at "kbt")
local macro_rules | `(tactic| walk_at "subscriptTail Subscript Name Constant") => `(tactic| walk_at "kba")
local macro_rules | `(tactic| walk_at "subscriptTail Subscript Name Name Constant ref int") => `(tactic| walk_at "kbt")
local macro_rules | `(tactic| walk_at "subscriptTail Subscript Name Name") => `(tactic| walk_at "kba")
local macro_rules | `(tactic| walk_at "subscriptTail Subscript Name BinOp Constant ref int") => `(tactic| walk_at "kbt")
local macro_rules | `(tactic| walk_at "subscriptTail Subscript Name BinOp") => `(tactic| walk_at "kba")
local macro_rules | `(tactic| walk_at "subscriptTail Name BinOp ref int") => `(tactic| (k_here; k_dflt (apply ref_item2; (case N => k_asm); (case hm => k_mem); (case hv | hi => assumption); (case hs => with_unfolding_all rfl); walk_at "kn")))
local macro_rules | `(tactic| walk_at "subscriptTail Name BinOp ref int") => `(tactic| (k_here; k_dflt (apply ref_item1; (case N => k_asm); (case hm => k_mem); (case hv | hi => assumption); (case hs => with_unfolding_all rfl); walk_at "kn")))
local macro_rules | `(tactic| walk_at "call type:tuple") => `(tactic| (k_here; k_dflt (apply tup_sym; (case F | N => k_asm); (case m1 => k_mem); (case hz => first | assumption | omega); walk_at "kd")))
local macro_rules | `(tactic| walk_at "subscriptTail Name Constant ref int") => `(tactic| (k_here; k_dflt (apply ref_item0; (case N => k_asm); (case hm => k_mem); (case hv => first | rfl | assumption); (case hs => with_unfolding_all rfl); walk_at "kn")))
local macro_rules | `(tactic| walk_at "subscriptTail Name Constant ref int") => `(tactic| (k_here; (show wpAny _ _ (subscriptTail _ _ (Value.ref _) (Value.int 1 _)) _ _ _); k_dflt (apply ref_itemC; (case N => k_asm); (case hm => k_mem); (case hv => first | rfl | assumption); (case hs => with_unfolding_all rfl); walk_at "kn")))
section
theorem rstP8 : True := by
  w_top off
  trivial
set_option maxHeartbeats 20000000
/-- the list of the roles -/
noncomputable def Roles (held : Bool) (rs : List Value) : Prop := (held = false ∧ ∃ t1 t2, rs = [.str "ins" t1, .str "out" t2]) ∨ (held = true ∧ ∃ t1 t2 t3, rs = [.str "ins" t1, .str "state" t2, .str "out" t3])
noncomputable def RoleR (held : Bool) (h₀ : Heap) (L : Addr) (m : Str → Option Value) (led : List (Addr × Obj)) (s : Shared) (v : Value) (s' : Shared) : Prop :=
  ∃ h' tk' lK rs, v = .ref lK ∧ s' = { s with heap := h', toks := tk' } ∧ Roles held rs ∧ Fr h₀ L h' m ∧ News h₀ L h' ((lK, listOf rs.toArray 0) :: led) ∧ AllLt lK led
theorem role_join {M : Model} {A : Around} {t : Sem Value} {Q E : Value → Shared → Prop} {s : Shared} {h₀ h : Heap} {L : Addr} {m : Str → Option Value} {led : List (Addr × Obj)} (held : Bool) (_ : Fr h₀ L h m) (_ : News h₀ L h led) (h1 : wpAny M A t (RoleR held h₀ L m led s) E s)
    (h2 : ∀ h' tk' lK rs, Roles held rs → Fr h₀ L h' m → News h₀ L h' ((lK, listOf rs.toArray 0) :: led) → AllLt lK led → Q (.ref lK) { s with heap := h', toks := tk' }) : wpAny M A t Q E s :=
  by
  refine wpAny_mono h1 (fun v s' H => ?_) fun _ _ h => h
  obtain ⟨h', tk', lK, rs, e1, e2, r, F, N, a⟩ := H
  rw [e1, e2]
  exact h2 h' tk' lK rs r F N a
theorem role_at {held : Bool} {rs : List Value} {i : Nat} {v : Value} (h : Roles held rs) (hv : rs[i]? = some v) : (∃ t, v = .str "ins" t ∧ i = 0) ∨ (∃ t, v = .str "state" t ∧ held = true ∧ i = 1) ∨ (∃ t, v = .str "out" t ∧ ((held = false ∧ i = 1) ∨ (held = true ∧ i = 2))) := by
  rcases h with ⟨e, t1, t2, rfl⟩ | ⟨e, t1, t2, t3, rfl⟩
  · rcases i with _ | _ | i
    · exact .inl ⟨_, (Option.some.inj hv).symm, rfl⟩
    · exact .inr (.inr ⟨_, (Option.some.inj hv).symm, .inl ⟨e, rfl⟩⟩)
    · simp at hv
  · rcases i with _ | _ | _ | i
    · exact .inl ⟨_, (Option.some.inj hv).symm, rfl⟩
    · exact .inr (.inl ⟨_, (Option.some.inj hv).symm, e, rfl⟩)
    · exact .inr (.inr ⟨_, (Option.some.inj hv).symm, .inr ⟨e, rfl⟩⟩)
    · simp at hv
theorem roles_len {held : Bool} {rs : List Value} (h : Roles held rs) : rs.length ≤ 3 := by
  rcases h with ⟨e, t1, t2, rfl⟩ | ⟨e, t1, t2, t3, rfl⟩ <;> simp
theorem out_stage {held : Bool} {ds : List Dat} {i : Nat} (h : (held = false ∧ i = 1) ∨ (held = true ∧ i = 2)) (hd : ds.length = i) :
    ∃ d st, (∀ ts, stageR held ds ts = outF d st ts) ∧ ∀ x r, stageR held (ds ++ [.str x]) r = .ok (.tuple [d, st, .str x], r) := by
  rcases h with ⟨rfl, rfl⟩ | ⟨rfl, rfl⟩
  · obtain ⟨d, rfl⟩ := List.length_eq_one_iff.mp hd
    exact ⟨d, .none, fun _ => rfl, fun _ _ => rfl⟩
  · rcases ds with _ | ⟨d, _ | ⟨d2, _ | ⟨_, _⟩⟩⟩
    · simp at hd
    · simp at hd
    · exact ⟨d, d2, fun _ => rfl, fun _ _ => rfl⟩
    · simp at hd
section
variable {w : World} {mean : ExcName → Option Value} {mg mb : Str → Option Value} {dp un : Nat} {gd : Option (List Code)} {cn : Str} {cs : Scope} {a : Addr} {ccd : Value} {outer : List Env} {A₀ : Around} {base h₀ : Heap} {L : Addr} {m : Str → Option Value}
    {rest : List (Addr × Obj)} {s : Shared} {Q E : Value → Shared → Prop} {lR : Addr} {refs : List Value} {toks : List (Tk × Int)} {nR : Nat} {held : Bool}
theorem due_spec
    (B : Below A₀ base outer h₀) (F : Fr h₀ L s.heap m) (X : (hd.heap_39 w.params).In h₀) (N : News h₀ L s.heap rest) (T : Top hd.view_39 Lz mean mg mb h₀) (hk : cs.kind = .function)
    (hd : dp + 6 < recursionLimit) (hu : un + 150 < cLine) (hm : (lR, listOf refs.toArray nR) ∈ rest) (hR : DatAll rest refs ((full toks).map rowD)) (hG : ∀ t ∈ toks, Good t.1) (hO : ∀ t ∈ toks, TkOk t.1) (hlen : toks.length ≤ 150)
    (ret : ∀ h' tk' D tl, DatIn (tl ++ rest) (.ref D) (outD (tableL held toks)) → Fr h₀ L h' m → News h₀ L h' (tl ++ rest) → Q (.ref D) { s with heap := h', toks := tk' }) :
    wpAny (model PySem.Challenge.rw_sj0031_01.row.prog w) (ktrTop dp un gd cn cs L a ccd [] outer) (call (.ref 278) [.ref lR, .bool held]) Q E s := by
  have hO2 : ∀ i, TkOk (hdT (toks.drop i)).1 := fun i => by
    rcases h : toks.drop i with _ | ⟨t, r⟩
    · exact .str (by decide +kernel)
    · exact hO t (List.mem_of_mem_drop (i := i) (by rw [h]; exact .head _))
  obtain ⟨b0, kk0, v0, tm0, nn0, hv0, hb0, hd0⟩ := rowTok hR (full_hd (toks := toks) (i := 0) (by omega))
  have hO0 := hO2 0
  rw [List.drop_zero] at hb0 hd0 hO0
  have retE : ∀ (h' : Heap) tk' D (kind : Str) (at9 : Int) t1 t2 nn led, outD (tableL held toks) = .tuple [.str kind, .int at9] → Fr h₀ L h' m → News h₀ L h' ((D, ({ cls := .type "tuple", data := .seq #[.str kind t1, .int at9 t2] nn } : Obj)) :: led) → (∀ q ∈ rest, q ∈ led) → Q (.ref D) { s with heap := h', toks := tk' } := fun h' tk' D kind at9 t1 t2 nn led e F' N' hs =>
    ret h' tk' D [_] (by rw [e]; exact .tuple (vs := [.str kind t1, .int at9 t2]) (.head _) (.cons (.str _ _) (.cons (.int _ _) .nil))) F' (news2 N' (.head _) fun q hq => .tail _ (hs q hq))
  refine wpAny_call ?_
  k_dflt ktr_enter
  ktn_open
  rotate_left 1
  · rename News h₀ L _ _ => N9
    exact retE _ _ _ _ _ _ _ _ _ (table_no (by assumption)) (by assumption) N9 (fun q hq => by k_mem)
  rename ((hdT toks).1.isKey "table" = true) => hT
  have hlen0 : 1 ≤ toks.length := by
    rcases toks with _ | ⟨t, r⟩
    · exact absurd hT (by decide +kernel)
    · exact Nat.le_add_left 1 _
  rename Fr _ _ _ _ => F'
  rename News _ _ _ _ => N'
  rename (@LT.lt Nat _ _ _ ∧ @LT.lt Nat _ _ _ ∧ AllLt _ _) => a0
  have w0 := off_1 N' a0
  refine' ksw_while (σ := DuS) (duLed ?lW ?cst) duPs (duF ?lW) ["fields", "role", "text", "spells"] (duP held toks) (fun c => toks.length - c.j) ⟨1, ?tj, [], [], 0, []⟩ F' N' ?hf ?hk ?hp ?turn ?hE
  case hk =>
    intro q hq
    rw [List.mem_singleton.mp hq]
    with_unfolding_all rfl
  case hf => exact ⟨.nil, (fun _ h => nomatch h), Nat.zero_le _⟩
  case hp => exact ⟨Nat.le_refl _, hlen0, rows_start hT⟩
  case hE => passes_own
  case turn =>
    clear F' N' N
    rintro ⟨j, tj, vs, ds, n, tl⟩ u h tk ⟨f1, f2, f3⟩ ⟨p1, p2, p3⟩ F1 N1
    dsimp only at f1 f2 f3 p1 p2 p3 F1 N1
    have hj9 : j ≤ 100000 := by omega
    have hj8 : j ≤ 1000 := by omega
    have hz9 : vs.length ≤ 6000000 := by omega
    obtain ⟨bj, kkj, vj, tmj, nnj, hvj, hbj, hdj⟩ := rowTok hR (full_hd (toks := toks) (i := j) (by omega))
    have hOj := hO2 j
    repeat' ((fail_if_success (with_reducible show @ite Prop _ _ _ _)); (fail_if_success (with_reducible show wpAny _ _ (PySem.exec (Stmt.While _ _ _ _) _) _ _ _)); (fail_if_success (with_reducible show wpAny _ _ (PySem.exec (Stmt.For _ _ _ _ _) _) _ _ _)); (fail_if_success (with_reducible show wpAny _ _ (PySem.exec (Stmt.Try _ _ _ _ _) _) _ _ _)); first | (with_reducible refine iteF ?_) | (with_reducible refine iteT ?_) | (with_reducible refine stRet ?_; (try dsimp only)) | (with_reducible refine kswRet ?_; (try dsimp only)) | (dsimp only; with_reducible refine stRet ?_; (try dsimp only)) | (dsimp only; with_reducible refine kswRet ?_; (try dsimp only)) | (k_unfold; (try dsimp only)) | walk1 | (dsimp only; walk1))
    rcases hkk : (hdT (toks.drop j)).1.isKey "endtable"
    · ktn_open
      rename Fr _ _ _ _ => F'
      rename News _ _ _ _ => N0
      rename (@LT.lt Nat _ _ _ ∧ _) => a2
      k_dflt (refine For_invVF F' (by with_unfolding_all rfl) (by with_unfolding_all rfl) ?_)
      refine role_join held F' N0 ?_ fun h7 tk7 lK7 roles hro F2 N2 a1 => ?_
      · cases held
        · repeat' walk_at "go"
          rename (@LT.lt Nat _ _ _ ∧ _) => a1
          rename News _ _ _ _ => N2
          exact ⟨_, _, _, [.str "ins" _, .str "out" _], rfl, rfl, .inl ⟨rfl, _, _, rfl⟩, by assumption, N2, a1⟩
        · repeat' walk_at "go"
          rename (@LT.lt Nat _ _ _ ∧ _) => a1
          rename News _ _ _ _ => N2
          exact ⟨_, _, _, [.str "ins" _, .str "state" _, .str "out" _], rfl, rfl, .inr ⟨rfl, _, _, _, rfl⟩, by assumption, N2, a1⟩
      · have w6 := off_of N2 a1 a2
        refine' st_list (σ := DuS) (duLed ?lF ?cs2) duPs ["text", "spells"] (FiJ held toks j ?lF ?cs2) ⟨j, tj, [], [], 0, []⟩ ?hh2 ?hl2 F2 (news_2nd N2) ?hk2 ?hj2 ?turn2 ?done2
        case hh2 => with_unfolding_all rfl
        case hl2 => exact fun c => .tail _ (List.mem_append_right _ (.head _))
        case hk2 =>
          intro q hq
          rw [List.mem_singleton.mp hq]
          with_unfolding_all rfl
        case hj2 => exact ⟨.nil, rfl, (fun _ h => nomatch h), (fun _ h => nomatch h), rfl, Nat.le_refl _, p2, fun h => absurd h (Nat.lt_irrefl _)⟩
        case turn2 =>
          clear F2 N2
          rintro ⟨j2, tj2, vs2, ds2, n2, tl2⟩ i v u2 h2 tk2 own2 hv2 J2 hoff2 F3 N4
          dsimp only [duLed, duPs, List.cons_append, envOf] at hoff2 F3 N4
          unfold stM at F3
          obtain ⟨q1, q2, q3, q4, q5, q6, q7, q8⟩ := J2
          dsimp only at q1 q2 q3 q4 q5 q6 q7 q8
          have hz2 : vs2.length ≤ 6000000 := by
            have h3 := (List.getElem?_eq_some_iff.mp hv2).1
            have h4 := roles_len hro
            rw [q1.length, q2]
            omega
          have w5 : ∀ q ∈ own2, q.1 ≠ _ := fun q hq => hoff2 q hq _ (.head _)
          dsimp only at w5
          have bad : ∀ {e : Str × Int}, stageR held ds2 (toks.drop j2) = .error e → outD (tableL held toks) = .tuple [.str e.1, .int e.2] := fun h => rows_bad hT p3 hkk (q5.trans h)
          rcases role_at hro hv2 with ⟨tr, rfl, rfl⟩ | ⟨tr, rfl, rfl, rfl⟩ | ⟨tr, rfl, ho⟩
          · rcases ds2 with _ | ⟨_, _⟩
            · cases q1
              ktn_open
              · rename News h₀ L _ _ => N9
                exact retE _ _ _ _ _ _ _ _ _ (bad (insW (by assumption) (by assumption) (by assumption) (by assumption))) (by assumption) N9 (fun q hq => by k_mem)
              · rename News _ _ _ _ => N9
                rename Fr _ _ _ _ => F9
                rename DatAll _ _ _ => d9
                rename (@LT.lt Nat _ _ _ ∧ @LT.lt Nat _ _ _ ∧ AllLt _ _) => l9
                show StEnd _ _ _ _ _ _ _ _ _ _ _
                exact fi_ins F9 N9 l9 (by assumption) d9 hoff2 (by with_unfolding_all rfl) (fun z n1 n2 n3 n4 => by simp [kstB, n1, n2, n3, n4]) (q5.trans (insK (by assumption) (by assumption) (by assumption) (by assumption))) (by omega) (by assumption)
              · rename News h₀ L _ _ => N9
                exact retE _ _ _ _ _ _ _ _ _ (bad (insS (by assumption) (by assumption) (by assumption))) (by assumption) N9 (fun q hq => by k_mem)
              · rename News h₀ L _ _ => N9
                exact retE _ _ _ _ _ _ _ _ _ (bad (insN (by assumption) (by assumption))) (by assumption) N9 (fun q hq => by k_mem)
            · simp at q2
          · rcases ds2 with _ | ⟨d, _ | ⟨_, _⟩⟩
            · simp at q2
            · ktn_open
              · rename News h₀ L _ _ => N9
                exact retE _ _ _ _ _ _ _ _ _ (bad (stW (by assumption) (by assumption) ((st_has (by assumption) (by assumption)).trans (by assumption)) (by assumption))) (by assumption) N9 (fun q hq => by k_mem)
              · rename News _ _ _ _ => N9
                rename Fr _ _ _ _ => F9
                show StEnd _ _ _ _ _ _ _ _ _ _ _
                exact fi_str F9 N9 q1 q2 q3 q4 hoff2 (by with_unfolding_all rfl) (fun z n1 n2 n3 n4 => by simp [kstB, n1, n2, n3, n4]) (q5.trans (stK (by assumption) (by assumption) ((st_has (by assumption) (by assumption)).trans (by assumption)) (by assumption))) (by omega) (by assumption)
              · rename News h₀ L _ _ => N9
                exact retE _ _ _ _ _ _ _ _ _ (bad (stS (by assumption) (by assumption) ((st_has (by assumption) (by assumption)).trans (by assumption)))) (by assumption) N9 (fun q hq => by k_mem)
              · exfalso; omega
              · rename News h₀ L _ _ => N9
                exact retE _ _ _ _ _ _ _ _ _ (bad (stS (by assumption) (by assumption) (st_not1 (by assumption)))) (by assumption) N9 (fun q hq => by k_mem)
              · rename News h₀ L _ _ => N9
                exact retE _ _ _ _ _ _ _ _ _ (bad (stN (by assumption) (by assumption))) (by assumption) N9 (fun q hq => by k_mem)
            · simp at q2
          · obtain ⟨d, st, hO1, hO2⟩ := out_stage ho q2
            have bad2 : ∀ {e : Str × Int}, outF d st (toks.drop j2) = .error e → outD (tableL held toks) = .tuple [.str e.1, .int e.2] := fun h => bad ((hO1 _).trans h)
            ktn_open
            · rename News h₀ L _ _ => N9
              exact retE _ _ _ _ _ _ _ _ _ (bad2 (ouW (by assumption) (by assumption) ((ou_has (by assumption) (by assumption)).trans (by assumption)) (by assumption))) (by assumption) N9 (fun q hq => by k_mem)
            · rename News _ _ _ _ => N9
              rename Fr _ _ _ _ => F9
              show StEnd _ _ _ _ _ _ _ _ _ _ _
              exact fi_str F9 N9 q1 q2 q3 q4 hoff2 (by with_unfolding_all rfl) (fun z n1 n2 n3 n4 => by simp [kstB, n1, n2, n3, n4]) (q5.trans ((hO1 _).trans ((ouK (by assumption) (by assumption) ((ou_has (by assumption) (by assumption)).trans (by assumption)) (by assumption)).trans (hO2 _ _).symm))) (by omega) (by assumption)
            · rename News h₀ L _ _ => N9
              exact retE _ _ _ _ _ _ _ _ _ (bad2 (ouS (by assumption) (by assumption) ((ou_has (by assumption) (by assumption)).trans (by assumption)))) (by assumption) N9 (fun q hq => by k_mem)
            · exfalso; omega
            · rename News h₀ L _ _ => N9
              exact retE _ _ _ _ _ _ _ _ _ (bad2 (ouS (by assumption) (by assumption) (ou_not1 (by assumption)))) (by assumption) N9 (fun q hq => by k_mem)
            · rename News h₀ L _ _ => N9
              exact retE _ _ _ _ _ _ _ _ _ (bad2 (ouN (by assumption) (by assumption))) (by assumption) N9 (fun q hq => by k_mem)
        case done2 =>
          clear F2 N2
          rintro ⟨j2, tj2, vs2, ds2, n2, tl2⟩ u2 v2 h2 tk2 J2 F3 N4
          dsimp only [duLed, duPs, List.cons_append, envOf] at F3 N4
          unfold stM at F3
          obtain ⟨q1, q2, q3, q4, q5, q6, q7, q8⟩ := J2
          dsimp only at q1 q2 q3 q4 q5 q6 q7 q8
          rcases hro with ⟨rfl, t1, t2, rfl⟩ | ⟨rfl, t1, t2, t3, rfl⟩
          · rcases ds2 with _ | ⟨d1, _ | ⟨d2, _ | ⟨_, _⟩⟩⟩
            · simp at q2
            · simp at q2
            · obtain ⟨v1, w1, rfl, z1, y1⟩ : ∃ v1 w1, vs2 = [v1, w1] ∧ DatIn tl2 v1 d1 ∧ DatIn tl2 w1 d2 := by
                cases q1 with
                | cons a1 a2 =>
                  cases a2 with
                  | cons a2 a3 =>
                    cases a3
                    exact ⟨_, _, rfl, a1, a2⟩
              ktn_open
              rename News _ _ _ _ => N9
              rename Fr _ _ _ _ => F9
              rename (@LT.lt Nat _ _ _ ∧ AllLt _ _) => l9
              have o9 : ∀ q ∈ tl2, q.1 ≠ _ := fun q hq => Nat.ne_of_gt (q4 q hq _ (.tail _ (.tail _ (.tail _ (.head _)))))
              have hw9 := Nat.ne_of_gt (AllLt.mem' l9.2 _ ((List.mem_append_right _ (.tail _ (.tail _ (.tail _ (.head _)))))))
              refine due_app F9 N9 (by k_mem) (mem_2 (by k_mem) (fun q hq => by k_mem) (fun q hq => by k_mem) (fun q hq => by k_mem)) (off_2 hw9 o9 f2 w0) hz9 (fun h9 F8 N8 => ?_)
              ktn_open
              rename News _ _ _ _ => N7
              rename Fr _ _ _ _ => F7
              have hj2 := q8 (Nat.le_add_left 1 _)
              exact du_end F7 N7 (.cons z1 (.cons .none (.cons y1 .nil))) f1 (off_2 hw9 o9 f2 w0) f3 hj2 (by with_unfolding_all rfl) (fun z n1 n2 n3 n4 n5 => by simp [kstB, n1, n2, n3, n4, n5]) p1 q7 (rows_next p3 hkk (q5.trans rfl) hj2 (by omega))
            · simp at q2
          · rcases ds2 with _ | ⟨d1, _ | ⟨d2, _ | ⟨d3, _ | ⟨_, _⟩⟩⟩⟩
            · simp at q2
            · simp at q2
            · simp at q2
            · obtain ⟨v1, w1, u1, rfl, z1, y1, x1⟩ : ∃ v1 w1 u1, vs2 = [v1, w1, u1] ∧ DatIn tl2 v1 d1 ∧ DatIn tl2 w1 d2 ∧ DatIn tl2 u1 d3 := by
                cases q1 with
                | cons a1 a2 =>
                  cases a2 with
                  | cons a2 a3 =>
                    cases a3 with
                    | cons a3 a4 =>
                      cases a4
                      exact ⟨_, _, _, rfl, a1, a2, a3⟩
              ktn_open
              rename News _ _ _ _ => N9
              rename Fr _ _ _ _ => F9
              rename (@LT.lt Nat _ _ _ ∧ AllLt _ _) => l9
              have o9 : ∀ q ∈ tl2, q.1 ≠ _ := fun q hq => Nat.ne_of_gt (q4 q hq _ (.tail _ (.tail _ (.tail _ (.head _)))))
              have hw9 := Nat.ne_of_gt (AllLt.mem' l9.2 _ ((List.mem_append_right _ (.tail _ (.tail _ (.tail _ (.head _)))))))
              refine due_app F9 N9 (by k_mem) (mem_2 (by k_mem) (fun q hq => by k_mem) (fun q hq => by k_mem) (fun q hq => by k_mem)) (off_2 hw9 o9 f2 w0) hz9 (fun h9 F8 N8 => ?_)
              ktn_open
              rename News _ _ _ _ => N7
              rename Fr _ _ _ _ => F7
              have hj2 := q8 (Nat.le_add_left 1 _)
              exact du_end F7 N7 (.cons z1 (.cons y1 (.cons x1 .nil))) f1 (off_2 hw9 o9 f2 w0) f3 hj2 (by with_unfolding_all rfl) (fun z n1 n2 n3 n4 n5 => by simp [kstB, n1, n2, n3, n4, n5]) p1 q7 (rows_next p3 hkk (q5.trans rfl) hj2 (by omega))
            · simp at q2
    · have hjl := key_lt hkk
      obtain ⟨b1, kk1, v1, tm1, nn1, hv1, hb1, hd1⟩ := rowTok hR (full_hd (toks := toks) (i := j + 1) (by omega))
      obtain ⟨b2, kk2, v2, tm2, nn2, hv2, hb2, hd2⟩ := rowTok hR (full_hd (toks := toks) (i := j + 2) (by omega))
      have hO3 := hO2 (j + 1)
      have retR : ∀ (h' : Heap) tk' D Dr t1 nn n2 led, outD (tableL held toks) = .tuple [.str "read", .tuple ds, rowD (hdT (toks.drop (j + 2)))] → Fr h₀ L h' m → News h₀ L h' ((D, ({ cls := .type "tuple", data := .seq #[.str "read" t1, .ref Dr, .ref b2] nn } : Obj)) :: (Dr, ({ cls := .type "tuple", data := .seq vs.toArray n2 } : Obj)) :: led) → (∀ q ∈ tl ++ rest, q ∈ led) → Q (.ref D) { s with heap := h', toks := tk' } := fun h' tk' D Dr t1 nn n2 led e F' N' hs =>
        ret h' tk' D ((D, { cls := .type "tuple", data := .seq #[.str "read" t1, .ref Dr, .ref b2] nn }) :: (Dr, { cls := .type "tuple", data := .seq vs.toArray n2 }) :: tl) (by
          rw [e]
          refine .tuple (vs := [.str "read" t1, .ref Dr, .ref b2]) (.head _) (.cons (.str _ _) (.cons (.tuple (.tail _ (.head _)) (f1.mono fun q hq => .tail _ (.tail _ (List.mem_append_left _ hq)))) (.cons ?_ .nil)))
          exact .tuple (vs := [.str _ kk2, v2, .int _ tm2]) (.tail _ (.tail _ (List.mem_append_right _ hb2))) (.cons (.str _ _) (.cons (DatIn.mono (fun q hq => .tail _ (.tail _ (List.mem_append_right _ hq))) hd2) (.cons (.int _ _) .nil)))) F'
          (fun q hq => N' q (by
            rcases List.mem_cons.mp hq with rfl | hq
            · exact .head _
            rcases List.mem_cons.mp hq with rfl | hq
            · exact .tail _ (.head _)
            exact .tail _ (.tail _ (hs q hq))))
      ktn_open
      · rename News h₀ L _ _ => N9
        refine retR _ _ _ _ _ _ _ _ ?_ (by assumption) N9 (fun q hq => ?_)
        · rw [rows_end hT p3 hkk, if_pos (by assumption)]; rfl
        · rcases List.mem_append.mp hq with hq | hq <;> k_mem
      · rename News h₀ L _ _ => N9
        refine retE _ _ _ _ _ _ _ _ _ ?_ (by assumption) N9 (fun q hq => by k_mem)
        rw [rows_end hT p3 hkk, if_neg (ne_t (by assumption))]; rfl
end
end
section
open Builtin
noncomputable def goodB : Tk → Bool
  | .num a b _ d => ((a == ("" : Str)) == (b == ("" : Str))) && Txt.lower d == d && decide (d.length ≤ 10) && PyData.strOk a && PyData.strOk b && PyData.strOk d
  | .id x => decide ((Txt.lower x).length ≤ 10) && decide (x.length ≤ 10) && PyData.strOk x
  | .op x => Txt.lower x == x && decide (x.length ≤ 10) && PyData.strOk x
  | .eof => false
  | .key x => PyData.strOk x
  | .str x => PyData.strOk x
theorem good_all : (vocab.all fun z => goodB (tokOf z)) = true := by decide +kernel
theorem good_of {t : Tk} (h : goodB t = true) : Good t ∧ TkOk t ∧ t.len ≤ 100 := by
  cases t with
  | num a b c d =>
    simp only [goodB, Bool.and_eq_true, beq_iff_eq, decide_eq_true_eq] at h
    obtain ⟨⟨⟨⟨⟨h1, h2⟩, h3⟩, h4⟩, h5⟩, h6⟩ := h
    exact ⟨⟨h1, h2, h3⟩, .tuple fun e he => by
      simp only [List.mem_cons, List.not_mem_nil, or_false] at he
      rcases he with rfl | rfl | rfl | rfl
      · exact .str h4
      · exact .str h5
      · exact .bool
      · exact .str h6, Nat.le_trans h3 (by decide)⟩
  | id x =>
    simp only [goodB, Bool.and_eq_true, beq_iff_eq, decide_eq_true_eq] at h
    exact ⟨⟨h.1.1, h.1.2⟩, .str h.2, Nat.le_trans h.1.2 (by decide)⟩
  | op x =>
    simp only [goodB, Bool.and_eq_true, beq_iff_eq, decide_eq_true_eq] at h
    exact ⟨⟨h.1.1, h.1.2⟩, .str h.2, Nat.le_trans h.1.2 (by decide)⟩
  | eof => exact absurd h (by decide)
  | key x => exact ⟨trivial, .str h, Nat.zero_le _⟩
  | str x => exact ⟨trivial, .str h, Nat.zero_le _⟩
theorem good_v {z : Str} (h : V z = true) : Good (tokOf z) ∧ TkOk (tokOf z) ∧ (tokOf z).len ≤ 100 :=
  good_of (List.all_eq_true.mp good_all z (by simpa [V] using h))
/-- the row that the law makes of its texts -/
noncomputable def toksOf : Nat → List Str → List (Tk × Int)
  | _, [] => []
  | k, x :: r => (tokOf x, 5 + 2 * (k : Int)) :: toksOf (k + 1) r
theorem toksOf_len : ∀ (k : Nat) (xs : List Str), (toksOf k xs).length = xs.length
  | _, [] => rfl
  | k, _ :: r => congrArg (· + 1) (toksOf_len (k + 1) r)
theorem toksOf_snoc : ∀ (k : Nat) (xs : List Str) (x : Str), toksOf k (xs ++ [x]) = toksOf k xs ++ [(tokOf x, 5 + 2 * ((k + xs.length : Nat) : Int))]
  | k, [], x => by simp [toksOf]
  | k, y :: r, x => by
    show (tokOf y, _) :: toksOf (k + 1) (r ++ [x]) = _
    rw [toksOf_snoc (k + 1) r x]
    rw [show k + 1 + r.length = k + (y :: r).length by rw [List.length_cons]; omega]
    rfl
theorem toksOf_take {xs : List Str} {i : Nat} {x : Str} (h : xs[i]? = some x) : toksOf 0 (xs.take (i + 1)) = toksOf 0 (xs.take i) ++ [(tokOf x, 5 + 2 * (i : Int))] := by
  obtain ⟨hi, rfl⟩ := List.getElem?_eq_some_iff.mp h
  rw [List.take_succ_eq_append_getElem hi, toksOf_snoc, List.length_take, Nat.min_eq_left (Nat.le_of_lt hi), Nat.zero_add]
theorem toksOf_mem : ∀ {k : Nat} {xs : List Str} {t : Tk × Int}, t ∈ toksOf k xs → ∃ x ∈ xs, t.1 = tokOf x
  | k, x :: r, t, h => by
    rcases List.mem_cons.mp h with rfl | h
    · exact ⟨x, .head _, rfl⟩
    · obtain ⟨y, hy, e⟩ := toksOf_mem h
      exact ⟨y, .tail _ hy, e⟩
theorem toks_good {k : Nat} {xs : List Str} (hv : ∀ z ∈ xs, V z = true) : ∀ t ∈ toksOf k xs, Good t.1 ∧ TkOk t.1 ∧ t.1.len ≤ 100 := fun t ht => by
  obtain ⟨x, hx, e⟩ := toksOf_mem ht
  rw [e]; exact good_v (hv x hx)
theorem sym_ok {c : Nat} (h : isSym ⟨#[c]⟩ = true) : PyData.strOk ⟨#[c]⟩ = true := by
  unfold isSym at h
  rw [StrLaws.found_one, decide_eq_true_eq] at h
  have : ∀ d ∈ ("01x?brfpn*" : Str).cps.toList, d < 0x110000 := by decide +kernel
  simp [PyData.strOk, this c h]
theorem lev_ok {y : Str} (h : isLev y = true) : PyData.strOk y = true := by
  obtain ⟨z, hz, e⟩ := List.any_eq_true.mp h
  have : ∀ z ∈ [("0" : Str), "1", "x", "?", "b"], PyData.strOk z = true := by decide +kernel
  rw [← beq_iff_eq.mp e]; exact this z hz
theorem any_ok {al : List Str} (ha : ∀ z ∈ al, PyData.strOk z = true) {y : Str} (h : (al.any fun z => z == y) = true) : PyData.strOk y = true := by
  obtain ⟨z, hz, e⟩ := List.any_eq_true.mp h
  rw [← beq_iff_eq.mp e]; exact ha z hz
theorem chars_one (x : Str) : ∀ y ∈ chars x, ∃ c, y = ⟨#[c]⟩ := fun y hy => by
  obtain ⟨k, _, rfl⟩ := List.mem_map.mp hy
  exact ⟨_, rfl⟩
theorem symL_ok : ∀ (n : Nat) (l : List Str) (ds : List Dat), l.length ≤ n → (∀ y ∈ l, ∃ c, y = ⟨#[c]⟩) → symL l = some ds → ∀ d ∈ ds, DOk 1 d
  | _, [], ds, _, _, h, d, hd => by
    rw [symL] at h; cases h; cases hd
  | n + 1, y :: r, ds, hn, hc, h, d, hd => by
    unfold symL at h
    split at h
    · split at h
      · rename_i a b e r'
        split at h
        · rename_i he
          simp only [Bool.and_eq_true] at he
          obtain ⟨es, h1, h2⟩ := Option.map_eq_some_iff.mp h
          subst h2
          rcases List.mem_cons.mp hd with rfl | hd
          · refine .tuple fun f hf => ?_
            simp only [List.mem_cons, List.not_mem_nil, or_false] at hf
            rcases hf with rfl | rfl | rfl
            · exact .str (by decide +kernel)
            · exact .str (lev_ok he.1.2)
            · exact .str (lev_ok he.2)
          · exact symL_ok n r' es (by simp at hn; omega) (fun z hz => hc z (.tail _ (.tail _ (.tail _ (.tail _ hz))))) h1 d hd
        · cases h
      · cases h
    · split at h
      · rename_i hs
        obtain ⟨es, h1, h2⟩ := Option.map_eq_some_iff.mp h
        subst h2
        rcases List.mem_cons.mp hd with rfl | hd
        · obtain ⟨c, rfl⟩ := hc y (.head _)
          exact .str (sym_ok hs)
        · exact symL_ok n r es (by simpa using hn) (fun z hz => hc z (.tail _ hz)) h1 d hd
      · cases h
theorem thenR_ok_iff {α β : Type} {x : Rd α} {f : α → Rd β} {b : β} (h : thenR x f = .ok b) : ∃ a, x = .ok a ∧ f a = .ok b := by
  cases x with
  | ok a => exact ⟨a, rfl, h⟩
  | error e => cases h
theorem level_ok {al : List Str} {ts r : List (Tk × Int)} {x : Str} (h : levelF al ts = .ok (x, r)) : (al.any fun z => z == x) = true := by
  unfold levelF at h
  split at h
  · split at h
    · cases h; assumption
    · cases h
  · cases h
theorem sym_ds {ts r : List (Tk × Int)} {ds : List Dat} (h : symF ts = .ok (ds, r)) : ∀ d ∈ ds, DOk 1 d := by
  unfold symF at h
  split at h
  · split at h
    · rename_i hs
      cases h
      exact symL_ok _ _ _ (Nat.le_refl _) (chars_one _) hs
    · cases h
  · cases h
theorem stL_ok : ∀ z ∈ stL, PyData.strOk z = true := by decide +kernel
theorem outL_ok : ∀ z ∈ outL, PyData.strOk z = true := by decide +kernel
theorem outF_dok {d st e : Dat} {ts r : List (Tk × Int)} (h1 : DOk 2 d) (h2 : DOk 2 st) (h : outF d st ts = .ok (e, r)) : DOk 3 e := by
  obtain ⟨⟨x, q⟩, e1, h⟩ := thenR_ok_iff h
  obtain ⟨r2, e2, h⟩ := thenR_ok_iff h
  cases h
  refine .tuple fun f hf => ?_
  simp only [List.mem_cons, List.not_mem_nil, or_false] at hf
  rcases hf with rfl | rfl | rfl
  · exact h1
  · exact h2
  · exact .str (any_ok outL_ok (level_ok e1))
theorem oneRow_dok {held : Bool} {e : Dat} {ts r : List (Tk × Int)} (h : oneRow held ts = .ok (e, r)) : DOk 3 e := by
  obtain ⟨⟨ds, q⟩, e1, h⟩ := thenR_ok_iff h
  obtain ⟨r2, e2, h⟩ := thenR_ok_iff h
  have hd : DOk 2 (.tuple ds) := .tuple (sym_ds e1)
  dsimp only at h
  split at h
  · obtain ⟨⟨x, q3⟩, e3, h⟩ := thenR_ok_iff h
    obtain ⟨r4, e4, h⟩ := thenR_ok_iff h
    exact outF_dok hd (.str (any_ok stL_ok (level_ok e3))) h
  · exact outF_dok hd .none h
theorem rowsL_dok {held : Bool} : ∀ {n : Nat} {acc es : List Dat} {ts r : List (Tk × Int)}, (∀ d ∈ acc, DOk 3 d) → rowsL held n acc ts = .ok (es, r) → ∀ d ∈ es, DOk 3 d
  | n + 1, acc, es, ts, r, ha, h => by
    rw [rowsL] at h
    split at h
    · cases h; exact ha
    · obtain ⟨⟨d, q⟩, e1, h⟩ := thenR_ok_iff h
      exact rowsL_dok (fun x hx => by
        rcases List.mem_append.mp hx with hx | hx
        · exact ha x hx
        · rw [List.mem_singleton.mp hx]; exact oneRow_dok e1) h
/-- the kinds of the refusals -/
noncomputable def KOk (e : Str × Int) : Prop := PyData.strOk e.1 = true
theorem b_ok : PyData.strOk "bad_table" = true := by decide +kernel
theorem u_ok : PyData.strOk "unexpected_token" = true := by decide +kernel
theorem thenR_err_iff {α β : Type} {x : Rd α} {f : α → Rd β} {e : Str × Int} (h : thenR x f = .error e) : x = .error e ∨ ∃ a, x = .ok a ∧ f a = .error e := by
  cases x with
  | ok a => exact .inr ⟨a, rfl, h⟩
  | error e => cases h; exact .inl rfl
theorem want_k {x : Str} {ts : List (Tk × Int)} {e : Str × Int} (h : want x ts = .error e) : KOk e := by
  unfold want at h
  split at h
  · cases h
  · cases h; exact u_ok
theorem field_k {ts : List (Tk × Int)} {e : Str × Int} (h : field ts = .error e) : KOk e := by
  unfold field at h
  split at h
  · cases h
  · cases h; exact b_ok
theorem level_k {al : List Str} {ts : List (Tk × Int)} {e : Str × Int} (h : levelF al ts = .error e) : KOk e := by
  unfold levelF at h
  split at h
  · split at h
    · cases h
    · cases h; exact b_ok
  · rename_i h2; cases h; exact field_k h2
theorem symF_k {ts : List (Tk × Int)} {e : Str × Int} (h : symF ts = .error e) : KOk e := by
  unfold symF at h
  split at h
  · split at h
    · cases h
    · cases h; exact b_ok
  · rename_i h2; cases h; exact field_k h2
theorem outF_k {d st : Dat} {ts : List (Tk × Int)} {e : Str × Int} (h : outF d st ts = .error e) : KOk e := by
  rcases thenR_err_iff h with h | ⟨_, _, h⟩
  · exact level_k h
  rcases thenR_err_iff h with h | ⟨_, _, h⟩
  · exact want_k h
  · cases h
theorem oneRow_k {held : Bool} {ts : List (Tk × Int)} {e : Str × Int} (h : oneRow held ts = .error e) : KOk e := by
  rcases thenR_err_iff h with h | ⟨_, _, h⟩
  · exact symF_k h
  rcases thenR_err_iff h with h | ⟨_, _, h⟩
  · exact want_k h
  split at h
  · rcases thenR_err_iff h with h | ⟨_, _, h⟩
    · exact level_k h
    rcases thenR_err_iff h with h | ⟨_, _, h⟩
    · exact want_k h
    · exact outF_k h
  · exact outF_k h
theorem rowsL_k {held : Bool} : ∀ {n : Nat} {acc : List Dat} {ts : List (Tk × Int)} {e : Str × Int}, rowsL held n acc ts = .error e → KOk e
  | 0, acc, ts, e, h => by cases h; exact (by decide +kernel : PyData.strOk "" = true)
  | n + 1, acc, ts, e, h => by
    rw [rowsL] at h
    split at h
    · cases h
    · rcases thenR_err_iff h with h | ⟨_, _, h⟩
      · exact oneRow_k h
      · exact rowsL_k h
theorem hd_ok {toks : List (Tk × Int)} (h : ∀ t ∈ toks, TkOk t.1) : TkOk (hdT toks).1 := by
  rcases toks with _ | ⟨t, r⟩
  · exact .str (by decide +kernel)
  · exact h t (.head _)
theorem cut_sub : ∀ (ts : List (Tk × Int)) (x : Str), ∀ t ∈ (cut x ts).2, t ∈ ts
  | [], _, t, h => h
  | u :: ts, x, t, h => by
    unfold cut at h
    split at h
    · exact h
    · split at h
      · exact .tail _ (cut_sub ts _ t h)
      · exact h
theorem field_sub {ts r : List (Tk × Int)} {x : Str} (h : field ts = .ok (x, r)) : ∀ t ∈ r, t ∈ ts := by
  unfold field at h
  split at h
  · rename_i h2
    cases h
    intro t ht
    exact cut_sub ts "" t (by rw [h2]; exact ht)
  · cases h
theorem level_sub {al : List Str} {ts r : List (Tk × Int)} {x : Str} (h : levelF al ts = .ok (x, r)) : ∀ t ∈ r, t ∈ ts := by
  unfold levelF at h
  split at h
  · rename_i h2
    split at h
    · cases h; exact field_sub h2
    · cases h
  · cases h
theorem symF_sub {ts r : List (Tk × Int)} {ds : List Dat} (h : symF ts = .ok (ds, r)) : ∀ t ∈ r, t ∈ ts := by
  unfold symF at h
  split at h
  · rename_i h2
    split at h
    · cases h; exact field_sub h2
    · cases h
  · cases h
theorem want_sub {x : Str} {ts r : List (Tk × Int)} (h : want x ts = .ok r) : ∀ t ∈ r, t ∈ ts := by
  unfold want at h
  split at h
  · cases h; exact fun t ht => List.mem_of_mem_tail ht
  · cases h
theorem outF_sub {d st e : Dat} {ts r : List (Tk × Int)} (h : outF d st ts = .ok (e, r)) : ∀ t ∈ r, t ∈ ts := by
  obtain ⟨⟨x, q⟩, e1, h⟩ := thenR_ok_iff h
  obtain ⟨r2, e2, h⟩ := thenR_ok_iff h
  cases h
  exact fun t ht => level_sub e1 t (want_sub e2 t ht)
theorem oneRow_sub {held : Bool} {e : Dat} {ts r : List (Tk × Int)} (h : oneRow held ts = .ok (e, r)) : ∀ t ∈ r, t ∈ ts := by
  obtain ⟨⟨ds, q⟩, e1, h⟩ := thenR_ok_iff h
  obtain ⟨r2, e2, h⟩ := thenR_ok_iff h
  intro t ht
  refine symF_sub e1 t (want_sub e2 t ?_)
  dsimp only at h
  split at h
  · obtain ⟨⟨x, q3⟩, e3, h⟩ := thenR_ok_iff h
    obtain ⟨r4, e4, h⟩ := thenR_ok_iff h
    exact level_sub e3 t (want_sub e4 t (outF_sub h t ht))
  · exact outF_sub h t ht
theorem rowsL_sub {held : Bool} : ∀ {n : Nat} {acc es : List Dat} {ts r : List (Tk × Int)}, rowsL held n acc ts = .ok (es, r) → ∀ t ∈ r, t ∈ ts
  | 0, acc, es, ts, r, h => by cases h
  | n + 1, acc, es, ts, r, h => by
    rw [rowsL] at h
    split at h
    · cases h; exact fun t ht => List.mem_of_mem_tail ht
    · obtain ⟨⟨d, q⟩, e1, h⟩ := thenR_ok_iff h
      exact fun t ht => oneRow_sub e1 t (rowsL_sub h t ht)
theorem tableL_sub {held : Bool} {es : List Dat} {ts r : List (Tk × Int)} (h : tableL held ts = .ok (es, r)) : ∀ t ∈ r, t ∈ ts := by
  unfold tableL at h
  split at h
  · obtain ⟨⟨ds, q⟩, e1, h⟩ := thenR_ok_iff h
    dsimp only at h
    split at h
    · cases h
      exact fun t ht => List.mem_of_mem_tail (rowsL_sub e1 t (List.mem_of_mem_tail ht))
    · cases h
  · cases h
/-- the law's data can be compared -/
theorem outD_dok {held : Bool} {toks : List (Tk × Int)} (hO : ∀ t ∈ toks, TkOk t.1) : DOk 5 (outD (tableL held toks)) := by
  rcases h : tableL held toks with e | ⟨rs, r⟩
  · refine .tuple fun f hf => ?_
    simp only [List.mem_cons, List.not_mem_nil, or_false] at hf
    rcases hf with rfl | rfl
    · unfold tableL at h
      split at h
      · rcases thenR_err_iff h with h | ⟨_, _, h⟩
        · exact .str (rowsL_k h)
        · split at h
          · cases h
          · cases h; exact .str u_ok
      · cases h; exact .str u_ok
    · exact .int
  · have hk := hd_ok fun t ht => hO t (tableL_sub h t ht)
    unfold tableL at h
    split at h
    · obtain ⟨⟨ds, q⟩, e1, h⟩ := thenR_ok_iff h
      dsimp only at h
      split at h
      · cases h
        refine .tuple fun f hf => ?_
        simp only [List.mem_cons, List.not_mem_nil, or_false] at hf
        rcases hf with rfl | rfl | rfl
        · exact .str (by decide +kernel)
        · exact .tuple (rowsL_dok (acc := []) (fun _ h => nomatch h) e1)
        · refine DOk.up (n := 2) (.tuple fun f hf => ?_) (by decide)
          simp only [List.mem_cons, List.not_mem_nil, or_false] at hf
          rcases hf with rfl | rfl | rfl
          · exact .str (kind_ok _)
          · exact hk
          · exact .int
      · cases h
    · cases h
end
section
open PyProof.Rows.LCg PyProof.Rows.LCp PySem.Spec
section
variable {prog : Program} {w : World} {A : Around} {E : Value → Shared → Prop} {s : Shared} {h₀ : Heap} {L : Addr} {m : Str → Option Value} {env : Env} {σ : Type}
/-- the end of an element of a comprehension with a state -/
noncomputable def El3 (h₀ : Heap) (L : Addr) (m : Str → Option Value) (Led : σ → List (Addr × Obj)) (J : Nat → List Value → σ → Prop) (i : Nat) (ys : List Value) (I : Addr) (oI : Obj) (C : Addr) (oC : Obj) (D : Addr) (s : Shared) (y : Value) (s₄ : Shared) : Prop :=
  ∃ c' h' tk', s₄ = { s with heap := h', toks := tk' } ∧ Fr h₀ L h' m ∧ News h₀ L h' ((I, oI) :: (C, oC) :: (D, lst ys) :: Led c') ∧ (∀ p ∈ Led c', p.1 ≠ I ∧ p.1 ≠ C ∧ p.1 ≠ D) ∧ J (i + 1) (ys ++ [y]) c'
theorem comp3 {elt iter : PySem.Expr} {x y z : Str} {px py pz tp : Pos} {kk : Nat} {scope : Scope} {cl : List (Str × Addr)} {pos : Pos} {l : Addr} {rows : List Value} {nn : Nat} {Q : Value → Shared → Prop}
    (Led : σ → List (Addr × Obj)) (J : Nat → List Value → σ → Prop) (c₀ : σ)
    (hh : A.handled = none) (hclos : closureFor scope env = pure cl) (hcell : ∀ y ∈ scope.names, y.2 ≠ .cell) (hkind : scope.kind = .function)
    (hnames : ∀ y ∈ scope.names, y.2 = .local → scope.names.lookup y.1 = some .local) (hx : scope.names.lookup x = some .local) (hy : scope.names.lookup y = some .local) (hz : scope.names.lookup z = some .local) (hxy : x ≠ y) (hxz : x ≠ z) (hyz : y ≠ z)
    (hl : ∀ c, (l, listOf rows.toArray nn) ∈ Led c) (hsz : rows.length ≤ sizeLine) (hJ : J 0 [] c₀)
    (hit : wpAny (model prog w) A (eval iter env) (fun v s₁ => v = .ref l ∧ s₁ = s) E s) (F : Fr h₀ L s.heap m) (N : News h₀ L s.heap (Led c₀))
    (turn : ∀ (c : σ) (i : Nat) (ys : List Value) v, rows[i]? = some v → J i ys c → ys.length = i →
      ∃ t nt v₁ v₂ v₃, v = .ref t ∧ (t, ({ cls := .type "tuple", data := .seq #[v₁, v₂, v₃] nt } : Obj)) ∈ Led c ∧ ∀ I oI C oC D h tk (E' : Value → Shared → Prop) (m₂ : Str → Option Value), NsObj oC m₂ → m₂ x = some v₁ → m₂ y = some v₂ → m₂ z = some v₃ → Fr h₀ L h m → News h₀ L h ((I, oI) :: (C, oC) :: (D, lst ys) :: Led c) →
        (∀ p ∈ Led c, p.1 ≠ I ∧ p.1 ≠ C ∧ p.1 ≠ D) → ((@Ne Nat I C) ∧ (@Ne Nat I D) ∧ (@Ne Nat C D)) →
        wpAny (model prog w) A (eval elt (compEnvC scope cl C env)) (El3 h₀ L m Led J i ys I oI C oC D { s with heap := h, toks := tk }) E' { s with heap := h, toks := tk })
    (done : ∀ c D h tk ys, J rows.length ys c → Fr h₀ L h m → News h₀ L h ((D, lst ys) :: Led c) → (∀ p ∈ Led c, p.1 ≠ D) → Q (.ref D) { s with heap := h, toks := tk })
    (hs : ∀ x, foldedSetIterable iter env x = pure x := by intro _; rfl) :
    wpAny (model prog w) A (eval (.ListComp elt [⟨.Tuple [.Name x px, .Name y py, .Name z pz] kk tp, iter, [], 0⟩] scope pos) env) Q E s := by
  rw [eval_ListComp]
  refine wpAny_comprehension_free (use := none) rfl hs hclos hkind hnames (wpAny_mono hit (fun xv s₁ h₁ => ?_) fun _ _ e => e)
  obtain ⟨rfl, rfl⟩ := h₁
  have hlL : s₁.heap.IsList l rows.toArray := ⟨_, (N _ (hl c₀)).1, rfl, nn, rfl⟩
  have hlt : l < s₁.heap.objs.size := Heap.lt_size (N _ (hl c₀)).1
  refine wpAny_pyIter_list hlL ?_
  have up : ∀ b o, s₁.heap.get? b = some o → (s₁.heap.push { cls := .type "list_iterator", data := .fields #[.ref l, .int 0 0] }).get? b = some o := fun b o e => Heap.get?_push_of_some _ e
  have F' := F.keeps up
  have N' : News h₀ L _ (Led c₀) := N.grown up
  have hIs : (s₁.heap.push { cls := .type "list_iterator", data := .fields #[.ref l, .int 0 0] }).get? s₁.heap.objs.size = some { cls := .type "list_iterator", data := .fields #[.ref l, .int 0 0] } := Heap.get?_push_size _ rfl
  have hIL : L ≠ s₁.heap.objs.size := Nat.ne_of_lt F.ns.lt
  have hI₀ : h₀.get? s₁.heap.objs.size = none := next_is_new F
  have hIl : l ≠ s₁.heap.objs.size := Nat.ne_of_lt hlt
  have offI : ∀ p ∈ Led c₀, p.1 ≠ s₁.heap.objs.size := fun p hp => Nat.ne_of_lt (Heap.lt_size (N p hp).1)
  have hbelow : ∀ p ∈ Led c₀, p.1 < (s₁.heap.push { cls := .type "list_iterator", data := .fields #[.ref l, .int 0 0] }).objs.size := fun p hp => Heap.lt_size (N' p hp).1
  have hIlt := Heap.lt_size hIs
  generalize s₁.heap.push { cls := .type "list_iterator", data := .fields #[.ref l, .int 0 0] } = g at F' N' hIs hbelow hIlt ⊢
  generalize s₁.heap.objs.size = I at hIs hIL hI₀ hIl offI hIlt ⊢
  clear up F hlL hlt hit
  have W := Walks.list (prog := prog) (w := w) hh I l hIl rows.toArray
  refine wpAny_newObj_type (wpAny_newFunctionEnv hcell (by intro y hy; simp at hy) (fun h₁ hns₁ hsb₁ => ?_) hkind)
  dsimp only at hns₁ hsb₁ ⊢
  have hD0 : (g.push { cls := .type "list", dict := none, data := .seq ([] : List Value).toArray }).get? g.objs.size = some (lst []) := Heap.get?_push_size _ rfl
  have up1 : ∀ b o, g.get? b = some o → (g.push { cls := .type "list", dict := none, data := .seq ([] : List Value).toArray }).get? b = some o := fun b o e => Heap.get?_push_of_some _ e
  have hCs : (g.push { cls := .type "list", dict := none, data := .seq ([] : List Value).toArray }).objs.size = g.objs.size + 1 := by rw [Heap.size_push]
  generalize g.push { cls := .type "list", dict := none, data := .seq ([] : List Value).toArray } = g2 at hns₁ hsb₁ hD0 up1 hCs ⊢
  have hDlt := Heap.lt_size hD0
  have old : ∀ b o, g.get? b = some o → h₁.get? b = some o := fun b o e => hsb₁.extBut b o (Nat.ne_of_lt (Heap.lt_size (up1 b o e))) (Heap.get?_push_of_some _ (up1 b o e))
  have hacc : h₁.get? g.objs.size = some (lst []) := hsb₁.extBut _ _ (Nat.ne_of_lt hDlt) (Heap.get?_push_of_some _ hD0)
  have hLg : L < g.objs.size := F'.ns.lt
  have hDL : g.objs.size ≠ L := Nat.ne_of_gt hLg
  have hCL : g2.objs.size ≠ L := Nat.ne_of_gt (Nat.lt_trans hLg hDlt)
  have hDI : I ≠ g.objs.size := Nat.ne_of_lt hIlt
  have hCI : I ≠ g2.objs.size := Nat.ne_of_lt (Nat.lt_trans hIlt hDlt)
  have hDC : g.objs.size ≠ g2.objs.size := Nat.ne_of_lt hDlt
  have hle₀ : ∀ a, g.objs.size ≤ a → h₀.get? a = none := fun a ha => by
    cases e : h₀.get? a with
    | none => rfl
    | some o' => exact absurd (Heap.lt_size (F'.keep a o' e)) (Nat.not_lt.mpr ha)
  have hD₀ : h₀.get? g.objs.size = none := hle₀ _ (Nat.le_refl _)
  have hC₀ : h₀.get? g2.objs.size = none := hle₀ _ (Nat.le_of_lt hDlt)
  have hlC : l ≠ g2.objs.size := Nat.ne_of_lt (Nat.lt_trans (hbelow _ (hl c₀)) hDlt)
  have hlD : l ≠ g.objs.size := Nat.ne_of_lt (hbelow _ (hl c₀))
  have off₀ : ∀ p ∈ Led c₀, p.1 ≠ I ∧ p.1 ≠ g2.objs.size ∧ p.1 ≠ g.objs.size := fun p hp => ⟨offI p hp, Nat.ne_of_lt (Nat.lt_trans (hbelow p hp) hDlt), Nat.ne_of_lt (hbelow p hp)⟩
  generalize hC : g2.objs.size = C at *
  generalize hD : g.objs.size = D at *
  have stI : ∀ {h : Heap} {i : Nat} {c}, h.IsListIter I l i → News h₀ L h (Led c) → (h.IsListIter I l i ∧ h.IsList l rows.toArray) := fun a b => ⟨a, ⟨_, (b _ (hl _)).1, rfl, nn, rfl⟩⟩
  have loop : ∀ s₃ : Shared, s₃ = { s₁ with heap := h₁, toks := s₁.toks + ([] : List (Str × Value)).length } →
      codeAny (model prog w) A (.compLoop (.ListComp elt [⟨.Tuple [.Name x px, .Name y py, .Name z pz] kk tp, iter, [], 0⟩] scope pos) 0 (.ref I) (.ref D) (compEnvC scope cl C env))
        (compPost (model prog w) A E none Q (.ref D) C) s₃ := by
    rintro s₃ rfl
    refine codeAny_compLoop_pair
      (fun k s' => ∃ h' tk i ys m' c, s' = { s₁ with heap := h', toks := tk } ∧ i ≤ rows.length ∧ k = rows.length + 1 - i ∧ ys.length = i ∧ h'.IsListIter I l i ∧ Fr h₀ L h' m ∧ h'.Ns C m' ∧ News h₀ L h' ((D, lst ys) :: Led c) ∧
        (∀ p ∈ Led c, p.1 ≠ I ∧ p.1 ≠ C ∧ p.1 ≠ D) ∧ J i ys c) ?_ (rows.length + 1)
      ⟨h₁, _, 0, [], _, c₀, rfl, Nat.zero_le _, rfl, rfl, ⟨_, old _ _ hIs, rfl, rfl⟩, F'.keeps old, hns₁, fun p hp => ?_, off₀, hJ⟩
    · rintro k s' ⟨h', tk, i, ys, m', c, rfl, hi, rfl, hyl, hit', F1, hn', N1, off1, hJ'⟩
      have N1' : News h₀ L h' (Led c) := fun p hp => N1 p (.tail _ hp)
      have hst' := stI hit' N1'
      by_cases hlt : i < rows.length
      · refine W.item i _ _ _ (by simpa using hlt) hst' fun v h₂ tk₂ hPv hst₂ hk₂ => ?_
        obtain ⟨t, nt, v₁, v₂, v₃, rfl, hmt, R⟩ := turn c i ys v (by simpa using hPv) hJ' hyl
        have N₂ : News h₀ L h₂ ((D, lst ys) :: Led c) := news_but N1 hk₂ fun p hp => by
          rcases List.mem_cons.mp hp with rfl | hp
          · exact Ne.symm hDI
          · exact (off1 p hp).1
        have ht : IsTup h₂ t #[v₁, v₂, v₃] := ⟨_, (N₂ _ (.tail _ hmt)).1, rfl, nt, rfl⟩
        refine wpAny_letOwnedTupleGo_listiter hst₂.1 ?_
        refine assign_Tuple_tuple hh ht rfl rfl fun h₅ he => ?_
        have he' : ∀ b o, h₂.get? b = some o → h₅.get? b = some o := fun b o e => he b o (Nat.ne_of_lt (Heap.lt_size e)) e
        refine assignInOrder_cons (wpAny_assign_Name (wpAny_storeName_local (lookup_relabel_local hx) ((hn'.at' fun o e => hk₂ _ o (by simpa using Ne.symm hCI) e).at' fun o e => he' _ o e) (fun h₆ hn₆ hs₆ => ?_) (by simp [compEnvC, relabel, hkind])))
        refine assignInOrder_cons (wpAny_assign_Name (wpAny_storeName_local (lookup_relabel_local hy) hn₆ (fun h₇ hn₇ hs₇ => ?_) (by simp [compEnvC, relabel, hkind])))
        refine assignInOrder_cons (wpAny_assign_Name (wpAny_storeName_local (lookup_relabel_local hz) hn₇ (fun h₃ hn₃ hs₃ => ?_) (by simp [compEnvC, relabel, hkind])))
        refine assignInOrder_nil ?_
        have old3 : ∀ b o, b ≠ C → h₂.get? b = some o → h₃.get? b = some o := fun b o hb e => hs₃.extBut b o hb (hs₇.extBut b o hb (hs₆.extBut b o hb (he' b o e)))
        obtain ⟨oI, heI, hIr⟩ := hst₂.1
        have heI3 := old3 _ _ hCI heI
        obtain ⟨oC, heC, hoC⟩ := ns_obj hn₃
        have F₃ : Fr h₀ L h₃ m := ((((fr_but F1 hk₂ hIL hI₀).keeps he').change hs₆ hCL hC₀).change hs₇ hCL hC₀).change hs₃ hCL hC₀
        have N₃ : News h₀ L h₃ ((I, oI) :: (C, oC) :: (D, lst ys) :: Led c) := fun p hp => by
          rcases List.mem_cons.mp hp with rfl | hp
          · exact ⟨heI3, Ne.symm hIL, hI₀⟩
          · rcases List.mem_cons.mp hp with rfl | hp
            · exact ⟨heC, hCL, hC₀⟩
            · have z := N₂ p hp
              refine ⟨old3 _ _ ?_ z.1, z.2⟩
              rcases List.mem_cons.mp hp with rfl | hp
              · exact hDC
              · exact (off1 p hp).2.1
        refine wpAny_mono (R I oI C oC D h₃ _ _ _ hoC (by simp [hxy, hxz]) (by simp [hyz]) (by simp) F₃ N₃ off1 ⟨hCI, hDI, Ne.symm hDC⟩) (fun yv s₄ h₄ => ?_) fun _ _ e => e
        obtain ⟨c', h₄, tk₄, rfl, F₄, N₄, off₄, hJ₄⟩ := h₄
        have zI := (N₄ (I, oI) (.head _)).1
        have zC := (N₄ (C, oC) (.tail _ (.head _))).1
        have zD := (N₄ (D, lst ys) (.tail _ (.tail _ (.head _)))).1
        refine append_at (hsz := by show ys.toArray.size ≤ sizeLine; rw [List.size_toArray, hyl]; exact Nat.le_trans hi hsz) zD fun h₅ hs₅ hD₅ => ?_
        refine ⟨rows.length + 1 - (i + 1), by omega, h₅, tk₄, i + 1, ys ++ [yv], _, c', rfl, hlt, rfl, by rw [List.length_append, List.length_singleton, hyl], ⟨oI, hs₅.extBut _ _ hDI zI, hIr⟩, F₄.change hs₅ hDL hD₀, (hoC.ns zC).sameBut hs₅ (Ne.symm hDC), fun p hp => ?_, off₄, hJ₄⟩
        rcases List.mem_cons.mp hp with rfl | hp
        · exact ⟨hD₅.trans (congrArg some (lst_snoc ys yv)), hDL, hD₀⟩
        · have z := N₄ p (.tail _ (.tail _ (.tail _ hp)))
          exact ⟨hs₅.extBut _ _ (off₄ p hp).2.2 z.1, z.2⟩
      · obtain rfl : i = rows.length := Nat.le_antisymm hi (Nat.not_lt.mp hlt)
        refine W.done _ _ _ (by simpa using hst') fun h₂ tk₂ hk₂ => ?_
        have F2 := fr_but F1 hk₂ hIL hI₀
        have N2 : News h₀ L h₂ ((D, lst ys) :: Led c) := news_but N1 hk₂ fun p hp => by
          rcases List.mem_cons.mp hp with rfl | hp
          · exact Ne.symm hDI
          · exact (off1 p hp).1
        refine ⟨_, hn'.at' fun o e => hk₂ _ o (by simpa using Ne.symm hCI) e, fun h'' hs'' => done c D h'' tk₂ ys hJ' (F2.change hs'' hCL hC₀) (fun p hp => ?_) fun p hp => (off1 p hp).2.2⟩
        refine ⟨hs''.extBut _ _ ?_ (N2 p hp).1, (N2 p hp).2⟩
        rcases List.mem_cons.mp hp with rfl | hp
        · exact hDC
        · exact (off1 p hp).2.1
    · rcases List.mem_cons.mp hp with rfl | hp
      · exact ⟨hacc, hDL, hD₀⟩
      · exact ⟨old _ _ (N' p hp).1, (N' p hp).2⟩
  exact codeAny_compStart_list (loop _ rfl) (W.self 0 _ _ _ (stI ⟨_, old _ _ hIs, rfl, rfl⟩ (fun p hp => ⟨old _ _ (N' p hp).1, (N' p hp).2⟩)) (loop _ rfl))
end
end
section
open Builtin Builtin.ObjectAttr
set_option maxHeartbeats 4000000
theorem exc_get {w : World} {A : Around} {Q : Value → Shared → Prop} {E : Value → Shared → Prop} {hh : Heap} {g : Array GenState} {d : Drawn} {t : Nat} {os : OsState} {e : Addr} {ox : Obj} {od : Option Obj} {name : Str} {v : Value} (X : (hd.heap_39 w.params).In hh)
  (I : InstAt hh e ox 73 od) (hf : findObj (hd.heap_39 w.params) 73 od name = some (.value v)) (hv : handedIn v = true) (h : Q v ⟨hh, g, d, t + 1, os⟩) :
  wpAny (model PySem.Challenge.rw_sj0031_01.row.prog w) A (getAttr (.ref e) name true) Q E ⟨hh, g, d, t, os⟩ := by
  have L0 : Looks (model PySem.Challenge.rw_sj0031_01.row.prog w) hh (typeOf (.ref e)) (.ref 73) := I.type
  have L1 : Looks (model PySem.Challenge.rw_sj0031_01.row.prog w) hh (typeLookup (.ref 73) "__getattribute__") (some (.builtin "BaseException.__getattribute__")) := looks_findIn X (by k_is)
  have L2 : Looks (model PySem.Challenge.rw_sj0031_01.row.prog w) hh (typeLookup (.ref 73) "__getattr__") none := looks_findIn X (by k_is)
  have L3 := looks_find (M := model PySem.Challenge.rw_sj0031_01.row.prog w) X I hf
  have sub : Looks (model PySem.Challenge.rw_sj0031_01.row.prog w) hh (isInstance (.ref e) (.type "BaseException")) true := I.type.andThen (Looks.of_peek X (by kernel_rfl))
  have hx1 : (onTheHeap (.ref 73) && (Value.builtin "BaseException.__getattribute__" == Value.builtin "object.__getattribute__")) = false := by decide +kernel
  have hb := PySem.F.attr_TypeError.ga.bind (.ref e)
  have hk : builtinKind "BaseException.__getattribute__" = some .slot := by decide +kernel
  have hsplit : splitId "BaseException.__getattribute__" = some ("BaseException", "__getattribute__") := by decide +kernel
  unfold getAttr
  refine wpAny_bind (wpAny_mkText ?_)
  unfold getAttrBy
  refine wpAny_holding (wpAny_bind (L0.at (wpAny_bind (L1.at ?_))))
  dsimp only
  rw [hx1]
  show wpAny _ _ (getAttrByItsOwn _ _ _ _ _ _) _ _ _
  unfold getAttrByItsOwn hookBefore
  refine wpAny_bind ?_
  show wpAny _ _ (typeLookup (.ref 73) "__getattr__") _ _ _
  refine L2.at ?_
  refine wpAny_bind (wpAny_attempt ?_)
  refine wpAny_holding ?_
  unfold callGetattribute
  show wpAny _ _ (boundAndCalled _ _ _) _ _ _
  unfold boundAndCalled
  rw [hb]
  refine wpAny_bind (wpAny_pure ?_)
  dsimp only
  refine wpAny_call ?_
  refine codeAny_call_builtin (by decide +kernel) PySem.F.entry_bexc_ga (@check_slot (model PySem.Challenge.rw_sj0031_01.row.prog w) _ _ _ "BaseException.__getattribute__" "BaseException" "__getattribute__" (.ref e) [.str name t] [] _ hk hsplit sub (PySem.F.args_bexc_ga (.ref e) (.str name t)) ?_)
  unfold Builtin.«object.__getattribute__»
  refine wpAny_bind (wpAny_pure (a := (Value.ref e, [Value.str name t])) ?_)
  dsimp only
  refine wpAny_bind (wpAny_pure (a := name) ?_)
  refine wpAny_bind (L0.at (wpAny_bind (L3.at ?_)))
  dsimp only
  refine wpAny_pure ?_
  show wpAny _ _ (handedOut v) _ _ _
  rw [handedOut_of hv]
  exact wpAny_pure h
theorem exc_getD {w : World} {A : Around} {Q : Value → Shared → Prop} {E : Value → Shared → Prop} {s : Shared} {e : Addr} {ox : Obj} {es : List DictEntry} {n : Nat} {name : Str} {v : Value} {attr : Option Value} (X : (hd.heap_39 w.params).In s.heap)
  (I : InstAt s.heap e ox 73 (some (dictOf es n))) (hh : hasDictIn (hd.heap_39 w.params) 73 = true) (ha : findIn (hd.heap_39 w.params) (.ref 73) name = some attr) (hn : noGet (hd.heap_39 w.params) attr = true) (hl : getL name es = some (some v)) (hv : handedIn v = true) (h : Q v { s with toks := s.toks + 1 }) :
  wpAny (model PySem.Challenge.rw_sj0031_01.row.prog w) A (getAttr (.ref e) name true) Q E s := exc_get X I (findObj_own hh ha hn hl) hv h
end
section
structure RgS where
  vs : List Value
  n : Nat
  tl : List (Addr × Obj)
noncomputable abbrev rgLed (lW : Addr) (cst : List (Addr × Obj)) (c : RgS) : List (Addr × Obj) := (lW, listOf c.vs.toArray c.n) :: (c.tl ++ cst)
structure RgJ (xs : List Str) (lW : Addr) (cst : List (Addr × Obj)) (i : Nat) (c : RgS) : Prop where
  d : DatAll (c.tl ++ cst) c.vs ((toksOf 0 (xs.take i)).map rowD)
  l : c.vs.length = i
  o1 : ∀ q ∈ c.tl, q.1 ≠ lW
noncomputable abbrev tokT (x : Str) (i : Nat) (kk tm : Tok) (v : Value) (n : Nat) : Obj := { cls := .type "tuple", data := .seq #[.str (tokOf x).kind kk, v, .int (5 + 2 * (i : Int)) tm] n }
theorem rg_end {xs : List Str} {lW D2 : Addr} {n i n2 : Nat} {vr : List Value} {tl tl' rest own : List (Addr × Obj)} {kk tm : Tok} {v' : Value} {x : Str} {oW : Obj} {h₀ h' : Heap} {L : Addr} {m' m₀ : Str → Option Value} {s : Shared} {tk : Nat}
    (F : Fr h₀ L h' m') (N : News h₀ L h' ((lW, listOf (vr ++ [Value.ref D2]).toArray (n + 1)) :: (((D2, tokT x i kk tm v' n2) :: (tl' ++ tl)) ++ (rest ++ own))))
    (d : DatIn tl' v' (tokOf x).val) (j1 : DatAll (tl ++ rest) vr ((toksOf 0 (xs.take i)).map rowD)) (j2 : vr.length = i) (hx : xs[i]? = some x)
    (off : ∀ q ∈ ((D2, tokT x i kk tm v' n2) :: (tl' ++ tl)) ++ (rest ++ own), q.1 ≠ lW) (hoff : OwnOff own (((lW, oW) :: (tl ++ rest)).map (·.1)))
    (l2 : ∀ q ∈ own, @LT.lt Nat _ q.1 D2) (f2 : ∀ q ∈ own, ∀ p ∈ tl', @LT.lt Nat _ q.1 p.1)
    (hr : ∀ z, z ≠ ("k" : Str) → z ≠ ("kind" : Str) → z ≠ ("value" : Str) → m' z = m₀ z) :
    StEnd h₀ L "k" (rgLed lW rest) (fun _ => []) ["kind", "value"] m₀ (RgJ xs lW rest (i + 1)) own s { s with heap := h', toks := tk } := by
  refine ⟨⟨vr ++ [Value.ref D2], n + 1, (D2, tokT x i kk tm v' n2) :: (tl' ++ tl)⟩, _, _, _, _, rfl, F, N, fun q hq => ?_, fun q hq => .tail _ (List.mem_append_right _ (List.mem_append_right _ hq)), fun q hq b hb => ?_, (fun _ h => nomatch h), fun z h1 h2 _ => ?_, ⟨?_, ?_, fun q hq => off q (List.mem_append_left _ hq)⟩⟩
  · rcases List.mem_cons.mp hq with rfl | hq
    · exact .head _
    rcases List.mem_append.mp hq with hq | hq
    · exact .tail _ (List.mem_append_left _ hq)
    · exact .tail _ (List.mem_append_right _ (List.mem_append_left _ hq))
  · obtain ⟨z, hz, rfl⟩ := List.mem_map.mp hb
    rcases List.mem_cons.mp hz with rfl | hz
    · exact hoff q hq _ (List.mem_map.mpr ⟨_, .head _, rfl⟩)
    rcases List.mem_append.mp hz with hz | hz
    · rcases List.mem_cons.mp hz with rfl | hz
      · exact Nat.ne_of_lt (l2 q hq)
      rcases List.mem_append.mp hz with hz | hz
      · exact Nat.ne_of_lt (f2 q hq z hz)
      · exact hoff q hq _ (List.mem_map.mpr ⟨z, .tail _ (List.mem_append_left _ hz), rfl⟩)
    · exact hoff q hq _ (List.mem_map.mpr ⟨z, .tail _ (List.mem_append_right _ hz), rfl⟩)
  · have h5 : z ≠ ("kind" : Str) ∧ z ≠ ("value" : Str) := by simpa using h2
    exact hr z h1 h5.1 h5.2
  · show DatAll (((D2, tokT x i kk tm v' n2) :: (tl' ++ tl)) ++ rest) (vr ++ [Value.ref D2]) _
    rw [toksOf_take hx, List.map_append]
    refine DatAll.append (j1.mono fun q hq => .tail _ ?_) (.cons (.tuple (vs := [.str (tokOf x).kind kk, v', .int (5 + 2 * (i : Int)) tm]) (.head _) (.cons (.str _ _) (.cons (d.mono fun q hq => .tail _ (List.mem_append_left _ (List.mem_append_left _ hq))) (.cons (.int _ _) .nil)))) .nil)
    rcases List.mem_append.mp hq with hq | hq
    · exact List.mem_append_left _ (List.mem_append_right _ hq)
    · exact List.mem_append_right _ hq
  · show (vr ++ [_]).length = i + 1
    rw [List.length_append, j2]; rfl
theorem below_turn {A : Around} {base g g' : Heap} {l : List Env} (B : Below A base l g) (T : KtsTurn (l.filterMap (·.frame)) g g') : Below A base l g' :=
  ⟨B.stack, fun b o e => T.other b o (B.stays b o e) (fun hm => by have := (B.frames.mem hm).1; rw [this] at e; cases e), B.frames.of_keeps fun b o hb _ => by
    by_cases hm : b ∈ l.filterMap (·.frame)
    · obtain ⟨sl, hs⟩ := T.frame b o hb hm
      exact ⟨_, hs, rfl⟩
    · exact ⟨o, T.other b o hb hm, rfl⟩⟩
theorem fr_hide {g h : Heap} {L Lw : Addr} {m : Str → Option Value} (F : Fr g L h m) : Fr (hideAll g [Lw]) L h m := ⟨F.ns, fun b o e => F.keep b o (of_hideAll _ e), by rw [hideAll_size]; exact F.above⟩
theorem exc_inst {g h : Heap} {L e dx : Addr} {oe od : Obj} {led : List (Addr × Obj)} (N : News g L h led) (hc : oe.cls = .ref 73 ∧ oe.dict = some dx) (hf : ∃ vs, oe.data = .fields vs) (m1 : (e, oe) ∈ led) (m2 : (dx, od) ∈ led) : InstAt h e oe 73 (some od) := by
  obtain ⟨vs, hf⟩ := hf
  refine ⟨(N _ m1).1, hc.1, by simp [notCls, hf], ?_⟩
  rw [hc.2]; exact (N _ m2).1
structure CpS where
  refs : List Addr
  tl : List (Addr × Obj)
noncomputable abbrev cpLed (led0 : List (Addr × Obj)) (c : CpS) : List (Addr × Obj) := c.tl ++ led0
noncomputable def CpJ (toks : List (Tk × Int)) (led0 : List (Addr × Obj)) (i : Nat) (ys : List Value) (c : CpS) : Prop := ys = c.refs.map Value.ref ∧ ToksAt (c.tl ++ led0) c.refs (toks.take i)
theorem ToksAt.snoc {led : List (Addr × Obj)} {xs : List Addr} {ts : List (Tk × Int)} {x : Addr} {t : Tk × Int} (h : ToksAt led xs ts) (ht : TokAt led x t) : ToksAt led (xs ++ [x]) (ts ++ [t]) := by
  induction h with
  | nil => exact .cons ht .nil
  | cons h _ ih => exact .cons h ih
theorem cp_next {toks : List (Tk × Int)} {led0 : List (Addr × Obj)} {i : Nat} {ys : List Value} {c : CpS} {x d : Addr} {k : Nat → Int × Tok} {kk ta : Tok} {v : Value} {t : Tk × Int} (h : CpJ toks led0 i ys c) (ht : toks[i]? = some t) (hv : DatIn led0 v t.1.val) :
    CpJ toks led0 (i + 1) (ys ++ [.ref x]) ⟨c.refs ++ [x], (x, instObj 92 d) :: (d, tokObj k t.1.kind kk v t.2 ta) :: c.tl⟩ := by
  obtain ⟨rfl, h2⟩ := h
  obtain ⟨hi, rfl⟩ := List.getElem?_eq_some_iff.mp ht
  refine ⟨by simp, ?_⟩
  rw [List.take_succ_eq_append_getElem hi]
  exact (h2.mono fun q hq => .tail _ (.tail _ hq)).snoc ⟨d, k, kk, v, ta, .head _, .tail _ (.head _), hv.mono fun q hq => .tail _ (.tail _ (List.mem_append_right _ hq))⟩
theorem cp_end {g h' : Heap} {L x d I C D : Addr} {oI oC : Obj} {ys : List Value} {m : Str → Option Value} {toks : List (Tk × Int)} {led0 tlc : List (Addr × Obj)} {refs : List Addr} {i tk : Nat} {k : Nat → Int × Tok} {kk ta : Tok} {v : Value} {t : Tk × Int} {s : Shared}
    (F : Fr g L h' m) (N : News g L h' ((x, instObj 92 d) :: (d, tokObj k t.1.kind kk v t.2 ta) :: (I, oI) :: (C, oC) :: (D, LCg.lst ys) :: (tlc ++ led0))) (l1 : ∀ q ∈ (I, oI) :: (C, oC) :: (D, LCg.lst ys) :: (tlc ++ led0), @LT.lt Nat _ q.1 d) (l2 : @LT.lt Nat _ d x)
    (off : ∀ p ∈ tlc ++ led0, p.1 ≠ I ∧ p.1 ≠ C ∧ p.1 ≠ D) (h : CpJ toks led0 i ys ⟨refs, tlc⟩) (ht : toks[i]? = some t) (hv : DatIn led0 v t.1.val) :
    El3 g L m (cpLed led0) (CpJ toks led0) i ys I oI C oC D s (.ref x) { s with heap := h', toks := tk } := by
  refine ⟨⟨refs ++ [x], (x, instObj 92 d) :: (d, tokObj k t.1.kind kk v t.2 ta) :: tlc⟩, _, _, rfl, F, fun q hq => N q ?_, fun q hq => ?_, cp_next h ht hv⟩
  · replace hq : q ∈ (I, oI) :: (C, oC) :: (D, LCg.lst ys) :: (x, instObj 92 d) :: (d, tokObj k t.1.kind kk v t.2 ta) :: (tlc ++ led0) := hq
    simp only [List.mem_cons] at hq ⊢
    rcases hq with h | h | h | h | h | h <;> simp [h]
  · replace hq : q ∈ (x, instObj 92 d) :: (d, tokObj k t.1.kind kk v t.2 ta) :: (tlc ++ led0) := hq
    have dI := l1 _ (.head _)
    have dC := l1 _ (.tail _ (.head _))
    have dD := l1 _ (.tail _ (.tail _ (.head _)))
    rcases List.mem_cons.mp hq with rfl | hq
    · exact ⟨Nat.ne_of_gt (Nat.lt_trans dI l2), Nat.ne_of_gt (Nat.lt_trans dC l2), Nat.ne_of_gt (Nat.lt_trans dD l2)⟩
    rcases List.mem_cons.mp hq with rfl | hq
    · exact ⟨Nat.ne_of_gt dI, Nat.ne_of_gt dC, Nat.ne_of_gt dD⟩
    · exact off q hq
theorem news_sw1 {h₀ h : Heap} {L : Addr} {a b : Addr × Obj} {r : List (Addr × Obj)} (N : News h₀ L h (a :: b :: r)) : News h₀ L h (b :: a :: r) := fun q hq => N q (by
  simp only [List.mem_cons] at hq ⊢
  rcases hq with h | h | h <;> simp [h])
theorem off_row {x d : Addr} {o : Obj} {r : List (Addr × Obj)} (l1 : ∀ q ∈ r, @LT.lt Nat _ q.1 d) (l2 : @LT.lt Nat _ d x) : ∀ q ∈ (x, o) :: r, q.1 ≠ d := fun q hq => by
  rcases List.mem_cons.mp hq with rfl | hq
  · exact Nat.ne_of_gt l2
  · exact Nat.ne_of_lt (l1 q hq)
theorem not_in5 {z : Str} (h : (["held", "cursor", "rows", "told", "error"] : List Str).contains z = false) : z ≠ ("held" : Str) ∧ z ≠ ("cursor" : Str) ∧ z ≠ ("rows" : Str) ∧ z ≠ ("told" : Str) ∧ z ≠ ("error" : Str) := by simpa using h
theorem kst_back {mm m₁ : Str → Option Value} {b : Bool} {lW : Addr} (hrow : m₁ "row" = some (.ref lW)) (z : Str) (hz : (["held", "cursor", "rows", "told", "error"] : List Str).contains z = false) :
    kstB (fun z => if (["held", "cursor", "rows", "told", "error"] : List Str).contains z = true then mm z else m₁ z) [("held", .bool b), ("row", .ref lW)] z = m₁ z := by
  obtain ⟨n1, n2, n3, n4, n5⟩ := not_in5 hz
  by_cases h : z = ("row" : Str)
  · subst h
    exact hrow.symm
  · simp [kstB, n1, n2, n3, n4, n5, h]
noncomputable def TryEnd (g1 : Heap) (L L1 : Addr) (m₁ : Str → Option Value) (b : Bool) (toks : List (Tk × Int)) (news0 : List (Addr × Obj)) (s : Shared) (f : Flow) (s₂ : Shared) : Prop :=
  f = .next ∧ ∃ g2 h tk m2 Dt led, s₂ = { s with heap := h, toks := tk } ∧ KtsTurn [L] g1 g2 ∧ Fr g2 L1 h m2 ∧ m2 "told" = some (.ref Dt) ∧ m2 "held" = some (.bool b) ∧ (∀ z, (["held", "cursor", "rows", "told", "error"] : List Str).contains z = false → m2 z = m₁ z) ∧ News g2 L1 h led ∧ DatIn led (.ref Dt) (outD (tableL b toks)) ∧ ∀ q ∈ news0, q ∈ led
theorem hide_led {h₀ h : Heap} {L : Addr} {a b x1 x2 : Addr × Obj} {tl8 tlc news0 : List (Addr × Obj)} {P : List (Addr × Obj) → Prop} {G : Prop} (N : News h₀ L h (a :: b :: (tl8 ++ x1 :: x2 :: (tlc ++ news0)))) (p : P (tl8 ++ x1 :: x2 :: (tlc ++ news0)))
    (k : ∀ R9, News h₀ L h (a :: b :: R9) → P R9 → (∀ q ∈ news0, q ∈ R9) → G) : G := k _ N p fun q hq => List.mem_append_right _ (.tail _ (.tail _ (List.mem_append_right _ hq)))
theorem try_split {M : Model} {A : Around} {t : Sem Flow} {Q : Flow → Shared → Prop} {E : Value → Shared → Prop} {s : Shared} {g1 : Heap} {L L1 : Addr} {m₁ : Str → Option Value} {b : Bool} {toks : List (Tk × Int)} {news0 R9 : List (Addr × Obj)} (_ : ∀ q ∈ news0, q ∈ R9)
    (h1 : wpAny M A t (TryEnd g1 L L1 m₁ b toks news0 s) E s) (h2 : ∀ f s₂, TryEnd g1 L L1 m₁ b toks news0 s f s₂ → Q f s₂) : wpAny M A t Q E s := wpAny_mono h1 h2 fun _ _ e => e
theorem told_ok {D1 D2 Dr : Addr} {t1 kk ta : Tok} {n1 n2 : Nat} {x y : Addr × Obj} {led : List (Addr × Obj)} {rs : List Dat} {ts' toks : List (Tk × Int)} {v : Value} {b : Bool} (d : DatIn led (.ref Dr) (.tuple rs)) (m3 : DatIn led v (hdT ts').1.val) (e : tableL b toks = .ok (rs, ts')) :
    DatIn ((D2, ({ cls := .type "tuple", data := .seq #[.str "read" t1, .ref Dr, .ref D1] n1 } : Obj)) :: (D1, { cls := .type "tuple", data := .seq #[.str (hdT ts').1.kind kk, v, .int (hdT ts').2 ta] n2 }) :: x :: y :: led) (.ref D2) (outD (tableL b toks)) := by
  rw [e]
  have up : ∀ q ∈ led, q ∈ (D2, ({ cls := .type "tuple", data := .seq #[.str "read" t1, .ref Dr, .ref D1] n1 } : Obj)) :: (D1, { cls := .type "tuple", data := .seq #[.str (hdT ts').1.kind kk, v, .int (hdT ts').2 ta] n2 }) :: x :: y :: led := fun q hq => .tail _ (.tail _ (.tail _ (.tail _ hq)))
  exact .tuple (vs := [.str "read" t1, .ref Dr, .ref D1]) (.head _) (.cons (.str _ _) (.cons (d.mono up) (.cons (.tuple (vs := [.str (hdT ts').1.kind kk, v, .int (hdT ts').2 ta]) (.tail _ (.head _)) (.cons (.str _ _) (.cons (m3.mono up) (.cons (.int _ _) .nil)))) .nil)))
theorem told_err {D2 : Addr} {t1 ta : Tok} {n1 : Nat} {led : List (Addr × Obj)} {toks : List (Tk × Int)} {b : Bool} {kind : Str} {at_ : Int} (e : tableL b toks = .error (kind, at_)) :
    DatIn ((D2, ({ cls := .type "tuple", data := .seq #[.str kind t1, .int at_ ta] n1 } : Obj)) :: led) (.ref D2) (outD (tableL b toks)) := by
  rw [e]
  exact .tuple (vs := [.str kind t1, .int at_ ta]) (.head _) (.cons (.str _ _) (.cons (.int _ _) .nil))
theorem full_ok {led led0 : List (Addr × Obj)} {vr : List Value} {toks : List (Tk × Int)} {a b : Addr} {t1 t2 t3 t4 t5 t6 : Tok} {n1 n2 : Nat} (j1 : DatAll led0 vr (toks.map rowD)) (hs : ∀ q ∈ led0, q ∈ led)
    (m1 : (a, ({ cls := .type "tuple", data := .seq #[.str "eof" t1, .str "" t2, .int (-1) t3] n1 } : Obj)) ∈ led) (m2 : (b, ({ cls := .type "tuple", data := .seq #[.str "eof" t4, .str "" t5, .int (-1) t6] n2 } : Obj)) ∈ led) :
    DatAll led (vr ++ [.ref a, .ref b]) ((full toks).map rowD) := by
  rw [full, List.map_append]
  exact (j1.mono hs).append (.cons (.tuple (vs := [.str "eof" t1, .str "" t2, .int (-1) t3]) m1 (.cons (.str _ _) (.cons (.str _ _) (.cons (.int _ _) .nil)))) (.cons (.tuple (vs := [.str "eof" t4, .str "" t5, .int (-1) t6]) m2 (.cons (.str _ _) (.cons (.str _ _) (.cons (.int _ _) .nil)))) .nil))
theorem kst_back3 {mm m₁ : Str → Option Value} {b : Bool} {lW : Addr} {vt : Value} (hrow : m₁ "row" = some (.ref lW)) (z : Str) (hz : (["held", "cursor", "rows", "told", "error"] : List Str).contains z = false) :
    kstB (fun z => if (["held", "cursor", "rows", "told", "error"] : List Str).contains z = true then mm z else m₁ z) [("told", vt), ("held", .bool b), ("row", .ref lW)] z = m₁ z := by
  obtain ⟨n1, n2, n3, n4, n5⟩ := not_in5 hz
  by_cases h : z = ("row" : Str)
  · subst h
    exact hrow.symm
  · simp [kstB, n1, n2, n3, n4, n5, h]
end
local macro_rules | `(tactic| ktn_open) => `(tactic| repeat' (walk_at "stop"; (fail_if_success (with_reducible show wpAny _ _ (PySem.eval (PySem.Expr.ListComp _ _ _ _) _) _ _ _)); (fail_if_success (with_reducible show wpAny _ _ (PySem.call (Value.ref 28) _) _ _ _)); (fail_if_success (with_reducible show wpAny _ _ (PySem.call (Value.ref 278) _) _ _ _)); (fail_if_success (with_reducible show wpAny _ _ (PySem.call (Value.ref 120) _) _ _ _)); (fail_if_success (with_reducible show wpAny _ _ (PySem.call (Value.ref 220) _) _ _ _)); (fail_if_success (with_reducible show wpAny _ _ (PySem.call (Value.builtin "list.append") _) _ _ _)); walk_at "go"))
local macro_rules | `(tactic| walk_at "call ref") => `(tactic| (walk_at "cr"; (with_reducible refine Mine.cg 243 ?_); k_dflt (apply token_spec; walk_at "std"; walk_at "kw")))
local macro_rules | `(tactic| walk_at "call ref") => `(tactic| (k_here; (with_reducible refine Mine.cg 92 ?_); k_dflt (apply tok_new; walk_at "std"; walk_at "kw")))
section
theorem rstP9 : True := by
  w_top off
  trivial
set_option maxHeartbeats 8000000
theorem str_at {vs : List Value} {xs : List Str} {i : Nat} (h : DatAll [] vs (xs.map .str)) (hi : i < vs.length) : ∃ x tx, xs[i]? = some x ∧ vs[i]? = some (.str x tx) := by
  have hl := h.length
  rw [List.length_map] at hl
  have hx : xs[i]? = some xs[i] := List.getElem?_eq_getElem (by omega)
  obtain ⟨v, hv, hd⟩ := datall_get h (i := i) (d := .str xs[i]) (by rw [List.getElem?_map, hx]; rfl)
  cases hd
  exact ⟨_, _, hx, hv⟩
section
variable {w : World} {mean : ExcName → Option Value} {mg mb : Str → Option Value} {dp un : Nat} {gd : Option (List Code)} {cn : Str} {cs : Scope} {a : Addr} {ccd : Value} {A₀ : Around} {base h₀ : Heap} {L : Addr} {m : Str → Option Value}
    {rest : List (Addr × Obj)} {s : Shared} {Q E : Value → Shared → Prop} {lX : Addr} {vs : List Value} {xs : List Str} {nX : Nat}
theorem right_spec
    (B : Below A₀ base [] h₀) (F : Fr h₀ L s.heap m) (X : (hd.heap_39 w.params).In h₀) (N : News h₀ L s.heap rest) (T : Top hd.view_39 Lz mean mg mb h₀) (XB : (hd.heap_39 w.params).In base) (TB : Top hd.view_39 Lz mean mg mb base) (hk : cs.kind = .function)
    (hd : dp + 60 < recursionLimit) (hu : un + 500 < cLine) (hm : (lX, listOf vs.toArray nX) ∈ rest) (hV : DatAll [] vs (xs.map .str)) (hv : ∀ z ∈ xs, V z = true) (hlen : vs.length ≤ 150)
    (ret : ∀ h' tk', Fr h₀ L h' m → News h₀ L h' rest → Q (.bool true) { s with heap := h', toks := tk' }) :
    wpAny (model PySem.Challenge.rw_sj0031_01.row.prog w) (ktrTop dp un gd cn cs L a ccd [] []) (call (.ref 283) [.ref lX]) Q E s := by
  refine wpAny_call ?_
  k_dflt (refine' code_defS0 B F X N T rfl ?k6 ?k7 ?k8 ?k9 ?kB ?_ ?cK ?c2 ?c3 ?c4 ?c5; (case k6 => k_is); (case k7 => k_is); (case k8 => ktr_room); (case k9 => first | exact BindsTo.of_eq rfl | exact binds_K (by k_in) rfl (by k_is) rfl rfl rfl); (case kB => exact locs rfl); (case cK => first | assumption | exact rfl); (case c2 => exact rfl); (case c3 => exact rfl); (case c4 => exact rfl); (case c5 => decide); k_whole; intro g1 L1 h1 FG' F' N' B1 X1 T1 D1; (try dsimp only); (try k_fold); (with_reducible refine Mine.gtkA ?_; intro tk'))
  ktn_open
  rename Fr _ _ _ _ => F'
  k_dflt (refine For_invVF F' (by with_unfolding_all rfl) (by with_unfolding_all rfl) ?_)
  repeat' ((fail_if_success (with_reducible show wpAny _ _ (PySem.pyIter _) _ _ _)); first | (k_unfold; (try dsimp only)) | walk1 | (dsimp only; walk1))
  rename IsRange _ _ _ _ _ _ _ _ => hR
  rename Fr _ _ _ _ => F'
  rename News _ _ _ _ => N'
  rename (∀ p ∈ rest, _) => l9
  have o9 : ∀ q ∈ rest, q.1 ≠ _ := fun q hq => Nat.ne_of_lt (l9 q hq)
  refine' st_range (σ := RgS) (rgLed ?lW ?cst) (fun _ => []) ["kind", "value"] (RgJ xs ?lW ?cst) ⟨[], 0, []⟩ ?hh hR rfl ?hs F' N' ?hk ?hj ?turn ?done
  case hh => with_unfolding_all rfl
  case hs => omega
  case hk => exact fun _ h => nomatch h
  case hj => exact ⟨by rw [List.take_zero]; exact .nil, rfl, fun _ h => nomatch h⟩
  case turn =>
    clear F' N' N hR
    rintro ⟨vr, n, tl⟩ i t u h tk own hi J hoff F1 N1
    dsimp only [rgLed, List.cons_append, envOf] at hoff F1 N1
    unfold stM at F1
    obtain ⟨j1, j2, j3⟩ := J
    dsimp only at j1 j2 j3
    obtain ⟨x, tx, hx1, hx2⟩ := str_at hV hi
    have hi9 : i ≤ 100000 := by omega
    have w1 : ∀ q ∈ own, q.1 ≠ _ := fun q hq => hoff q hq _ (.head _)
    dsimp only at w1
    ktn_open
    rename News _ _ _ _ => N9
    rename Fr _ _ _ _ => F9
    rename (_ ∧ AllLt _ _) => l8
    rename DatIn _ _ _ => d8
    have hl8 := Nat.ne_of_gt (AllLt.mem' l8.2 _ (List.mem_append_right _ (.head _)))
    rename (∀ p : Addr × Obj, p ∈ _ → ∀ q : Addr × Obj, q ∈ _ → @LT.lt Nat _ p.1 q.1) => f7
    have f8 := fun (q : Addr × Obj) hq => Nat.ne_of_gt (f7 _ (.head _) q hq)
    refine due_app (x := (_ :: (_ ++ tl)) ++ (rest ++ own)) F9 N9 (by k_mem) (mem_2 (.head _) (fun q hq => by k_mem) (fun q hq => by k_mem) (fun q hq => (List.mem_append.mp hq).elim (fun hq => by k_mem) (fun hq => by k_mem))) (off_2 hl8 f8 j3 (fun q hq => (List.mem_append.mp hq).elim (o9 q) (w1 q))) (by omega) (fun h9 F8 N8 => ?_)
    ktn_open
    rename News _ _ _ _ => N7
    rename Fr _ _ _ _ => F7
    show StEnd _ _ _ _ _ _ _ _ _ _ _
    exact rg_end F7 N7 d8 j1 j2 hx1 (off_2 hl8 f8 j3 (fun q hq => (List.mem_append.mp hq).elim (o9 q) (w1 q))) hoff (fun q hq => AllLt.mem' l8.2 q (by k_mem)) (fun q hq p hp => f7 q (by k_mem) p hp) (fun z n1 n2 n3 => by simp [kstB, n1, n2, n3])
  case done =>
    clear F' N' N hR
    rintro ⟨vr, n, tl⟩ u v h tk J F1 N1
    dsimp only [rgLed, envOf] at F1 N1
    unfold stM at F1
    obtain ⟨j1, j2, j3⟩ := J
    dsimp only at j1 j2 j3
    have hxl := hV.length
    rw [List.length_map] at hxl
    rw [show xs.take vs.length = xs by rw [hxl]; exact List.take_length] at j1
    generalize htk : toksOf 0 xs = toks at j1
    have htl : toks.length = vs.length := by rw [← htk, toksOf_len, hxl]
    have hgood := toks_good (k := 0) hv
    rw [htk] at hgood
    ktn_open
    rename Fr _ _ _ _ => F2
    k_dflt (refine For_invVF (fr_hide (Lw := L) F2) (by with_unfolding_all rfl) (by with_unfolding_all rfl) ?_)
    repeat' ((fail_if_success (with_reducible show wpAny _ _ (PySem.pyIter _) _ _ _)); first | (k_unfold; (try dsimp only)) | walk1 | (dsimp only; walk1))
    rename Fr _ _ _ _ => F3
    rename News _ _ _ _ => N3
    obtain ⟨oW, es9, n9, hoW, hoD⟩ := D1 L (.head _)
    refine bool_iter (S := ["held", "cursor", "rows", "told", "error"]) (Lw := L) ?hh3 (by exact .head _) F3 N3 hoW rfl ?turn3 ?done3
    case hh3 => with_unfolding_all rfl
    case turn3 =>
      clear F3 N3
      intro b m₁ g' h3 tk3 own hb hT hm₁ hoff F3 N3
      have B3 := below_turn B1 hT
      have X3 := XB.keeps B3.stays
      have T3 := TB.keeps B3.stays
      have D3 := D1.turn hT
      have hrow : m₁ "row" = some (.ref _) := (hm₁ "row" rfl).trans (by with_unfolding_all rfl)
      have F4 := ksw_fr (ps := [("held", .bool b), ("row", .ref _)]) (m₀ := m₁) (stored := ["held", "cursor", "rows", "told", "error"]) (fun p hp => by
        rcases List.mem_cons.mp hp with rfl | hp
        · exact if_pos rfl
        · rw [List.mem_singleton.mp hp]; exact (if_neg (by show ¬ (("row" : Str) = "held"); decide +kernel)).trans hrow) (fun z h1 h2 => if_neg (h1 _ (.head _))) F3
      clear F3 X1 T1
      dsimp only [List.cons_append, envOf] at hoff F4 N3
      ktn_open
      rename Fr _ _ _ _ => F5
      refine' comp3 (σ := CpS) (rows := vr) (cpLed ?l0) (CpJ toks ?l0) ⟨[], []⟩ ?b0 ?b1 ?b2 ?b3 ?b4 ?b5 ?b6 ?b7 ?b8 ?b9 ?b10 ?b11 ?b12 ?b13 ?b14 F5 N3 ?turn4 ?done4
      case b0 => with_unfolding_all rfl
      case b1 => with_unfolding_all rfl
      case b2 => decide
      case b3 => rfl
      case b4 => decide
      case b5 => rfl
      case b6 => rfl
      case b7 => rfl
      case b8 => decide +kernel
      case b9 => decide +kernel
      case b10 => decide +kernel
      case b11 => exact fun c => List.mem_append_right _ (.tail _ (.head _))
      case b12 => exact Nat.le_trans (by omega : vr.length ≤ 1000) (by decide)
      case b13 => exact ⟨rfl, by rw [List.take_zero]; exact .nil⟩
      case b14 =>
        ktn_open
      case turn4 =>
        rintro ⟨refs, tlc⟩ i ys v hvi hJ hys
        have hi : i < toks.length := by
          have h6 := j1.length
          rw [List.length_map] at h6
          have h7 := (List.getElem?_eq_some_iff.mp hvi).1
          omega
        have ht := List.getElem?_eq_getElem hi
        generalize toks[i] = t at ht
        obtain ⟨b9, kk9, v9, tm9, nn9, e1, e2, e3⟩ := rowTok j1 ht
        rw [hvi] at e1
        cases e1
        refine ⟨b9, nn9, .str t.1.kind kk9, v9, .int t.2 tm9, rfl, List.mem_append_right _ (.tail _ (.tail _ (List.mem_append_left _ e2))), fun I oI C oC D h5 tk5 E' m₂ hC hx hy hz F6 N6 off6 ne6 => ?_⟩
        dsimp only [cpLed] at N6 off6
        clear N3 F5
        ktn_open
        rename Fr _ _ _ _ => F9
        rename News _ _ _ _ => N9
        exact cp_end F9 N9 (by assumption) (by assumption) off6 hJ ht (e3.mono fun q hq => .tail _ (.tail _ (List.mem_append_left _ hq)))
      case done4 =>
        rintro ⟨refs, tlc⟩ D h5 tk5 ys hJ F6 N6 off6
        obtain ⟨rfl, all⟩ := hJ
        dsimp only [cpLed] at N6 off6 all
        have hvr : vr.length = toks.length := by
          have h6 := j1.length
          rwa [List.length_map] at h6
        rw [hvr, List.take_length] at all
        clear N3 F5
        ktn_open
        k_dflt (refine row_new B3 F6 X3 N6 T3 (by with_unfolding_all rfl) (by ktr_room) (by ktr_units) ?_)
        intro h7 tk7 xR dR kR tpR F7 N7 lR lRx
        ktn_open
        k_dflt (refine cur_new (refs := refs) (toks := toks) (rest := (xR, instObj 120 dR) :: (D, listOf (refs.map Value.ref).toArray (refs.map Value.ref).length) :: (tlc ++ _)) B3 F7 X3 (news_sw1 N7) T3 (by with_unfolding_all rfl) (by ktr_room) (by ktr_units) (.head _) ⟨_, .tail _ (.head _)⟩ (all.mono fun q hq => .tail _ (.tail _ hq)) (by omega) (off_row lR lRx) ?_)
        intro h8 tk8 c dC ah kC hb8 t8 ta8 p8 tp8 pb8 tl8 F8 N8 P8
        clear N7 N6 F6 F7
        ktn_open
        rename News _ _ _ _ => N9
        rename Fr _ _ _ _ => F9
        refine hide_led (P := fun R => PSt dC dR c xR ah D kR toks refs R t8 p8 toks) N9 P8 fun R9 N9' P9 sub9 => ?_
        clear N9 P8
        refine try_split (g1 := g1) (L := L) (L1 := L1) (m₁ := m₁) (b := b) (toks := toks) sub9 ?try9 ?rest9
        case try9 =>
          refine wpAny_Try_except ?_
          ktn_open
          rename Fr _ _ _ _ => F10
          rename News _ _ _ _ => N10
          k_dflt (refine table_rows_spec B3 F10 X3 N10 T3 (by with_unfolding_all rfl) (by ktr_room) (by ktr_units) P9 (fun t ht => (hgood t ht).2.2) ?ret9 ?exc9)
          case ret9 =>
            intro h9 tk9 Dr rs ts' t' hb' ta' p' tp' pb' tl' e9 F11 N11 P11 D11
            obtain ⟨dT, kT, kkT, vT, taT, m1, m2, m3⟩ := P11.tok
            have p1 := P11.cur
            clear N10 F10
            ktn_open
            rename News _ _ _ _ => N12
            rename Fr _ _ _ _ => F12
            exact ⟨rfl, _, _, _, _, _, _, rfl, hT, F12, by with_unfolding_all rfl, by with_unfolding_all rfl, fun z hz => by
              obtain ⟨n1, n2, n3, n4, n5⟩ := not_in5 hz
              simp only [n2, n3, n4, if_false]
              exact kst_back hrow z hz, N12, told_ok D11 m3 e9, fun q hq => .tail _ (.tail _ (.tail _ (.tail _ (List.mem_append_right _ (sub9 q hq)))))⟩
          case exc9 =>
            intro kind at_ e9 h9 tk9 e dx g9 k tx ta y ty FG R U
            k_dflt (refine caught_D R FG B3 U XB TB D3 hT (by k_is) (by kts_isx) ?_)
            intro h10 g10 oe tk10 T10 F11 hoe N11 B11 X11 T11 D11
            have hoc := And.intro hoe.1 hoe.2.1
            have hof := hoe.2.2
            clear N10 F10 hoe
            ktn_open
            k_dflt (refine exc_getD (X11.keeps F11.keep) (exc_inst N11 hoc hof (.head _) (.tail _ (.head _))) (by k_is) (by k_is) (by k_is) (by k_get) (by k_handed) ?_)
            ktn_open
            k_dflt (refine exc_getD (X11.keeps F11.keep) (exc_inst N11 hoc hof (.head _) (.tail _ (.head _))) (by k_is) (by k_is) (by k_is) (by k_get) (by k_handed) ?_)
            ktn_open
            rename News _ _ _ _ => N12
            rename Fr _ _ _ _ => F12
            exact ⟨rfl, _, _, _, _, _, _, rfl, T10, F12, by with_unfolding_all rfl, by with_unfolding_all rfl, fun z hz => by
              obtain ⟨n1, n2, n3, n4, n5⟩ := not_in5 hz
              simp only [n2, n4, n5, if_false]
              exact kst_back hrow z hz, N12, told_err e9, fun q hq => .tail _ (.tail _ (.tail _ (sub9 q hq)))⟩
        case rest9 =>
          rintro f s₂ ⟨rfl, g2, h9, tk9, m2, Dt, led, rfl, T9, F10, e1, e2, e3, N10, d10, sub10⟩
          have B4 := below_turn B1 T9
          have X4 := XB.keeps B4.stays
          have T4 := TB.keeps B4.stays
          have F11 := ksw_fr (ps := [("told", .ref Dt), ("held", .bool b), ("row", .ref _)]) (m₀ := m₁) (stored := ["held", "cursor", "rows", "told", "error"]) (fun p hp => by
            rcases List.mem_cons.mp hp with rfl | hp
            · exact e1
            rcases List.mem_cons.mp hp with rfl | hp
            · exact e2
            · rw [List.mem_singleton.mp hp]; exact (e3 _ rfl).trans hrow) (fun z h1 h2 => e3 z h2) F10
          clear F10 B3 X3 T3 D3
          have mW := sub10 _ (.tail _ (.head _))
          ktn_open
          rename News _ _ _ _ => N12
          rename Fr _ _ _ _ => F12
          k_dflt (refine due_spec B4 F12 X4 N12 T4 (by with_unfolding_all rfl) (by ktr_room) (by ktr_units) (.head _) (full_ok j1 (fun q hq => .tail _ (.tail _ (.tail _ (.tail _ (sub10 q (.tail _ (.tail _ (List.mem_append_left _ hq)))))))) (.tail _ (.tail _ (.tail _ (.head _)))) (.tail _ (.tail _ (.head _)))) (fun t ht => (hgood t ht).1) (fun t ht => (hgood t ht).2.1) (by omega) ?_)
          intro h13 tk13 D13 tl13 d13 F13 N13
          k_dflt (refine ne_same N13 (d10.mono fun q hq => List.mem_append_right _ (.tail _ (.tail _ (.tail _ (.tail _ hq))))) d13 (outD_dok fun t ht => (hgood t ht).2.1) (by decide) (by ktr_units) ?_)
          clear N12 F12
          ktn_open
          rename Fr _ _ _ _ => F14
          rename News _ _ _ _ => N14
          exact ⟨_, _, _, _, rfl, T9, F14, fun z hz => (kst_back3 hrow z hz).trans (hm₁ z hz), fun q hq => N14 q (List.mem_append_right _ (.tail _ (.tail _ (.tail _ (.tail _ (sub10 q hq))))))⟩
    case done3 => 
      intro g' h3 tk3 m' hT hm' F4 N4
      dsimp only [envOf] at F4 N4
      have B3 := below_turn B1 hT
      have X3 := XB.keeps B3.stays
      have T3 := TB.keeps B3.stays
      clear F3 N3 X1 T1
      repeat' (first | (k_unfold; (try dsimp only)) | walk1 | (dsimp only; walk1))
      rename News h₀ L _ _ => N15
      exact ret _ _ (by assumption) (fun q hq => N15 q (by k_mem))
end
end
section
local macro_rules | `(tactic| walk_at "pad") => `(tactic| fail "pad")
theorem rstP10a : True := by
  w_top off
  trivial
structure TxS where
  us : List Value
  zs : List Str
  nR : Nat
  lR : Addr
  x : Int
  tx : Tok
  y : Int
  ty : Tok
  vs : List Value
  ns : List Int
  nC : Nat
  nF : Nat
noncomputable abbrev txLed (lF lC : Addr) (c : TxS) : List (Addr × Obj) := [(lF, listOf #[.ref lC, .int c.x c.tx, .int c.y c.ty] c.nF), (lC, listOf c.vs.toArray c.nC), (c.lR, listOf c.us.toArray c.nR)]
noncomputable abbrev txPs (c : TxS) : List (Str × Value) := [("texts", .ref c.lR)]
structure TxJ (lF lC : Addr) (i : Nat) (c : TxS) : Prop where
  d : DatAll [] c.us (c.zs.map Dat.str)
  v : ∀ z ∈ c.zs, V z = true
  l : c.us.length ≤ 1 + 40 * i
  f : DatAll [] c.vs (c.ns.map Dat.int)
  k : c.vs.length ≤ 40
  n0 : lF ≠ lC
  n1 : c.lR ≠ lF
  n2 : c.lR ≠ lC
theorem tx_end {lF lC lR D D1 : Addr} {i nD nF1 nC1 tk : Nat} {x1 y1 : Int} {tx1 ty1 : Tok} {us us1 vs1 : List Value} {zs zs1 : List Str} {ns1 : List Int} {o1 oR oF oC : Obj} {own : List (Addr × Obj)} {h₀ h' : Heap} {L : Addr} {m' m₀ : Str → Option Value} {s : Shared}
    (F : Fr h₀ L h' m') (N : News h₀ L h' ((D, listOf (us ++ us1).toArray nD) :: (D1, o1) :: (lF, listOf #[.ref lC, .int x1 tx1, .int y1 ty1] nF1) :: (lC, listOf vs1.toArray nC1) :: (lR, oR) :: own))
    (l9 : AllLt D ((D1, o1) :: (lF, oF) :: (lC, oC) :: (lR, oR) :: own)) (hoff : OwnOff own ([(lF, oF), (lC, oC), (lR, oR)].map (·.1)))
    (d : DatAll [] us (zs.map Dat.str)) (v : ∀ z ∈ zs, V z = true) (l : us.length ≤ 1 + 40 * i) (d1 : DatAll [] us1 (zs1.map Dat.str)) (v1 : ∀ z ∈ zs1, V z = true) (l1 : us1.length ≤ 40) (f : DatAll [] vs1 (ns1.map Dat.int)) (k : vs1.length ≤ 40) (n0 : lF ≠ lC)
    (kt : m' "texts" = some (.ref D)) (hr : ∀ z, z ≠ ("turn" : Str) → z ≠ ("texts" : Str) → m' z = m₀ z) :
    StEnd h₀ L "turn" (txLed lF lC) txPs [] m₀ (TxJ lF lC (i + 1)) own s { s with heap := h', toks := tk } := by
  refine ⟨⟨us ++ us1, zs ++ zs1, nD, D, x1, tx1, y1, ty1, vs1, ns1, nC1, nF1⟩, _, _, _, _, rfl, F, N, fun q hq => ?_, fun q hq => .tail _ (.tail _ (.tail _ (.tail _ (.tail _ hq)))), fun q hq b hb => ?_, fun q hq => ?_, fun z h1 h2 h3 => hr z h1 (h3 _ (.head _)), ⟨dat_app d d1, V_app v v1, ?_, f, k, n0, Nat.ne_of_gt l9.2.1, Nat.ne_of_gt l9.2.2.1⟩⟩
  · rcases List.mem_cons.mp hq with rfl | hq
    · exact .tail _ (.tail _ (.head _))
    rcases List.mem_cons.mp hq with rfl | hq
    · exact .tail _ (.tail _ (.tail _ (.head _)))
    · rw [List.mem_singleton.mp hq]; exact .head _
  · have hlt := AllLt.mem' l9 q (.tail _ (.tail _ (.tail _ (.tail _ hq))))
    rcases List.mem_cons.mp hb with rfl | hb
    · exact hoff q hq _ (.head _)
    rcases List.mem_cons.mp hb with rfl | hb
    · exact hoff q hq _ (.tail _ (.head _))
    · rw [List.mem_singleton.mp hb]; exact Nat.ne_of_lt hlt
  · rw [List.mem_singleton.mp hq]; exact kt
  · show (us ++ us1).length ≤ 1 + 40 * (i + 1)
    rw [List.length_append]; omega
theorem len_lit {vs : List Value} {zs : List Str} (h : DatAll [] vs (zs.map .str)) (hn : zs.length ≤ 150) : vs.length ≤ 150 := by
  rw [h.length, List.length_map]; exact hn
theorem news_tail {h₀ h : Heap} {L : Addr} {a : Addr × Obj} {r : List (Addr × Obj)} (N : News h₀ L h (a :: r)) : News h₀ L h r := fun q hq => N q (.tail _ hq)
theorem cases14 {r : Int} (h0 : 0 ≤ r) (h : r < 14) : r ≤ 10 ∨ r = 11 ∨ r = 12 ∨ r = 13 := by omega
set_option maxHeartbeats 4000000 in
theorem good_true {cl : Str → Option Addr} {mean : ExcName → Option Value} {ks : List Int} {s₁ : Shared} {h9 : Heap} {L : Addr} {m : Str → Option Value} {tk : Nat} (F : Fr s₁.heap L h9 m) (hg : s₁.gens = #[]) :
    GoodW PySem.Challenge.rw_sj0031_01.row.claim cl mean [ofPy (PyData.list (List.map PyData.int ks))] s₁ (.ok (.ret (.bool true))) { s₁ with heap := h9, toks := tk } := by
  close_w
end
end Mine
end
namespace Mine
local macro_rules | `(tactic| walk_at "call ref") => `(tactic| (walk_at "cr"; (with_reducible refine Mine.cg 236 ?_); k_dflt (apply pick_spec; walk_at "std"; walk_at "fp"; (case hm | hm2 => first | decide | assumption | omega); walk_at "kw")))
local macro_rules | `(tactic| walk_at "call builtin:str.split") => `(tactic| (k_here; (refine KSpl.split1 (by k_asm) (by k_asm) (by decide) ?_ (by size_fits)); intros))
local macro_rules | `(tactic| walk_at "nn") => `(tactic| first | k_asm | exact news_rotA (by assumption) | exact news_rotB (by assumption) | exact news_rotC (by assumption) | exact news_rotD (by assumption))
local macro_rules | `(tactic| walk_at "call ref") => `(tactic| (walk_at "cr"; (with_reducible refine Mine.cg 250 ?_); k_dflt (apply some_spec; walk_at "std"; walk_at "fp"; (case mS | mO => k_mem); (case dS | dO => (repeat constructor)); (case hS | hO | hS2 | hO2 => simp); (case hxl | hyl | hxv | hyv => decide +kernel); walk_at "kw")))
local macro_rules | `(tactic| walk_at "binaryOp Add ref ref") => `(tactic| (k_here; k_dflt (apply add_letters; (case F | N => k_asm); (case m1 | m2 => k_mem); (case l1 | l2 => walk_at "len"); walk_at "kd")))
local macro_rules | `(tactic| ktn_open) => `(tactic| repeat' ((fail_if_success (with_reducible show wpAny _ _ (PySem.exec (Stmt.For _ _ _ _ _) _) _ _ _)); (fail_if_success (with_reducible show wpAny _ _ (PySem.call (Value.ref 283) _) _ _ _)); walk_at "go"))
local macro_rules | `(tactic| walk_at "call ref") => `(tactic| (k_here; (with_reducible refine Mine.cg 229 ?_); k_dflt (apply feed_spec; walk_at "std"; (case hL | hI | hlen => assumption); walk_at "kn")))
local macro_rules | `(tactic| walk_at "call ref") => `(tactic| (walk_at "cr"; (with_reducible refine Mine.cg 257 ?_); k_dflt (apply spelled_spec; walk_at "std"; walk_at "fp"; walk_at "kw")))
local macro_rules | `(tactic| k_all) => `(tactic| exact List.forall_mem_nil _)
local macro_rules | `(tactic| k_qdec) => `(tactic| decide +kernel)
section
theorem rstP10 : True := by
  w_top off
  trivial
set_option maxHeartbeats 8000000
theorem lawX : PySem.Challenge.rw_sj0031_01.Holds := hd (by
  k_go0
  all_goals try k_fold
  dsimp only
  ktn_open
  rename Fr _ _ _ _ => F9
  rename News _ _ _ _ => N9
  rename StrsAre _ _ => a9
  rename (List.map _ _ = Txt.split _ _) => e9
  have d9 := strs_dat a9
  rw [e9] at d9
  k_dflt (refine right_spec (by k_asm) F9 (by assumption) N9 (by k_asm) (by assumption) (by assumption) (by with_unfolding_all rfl) (by ktr_room) (by ktr_units) (.head _) d9 (by decide +kernel) (len_lit d9 (by decide +kernel)) ?_)
  clear d9 e9 a9 F9 N9
  intro h9 tk9 F9 N9
  have N8 := news_tail N9
  clear N9
  ktn_open
  rename Fr _ _ _ _ => F9
  rename News _ _ _ _ => N9
  rename StrsAre _ _ => a9
  rename (List.map _ _ = Txt.split _ _) => e9
  have d9 := strs_dat a9
  rw [e9] at d9
  k_dflt (refine right_spec (by k_asm) F9 (by assumption) N9 (by k_asm) (by assumption) (by assumption) (by with_unfolding_all rfl) (by ktr_room) (by ktr_units) (.head _) d9 (by decide +kernel) (len_lit d9 (by decide +kernel)) ?_)
  clear d9 e9 a9 F9 N9
  intro h9 tk9 F9 N9
  have N8 := news_tail N9
  clear N9
  ktn_open
  · rename Fr _ _ _ _ => F'
    k_dflt (refine For_invVF F' (by with_unfolding_all rfl) (by with_unfolding_all rfl) ?_)
    repeat' ((fail_if_success (with_reducible show wpAny _ _ (PySem.pyIter _) _ _ _)); first | (k_unfold; (try dsimp only)) | walk1 | (dsimp only; walk1))
    rename IsRange _ _ _ _ _ _ _ _ => hR
    rename Fr _ _ _ _ => F'
    rename News _ _ _ _ => N'
    refine' st_range (σ := TxS) (txLed ?lFa ?lCa) txPs [] (TxJ ?lFa ?lCa) ⟨_, ["table"], _, _, _, _, _, _, _, _, _, _⟩ ?hha hR (Int.toNat_of_nonneg (by omega)).symm ?hsa F' N' ?hka ?hja ?turna ?donea
    case hha => with_unfolding_all rfl
    case hsa => omega
    case hka =>
      intro q hq
      rw [List.mem_singleton.mp hq]
      with_unfolding_all rfl
    case hja => exact ⟨dat_one, V_one (by decide +kernel), Nat.le_refl _, by assumption, by assumption, by assumption, Nat.ne_of_gt (by dsimp only; omega), Nat.ne_of_gt (by dsimp only; omega)⟩
    case turna =>
      clear F' N' hR
      rintro ⟨us, zs, nR, lR, x, tx, y, ty, vs, ns, nC, nF⟩ i t u h tk own hi J hoff F1 N1
      dsimp only [txLed, txPs, List.cons_append, List.nil_append, envOf] at hoff F1 N1
      unfold stM at F1
      obtain ⟨j1, j2, j3, j4, j5, j6, j7, j8⟩ := J
      dsimp only at j1 j2 j3 j4 j5 j6 j7 j8
      have w1 : ∀ q ∈ own, q.1 ≠ _ := fun q hq => hoff q hq _ (.head _)
      have w2 : ∀ q ∈ own, q.1 ≠ _ := fun q hq => hoff q hq _ (.tail _ (.head _))
      dsimp only at w1 w2
      have hb : i ≤ 1 := by omega
      have hlen : us.length ≤ 100 := by omega
      ktn_open
      rename News _ _ _ _ => N9
      rename Fr _ _ _ _ => F9
      rename (@LT.lt Nat _ _ _ ∧ @LT.lt Nat _ _ _ ∧ @LT.lt Nat _ _ _ ∧ @LT.lt Nat _ _ _ ∧ AllLt _ _) => l9
      show StEnd _ _ _ _ _ _ _ _ _ _ _
      exact tx_end F9 N9 l9 hoff j1 j2 j3 (by assumption) (by assumption) (by assumption) (by assumption) (by assumption) j6 (by with_unfolding_all rfl) (fun z n1 n2 => by simp [kstB, n1, n2])
    case donea =>
      clear F' N' hR
      rintro ⟨us, zs, nR, lR, x, tx, y, ty, vs, ns, nC, nF⟩ u v h tk J F1 N1
      dsimp only [txLed, txPs, envOf] at F1 N1
      unfold stM at F1
      obtain ⟨j1, j2, j3, j4, j5, j6, j7, j8⟩ := J
      dsimp only at j1 j2 j3 j4 j5 j6 j7 j8
      have hlen : us.length ≤ 100 := by omega
      repeat' ((fail_if_success (with_reducible show wpAny _ _ (PySem.exec (Stmt.If _ _ _ _) _) _ _ _)); first | (k_unfold; (try dsimp only)) | walk1 | (dsimp only; walk1))
      rename (@LT.lt Int _ _ 14) => r14
      have h4 := cases14 (by assumption) r14
      clear r14
      rcases h4 with h4 | rfl | rfl | rfl
      · ktn_open
        rename Fr _ _ _ _ => F9
        rename News _ _ _ _ => N9
        k_dflt (refine right_spec (xs := zs ++ (["endtable", "endprimitive", ";"] : List Str)) (by k_asm) F9 (by assumption) N9 (by k_asm) (by assumption) (by assumption) (by with_unfolding_all rfl) (by ktr_room) (by ktr_units) (.head _) (dat_app j1 (.cons (.str _ _) (.cons (.str _ _) (.cons (.str _ _) .nil)))) (V_app j2 (by decide +kernel)) (by simp only [List.length_append, List.length_cons, List.length_nil]; omega) ?_)
        intro h9 tk9 F8 N8
        clear F9 N9
        exact good_true F8 (by assumption)
      · ktn_open
        rename Fr _ _ _ _ => F9
        rename News _ _ _ _ => N9
        k_dflt (refine right_spec (xs := zs ++ (["endprimitive", ";"] : List Str)) (by k_asm) F9 (by assumption) N9 (by k_asm) (by assumption) (by assumption) (by with_unfolding_all rfl) (by ktr_room) (by ktr_units) (.head _) (dat_app j1 (.cons (.str _ _) (.cons (.str _ _) .nil))) (V_app j2 (by decide +kernel)) (by simp only [List.length_append, List.length_cons, List.length_nil]; omega) ?_)
        intro h9 tk9 F8 N8
        clear F9 N9
        exact good_true F8 (by assumption)
      · ktn_open
        rename Fr _ _ _ _ => F9
        rename News _ _ _ _ => N9
        k_dflt (refine right_spec (xs := zs ++ (["endtable", ";"] : List Str)) (by k_asm) F9 (by assumption) N9 (by k_asm) (by assumption) (by assumption) (by with_unfolding_all rfl) (by ktr_room) (by ktr_units) (.head _) (dat_app j1 (.cons (.str _ _) (.cons (.str _ _) .nil))) (V_app j2 (by decide +kernel)) (by simp only [List.length_append, List.length_cons, List.length_nil]; omega) ?_)
        intro h9 tk9 F8 N8
        clear F9 N9
        exact good_true F8 (by assumption)
      · ktn_open
        rename Fr _ _ _ _ => F9
        rename News _ _ _ _ => N9
        k_dflt (refine right_spec (xs := zs ++ (["endtable", "endprimitive"] : List Str)) (by k_asm) F9 (by assumption) N9 (by k_asm) (by assumption) (by assumption) (by with_unfolding_all rfl) (by ktr_room) (by ktr_units) (.head _) (dat_app j1 (.cons (.str _ _) (.cons (.str _ _) .nil))) (V_app j2 (by decide +kernel)) (by simp only [List.length_append, List.length_cons, List.length_nil]; omega) ?_)
        intro h9 tk9 F8 N8
        clear F9 N9
        exact good_true F8 (by assumption)
  · rename Fr _ _ _ _ => F'
    k_dflt (refine For_invVF F' (by with_unfolding_all rfl) (by with_unfolding_all rfl) ?_)
    repeat' ((fail_if_success (with_reducible show wpAny _ _ (PySem.pyIter _) _ _ _)); first | (k_unfold; (try dsimp only)) | walk1 | (dsimp only; walk1))
    rename IsRange _ _ _ _ _ _ _ _ => hR
    rename Fr _ _ _ _ => F'
    rename News _ _ _ _ => N'
    refine' st_range (σ := TxS) (txLed ?lFb ?lCb) txPs [] (TxJ ?lFb ?lCb) ⟨_, [], _, _, _, _, _, _, _, _, _, _⟩ ?hhb hR (Int.toNat_of_nonneg (by omega)).symm ?hsb F' N' ?hkb ?hjb ?turnb ?doneb
    case hhb => with_unfolding_all rfl
    case hsb => omega
    case hkb =>
      intro q hq
      rw [List.mem_singleton.mp hq]
      with_unfolding_all rfl
    case hjb => exact ⟨.nil, (fun _ h => nomatch h), Nat.zero_le _, by assumption, by assumption, by assumption, Nat.ne_of_gt (by dsimp only; omega), Nat.ne_of_gt (by dsimp only; omega)⟩
    case turnb =>
      clear F' N' hR
      rintro ⟨us, zs, nR, lR, x, tx, y, ty, vs, ns, nC, nF⟩ i t u h tk own hi J hoff F1 N1
      dsimp only [txLed, txPs, List.cons_append, List.nil_append, envOf] at hoff F1 N1
      unfold stM at F1
      obtain ⟨j1, j2, j3, j4, j5, j6, j7, j8⟩ := J
      dsimp only at j1 j2 j3 j4 j5 j6 j7 j8
      have w1 : ∀ q ∈ own, q.1 ≠ _ := fun q hq => hoff q hq _ (.head _)
      have w2 : ∀ q ∈ own, q.1 ≠ _ := fun q hq => hoff q hq _ (.tail _ (.head _))
      dsimp only at w1 w2
      have hb : i ≤ 1 := by omega
      have hlen : us.length ≤ 100 := by omega
      ktn_open
      rename News _ _ _ _ => N9
      rename Fr _ _ _ _ => F9
      rename (@LT.lt Nat _ _ _ ∧ @LT.lt Nat _ _ _ ∧ @LT.lt Nat _ _ _ ∧ @LT.lt Nat _ _ _ ∧ AllLt _ _) => l9
      show StEnd _ _ _ _ _ _ _ _ _ _ _
      exact tx_end F9 N9 l9 hoff j1 j2 j3 (by assumption) (by assumption) (by assumption) (by assumption) (by assumption) j6 (by with_unfolding_all rfl) (fun z n1 n2 => by simp [kstB, n1, n2])
    case doneb =>
      clear F' N' hR
      rintro ⟨us, zs, nR, lR, x, tx, y, ty, vs, ns, nC, nF⟩ u v h tk J F1 N1
      dsimp only [txLed, txPs, envOf] at F1 N1
      unfold stM at F1
      obtain ⟨j1, j2, j3, j4, j5, j6, j7, j8⟩ := J
      dsimp only at j1 j2 j3 j4 j5 j6 j7 j8
      have hlen : us.length ≤ 100 := by omega
      repeat' ((fail_if_success (with_reducible show wpAny _ _ (PySem.exec (Stmt.If _ _ _ _) _) _ _ _)); first | (k_unfold; (try dsimp only)) | walk1 | (dsimp only; walk1))
      rename (@LT.lt Int _ _ 14) => r14
      have h4 := cases14 (by assumption) r14
      clear r14
      rcases h4 with h4 | rfl | rfl | rfl
      · ktn_open
        rename Fr _ _ _ _ => F9
        rename News _ _ _ _ => N9
        k_dflt (refine right_spec (xs := zs ++ (["endtable", "endprimitive", ";"] : List Str)) (by k_asm) F9 (by assumption) N9 (by k_asm) (by assumption) (by assumption) (by with_unfolding_all rfl) (by ktr_room) (by ktr_units) (.head _) (dat_app j1 (.cons (.str _ _) (.cons (.str _ _) (.cons (.str _ _) .nil)))) (V_app j2 (by decide +kernel)) (by simp only [List.length_append, List.length_cons, List.length_nil]; omega) ?_)
        intro h9 tk9 F8 N8
        clear F9 N9
        exact good_true F8 (by assumption)
      · ktn_open
        rename Fr _ _ _ _ => F9
        rename News _ _ _ _ => N9
        k_dflt (refine right_spec (xs := zs ++ (["endprimitive", ";"] : List Str)) (by k_asm) F9 (by assumption) N9 (by k_asm) (by assumption) (by assumption) (by with_unfolding_all rfl) (by ktr_room) (by ktr_units) (.head _) (dat_app j1 (.cons (.str _ _) (.cons (.str _ _) .nil))) (V_app j2 (by decide +kernel)) (by simp only [List.length_append, List.length_cons, List.length_nil]; omega) ?_)
        intro h9 tk9 F8 N8
        clear F9 N9
        exact good_true F8 (by assumption)
      · ktn_open
        rename Fr _ _ _ _ => F9
        rename News _ _ _ _ => N9
        k_dflt (refine right_spec (xs := zs ++ (["endtable", ";"] : List Str)) (by k_asm) F9 (by assumption) N9 (by k_asm) (by assumption) (by assumption) (by with_unfolding_all rfl) (by ktr_room) (by ktr_units) (.head _) (dat_app j1 (.cons (.str _ _) (.cons (.str _ _) .nil))) (V_app j2 (by decide +kernel)) (by simp only [List.length_append, List.length_cons, List.length_nil]; omega) ?_)
        intro h9 tk9 F8 N8
        clear F9 N9
        exact good_true F8 (by assumption)
      · ktn_open
        rename Fr _ _ _ _ => F9
        rename News _ _ _ _ => N9
        k_dflt (refine right_spec (xs := zs ++ (["endtable", "endprimitive"] : List Str)) (by k_asm) F9 (by assumption) N9 (by k_asm) (by assumption) (by assumption) (by with_unfolding_all rfl) (by ktr_room) (by ktr_units) (.head _) (dat_app j1 (.cons (.str _ _) (.cons (.str _ _) .nil))) (V_app j2 (by decide +kernel)) (by simp only [List.length_append, List.length_cons, List.length_nil]; omega) ?_)
        intro h9 tk9 F8 N8
        clear F9 N9
        exact good_true F8 (by assumption))
end
end Mine
set_option maxRecDepth 100000 in
set_option maxHeartbeats 8000000 in
theorem PySem.Challenge.cw_sj0031_01_holds : PySem.Challenge.rw_sj0031_01.Holds := by
  exact Mine.lawX
