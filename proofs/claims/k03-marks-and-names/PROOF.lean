import PyProof.Rows.All
import Wide.All
import OpenK.AllK
import Wide.FinOn
import PyProof.EqAt
import PyProof.EqKinds
import PyProof.TupleCall
import KE.KTryMore
import KE.KExcInit
import HandS.Base
import HandS.Call
import HandS.List
import HandS.Ends
import HandS.Exc
import HandS.ExcInit
import KE.KExcIs
import HandS.ExcField
import HandS.IsInst
import HandS.ClsMeth
import HandS.Defaults
import HandS.MakeKw
import HandS.MakeKwOnly
import HandS.Dict
import HandS.HeadEnd
import HandS.Lambda
import KE.KStateDown
import HandS.More
import HandS.Words
import HandS.WordsExc
import HandS.Head0
import HandS.Head1
import HandS.Head2
import HandS.HeadHook1
import HandS.HeadHook2
import HandS.ForMost
import HandS.Evl
import HandS.Walk
import HandS.HeadHook4
import KE.KLam
import HandS.Comp
import HandS.Text
import HandS.Codes
import HandS.TryOnly
import HandS.EndBits
import HandS.EndTab
import PyProof.CodeObj
import HandS.Iter
import HandS.TupLe
import HandS.Flow
import HandS.FStr
import HandS.StrMore
import PyProof.StrOps2
import HandS.Deep
import HandS.Wide
import PySem.Challenge.RW_maskededits_k03_marks_and_names
set_option Elab.async false
set_option linter.all false
set_option maxRecDepth 100000
set_option maxHeartbeats 4000000
/-! own error classes over ValueError, KeyError, RuntimeError: made by place or by name, stored to. What KE.KExcPX shows of classes over one base (call_own, init_base, exc_osa, osa_old) for keywords and for KeyError too; its proofs were followed. -/
namespace PySem
namespace MeX
open Builtin Builtin.ObjectAttr
/-- an error's __init__ -/
structure XIni (IB initId : String) : Prop where
  entry : entryFor table initId = some Builtin.«BaseException.__init__»
  split : splitId initId = some (IB, "__init__")
  kind : builtinKind initId = some .slot
  row : Manifest.signature? initId = some ⟨.positional, "*", IB, .self, [⟨"args", .varPos, false⟩]⟩
  noStar : (IB != "*") = true
  plain : plainId initId = true
theorem ini_KeyError : XIni "KeyError" "KeyError.__init__" where
  entry := entryFor_alias (id' := "BaseException.__init__") (by rw [fastTable_eq_tree]; kernel_rfl) (by first | rfl | decide +kernel) (by decide +kernel) (by rw [fastTable_eq_tree]; kernel_rfl)
  split := by kernel_rfl
  kind := by kernel_rfl
  row := by kernel_rfl
  noStar := by decide +kernel
  plain := by decide +kernel
theorem ini_of {B n i : String} (F : ExcCallFacts B n i) : XIni B i := ⟨F.initEntry, F.initSplit, F.initKind, F.initRow, F.noStar, F.init.plain⟩
structure XBase (NB newId IB initId : String) (bt : List Value) : Prop where
  new : ∃ i bm, ExcBaseFacts NB newId i bm
  ini : XIni IB initId
  cN : bt.contains (.type NB) = true
  cI : bt.contains (.type IB) = true
  cA : bt.contains (.type "AttributeError") = false
  cM : bt.contains (.type "NameError") = false
  cO : bt.contains (.type "object") = true
  ne : bt.isEmpty = false
  pass : ∀ self : Value, refuseLoop self "__setattr__" bt = pure ()
abbrev tVE : List Value := [.type "ValueError", .type "Exception", .type "BaseException", .type "object"]
abbrev tKE : List Value := [.type "KeyError", .type "LookupError", .type "Exception", .type "BaseException", .type "object"]
abbrev tRE : List Value := [.type "RuntimeError", .type "Exception", .type "BaseException", .type "object"]
theorem baseVE : XBase "ValueError" "ValueError.__new__" "ValueError" "ValueError.__init__" tVE :=
  ⟨⟨_, _, F.excBase_ValueError⟩, ini_of F.excBase_ValueError.toExcCallFacts, by decide +kernel, by decide +kernel, by decide +kernel, by decide +kernel, by decide +kernel, rfl, fun self => by kernel_rfl⟩
theorem baseRE : XBase "RuntimeError" "RuntimeError.__new__" "RuntimeError" "RuntimeError.__init__" tRE :=
  ⟨⟨_, _, F.excBase_RuntimeError⟩, ini_of F.excBase_RuntimeError.toExcCallFacts, by decide +kernel, by decide +kernel, by decide +kernel, by decide +kernel, by decide +kernel, rfl, fun self => by kernel_rfl⟩
theorem baseKE : XBase "LookupError" "LookupError.__new__" "KeyError" "KeyError.__init__" tKE :=
  ⟨⟨_, _, F.excBase_LookupError⟩, ini_KeyError, by decide +kernel, by decide +kernel, by decide +kernel, by decide +kernel, by decide +kernel, rfl, fun self => by kernel_rfl⟩
theorem refs_has (X : String) (bt : List Value) : ∀ cs : List Addr, (cs.map Value.ref ++ bt).contains (.type X) = bt.contains (.type X)
  | [] => rfl
  | c :: cs => by
    rw [List.map_cons, List.cons_append, List.contains_cons, refs_has X bt cs]
    rfl
theorem refs_pass (self : Value) (bt : List Value) : ∀ cs : List Addr, refuseLoop self "__setattr__" (cs.map Value.ref ++ bt) = refuseLoop self "__setattr__" bt
  | [] => rfl
  | c :: cs => by
    rw [List.map_cons, List.cons_append, refuseLoop_ref]
    exact refs_pass self bt cs
abbrev excO (C t : Addr) : Obj := { cls := .ref C, data := .fields #[.ref t, .none, .none, .none, .bool false, .none] }
section
variable {M : Model} {A : Around} {E : Value → Shared → Prop} {h : Heap} {g : Array GenState} {d : Drawn} {t : Nat} {os : OsState}
variable {nm q : Str} {C N : Addr} {bs bt : List Value} {cs : List Addr} {hdct : Bool} {sn : List Str} {sub : List Value} {ab : Bool} {col : Option Bool} {dd : Option Addr} {k0 k1 k2 k3 k5 : Option Value} {NB newId IB initId : String}
theorem check_new (F : XBase NB newId IB initId bt) {rest : List Value} {kw : List (Str × Value)} {Q : Unit → Shared → Prop}
    (hC : h.get? C = some (excClassObj nm q C N bs (cs.map Value.ref ++ bt) hdct sn sub ab col dd k0 k1 k2 k3 k5 newId)) (hq : Q () ⟨h, g, d, t, os⟩) : wpAny M A (checkBuiltinCall newId ⟨.ref C :: rest, kw⟩) Q E ⟨h, g, d, t, os⟩ := by
  obtain ⟨i0, b0, G⟩ := F.new
  have hcont : (Value.ref C :: (cs.map Value.ref ++ bt)).contains (.type NB) = true := by rw [List.contains_cons, refs_has, F.cN, Bool.or_true]
  have hstar := G.noStar
  simp only [checkBuiltinCall, G.newKind, G.newSplit, G.newRow]
  repeat (first | refine wpAny_loadPart_at hC ?_ | (refine wpAny_isSubtype_exc hC ?_; rw [hcont]) | refine wpAny_staticBase_exc hC ?_ | refine wpAny_madeBy_exc hC ?_ | simp only [bne_self_eq_false, Bool.false_eq_true, if_false] | wp_step)
  exact hq
theorem check_init (F : XBase NB newId IB initId bt) {e : Addr} {oe : Obj} {rest : List Value} {Q : Unit → Shared → Prop}
    (hC : h.get? C = some (excClassObj nm q C N bs (cs.map Value.ref ++ bt) hdct sn sub ab col dd k0 k1 k2 k3 k5 newId)) (he : h.get? e = some oe) (hcls : oe.cls = .ref C) (hq : Q () ⟨h, g, d, t, os⟩) :
    wpAny M A (checkBuiltinCall initId ⟨.ref e :: rest, []⟩) Q E ⟨h, g, d, t, os⟩ := by
  have hcB : (Value.ref C :: (cs.map Value.ref ++ bt)).contains (.type IB) = true := by rw [List.contains_cons, refs_has, F.cI, Bool.or_true]
  have hshort := F.ini.noStar
  simp only [checkBuiltinCall, F.ini.kind, F.ini.split, F.ini.row]
  repeat (first | (with_reducible refine wpAny_loadPart_at he ?_; rw [hcls]) | with_reducible refine wpAny_loadPart_at hC ?_ | (with_reducible refine wpAny_isSubtype_exc hC ?_; rw [hcB]) | wp_step)
  refine wpAny_onRaise ?_
  rw [show ∀ (a b : String) (n : Nat), Bind.check ⟨.positional, "*", IB, .self, [⟨"args", .varPos, false⟩]⟩ a b n (List.map (fun x => x.fst) ({ pos := Value.ref e :: rest } : Args).kw) = pure () from
    fun a b n => check_star_args _ _ _ _ _ _]
  exact wpAny_pure hq
end
section
variable {prog : Program} {w : World} {A : Around} {E : Value → Shared → Prop} {R : Result → Shared → Prop} {h : Heap} {g : Array GenState} {d : Drawn} {t : Nat} {os : OsState}
variable {nm q : Str} {C N : Addr} {bs bt : List Value} {cs : List Addr} {hdct : Bool} {sn : List Str} {sub : List Value} {ab : Bool} {col : Option Bool} {dd : Option Addr} {k0 k1 k2 k3 k5 : Option Value} {NB newId IB initId : String}
theorem new_ (F : XBase NB newId IB initId bt) {rest : List Value} {kw : List (Str × Value)}
    (hC : h.get? C = some (excClassObj nm q C N bs (cs.map Value.ref ++ bt) hdct sn sub ab col dd k0 k1 k2 k3 k5 newId))
    (hq : R (.ok (.ret (.ref (h.objs.size + 1)))) ⟨(h.push { cls := .type "tuple", data := .seq rest.toArray }).push
      { cls := .ref C, data := .fields #[.ref h.objs.size, .none, .none, .none, .bool false, .none] }, g, d, t, os⟩) (hrest : rest.length ≤ sizeLine) :
    codeAny (model prog w) A (.builtin newId ⟨.ref C :: rest, kw⟩) R ⟨h, g, d, t, os⟩ := by
  obtain ⟨i0, b0, G⟩ := F.new
  have hends := G.ends
  have hcB : (Value.ref C :: (cs.map Value.ref ++ bt)).contains (.type NB) = true := by rw [List.contains_cons, refs_has, F.cN, Bool.or_true]
  have hcA : (Value.ref C :: (cs.map Value.ref ++ bt)).contains (.type "AttributeError") = false := by rw [List.contains_cons, refs_has, F.cA]; rfl
  have hcN : (Value.ref C :: (cs.map Value.ref ++ bt)).contains (.type "NameError") = false := by rw [List.contains_cons, refs_has, F.cM]; rfl
  refine codeAny_builtinAt G.entry ?_
  unfold Builtin.«BaseException.__new__»
  refine wpAt_bind ?_
  show wpAt _ _ _ (stack >>= _) _ _ _
  refine wpAt_bind (wpAt_stack fun p below => wpAt_of_wpAny ?_)
  wp_walk
  refine wpAt_of_wpAny ?_
  rw [G.owner]
  repeat (first | with_reducible refine wpAny_madeHere_exc G.canon hC ?_ | with_reducible refine wpAny_loadPart_at hC ?_ | (with_reducible refine wpAny_isSubtype_exc hC ?_; first | rw [hcB] | rw [hcA] | rw [hcN]) | wp_step)
  show R _ _
  rw [Heap.size_push]
  exact hq
theorem type_call (F : XBase NB newId IB initId bt) {rest : List Value} {kw : List (Str × Value)} {fI : Addr} {Q : Fin → Shared → Prop}
    (hC : h.get? C = some (excClassObj nm q C N bs (cs.map Value.ref ++ bt) hdct sn sub ab col dd k0 k1 k2 k3 k5 newId))
    (hi : W.Looks (model prog w) h (typeLookup (.ref C) "__init__") (some (.ref fI))) (hb : ∀ self, W.Looks (model prog w) h (bindSpecial (.ref fI) self) (.ref fI, [self])) (hrest : rest.length ≤ sizeLine)
    (hq : codeAny (model prog w) A (.call (.ref fI) ⟨.ref (h.objs.size + 1) :: rest, kw⟩)
      (fun r s' => match r with | .ok (.ret v) => v = .none ∧ Q (.done (.ret (.ref (h.objs.size + 1)))) s' | .ok _ => False | .error e => E e s')
      ⟨(h.push (W.kdv_tup rest)).push (excO C h.objs.size), g, d, t, os⟩) :
    wpAny (model prog w) A (Builtin.«type.__call__» ⟨.ref C :: rest, kw⟩) Q E ⟨h, g, d, t, os⟩ := by
  obtain ⟨i0, b0, G⟩ := id F.new
  repeat (first | with_reducible refine wpAny_loadPart_at hC ?_ | with_reducible refine wpAny_madeBy_exc hC ?_ | wp_step)
  refine codeAny_call_builtin_code (Code.quiet_builtin _ G.quiet) (check_new F hC ?_)
  refine new_ F hC ?_ hrest
  show wpAny _ _ _ _ _ _
  have k : ∀ b o, h.get? b = some o → ((h.push (W.kdv_tup rest)).push (excO C h.objs.size)).get? b = some o := fun b o e => Heap.get?_push_of_some _ (Heap.get?_push_of_some _ e)
  have hC₁ := k _ _ hC
  have hget : ((h.push (W.kdv_tup rest)).push (excO C h.objs.size)).get? (h.objs.size + 1) = some (excO C h.objs.size) := by heap_get
  have hcC : (Value.ref C :: (cs.map Value.ref ++ bt)).contains (.ref C) = true := by simp
  have i1 := hi.keeps k
  have b1 := (hb (.ref (h.objs.size + 1))).keeps k
  unfold isInstance
  repeat (first | with_reducible refine wpAny_loadPart_at hget ?_ | (with_reducible refine wpAny_isSubtype_exc hC₁ ?_; rw [hcC]) | wp_step)
  show wpAny _ _ (typeLookup (.ref C) _) _ _ _
  refine i1.at ?_
  refine wpAny_holding (wpAny_bind (b1.at ?_))
  refine wpAny_bind (wpAny_call (codeAny_mono hq fun r s' z => ?_))
  rcases r with e | (v | _ | _ | _) <;> first | exact z | exact z.elim | skip
  obtain ⟨rfl, z⟩ := z
  first
    | exact wpAny_pure (wpAny_pure z)
    | (wp_walk; exact z)
theorem check_tc {M : Model} {rest : List Value} {kw : List (Str × Value)} {Q : Unit → Shared → Prop} (hC : h.get? C = some (excClassObj nm q C N bs (cs.map Value.ref ++ bt) hdct sn sub ab col dd k0 k1 k2 k3 k5 newId))
    (hq : Q () ⟨h, g, d, t, os⟩) : wpAny M A (checkBuiltinCall "type.__call__" ⟨.ref C :: rest, kw⟩) Q E ⟨h, g, d, t, os⟩ := by
  have f3 := tc_sub
  have hT : (⟨h, g, d, t, os⟩ : Shared).TypeIs (.ref C) "type" := ⟨_, hC, rfl⟩
  simp only [checkBuiltinCall, tc_kind, tc_split]
  repeat (any_goals (first | assumption | with_reducible refine wpAny_loadPart_at hC ?_ | with_reducible refine wpAny_onRaise ?_ | with_reducible refine wpAny_map ?_ | wp_step))
theorem call_x (F : XBase NB newId IB initId bt) {rest : List Value} {kw : List (Str × Value)} {fI : Addr}
    (hC : h.get? C = some (excClassObj nm q C N bs (cs.map Value.ref ++ bt) hdct sn sub ab col dd k0 k1 k2 k3 k5 newId))
    (hi : W.Looks (model prog w) h (typeLookup (.ref C) "__init__") (some (.ref fI))) (hb : ∀ self, W.Looks (model prog w) h (bindSpecial (.ref fI) self) (.ref fI, [self])) (hrest : rest.length ≤ sizeLine)
    (hq : codeAny (model prog w) (A.under (.builtin "type.__call__" ⟨.ref C :: rest, kw⟩)) (.call (.ref fI) ⟨.ref (h.objs.size + 1) :: rest, kw⟩) (W.InitBack (h.objs.size + 1) R)
      ⟨(h.push (W.kdv_tup rest)).push (excO C h.objs.size), g, d, t, os⟩) :
    codeAny (model prog w) A (.call (.ref C) ⟨rest, kw⟩) R ⟨h, g, d, t, os⟩ := by
  have f1 := tc_lookup
  have f2 := tc_bind (.ref C)
  have hTy : (⟨h, g, d, t, os⟩ : Shared).TypeIs (.ref C) "type" := ⟨_, hC, rfl⟩
  refine codeAny_of_tree ?_
  show wpAny _ _ (callAny (.ref C) _) _ _ _
  repeat (any_goals (first | assumption | with_reducible refine wpAny_loadPart_at hC ?_ | wp_step))
  refine ⟨rfl, ?_⟩
  refine codeAny_call_builtin_at (Code.quiet_builtin _ (by decide +kernel)) entry_typeCall (check_tc hC (type_call F hC hi hb hrest ?_))
  refine codeAny_mono hq fun r s' z => ?_
  rcases r with e | (v | _ | _ | _) <;> exact z
/-- B.__init__(e, ..) -/
theorem init_x (F : XBase NB newId IB initId bt) {e t0 : Addr} {rest : List Value}
    (hC : h.get? C = some (excClassObj nm q C N bs (cs.map Value.ref ++ bt) hdct sn sub ab col dd k0 k1 k2 k3 k5 newId)) (he : h.get? e = some (excO C t0)) (hrest : rest.length ≤ sizeLine)
    (hq : ∀ h' t1, (∀ b o, b ≠ e → h.get? b = some o → h'.get? b = some o) → h'.get? e = some (excO C t1) → R (.ok (.ret .none)) ⟨h', g, d, t, os⟩) :
    codeAny (model prog w) A (.call (.builtin initId) ⟨.ref e :: rest, []⟩) R ⟨h, g, d, t, os⟩ := by
  refine codeAny_call_builtin F.ini.plain F.ini.entry (check_init F hC he rfl ?_)
  wp_walk
  refine hq _ h.objs.size (fun b o hb ho => ?_) ?_
  · rw [Heap.get?_update_other _ _ (Ne.symm hb)]
    exact Heap.get?_push_of_some _ ho
  · rw [Heap.get?_update_self _ (Heap.get?_push_of_some _ he) rfl]
    rfl
end
section
variable {prog : Program} {w : World} {A : Around} {E : Value → Shared → Prop} {R : Result → Shared → Prop} {hp : Heap} {g : Array GenState} {d : Drawn} {t : Nat} {os : OsState}
/-- the first field of an error -/
theorem osa_new {K : W.Frag} {NB newId IB initId : String} {bt : List Value} {cs : List Addr} (F : XBase NB newId IB initId bt) {name : Str} {tk : Tok} {v : Value} {x C : Addr} {fv : Array Value} {cd : ClassData}
    (X : K.In hp) (hx : hp.get? x = some { cls := .ref C, data := .fields fv }) (hcd : W.clsIn K C = some cd) (hm : cd.mro = .ref C :: (cs.map Value.ref ++ bt)) (hh : cd.hasDict = true) (ha : W.findIn K (.ref C) name = some none)
    (hq : ∀ h' tk' dx, (∀ b o, b ≠ x → hp.get? b = some o → h'.get? b = some o) → hp.objs.size ≤ dx → dx ≠ x → h'.get? x = some { cls := .ref C, dict := some dx, data := .fields fv } →
      h'.Ns1 dx (fun y => if y = name then some v else none) → R (.ok (.ret .none)) ⟨h', g, d, tk', os⟩) :
    codeAny (model prog w) A (.call (.builtin "object.__setattr__") ⟨[.ref x, .str name tk, v], []⟩) R ⟨hp, g, d, t, os⟩ := by
  have I : W.InstAt hp x { cls := .ref C, data := .fields fv } C none := ⟨hx, rfl, rfl, trivial⟩
  have SF := PySem.F.store_object
  have ne : cd.mro.isEmpty = false := by rw [hm]; rfl
  have hob : cd.mro.contains (.type "object") = true := by
    rw [hm, List.contains_cons, refs_has, F.cO, Bool.or_true]
  have hxs : x ≠ hp.objs.size := Nat.ne_of_lt (Heap.lt_size hx)
  have sub : W.Looks (model prog w) hp (isInstance (.ref x) (.type "object")) true := I.type.andThen (W.looks_mroIn X (by unfold W.mroIn; rw [hcd, Option.bind_some, if_neg (by rw [ne]; decide), hob]))
  refine codeAny_call_builtin SF.slot.plain SF.entry (@W.check_slot (model prog w) _ _ ⟨hp, g, d, t, os⟩ "object.__setattr__" "object" "__setattr__" (.ref x) [.str name tk, v] [] _ SF.kind SF.split sub (SF.args (.ref x) (.str name tk) v) ?_)
  have hmr : W.Looks (model prog w) hp (mroOf (.ref C)) cd.mro := (W.looks_clsIn X hcd).andThen .now
  have L3 : W.Looks (model prog w) hp (storeTaker? none) none := .now
  have hcls : W.Looks (model prog w) hp (classData C) cd := W.looks_clsIn X hcd
  rw [W.osa_eq, refuse_eq]
  refine wpAny_bind (wpAny_bind (I.type.at (wpAny_bind (hmr.at ?_))))
  rw [hm, refuseLoop_ref, refs_pass, F.pass]
  refine wpAny_pure (wpAny_bind (I.type.at (wpAny_bind ((W.looks_findIn X ha).at (wpAny_bind (L3.at ?_))))))
  show wpAny _ _ (storeInOwnDict (.ref x) (.ref C) (.str name tk) name v false) _ _ _
  obtain ⟨nm, bs, mro, ns, qn, hd, sn, sb, ab, col, del⟩ := cd
  dsimp only at hh
  subst hh
  unfold storeInOwnDict ownDictForStores
  repeat (first | with_reducible refine HandSPX.store_in_new ?_ ?_ | with_reducible refine wpAny_loadPart_at hx ?_ | with_reducible refine hcls.at ?_ | wp_step)
  · exact ⟨_, #[], _, (Heap.get?_update_ne _ _ _ _ hxs.symm).trans (Heap.get?_push_at rfl rfl), rfl, fun e he => absurd he (by simp), fun _ => rfl⟩
  · intro h' tk' hn' hs
    have hx₁ : (hp.push { cls := .type "dict", data := .dict #[] }).get? x = some { cls := .ref C, data := .fields fv } := Heap.get?_push_of_some _ hx
    refine hq h' tk' hp.objs.size (fun b o hb ho => ?_) (Nat.le_refl _) hxs.symm ?_ hn'
    · exact (hs.2 b (Nat.ne_of_lt (Heap.lt_size ho))).trans ((Heap.get?_update_ne _ _ _ _ hb).trans (Heap.get?_push_of_some _ ho))
    · exact (hs.2 x hxs).trans (Heap.get?_update_self _ hx₁ rfl)
/-- a further field -/
theorem osa_old {K : W.Frag} {NB newId IB initId : String} {bt : List Value} {cs : List Addr} (F : XBase NB newId IB initId bt) {name : Str} {tk : Tok} {v : Value} {x C dx : Addr} {fv : Array Value} {cd : ClassData} {m0 : Str → Option Value} {nl : List Str}
    (X : K.In hp) (hx : hp.get? x = some { cls := .ref C, dict := some dx, data := .fields fv }) (hns : hp.Ns1 dx m0) (hw : Within m0 nl) (hz : nl.length ≤ 1000) (hcd : W.clsIn K C = some cd) (hm : cd.mro = .ref C :: (cs.map Value.ref ++ bt)) (hh : cd.hasDict = true)
    (ha : W.findIn K (.ref C) name = some none)
    (hq : ∀ h' tk', (∀ b o, b ≠ dx → hp.get? b = some o → h'.get? b = some o) → h'.Ns1 dx (fun y => if y = name then some v else m0 y) → R (.ok (.ret .none)) ⟨h', g, d, tk', os⟩) :
    codeAny (model prog w) A (.call (.builtin "object.__setattr__") ⟨[.ref x, .str name tk, v], []⟩) R ⟨hp, g, d, t, os⟩ := by
  obtain ⟨oD, esD, epD, hoD, hdD, _⟩ := hns.count hw
  have I : W.InstAt hp x { cls := .ref C, dict := some dx, data := .fields fv } C (some oD) := ⟨hx, rfl, rfl, hoD⟩
  have SF := PySem.F.store_object
  have ne : cd.mro.isEmpty = false := by rw [hm]; rfl
  have hob : cd.mro.contains (.type "object") = true := by
    rw [hm, List.contains_cons, refs_has, F.cO, Bool.or_true]
  have sub : W.Looks (model prog w) hp (isInstance (.ref x) (.type "object")) true := I.type.andThen (W.looks_mroIn X (by unfold W.mroIn; rw [hcd, Option.bind_some, if_neg (by rw [ne]; decide), hob]))
  refine codeAny_call_builtin SF.slot.plain SF.entry (@W.check_slot (model prog w) _ _ ⟨hp, g, d, t, os⟩ "object.__setattr__" "object" "__setattr__" (.ref x) [.str name tk, v] [] _ SF.kind SF.split sub (SF.args (.ref x) (.str name tk) v) ?_)
  have hmr : W.Looks (model prog w) hp (mroOf (.ref C)) cd.mro := (W.looks_clsIn X hcd).andThen .now
  have L3 : W.Looks (model prog w) hp (storeTaker? none) none := .now
  have hcls : W.Looks (model prog w) hp (classData C) cd := W.looks_clsIn X hcd
  rw [W.osa_eq, refuse_eq]
  refine wpAny_bind (wpAny_bind (I.type.at (wpAny_bind (hmr.at ?_))))
  rw [hm, refuseLoop_ref, refs_pass, F.pass]
  refine wpAny_pure (wpAny_bind (I.type.at (wpAny_bind ((W.looks_findIn X ha).at (wpAny_bind (L3.at ?_))))))
  show wpAny _ _ (storeInOwnDict (.ref x) (.ref C) (.str name tk) name v false) _ _ _
  obtain ⟨nm, bs, mro, ns, qn, hd, sn, sb, ab, col, del⟩ := cd
  dsimp only at hh
  subst hh
  unfold storeInOwnDict ownDictForStores
  repeat (first | with_reducible refine PySem.OEX.store_in_old hns hw hz ?_ | with_reducible refine wpAny_loadPart_at hx ?_ | with_reducible refine hcls.at ?_ | wp_step)
  intro h' tk' hn' hs
  exact hq h' tk' (fun b o hb ho => (hs.2 b hb).trans ho) hn'
end
end MeX
end PySem
set_option Elab.async false
set_option linter.all false
set_option maxRecDepth 100000
set_option maxHeartbeats 4000000
/-! the same as rules of HandS; what HandS.ExcInit shows of one base (its proofs were followed) for three bases, keywords and further fields -/
namespace MeH
open PySem PySem.Spec PyProof.Rows L2
/-- an own error class; ini: the name of its base's __init__ -/
structure XCls (K : PySem.W.Frag) (C : Addr) (ini : String) : Prop where
  cls : ∃ (NB newId IB : String) (bt : List Value) (cs : List Addr) (nm q : Str) (N : Addr) (bs : List Value) (sn : List Str) (sub : List Value) (ab : Bool) (col : Option Bool) (dd : Option Addr) (k0 k1 k2 k3 k5 : Option Value),
    MeX.XBase NB newId IB ini bt ∧ K.lookup C = some (excClassObj nm q C N bs (cs.map Value.ref ++ bt) true sn sub ab col dd k0 k1 k2 k3 k5 newId)
  sa : PySem.W.findIn K (.ref C) "__setattr__" = some (some (.builtin "object.__setattr__"))
  kC : PySem.W.keepIn K (.ref C) = true
  ga : PySem.W.findIn K (.ref C) "__getattribute__" = some (some (.builtin "BaseException.__getattribute__"))
  gt : PySem.W.findIn K (.ref C) "__getattr__" = some none
  su : PySem.W.subIn K (.ref C) (.type "BaseException") = some true
  hd : PySem.W.hasDictIn K C = true
  ca : PySem.W.findIn K (.ref C) "__class__" = some (some (.builtin "object.__class__"))
  sp : PySem.W.specialIn K (.builtin "object.__class__") "__get__" = some (some (.builtin "getset_descriptor.__get__"))
  tk : PySem.W.takesIn K (.builtin "object.__class__") = some true
  mo : PySem.W.mroIn K C (.type "object") = some true
section
variable {X : Cx} {pins : List (Addr × Obj)} {σ : L2.St} {H : Hp} {s : Shared} {a C dx : Addr} {ini : String} {f : Str} {y : V} {u : Value} {fs : List (Str × V)} {Q : Unit → Shared → Prop} {E : Value → Shared → Prop} {A : Around}
theorem xst_new (T : XCls X.K C ini) (I : Inv X pins σ H s) (e : H a = some (exo a C none)) (hno : PySem.W.findIn X.K (.ref C) f = some none) (ry : RelV y u)
    (h : ∀ dx s', H dx = none → dx ≠ a → Inv X pins σ (upd (upd H dx (exd dx [(f, y)])) a (exo a C (some dx))) s' → Q () s') : wpAny (model X.prog X.w) A (setAttr (.ref a) f u) Q E s := by
  obtain ⟨NB, newId, IB, bt, cs, nm, q, N, bs, sn, sub, ab, col, dd, k0, k1, k2, k3, k5, FB, hC⟩ := T.cls
  have hcl : PySem.W.clsIn X.K C = some { name := nm, bases := bs, mro := .ref C :: (cs.map Value.ref ++ bt), ns := N, qualname := q, hasDict := true, slotNames := sn, subclasses := sub, abstract := ab, collection := col, hasDel := false } := by unfold PySem.W.clsIn; rw [hC] <;> rfl
  obtain ⟨t1, ho⟩ := exo_at I.hok e
  obtain ⟨hp, g, d, t, os⟩ := s
  refine PySem.W.set_plain I.kIn (ox := { cls := .ref C, dict := none, data := .fields #[.ref t1, .none, .none, .none, .bool false, .none] }) (od := none) ⟨ho, rfl, rfl, trivial⟩ T.sa ?_
  refine MeX.osa_new FB I.kIn ho hcl rfl rfl hno (fun h' tk' dx k dn dne hx hn => ?_)
  have hnd : H dx = none := I.hok.fresh dn
  have nd : ∀ {b : Addr} {o : Obj}, hp.get? b = some o → b ≠ dx := fun {b o} q => Nat.ne_of_lt (Nat.lt_of_lt_of_le (Heap.lt_size q) dn)
  have na : ∀ {b : Addr}, H b = none → b ≠ a := fun {b} n z => by
    rw [z, e] at n
    cases n
  have Un1 : Un X.fs [] H (upd (upd H dx (exd dx [(f, y)])) a (exo a C (some dx))) hp h' := {
    keep := fun b o q n _ _ => k b o (na n) q
    slot := fun b o q n _ _ => ⟨o.slots, k b o (na n) q⟩
    free := fun b o q n _ => by rw [upd_ne (na n), upd_ne (nd q)]; exact n
    there := fun b o q _ => by
      by_cases hb : b = a
      · exact ⟨_, by rw [hb]; exact hx⟩
      · exact ⟨o, k b o hb q⟩
    tups := fun b xs q => by rw [upd_ne (at_ne e q exo_tup), upd_ne (ne_of_none q hnd)]; exact q
    frzs := fun b o v q => by rw [upd_ne (at_ne e q exo_frz), upd_ne (ne_of_none q hnd)]; exact q
    tbls := fun b ps q => ⟨#[], by rw [upd_ne (at_ne e q exo_tbl), upd_ne (ne_of_none q hnd), q]; simp⟩ }
  refine h dx _ hnd dne (I.un (t' := tk') Un1 fun b o q => ?_)
  by_cases hb : b = a
  · subst hb
    rw [upd_same] at q
    cases q
    exact exo_ok hx
  · rw [upd_ne hb] at q
    by_cases hd : b = dx
    · subst hd
      rw [upd_same] at q
      cases q
      exact exd_ok hn (relO_put (fs := []) ry fun g => True.intro)
    · rw [upd_ne hd] at q
      exact (I.hok b o q).stay (fun c v hc z => k c v (by
          rcases hc with hc | hc
          · rw [hc]
            exact hb
          · exact at_ne e hc exo_own) z)
        (fun c hc => by rw [upd_ne (at_ne e hc exo_own), upd_ne (ne_of_none hc hnd)]; exact hc) (fun c xs hc => by rw [upd_ne (at_ne e hc exo_tup), upd_ne (ne_of_none hc hnd)]; exact hc)
theorem xst_old (T : XCls X.K C ini) (I : Inv X pins σ H s) (e : H a = some (exo a C (some dx))) (ed : H dx = some (exd dx fs)) (hl : fs.length ≤ 900) (hno : PySem.W.findIn X.K (.ref C) f = some none) (ry : RelV y u)
    (h : ∀ s', Inv X pins σ (upd H dx (exd dx ((f, y) :: fs))) s' → Q () s') : wpAny (model X.prog X.w) A (setAttr (.ref a) f u) Q E s := by
  obtain ⟨NB, newId, IB, bt, cs, nm, q, N, bs, sn, sub, ab, col, dd, k0, k1, k2, k3, k5, FB, hC⟩ := T.cls
  have hcl : PySem.W.clsIn X.K C = some { name := nm, bases := bs, mro := .ref C :: (cs.map Value.ref ++ bt), ns := N, qualname := q, hasDict := true, slotNames := sn, subclasses := sub, abstract := ab, collection := col, hasDel := false } := by unfold PySem.W.clsIn; rw [hC] <;> rfl
  obtain ⟨t1, ho⟩ := exo_at I.hok e
  obtain ⟨mA, hns, rel⟩ := exd_at I.hok ed
  have hw := within_of rel
  obtain ⟨hp, g, d, t, os⟩ := s
  obtain ⟨oD, _, _, hoD, _, _⟩ := hns.count hw
  refine PySem.W.set_plain I.kIn (ox := { cls := .ref C, dict := some dx, data := .fields #[.ref t1, .none, .none, .none, .bool false, .none] }) (od := some oD) ⟨ho, rfl, rfl, hoD⟩ T.sa ?_
  refine MeX.osa_old FB I.kIn ho hns hw (by rw [List.length_map]; omega) hcl rfl rfl hno (fun h' tk' k hn => ?_)
  have hd : ∃ o, h'.get? dx = some o := by
    obtain ⟨o, _, _, e', _⟩ := hn
    exact ⟨o, e'⟩
  exact h _ (I.write (t' := tk') (x := dx) (e := dx) (o := exd dx ((f, y) :: fs)) (by rw [ed]; exact True.intro) (.inl rfl) k hd (exd_ok hn (relO_put ry rel)))
theorem xinit_ok {us : List Value} {Q : Value → Shared → Prop} (T : XCls X.K C ini) (I : Inv X pins σ H s) (e : H a = some (exo a C none)) (hl : us.length ≤ sizeLine) (h : ∀ s', Inv X pins σ H s' → Q .none s') :
    wpAny (model X.prog X.w) A (call (.builtin ini) (.ref a :: us)) Q E s := by
  obtain ⟨NB, newId, IB, bt, cs, nm, q, N, bs, sn, sub, ab, col, dd, k0, k1, k2, k3, k5, FB, hC⟩ := T.cls
  obtain ⟨t1, ho⟩ := exo_at I.hok e
  obtain ⟨hp, g, d, t, os⟩ := s
  refine wpAny_call (MeX.init_x FB (I.kIn _ _ hC) ho hl fun h' t2 k hx => ?_)
  have J := I.write (t' := t) (x := a) (e := a) (o := exo a C none) (by rw [e]; exact True.intro) (.inl rfl) k ⟨_, hx⟩ (exo_ok hx)
  have eu : upd H a (exo a C none) = H := by
    funext b
    by_cases hb : b = a
    · rw [hb, upd_same, e]
    · rw [upd_ne hb]
  rw [eu] at J
  exact h _ J
end
/-- B.__init__(self, ..) -/
def tXini (K : PySem.W.Frag) (ini : String) (ta : TA) : TE := fun σ H Q => ta σ H fun vs H1 => ∃ (a C : Addr) (ws : List V), vs = .ref a :: ws ∧ ws.length ≤ 1000 ∧ XCls K C ini ∧ H1 a = some (exo a C none) ∧ Q .non H1
/-- self.f = e -/
def tXst (K : PySem.W.Frag) (f : Str) (to te : TE) : TS := fun D σ H => te σ H fun y H1 => to σ H1 fun x H2 => ∃ (a C : Addr) (ini : String), x = .ref a ∧ XCls K C ini ∧ PySem.W.findIn K (.ref C) f = some none ∧
  ((H2 a = some (exo a C none) ∧ ∀ dx, H2 dx = none → dx ≠ a → D.nx σ (upd (upd H2 dx (exd dx [(f, y)])) a (exo a C (some dx)))) ∨
    ∃ (dx : Addr) (fs : List (Str × V)), H2 a = some (exo a C (some dx)) ∧ H2 dx = some (exd dx fs) ∧ fs.length ≤ 900 ∧ D.nx σ (upd H2 dx (exd dx ((f, y) :: fs))))
/-- e.f of an error that has its dict -/
def tXfl (K : PySem.W.Frag) (f : Str) (to : TE) : TE := fun σ H Q => to σ H fun x H1 => ∃ (a C : Addr) (ini : String) (dx : Addr) (fs : List (Str × V)) (v : V), x = .ref a ∧ XCls K C ini ∧ PySem.W.findIn K (.ref C) f = some none ∧
  H1 a = some (exo a C (some dx)) ∧ H1 dx = some (exd dx fs) ∧ fs.lookup f = some v ∧ Q v H1
/-- C(e, .., k = v, ..) as a value -/
def tXmk (C : Addr) (n m : Nat) (sp : Sp) (gV : List V → List V → List V) (E : XK) (t tk : TA) : TE := fun σ H Q => t σ H fun vs H1 => tk σ H1 fun zs H2 => vs.length = n ∧ zs.length = m ∧ n ≤ 1000 ∧
  ∀ a, H2 a = none → sp (gV (.ref a :: vs) zs) (upd H2 a (exo a C none)) (fun v H3 => v = .non ∧ Q (.ref a) H3) E
/-- isinstance(e, c), e an error that stands in H -/
def rXis (K : PySem.W.Frag) : List V → Hp → VK → Prop := fun xs H Q => ∃ (a C : Addr) (ini : String) (d : Option Addr) (c : V) (u : Value) (b : Bool), xs = [.ref a, c] ∧ ClsV c u ∧ XCls K C ini ∧ H a = some (exo a C d) ∧ (∀ dx, d = some dx → ∃ fs, H dx = some (exd dx fs)) ∧
  PySem.W.kitOne K (.ref C) u = some b ∧ Q (.bl b) H
section
variable {X : Cx} {o e : Expr} {es : List Expr} {to te : TE} {ta : TA} {f : Str} {p p' p1 p2 pos : Pos} {ini : String}
theorem ps_xst (ho : PE X o to) (he : PE X e te) (hs : swapsWith e (some (.Attribute o f p')) pos.line X.env = pure false := by rfl) : PS X (.Assign [.Attribute o f p'] e pos) (tXst X.K f to te) := by
  refine ⟨fun pins s σ H D I h => ?_⟩
  refine plainObj_wpAny_Assign_Attribute (thn (he.run pins s σ H _ I h) fun v s1 ⟨y, H1, I1, r1, q1⟩ => thn (ho.run pins s1 σ H1 _ I1 q1) fun u s2 ⟨x, H2, I2, r2, a, C, ini, ex, T, hno, q⟩ => ?_) hs
  subst ex
  obtain rfl : u = Value.ref a := r2
  rcases q with ⟨ea, q⟩ | ⟨dx, fs, ea, ed, hl, q⟩
  · exact xst_new T I2 ea hno r1 fun dx s' n ne J => ⟨σ, _, J, q dx n ne⟩
  · exact xst_old T I2 ea ed hl hno r1 fun s' J => ⟨σ, _, J, q⟩
/-- the base a built-in class -/
theorem pe_xiniB {B : Str} {Bn : String} {pl : Sem Bool} (hg : Gl X B) (hm : X.mg B = none) (hv : bootBuiltins B = some (.type Bn)) (ht : typeOf (.type Bn) = pure (.type "type")) (hst : Manifest.isStub Bn = false)
    (vV : PySem.W.findCls X.K (.type Bn) (.type "type") "__init__" = some (.val (.builtin ini))) (hh : PySem.W.handedIn (.builtin ini) = true) (ha : PA X (e :: es) ta) (hn : B ≠ "__name__" := by decide) (hdb : (B == ("__debug__" : Str)) = false := by decide)
    (hc : eval (.Call (.Attribute (.Name B p1) "__init__" p2) (e :: es) [] pos) X.env = (do
      let ov ← eval (.Name B p1) X.env
      standAt p2.atName
      let (f, first) ← holding [ov] (getMethod ov "__init__" pl)
      callWith pos f first (backTo pos (starEach (e :: es) X.env)) (backToKw pos (keywordEach [] X.env))) := by rfl)
    (he : starEach (e :: es) X.env = (false, eval e X.env) :: starEach es X.env := by rfl) (hpl : (backTo pos (starEach es X.env)).any (·.1) = false := by rfl) :
    PE X (.Call (.Attribute (.Name B p1) "__init__" p2) (e :: es) [] pos) (tXini X.K ini ta) := by
  refine ⟨fun pins s σ H Q I h => ?_⟩
  refine PySem.W.methodCall_KW (ld_blt I hg hm hv ?_ hn hdb) hc
  obtain ⟨m, fr⟩ := I.fr
  refine PySem.W.method_type fr I.ok.mod.kin ht hst vV hh ?_
  show wpAny _ _ (callWith pos (Value.builtin ini) [] (backTo pos (starEach (e :: es) X.env)) []) _ _ _
  refine PyProof.Rows.callWith_method1 (thn (ha.run pos pins _ σ H _ (I.tok _) h) fun us s1 ⟨vs, H1, I1, r1, a, C, ws, ev, hl, T, ea, q⟩ => ?_) he hpl
  subst ev
  cases r1 with
  | @cons _ u0 _ ur ra rw' =>
    obtain rfl : u0 = Value.ref a := ra
    have hlen : ur.length ≤ sizeLine := by
      rw [← Paired.length rw', sizeLine_eq]
      omega
    exact xinit_ok T I1 ea hlen fun s' J => ⟨.non, H1, J, rfl, q⟩
/-- the base an own class -/
theorem pe_xiniC {B : Str} {CB : Addr} {mc : Value} {pl : Sem Bool} (hg : Gl X B) (hm : X.mg B = some (.ref CB)) (rd : PySem.W.readsIn X.K CB mc = true) (ga : PySem.W.specialIn X.K (.ref CB) "__getattribute__" = some (some (.builtin "type.__getattribute__")))
    (vV : PySem.W.findCls X.K (.ref CB) mc "__init__" = some (.val (.builtin ini))) (hh : PySem.W.handedIn (.builtin ini) = true) (ha : PA X (e :: es) ta) (hdb : (B == ("__debug__" : Str)) = false := by decide)
    (hc : eval (.Call (.Attribute (.Name B p1) "__init__" p2) (e :: es) [] pos) X.env = (do
      let ov ← eval (.Name B p1) X.env
      standAt p2.atName
      let (f, first) ← holding [ov] (getMethod ov "__init__" pl)
      callWith pos f first (backTo pos (starEach (e :: es) X.env)) (backToKw pos (keywordEach [] X.env))) := by rfl)
    (he : starEach (e :: es) X.env = (false, eval e X.env) :: starEach es X.env := by rfl) (hpl : (backTo pos (starEach es X.env)).any (·.1) = false := by rfl) :
    PE X (.Call (.Attribute (.Name B p1) "__init__" p2) (e :: es) [] pos) (tXini X.K ini ta) := by
  refine ⟨fun pins s σ H Q I h => ?_⟩
  refine PySem.W.methodCall_KW (ld_glob I hg hm ?_ hdb) hc
  refine PySem.W.method_cls I.kIn ga (PySem.W.cls_value I.kIn rd vV hh ?_)
  show wpAny _ _ (callWith pos (Value.builtin ini) [] (backTo pos (starEach (e :: es) X.env)) []) _ _ _
  refine PyProof.Rows.callWith_method1 (thn (ha.run pos pins _ σ H _ (I.tok _) h) fun us s1 ⟨vs, H1, I1, r1, a, C, ws, ev, hl, T, ea, q⟩ => ?_) he hpl
  subst ev
  cases r1 with
  | @cons _ u0 _ ur ra rw' =>
    obtain rfl : u0 = Value.ref a := ra
    have hlen : ur.length ≤ sizeLine := by
      rw [← Paired.length rw', sizeLine_eq]
      omega
    exact xinit_ok T I1 ea hlen fun s' J => ⟨.non, H1, J, rfl, q⟩
theorem exo_inst {pins : List (Addr × Obj)} {σ : L2.St} {H : Hp} {s : Shared} {a C : Addr} {d : Option Addr} (I : Inv X pins σ H s) (e : H a = some (exo a C d)) (hd : ∀ dx, d = some dx → ∃ fs, H dx = some (exd dx fs)) :
    ∃ ox od, PySem.W.InstAt s.heap a ox C od := by
  obtain ⟨t1, ho⟩ := exo_at I.hok e
  cases d with
  | none => exact ⟨_, none, ho, rfl, rfl, trivial⟩
  | some dx =>
    obtain ⟨fs, ed⟩ := hd dx rfl
    obtain ⟨mA, hns, rel⟩ := exd_at I.hok ed
    obtain ⟨od, hod, _⟩ := lookIn_ns hns
    exact ⟨_, some od, ho, rfl, rfl, hod⟩
theorem pe_xfl (ho : PE X o to) (hb : attributeBase o f X.env (eval o X.env) = eval o X.env := by rfl) : PE X (.Attribute o f pos) (tXfl X.K f to) := by
  refine ⟨fun pins s σ H Q I h => ?_⟩
  refine attr_of hb (thn (ho.run pins s σ H _ I h) fun u s1 ⟨x, H1, I1, rx, a, C, ini, dx, fs, v, ex, T, hno, ea, ed, l, q⟩ => ?_)
  subst ex
  obtain rfl : u = Value.ref a := rx
  obtain ⟨t1, hoa⟩ := exo_at I1.hok ea
  obtain ⟨mA, hns, hr⟩ := exd_at I1.hok ed
  obtain ⟨od, hod, hl⟩ := lookIn_ns hns
  obtain ⟨w', hu, ru⟩ := RelO.some_of (v := v) (o := mA f) (by rw [← l]; exact hr f)
  have J : PySem.W.InstAt s1.heap a { cls := .ref C, dict := some dx, data := .fields #[.ref t1, .none, .none, .none, .bool false, .none] } C (some od) := ⟨hoa, rfl, rfl, hod⟩
  exact HandSPX.exc_get I1.kIn J T.ga T.gt T.su (PySem.W.findObj_own T.hd hno rfl (by rw [hl, hu])) (handed_of ru) ⟨v, H1, I1.tok _, ru, q⟩
theorem call_xis : CallR X (.builtin "isinstance") (rXis X.K) := by
  intro pins s σ H xs us Q I r h
  obtain ⟨a, C, ini, d, c, u, b, rfl, k, T, ea, ed, e, q⟩ := h
  obtain ⟨u1, u2, rfl, r1, r2⟩ := vals2 r
  have e2 := k.eq r2
  subst e2
  obtain rfl : u1 = Value.ref a := r1
  obtain ⟨ox, od, J⟩ := exo_inst I ea ed
  obtain ⟨cd, hcd, _⟩ := PySem.W.any_some T.hd
  exact PySem.W.kia_one (PySem.W.kitx_exc (by rw [hcd]; rfl) T.ga T.gt T.su T.ca T.sp T.tk T.mo) I.kIn J e (fun z => nomatch z) fun tk => ⟨.bl b, H, I.tok tk, rfl, q⟩
end
section
variable {X : Cx} {CX : CXT} {k n : Nat} {fI C : Addr} {fd : FuncData} {ps ks : List Str} {sp : Sp} {E : XK} {x : Str} {p pos : Pos} {e : Expr} {es : List Expr} {kws : List Keyword} {t tk : TA} {g : List Value → List Value → List Value} {gV : List V → List V → List V} {ini : String}
theorem run_xmk {pins : List (Addr × Obj)} {σ : L2.St} {H : Hp} {s : Shared} {Q : VK} {us ws : List Value} {vs zs : List V} (T : XCls X.K C ini) (iC : PySem.W.findIn X.K (.ref C) "__init__" = some (some (.ref fI))) (tI : PySem.W.typeIn X.K (.ref fI) = some (.type "function"))
    (F1 : FnOk X.prog X.w X.K X.mg X.base CX k fI fd ps sp) (hr : Room (k + 1) X.A) (hb : KBn X.K fd ps (n + 1) ks g gV) (hx : Passes CX X E) (I : Inv X pins σ H s) (r : Vals vs us) (rz : Vals zs ws) (l1 : vs.length = n) (l2 : zs.length = ks.length) (hn : n ≤ 1000)
    (h : ∀ a, H a = none → sp (gV (.ref a :: vs) zs) (upd H a (exo a C none)) (fun v H2 => v = .non ∧ Q (.ref a) H2) E) :
    wpAny (model X.prog X.w) X.A (call (.ref C) us (ks.zip ws)) (EP X pins σ Q) X.xe s := by
  obtain ⟨NB, newId, IB, bt, cs, nm, q, N, bs, sn, sub, ab, col, dd, k0, k1, k2, k3, k5, FB, hC⟩ := T.cls
  obtain ⟨hp, g0, dr, tk, os⟩ := s
  have hsz : hp.objs.size ≤ hp.objs.size + 1 := Nat.le_succ _
  have hq := h (hp.objs.size + 1) (I.hok.fresh hsz)
  have kk : ∀ b o, hp.get? b = some o → ((hp.push (PySem.W.kdv_tup us)).push (MeX.excO C hp.objs.size)).get? b = some o := fun b o e => Heap.get?_push_of_some _ (Heap.get?_push_of_some _ e)
  have hget : ((hp.push (PySem.W.kdv_tup us)).push (MeX.excO C hp.objs.size)).get? (hp.objs.size + 1) = some (MeX.excO C hp.objs.size) := by heap_get
  have I2 : Inv X pins σ (upd H (hp.objs.size + 1) (exo (hp.objs.size + 1) C none)) ⟨(hp.push (PySem.W.kdv_tup us)).push (MeX.excO C hp.objs.size), g0, dr, tk, os⟩ :=
    I.laid (t' := tk) (a := hp.objs.size + 1) (o := exo (hp.objs.size + 1) C none) (h' := (hp.push (PySem.W.kdv_tup us)).push (MeX.excO C hp.objs.size)) kk hsz (exo_ok hget)
  have r1 : Vals (V.ref (hp.objs.size + 1) :: vs) (Value.ref (hp.objs.size + 1) :: us) := .cons rfl r
  have r2 := hb.rel r1 rz
  have e1 : (Value.ref (hp.objs.size + 1) :: us).length = n + 1 := r1.length.symm.trans (congrArg Nat.succ l1)
  have e2 : ws.length = ks.length := rz.length.symm.trans l2
  have hus : us.length ≤ sizeLine := by
    rw [← Paired.length r, sizeLine_eq]
    omega
  refine wpAny_call (MeX.call_x FB (I.kIn _ _ hC) (PySem.W.looks_findIn I.kIn iC) (fun self => PySem.W.bind_fn I.kIn self tI) hus
    (codeAny_mono (F1.run _ X.stack _ _ ⟨Value.ref (hp.objs.size + 1) :: us, ks.zip ws⟩ (g (Value.ref (hp.objs.size + 1) :: us) ws) _ _ E (hr.make C us (ks.zip ws)) (I2.env0.make C us (ks.zip ws)) (hb.to _ (Value.ref (hp.objs.size + 1) :: us) ws I2.kIn e1 e2) r2 hq) fun r s' hq' => ?_))
  cases r with
  | error er => exact hx pins σ _ _ er s' I2 hq'
  | ok fl =>
    cases fl with
    | ret u =>
      obtain ⟨v, H', I3, rv, ev, q3⟩ := I2.after hq'
      subst ev
      exact ⟨rv, ⟨V.ref (hp.objs.size + 1), H', I3, rfl, q3⟩⟩
    | next => exact False.elim hq'
    | brk => exact False.elim hq'
    | cont => exact False.elim hq'
/-- C(e, ..) -/
theorem pe_xmk (T : XCls X.K C ini) (iC : PySem.W.findIn X.K (.ref C) "__init__" = some (some (.ref fI))) (tI : PySem.W.typeIn X.K (.ref fI) = some (.type "function"))
    (F1 : FnOk X.prog X.w X.K X.mg X.base CX k fI fd ps sp) (hr : Room (k + 1) X.A) (hb : KBn X.K fd ps (n + 1) [] g gV) (hx : Passes CX X E) (hg : Gl X x) (hm : X.mg x = some (.ref C)) (ha : PA X (e :: es) t)
    (hdb : (x == ("__debug__" : Str)) = false := by decide) (he : starEach (e :: es) X.env = (false, eval e X.env) :: starEach es X.env := by rfl) (hpl : (backTo pos (starEach es X.env)).any (·.1) = false := by rfl) :
    PE X (.Call (.Name x p) (e :: es) [] pos) (tXmk C n 0 sp gV E t tNil) := by
  refine ⟨fun pins s σ H Q I h => ?_⟩
  refine wpAny_Call_Name_kw (ld_glob I hg hm ?_ hdb)
  refine PySem.W.callWith_K (h₀ := X.base) I.ok.mod.kin T.kC (thn (ha.run pos pins s σ H _ I h) fun us s1 ⟨vs, H1, I1, r1, l1, l2, hn, q⟩ => ⟨I1.kIn, ?_⟩) he hpl
  exact run_xmk (ks := []) (ws := []) (zs := []) T iC tI F1 hr hb hx I1 r1 .nil l1 rfl hn q
/-- C() -/
theorem pe_xmk0 (T : XCls X.K C ini) (iC : PySem.W.findIn X.K (.ref C) "__init__" = some (some (.ref fI))) (tI : PySem.W.typeIn X.K (.ref fI) = some (.type "function"))
    (F1 : FnOk X.prog X.w X.K X.mg X.base CX k fI fd ps sp) (hr : Room (k + 1) X.A) (hb : KBn X.K fd ps 1 [] g gV) (hx : Passes CX X E) (hg : Gl X x) (hm : X.mg x = some (.ref C))
    (hdb : (x == ("__debug__" : Str)) = false := by decide) : PE X (.Call (.Name x p) [] [] pos) (tXmk C 0 0 sp gV E tNil tNil) := by
  refine ⟨fun pins s σ H Q I h => ?_⟩
  refine wpAny_Call_Name_kw (ld_glob I hg hm ?_ hdb)
  obtain ⟨l1, l2, hn, q⟩ := h
  exact PySem.W.callWith_K0 I.kIn T.kC (run_xmk (ks := []) (us := []) (ws := []) (vs := []) (zs := []) T iC tI F1 hr hb hx I .nil .nil rfl rfl hn q)
/-- C(k = v, ..) -/
theorem pe_xmkK (T : XCls X.K C ini) (iC : PySem.W.findIn X.K (.ref C) "__init__" = some (some (.ref fI))) (tI : PySem.W.typeIn X.K (.ref fI) = some (.type "function"))
    (F1 : FnOk X.prog X.w X.K X.mg X.base CX k fI fd ps sp) (hr : Room (k + 1) X.A) (hb : KBn X.K fd ps 1 ks g gV) (hx : Passes CX X E) (hg : Gl X x) (hm : X.mg x = some (.ref C)) (hkw : PK X kws tk)
    (hall : (backToKw pos (keywordEach kws X.env)).all (·.1.isSome) = true := by rfl) (hks : (backToKw pos (keywordEach kws X.env)).filterMap (·.1) = ks := by rfl) (hdb : (x == ("__debug__" : Str)) = false := by decide)
    (hpl : ((backTo pos (starEach [] X.env)).any (·.1) || (backToKw pos (keywordEach kws X.env)).any (·.1.isNone)) = false := by rfl) :
    PE X (.Call (.Name x p) [] kws pos) (tXmk C 0 ks.length sp gV E tNil tk) := by
  refine ⟨fun pins s σ H Q I h => ?_⟩
  refine wpAny_Call_Name_kw (ld_glob I hg hm ?_ hdb)
  refine PySem.W.callWith_KW0 (h₀ := X.base) I.ok.mod.kin T.kC hall ?_ hpl
  refine thn (hkw.run pos pins s σ H _ I h) fun ws s2 ⟨zs, H2, I2, rz, l1, l2, hn, q2⟩ => ⟨I2.kIn, ?_⟩
  rw [hks]
  exact run_xmk (us := []) (vs := []) T iC tI F1 hr hb hx I2 .nil rz rfl l2 hn q2
end
end MeH
set_option Elab.async false
set_option linter.all false
set_option maxRecDepth 100000
set_option maxHeartbeats 4000000
/-! a def that may ask repr of made things: nothing of repr runs around it (guards) -/
namespace MeG
open PySem PySem.Spec PyProof.Rows L2
/-- the def at f keeps the promise sp wherever no repr runs around -/
structure FnG (P : Program) (w : World) (K : PySem.W.Frag) (mg : Str → Option Value) (base : Heap) (CX : CXT) (k : Nat) (f : Addr) (fd : FuncData) (ps : List Str) (sp : Sp) : Prop where
  len : ∀ vs H Q E, sp vs H Q E → vs.length = ps.length
  run : ∀ (A : Around) (outer : List Env) (s : Shared) (H : Hp) (args : Args) (us : List Value) (vs : List V) (Q : VK) (E : XK), A.guards = some [] →
    Room k A → Env0 P w K mg base A outer s H → BindsTo s fd args (ps.zip us) → Vals vs us → sp vs H Q E → codeAny (model P w) A (.call (.ref f) args) (CR CX outer P w H s Q E) s
section
variable {P : Program} {w : World} {K : PySem.W.Frag} {mg : Str → Option Value} {base : Heap} {x qual : Str} {params : Arguments} {body : List Stmt} {scope : Scope} {dvs : List V} {kws : List (Str × V)} {f : Addr} {fd : FuncData}
theorem FnG.of {CX : CXT} {k : Nat} {ps : List Str} {sp : Sp} (F : FnOk P w K mg base CX k f fd ps sp) : FnG P w K mg base CX k f fd ps sp where
  len := F.len
  run := fun A outer s H args us vs Q E _ => F.run A outer s H args us vs Q E
/-- from its body: HandS.Lambda's run_ofS, at these surroundings -/
theorem okG {CX : CXT} {N ps : List Str} {k : Nat} {sp : Sp} (F : FunD K x qual params body scope dvs kws f fd) (S : FnScope N ps scope) (len : ∀ vs H Q E, sp vs H Q E → vs.length = ps.length)
    (hbody : ∀ (cdv : Value) (A : Around) (outer : List Env) (s : Shared) (H : Hp) (vs : List V) (Q : VK) (E : XK), (A.deeper (envOfC qual scope s.heap.objs.size f cdv)).guards = some [] → Room k (A.deeper (envOfC qual scope s.heap.objs.size f cdv)) → sp vs H Q E →
      ∃ t, PSs (cxOf CX P w K mg base N qual scope f cdv A outer s H E) body t ∧ t { nx := fun _ H' => Q .non H', rt := Q } (start N vs) H) : FnG P w K mg base CX (k + 1) f fd ps sp := by
  obtain ⟨_, _, _, _, _, _, _, cdv, _, _, e, lk, hcd, _⟩ := F.ex
  subst e
  exact ⟨len, fun A outer s H args us vs Q E g room env bind vals want => LamX.run_ofS lk hcd S room env bind vals (len _ _ _ _ want) fun room' => hbody cdv A outer s H vs Q E g room' want⟩
end
section
variable {X : Cx} {CX : CXT} {k : Nat} {f : Addr} {fd : FuncData} {ps : List Str} {sp : Sp} {dvs : List V} {ds : List Value} {E : XK} {x : Str} {p pos : Pos} {e : Expr} {es : List Expr} {t : TA}
/-- such a def, called with values -/
theorem run_fnG {pins : List (Addr × Obj)} {σ : L2.St} {H : Hp} {s : Shared} {Q : VK} {us : List Value} {vs : List V} (F : FnG X.prog X.w X.K X.mg X.base CX k f fd ps sp) (hgd : X.A.guards = some []) (room : Room k X.A) (bind : Binds X.K fd ps ds) (dfl : Vals dvs ds) (out : Passes CX X E)
    (I : Inv X pins σ H s) (vals : Vals vs us) (want : sp (vs ++ dvs) H Q E) : wpAny (model X.prog X.w) X.A (call (.ref f) us) (EP X pins σ Q) X.xe s := by
  have both := vals.append dfl
  have count : (us ++ ds).length = ps.length := both.length.symm.trans (F.len _ _ _ _ want)
  have go := F.run X.A X.stack s H ⟨us, []⟩ (us ++ ds) (vs ++ dvs) Q E hgd room I.env0 (bind s us I.kIn count) both want
  refine wpAny_call (codeAny_mono go fun r s' h => ?_)
  match r, h with
  | .ok (.ret _), h => exact I.after h
  | .error e, h => exact out pins σ H s e s' I h
theorem pe_callG (F : FnG X.prog X.w X.K X.mg X.base CX k f fd ps sp) (hgd : X.A.guards = some []) (room : Room k X.A) (hg : Gl X x) (hm : X.mg x = some (.ref f)) (hk : PySem.W.keepIn X.K (.ref f) = true) (bind : Binds X.K fd ps ds) (dfl : Vals dvs ds) (out : Passes CX X E)
    (ha : PA X (e :: es) t) (hdb : (x == ("__debug__" : Str)) = false := by decide) (one : starEach (e :: es) X.env = (false, eval e X.env) :: starEach es X.env := by rfl) (plain : (backTo pos (starEach es X.env)).any (·.1) = false := by rfl) :
    PE X (.Call (.Name x p) (e :: es) [] pos) (tCall sp dvs E t) :=
  ⟨fun pins s σ H _ I h => wpAny_Call_Name_kw (ld_glob I hg hm (PySem.W.callWith_K I.ok.mod.kin hk (thn (ha.run pos pins s σ H _ I h) fun _ _ ⟨_, _, I1, r, q⟩ => ⟨I1.kIn, run_fnG F hgd room bind dfl out I1 r q⟩) one plain) hdb)⟩
end

/-! ### repr over data at any depth, dicts too -/
/-- the written part knows sys.modules, a dict -/
def SysK (K : PySem.W.Frag) : Prop := ∃ o, K.lookup sysModules = some o ∧ o.cls = .type "dict"
theorem notin_app {x : Addr} {as bs : List Addr} (h1 : x ∉ as) (h2 : x ∉ bs) : x ∉ as ++ bs := fun z => (List.mem_append.mp z).elim h1 h2
def kD : Key → PyData
  | .inl i => .int i
  | .inr x => .str x
mutual
inductive Dd (K : PySem.W.Frag) (H : Hp) : V → PyData → Prop
  | non : Dd K H .non .none
  | bl (b : Bool) : Dd K H (.bl b) (.bool b)
  | int (i : Int) : Dd K H (.int i) (.int i)
  | str (x : Str) : Dd K H (.str x) (.str x)
  | lst {a : Addr} {xs : List V} {ds : List PyData} : SqL K H a xs → DdAll K H xs ds → Dd K H (.ref a) (.list ds)
  | tup {a : Addr} {xs : List V} {ds : List PyData} : SqT K H a xs → DdAll K H xs ds → Dd K H (.ref a) (.tuple ds)
  | dic {a : Addr} {kvs : List (Key × V)} {ds : List (PyData × PyData)} : Rd H a (.dK kvs) → DdKv K H kvs ds → Dd K H (.ref a) (.dict ds)
inductive DdAll (K : PySem.W.Frag) (H : Hp) : List V → List PyData → Prop
  | nil : DdAll K H [] []
  | cons {v : V} {vs : List V} {d : PyData} {ds : List PyData} : Dd K H v d → DdAll K H vs ds → DdAll K H (v :: vs) (d :: ds)
inductive DdKv (K : PySem.W.Frag) (H : Hp) : List (Key × V) → List (PyData × PyData) → Prop
  | nil : DdKv K H [] []
  | cons {k : Key} {v : V} {vs : List (Key × V)} {d : PyData} {ds : List (PyData × PyData)} : Dd K H v d → DdKv K H vs ds → DdKv K H ((k, v) :: vs) ((kD k, d) :: ds)
end
theorem kD_reads {h : Heap} {k : Key} {u : Value} (e : keyIs k u = true) : Reads h u (kD k) [] := by
  rcases keyIs_shape e with ⟨i, t, rfl, rfl⟩ | ⟨x, t, rfl, rfl⟩
  · exact Reads.int i t
  · exact Reads.str x t
theorem keys_reads {P : Program} {w : World} {h : Heap} : ∀ {es : List DictEntry} {kvs : List (Key × Value)}, Pairs (mixKind P w) es kvs → ReadsAll h (es.map (·.key)) (kvs.map fun p => kD p.1) []
  | _, _, .nil => ReadsAll.nil
  | _, _, .cons (es := es) (kvs := kvs) h1 _ h3 => ReadsAll.cons (as := []) (bs := []) (kD_reads h1) (keys_reads h3)
theorem pairs_vals {P : Program} {w : World} : ∀ {es : List DictEntry} {kvs : List (Key × Value)}, Pairs (mixKind P w) es kvs → es.map (·.val) = kvs.map (·.2)
  | _, _, .nil => rfl
  | _, _, .cons (es := es) (kvs := kvs) _ h2 h3 => by
    rw [List.map_cons, List.map_cons, h2, pairs_vals h3]
section
variable {X : Cx} {pins : List (Addr × Obj)} {σ : L2.St} {H : Hp} {s : Shared}
theorem sys_ne (I : Inv X pins σ H s) (S : SysK X.K) {a : Addr} {o : Obj} (e : s.heap.get? a = some o) (hc : o.cls ≠ .type "dict") : sysModules ≠ a := by
  obtain ⟨q, hq, c⟩ := S
  intro z
  have e2 := I.kIn _ _ hq
  rw [z, e] at e2
  cases e2
  exact hc c
mutual
theorem Dd.reads (I : Inv X pins σ H s) (S : SysK X.K) : ∀ (d : PyData) (v : V) (u : Value), Dd X.K H v d → RelV v u → ∃ as, Reads s.heap u d as ∧ sysModules ∉ as
  | .none, _, _, h, r => by
    cases h
    cases r
    exact ⟨_, Reads.none, by simp⟩
  | .bool b, _, _, h, r => by
    cases h
    cases r
    exact ⟨_, Reads.bool b, by simp⟩
  | .int i, _, _, h, r => by
    cases h
    obtain ⟨t, rfl⟩ := r
    exact ⟨_, Reads.int i t, by simp⟩
  | .str x, _, _, h, r => by
    cases h
    obtain ⟨t, rfl⟩ := r
    exact ⟨_, Reads.str x t, by simp⟩
  | .list ds, _, _, h, r => by
    cases h with
    | lst hs ha =>
      cases r
      obtain ⟨its, rv, ⟨o, n, ho, hc, _, hd⟩, _⟩ := I.list hs
      obtain ⟨as, hr, hm⟩ := Dd.readsAll I S ds _ its ha rv
      refine ⟨_, Reads.list ho hc hd hr, ?_⟩
      rw [List.mem_cons]
      rintro (z | z)
      · exact sys_ne I S ho (by rw [hc]; decide) z
      · exact hm z
  | .tuple ds, _, _, h, r => by
    cases h with
    | tup hs ha =>
      cases r
      obtain ⟨its, rv, ⟨o, ho, hc, n, hd⟩, _⟩ := I.tuple hs
      obtain ⟨as, hr, hm⟩ := Dd.readsAll I S ds _ its ha rv
      exact ⟨_, Reads.tuple ho hc hd hr, hm⟩
  | .dict ds, _, _, h, r => by
    cases h with
    | dic hs ha =>
      cases r
      obtain ⟨_, hsy, vs, kv, o, es, ep, ho, hx, hd, _, hp, _⟩ := hs.ok I.hok
      obtain ⟨bs, hr, hm, hk⟩ := Dd.readsKv I S ds _ _ ha kv
      refine ⟨_, Reads.dict (as := []) (bs := bs) ho hx.1 hd ?_ ?_, ?_⟩
      · rw [← hk]
        exact keys_reads hp
      · rw [pairs_vals hp]
        exact hr
      · refine notin_app (fun z => ?_) hm
        rw [← List.mem_singleton.mp z] at hsy
        exact absurd hsy (by decide)
theorem Dd.readsAll (I : Inv X pins σ H s) (S : SysK X.K) : ∀ (ds : List PyData) (vs : List V) (us : List Value), DdAll X.K H vs ds → Vals vs us → ∃ as, ReadsAll s.heap us ds as ∧ sysModules ∉ as
  | [], _, _, h, r => by
    cases h
    cases r
    exact ⟨_, ReadsAll.nil, by simp⟩
  | d :: ds, _, _, h, r => by
    cases h with
    | cons h1 h2 =>
      cases r with
      | cons r1 r2 =>
        obtain ⟨as, q1, m1⟩ := Dd.reads I S d _ _ h1 r1
        obtain ⟨bs, q2, m2⟩ := Dd.readsAll I S ds _ _ h2 r2
        exact ⟨_, ReadsAll.cons q1 q2, notin_app m1 m2⟩
theorem Dd.readsKv (I : Inv X pins σ H s) (S : SysK X.K) : ∀ (ds : List (PyData × PyData)) (vs : List (Key × V)) (us : List (Key × Value)), DdKv X.K H vs ds → KV vs us → ∃ as, ReadsAll s.heap (us.map (·.2)) (ds.map (·.2)) as ∧ sysModules ∉ as ∧ us.map (fun p => kD p.1) = ds.map (·.1)
  | [], _, _, h, r => by
    cases h
    cases r
    exact ⟨_, ReadsAll.nil, by simp, rfl⟩
  | (k, d) :: ds, _, _, h, r => by
    cases h with
    | cons h1 h2 =>
      cases r with
      | @cons _ q _ _ r1 r2 =>
        obtain ⟨qk, qv⟩ := q
        obtain ⟨ek, rv⟩ := r1
        dsimp only at ek rv
        subst ek
        obtain ⟨as, q1, m1⟩ := Dd.reads I S d _ _ h1 rv
        obtain ⟨bs, q2, m2, hk⟩ := Dd.readsKv I S ds _ _ h2 r2
        refine ⟨_, ReadsAll.cons q1 q2, notin_app m1 m2, ?_⟩
        rw [List.map_cons, List.map_cons, hk]
end
end
/-- repr(x) -/
def rRepr (K : PySem.W.Frag) : List V → Hp → VK → Prop := fun xs H Q => ∃ (v : V) (d : PyData), xs = [v] ∧ Dd K H v d ∧ d.showable = true ∧ d.depth ≤ 60 ∧ d.shown.length ≤ sizeLine ∧ Q (.str d.shown) H
theorem call_repr {X : Cx} (hgd : X.A.guards = some []) (hu : X.A.units + 64 < cLine) (S : SysK X.K) : CallR X (.builtin "repr") (rRepr X.K) := by
  intro pins s σ H xs us Q I r h
  obtain ⟨v, d, rfl, hd, hs, hdep, hsz, q⟩ := h
  obtain ⟨u, rfl, rv⟩ := vals1 r
  cases hd with
  | non =>
    cases rv
    exact PySem.P.repr_of_none ⟨.str _, H, I.tok _, ⟨_, rfl⟩, q⟩
  | bl b =>
    cases rv
    refine PySem.P.repr_of_bool ⟨.str _, H, I.tok _, ⟨_, rfl⟩, ?_⟩
    cases b <;> exact q
  | int i =>
    obtain ⟨t, rfl⟩ := rv
    exact PySem.P.repr_of_int (of_decide_eq_true hs) ⟨.str _, H, I.tok _, ⟨_, rfl⟩, q⟩
  | str x =>
    obtain ⟨t, rfl⟩ := rv
    exact PySem.P.repr_of_str ⟨.str _, H, I.tok _, ⟨_, rfl⟩, q⟩ hsz
  | lst h1 h2 =>
    obtain ⟨as, r1, m1⟩ := Dd.reads I S _ _ _ (Dd.lst h1 h2) rv
    cases rv
    exact repr_of_reads' r1 hs (fun _ => m1) hgd (by omega) (fun _ _ e => e) (fun h' u tk hk => ⟨.str _, H, I.kept (t' := tk) hk, ⟨_, rfl⟩, q⟩) hsz
  | tup h1 h2 =>
    obtain ⟨as, r1, m1⟩ := Dd.reads I S _ _ _ (Dd.tup h1 h2) rv
    cases rv
    exact repr_of_reads' r1 hs (fun _ => m1) hgd (by omega) (fun _ _ e => e) (fun h' u tk hk => ⟨.str _, H, I.kept (t' := tk) hk, ⟨_, rfl⟩, q⟩) hsz
  | dic h1 h2 =>
    obtain ⟨as, r1, m1⟩ := Dd.reads I S _ _ _ (Dd.dic h1 h2) rv
    cases rv
    exact repr_of_reads' r1 hs (fun _ => m1) hgd (by omega) (fun _ _ e => e) (fun h' u tk hk => ⟨.str _, H, I.kept (t' := tk) hk, ⟨_, rfl⟩, q⟩) hsz
end MeG
set_option Elab.async false
set_option linter.all false
set_option maxRecDepth 100000
set_option maxHeartbeats 4000000
/-! the head's facts, with own error classes -/
namespace MeK
open PySem PySem.Spec PyProof.Rows L2 He MeH MeG
def refsB (bt : List Value) : List Value → Bool
  | .ref _ :: r => refsB bt r
  | l => l == bt
theorem refsB_ok {bt : List Value} : ∀ l : List Value, refsB bt l = true → ∃ cs : List Addr, l = cs.map Value.ref ++ bt
  | [], e => ⟨[], beq_iff_eq.mp e⟩
  | .ref c :: r, e => by
    obtain ⟨cs, q⟩ := refsB_ok r e
    exact ⟨c :: cs, by rw [q]; rfl⟩
  | .none :: _, e => ⟨[], beq_iff_eq.mp e⟩
  | .ellipsis :: _, e => ⟨[], beq_iff_eq.mp e⟩
  | .notImplemented :: _, e => ⟨[], beq_iff_eq.mp e⟩
  | .bool _ :: _, e => ⟨[], beq_iff_eq.mp e⟩
  | .int _ _ :: _, e => ⟨[], beq_iff_eq.mp e⟩
  | .float _ _ :: _, e => ⟨[], beq_iff_eq.mp e⟩
  | .str _ _ :: _, e => ⟨[], beq_iff_eq.mp e⟩
  | .bytes _ _ :: _, e => ⟨[], beq_iff_eq.mp e⟩
  | .type _ :: _, e => ⟨[], beq_iff_eq.mp e⟩
  | .builtin _ :: _, e => ⟨[], beq_iff_eq.mp e⟩
def objB (K : PySem.W.Frag) (C : Addr) (bt : List Value) (newId : String) : Bool := match K.lookup C with
  | some ⟨.type "type", _, .cls cd, sl⟩ => (match cd.mro, sl.toList with
    | .ref C' :: bm, [_, _, _, _, some (.builtin n), _] => C' == C && n == newId && !cd.hasDel && cd.hasDict && refsB bt bm
    | _, _ => false)
  | _ => false
theorem objB_ok {K : PySem.W.Frag} {C : Addr} {bt : List Value} {newId : String} (q : objB K C bt newId = true) :
    ∃ (cs : List Addr) (nm qn : Str) (N : Addr) (bs : List Value) (sn : List Str) (sub : List Value) (ab : Bool) (col : Option Bool) (dd : Option Addr) (k0 k1 k2 k3 k5 : Option Value),
      K.lookup C = some (excClassObj nm qn C N bs (cs.map Value.ref ++ bt) true sn sub ab col dd k0 k1 k2 k3 k5 newId) := by
  unfold objB at q
  split at q
  · rename_i dd cd sl ho
    split at q
    · rename_i C' bm k0 k1 k2 k3 n k5 hm hs
      simp only [Bool.and_eq_true, beq_iff_eq, Bool.not_eq_true'] at q
      obtain ⟨⟨⟨⟨rfl, rfl⟩, hdel⟩, hdi⟩, ht⟩ := q
      obtain ⟨cs, rfl⟩ := refsB_ok _ ht
      obtain ⟨nm, bs, mro, ns, qn, hd, sn, sub, ab, col, del⟩ := cd
      dsimp only at hm hdel hdi
      subst hm hdel hdi
      have hsl : sl = #[k0, k1, k2, k3, some (.builtin n), k5] := by
        obtain ⟨l⟩ := sl
        simp only at hs
        rw [hs]
      subst hsl
      exact ⟨cs, nm, qn, ns, bs, sn, sub, ab, col, dd, k0, k1, k2, k3, k5, ho⟩
    · cases q
  · cases q
/-- the three bases -/
inductive Bk where
  | ve | ke | re
def Bk.bt : Bk → List Value
  | .ve => MeX.tVE
  | .ke => MeX.tKE
  | .re => MeX.tRE
def Bk.newId : Bk → String
  | .ve => "ValueError.__new__"
  | .ke => "LookupError.__new__"
  | .re => "RuntimeError.__new__"
def Bk.ini : Bk → String
  | .ve => "ValueError.__init__"
  | .ke => "KeyError.__init__"
  | .re => "RuntimeError.__init__"
theorem Bk.ok : ∀ b : Bk, ∃ NB IB, MeX.XBase NB b.newId IB b.ini b.bt
  | .ve => ⟨_, _, MeX.baseVE⟩
  | .ke => ⟨_, _, MeX.baseKE⟩
  | .re => ⟨_, _, MeX.baseRE⟩
def oo (a b : Option Bool) : Bool := decide (a = b)
def valB (o : Option PySem.W.CFound) (u : Value) : Bool := match o with
  | some (.val v) => v == u
  | _ => false
theorem valB_ok {o : Option PySem.W.CFound} {u : Value} (h : valB o u = true) : o = some (.val u) := by
  unfold valB at h
  split at h
  · rename_i v
    rw [beq_iff_eq.mp h]
  · cases h
/-- facts by names -/
inductive Fb where
  | fa (f : Fa)
  | xcls (x : Str) (b : Bk)
  | xinit (x : Str)
  | iniC (x : Str) (b : Bk)
  | iniT (T : String) (b : Bk)
  | kit (x y : Str) (r : Bool)
  | kitT (x : Str) (T : String) (r : Bool)
  | sys
def Fb.ok (K : PySem.W.Frag) : Fb → Bool
  | .fa f => f.ok K
  | .xcls x b => objB K (ga K x) b.bt b.newId && (eqO (PySem.W.findIn K (.ref (ga K x)) "__setattr__") (some (some (.builtin "object.__setattr__"))) && (PySem.W.keepIn K (.ref (ga K x)) &&
      (eqO (PySem.W.findIn K (.ref (ga K x)) "__getattribute__") (some (some (.builtin "BaseException.__getattribute__"))) && (eqO (PySem.W.findIn K (.ref (ga K x)) "__getattr__") (some none) &&
      (oo (PySem.W.subIn K (.ref (ga K x)) (.type "BaseException")) (some true) && (PySem.W.hasDictIn K (ga K x) && (eqO (PySem.W.findIn K (.ref (ga K x)) "__class__") (some (some (.builtin "object.__class__"))) &&
      (eqO (PySem.W.specialIn K (.builtin "object.__class__") "__get__") (some (some (.builtin "getset_descriptor.__get__"))) && (oo (PySem.W.takesIn K (.builtin "object.__class__")) (some true) && oo (PySem.W.mroIn K (ga K x) (.type "object")) (some true))))))))))
  | .xinit x => eqO (PySem.W.findIn K (.ref (ga K x)) "__init__") (some (some (.ref (ma K (ga K x) "__init__")))) && decide (PySem.W.typeIn K (.ref (ma K (ga K x) "__init__")) = some (.type "function"))
  | .iniC x b => PySem.W.readsIn K (ga K x) (.type "type") && (eqO (PySem.W.specialIn K (.ref (ga K x)) "__getattribute__") (some (some (.builtin "type.__getattribute__"))) && valB (PySem.W.findCls K (.ref (ga K x)) (.type "type") "__init__") (.builtin b.ini))
  | .iniT T b => valB (PySem.W.findCls K (.type T) (.type "type") "__init__") (.builtin b.ini)
  | .kit x y r => oo (PySem.W.kitOne K (.ref (ga K x)) (.ref (ga K y))) (some r)
  | .kitT x T r => oo (PySem.W.kitOne K (.ref (ga K x)) (.type T)) (some r)
  | .sys => (match K.lookup sysModules with
    | some o => o.cls == .type "dict"
    | none => false)
section
variable {K : PySem.W.Frag} {x y : Str}
theorem xcls_ok {b : Bk} (c : (Fb.xcls x b).ok K = true) : XCls K (ga K x) b.ini := by
  obtain ⟨c1, c⟩ := ba c
  obtain ⟨c2, c⟩ := ba c
  obtain ⟨c3, c⟩ := ba c
  obtain ⟨c4, c⟩ := ba c
  obtain ⟨c5, c⟩ := ba c
  obtain ⟨c6, c⟩ := ba c
  obtain ⟨c7, c⟩ := ba c
  obtain ⟨c8, c⟩ := ba c
  obtain ⟨c9, c⟩ := ba c
  obtain ⟨c10, c11⟩ := ba c
  obtain ⟨NB, IB, F⟩ := b.ok
  obtain ⟨cs, nm, qn, N, bs, sn, sub, ab, col, dd, k0, k1, k2, k3, k5, ho⟩ := objB_ok c1
  exact ⟨⟨NB, b.newId, IB, b.bt, cs, nm, qn, N, bs, sn, sub, ab, col, dd, k0, k1, k2, k3, k5, F, ho⟩, eqO_ok c2, c3, eqO_ok c4, eqO_ok c5, of_decide_eq_true c6, c7, eqO_ok c8, eqO_ok c9, of_decide_eq_true c10, of_decide_eq_true c11⟩
theorem xinit_ok (c : (Fb.xinit x).ok K = true) : PySem.W.findIn K (.ref (ga K x)) "__init__" = some (some (.ref (ma K (ga K x) "__init__"))) ∧ PySem.W.typeIn K (.ref (ma K (ga K x) "__init__")) = some (.type "function") := by
  obtain ⟨c1, c2⟩ := ba c
  exact ⟨eqO_ok c1, of_decide_eq_true c2⟩
theorem iniC_ok {b : Bk} (c : (Fb.iniC x b).ok K = true) : PySem.W.readsIn K (ga K x) (.type "type") = true ∧ PySem.W.specialIn K (.ref (ga K x)) "__getattribute__" = some (some (.builtin "type.__getattribute__")) ∧
    PySem.W.findCls K (.ref (ga K x)) (.type "type") "__init__" = some (.val (.builtin b.ini)) := by
  obtain ⟨c1, c⟩ := ba c
  obtain ⟨c2, c3⟩ := ba c
  exact ⟨c1, eqO_ok c2, valB_ok c3⟩
theorem iniT_ok {T : String} {b : Bk} (c : (Fb.iniT T b).ok K = true) : PySem.W.findCls K (.type T) (.type "type") "__init__" = some (.val (.builtin b.ini)) := valB_ok c
theorem kit_ok {r : Bool} (c : (Fb.kit x y r).ok K = true) : PySem.W.kitOne K (.ref (ga K x)) (.ref (ga K y)) = some r := of_decide_eq_true c
theorem kitT_ok {T : String} {r : Bool} (c : (Fb.kitT x T r).ok K = true) : PySem.W.kitOne K (.ref (ga K x)) (.type T) = some r := of_decide_eq_true c
theorem sys_ok (c : Fb.sys.ok K = true) : SysK K := by
  have c2 : (match K.lookup sysModules with
    | some o => o.cls == .type "dict"
    | none => false) = true := c
  cases e : K.lookup sysModules with
  | none =>
    rw [e] at c2
    cases c2
  | some o =>
    rw [e] at c2
    exact ⟨o, e, beq_iff_eq.mp c2⟩
end
/-! ### the Hook -/
def asX (g : Addr → Option Obj) (n : Nat) : List Addr := sysModules :: cStatics :: asD g n
def obsX (fb : List Fb) (fn : List DefD) (K : PySem.W.Frag) : AlD := ((fb.all fun f => f.ok K) && fn.all fun d => d.ok K, fn.map fun d => fnW K d.at_)
def SaysX (fb : List Fb) (fn : List DefD) (K : PySem.W.Frag) : Prop := obsX fb fn K = valD fn
def obsXG (n : Nat) (fb : List Fb) (fn : List DefD) (g : Addr → Option Obj) : AlD := obsX fb fn (frG g (asX g n))
def hookX (n : Nat) (fb : List Fb) (fn : List DefD) : PySem.W.Hook where
  α := AlD
  obs := fun s => obsXG n fb fn s.heap.get?
  val := fun _ => valD fn
  says := fun _ h => ∃ K : PySem.W.Frag, K.In h ∧ SaysX fb fn K
  of := fun _ _ e => ⟨_, frG_in, e⟩
  keeps := fun _ _ _ ⟨K, hK, c⟩ k => ⟨K, PySem.W.Frag.In.keeps hK k, c⟩
theorem obsXG_eq {n : Nat} {fb : List Fb} {fn : List DefD} {g : Addr → Option Obj} {s : Shared} (h : ∀ a, g a = s.heap.get? a) : obsXG n fb fn g = (hookX n fb fn).obs s := by
  have e : g = s.heap.get? := funext h
  rw [e] <;> rfl
section
variable {fb : List Fb} {fn : List DefD} {K : PySem.W.Frag}
theorem SaysX.fact (c : SaysX fb fn K) {f : Fb} (h : f ∈ fb) : f.ok K = true := by
  have c1 := (ba (show ((fb.all fun f => f.ok K) && fn.all fun d => d.ok K) = true from congrArg (fun z : AlD => z.1) c)).1
  exact List.all_eq_true.mp c1 f h
theorem SaysX.def_ (c : SaysX fb fn K) (i : Nat) {d : DefD} (h : fn[i]? = some d := by rfl) : ∃ fd, FunD K d.name d.qual d.params d.body d.scope (d.dvs K) (d.kws K) (fAd K d.at_) fd := by
  have c2 := (ba (show ((fb.all fun f => f.ok K) && fn.all fun d => d.ok K) = true from congrArg (fun z : AlD => z.1) c)).2
  have e : fn.map (fun d => fnW K d.at_) = fn.map DefD.val := congrArg (fun z : AlD => z.2) c
  have e2 : (fn.map fun d => fnW K d.at_)[i]? = (fn.map DefD.val)[i]? := by rw [e]
  rw [List.getElem?_map, List.getElem?_map, h] at e2
  exact DefD.funD (Option.some.inj e2) (List.all_eq_true.mp c2 d (List.mem_of_getElem? h))
end
end MeK
set_option Elab.async false
set_option linter.all false
set_option maxRecDepth 100000
set_option maxHeartbeats 4000000
/-! what an expression gives, by a word that stays true while the heap grows -/
namespace MeE
open PySem L2 Evl MeH MeG
abbrev VP := V → Hp → Prop
def Mono (P : VP) : Prop := ∀ v H H', Ex H H' → P v H → P v H'
def Gets (te : TE) (σ : L2.St) (H : Hp) (P : VP) : Prop := ∀ H1, Ex H H1 → ∀ Q : VK, (∀ v H2, Ex H1 H2 → P v H2 → Q v H2) → te σ H1 Q
def GetsA (ta : TA) (σ : L2.St) (H : Hp) (P : List V → Hp → Prop) : Prop := ∀ H1, Ex H H1 → ∀ Q : List V → Hp → Prop, (∀ vs H2, Ex H1 H2 → P vs H2 → Q vs H2) → ta σ H1 Q
def Is (w : V) : VP := fun v _ => v = w
def All : List VP → List V → Hp → Prop
  | [], [], _ => True
  | P :: Ps, v :: vs, H => P v H ∧ All Ps vs H
  | _, _, _ => False
def MonoL (Ps : List VP) : Prop := ∀ P ∈ Ps, Mono P
def Lst (Ps : List VP) : VP := fun v H => ∃ (p : Addr) (xs : List V), v = .ref p ∧ H p = some (.lst xs) ∧ All Ps xs H
def Tup (Ps : List VP) : VP := fun v H => ∃ (p : Addr) (xs : List V), v = .ref p ∧ H p = some (.tup xs) ∧ All Ps xs H
theorem mono_is (w : V) : Mono (Is w) := fun _ _ _ _ h => h
theorem monoL_nil : MonoL [] := fun _ h => nomatch h
theorem monoL_cons {P : VP} {Ps : List VP} (h : Mono P) (hs : MonoL Ps) : MonoL (P :: Ps) := fun R hR => (List.mem_cons.mp hR).elim (fun e => e ▸ h) (hs R)
theorem monoL_app {Ps Rs : List VP} (h : MonoL Ps) (hs : MonoL Rs) : MonoL (Ps ++ Rs) := fun R hR => (List.mem_append.mp hR).elim (h R) (hs R)
theorem All.up {H H' : Hp} (e : Ex H H') : ∀ {Ps : List VP} {vs : List V}, MonoL Ps → All Ps vs H → All Ps vs H'
  | [], [], _, _ => trivial
  | [], _ :: _, _, h => h.elim
  | _ :: _, [], _, h => h.elim
  | P :: Ps, v :: vs, m, h => ⟨m P List.mem_cons_self v H H' e h.1, All.up e (fun R hR => m R (List.mem_cons_of_mem _ hR)) h.2⟩
theorem All.len {H : Hp} : ∀ {Ps : List VP} {vs : List V}, All Ps vs H → vs.length = Ps.length
  | [], [], _ => rfl
  | [], _ :: _, h => h.elim
  | _ :: _, [], h => h.elim
  | _ :: _, _ :: _, h => congrArg Nat.succ (All.len h.2)
theorem All.app {H : Hp} : ∀ {Ps Rs : List VP} {vs ws : List V}, All Ps vs H → All Rs ws H → All (Ps ++ Rs) (vs ++ ws) H
  | [], _, [], _, _, h => h
  | [], _, _ :: _, _, h, _ => h.elim
  | _ :: _, _, [], _, h, _ => h.elim
  | _ :: _, _, _ :: _, _, h, k => ⟨h.1, All.app h.2 k⟩
theorem All.get {H : Hp} : ∀ {Ps : List VP} {vs : List V} {i : Nat} {v : V}, All Ps vs H → vs[i]? = some v → ∃ P, Ps[i]? = some P ∧ P v H
  | [], [], _, _, _, e => by simp at e
  | [], _ :: _, _, _, h, _ => h.elim
  | _ :: _, [], _, _, h, _ => h.elim
  | P :: _, w :: _, 0, v, h, e => by
    have e' : w = v := by simpa using e
    exact ⟨P, rfl, e' ▸ h.1⟩
  | _ :: Ps, _ :: vs, i + 1, v, h, e => by
    obtain ⟨R, h1, h2⟩ := All.get (i := i) h.2 (by simpa using e)
    exact ⟨R, by simpa using h1, h2⟩
theorem mono_lst {Ps : List VP} (m : MonoL Ps) : Mono (Lst Ps) := fun _ _ _ e ⟨p, xs, h1, h2, h3⟩ => ⟨p, xs, h1, e _ _ h2, h3.up e m⟩
theorem mono_tup {Ps : List VP} (m : MonoL Ps) : Mono (Tup Ps) := fun _ _ _ e ⟨p, xs, h1, h2, h3⟩ => ⟨p, xs, h1, e _ _ h2, h3.up e m⟩
section
variable {K : PySem.W.Frag} {σ : L2.St} {H H' : Hp} {ta tb te : TE} {P P' R : VP} {r : R2}
theorem Gets.up (e : Ex H H') (h : Gets te σ H P) : Gets te σ H' P := fun H1 a Q q => h H1 (e.trans a) Q q
theorem Gets.imp (h : Gets te σ H P) (k : ∀ v H1, Ex H H1 → P v H1 → R v H1) : Gets te σ H R := fun H1 a Q q => h H1 a Q fun v H2 e p => q v H2 e (k v H2 (a.trans e) p)
theorem Gets.ev {v : V} (h : Gets te σ H (Is v)) : Ev te σ H v := fun H1 a Q q => h H1 a Q fun w H2 e p => by
  have p' : w = v := p
  rw [p']
  exact q H2 e
theorem Ev.gets {v : V} (h : Ev te σ H v) : Gets te σ H (Is v) := fun H1 a Q q => h H1 a Q fun H2 e => q v H2 e rfl
theorem g_var {i : Nat} {v : V} (h : σ[i]? = some (some v)) : Gets (tVar i) σ H (Is v) := Ev.gets (ev_var h)
theorem g_varP {i : Nat} {v : V} (h : σ[i]? = some (some v)) (m : Mono P) (p : P v H) : Gets (tVar i) σ H P := fun H1 a Q q => ⟨v, h, q v H1 (Ex.refl H1) (m _ _ _ a p)⟩
theorem g_c {v : V} : Gets (tC v) σ H (Is v) := Ev.gets ev_c
theorem g_op (ha : Gets ta σ H P) (hb : Gets tb σ H P') (m : Mono P) (hr : ∀ x y H1, Ex H H1 → P x H1 → P' y H1 → ∀ Q : VK, (∀ z H2, Ex H1 H2 → R z H2 → Q z H2) → r x y H1 Q) : Gets (tOp r ta tb) σ H R := fun H1 e Q q =>
  ha H1 e _ fun x H2 e2 px => hb H2 (e.trans e2) _ fun y H3 e3 py => hr x y H3 ((e.trans e2).trans e3) (m _ _ _ e3 px) py Q fun z H4 e4 pz => q z H4 ((e2.trans e3).trans e4) pz
theorem ga_nil : GetsA tNil σ H (All []) := fun H1 _ _ q => q [] H1 (Ex.refl H1) trivial
theorem ga_cons {tr : TA} {Ps : List VP} (h : Gets te σ H P) (m : Mono P) (hr : GetsA tr σ H (All Ps)) : GetsA (tCons te tr) σ H (All (P :: Ps)) := fun H1 e Q q =>
  h H1 e _ fun v H2 e2 p => hr H2 (e.trans e2) _ fun vs H3 e3 ps => q _ H3 (e2.trans e3) ⟨m _ _ _ e3 p, ps⟩
theorem g_lst {t : TA} {Ps : List VP} (h : GetsA t σ H (All Ps)) (m : MonoL Ps) (hl : Ps.length ≤ 1000) : Gets (tLst t) σ H (Lst Ps) := fun H1 e Q q =>
  h H1 e _ fun vs H2 e2 ps => ⟨by rw [ps.len]; exact sz_of (by omega), fun p hp => q _ _ (e2.trans (Ex.new hp)) ⟨p, vs, rfl, upd_same, ps.up (Ex.new hp) m⟩⟩
theorem g_tup {t : TA} {Ps : List VP} (h : GetsA t σ H (All Ps)) (m : MonoL Ps) (hl : Ps.length ≤ 1000) : Gets (tTup t) σ H (Tup Ps) := fun H1 e Q q =>
  h H1 e _ fun vs H2 e2 ps => ⟨by rw [ps.len]; exact sz_of (by omega), fun p hp => q _ _ (e2.trans (Ex.new hp)) ⟨p, vs, rfl, upd_same, ps.up (Ex.new hp) m⟩⟩
theorem g_cat {Ps Rs : List VP} (ha : Gets ta σ H (Lst Ps)) (hb : Gets tb σ H (Lst Rs)) (m : MonoL Ps) (m' : MonoL Rs) (hl : Ps.length + Rs.length ≤ 1000) : Gets (tOp rCat ta tb) σ H (Lst (Ps ++ Rs)) :=
  g_op ha hb (mono_lst m) fun x y H1 e px py Q q => by
    obtain ⟨p, xs, rfl, hp, ax⟩ := px
    obtain ⟨b, ys, rfl, hb', ay⟩ := py
    exact ⟨p, b, xs, ys, rfl, rfl, hp, hb', by rw [ax.len, ay.len]; exact sz_of (by omega), fun c hc => q _ _ (Ex.new hc) ⟨c, xs ++ ys, rfl, upd_same, (ax.app ay).up (Ex.new hc) (monoL_app m m')⟩⟩
/-- a call by values -/
theorem g_cb {rr : List V → Hp → VK → Prop} {t : TA} {Ps : List VP} (h : GetsA t σ H (All Ps)) (hr : ∀ vs H1, Ex H H1 → All Ps vs H1 → ∀ Q : VK, (∀ z H2, Ex H1 H2 → R z H2 → Q z H2) → rr vs H1 Q) : Gets (tCB rr t) σ H R := fun H1 e Q q =>
  h H1 e _ fun vs H2 e2 ps => hr vs H2 (e.trans e2) ps Q fun z H3 e3 pz => q z H3 (e2.trans e3) pz
/-- a call of a def -/
theorem g_call {sp : Sp} {dvs : List V} {E : XK} {t : TA} {Ps : List VP} (h : GetsA t σ H (All Ps)) (hr : ∀ vs H1, Ex H H1 → All Ps vs H1 → ∀ Q : VK, (∀ z H2, Ex H1 H2 → R z H2 → Q z H2) → sp (vs ++ dvs) H1 Q E) : Gets (tCall sp dvs E t) σ H R := fun H1 e Q q =>
  h H1 e _ fun vs H2 e2 ps => hr vs H2 (e.trans e2) ps Q fun z H3 e3 pz => q z H3 (e2.trans e3) pz
theorem all1 {A : VP} {vs : List V} (h : All [A] vs H) : ∃ a, vs = [a] ∧ A a H := by
  match vs, h with
  | [a], h => exact ⟨a, rfl, h.1⟩
theorem all2 {A B : VP} {vs : List V} (h : All [A, B] vs H) : ∃ a b, vs = [a, b] ∧ A a H ∧ B b H := by
  match vs, h with
  | [a, b], h => exact ⟨a, b, rfl, h.1, h.2.1⟩
theorem all3 {A B C : VP} {vs : List V} (h : All [A, B, C] vs H) : ∃ a b c, vs = [a, b, c] ∧ A a H ∧ B b H ∧ C c H := by
  match vs, h with
  | [a, b, c], h => exact ⟨a, b, c, rfl, h.1, h.2.1, h.2.2.1⟩
theorem et_g {b : Bool} (h : Gets te σ H (Is (.bl b))) : EvT (tTest te) σ H b := et_test h.ev
theorem etB_g {b : Bool} (h : Gets te σ H (Is (.bl b))) : EvT (tB te) σ H b := et_B h.ev
/-! statements -/
variable {D : Ends} {tu tw tz : TS}
theorem w_asg {i : Nat} (h : Gets te σ H P) (k : ∀ v H1, Ex H H1 → P v H1 → D.nx (σ.set i (some v)) H1) : tAsg te (gName i) D σ H := h H (Ex.refl H) _ k
theorem w_ret (h : Gets te σ H P) (k : ∀ v H1, Ex H H1 → P v H1 → D.rt v H1) : tRet te D σ H := h H (Ex.refl H) _ k
theorem w_drop (h : Gets te σ H P) (k : ∀ v H1, Ex H H1 → P v H1 → D.nx σ H1) : tDrop te D σ H := h H (Ex.refl H) _ k
end
/-! ### errors as values -/
def XV (C : Addr) (fs : List (Str × V)) : VP := fun v H => ∃ a dx, v = .ref a ∧ H a = some (exo a C (some dx)) ∧ H dx = some (exd dx fs)
theorem mono_xv (C : Addr) (fs : List (Str × V)) : Mono (XV C fs) := fun _ _ _ e ⟨a, dx, h1, h2, h3⟩ => ⟨a, dx, h1, e _ _ h2, e _ _ h3⟩
/-- __init__ that stores one field -/
def spI1 (C : Addr) (f : Str) : Sp := fun vs H Q _ => ∃ (a : Addr) (v : V), vs = [.ref a, v] ∧ H a = some (exo a C none) ∧ ∀ dx, H dx = none → dx ≠ a → Q .non (upd (upd H dx (exd dx [(f, v)])) a (exo a C (some dx)))
def spI2 (C : Addr) (f f2 : Str) : Sp := fun vs H Q _ => ∃ (a : Addr) (v w : V), vs = [.ref a, v, w] ∧ H a = some (exo a C none) ∧ ∀ dx, H dx = none → dx ≠ a → Q .non (upd (upd H dx (exd dx [(f2, w), (f, v)])) a (exo a C (some dx)))
def spI0 (C : Addr) : Sp := fun vs H Q _ => ∃ (a : Addr), vs = [.ref a] ∧ H a = some (exo a C none) ∧ Q .non H
/-- an error without a dict -/
def X0 (C : Addr) : VP := fun v H => ∃ a, v = .ref a ∧ H a = some (exo a C none)
theorem mono_x0 (C : Addr) : Mono (X0 C) := fun _ _ _ e ⟨a, h1, h2⟩ => ⟨a, h1, e _ _ h2⟩
theorem ex_made {H H2 : Hp} {a dx C : Addr} {fs : List (Str × V)} (ha : H a = none) (hd : upd H a (exo a C none) dx = none) (hne : dx ≠ a) :
    Ex H (upd (upd (upd H a (exo a C none)) dx (exd dx fs)) a (exo a C (some dx))) := fun b o e => by
  have nb : b ≠ a := ne_of_none e ha
  have nd : b ≠ dx := ne_of_none e (by rw [upd_ne hne] at hd; exact hd)
  rw [upd_ne nb, upd_ne nd, upd_ne nb]
  exact e
section
variable {σ : L2.St} {H : Hp} {C : Addr} {E : XK} {t tk : TA} {f f2 : Str} {v w : V}
/-- C(e): by place -/
theorem g_x1 {gV : List V → List V → List V} (ht : GetsA t σ H (All [Is v])) (hg : ∀ a : Addr, gV [.ref a, v] [] = [.ref a, v]) : Gets (tXmk C 1 0 (spI1 C f) gV E t tNil) σ H (XV C [(f, v)]) := fun H1 e Q q =>
  ht H1 e _ fun vs H2 e2 ps => by
    obtain ⟨z, rfl, pz⟩ := all1 ps
    have pz' : z = v := pz
    subst pz'
    refine ⟨rfl, rfl, by decide, fun a ha => ?_⟩
    rw [hg a]
    exact ⟨a, z, rfl, upd_same, fun dx hd hne => ⟨rfl, q _ _ (e2.trans (ex_made (H2 := H2) ha hd hne)) ⟨a, dx, rfl, upd_same, by rw [upd_ne hne, upd_same]⟩⟩⟩
/-- C(k = e): by name -/
theorem g_x1k {gV : List V → List V → List V} (ht : GetsA tk σ H (All [Is v])) (hg : ∀ a : Addr, gV [.ref a] [v] = [.ref a, v]) : Gets (tXmk C 0 1 (spI1 C f) gV E tNil tk) σ H (XV C [(f, v)]) := fun H1 e Q q =>
  ht H1 e _ fun vs H2 e2 ps => by
    obtain ⟨z, rfl, pz⟩ := all1 ps
    have pz' : z = v := pz
    subst pz'
    refine ⟨rfl, rfl, by decide, fun a ha => ?_⟩
    rw [hg a]
    exact ⟨a, z, rfl, upd_same, fun dx hd hne => ⟨rfl, q _ _ (e2.trans (ex_made (H2 := H2) ha hd hne)) ⟨a, dx, rfl, upd_same, by rw [upd_ne hne, upd_same]⟩⟩⟩
theorem g_x2 {gV : List V → List V → List V} (ht : GetsA t σ H (All [Is v, Is w])) (hg : ∀ a : Addr, gV [.ref a, v, w] [] = [.ref a, v, w]) : Gets (tXmk C 2 0 (spI2 C f f2) gV E t tNil) σ H (XV C [(f2, w), (f, v)]) := fun H1 e Q q =>
  ht H1 e _ fun vs H2 e2 ps => by
    obtain ⟨z, z2, rfl, pz, pw⟩ := all2 ps
    have pz' : z = v := pz
    have pw' : z2 = w := pw
    subst pz' pw'
    refine ⟨rfl, rfl, by decide, fun a ha => ?_⟩
    rw [hg a]
    exact ⟨a, z, z2, rfl, upd_same, fun dx hd hne => ⟨rfl, q _ _ (e2.trans (ex_made (H2 := H2) ha hd hne)) ⟨a, dx, rfl, upd_same, by rw [upd_ne hne, upd_same]⟩⟩⟩
theorem g_x2k {gV : List V → List V → List V} {p q0 : V} (ht : GetsA tk σ H (All [Is p, Is q0])) (hg : ∀ a : Addr, gV [.ref a] [p, q0] = [.ref a, v, w]) : Gets (tXmk C 0 2 (spI2 C f f2) gV E tNil tk) σ H (XV C [(f2, w), (f, v)]) := fun H1 e Q q =>
  ht H1 e _ fun vs H2 e2 ps => by
    obtain ⟨z, z2, rfl, pz, pw⟩ := all2 ps
    have pz' : z = p := pz
    have pw' : z2 = q0 := pw
    subst pz' pw'
    refine ⟨rfl, rfl, by decide, fun a ha => ?_⟩
    rw [hg a]
    exact ⟨a, v, w, rfl, upd_same, fun dx hd hne => ⟨rfl, q _ _ (e2.trans (ex_made (H2 := H2) ha hd hne)) ⟨a, dx, rfl, upd_same, by rw [upd_ne hne, upd_same]⟩⟩⟩
theorem g_x0 {gV : List V → List V → List V} (hg : ∀ a : Addr, gV [.ref a] [] = [.ref a]) : Gets (tXmk C 0 0 (spI0 C) gV E tNil tNil) σ H (X0 C) := fun H1 e Q q => by
  refine ⟨rfl, rfl, by decide, fun a ha => ?_⟩
  rw [hg a]
  exact ⟨a, rfl, upd_same, rfl, q _ _ (Ex.new ha) ⟨a, rfl, upd_same⟩⟩
/-- e.f -/
theorem g_xfl {K : PySem.W.Frag} {ini : String} {to : TE} {fs : List (Str × V)} (ho : Gets to σ H (XV C fs)) (T : XCls K C ini) (hno : PySem.W.findIn K (.ref C) f = some none) (hl : fs.lookup f = some v) : Gets (tXfl K f to) σ H (Is v) := fun H1 e Q q =>
  ho H1 e _ fun x H2 e2 ⟨a, dx, h1, h2, h3⟩ => ⟨a, C, ini, dx, fs, v, h1, T, hno, h2, h3, hl, q v H2 e2 rfl⟩
/-- an error of the class C, with a dict or without -/
def XA (C : Addr) : VP := fun v H => ∃ (a : Addr) (d : Option Addr), v = .ref a ∧ H a = some (exo a C d) ∧ ∀ dx, d = some dx → ∃ fs, H dx = some (exd dx fs)
theorem mono_xa (C : Addr) : Mono (XA C) := fun _ _ _ e ⟨a, d, h1, h2, h3⟩ => ⟨a, d, h1, e _ _ h2, fun dx q => let ⟨fs, r⟩ := h3 dx q; ⟨fs, e _ _ r⟩⟩
theorem xa_of {fs : List (Str × V)} {x : V} (h : XV C fs x H) : XA C x H := by
  obtain ⟨a, dx, h1, h2, h3⟩ := h
  refine ⟨a, some dx, h1, h2, fun d q => ?_⟩
  cases q
  exact ⟨fs, h3⟩
theorem xa_of0 {x : V} (h : X0 C x H) : XA C x H := by
  obtain ⟨a, h1, h2⟩ := h
  exact ⟨a, none, h1, h2, fun d q => nomatch q⟩
/-- isinstance(e, c) -/
theorem g_xis {K : PySem.W.Frag} {ini : String} {te : TE} {c : V} {u : Value} {b : Bool} (he : Gets te σ H (XA C)) (T : XCls K C ini) (hc : ClsV c u) (hk : PySem.W.kitOne K (.ref C) u = some b) : Gets (tCB (rXis K) (tCons te (tCons (tC c) tNil))) σ H (Is (.bl b)) := fun H1 e Q q =>
  he H1 e _ fun x H2 e2 ⟨a, d, h1, h2, h3⟩ => by
    subst h1
    exact ⟨a, C, ini, d, c, u, b, rfl, hc, T, h2, h3, hk, q _ H2 e2 rfl⟩
end
end MeE
set_option Elab.async false
set_option linter.all false
set_option maxRecDepth 100000
set_option maxHeartbeats 4000000
/-! data at any depth, items by place, equality, repr, loops, over the words of MeE -/
namespace MeE
open PySem L2 Evl MeH MeG
variable {K : PySem.W.Frag}
def DP (K : PySem.W.Frag) (d : PyData) : VP := fun v H => Dp K H v d
def DV (K : PySem.W.Frag) (d : PyData) : VP := fun v H => Dd K H v d
mutual
theorem Dp.up {H H' : Hp} (e : Ex H H') : ∀ {v : V} {d : PyData}, Dp K H v d → Dp K H' v d
  | _, _, .non => .non
  | _, _, .bl b => .bl b
  | _, _, .int i => .int i
  | _, _, .str x => .str x
  | _, _, .lst h k => .lst (ex_l e h) (DpAll.up e k)
  | _, _, .tup h k => .tup (ex_t e h) (DpAll.up e k)
theorem DpAll.up {H H' : Hp} (e : Ex H H') : ∀ {vs : List V} {ds : List PyData}, DpAll K H vs ds → DpAll K H' vs ds
  | _, _, .nil => .nil
  | _, _, .cons h k => .cons (Dp.up e h) (DpAll.up e k)
end
mutual
theorem Dd.up {H H' : Hp} (e : Ex H H') : ∀ {v : V} {d : PyData}, Dd K H v d → Dd K H' v d
  | _, _, .non => .non
  | _, _, .bl b => .bl b
  | _, _, .int i => .int i
  | _, _, .str x => .str x
  | _, _, .lst h k => .lst (ex_l e h) (DdAll.up e k)
  | _, _, .tup h k => .tup (ex_t e h) (DdAll.up e k)
  | _, _, .dic h k => .dic (ex_rd e h) (DdKv.up e k)
theorem DdAll.up {H H' : Hp} (e : Ex H H') : ∀ {vs : List V} {ds : List PyData}, DdAll K H vs ds → DdAll K H' vs ds
  | _, _, .nil => .nil
  | _, _, .cons h k => .cons (Dd.up e h) (DdAll.up e k)
theorem DdKv.up {H H' : Hp} (e : Ex H H') : ∀ {vs : List (Key × V)} {ds : List (PyData × PyData)}, DdKv K H vs ds → DdKv K H' vs ds
  | _, _, .nil => .nil
  | _, _, .cons h k => .cons (Dd.up e h) (DdKv.up e k)
end
theorem mono_dp (d : PyData) : Mono (DP K d) := fun _ _ _ e h => Dp.up e h
theorem mono_dv (d : PyData) : Mono (DV K d) := fun _ _ _ e h => Dd.up e h
theorem mono_dps (ds : List PyData) : MonoL (ds.map (DP K)) := fun R hR => by
  obtain ⟨d, _, rfl⟩ := List.mem_map.mp hR
  exact mono_dp d
theorem mono_dvs (ds : List PyData) : MonoL (ds.map (DV K)) := fun R hR => by
  obtain ⟨d, _, rfl⟩ := List.mem_map.mp hR
  exact mono_dv d
theorem dp_all {H : Hp} : ∀ {ds : List PyData} {xs : List V}, All (ds.map (DP K)) xs H → DpAll K H xs ds
  | [], [], _ => .nil
  | [], _ :: _, h => h.elim
  | _ :: _, [], h => h.elim
  | _ :: _, _ :: _, h => .cons h.1 (dp_all h.2)
theorem dv_all {H : Hp} : ∀ {ds : List PyData} {xs : List V}, All (ds.map (DV K)) xs H → DdAll K H xs ds
  | [], [], _ => .nil
  | [], _ :: _, h => h.elim
  | _ :: _, [], h => h.elim
  | _ :: _, _ :: _, h => .cons h.1 (dv_all h.2)
theorem dp_lst {H : Hp} {ds : List PyData} {v : V} (h : Lst (ds.map (DP K)) v H) : DP K (.list ds) v H := by
  obtain ⟨p, xs, rfl, h2, h3⟩ := h
  exact .lst (sq_of h2) (dp_all h3)
theorem dv_lst {H : Hp} {ds : List PyData} {v : V} (h : Lst (ds.map (DV K)) v H) : DV K (.list ds) v H := by
  obtain ⟨p, xs, rfl, h2, h3⟩ := h
  exact .lst (sq_of h2) (dv_all h3)
theorem dv_tup {H : Hp} {ds : List PyData} {v : V} (h : Tup (ds.map (DV K)) v H) : DV K (.tuple ds) v H := by
  obtain ⟨p, xs, rfl, h2, h3⟩ := h
  exact .tup (st_of h2) (dv_all h3)
theorem dp_ints {H : Hp} : ∀ ns : List Int, DpAll K H (ns.map V.int) (ns.map PyData.int)
  | [] => .nil
  | n :: ns => .cons (.int n) (dp_ints ns)
theorem dp_bls {H : Hp} : ∀ bs : List Bool, DpAll K H (bs.map V.bl) (bs.map PyData.bool)
  | [] => .nil
  | b :: bs => .cons (.bl b) (dp_bls bs)
section
variable {σ : L2.St} {H : Hp} {ta tb te : TE} {P R : VP}
theorem gd_nil : GetsA tNil σ H (All (([] : List PyData).map (DP K))) := ga_nil
theorem gd_cons {d : PyData} {ds : List PyData} {tr : TA} (h : Gets te σ H (DP K d)) (hr : GetsA tr σ H (All (ds.map (DP K)))) : GetsA (tCons te tr) σ H (All ((d :: ds).map (DP K))) := ga_cons h (mono_dp d) hr
theorem gd_lst {ds : List PyData} {t : TA} (h : GetsA t σ H (All (ds.map (DP K)))) (hl : ds.length ≤ 1000) : Gets (tLst t) σ H (DP K (.list ds)) :=
  (g_lst h (mono_dps ds) (by rw [List.length_map]; exact hl)).imp fun v H1 _ p => dp_lst p
theorem gd_int {i : Int} : Gets (tC (.int i)) σ H (DP K (.int i)) := fun H1 e Q q => q _ H1 (Ex.refl H1) (Dp.int i)
theorem gd_bl {b : Bool} : Gets (tC (.bl b)) σ H (DP K (.bool b)) := fun H1 e Q q => q _ H1 (Ex.refl H1) (Dp.bl b)
theorem gd_of {v : V} {d : PyData} (h : Gets te σ H (Is v)) (k : ∀ H1, Ex H H1 → Dp K H1 v d) : Gets te σ H (DP K d) := h.imp fun w H1 e p => by
  have p' : w = v := p
  rw [p']
  exact k H1 e
/-- xs[j] -/
theorem g_ix {Ps : List VP} {j : Nat} (ha : Gets ta σ H (Lst Ps)) (m : MonoL Ps) (hb : Gets tb σ H (Is (.int (j : Nat)))) (hj : Ps[j]? = some P) : Gets (tOp (rIxL K) ta tb) σ H P :=
  g_op ha hb (mono_lst m) fun x y H1 e px py Q q => by
    obtain ⟨p, xs, rfl, hp, ax⟩ := px
    have py' : y = .int (j : Nat) := py
    subst py'
    have hlt : j < xs.length := by
      rw [ax.len]
      exact (List.getElem?_eq_some_iff.mp hj).1
    obtain ⟨P', h1, h2⟩ := ax.get (List.getElem?_eq_getElem hlt)
    rw [hj] at h1
    cases h1
    exact ⟨p, xs, (j : Nat), xs[j], rfl, rfl, sq_of hp, atI_nat (List.getElem?_eq_getElem hlt), q _ H1 (Ex.refl H1) h2⟩
theorem g_neD {d e : PyData} (ha : Gets ta σ H (DP K d)) (hb : Gets tb σ H (DP K e)) (hd : SeqAt.shaped d = true) (he : SeqAt.shaped e = true) : Gets (tOp (rNeD K) ta tb) σ H (Is (.bl (!PyData.eqv d e))) :=
  g_op ha hb (mono_dp d) fun x y H1 _ px py Q q => ⟨d, e, px, py, hd, he, q _ H1 (Ex.refl H1) rfl⟩
theorem g_eqD {d e : PyData} (ha : Gets ta σ H (DP K d)) (hb : Gets tb σ H (DP K e)) (hd : SeqAt.shaped d = true) (he : SeqAt.shaped e = true) : Gets (tOp (rEqD K) ta tb) σ H (Is (.bl (PyData.eqv d e))) :=
  g_op ha hb (mono_dp d) fun x y H1 _ px py Q q => ⟨d, e, px, py, hd, he, q _ H1 (Ex.refl H1) rfl⟩
theorem eqv_shaped {d : PyData} (h : SeqAt.shaped d = true) : PyData.eqv d d = true := SeqAt.eqv_refl d (SeqAt.canLay_of_shaped h)
theorem g_ne {x y : V} (ha : Gets ta σ H (Is x)) (hb : Gets tb σ H (Is y)) (hs : scal x y = true) : Gets (tOp rNe ta tb) σ H (Is (.bl (!decide (x = y)))) := Ev.gets (ev_op ha.ev hb.ev (rv_ne hs))
/-- repr(e) -/
theorem g_repr {d : PyData} (h : Gets te σ H (DV K d)) (hs : d.showable = true) (hd : d.depth ≤ 60) (hl : d.shown.length ≤ sizeLine) : Gets (tCB (rRepr K) (tCons te tNil)) σ H (Is (.str d.shown)) := fun H1 e Q q =>
  h H1 e _ fun v H2 e2 p => ⟨v, d, rfl, p, hs, hd, hl, q _ H2 e2 rfl⟩
theorem g_rep {Ps : List VP} {k : Nat} (ha : Gets ta σ H (Lst Ps)) (m : MonoL Ps) (hb : Gets tb σ H (Is (.int (k : Nat)))) (hk : k ≤ 100) (hl : Ps.length ≤ 100) : Gets (tOp rRep ta tb) σ H (Lst (List.replicate k Ps).flatten) :=
  g_op ha hb (mono_lst m) fun x y H1 e px py Q q => by
    obtain ⟨p, xs, rfl, hp, ax⟩ := px
    have py' : y = .int (k : Nat) := py
    subst py'
    have al : ∀ n : Nat, All (List.replicate n Ps).flatten (List.replicate n xs).flatten H1 := fun n => by
      induction n with
      | zero => exact trivial
      | succ n ih =>
        rw [List.replicate_succ, List.replicate_succ, List.flatten_cons, List.flatten_cons]
        exact ax.app ih
    have ml : ∀ n : Nat, MonoL (List.replicate n Ps).flatten := fun n => by
      induction n with
      | zero => exact monoL_nil
      | succ n ih =>
        rw [List.replicate_succ, List.flatten_cons]
        exact monoL_app m ih
    have hz : xs.length * k ≤ 100 * 100 := Nat.mul_le_mul (by rw [ax.len]; exact hl) hk
    have hsz : sizeLine = 16777216 := sizeLine_eq
    exact ⟨p, (k : Nat), xs, rfl, rfl, hp, by omega, by omega, by rw [Int.toNat_natCast]; omega, fun c hc => q _ _ (Ex.new hc) ⟨c, _, rfl, upd_same, by rw [Int.toNat_natCast]; exact (al k).up (Ex.new hc) (ml k)⟩⟩
/-! loops over a new list, over its places -/
variable {D : Ends} {tu : TS} {g : TG} {tl : TE}
theorem w_forL {Ps : List VP} (h : Gets tl σ H (Lst Ps)) (m : MonoL Ps) (S : Nat → L2.St → Prop) (h0 : S 0 σ)
    (hs : ∀ i x P σ' H', Ex H H' → Ps[i]? = some P → P x H' → S i σ' → ∀ N : L2.St → Hp → Prop, (∀ σ3 H3, Ex H' H3 → S (i + 1) σ3 → N σ3 H3) → g x σ' H' fun σ2 H2 => tu { D with nx := N, ct := N, bk := D.nx } σ2 H2)
    (hd : ∀ σ' H', Ex H H' → S Ps.length σ' → D.nx σ' H') : tFor (iList K tl) g tu D σ H :=
  h H (Ex.refl H) _ fun v H1 e1 ⟨p, xs, hv, hp, ax⟩ => by
    subst hv
    refine ⟨p, rfl, ⟨xs, sq_of hp⟩, for_list (xs := xs) (fun i σ' H' => Ex H1 H' ∧ S i σ') ⟨Ex.refl H1, h0⟩ (fun i σ' H' _ q => sq_of (q.1 _ _ hp)) (fun i x σ' H' hx q => ?_) fun σ' H' q => hd σ' H' (e1.trans q.1) (by rw [← ax.len]; exact q.2)⟩
    obtain ⟨P, h1, h2⟩ := (ax.up q.1 m).get hx
    exact hs i x P σ' H' (e1.trans q.1) h1 h2 q.2 _ fun σ3 H3 e3 s3 => ⟨q.1.trans e3, s3⟩
/-- over a list that stands -/
theorem w_forV {a : Addr} {xs : List V} (h : Gets tl σ H (Is (.ref a))) (hx : SqL K H a xs) (S : Nat → L2.St → Prop) (h0 : S 0 σ)
    (hs : ∀ i x σ' H', Ex H H' → xs[i]? = some x → S i σ' → ∀ N : L2.St → Hp → Prop, (∀ σ3 H3, Ex H' H3 → S (i + 1) σ3 → N σ3 H3) → g x σ' H' fun σ2 H2 => tu { D with nx := N, ct := N, bk := D.nx } σ2 H2)
    (hd : ∀ σ' H', Ex H H' → S xs.length σ' → D.nx σ' H') : tFor (iList K tl) g tu D σ H :=
  h H (Ex.refl H) _ fun v H1 e1 hv => by
    have hv' : v = .ref a := hv
    subst hv'
    refine ⟨a, rfl, ⟨xs, ex_l e1 hx⟩, for_list (xs := xs) (fun i σ' H' => Ex H1 H' ∧ S i σ') ⟨Ex.refl H1, h0⟩ (fun i σ' H' _ q => ex_l (e1.trans q.1) hx) (fun i x σ' H' hx' q => ?_) fun σ' H' q => hd σ' H' (e1.trans q.1) q.2⟩
    exact hs i x σ' H' (e1.trans q.1) hx' q.2 _ fun σ3 H3 e3 s3 => ⟨q.1.trans e3, s3⟩
/-- for i, x in enumerate(l), l a list that stands -/
theorem w_forE {t : TA} {a : Addr} {xs : List V} (h : GetsA t σ H (All [Is (.ref a)])) (hx : SqL K H a xs) (S : Nat → L2.St → Prop) (h0 : S 0 σ)
    (hs : ∀ i x T σ' H', Ex H H' → xs[i]? = some x → H' T = some (.tup [.int (i : Nat), x]) → S i σ' → ∀ N : L2.St → Hp → Prop, (∀ σ3 H3, Ex H' H3 → S (i + 1) σ3 → N σ3 H3) → g (.ref T) σ' H' fun σ2 H2 => tu { D with nx := N, ct := N, bk := D.nx } σ2 H2)
    (hd : ∀ σ' H', Ex H H' → S xs.length σ' → D.nx σ' H') : tFor (iEnum K t) g tu D σ H :=
  h H (Ex.refl H) _ fun vs H1 e1 ps => by
    obtain ⟨v, rfl, hv⟩ := all1 ps
    have hv' : v = .ref a := hv
    subst hv'
    refine ⟨a, xs, rfl, ex_l e1 hx, for_it walk_enum (fun i σ' H' => Ex H1 H' ∧ S i σ') ⟨Ex.refl H1, h0⟩ (fun i σ' H' _ q => ex_l (e1.trans q.1) hx) (fun i x σ' H' H'' hi q y => ?_) fun σ' H' q => hd σ' H' (e1.trans q.1) q.2⟩
    obtain ⟨T, i', x', rfl, hT, rfl, ei, ex⟩ := y
    have ei' : i' = .int (i : Nat) := (Option.some.inj ei).symm
    subst ei'
    exact hs i x' T σ' _ ((e1.trans q.1).trans (Ex.new hT)) ex upd_same q.2 _ fun σ3 H3 e3 s3 => ⟨(q.1.trans (Ex.new hT)).trans e3, s3⟩
/-- for i in range(n) -/
theorem w_forR {ta : TA} {j : Nat} {n : Int} (h : EvA ta σ H [.int n]) (hn : 0 ≤ n ∧ n ≤ 100000) (S : Nat → L2.St → Prop) (h0 : S 0 σ)
    (hs : ∀ (i : Nat) σ' H', Ex H H' → (i : Int) < n → S i σ' → ∀ N : L2.St → Hp → Prop, (∀ σ3 H3, Ex H' H3 → S (i + 1) σ3 → N σ3 H3) → tu { D with nx := N, ct := N, bk := D.nx } (σ'.set j (some (.int (i : Int)))) H')
    (hd : ∀ σ' H', Ex H H' → S n.toNat σ' → D.nx σ' H') : tFor (iRng1 ta) (gName j) tu D σ H :=
  s_forR1 h hn (fun i σ' H' => Ex H H' ∧ S i σ') (fun H1 e => ⟨e, h0⟩) (fun i σ' H' hi q => hs i σ' H' q.1 hi q.2 _ fun σ3 H3 e3 s3 => ⟨q.1.trans e3, s3⟩) fun σ' H' q => hd σ' H' q.1 q.2
end
end MeE
set_option Elab.async false
set_option linter.all false
set_option maxRecDepth 100000
set_option maxHeartbeats 4000000
/-! the head's facts, the tables of the defs that make lambdas left out -/
namespace MeK
open PySem PySem.Spec PyProof.Rows L2 He MeH MeG
structure SaysY (fb : List Fb) (fn : List DefD) (tf : List Defn) (h : Heap) (K : PySem.W.Frag) : Prop where
  x : SaysX fb fn K
  hd : ∀ p ∈ tf, PySem.W.codeHdIn K (cT K p).1 (cT K p).2 = true
  out : ∀ p ∈ tf, K.lookup (cT K p).2 = none
  empty : ∀ p ∈ tf, h.get? (cT K p).2 = some { cls := .none, data := .fields #[] }
  nd : (tf.map fun p => (cT K p).2).Nodup
abbrev AlY : Type := AlD × Bool
def frY (n : Nat) (g : Addr → Option Obj) : PySem.W.Frag := frT g (asX g n)
def obsY (n : Nat) (fb : List Fb) (fn : List DefD) (tf : List Defn) (g : Addr → Option Obj) : AlY := (obsX fb fn (frY n g), tabsB g tf (frY n g) && decide (tf.map fun p => (cT (frY n g) p).2).Nodup)
def hookY (n : Nat) (fb : List Fb) (fn : List DefD) (tf : List Defn) : PySem.W.Hook where
  α := AlY
  obs := fun s => obsY n fb fn tf s.heap.get?
  val := fun _ => (valD fn, true)
  says := fun _ h => ∃ K : PySem.W.Frag, K.In h ∧ SaysY fb fn tf h K
  of := fun _ s e => ⟨_, frT_in, by
    have e1 : obsX fb fn (frY n s.heap.get?) = valD fn := congrArg (fun z : AlY => z.1) e
    have e3 : (tabsB s.heap.get? tf (frY n s.heap.get?) && decide (tf.map fun p => (cT (frY n s.heap.get?) p).2).Nodup) = true := congrArg (fun z : AlY => z.2) e
    obtain ⟨e2, e4⟩ := ba e3
    have key : ∀ p ∈ tf, PySem.W.codeHdIn (frY n s.heap.get?) (cT (frY n s.heap.get?) p).1 (cT (frY n s.heap.get?) p).2 = true ∧ ∃ o, s.heap.get? (cT (frY n s.heap.get?) p).2 = some o ∧ emptyTab o = true := fun p hp => by
      obtain ⟨h3, h4⟩ := ba (List.all_eq_true.mp e2 p hp)
      refine ⟨h3, ?_⟩
      cases q : s.heap.get? (cT (frY n s.heap.get?) p).2 with
      | none =>
        rw [q] at h4
        cases h4
      | some o =>
        rw [q] at h4
        exact ⟨o, rfl, h4⟩
    refine ⟨e1, fun p hp => (key p hp).1, fun p hp => ?_, fun p hp => ?_, of_decide_eq_true e4⟩
    · obtain ⟨_, o, q, z⟩ := key p hp
      exact frT_none q z
    · obtain ⟨_, o, q, z⟩ := key p hp
      rw [emptyTab_eq z] at q
      exact q⟩
  keeps := fun _ _ _ ⟨K, hK, c⟩ k => ⟨K, PySem.W.Frag.In.keeps hK k, ⟨c.x, c.hd, c.out, fun p hp => k _ _ (c.empty p hp), c.nd⟩⟩
theorem obsY_eq {n : Nat} {fb : List Fb} {fn : List DefD} {tf : List Defn} {g : Addr → Option Obj} {s : Shared} (h : ∀ a, g a = s.heap.get? a) : obsY n fb fn tf g = (hookY n fb fn tf).obs s := by
  have e : g = s.heap.get? := funext h
  rw [e] <;> rfl
theorem refsVE_of : ∀ cs : List Addr, PySem.HandSPX.refsVE (cs.map Value.ref ++ MeX.tVE) = true
  | [] => by decide +kernel
  | _ :: cs => refsVE_of cs
theorem oex_ok {K : PySem.W.Frag} {x : Str} (c : (Fb.xcls x .ve).ok K = true) : OexC K (ga K x) := by
  have T := xcls_ok c
  obtain ⟨c1, _⟩ := ba c
  obtain ⟨cs, nm, qn, N, bs, sn, sub, ab, col, dd, k0, k1, k2, k3, k5, ho⟩ := objB_ok c1
  exact ⟨⟨nm, qn, N, bs, _, sn, sub, ab, col, dd, k0, k1, k2, k3, k5, ho, refsVE_of cs⟩, T.sa, T.su, by
    show Option.map (fun x => x.cls) (K.lookup (ga K x)) = _
    rw [ho]
    rfl, T.kC⟩
theorem xf_ok {K : PySem.W.Frag} {C : Addr} {ini : String} (T : XCls K C ini) : XfC K C := ⟨T.ga, T.gt, T.su, T.hd⟩
end MeK
set_option Elab.async false
set_option linter.all false
set_option maxRecDepth 100000
set_option maxHeartbeats 4000000
/-! lambdas as values that the heap knows; a def read at the place of its call; the end with tables and guards -/
namespace MeL
open PySem PySem.Spec PyProof.Rows L2 LamX MeG
/-- at f: a lambda -/
def LamO (f c' : Addr) (q : Str) (params : Arguments) (body : Expr) (scope : Scope) (cl : List (Str × Addr)) : HO :=
  .ext fun h => ∃ pm ctv : Value, h.get? f = some (PySem.W.kla_obj "<lambda>" q params body scope cl pm c' ctv)
theorem lamO_ok {P : Program} {w : World} {H : Hp} {h : Heap} {f c' : Addr} {q : Str} {params : Arguments} {body : Expr} {scope : Scope} {cl : List (Str × Addr)} {pm ctv : Value}
    (e : h.get? f = some (PySem.W.kla_obj "<lambda>" q params body scope cl pm c' ctv)) : ObjOk P w H h f (LamO f c' q params body scope cl) :=
  ⟨⟨pm, ctv, e⟩, ⟨_, e⟩, fun h1 h2 ⟨pm, ctv, z⟩ k => ⟨pm, ctv, k _ z⟩⟩
theorem lamO_tbl {f c' : Addr} {q : Str} {params : Arguments} {body : Expr} {scope : Scope} {cl : List (Str × Addr)} (ps : Array Value) : LamO f c' q params body scope cl ≠ .tbl ps := fun z => by
  unfold LamO at z
  cases z
/-- lambda: body -/
def tLamV (T : List (Addr × Str)) (q : Str) (params : Arguments) (body : Expr) (scope : Scope) (cl : List (Str × Addr)) : TE := fun _ H Q => Tabs T H ∧
  ∀ (f c' : Addr) (H1 : Hp), H f = none → ExtN H H1 → Tabs T H1 → H1 f = some (LamO f c' q params body scope cl) → H1 c' = some (CodeO c' q) → Q (.ref f) H1
/-- a row is written behind a table: its code object at c' is told from now on -/
abbrev rowOf (pos : Pos) (c' : Addr) : Array Value := #[rawInt pos.line, rawInt pos.col, .ref c']
theorem row_in {q : Str} {pos : Pos} {c' P : Addr} {ps : Array Value} {H H1 : Hp} (ok : TriplesOk ps.toList) (old : ∀ (p : Pos) (cv : Value), codeAmong p ps.toList = some cv → ∃ c, cv = .ref c ∧ H c = some (CodeO c q)) (e : ExtN H H1)
    (hP : H1 P = some (.tbl (ps ++ rowOf pos c'))) (hc : H1 c' = some (CodeO c' q)) : TabS H1 P q := by
  have list : (ps ++ rowOf pos c').toList = ps.toList ++ [rawInt pos.line, rawInt pos.col, .ref c'] := Array.toList_append
  refine ⟨_, hP, list ▸ PySem.TriplesOk_snoc _ _ _ _ ok, fun p cv found => ?_⟩
  rcases among_app ps.toList ok (list ▸ found) with was | new
  · obtain ⟨c, h1, h2⟩ := old p cv was
    exact ⟨c, h1, e _ _ h2 codeO_ne⟩
  · exact ⟨c', new, hc⟩
theorem tabS_stays {H H1 : Hp} {P : Addr} {q : Str} (t : TabS H P q) (e : ExtN H H1) (same : H1 P = H P) : TabS H1 P q := by
  obtain ⟨ps, h1, h2, h3⟩ := t
  refine ⟨ps, same.trans h1, h2, fun p cv found => ?_⟩
  obtain ⟨c, h4, h5⟩ := h3 p cv found
  exact ⟨c, h4, e _ _ h5 codeO_ne⟩
section
variable {X : Cx} {pins : List (Addr × Obj)} {σ : L2.St} {H : Hp} {s : Shared}
/-- the function's object is laid upon a state in which its code object stands -/
theorem lam_laid {T : List (Addr × Str)} {params : Arguments} {body : Expr} {scope : Scope} {cl : List (Str × Addr)} {q : Str} {H1 : Hp} {h1 : Heap} {tk : Nat} {c' : Addr} {pm ctv : Value} {Q : VK} (I : Inv X pins σ H1 { s with heap := h1, toks := tk }) (e : ExtN H H1) (tabs : Tabs T H1) (hc : H1 c' = some (CodeO c' q))
    (new : H h1.objs.size = none) (want : ∀ (f c' : Addr) (H1 : Hp), H f = none → ExtN H H1 → Tabs T H1 → H1 f = some (LamO f c' q params body scope cl) → H1 c' = some (CodeO c' q) → Q (.ref f) H1) :
    EP X pins σ Q (.ref h1.objs.size) { s with heap := h1.push (PySem.W.kla_obj "<lambda>" q params body scope cl pm c' ctv), toks := tk } := by
  have free1 : H1 h1.objs.size = none := I.hok.fresh (Nat.le_refl _)
  have more : ∀ b o, H1 b = some o → upd H1 h1.objs.size (LamO h1.objs.size c' q params body scope cl) b = some o := fun b o h => (upd_ne (ne_of_none h free1)).trans h
  have I2 := I.laid (t' := tk) (a := h1.objs.size) (o := LamO h1.objs.size c' q params body scope cl) (h' := h1.push (PySem.W.kla_obj "<lambda>" q params body scope cl pm c' ctv)) (fun _ _ h => Heap.get?_push_of_some _ h) (Nat.le_refl _) (lamO_ok (Heap.get?_push_size _ rfl))
  exact ⟨.ref h1.objs.size, _, I2, rfl, want _ c' _ new (e.trans (ExtN.of more)) (tabs.ext more) upd_same (more _ _ hc)⟩
theorem pe_lam {T : List (Addr × Str)} {c P : Addr} {params : Arguments} {body : Expr} {scope : Scope} {pos : Pos} (TB : TabB X.base X.mg c P) (hcode : X.env.code = .ref c)
    (hm : (P, X.env.qual ++ "<lambda>") ∈ T) (hu : ∀ p ∈ T, p.1 = P → p.2 = X.env.qual ++ "<lambda>") (hdef : defaultsOf params X.env = ([], [])) (L : LamS X.env.scope scope) :
    PE X (.Lambda params body scope pos) (tLamV T (X.env.qual ++ "<lambda>") params body scope (cloFrom X.env.cells scope.names [])) where
  run := fun pins s σ H Q I ⟨tabs, want⟩ => by
    obtain ⟨ps, inP, ok, old⟩ := tabs _ hm
    have obP := I.hok P _ inP
    have ns := I.mod.glob.keeps I.bk
    apply PySem.W.kla_eval hdef
    cases found : codeAmong pos ps.toList with
    | some cv =>
      obtain ⟨c', rfl, inC⟩ := old pos cv found
      exact PySem.W.kla_makeFunctionHit (ps := ps) (closure_ok (L.has I.ok)) I.ok.glob ns hcode (TB.code.keeps I.bk) obP ok found (TB.bm.keeps I.bk) fun ctv h1 tk kept grown => lam_laid (I.kept (t' := tk) kept) (ExtN.refl H) tabs inC (I.hok.fresh grown) want
    | none =>
      refine PySem.W.kla_makeFunction (ps := ps) (closure_ok (L.has I.ok)) I.ok.glob ns hcode (TB.code.keeps I.bk) obP ok found TB.gP (TB.bm.keeps I.bk) fun cv ctv h1 tk kept above below isCode row => ?_
      obtain ⟨c', oc, fs, tq, same, ob, dat, nm⟩ := isCode
      cases same
      have newC : H cv = none := I.hok.fresh above
      have apart : P ≠ cv := ne_of_none inP newC
      have I1 := inv_table (t' := tk) (more := rowOf pos cv) I inP kept row above ⟨oc, fs, tq, ob, dat, nm⟩
      have e1 : ExtN H (upd (upd H P (.tbl (ps ++ rowOf pos cv))) cv (CodeO cv (X.env.qual ++ "<lambda>"))) := fun b o h no => by
        have n1 : b ≠ P := fun z => no ps (Option.some.inj (h.symm.trans (z ▸ inP)))
        exact (upd_ne (ne_of_none h newC)).trans ((upd_ne n1).trans h)
      refine lam_laid I1 e1 (fun p hp => ?_) upd_same (I.hok.fresh (Nat.le_trans above (Nat.le_of_lt below))) want
      by_cases hb : p.1 = P
      · rw [hu p hp hb, hb]
        exact row_in ok old e1 ((upd_ne apart).trans upd_same) upd_same
      · have at1 : H p.1 ≠ none := fun z => by
          obtain ⟨qs, h2, _⟩ := tabs p hp
          exact nomatch z.symm.trans h2
        exact tabS_stays (tabs p hp) e1 ((upd_ne (fun z : p.1 = cv => at1 (by rw [z]; exact newC))).trans (upd_ne hb))
/-- x(), in the def that got the lambda of X: that def entered at s -/
def tActK (i : Nat) (q : Str) (params : Arguments) (body : Expr) (scope : Scope) (cl : List (Str × Addr)) (σ : L2.St) (W : WX) (tl : XK → TE) : TE := fun σZ HZ Q =>
  ∃ f c' : Addr, σZ[i]? = some (some (.ref f)) ∧ HZ f = some (LamO f c' q params body scope cl) ∧ HZ c' = some (CodeO c' q) ∧ tl (fun cls d H' => W cls d σZ H') σ HZ Q
/-- a lambda of X runs, called from frames above: its body's reading is asked at X's slots -/
theorem lam_run {A : Around} {outer : List Env} {s1 : Shared} {HZ : Hp} {params : Arguments} {body : Expr} {scope : Scope} {k : Nat} {f c' : Addr} {E : XK} {te : TE} {Q : VK} (I : Inv X pins σ H s) (L : LamS X.env.scope scope)
    (hbind : ∀ (q : Str) (cl : List (Str × Addr)) (pm cv ctv : Value), bindArgs (PySem.W.kla_fn "<lambda>" q params body scope cl pm cv ctv) ⟨[], []⟩ = pure []) (room : Room (k + 1) A) (env : Env0 X.prog X.w X.K X.mg X.base A outer s1 HZ) (lim : s1.heap.NoLimit) (un : Un (frs X.stack) [] H HZ s.heap s1.heap)
    (inF : HZ f = some (LamO f c' (X.env.qual ++ "<lambda>") params body scope (cloFrom X.env.cells scope.names []))) (inC : HZ c' = some (CodeO c' (X.env.qual ++ "<lambda>"))) (hbody : Room k (A.deeper (lamEnv X scope s1.heap.objs.size f c')) → PE (lamCx X A outer s1 HZ E scope f c') body te) (want : te σ HZ Q) :
    codeAny (model X.prog X.w) A (.call (.ref f) ⟨[], []⟩) (CR (L2.CX X.prog X.w) outer X.prog X.w HZ s1 Q E) s1 := by
  obtain ⟨⟨pm, ctv, obF⟩, _⟩ := env.hok f _ inF
  obtain ⟨⟨oc, fs, tq, obC, dat, nm⟩, _⟩ := env.hok c' _ inC
  apply PySem.W.kla_callFunE room.depth obF rfl L.co L.gen rfl ⟨c', oc, fs, tq, rfl, obC, dat, nm⟩
  rw [hbind]
  refine wpAny_pure (wpAny_newFunctionEnv (fun y hy => (L.own y hy).2) (fun y hy => nomatch hy) (fun h1 ns but => ⟨lim.fresh _ but, ?_⟩) L.kind)
  have start := lam_start2 (A := A) (E := E) (f := f) (c' := c') (tk := s1.toks + ([] : List (Str × Value)).length) I L env room.hd un ns fun b o h => but.extBut b o (Nat.ne_of_lt (Heap.lt_size h)) (Heap.get?_push_of_some _ h)
  have go := (hbody (room.deeper _)).run [] _ _ HZ Q start want
  exact PySem.W.kla_codeExpr (wpAny_mono go (fun _ _ ⟨v, H2, J, rel, h⟩ => ⟨v, H2, J.os, J.bare, J.base, J.hok, rel, h⟩) fun _ _ h => h)
theorem pe_actK {CXg : CXT} {Eg : XK} {Ng : List Str} {qg : Str} {sg : Scope} {g : Addr} {cdg : Value} {params : Arguments} {body : Expr} {scope : Scope} {k i : Nat} {a : Str} {pn : List (Addr × Obj)} {xe : Value → Shared → Prop} {W : WX} {tl : XK → TE} {p1 p2 : Pos}
    (I : Inv X pins σ H s) (L : LamS X.env.scope scope)
    (hbind : ∀ (q : Str) (cl : List (Str × Addr)) (pm cv ctv : Value), bindArgs (PySem.W.kla_fn "<lambda>" q params body scope cl pm cv ctv) ⟨[], []⟩ = pure [])
    (tk : Takes ((cxOf CXg X.prog X.w X.K X.mg X.base Ng qg sg g cdg X.A X.stack s H Eg).tr pn xe) W) (hr : Room (k + 1) (X.A.deeper (envOfC qg sg s.heap.objs.size g cdg)))
    (hbody : ∀ (E : XK) (A : Around) (outer : List Env) (s : Shared) (H : Hp) (f c' : Addr), A.guards = X.A.guards → Room k (A.deeper (lamEnv X scope s.heap.objs.size f c')) → PE (lamCx X A outer s H E scope f c') body (tl E))
    (slot : Ng[i]? = some a) (seen : Vis sg a) (nodbg : (a == ("__debug__" : Str)) = false := by decide) (nodct : (a == ("__classdict__" : Str)) = false := by decide) :
    PE ((cxOf CXg X.prog X.w X.K X.mg X.base Ng qg sg g cdg X.A X.stack s H Eg).tr pn xe) (.Call (.Name a p1) [] [] p2) (tActK i (X.env.qual ++ "<lambda>") params body scope (cloFrom X.env.cells scope.names []) σ W tl) where
  run := fun pinsZ sZ σZ HZ Q IZ ⟨f, c', at_, inF, inC, want⟩ => by
    have name := (pe_var (X := (cxOf CXg X.prog X.w X.K X.mg X.base Ng qg sg g cdg X.A X.stack s H Eg).tr pn xe) (pos := p1) slot seen nodbg nodct).run pinsZ sZ σZ HZ (fun v H1 => v = .ref f ∧ H1 = HZ) IZ ⟨_, at_, rfl, rfl⟩
    refine wpAny_Call_Name_kw (thn name fun u s1 ⟨v, H1, I1, rel, ev, eH⟩ => ?_)
    subst ev eH
    have eu : u = Value.ref f := rel
    subst eu
    obtain ⟨⟨_, _, obF⟩, _⟩ := I1.hok f _ inF
    have go := lam_run (E := fun cls d H' => W cls d σZ H') I L hbind hr I1.env0 I1.nolimit I1.base inF inC (hbody _ (X.A.deeper (envOfC qg sg s.heap.objs.size g cdg)) _ s1 H1 f c' rfl) want
    refine PySem.W.callWith_F0 ⟨_, _, _, _, obF⟩ (wpAny_call (codeAny_mono go fun r s2 h => ?_))
    match r, h with
    | .ok (.ret _), h => exact I1.after h
    | .error e, h => exact tk e s2 (XE.of_call I1 (W := W) (fun _ _ _ h => h) h)
/-- x(e, ..), x's body read here: TT, what it makes of the values -/
def tIn (TT : L2.St → List V → Hp → VK → Prop) (n : Nat) (ta : TA) : TE := fun σ H Q => ta σ H fun vs H1 => vs.length = n ∧ TT σ vs H1 Q
theorem pe_callIn {TT : L2.St → List V → Hp → VK → Prop} {x : Str} {g : Addr} {k : Nat} {pg : Arguments} {bg : List Stmt} {sg : Scope} {fd : FuncData} {Ng ps : List Str} {e : Expr} {es : List Expr} {ta : TA} {p pos : Pos} (F : FunD X.K x x pg bg sg [] [] g fd)
    (hg : Gl X x) (hm : X.mg x = some (.ref g)) (hk : PySem.W.keepIn X.K (.ref g) = true) (hb : L2.Binds X.K fd ps []) (Sg : FnScope Ng ps sg) (hr : Room (k + 1) X.A)
    (hG : ∀ (cdv : Value) (pins : List (Addr × Obj)) (s : Shared) (σ : L2.St) (H : Hp) (vs : List V) (Q : VK), Inv X pins σ H s → Room k (X.A.deeper (envOfC x sg s.heap.objs.size g cdv)) → vs.length = ps.length → TT σ vs H Q →
      ∃ t, PSs (cxOf L2.CX0 X.prog X.w X.K X.mg X.base Ng x sg g cdv X.A X.stack s H L2.E0) bg t ∧ t { nx := fun _ H' => Q .non H', rt := Q } (L2.start Ng vs) H)
    (ha : PA X (e :: es) ta) (hdb : (x == ("__debug__" : Str)) = false := by decide) (he : starEach (e :: es) X.env = (false, eval e X.env) :: starEach es X.env := by rfl) (hpl : (backTo pos (starEach es X.env)).any (·.1) = false := by rfl) :
    PE X (.Call (.Name x p) (e :: es) [] pos) (tIn TT ps.length ta) := by
  refine ⟨fun pins s σ H Q I h => wpAny_Call_Name_kw (ld_glob I hg hm ?_ hdb)⟩
  refine PySem.W.callWith_K I.ok.mod.kin hk (thn (ha.run pos pins s σ H _ I h) fun us s1 ⟨vs, H1, I1, vals, count, want⟩ => ⟨I1.kIn, ?_⟩) he hpl
  obtain ⟨_, _, _, _, _, _, _, cdv, _, _, e, lk, hcd, _⟩ := F.ex
  subst e
  have bind := hb s1 us I1.kIn (by rw [List.append_nil, ← vals.length, count])
  rw [List.append_nil] at bind
  have go := run_ofS (CX := L2.CX0) (E := L2.E0) (Q := Q) lk hcd Sg hr I1.env0 bind vals count fun room => hG cdv pins s1 σ H1 vs Q I1 room count want
  refine wpAny_call (codeAny_mono go fun r s2 h => ?_)
  match r, h with
  | .ok (.ret _), h => exact I1.after h
end
end MeL
set_option Elab.async false
set_option linter.all false
set_option maxRecDepth 100000
set_option maxHeartbeats 4000000
/-! the end: a law that makes lambdas and asks repr; its tables may be none at all -/
namespace MeL
open PySem PySem.Spec PyProof.Rows L2 LamX MeG
def emptyO : Obj := { cls := .none, data := .fields #[] }
def scriptO (vs : List Value) : Obj := { cls := .type "list", data := .seq vs.toArray }
/-- the tables of the law and its script, as the abstract heap tells them; a script of the written part is not told -/
def begH (K : PySem.W.Frag) (cs : List (Addr × Addr)) (a : Addr) (vs : List Value) (ns : List Int) : Hp := fun b =>
  if b ∈ cs.map Prod.snd then some (.tbl #[]) else if b = a ∧ K.lookup a = none then some (.frz (scriptO vs) (.lst (ns.map V.int))) else none
/-- what holds where the law is called -/
structure Beg (K : PySem.W.Frag) (mg : Str → Option Value) (cs : List (Addr × Addr)) (a : Addr) (vs : List Value) (ns : List Int) (s : Shared) : Prop where
  kin : K.In s.heap
  main : s.heap.Ns mainGlobals mg
  blt : ∃ mb : Str → Option Value, s.heap.Ns builtinsNs mb ∧ ∀ x : Str, x ≠ "__name__" → mb x = bootBuiltins x
  lim : s.heap.NoLimit
  gens : s.gens = #[]
  tab : ∀ p ∈ cs, s.heap.get? p.2 = some emptyO
  out : ∀ p ∈ cs, K.lookup p.2 = none
  code : ∀ p ∈ cs, PySem.W.CodeHd s.heap p.1 p.2
  bmod : ∃ (m : Addr) (o : Obj), mg "__builtins__" = some (.ref m) ∧ m ≠ builtinsNs ∧ s.heap.get? m = some o ∧ o.cls = .type "module" ∧ o.dict = some builtinsNs ∧ o.data = .plain
  scr : s.heap.get? a = some (scriptO vs)
  num : IntsAre vs ns
  size : ns.length ≤ sizeLine
section
variable {K : PySem.W.Frag} {mg : Str → Option Value} {cs : List (Addr × Addr)} {a : Addr} {vs : List Value} {ns : List Int} {s : Shared}
theorem Beg.tabAt (B : Beg K mg cs a vs ns s) {b : Addr} (h : b ∈ cs.map Prod.snd) : s.heap.get? b = some emptyO ∧ K.lookup b = none := by
  obtain ⟨p, hp, rfl⟩ := List.mem_map.mp h
  exact ⟨B.tab p hp, B.out p hp⟩
theorem Beg.apart (B : Beg K mg cs a vs ns s) : a ∉ cs.map Prod.snd := fun h => by
  have h1 := (B.tabAt h).1
  rw [B.scr] at h1
  have h2 : (scriptO vs).cls = emptyO.cls := congrArg Obj.cls (Option.some.inj h1)
  cases h2
theorem begH_tab {b : Addr} (h : b ∈ cs.map Prod.snd) : begH K cs a vs ns b = some (.tbl #[]) := by
  unfold begH
  exact if_pos h
theorem begH_scr (B : Beg K mg cs a vs ns s) (h : K.lookup a = none) : begH K cs a vs ns a = some (.frz (scriptO vs) (.lst (ns.map V.int))) := by
  unfold begH
  rw [if_neg B.apart, if_pos ⟨rfl, h⟩]
/-- only these are told -/
theorem begH_some {b : Addr} {o : HO} (h : begH K cs a vs ns b = some o) : (b ∈ cs.map Prod.snd ∧ o = .tbl #[]) ∨ (b = a ∧ K.lookup a = none ∧ o = .frz (scriptO vs) (.lst (ns.map V.int))) := by
  unfold begH at h
  split at h
  · rename_i h1
    exact .inl ⟨h1, (Option.some.inj h).symm⟩
  · split at h
    · rename_i h2
      exact .inr ⟨h2.1, h2.2, (Option.some.inj h).symm⟩
    · cases h
theorem Beg.ok (B : Beg K mg cs a vs ns s) (P : Program) (w : World) : HOk P w (begH K cs a vs ns) s.heap := fun b o h => by
  rcases begH_some h with ⟨h1, rfl⟩ | ⟨rfl, _, rfl⟩
  · exact (B.tabAt h1).1
  · refine ⟨B.scr, ?_, vs, _, vals_ints B.num, B.scr⟩
    rw [List.length_map]
    exact B.size
/-- a thing that is neither a list nor an empty table isn't told -/
theorem Beg.free (B : Beg K mg cs a vs ns s) {b : Addr} {o : Obj} (h : s.heap.get? b = some o) (h1 : ∀ xs n, o.data ≠ .seq xs n) (h2 : o.data ≠ .fields #[]) : begH K cs a vs ns b = none := by
  cases q : begH K cs a vs ns b with
  | none => rfl
  | some u =>
    rcases begH_some q with ⟨h3, _⟩ | ⟨rfl, _, _⟩
    · have h4 := (B.tabAt h3).1
      rw [h] at h4
      exact absurd (congrArg Obj.data (Option.some.inj h4)) h2
    · have h4 := B.scr
      rw [h] at h4
      exact absurd (congrArg Obj.data (Option.some.inj h4)) (h1 _ _)
/-- the ground under the law: all that isn't told -/
abbrev Beg.base (_ : Beg K mg cs a vs ns s) : Heap := hidT s.heap (begH K cs a vs ns)
theorem Beg.low (B : Beg K mg cs a vs ns s) {b : Addr} {o : Obj} (h : s.heap.get? b = some o) (h1 : ∀ xs n, o.data ≠ .seq xs n) (h2 : o.data ≠ .fields #[]) : B.base.get? b = some o := hidT_get h (B.free h h1 h2)
theorem Beg.lowNs (B : Beg K mg cs a vs ns s) {b : Addr} {m : Str → Option Value} (h : s.heap.Ns b m) : B.base.Ns b m := by
  obtain ⟨o, es, ep, h1, h2, h3⟩ := h
  refine ⟨o, es, ep, B.low h1 (fun xs n z => ?_) fun z => ?_, h2, h3⟩ <;> exact nomatch h2.symm.trans z
theorem Beg.lowK (B : Beg K mg cs a vs ns s) : K.In B.base := fun b o h => by
  refine hidT_get (B.kin b o h) ?_
  cases q : begH K cs a vs ns b with
  | none => rfl
  | some u =>
    rcases begH_some q with ⟨h3, _⟩ | ⟨rfl, h3, _⟩
    · exact nomatch h.symm.trans (B.tabAt h3).2
    · exact nomatch h.symm.trans h3
theorem Beg.mod (B : Beg K mg cs a vs ns s) : L2.Mod K mg B.base where
  kin := B.lowK
  glob := B.lowNs B.main
  blt := let ⟨mb, h1, h2⟩ := B.blt; ⟨mb, B.lowNs h1, h2⟩
  nolimit := let ⟨mc, h1, h2⟩ := B.lim; ⟨mc, B.lowNs h1, h2⟩
theorem Beg.tables (B : Beg K mg cs a vs ns s) : ∀ p ∈ cs, TabB B.base mg p.1 p.2 := fun p hp => by
  have ht := B.tab p hp
  have noMain : mainGlobals ≠ p.2 := fun z => by
    obtain ⟨o, es, ep, h1, h2, _⟩ := B.main
    rw [z, ht] at h1
    cases Option.some.inj h1
    exact nomatch h2
  refine { code := ?_, bm := ?_, gP := noMain }
  · obtain ⟨o, us, file, tf, flags, tg, inF, text, tt, e1, r1, r2, r3, rest⟩ := B.code p hp
    refine ⟨o, us, file, tf, flags, tg, inF, text, tt, B.low e1 (fun xs n z => nomatch r2.symm.trans z) (fun z => ?_), r1, r2, r3, rest⟩
    have z2 : us = #[] := Data.fields.inj (r2.symm.trans z)
    rw [z2] at r3
    simp at r3
  · obtain ⟨m, o, b1, b2, b3, b4, b5, b6⟩ := B.bmod
    refine ⟨m, o, b1, b2, fun z => ?_, fun z => ?_, B.low b3 (fun xs n z => nomatch b6.symm.trans z) (fun z => nomatch b6.symm.trans z), b4, b5, b6⟩
    · obtain ⟨o', es, ep, h1, h2, _⟩ := B.main
      rw [← z, b3] at h1
      cases Option.some.inj h1
      exact nomatch b6.symm.trans h2
    · rw [z, ht] at b3
      cases Option.some.inj b3
      exact nomatch b6
theorem Beg.env (B : Beg K mg cs a vs ns s) (P : Program) (w : World) : Env0 P w K mg B.base callerA [] s (begH K cs a vs ns) where
  frames := rfl
  mod := B.mod
  bs := fun _ _ h => of_hidT h
  bsz := Nat.le_of_eq (hidT_size _ _)
  funs := trivial
  frf := fun _ h => nomatch (show _ ∈ ([] : List Addr) from h)
  hok := B.ok P w
  bare := .of_eq B.gens
theorem Beg.script (B : Beg K mg cs a vs ns s) : SqL K (begH K cs a vs ns) a (ns.map V.int) := by
  cases q : K.lookup a with
  | none => exact .inl (.inr ⟨_, begH_scr B q⟩)
  | some o =>
    have h1 := B.kin a o q
    rw [B.scr] at h1
    cases Option.some.inj h1
    have h2 := B.num.length
    refine .inr ⟨_, vs.toArray, _, q, rfl, rfl, rfl, ?_, vals_ints B.num⟩
    rw [List.size_toArray, h2]
    exact B.size
/-- behind the law: all that stood is as it was, tables may have grown -/
theorem Beg.stands (B : Beg K mg cs a vs ns s) {P : Program} {w : World} {H' : Hp} {s' : Shared} (un : Un (frs []) [] (begH K cs a vs ns) H' s.heap s'.heap) (hok : HOk P w H' s'.heap) : OldK s.heap s'.heap := by
  have told : ∀ b o, s.heap.get? b = some o → (∃ p ∈ cs, p.2 = b ∧ o = emptyO ∧ ∃ more : Array Value, s'.heap.get? b = some { cls := .none, data := .fields more }) ∨ s'.heap.get? b = some o := fun b o h => by
    cases q : begH K cs a vs ns b with
    | none => exact .inr (un.keep b o h q (fun z => nomatch (show b ∈ ([] : List Addr) from z)) (fun z => nomatch z))
    | some u =>
      rcases begH_some q with ⟨h1, rfl⟩ | ⟨rfl, _, rfl⟩
      · obtain ⟨p, hp, rfl⟩ := List.mem_map.mp h1
        obtain ⟨more, h2⟩ := un.tbls _ _ q
        have h3 := B.tab p hp
        rw [h] at h3
        exact .inl ⟨p, hp, rfl, Option.some.inj h3, _, hok _ _ h2⟩
      · have h3 := B.scr
        rw [h] at h3
        cases Option.some.inj h3
        exact .inr (hok _ _ (un.frzs _ _ _ q)).1
  constructor
  · intro b o h
    rcases told b o h with ⟨p, hp, rfl, rfl, more, h2⟩ | h2
    · exact .inr (.inl ⟨((B.code p hp).tab (B.tab p hp)).isCodeTable, rfl, #[], more, rfl, by rw [Array.empty_append]; exact h2⟩)
    · exact .inl h2
  · intro b o h
    rcases told b o h with ⟨_, _, _, _, more, h2⟩ | h2
    · exact ⟨_, h2⟩
    · exact ⟨o, h2⟩
/-- the law's call, from its promise -/
theorem Beg.call (B : Beg K mg cs a vs ns s) {P : Program} {w : World} {CX : CXT} {k : Nat} {fa : Addr} {fd : FuncData} {x : Str} {sp : Sp} (F : FnG P w K mg B.base CX k fa fd [x] sp) (hr : Room k callerA) (hbind : ∀ (s : Shared) (u : Value), BindsTo s fd ⟨[u], []⟩ [(x, u)])
    (hsp : sp [.ref a] (begH K cs a vs ns) (fun v _ => v = .bl true) fun _ _ _ => False) (hCX : ∀ H e s', CX [] H s (fun _ _ _ => False) e s' → False) :
    codeAny (model P w) callerA (.call (.ref fa) ⟨[.ref a], []⟩) (fun r s' => r = .ok (.ret (.bool true)) ∧ OldK s.heap s'.heap ∧ s'.os = s.os ∧ AllBare s'.gens) s := by
  have go := F.run callerA [] s (begH K cs a vs ns) ⟨[.ref a], []⟩ [.ref a] [.ref a] _ _ rfl hr (B.env P w) (hbind s (.ref a)) (.cons rfl .nil) hsp
  refine codeAny_mono go fun r s' h => ?_
  match r, h with
  | .error e, h => exact (hCX _ e s' h).elim
  | .ok (.ret u), h =>
    obtain ⟨v, H', h1, h2, un, hok, h3, h4⟩ := h
    have h4' : v = .bl true := h4
    rw [h4'] at h3
    have h5 : u = Value.bool true := h3
    exact ⟨by rw [h5], B.stands un hok, h1, h2⟩
end
/-- what is to be shown of the law at the head's heap -/
def LawAtG (l : PySem.W.OpenLaw) (w : World) (K : PySem.W.Frag) (CX : CXT) (k n : Nat) (x : Str) (mg : Str → Option Value) (fa : Addr) (h : Heap) : Prop :=
  ∃ (fd : FuncData) (cs : List (Addr × Addr)) (sp : Sp), ((∀ p ∈ cs, h.get? p.2 = some emptyO) ∧ (∀ p ∈ cs, K.lookup p.2 = none) ∧ ∀ p ∈ cs, PySem.W.CodeHd h p.1 p.2) ∧ (∀ (s : Shared) (u : Value), BindsTo s fd ⟨[u], []⟩ [(x, u)]) ∧
    (∀ (H : Hp) (a : Addr) (ns : List Int), ns.length ≤ n → (∀ z ∈ ns, Builtin.Int.intBits z ≤ 1048576) → (∀ p ∈ cs, H p.2 = some (.tbl #[])) → SqL K H a (ns.map V.int) → sp [.ref a] H (fun v _ => v = .bl true) fun _ _ _ => False) ∧
    ∀ base : Heap, K.In base → base.Ns mainGlobals mg → (∀ p ∈ cs, TabB base mg p.1 p.2) → FnG l.prog w K mg base CX k fa fd [x] sp
theorem walk_ofGE {l : PySem.W.OpenLaw} {n k : Nat} {q : Program} {loose : List Str} {XP : (Str → Option Value) → Heap → Prop} {YP : World → Heap → Prop} {d : DefRec} {CX : World → CXT} {x : Str} (most : l.most = some n) (few : n ≤ sizeLine) (plain : d.params.defaults = []) (room : Room k callerA)
    (F : ∀ (w : World) (mg : Str → Option Value) (fa : Addr) (h : Heap), YP w h → h.Ns mainGlobals mg → mg d.name = some (.ref fa) → ∃ K : PySem.W.Frag, K.In h ∧ LawAtG l w K (CX w) k n x mg fa h)
    (shut : ∀ (w : World) (H : Hp) (s : Shared) (e : Value) (s' : Shared), CX w [] H s (fun _ _ _ => False) e s' → False) : PySem.W.WalkO q loose XP YP l.row.toRowW d [] (fun f vs => PySem.call f vs) :=
  Att.attach_callB most plain fun w _ s mg mb fa _ _ _ _ a vs ns G Y _ _ _ hmg scr num len bits gens => by
    obtain ⟨K, kin, fd, cs, sp, ⟨t1, t2, t3⟩, hb, hsp, hF⟩ := F w mg fa _ Y G.T.g hmg
    have B : Beg K mg cs a vs ns s := ⟨kin, G.T.g, ⟨mb, G.T.b, G.T.builtins⟩, G.T.nolimit, gens, t1, t2, t3, G.T.bmain, scr, num, Nat.le_trans len few⟩
    exact B.call (hF _ B.lowK (B.lowNs B.main) B.tables) room hb (hsp _ a ns len bits (fun p hp => begH_tab (List.mem_map.mpr ⟨p, hp, rfl⟩)) B.script) fun H e s' => shut w H s e s'
end MeL
set_option Elab.async false
set_option linter.all false
set_option maxRecDepth 100000
set_option maxHeartbeats 4000000
/-! what an expression gives, told in a view of the heap: the rest (a pool, tables) may change -/
namespace MeV
open PySem L2 Evl MeH MeG LamX MeL
open MeE (VP Mono Is All MonoL Lst Tup mono_is monoL_nil monoL_cons monoL_app mono_lst mono_tup DP DV mono_dp mono_dv mono_dvs mono_dps)
/-- no table, no thing of one's own -/
def Pl (o : HO) : Prop := (∀ ps, o ≠ .tbl ps) ∧ ∀ φ, o ≠ .ext φ
theorem pl_lst {xs : List V} : Pl (.lst xs) := ⟨fun _ z => (by cases z), fun _ z => (by cases z)⟩
structure Wv where
  vw : Hp → Hp
  I : Hp → Prop
  sub : ∀ H, Ex (vw H) H
  up : ∀ {H H' : Hp}, I H → Ex H H' → I H' ∧ Ex (vw H) (vw H')
  see : ∀ {H H' : Hp} {q : Addr} {o : HO}, I H → H q = none → Ex H H' → H' q = some o → (∀ ps, o ≠ .tbl ps) → vw H' q = some o
  /-- a thing that is seen is changed -/
  chg : ∀ {H : Hp} {q : Addr} {o o' : HO}, I H → vw H q = some o → Pl o → Pl o' → I (upd H q o') ∧ vw (upd H q o') = upd (vw H) q o'
def Gv (S : Wv) (te : TE) (σ : L2.St) (h : Hp) (P : VP) : Prop := ∀ H1, S.I H1 → Ex h (S.vw H1) → ∀ Q : VK, (∀ v H2, S.I H2 → Ex (S.vw H1) (S.vw H2) → P v (S.vw H2) → Q v H2) → te σ H1 Q
def GvA (S : Wv) (ta : TA) (σ : L2.St) (h : Hp) (P : List V → Hp → Prop) : Prop := ∀ H1, S.I H1 → Ex h (S.vw H1) → ∀ Q : List V → Hp → Prop, (∀ vs H2, S.I H2 → Ex (S.vw H1) (S.vw H2) → P vs (S.vw H2) → Q vs H2) → ta σ H1 Q
def GvT (S : Wv) (tt : TT) (σ : L2.St) (h : Hp) (b : Bool) : Prop := ∀ H1, S.I H1 → Ex h (S.vw H1) → ∀ Q : Bool → Hp → Prop, (∀ H2, S.I H2 → Ex (S.vw H1) (S.vw H2) → Q b H2) → tt σ H1 Q
section
variable {S : Wv} {K : PySem.W.Frag} {σ : L2.St} {h h' : Hp} {ta tb te : TE} {t u : TT} {P P' R : VP} {r : R2} {v : V}
theorem Wv.to (S : Wv) {h H : Hp} (e : Ex h (S.vw H)) : Ex h H := e.trans (S.sub H)
theorem Gv.up (e : Ex h h') (g : Gv S te σ h P) : Gv S te σ h' P := fun H1 i a Q q => g H1 i (e.trans a) Q q
theorem GvA.up {ta : TA} {P : List V → Hp → Prop} (e : Ex h h') (g : GvA S ta σ h P) : GvA S ta σ h' P := fun H1 i a Q q => g H1 i (e.trans a) Q q
theorem GvT.up {b : Bool} (e : Ex h h') (g : GvT S t σ h b) : GvT S t σ h' b := fun H1 i a Q q => g H1 i (e.trans a) Q q
theorem Gv.imp (g : Gv S te σ h P) (k : ∀ v h1, Ex h h1 → P v h1 → R v h1) : Gv S te σ h R := fun H1 i a Q q => g H1 i a Q fun v H2 i2 e p => q v H2 i2 e (k v _ (a.trans e) p)
/-! what Evl knows -/
theorem v_ev (g : Ev te σ h v) : Gv S te σ h (Is v) := fun H1 i a Q q => g H1 (S.to a) Q fun H2 e => q v H2 (S.up i e).1 (S.up i e).2 rfl
theorem vt_et {b : Bool} (g : EvT t σ h b) : GvT S t σ h b := fun H1 i a Q q => g H1 (S.to a) Q fun H2 e => q H2 (S.up i e).1 (S.up i e).2
theorem v_el {xs : List V} (g : EvL te σ h xs) : Gv S te σ h (fun v H => ∃ p, v = .ref p ∧ H p = some (.lst xs)) := fun H1 i a Q q => g H1 (S.to a) Q fun p H2 n e hp => q _ H2 (S.up i e).1 (S.up i e).2 ⟨p, rfl, S.see i n e hp (fun _ z => nomatch z)⟩
theorem v_eu {xs : List V} (g : EvU te σ h xs) : Gv S te σ h (fun v H => ∃ p, v = .ref p ∧ H p = some (.tup xs)) := fun H1 i a Q q => g H1 (S.to a) Q fun p H2 n e hp => q _ H2 (S.up i e).1 (S.up i e).2 ⟨p, rfl, S.see i n e hp (fun _ z => nomatch z)⟩
theorem va_ea {ta : TA} {vs : List V} (g : EvA ta σ h vs) : GvA S ta σ h (fun ws _ => ws = vs) := fun H1 i a Q q => g H1 (S.to a) Q fun H2 e => q vs H2 (S.up i e).1 (S.up i e).2 rfl
theorem v_var {i : Nat} (e : σ[i]? = some (some v)) : Gv S (tVar i) σ h (Is v) := v_ev (ev_var e)
theorem v_c : Gv S (tC v) σ h (Is v) := v_ev ev_c
theorem v_varP {i : Nat} (e : σ[i]? = some (some v)) (m : Mono P) (p : P v h) : Gv S (tVar i) σ h P := fun H1 i1 a Q q => ⟨v, e, q v H1 i1 (Ex.refl _) (m _ _ _ a p)⟩
/-- a word that is told of v and holds in the heap now -/
theorem Gv.isP (g : Gv S te σ h (Is v)) (m : Mono P) (p : P v h) : Gv S te σ h P := fun H1 i a Q q => g H1 i a Q fun w H2 i2 e2 ew => by
  have ew' : w = v := ew
  rw [ew']
  exact q v H2 i2 e2 (m _ _ _ (a.trans e2) p)
theorem v_op (ga : Gv S ta σ h P) (gb : Gv S tb σ h P') (m : Mono P) (hr : ∀ x y H1, S.I H1 → Ex h (S.vw H1) → P x (S.vw H1) → P' y (S.vw H1) → ∀ Q : VK, (∀ z H2, S.I H2 → Ex (S.vw H1) (S.vw H2) → R z (S.vw H2) → Q z H2) → r x y H1 Q) : Gv S (tOp r ta tb) σ h R := fun H1 i e Q q =>
  ga H1 i e _ fun x H2 i2 e2 px => gb H2 i2 (e.trans e2) _ fun y H3 i3 e3 py => hr x y H3 i3 ((e.trans e2).trans e3) (m _ _ _ e3 px) py Q fun z H4 i4 e4 pz => q z H4 i4 ((e2.trans e3).trans e4) pz
/-- both sides known, the operation Evl's -/
theorem v_opV {x y z : V} (ga : Gv S ta σ h (Is x)) (gb : Gv S tb σ h (Is y)) (hr : RV r x y h z) : Gv S (tOp r ta tb) σ h (Is z) := v_op ga gb (mono_is x) fun a b H1 i e pa pb Q q => by
  have pa' : a = x := pa
  have pb' : b = y := pb
  subst pa' pb'
  exact hr H1 (S.to e) Q fun H2 e2 => q z H2 (S.up i e2).1 (S.up i e2).2 rfl
theorem v_un {r : V → Hp → VK → Prop} {x z : V} (ga : Gv S ta σ h (Is x)) (hr : RU r x h z) : Gv S (tUn r ta) σ h (Is z) := fun H1 i e Q q => ga H1 i e _ fun w H2 i2 e2 pw => by
  have pw' : w = x := pw
  subst pw'
  exact hr H2 (S.to (e.trans e2)) Q fun H3 e3 => q z H3 (S.up i2 e3).1 (e2.trans (S.up i2 e3).2) rfl
theorem va_nil : GvA S tNil σ h (All []) := fun H1 i _ _ q => q [] H1 i (Ex.refl _) trivial
theorem va_cons {tr : TA} {Ps : List VP} (g : Gv S te σ h P) (m : Mono P) (gr : GvA S tr σ h (All Ps)) : GvA S (tCons te tr) σ h (All (P :: Ps)) := fun H1 i e Q q =>
  g H1 i e _ fun v H2 i2 e2 p => gr H2 i2 (e.trans e2) _ fun vs H3 i3 e3 ps => q _ H3 i3 (e2.trans e3) ⟨m _ _ _ e3 p, ps⟩
theorem v_lst {t : TA} {Ps : List VP} (g : GvA S t σ h (All Ps)) (m : MonoL Ps) (hl : Ps.length ≤ 10000) : Gv S (tLst t) σ h (Lst Ps) := fun H1 i e Q q =>
  g H1 i e _ fun vs H2 i2 e2 ps => ⟨by rw [ps.len]; exact sz_of (by omega), fun p hp => q _ _ (S.up i2 (Ex.new hp)).1 (e2.trans (S.up i2 (Ex.new hp)).2) ⟨p, vs, rfl, S.see i2 hp (Ex.new hp) upd_same (fun _ z => nomatch z), ps.up (S.up i2 (Ex.new hp)).2 m⟩⟩
theorem v_tup {t : TA} {Ps : List VP} (g : GvA S t σ h (All Ps)) (m : MonoL Ps) (hl : Ps.length ≤ 10000) : Gv S (tTup t) σ h (Tup Ps) := fun H1 i e Q q =>
  g H1 i e _ fun vs H2 i2 e2 ps => ⟨by rw [ps.len]; exact sz_of (by omega), fun p hp => q _ _ (S.up i2 (Ex.new hp)).1 (e2.trans (S.up i2 (Ex.new hp)).2) ⟨p, vs, rfl, S.see i2 hp (Ex.new hp) upd_same (fun _ z => nomatch z), ps.up (S.up i2 (Ex.new hp)).2 m⟩⟩
theorem v_cat {Ps Rs : List VP} (ga : Gv S ta σ h (Lst Ps)) (gb : Gv S tb σ h (Lst Rs)) (m : MonoL Ps) (m' : MonoL Rs) (hl : Ps.length + Rs.length ≤ 10000) : Gv S (tOp rCat ta tb) σ h (Lst (Ps ++ Rs)) :=
  v_op ga gb (mono_lst m) fun x y H1 i e px py Q q => by
    obtain ⟨p, xs, rfl, hp, ax⟩ := px
    obtain ⟨b, ys, rfl, hb', ay⟩ := py
    exact ⟨p, b, xs, ys, rfl, rfl, S.sub _ _ _ hp, S.sub _ _ _ hb', by rw [ax.len, ay.len]; exact sz_of (by omega), fun c hc => q _ _ (S.up i (Ex.new hc)).1 (S.up i (Ex.new hc)).2 ⟨c, xs ++ ys, rfl, S.see i hc (Ex.new hc) upd_same (fun _ z => nomatch z), (ax.app ay).up (S.up i (Ex.new hc)).2 (monoL_app m m')⟩⟩
theorem v_ix {Ps : List VP} {j : Nat} (ga : Gv S ta σ h (Lst Ps)) (m : MonoL Ps) (gb : Gv S tb σ h (Is (.int (j : Nat)))) (hj : Ps[j]? = some P) : Gv S (tOp (rIxL K) ta tb) σ h P :=
  v_op ga gb (mono_lst m) fun x y H1 i e px py Q q => by
    obtain ⟨p, xs, rfl, hp, ax⟩ := px
    have py' : y = .int (j : Nat) := py
    subst py'
    have hlt : j < xs.length := by
      rw [ax.len]
      exact (List.getElem?_eq_some_iff.mp hj).1
    obtain ⟨P', h1, h2⟩ := ax.get (List.getElem?_eq_getElem hlt)
    rw [hj] at h1
    cases h1
    exact ⟨p, xs, (j : Nat), xs[j], rfl, rfl, sq_of (S.sub _ _ _ hp), atI_nat (List.getElem?_eq_getElem hlt), q _ H1 i (Ex.refl _) h2⟩
/-- a call by values -/
theorem v_cb {rr : List V → Hp → VK → Prop} {t : TA} {Ps : List V → Hp → Prop} (g : GvA S t σ h Ps) (hr : ∀ vs H1, S.I H1 → Ex h (S.vw H1) → Ps vs (S.vw H1) → ∀ Q : VK, (∀ z H2, S.I H2 → Ex (S.vw H1) (S.vw H2) → R z (S.vw H2) → Q z H2) → rr vs H1 Q) : Gv S (tCB rr t) σ h R := fun H1 i e Q q =>
  g H1 i e _ fun vs H2 i2 e2 ps => hr vs H2 i2 (e.trans e2) ps Q fun z H3 i3 e3 pz => q z H3 i3 (e2.trans e3) pz
/-- a call of a def -/
theorem v_call {sp : Sp} {dvs : List V} {E : XK} {t : TA} {Ps : List V → Hp → Prop} (g : GvA S t σ h Ps) (hr : ∀ vs H1, S.I H1 → Ex h (S.vw H1) → Ps vs (S.vw H1) → ∀ Q : VK, (∀ z H2, S.I H2 → Ex (S.vw H1) (S.vw H2) → R z (S.vw H2) → Q z H2) → sp (vs ++ dvs) H1 Q E) : Gv S (tCall sp dvs E t) σ h R := fun H1 i e Q q =>
  g H1 i e _ fun vs H2 i2 e2 ps => hr vs H2 i2 (e.trans e2) ps Q fun z H3 i3 e3 pz => q z H3 i3 (e2.trans e3) pz
/-! tests -/
theorem vt_test {b : Bool} (g : Gv S te σ h (Is (.bl b))) : GvT S (tTest te) σ h b := fun H1 i e Q q => g H1 i e _ fun w H2 i2 e2 ew => ⟨b, ew, q H2 i2 e2⟩
theorem vt_B {b : Bool} (g : Gv S te σ h (Is (.bl b))) : GvT S (tB te) σ h b := fun H1 i e Q q => g H1 i e _ fun w H2 i2 e2 ew => ⟨b, ew, q H2 i2 e2⟩
theorem vt_not {b : Bool} (g : GvT S t σ h b) : GvT S (tNot t) σ h (!b) := fun H1 i e Q q => g H1 i e _ fun H2 i2 e2 => q H2 i2 e2
theorem vt_and {a b : Bool} (g1 : GvT S t σ h a) (g2 : a = true → GvT S u σ h b) : GvT S (tAnd t u) σ h (a && b) := fun H1 i e Q q => g1 H1 i e _ fun H2 i2 e2 => by
  cases a with
  | true =>
    show u σ H2 Q
    exact g2 rfl H2 i2 (e.trans e2) Q fun H3 i3 e3 => q H3 i3 (e2.trans e3)
  | false =>
    show Q false H2
    exact q H2 i2 e2
theorem vt_or {a b : Bool} (g1 : GvT S t σ h a) (g2 : a = false → GvT S u σ h b) : GvT S (tOr t u) σ h (a || b) := fun H1 i e Q q => g1 H1 i e _ fun H2 i2 e2 => by
  cases a with
  | true =>
    show Q true H2
    exact q H2 i2 e2
  | false =>
    show u σ H2 Q
    exact g2 rfl H2 i2 (e.trans e2) Q fun H3 i3 e3 => q H3 i3 (e2.trans e3)
theorem GvT.is {a b : Bool} (g : GvT S t σ h a) (e : a = b) : GvT S t σ h b := e ▸ g
theorem Gv.is {w : V} (g : Gv S te σ h (Is v)) (e : v = w) : Gv S te σ h (Is w) := e ▸ g
theorem v_andV {a b : Bool} (g1 : Gv S ta σ h (Is (.bl a))) (g2 : a = true → Gv S tb σ h (Is (.bl b))) : Gv S (tAndV ta tb) σ h (Is (.bl (a && b))) := fun H1 i e Q q => g1 H1 i e _ fun w H2 i2 e2 ew => ⟨a, ew, by
  have ew' : w = .bl a := ew
  subst ew'
  cases a with
  | true =>
    show tb σ H2 Q
    exact g2 rfl H2 i2 (e.trans e2) Q fun z H3 i3 e3 p3 => q z H3 i3 (e2.trans e3) p3
  | false =>
    show Q (.bl false) H2
    exact q _ H2 i2 e2 rfl⟩
theorem v_if {b : Bool} (g : GvT S t σ h b) (g1 : b = true → Gv S ta σ h P) (g2 : b = false → Gv S tb σ h P) : Gv S (tIf t ta tb) σ h P := fun H1 i e Q q => g H1 i e _ fun H2 i2 e2 => by
  cases b with
  | true =>
    show ta σ H2 Q
    exact g1 rfl H2 i2 (e.trans e2) Q fun z H3 i3 e3 p3 => q z H3 i3 (e2.trans e3) p3
  | false =>
    show tb σ H2 Q
    exact g2 rfl H2 i2 (e.trans e2) Q fun z H3 i3 e3 p3 => q z H3 i3 (e2.trans e3) p3
/-! data -/
theorem vd_nil : GvA S tNil σ h (All (([] : List PyData).map (DV K))) := va_nil
theorem vd_cons {d : PyData} {ds : List PyData} {tr : TA} (g : Gv S te σ h (DV K d)) (gr : GvA S tr σ h (All (ds.map (DV K)))) : GvA S (tCons te tr) σ h (All ((d :: ds).map (DV K))) := va_cons g (mono_dv d) gr
theorem vd_lst {ds : List PyData} {t : TA} (g : GvA S t σ h (All (ds.map (DV K)))) (hl : ds.length ≤ 1000) : Gv S (tLst t) σ h (DV K (.list ds)) :=
  (v_lst g (mono_dvs ds) (by rw [List.length_map]; omega)).imp fun v H1 _ p => MeE.dv_lst p
theorem vd_tup {ds : List PyData} {t : TA} (g : GvA S t σ h (All (ds.map (DV K)))) (hl : ds.length ≤ 1000) : Gv S (tTup t) σ h (DV K (.tuple ds)) :=
  (v_tup g (mono_dvs ds) (by rw [List.length_map]; omega)).imp fun v H1 _ p => MeE.dv_tup p
theorem vd_int {i : Int} : Gv S (tC (.int i)) σ h (DV K (.int i)) := Gv.imp v_c fun v h1 _ p => by
  have p' : v = .int i := p
  subst p'
  exact Dd.int i
theorem vd_str {x : Str} : Gv S (tC (.str x)) σ h (DV K (.str x)) := Gv.imp v_c fun v h1 _ p => by
  have p' : v = .str x := p
  subst p'
  exact Dd.str x
theorem vd_bl {b : Bool} : Gv S (tC (.bl b)) σ h (DV K (.bool b)) := Gv.imp v_c fun v h1 _ p => by
  have p' : v = .bl b := p
  subst p'
  exact Dd.bl b
theorem vd_non : Gv S (tC .non) σ h (DV K .none) := Gv.imp v_c fun v h1 _ p => by
  have p' : v = .non := p
  subst p'
  exact Dd.non
theorem vd_dic : Gv S tDNewK σ h (DV K (.dict [])) := fun H1 i e Q q d hd => q _ _ (S.up i (Ex.new hd)).1 (S.up i (Ex.new hd)).2 (Dd.dic (Rd.of (S.see i hd (Ex.new hd) upd_same (fun _ z => nomatch z))) .nil)
theorem vd_of {d : PyData} (g : Gv S te σ h (Is v)) (k : Dd K h v d) : Gv S te σ h (DV K d) := g.isP (mono_dv d) k
theorem vd_var {i : Nat} {d : PyData} (e : σ[i]? = some (some v)) (k : Dd K h v d) : Gv S (tVar i) σ h (DV K d) := v_varP e (mono_dv d) k
theorem v_repr {d : PyData} (g : Gv S te σ h (DV K d)) (hs : d.showable = true) (hd : d.depth ≤ 60) (hl : d.shown.length ≤ sizeLine) : Gv S (tCB (rRepr K) (tCons te tNil)) σ h (Is (.str d.shown)) := fun H1 i e Q q =>
  g H1 i e _ fun v H2 i2 e2 p => ⟨v, d, rfl, MeE.Dd.up (S.sub _) p, hs, hd, hl, q _ H2 i2 e2 rfl⟩
/-! statements -/
variable {D : Ends} {tu tw tz : TS} {H : Hp}
theorem x_asg {i : Nat} (iH : S.I H) (g : Gv S te σ (S.vw H) P) (k : ∀ v H1, S.I H1 → Ex (S.vw H) (S.vw H1) → P v (S.vw H1) → D.nx (σ.set i (some v)) H1) : tAsg te (gName i) D σ H := g H iH (Ex.refl _) _ k
theorem x_asgq {i : Nat} (iH : S.I H) (g : Gv S te σ (S.vw H) P) (k : ∀ v H1, S.I H1 → Ex (S.vw H) (S.vw H1) → P v (S.vw H1) → tz D (σ.set i (some v)) H1) : tSeq (tAsg te (gName i)) tz D σ H := g H iH (Ex.refl _) _ k
theorem x_ret (iH : S.I H) (g : Gv S te σ (S.vw H) P) (k : ∀ v H1, S.I H1 → Ex (S.vw H) (S.vw H1) → P v (S.vw H1) → D.rt v H1) : tRet te D σ H := g H iH (Ex.refl _) _ k
theorem x_drop (iH : S.I H) (g : Gv S te σ (S.vw H) P) (k : ∀ v H1, S.I H1 → Ex (S.vw H) (S.vw H1) → P v (S.vw H1) → D.nx σ H1) : tDrop te D σ H := g H iH (Ex.refl _) _ k
theorem x_if {b : Bool} (iH : S.I H) (g : GvT S t σ (S.vw H) b) (k1 : b = true → ∀ H1, S.I H1 → Ex (S.vw H) (S.vw H1) → tu D σ H1) (k2 : b = false → ∀ H1, S.I H1 → Ex (S.vw H) (S.vw H1) → tw D σ H1) : tIfS t tu tw D σ H := g H iH (Ex.refl _) _ fun H1 i1 e1 => by
  cases b with
  | true =>
    show tu D σ H1
    exact k1 rfl H1 i1 e1
  | false =>
    show tw D σ H1
    exact k2 rfl H1 i1 e1
/-- if t: .. (no else), then tz -/
theorem x_when {b : Bool} (iH : S.I H) (g : GvT S t σ (S.vw H) b) (k1 : b = true → ∀ H1, S.I H1 → Ex (S.vw H) (S.vw H1) → tu { D with nx := tz D } σ H1) (k2 : b = false → ∀ H1, S.I H1 → Ex (S.vw H) (S.vw H1) → tz D σ H1) : tSeq (tIfS t tu tNext) tz D σ H := x_if (D := { D with nx := tz D }) iH g k1 k2
end
end MeV
set_option Elab.async false
set_option linter.all false
set_option maxRecDepth 100000
set_option maxHeartbeats 4000000
/-! views: all of the heap, tables left out, a thing hidden; loops and comprehensions -/
namespace MeV
open PySem L2 Evl MeH MeG LamX MeL
open MeE (VP Mono Is All MonoL Lst Tup mono_is monoL_nil monoL_cons monoL_app mono_lst mono_tup DP DV mono_dp mono_dv mono_dvs mono_dps)
/-- all is seen -/
def idW : Wv where
  vw := fun H => H
  I := fun _ => True
  sub := fun H => Ex.refl H
  up := fun _ e => ⟨trivial, e⟩
  see := fun _ _ _ h _ => h
  chg := fun _ _ _ _ => ⟨trivial, rfl⟩
/-- all but tables -/
def noT (H : Hp) : Hp := fun b => match H b with
  | some (.tbl _) => none
  | o => o
theorem noT_of {H : Hp} {b : Addr} {o : HO} (h : H b = some o) (n : ∀ ps, o ≠ .tbl ps) : noT H b = some o := by
  unfold noT
  rw [h]
  split
  · rename_i ps z
    exact absurd (Option.some.inj z) (n ps)
  · rfl
theorem of_noT {H : Hp} {b : Addr} {o : HO} (h : noT H b = some o) : H b = some o ∧ ∀ ps, o ≠ .tbl ps := by
  unfold noT at h
  split at h
  · cases h
  · rename_i z
    exact ⟨h, fun ps e => z ps (by rw [h, e])⟩
theorem noT_none {H : Hp} {b : Addr} (h : H b = none) : noT H b = none := by
  unfold noT
  rw [h]
theorem noT_ex {H H' : Hp} (e : ExtN H H') : Ex (noT H) (noT H') := fun b o h => noT_of (e b o (of_noT h).1 (of_noT h).2) (of_noT h).2
theorem noT_upd {H : Hp} {q : Addr} {o : HO} (n : ∀ ps, o ≠ .tbl ps) : noT (upd H q o) = upd (noT H) q o := by
  funext b
  by_cases hb : b = q
  · subst hb
    rw [upd_same]
    exact noT_of upd_same n
  · rw [upd_ne hb]
    unfold noT
    rw [upd_ne hb]
theorem TabS.chg {H : Hp} {P q : Addr} {s : Str} {o o' : HO} (t : TabS H P s) (h : H q = some o) (p : Pl o) : TabS (upd H q o') P s := by
  obtain ⟨ps, h1, h2, h3⟩ := t
  have n1 : P ≠ q := fun z => p.1 ps (by rw [z, h] at h1; exact Option.some.inj h1)
  refine ⟨ps, by rw [upd_ne n1]; exact h1, h2, fun pos cv hc => ?_⟩
  obtain ⟨c, e1, e2⟩ := h3 pos cv hc
  have n2 : c ≠ q := fun z => by
    rw [z, h] at e2
    unfold CodeO at e2
    exact p.2 _ (Option.some.inj e2)
  exact ⟨c, e1, by rw [upd_ne n2]; exact e2⟩
def tabW (T : List (Addr × Str)) : Wv where
  vw := noT
  I := Tabs T
  sub := fun H b o h => (of_noT h).1
  up := fun i e => ⟨i.ext e, noT_ex (ExtN.of e)⟩
  see := fun _ _ _ h n => noT_of h n
  chg := fun i h p p' => ⟨fun q hq => TabS.chg (i q hq) (of_noT h).1 p, noT_upd p'.1⟩
/-- all but p -/
def hv (f : Hp) (p : Addr) : Hp := fun b => if b = p then none else f b
theorem hv_of {f : Hp} {p b : Addr} {o : HO} (h : f b = some o) (n : b ≠ p) : hv f p b = some o := by
  unfold hv
  rw [if_neg n]
  exact h
theorem of_hv {f : Hp} {p b : Addr} {o : HO} (h : hv f p b = some o) : b ≠ p ∧ f b = some o := by
  unfold hv at h
  by_cases hb : b = p
  · rw [if_pos hb] at h
    cases h
  · rw [if_neg hb] at h
    exact ⟨hb, h⟩
theorem hv_upd {f : Hp} {p q : Addr} {o : HO} (n : q ≠ p) : hv (upd f q o) p = upd (hv f p) q o := by
  funext b
  by_cases hbq : b = q
  · subst hbq
    rw [upd_same]
    exact hv_of upd_same n
  · rw [upd_ne hbq]
    unfold hv
    rw [upd_ne hbq]
theorem hv_same {f : Hp} {p : Addr} {o : HO} : hv (upd f p o) p = hv f p := by
  funext b
  unfold hv
  by_cases hb : b = p
  · rw [if_pos hb, if_pos hb]
  · rw [if_neg hb, if_neg hb, upd_ne hb]
/-- what is at p is hidden, J tells of it -/
def Wv.hide (S : Wv) (p : Addr) (J : HO → Prop) : Wv where
  vw := fun H => hv (S.vw H) p
  I := fun H => S.I H ∧ ∃ o, S.vw H p = some o ∧ Pl o ∧ J o
  sub := fun H b o h => S.sub H b o (of_hv h).2
  up := fun {H H'} i e => by
    obtain ⟨i1, o, h1, h2⟩ := i
    obtain ⟨u1, u2⟩ := S.up i1 e
    exact ⟨⟨u1, o, u2 _ _ h1, h2⟩, fun b v h => hv_of (u2 _ _ (of_hv h).2) (of_hv h).1⟩
  see := fun {H H' q o} i n e h k => by
    obtain ⟨i1, o1, h1, _⟩ := i
    exact hv_of (S.see i1 n e h k) fun z => by
      rw [z, S.sub _ _ _ h1] at n
      cases n
  chg := fun {H q o o'} i h p1 p2 => by
    obtain ⟨i1, o1, h1, h2⟩ := i
    obtain ⟨hb, h'⟩ := of_hv h
    obtain ⟨m1, m2⟩ := S.chg i1 h' p1 p2
    refine ⟨⟨m1, o1, by rw [m2, upd_ne (Ne.symm hb)]; exact h1, h2⟩, ?_⟩
    show hv (S.vw (upd H q o')) p = upd (hv (S.vw H) p) q o'
    rw [m2, hv_upd hb]
theorem hide_vw {S : Wv} {p b : Addr} {J : HO → Prop} {H : Hp} {o : HO} (h : S.vw H b = some o) (n : b ≠ p) : (S.hide p J).vw H b = some o := hv_of h n
theorem hide_ex {S : Wv} {p : Addr} {J : HO → Prop} {H : Hp} : Ex ((S.hide p J).vw H) (S.vw H) := fun b o h => (of_hv h).2
/-- what does not speak of p is seen still -/
theorem ex_hide {S : Wv} {p : Addr} {J : HO → Prop} {h H : Hp} (e : Ex h (S.vw H)) (n : h p = none) : Ex h ((S.hide p J).vw H) := fun b o hb => hide_vw (e b o hb) (ne_of_none hb n)
/-- some list -/
abbrev Wv.hid (S : Wv) (p : Addr) : Wv := S.hide p fun o => ∃ xs, o = .lst xs
/-- this list -/
abbrev Wv.lst (S : Wv) (p : Addr) (xs : List V) : Wv := S.hide p fun o => o = .lst xs
theorem lst_hid {S : Wv} {p : Addr} {xs : List V} {H : Hp} (i : (S.lst p xs).I H) : (S.hid p).I H := by
  obtain ⟨i1, o, h1, h2, h3⟩ := i
  exact ⟨i1, o, h1, h2, xs, h3⟩
theorem lst_of {S : Wv} {p : Addr} {xs : List V} {H : Hp} (i : S.I H) (h : S.vw H p = some (.lst xs)) : (S.lst p xs).I H := ⟨i, _, h, pl_lst, rfl⟩
theorem lst_at {S : Wv} {p : Addr} {xs : List V} {H : Hp} (i : (S.lst p xs).I H) : S.vw H p = some (.lst xs) := by
  obtain ⟨_, o, h1, _, h3⟩ := i
  rw [h1, h3]
theorem hide_set {S : Wv} {p : Addr} {J : HO → Prop} {H : Hp} {o' : HO} (i : (S.hide p J).I H) (p2 : Pl o') : S.I (upd H p o') ∧ S.vw (upd H p o') = upd (S.vw H) p o' := by
  obtain ⟨i1, o, h1, h2, _⟩ := i
  exact S.chg i1 h1 h2 p2
theorem hide_same {S : Wv} {p : Addr} {J J' : HO → Prop} {H : Hp} {o' : HO} (i : (S.hide p J).I H) (p2 : Pl o') : (S.hide p J').vw (upd H p o') = (S.hide p J').vw H := by
  show hv (S.vw (upd H p o')) p = hv (S.vw H) p
  rw [(hide_set i p2).2, hv_same]
/-! iterators -/
def GvI (S : Wv) (wi : TI) (σ : L2.St) (h : Hp) (n : Nat) (Pi : Nat → VP) : Prop := ∀ H1, S.I H1 → Ex h (S.vw H1) → ∀ R : It → Hp → Prop,
  (∀ J H2, S.I H2 → Ex (S.vw H1) (S.vw H2) → (∀ (S' : Wv) i H, i < n → S'.I H → Ex (S.vw H2) (S'.vw H) → J.go i H ∧ ∀ x H', J.yld i H x H' → Ex H H' ∧ Pi i x (S'.vw H')) → (∀ (S' : Wv) H, S'.I H → Ex (S.vw H2) (S'.vw H) → J.stop n H) → R J H2) → wi σ H1 R
section
variable {S : Wv} {K : PySem.W.Frag} {σ : L2.St} {h h' : Hp} {ta tb te tl : TE} {t u : TT} {P P' R : VP} {r : R2} {v : V} {n : Nat} {Pi : Nat → VP} {wi : TI}
def PAt (Ps : List VP) (i : Nat) : VP := fun v h => ∃ P, Ps[i]? = some P ∧ P v h
theorem vi_lst {Ps : List VP} (g : Gv S tl σ h (Lst Ps)) (m : MonoL Ps) : GvI S (iList K tl) σ h Ps.length (PAt Ps) := fun H1 i1 e R r => g H1 i1 e _ fun v H2 i2 e2 ⟨p, xs, hv, hp, ax⟩ => by
  have sq : ∀ {S' : Wv} {H : Hp}, Ex (S.vw H2) (S'.vw H) → SqL K H p xs := fun {S' H} e => sq_of (S'.sub _ _ _ (e _ _ hp))
  refine ⟨p, hv, ⟨xs, sq (S' := S) (Ex.refl _)⟩, r _ H2 i2 e2 (fun S' i H hi iH eH => ?_) fun S' H iH eH => ⟨xs, sq eH, by rw [ax.len]; exact Nat.le_refl _⟩⟩
  have hi' : i < xs.length := by rw [ax.len]; exact hi
  refine ⟨⟨xs, xs[i], sq eH, List.getElem?_eq_getElem hi'⟩, fun x H' y => ?_⟩
  obtain ⟨rfl, y2⟩ := y
  exact ⟨Ex.refl _, (ax.up eH m).get (y2 xs (sq eH))⟩
/-- a list that stands, its items as they are -/
theorem vi_sqL {a : Addr} {xs : List V} (g : Gv S tl σ h (Is (.ref a))) (hs : SqL K h a xs) : GvI S (iList K tl) σ h xs.length (fun i v _ => xs[i]? = some v) := fun H1 i1 e R r => g H1 i1 e _ fun v H2 i2 e2 hv => by
  have sq : ∀ {S' : Wv} {H : Hp}, Ex (S.vw H2) (S'.vw H) → SqL K H a xs := fun {S' H} e3 => ex_l (((e.trans e2).trans e3).trans (S'.sub _)) hs
  refine ⟨a, hv, ⟨xs, sq (S' := S) (Ex.refl _)⟩, r _ H2 i2 e2 (fun S' i H hi iH eH => ⟨⟨xs, xs[i], sq eH, List.getElem?_eq_getElem hi⟩, fun x H' y => ?_⟩) fun S' H iH eH => ⟨xs, sq eH, Nat.le_refl _⟩⟩
  obtain ⟨rfl, y2⟩ := y
  exact ⟨Ex.refl _, y2 xs (sq eH)⟩
theorem vi_sqT {a : Addr} {xs : List V} (g : Gv S tl σ h (Is (.ref a))) (hs : SqT K h a xs) : GvI S (iTup K tl) σ h xs.length (fun i v _ => xs[i]? = some v) := fun H1 i1 e R r => g H1 i1 e _ fun v H2 i2 e2 hv => by
  have sq : ∀ {S' : Wv} {H : Hp}, Ex (S.vw H2) (S'.vw H) → SqT K H a xs := fun {S' H} e3 => ex_t (((e.trans e2).trans e3).trans (S'.sub _)) hs
  refine ⟨a, hv, ⟨xs, sq (S' := S) (Ex.refl _)⟩, r _ H2 i2 e2 (fun S' i H hi iH eH => ⟨⟨xs, xs[i], sq eH, List.getElem?_eq_getElem hi⟩, fun x H' y => ?_⟩) fun S' H iH eH => ⟨xs, sq eH, Nat.le_refl _⟩⟩
  obtain ⟨rfl, y2⟩ := y
  exact ⟨Ex.refl _, y2 xs (sq eH)⟩
theorem vi_str {z : Str} (g : Gv S te σ h (Is (.str z))) : GvI S (iStr te) σ h z.cps.size (fun i v _ => ∃ c, z.cps[i]? = some c ∧ v = .str ⟨#[c]⟩) := fun H1 i1 e R r => g H1 i1 e _ fun v H2 i2 e2 hv => by
  refine ⟨z, hv, r _ H2 i2 e2 (fun S' i H hi iH eH => ⟨hi, fun x H' y => ?_⟩) fun S' H iH eH => Nat.le_refl _⟩
  obtain ⟨rfl, y2⟩ := y
  exact ⟨Ex.refl _, y2⟩
theorem vi_rng {ta : TA} {n : Nat} (g : GvA S ta σ h (All [Is (.int (n : Nat))])) (hn : n ≤ 100000) : GvI S (iRng1 ta) σ h n (fun i v _ => v = .int (i : Nat)) := fun H1 i1 e R r => g H1 i1 e _ fun vs H2 i2 e2 ps => by
  obtain ⟨v, rfl, hv⟩ := MeE.all1 ps
  have hv' : v = .int (n : Nat) := hv
  subst hv'
  refine ⟨(n : Int), rfl, by omega, by omega, ?_⟩
  rw [Int.toNat_natCast]
  refine r _ H2 i2 e2 (fun S' i H hi iH eH => ⟨hi, fun x H' y => ?_⟩) fun S' H iH eH => Nat.le_refl _
  obtain ⟨rfl, y2⟩ := y
  refine ⟨Ex.refl _, ?_⟩
  rw [y2, Int.zero_add]
/-- items of data -/
theorem ddAll_get {H : Hp} : ∀ {ds : List PyData} {xs : List V}, DdAll K H xs ds → xs.length = ds.length ∧ ∀ (i : Nat) (x : V), xs[i]? = some x → ∃ d, ds[i]? = some d ∧ Dd K H x d
  | [], [], _ => ⟨rfl, fun i x e => by simp at e⟩
  | d :: ds, x :: xs, h => by
    cases h with
    | cons h1 h2 =>
      obtain ⟨l, k⟩ := ddAll_get h2
      refine ⟨by rw [List.length_cons, List.length_cons, l], fun i y e => ?_⟩
      cases i with
      | zero =>
        have e' : x = y := by simpa using e
        exact ⟨d, rfl, e' ▸ h1⟩
      | succ i => exact k i y (by simpa using e)
  | [], _ :: _, h => nomatch h
  | _ :: _, [], h => nomatch h
def DAt (K : PySem.W.Frag) (ds : List PyData) (i : Nat) : VP := fun v h => ∃ d, ds[i]? = some d ∧ Dd K h v d
theorem vi_dvL {ds : List PyData} (g : Gv S tl σ h (DV K (.list ds))) : GvI S (iList K tl) σ h ds.length (DAt K ds) := fun H1 i1 e R r => g H1 i1 e _ fun v H2 i2 e2 hv => by
  have hv' : Dd K (S.vw H2) v (.list ds) := hv
  cases hv' with
  | @lst a xs _ hs ha =>
    obtain ⟨l, k⟩ := ddAll_get ha
    have sq : ∀ {S' : Wv} {H : Hp}, Ex (S.vw H2) (S'.vw H) → SqL K H a xs := fun {S' H} e3 => ex_l (e3.trans (S'.sub _)) hs
    refine ⟨a, rfl, ⟨xs, sq (S' := S) (Ex.refl _)⟩, r _ H2 i2 e2 (fun S' i H hi iH eH => ?_) fun S' H iH eH => ⟨xs, sq eH, by rw [l]; exact Nat.le_refl _⟩⟩
    have hi' : i < xs.length := by rw [l]; exact hi
    refine ⟨⟨xs, xs[i], sq eH, List.getElem?_eq_getElem hi'⟩, fun x H' y => ?_⟩
    obtain ⟨rfl, y2⟩ := y
    obtain ⟨d, k1, k2⟩ := k i x (y2 xs (sq eH))
    exact ⟨Ex.refl _, d, k1, MeE.Dd.up eH k2⟩
theorem vi_dvT {ds : List PyData} (g : Gv S tl σ h (DV K (.tuple ds))) : GvI S (iTup K tl) σ h ds.length (DAt K ds) := fun H1 i1 e R r => g H1 i1 e _ fun v H2 i2 e2 hv => by
  have hv' : Dd K (S.vw H2) v (.tuple ds) := hv
  cases hv' with
  | @tup a xs _ hs ha =>
    obtain ⟨l, k⟩ := ddAll_get ha
    have sq : ∀ {S' : Wv} {H : Hp}, Ex (S.vw H2) (S'.vw H) → SqT K H a xs := fun {S' H} e3 => ex_t (e3.trans (S'.sub _)) hs
    refine ⟨a, rfl, ⟨xs, sq (S' := S) (Ex.refl _)⟩, r _ H2 i2 e2 (fun S' i H hi iH eH => ?_) fun S' H iH eH => ⟨xs, sq eH, by rw [l]; exact Nat.le_refl _⟩⟩
    have hi' : i < xs.length := by rw [l]; exact hi
    refine ⟨⟨xs, xs[i], sq eH, List.getElem?_eq_getElem hi'⟩, fun x H' y => ?_⟩
    obtain ⟨rfl, y2⟩ := y
    obtain ⟨d, k1, k2⟩ := k i x (y2 xs (sq eH))
    exact ⟨Ex.refl _, d, k1, MeE.Dd.up eH k2⟩
/-! comprehensions -/
def givP (n : Nat) (f : Nat → Bool) (E : Nat → VP) : List VP := ((List.range n).filter f).map E
theorem givP_yes {f : Nat → Bool} {E : Nat → VP} (h : f n = true) : givP (n + 1) f E = givP n f E ++ [E n] := by
  unfold givP
  rw [List.range_succ, List.filter_append, List.map_append, List.filter_cons, if_pos h] <;> rfl
theorem givP_no {f : Nat → Bool} {E : Nat → VP} (h : f n = false) : givP (n + 1) f E = givP n f E := by
  unfold givP
  rw [List.range_succ, List.filter_append, List.map_append, List.filter_cons, if_neg (by rw [h]; decide)]
  show _ ++ [] = _
  rw [List.append_nil]
theorem givP_len (n : Nat) (f : Nat → Bool) (E : Nat → VP) : (givP n f E).length ≤ n := by
  unfold givP
  rw [List.length_map]
  have h := List.length_filter_le f (List.range n)
  rw [List.length_range] at h
  exact h
theorem givP_mono {f : Nat → Bool} {E : Nat → VP} (m : ∀ i, i < n → Mono (E i)) : MonoL (givP n f E) := fun R hR => by
  unfold givP at hR
  obtain ⟨i, hi, rfl⟩ := List.mem_map.mp hR
  exact m i (List.mem_range.mp (List.mem_filter.mp hi).1)
theorem walk_of {J : It} {H2 : Hp} (h1 : ∀ (S' : Wv) i H, i < n → S'.I H → Ex (S.vw H2) (S'.vw H) → J.go i H ∧ ∀ x H', J.yld i H x H' → Ex H H' ∧ Pi i x (S'.vw H')) (h2 : ∀ (S' : Wv) H, S'.I H → Ex (S.vw H2) (S'.vw H) → J.stop n H) :
    Walk J n (fun H => ∃ S' : Wv, S'.I H ∧ Ex (S.vw H2) (S'.vw H)) (fun i H x H' => Ex H H' ∧ ∀ S' : Wv, S'.I H → Ex (S.vw H2) (S'.vw H) → Pi i x (S'.vw H')) :=
  ⟨fun i H hi ⟨S', a, b⟩ => (h1 S' i H hi a b).1, fun H ⟨S', a, b⟩ => h2 S' H a b, fun i H x H' hi ⟨S', a, b⟩ y => ⟨((h1 S' i H hi a b).2 x H' y).1, fun S1 a1 b1 => ((h1 S1 i H hi a1 b1).2 x H' y).2⟩⟩
theorem v_lc {j : Nat} {vs : List Nat} (f : Nat → Bool) (E : Nat → VP) (gi : GvI S wi σ h n Pi) (hn : n ≤ 50000) (m : ∀ i, i < n → Mono (E i)) (hw : ∀ x, wipe ((wipe σ vs).set j (some x)) vs = wipe σ vs)
    (ht : ∀ (Dl : Addr) (acc : List V) (i : Nat) (x : V) (h1 : Hp), i < n → Ex h h1 → Pi i x h1 → GvT (S.lst Dl acc) t ((wipe σ vs).set j (some x)) h1 (f i))
    (he : ∀ (Dl : Addr) (acc : List V) (i : Nat) (x : V) (h1 : Hp), i < n → Ex h h1 → Pi i x h1 → f i = true → Gv (S.lst Dl acc) te ((wipe σ vs).set j (some x)) h1 (E i)) (hPm : ∀ i, Mono (Pi i)) :
    Gv S (tLc wi (gName j) t te vs) σ h (Lst (givP n f E)) := fun H0 i0 e0 Q q => gi H0 i0 e0 _ fun J H2 i2 e2 c1 c2 Dl hD => by
  have nD : S.vw H2 Dl = none := by
    cases z : S.vw H2 Dl with
    | none => rfl
    | some o =>
      rw [S.sub _ _ _ z] at hD
      cases hD
  refine lc_it (walk_of c1 c2) (fun i H => ∃ acc, (S.lst Dl acc).I H ∧ Ex (S.vw H2) ((S.lst Dl acc).vw H) ∧ All (givP i f E) acc ((S.lst Dl acc).vw H)) ?_ ?_ ?_ ?_
  · obtain ⟨u1, u2⟩ := S.up i2 (Ex.new (o := .lst []) hD)
    exact ⟨[], lst_of u1 (S.see i2 hD (Ex.new hD) upd_same pl_lst.1), ex_hide u2 nD, trivial⟩
  · intro i H _ ⟨acc, a, b, _⟩
    exact ⟨_, a, b⟩
  · intro i x H H' hi ⟨acc, a, b, c⟩ y
    obtain ⟨y1, y2⟩ := y
    have hp := y2 _ a b
    obtain ⟨a', ea⟩ := (S.lst Dl acc).up a y1
    have mE := givP_mono (n := i) (f := f) (E := E) (fun k hk => m k (Nat.lt_trans hk hi))
    have c' := c.up ea mE
    refine ⟨hw x, ht Dl acc i x _ hi ((e0.trans e2).trans (b.trans ea)) hp H' a' (Ex.refl _) _ fun H3 i3 e3 => ?_⟩
    cases hf : f i with
    | true =>
      show te _ H3 _
      refine he Dl acc i x _ hi ((e0.trans e2).trans ((b.trans ea).trans e3)) (hPm i _ _ _ e3 hp) hf H3 i3 (Ex.refl _) _ fun y H4 i4 e4 py => ⟨acc, S.sub _ _ _ (lst_at i4), ?_, acc ++ [y], ?_⟩
      · rw [c.len]
        exact Nat.lt_of_le_of_lt (givP_len i f E) (sz_lt (by omega))
      · obtain ⟨k1, k2⟩ := hide_set i4 (o' := .lst (acc ++ [y])) pl_lst
        have k3 : (S.lst Dl (acc ++ [y])).vw (upd H4 Dl (.lst (acc ++ [y]))) = (S.lst Dl acc).vw H4 := hide_same i4 pl_lst
        refine ⟨lst_of k1 (by rw [k2, upd_same]), ?_, ?_⟩
        · rw [k3]
          exact ((b.trans ea).trans e3).trans e4
        · rw [k3, givP_yes hf]
          exact ((c'.up e3 mE).up e4 mE).app ⟨py, trivial⟩
    | false =>
      show ∃ acc, _
      refine ⟨acc, i3, (b.trans ea).trans e3, ?_⟩
      rw [givP_no hf]
      exact c'.up e3 mE
  · intro H ⟨acc, a, b, c⟩
    have a1 := a.1
    exact q _ H a1 (e2.trans (b.trans hide_ex)) ⟨Dl, acc, rfl, lst_at a, c.up hide_ex (givP_mono m)⟩
/-! loops -/
variable {D : Ends} {tu tz : TS} {g : TG} {H : Hp}
theorem x_for (iH : S.I H) (gi : GvI S wi σ (S.vw H) n Pi) (Pv : Nat → L2.St → Hp → Prop) (hm : ∀ i σ' H1 H2, i ≤ n → S.I H1 → Ex H1 H2 → Pv i σ' H1 → Pv i σ' H2)
    (h0 : ∀ H1, S.I H1 → Ex (S.vw H) (S.vw H1) → Pv 0 σ H1)
    (hs : ∀ i x σ' H', i < n → S.I H' → Ex (S.vw H) (S.vw H') → Pi i x (S.vw H') → Pv i σ' H' → ∀ N : L2.St → Hp → Prop, (∀ σ3 H3, S.I H3 → Ex (S.vw H') (S.vw H3) → Pv (i + 1) σ3 H3 → N σ3 H3) → g x σ' H' fun σ2 H2 => tu { D with nx := N, ct := N, bk := D.nx } σ2 H2)
    (hd : ∀ σ' H', S.I H' → Ex (S.vw H) (S.vw H') → Pv n σ' H' → D.nx σ' H') : tFor wi g tu D σ H := gi H iH (Ex.refl _) _ fun J H2 i2 e2 c1 c2 => by
  refine for_it (walk_of c1 c2) (fun i σ' H' => S.I H' ∧ Ex (S.vw H2) (S.vw H') ∧ Pv i σ' H') ⟨i2, Ex.refl _, h0 H2 i2 e2⟩ (fun i σ' H' _ ⟨a, b, _⟩ => ⟨S, a, b⟩) (fun i x σ' H1 H' hi ⟨a, b, c⟩ y => ?_) fun σ' H' ⟨a, b, c⟩ => hd σ' H' a (e2.trans b) c
  obtain ⟨y1, y2⟩ := y
  obtain ⟨a', ea⟩ := S.up a y1
  exact hs i x σ' H' hi a' (e2.trans (b.trans ea)) (y2 S a b) (hm i σ' H1 H' (Nat.le_of_lt hi) a y1 c) _ fun σ3 H3 i3 e3 p3 => ⟨i3, (b.trans ea).trans e3, p3⟩
end
end MeV
set_option Elab.async false
set_option linter.all false
set_option maxRecDepth 100000
set_option maxHeartbeats 4000000
/-! a pool that is drawn from; tables that lambdas write; what may be done in a view -/
namespace MeV
open PySem L2 Evl MeH MeG LamX MeL
open MeE (VP Mono Is All MonoL Lst Tup mono_is monoL_nil monoL_cons monoL_app mono_lst mono_tup DP DV mono_dp mono_dv mono_dvs mono_dps)
def poolO (a b : Int) : HO := .lst [.int a, .int b]
def PoolJ (o : HO) : Prop := ∃ a b : Int, o = poolO a b ∧ 0 ≤ b ∧ b < 4294967296
def HasPool (S : Wv) (p : Addr) : Prop := ∀ H, S.I H → (∃ a b : Int, H p = some (poolO a b) ∧ 0 ≤ b ∧ b < 4294967296) ∧ ∀ a b : Int, 0 ≤ b → b < 4294967296 → S.I (upd H p (poolO a b)) ∧ S.vw (upd H p (poolO a b)) = S.vw H
theorem pool_hide {S : Wv} {p : Addr} : HasPool (S.hide p PoolJ) p := fun H i => by
  obtain ⟨i1, o, h1, h2, a, b, h3, h4, h5⟩ := id i
  refine ⟨⟨a, b, by rw [← h3]; exact S.sub _ _ _ h1, h4, h5⟩, fun a' b' h6 h7 => ?_⟩
  obtain ⟨k1, k2⟩ := hide_set i (o' := poolO a' b') pl_lst
  exact ⟨⟨k1, poolO a' b', by rw [k2, upd_same], pl_lst, a', b', rfl, h6, h7⟩, hide_same i pl_lst⟩
theorem HasPool.none {S : Wv} {p : Addr} (hp : HasPool S p) {H : Hp} (i : S.I H) : S.vw H p = none := by
  cases z : S.vw H p with
  | none => rfl
  | some o =>
    have k := hp H i
    have e0 := (k.2 0 0 (by decide) (by decide)).2
    have e1 := (k.2 1 0 (by decide) (by decide)).2
    have f0 := S.sub _ _ _ (show S.vw (upd H p (poolO 0 0)) p = some o by rw [e0]; exact z)
    have f1 := S.sub _ _ _ (show S.vw (upd H p (poolO 1 0)) p = some o by rw [e1]; exact z)
    rw [upd_same] at f0 f1
    rw [← f0] at f1
    have f2 := Option.some.inj f1
    unfold poolO at f2
    simp at f2
theorem HasPool.hide {S : Wv} {p D : Addr} {J : HO → Prop} (hp : HasPool S p) : HasPool (S.hide D J) p := fun H i => by
  obtain ⟨i1, o, h1, h2⟩ := i
  refine ⟨(hp H i1).1, fun a b h6 h7 => ?_⟩
  obtain ⟨k1, k2⟩ := (hp H i1).2 a b h6 h7
  refine ⟨⟨k1, o, by rw [k2]; exact h1, h2⟩, ?_⟩
  show hv (S.vw (upd H p (poolO a b))) D = hv (S.vw H) D
  rw [k2]
/-- tables -/
structure HasTab (S : Wv) (T : List (Addr × Str)) : Prop where
  tab : ∀ H, S.I H → Tabs T H
  step : ∀ H H1, S.I H → ExtN H H1 → Tabs T H1 → S.I H1 ∧ Ex (S.vw H) (S.vw H1)
  see : ∀ H H1 q o, S.I H → ExtN H H1 → H q = none → H1 q = some o → (∀ ps, o ≠ .tbl ps) → S.vw H1 q = some o
  code : ∀ H c s, S.I H → H c = some (CodeO c s) → S.vw H c = some (CodeO c s)
theorem tab_tab (T : List (Addr × Str)) : HasTab (tabW T) T where
  tab := fun _ i => i
  step := fun H H1 i e t => ⟨t, noT_ex e⟩
  see := fun H H1 q o _ _ _ h n => noT_of h n
  code := fun H c s _ h => noT_of h codeO_ne
theorem HasTab.hide {S : Wv} {T : List (Addr × Str)} {D : Addr} {J : HO → Prop} (ht : HasTab S T) : HasTab (S.hide D J) T where
  tab := fun H i => ht.tab H i.1
  step := fun H H1 i e t => by
    obtain ⟨i1, o, h1, h2⟩ := i
    obtain ⟨k1, k2⟩ := ht.step H H1 i1 e t
    exact ⟨⟨k1, o, k2 _ _ h1, h2⟩, fun b v h => hv_of (k2 _ _ (of_hv h).2) (of_hv h).1⟩
  see := fun H H1 q o i e n h k => by
    obtain ⟨i1, o1, h1, h2⟩ := i
    refine hv_of (ht.see H H1 q o i1 e n h k) fun z => ?_
    rw [z, S.sub _ _ _ h1] at n
    cases n
  code := fun H c s i h => by
    obtain ⟨i1, o1, h1, h2, _⟩ := i
    refine hv_of (ht.code H c s i1 h) fun z => ?_
    rw [z] at h
    have e := (S.sub _ _ _ h1).symm.trans h
    unfold CodeO at e
    exact h2.2 _ (Option.some.inj e)
section
variable {S : Wv} {K : PySem.W.Frag} {σ : L2.St} {h h' : Hp} {ta tb te tl : TE}
/-- a lambda that stands -/
def LamV (q : Str) (params : Arguments) (body : Expr) (scope : Scope) (cl : List (Str × Addr)) : VP := fun v h => ∃ f c' : Addr, v = .ref f ∧ h f = some (LamO f c' q params body scope cl) ∧ h c' = some (CodeO c' q)
theorem mono_lam {q : Str} {params : Arguments} {body : Expr} {scope : Scope} {cl : List (Str × Addr)} : Mono (LamV q params body scope cl) := fun _ _ _ e ⟨f, c', h1, h2, h3⟩ => ⟨f, c', h1, e _ _ h2, e _ _ h3⟩
theorem v_lam {T : List (Addr × Str)} {q : Str} {params : Arguments} {body : Expr} {scope : Scope} {cl : List (Str × Addr)} (ht : HasTab S T) : Gv S (tLamV T q params body scope cl) σ h (LamV q params body scope cl) := fun H1 i1 e1 Q q0 =>
  ⟨ht.tab H1 i1, fun f c' H2 nf e2 t2 hf hc => by
    obtain ⟨k1, k2⟩ := ht.step H1 H2 i1 e2 t2
    exact q0 _ H2 k1 k2 ⟨f, c', rfl, ht.see H1 H2 f _ i1 e2 nf hf lamO_tbl, ht.code H2 c' q k1 hc⟩⟩
/-- a call read at its place -/
theorem v_in {TT : L2.St → List V → Hp → VK → Prop} {n : Nat} {t : TA} {Ps : List V → Hp → Prop} {R : VP} (g : GvA S t σ h Ps) (hl : ∀ vs h1, Ps vs h1 → vs.length = n)
    (hr : ∀ vs H1, S.I H1 → Ex h (S.vw H1) → Ps vs (S.vw H1) → ∀ Q : VK, (∀ z H2, S.I H2 → Ex (S.vw H1) (S.vw H2) → R z (S.vw H2) → Q z H2) → TT σ vs H1 Q) : Gv S (tIn TT n t) σ h R := fun H1 i e Q q =>
  g H1 i e _ fun vs H2 i2 e2 ps => ⟨hl _ _ ps, hr vs H2 i2 (e.trans e2) ps Q fun z H3 i3 e3 pz => q z H3 i3 (e2.trans e3) pz⟩
end
end MeV
set_option Elab.async false
set_option linter.all false
set_option maxRecDepth 100000
set_option maxHeartbeats 4000000
/-! readings of data: kinds, lengths, items, tests, texts -/
namespace MeV
open PySem PySem.Spec PyProof.Rows L2 Evl MeH MeG LamX MeL
open MeE (VP Mono Is All MonoL Lst Tup mono_is monoL_nil monoL_cons monoL_app mono_lst mono_tup DP DV mono_dp mono_dv mono_dvs mono_dps)
/-- the kind of data -/
def tyD : PyData → String
  | .none => "NoneType"
  | .bool _ => "bool"
  | .int _ => "int"
  | .str _ => "str"
  | .list _ => "list"
  | .tuple _ => "tuple"
  | .dict _ => "dict"
mutual
/-- all texts within are short -/
def szB : PyData → Bool
  | .str x => decide (x.length ≤ 100000)
  | .list xs => szL xs
  | .tuple xs => szL xs
  | _ => true
def szL : List PyData → Bool
  | [] => true
  | d :: ds => szB d && szL ds
end
theorem szL_get {ds : List PyData} {i : Nat} {d : PyData} (h : szL ds = true) (e : ds[i]? = some d) : szB d = true := by
  induction ds generalizing i with
  | nil => simp at e
  | cons a r ih =>
    unfold szL at h
    obtain ⟨h1, h2⟩ := Bool.and_eq_true_iff.mp h
    cases i with
    | zero =>
      have e' : a = d := by simpa using e
      exact e' ▸ h1
    | succ i => exact ih h2 (by simpa using e)
theorem ty_dd {K : PySem.W.Frag} {H : Hp} {v : V} {d : PyData} (h : Dd K H v d) : TyX K H v (.type (tyD d)) := by
  cases h with
  | non => exact .base .non
  | bl b => exact .base (.bl b)
  | int i => exact .base (.int i)
  | str x => exact .base (.str x)
  | lst hs _ =>
    rcases hs with (h | ⟨o, h⟩) | ⟨o, its, n, h1, h2, _⟩
    · exact .base (.lst h)
    · exact .base (.frz h)
    · exact .kList h1 h2
  | tup hs _ =>
    rcases hs with (h | ⟨o, h⟩) | ⟨o, its, n, h1, h2, _⟩
    · exact .base (.tup h)
    · exact .fTuple h
    · exact .kTuple h1 h2
  | dic hs _ =>
    rcases hs with h | ⟨o, h⟩
    · exact .base (.dK h)
    · exact .fDict h
/-- f of one piece of data gives a plain value -/
def spD (K : PySem.W.Frag) (C : PyData → Prop) (f : PyData → V) : Sp := fun vs H Q _ => ∃ (v : V) (d : PyData), vs = [v] ∧ Dd K H v d ∧ C d ∧ ∀ H', Ex H H' → Q (f d) H'
section
variable {S : Wv} {K : PySem.W.Frag} {σ : L2.St} {h h' : Hp} {ta tb tc te tl : TE} {t u : TT} {P P' R : VP} {v : V}
theorem v_spD {C : PyData → Prop} {f : PyData → V} {E : XK} {d : PyData} (g : Gv S ta σ h (DV K d)) (hC : C d) : Gv S (tCall (spD K C f) [] E (tCons ta tNil)) σ h (Is (f d)) :=
  v_call (Ps := All [DV K d]) (va_cons g (mono_dv d) va_nil) fun vs H1 i e ps Q q => by
    obtain ⟨w, rfl, hw⟩ := MeE.all1 ps
    exact ⟨w, d, rfl, MeE.Dd.up (S.sub _) hw, hC, fun H' e' => q _ H' (S.up i e').1 (S.up i e').2 rfl⟩
/-- isinstance(e, T) -/
theorem v_isi {d : PyData} {T : String} {b : Bool} (g : Gv S ta σ h (DV K d)) (hk : kitB (tyD d) T = some b) : Gv S (tCB (rIsi K) (tCons ta (tCons (tC (.ty T)) tNil))) σ h (Is (.bl b)) := fun H1 i e Q q =>
  g H1 i e _ fun w H2 i2 e2 p => ⟨w, .ty T, _, _, b, rfl, .ty T, ty_dd (MeE.Dd.up (S.sub _) p), kit_ty hk, q _ H2 i2 e2 rfl⟩
theorem v_le2 {a b c : Int} (ga : Gv S ta σ h (Is (.int a))) (gb : Gv S tb σ h (Is (.int b))) (gc : Gv S tc σ h (Is (.int c))) :
    Gv S (tChain (rI0 fun i j => .bl (decide (i ≤ j))) (rI0 fun i j => .bl (decide (i ≤ j))) ta tb tc) σ h (Is (.bl (decide (a ≤ b) && decide (b ≤ c)))) := fun H1 i e Q q =>
  ga H1 i e _ fun x H2 i2 e2 px => gb H2 i2 (e.trans e2) _ fun y H3 i3 e3 py => ⟨a, b, px, py, decide (a ≤ b), rfl, by
    by_cases hab : a ≤ b
    · rw [if_pos (decide_eq_true hab)]
      exact gc H3 i3 ((e.trans e2).trans e3) _ fun z H4 i4 e4 pz => ⟨b, c, py, pz, q _ H4 i4 ((e2.trans e3).trans e4) (by rw [decide_eq_true hab]; rfl)⟩
    · rw [if_neg (by rw [decide_eq_false hab]; decide)]
      exact q _ H3 i3 (e2.trans e3) (by rw [decide_eq_false hab]; rfl)⟩
theorem v_lenS {x : Str} (g : Gv S ta σ h (Is (.str x))) (hz : x.length ≤ 100000) : Gv S (tCB (fun xs H Q => ∃ z : Str, xs = [.str z] ∧ z.length ≤ sizeLine ∧ Q (.int z.length) H) (tCons ta tNil)) σ h (Is (.int (x.length : Nat))) := fun H1 i e Q q =>
  g H1 i e _ fun w H2 i2 e2 p => by
    have p' : w = .str x := p
    subst p'
    exact ⟨x, rfl, sz_of hz, q _ H2 i2 e2 rfl⟩
theorem v_lenT {ds : List PyData} (g : Gv S ta σ h (DV K (.tuple ds))) : Gv S (tCB (rLenS K) (tCons ta tNil)) σ h (Is (.int (ds.length : Nat))) := fun H1 i e Q q =>
  g H1 i e _ fun w H2 i2 e2 p => by
    have p' : Dd K (S.vw H2) w (.tuple ds) := p
    cases p' with
    | @tup a xs _ hs ha => exact ⟨a, xs, rfl, .inr (ex_t (S.sub _) hs), by rw [(ddAll_get ha).1]; exact q _ H2 i2 e2 rfl⟩
theorem v_lenL {Ps : List VP} (g : Gv S ta σ h (Lst Ps)) : Gv S (tCB (rLenS K) (tCons ta tNil)) σ h (Is (.int (Ps.length : Nat))) := fun H1 i e Q q =>
  g H1 i e _ fun w H2 i2 e2 ⟨p, xs, hw, hp, ax⟩ => ⟨p, xs, by rw [hw], .inl (sq_of (S.sub _ _ _ hp)), by rw [ax.len]; exact q _ H2 i2 e2 rfl⟩
/-- t[j] of a tuple of data -/
theorem v_ixT {ds : List PyData} {j : Nat} {d : PyData} (ga : Gv S ta σ h (DV K (.tuple ds))) (gb : Gv S tb σ h (Is (.int (j : Nat)))) (hj : ds[j]? = some d) : Gv S (tOp (rIxT K) ta tb) σ h (DV K d) :=
  v_op ga gb (mono_dv _) fun x y H1 i e px py Q q => by
    have py' : y = .int (j : Nat) := py
    subst py'
    have px' : Dd K (S.vw H1) x (.tuple ds) := px
    cases px' with
    | @tup a xs _ hs ha =>
      obtain ⟨l, k⟩ := ddAll_get ha
      have hlt : j < xs.length := by
        rw [l]
        exact (List.getElem?_eq_some_iff.mp hj).1
      obtain ⟨d', k1, k2⟩ := k j _ (List.getElem?_eq_getElem hlt)
      rw [hj] at k1
      cases k1
      exact ⟨a, xs, (j : Nat), xs[j], rfl, rfl, ex_t (S.sub _) hs, atI_nat (List.getElem?_eq_getElem hlt), q _ H1 i (Ex.refl _) k2⟩
theorem dv_str {x : Str} (g : Gv S ta σ h (DV K (.str x))) : Gv S ta σ h (Is (.str x)) := g.imp fun v h1 _ p => by
  have p' : Dd K h1 v (.str x) := p
  cases p' with
  | str _ => rfl
theorem dv_int {x : Int} (g : Gv S ta σ h (DV K (.int x))) : Gv S ta σ h (Is (.int x)) := g.imp fun v h1 _ p => by
  have p' : Dd K h1 v (.int x) := p
  cases p' with
  | int _ => rfl
theorem is_str {x : Str} (g : Gv S ta σ h (Is (.str x))) : Gv S ta σ h (DV K (.str x)) := g.imp fun v h1 _ p => by
  have p' : v = .str x := p
  subst p'
  exact Dd.str x
theorem is_int {x : Int} (g : Gv S ta σ h (Is (.int x))) : Gv S ta σ h (DV K (.int x)) := g.imp fun v h1 _ p => by
  have p' : v = .int x := p
  subst p'
  exact Dd.int x
def LB (bs : List Bool) : VP := Lst (bs.map fun b => Is (.bl b))
theorem all_bl {H : Hp} : ∀ {bs : List Bool} {xs : List V}, All (bs.map fun b => Is (.bl b)) xs H → xs = bs.map V.bl
  | [], [], _ => rfl
  | [], _ :: _, h => h.elim
  | _ :: _, [], h => h.elim
  | b :: bs, x :: xs, h => by
    have h1 : x = .bl b := h.1
    rw [h1, all_bl h.2, List.map_cons]
theorem v_all {bs : List Bool} (g : Gv S ta σ h (LB bs)) : Gv S (tCB (rAll K) (tCons ta tNil)) σ h (Is (.bl (bs.all id))) := fun H1 i e Q q =>
  g H1 i e _ fun w H2 i2 e2 ⟨p, xs, hw, hp, ax⟩ => ⟨p, bs, by rw [hw], by rw [← all_bl ax]; exact sq_of (S.sub _ _ _ hp), q _ H2 i2 e2 rfl⟩
theorem v_any {bs : List Bool} (g : Gv S ta σ h (LB bs)) : Gv S (tCB (rAny K) (tCons ta tNil)) σ h (Is (.bl (bs.any id))) := fun H1 i e Q q =>
  g H1 i e _ fun w H2 i2 e2 ⟨p, xs, hw, hp, ax⟩ => ⟨p, bs, by rw [hw], by rw [← all_bl ax]; exact sq_of (S.sub _ _ _ hp), q _ H2 i2 e2 rfl⟩
/-- c in s, one sign -/
theorem v_inS {c : Nat} {z : Str} (ga : Gv S ta σ h (Is (.str ⟨#[c]⟩))) (gb : Gv S tb σ h (Is (.str z))) :
    Gv S (tOp (fun x y H Q => ∃ (c : Nat) (z : Str), x = .str ⟨#[c]⟩ ∧ y = .str z ∧ Q (.bl (decide (c ∈ z.cps.toList))) H) ta tb) σ h (Is (.bl (decide (c ∈ z.cps.toList)))) := v_opV ga gb fun H1 _ Q q => ⟨c, z, rfl, rfl, q H1 (Ex.refl _)⟩
theorem v_ninS {c : Nat} {z : Str} (ga : Gv S ta σ h (Is (.str ⟨#[c]⟩))) (gb : Gv S tb σ h (Is (.str z))) :
    Gv S (tOp (fun x y H Q => ∃ (c : Nat) (z : Str), x = .str ⟨#[c]⟩ ∧ y = .str z ∧ Q (.bl (!decide (c ∈ z.cps.toList))) H) ta tb) σ h (Is (.bl (!decide (c ∈ z.cps.toList)))) := v_opV ga gb fun H1 _ Q q => ⟨c, z, rfl, rfl, q H1 (Ex.refl _)⟩
theorem v_eq {x y : V} (ga : Gv S ta σ h (Is x)) (gb : Gv S tb σ h (Is y)) (hs : scal x y = true) : Gv S (tOp rEq ta tb) σ h (Is (.bl (decide (x = y)))) := v_opV ga gb (rv_eq hs)
theorem v_ne {x y : V} (ga : Gv S ta σ h (Is x)) (gb : Gv S tb σ h (Is y)) (hs : scal x y = true) : Gv S (tOp rNe ta tb) σ h (Is (.bl (!decide (x = y)))) := v_opV ga gb (rv_ne hs)
theorem v_notV {b : Bool} (g : Gv S ta σ h (Is (.bl b))) : Gv S (tNotV ta) σ h (Is (.bl (!b))) := fun H1 i e Q q => g H1 i e _ fun w H2 i2 e2 ew => ⟨b, ew, q _ H2 i2 e2 rfl⟩
theorem v_yes : GvT S tYes σ h true := fun H1 i e Q q => q H1 i (Ex.refl _)
theorem givP_all {n : Nat} {E : Nat → VP} : givP n (fun _ => true) E = (List.range n).map E := by
  unfold givP
  rw [List.filter_eq_self.mpr (fun _ _ => rfl)]
end
end MeV
set_option Elab.async false
set_option linter.all false
set_option maxRecDepth 100000
set_option maxHeartbeats 4000000
/-! texts: joins, splits, formats; data rows -/
namespace MeV
open PySem PySem.Spec PyProof.Rows L2 Evl MeH MeG LamX MeL
open MeE (VP Mono Is All MonoL Lst Tup mono_is monoL_nil monoL_cons monoL_app mono_lst mono_tup DP DV mono_dp mono_dv mono_dvs mono_dps)
section
variable {S : Wv} {K : PySem.W.Frag} {σ : L2.St} {h h' : Hp} {ta tb tc te tl : TE} {t u : TT} {P P' R : VP} {v : V}
/-- a list of texts -/
def LS (ys : List Str) : VP := Lst (ys.map fun y => Is (.str y))
theorem mono_ls (ys : List Str) : MonoL (ys.map fun y => Is (.str y)) := fun R hR => by
  obtain ⟨y, _, rfl⟩ := List.mem_map.mp hR
  exact mono_is _
theorem mono_LS (ys : List Str) : Mono (LS ys) := mono_lst (mono_ls ys)
theorem all_str {H : Hp} : ∀ {ys : List Str} {xs : List V}, All (ys.map fun y => Is (.str y)) xs H → xs = ys.map V.str
  | [], [], _ => rfl
  | [], _ :: _, h => h.elim
  | _ :: _, [], h => h.elim
  | y :: ys, x :: xs, h => by
    have h1 : x = .str y := h.1
    rw [h1, all_str h.2, List.map_cons]
theorem str_all {H : Hp} : ∀ ys : List Str, All (ys.map fun y => Is (.str y)) (ys.map V.str) H
  | [] => trivial
  | _ :: ys => ⟨rfl, str_all ys⟩
theorem ls_at {H : Hp} {ys : List Str} {v : V} (h : LS ys v H) : ∃ p, v = .ref p ∧ H p = some (.lst (ys.map V.str)) := by
  obtain ⟨p, xs, h1, h2, h3⟩ := h
  rw [all_str h3] at h2
  exact ⟨p, h1, h2⟩
theorem v_addS {x y : Str} (ga : Gv S ta σ h (Is (.str x))) (gb : Gv S tb σ h (Is (.str y))) (hz : x.length + y.length ≤ 100000) :
    Gv S (tOp (fun x y H Q => ∃ i j : Str, x = .str i ∧ y = .str j ∧ i.length + j.length ≤ sizeLine ∧ Q (.str (i ++ j)) H) ta tb) σ h (Is (.str (x ++ y))) := v_opV ga gb fun H1 _ Q q => ⟨x, y, rfl, rfl, sz_of hz, q H1 (Ex.refl _)⟩
theorem v_join {a : Str} {ys : List Str} (ga : Gv S ta σ h (Is (.str a))) (gb : Gv S tb σ h (LS ys)) (hz : (ys.map (·.length)).sum + ys.length * a.length ≤ 100000) :
    Gv S (tM1 (fun x xs H Q => ∃ a p, ∃ ys : List Str, x = .str a ∧ xs = [.ref p] ∧ (SqL K H p (ys.map V.str) ∨ SqT K H p (ys.map V.str)) ∧ (ys.map (·.length)).sum + ys.length * a.length ≤ 16777216 ∧ Q (.str (Txt.join a ys)) H) ta tb) σ h (Is (.str (Txt.join a ys))) := fun H1 i e Q q =>
  ga H1 i e _ fun w H2 i2 e2 pw => ⟨⟨a, pw⟩, gb H2 i2 (e.trans e2) _ fun z H3 i3 e3 pz => by
    obtain ⟨p, rfl, hp⟩ := ls_at pz
    exact ⟨a, p, ys, pw, rfl, .inl (sq_of (S.sub _ _ _ hp)), by omega, q _ H3 i3 (e2.trans e3) rfl⟩⟩
theorem v_split {a b : Str} (ga : Gv S ta σ h (Is (.str a))) (gb : Gv S tb σ h (Is (.str b))) (hb : (b.length == 0) = false) (hz : a.length ≤ 100000) :
    Gv S (tM1 (fun x xs H Q => ∃ a b : Str, x = .str a ∧ xs = [.str b] ∧ (b.length == 0) = false ∧ a.length + 2 ≤ sizeLine ∧ rNewStrs (Txt.split a b) H Q) ta tb) σ h (LS (Txt.split a b)) := fun H1 i e Q q =>
  ga H1 i e _ fun w H2 i2 e2 pw => ⟨⟨a, pw⟩, gb H2 i2 (e.trans e2) _ fun z H3 i3 e3 pz => by
    have pz' : z = .str b := pz
    subst pz'
    exact ⟨a, b, pw, rfl, hb, (by have := sizeLine_eq; omega), fun p hp => q _ _ (S.up i3 (Ex.new hp)).1 ((e2.trans e3).trans (S.up i3 (Ex.new hp)).2) ⟨p, _, rfl, S.see i3 hp (Ex.new hp) upd_same pl_lst.1, str_all _⟩⟩⟩
theorem v_count {a b : Str} (ga : Gv S ta σ h (Is (.str a))) (gb : Gv S tb σ h (Is (.str b))) :
    Gv S (tM1 (fun x xs H Q => ∃ a b : Str, x = .str a ∧ xs = [.str b] ∧ Q (.int (Txt.count a b)) H) ta tb) σ h (Is (.int (Txt.count a b))) := fun H1 i e Q q =>
  ga H1 i e _ fun w H2 i2 e2 pw => ⟨⟨a, pw⟩, gb H2 i2 (e.trans e2) _ fun z H3 i3 e3 pz => by
    have pz' : z = .str b := pz
    subst pz'
    exact ⟨a, b, pw, rfl, q _ H3 i3 (e2.trans e3) rfl⟩⟩
theorem v_orS {x y : Str} (ga : Gv S ta σ h (Is (.str x))) (gb : Gv S tb σ h (Is (.str y))) (hz : x.length ≤ 100000) : Gv S (tOrT K ta tb) σ h (Is (.str (if x.length = 0 then y else x))) := fun H1 i e Q q =>
  ga H1 i e _ fun w H2 i2 e2 pw => by
    have pw' : w = .str x := pw
    subst pw'
    refine ⟨(x.length : Int) != 0, ⟨sz_of hz, rfl⟩, ?_⟩
    by_cases h0 : x.length = 0
    · have hb : ¬ (((x.length : Int) != 0) = true) := by rw [h0]; decide
      rw [if_neg hb]
      exact gb H2 i2 (e.trans e2) _ fun z H3 i3 e3 pz => q z H3 i3 (e2.trans e3) (by rw [if_pos h0]; exact pz)
    · have hb : ((x.length : Int) != 0) = true := bne_iff_ne.mpr (by omega)
      rw [if_pos hb]
      exact q _ H2 i2 e2 (by rw [if_neg h0]; rfl)
theorem v_strI {n : Int} (ga : Gv S ta σ h (Is (.int n))) (hn : n.natAbs.log2 < 1920) : Gv S (tCB (fun xs H Q => ∃ i : Int, xs = [.int i] ∧ i.natAbs.log2 < 1920 ∧ Q (.str (toString i)) H) (tCons ta tNil)) σ h (Is (.str (toString n))) := fun H1 i e Q q =>
  ga H1 i e _ fun w H2 i2 e2 pw => by
    have pw' : w = .int n := pw
    subst pw'
    exact ⟨n, rfl, hn, q _ H2 i2 e2 rfl⟩
theorem v_intS {a : Str} {n : Int} (ga : Gv S ta σ h (Is (.str a))) (hn : PySem.intText? a = some n) (hz : a.length ≤ 640) : Gv S (tCB (fun xs H Q => ∃ (a : Str) (n : Int), xs = [.str a] ∧ PySem.intText? a = some n ∧ a.length ≤ 640 ∧ Q (.int n) H) (tCons ta tNil)) σ h (Is (.int n)) := fun H1 i e Q q =>
  ga H1 i e _ fun w H2 i2 e2 pw => by
    have pw' : w = .str a := pw
    subst pw'
    exact ⟨a, n, rfl, hn, hz, q _ H2 i2 e2 rfl⟩
theorem v_ixS {z : Str} {j c : Nat} (ga : Gv S ta σ h (Is (.str z))) (gb : Gv S tb σ h (Is (.int (j : Nat)))) (hz : z.length ≤ 100000) (hj : z.cps.toList[j]? = some c) : Gv S (tOp rIxS ta tb) σ h (Is (.str ⟨#[c]⟩)) := v_opV ga gb (rv_ixS hz (atI_nat hj))
/-- f'..' -/
def GvJ (S : Wv) (ts : List TE) (acc : Str) (σ : L2.St) (h : Hp) (out : Str) : Prop := ∀ H1, S.I H1 → Ex h (S.vw H1) → ∀ Q : Str → Hp → Prop, (∀ H2, S.I H2 → Ex (S.vw H1) (S.vw H2) → Q out H2) → tJs ts acc σ H1 Q
theorem vj_nil {acc : Str} : GvJ S [] acc σ h acc := fun H1 i e Q q => q H1 i (Ex.refl _)
theorem vj_cons {ts : List TE} {acc y out : Str} (g : Gv S te σ h (Is (.str y))) (hz : (acc ++ y).length ≤ 100000) (r : GvJ S ts (acc ++ y) σ h out) : GvJ S (te :: ts) acc σ h out := fun H1 i e Q q =>
  g H1 i e _ fun w H2 i2 e2 pw => ⟨y, pw, sz_of hz, r H2 i2 (e.trans e2) Q fun H3 i3 e3 => q H3 i3 (e2.trans e3)⟩
theorem v_joined {ts : List TE} {out : Str} (g : GvJ S ts Str.empty σ h out) : Gv S (fun σ H Q => tJs ts Str.empty σ H fun out H1 => Q (.str out) H1) σ h (Is (.str out)) := fun H1 i e Q q => g H1 i e _ fun H2 i2 e2 => q _ H2 i2 e2 rfl
theorem v_fmtS {y : Str} (g : Gv S te σ h (Is (.str y))) (hz : y.length ≤ 100000) : Gv S (tFmt te) σ h (Is (.str y)) := fun H1 i e Q q => g H1 i e _ fun w H2 i2 e2 pw => .inl ⟨y, pw, sz_of hz, q _ H2 i2 e2 rfl⟩
theorem v_fmtI {n : Int} (g : Gv S te σ h (Is (.int n))) (hn : n.natAbs.log2 < 1920) : Gv S (tFmt te) σ h (Is (.str (toString n))) := fun H1 i e Q q => g H1 i e _ fun w H2 i2 e2 pw => .inr ⟨n, pw, hn, q _ H2 i2 e2 rfl⟩
/-- tuple(list of data) -/
theorem v_tupOf {ds : List PyData} (g : Gv S ta σ h (DV K (.list ds))) :
    Gv S (tCB (fun xs H Q => ∃ p ys, xs = [.ref p] ∧ ((SqL K H p ys ∧ ∀ l, H l = none → Q (.ref l) (upd H l (.tup ys))) ∨ (SqT K H p ys ∧ Q (.ref p) H))) (tCons ta tNil)) σ h (DV K (.tuple ds)) := fun H1 i e Q q =>
  g H1 i e _ fun w H2 i2 e2 pw => by
    have pw' : Dd K (S.vw H2) w (.list ds) := pw
    cases pw' with
    | @lst a xs _ hs ha => exact ⟨a, xs, rfl, .inl ⟨ex_l (S.sub _) hs, fun l hl => q _ _ (S.up i2 (Ex.new hl)).1 (e2.trans (S.up i2 (Ex.new hl)).2) (Dd.tup (st_of (S.see i2 hl (Ex.new hl) upd_same (fun _ z => nomatch z))) (MeE.DdAll.up (S.up i2 (Ex.new hl)).2 ha))⟩⟩
/-- a row made of a row of data -/
theorem v_dataT {ds : List PyData} {j : Nat} {vs : List Nat} {E : PyData → VP} (g : Gv S ta σ h (DV K (.tuple ds))) (hn : ds.length ≤ 50000) (m : ∀ d, Mono (E d)) (hw : ∀ x, wipe ((wipe σ vs).set j (some x)) vs = wipe σ vs)
    (he : ∀ (S' : Wv) (x : V) (d : PyData) (h1 : Hp), d ∈ ds → Ex h h1 → Dd K h1 x d → Gv S' te ((wipe σ vs).set j (some x)) h1 (E d)) : Gv S (tLc (iTup K ta) (gName j) tYes te vs) σ h (Lst (ds.map E)) := by
  have q := v_lc (t := tYes) (fun _ => true) (fun i => E (ds.getD i .none)) (vi_dvT g) hn (fun _ _ => m _) hw (fun Dl acc i x h1 hi e hx => v_yes) (fun Dl acc i x h1 hi e hx _ => by
    obtain ⟨d, h2, h3⟩ := hx
    have e2 : ds.getD i .none = d := by rw [List.getD_eq_getElem?_getD, h2]; rfl
    rw [e2]
    exact he _ x d h1 (List.mem_of_getElem? h2) e h3) (fun i x h1 h2 e p => by
    obtain ⟨d, p1, p2⟩ := p
    exact ⟨d, p1, MeE.Dd.up e p2⟩)
  rw [givP_all] at q
  have e3 : (List.range ds.length).map (fun i => E (ds.getD i .none)) = ds.map E := by
    apply List.ext_getElem
    · simp
    · intro i h1 h2
      simp only [List.length_map, List.length_range] at h1
      simp [List.getD_eq_getElem?_getD, h1]
  rw [e3] at q
  exact q
/-- over a new row of texts -/
theorem v_strsL {ys : List Str} {j : Nat} {vs : List Nat} {E : Str → VP} (g : Gv S ta σ h (LS ys)) (hn : ys.length ≤ 50000) (m : ∀ d, Mono (E d)) (hw : ∀ x, wipe ((wipe σ vs).set j (some x)) vs = wipe σ vs)
    (he : ∀ (S' : Wv) (y : Str) (h1 : Hp), y ∈ ys → Ex h h1 → Gv S' te ((wipe σ vs).set j (some (.str y))) h1 (E y)) : Gv S (tLc (iList K ta) (gName j) tYes te vs) σ h (Lst (ys.map E)) := by
  have q := v_lc (t := tYes) (fun _ => true) (fun i => E (ys.getD i Str.empty)) (vi_lst (K := K) g (mono_ls ys)) (by rw [List.length_map]; exact hn) (fun _ _ => m _) hw (fun Dl acc i x h1 hi e hx => v_yes) (fun Dl acc i x h1 hi e hx _ => by
    obtain ⟨P, h2, h3⟩ := hx
    rw [List.getElem?_map] at h2
    cases h4 : ys[i]? with
    | none =>
      rw [h4] at h2
      cases h2
    | some y =>
      rw [h4] at h2
      cases h2
      have h5 : x = .str y := h3
      subst h5
      have e2 : ys.getD i Str.empty = y := by rw [List.getD_eq_getElem?_getD, h4]; rfl
      rw [e2]
      exact he _ y h1 (List.mem_of_getElem? h4) e) (fun i x h1 h2 e p => by
    obtain ⟨P, p1, p2⟩ := p
    refine ⟨P, p1, mono_ls ys P (List.mem_of_getElem? p1) _ _ _ e p2⟩)
  rw [givP_all, List.length_map] at q
  have e3 : (List.range ys.length).map (fun i => E (ys.getD i Str.empty)) = ys.map E := by
    apply List.ext_getElem
    · simp
    · intro i h1 h2
      simp only [List.length_map, List.length_range] at h1
      simp [List.getD_eq_getElem?_getD, h1]
  rw [e3] at q
  exact q
end
end MeV
set_option Elab.async false
set_option linter.all false
set_option maxRecDepth 100000
set_option maxHeartbeats 4000000
/-! a list that grows; data compared; a pool drawn from -/
namespace MeV
open PySem PySem.Spec PyProof.Rows L2 Evl MeH MeG LamX MeL
open MeE (VP Mono Is All MonoL Lst Tup mono_is monoL_nil monoL_cons monoL_app mono_lst mono_tup DP DV mono_dp mono_dv mono_dvs mono_dps)
section
variable {S : Wv} {K : PySem.W.Frag} {σ : L2.St} {h h' H : Hp} {ta tb tc te tl : TE} {t u : TT} {P P' R : VP} {v : V} {D : Ends} {tz : TS}
/-- xs.append(e) -/
theorem x_app {p : Addr} {acc : List V} {i : Nat} (iH : (S.lst p acc).I H) (hi : σ[i]? = some (some (.ref p))) (g : Gv (S.lst p acc) te σ ((S.lst p acc).vw H) P) (hl : acc.length < 100000)
    (k : ∀ y H1, (S.lst p (acc ++ [y])).I H1 → Ex ((S.lst p acc).vw H) ((S.lst p (acc ++ [y])).vw H1) → P y ((S.lst p (acc ++ [y])).vw H1) → D.nx σ H1) : tDrop (tBM K "list" rAppend (tVar i) (tCons te tNil)) D σ H := by
  refine ⟨_, hi, .inl ⟨rfl, _, sq_of (S.sub _ _ _ (lst_at iH))⟩, g H iH (Ex.refl _) _ fun y H1 i1 e1 p1 => ⟨p, acc, y, rfl, rfl, S.sub _ _ _ (lst_at i1), sz_lt hl, ?_⟩⟩
  obtain ⟨k1, k2⟩ := hide_set i1 (o' := .lst (acc ++ [y])) pl_lst
  have k3 : (S.lst p (acc ++ [y])).vw (upd H1 p (.lst (acc ++ [y]))) = (S.lst p acc).vw H1 := hide_same i1 pl_lst
  refine k y _ (lst_of k1 (by rw [k2, upd_same])) ?_ ?_
  · rw [k3]
    exact e1
  · rw [k3]
    exact p1
/-- from a new list to one that may grow -/
theorem hide_new {p : Addr} {xs : List V} {H0 : Hp} (n0 : S.vw H0 p = none) (i : S.I H) (e : Ex (S.vw H0) (S.vw H)) (hp : S.vw H p = some (.lst xs)) : (S.lst p xs).I H ∧ Ex (S.vw H0) ((S.lst p xs).vw H) := ⟨lst_of i hp, ex_hide e n0⟩
/-- a list display: where it stands was free -/
theorem v_lstN {t : TA} {Ps : List VP} (g : GvA S t σ h (All Ps)) (m : MonoL Ps) (hl : Ps.length ≤ 10000) : ∀ H1, S.I H1 → Ex h (S.vw H1) → ∀ Q : VK, (∀ p xs H2, S.I H2 → Ex (S.vw H1) (S.vw H2) → S.vw H1 p = none → S.vw H2 p = some (.lst xs) → All Ps xs ((S.lst p xs).vw H2) → Q (.ref p) H2) → tLst t σ H1 Q := fun H1 i e Q q =>
  g H1 i e _ fun vs H2 i2 e2 ps => ⟨by rw [ps.len]; exact sz_of (by omega), fun p hp => by
    have n2 : S.vw H2 p = none := by
      cases z : S.vw H2 p with
      | none => rfl
      | some o =>
        rw [S.sub _ _ _ z] at hp
        cases hp
    have n1 : S.vw H1 p = none := by
      cases z : S.vw H1 p with
      | none => rfl
      | some o =>
        rw [e2 _ _ z] at n2
        cases n2
    exact q p vs _ (S.up i2 (Ex.new hp)).1 (e2.trans (S.up i2 (Ex.new hp)).2) n1 (S.see i2 hp (Ex.new hp) upd_same pl_lst.1) (ps.up (ex_hide (S.up i2 (Ex.new hp)).2 n2) m)⟩
/-- xs = [..], a list that may grow -/
theorem x_newL {t : TA} {Ps : List VP} {i : Nat} (iH : S.I H) (g : GvA S t σ (S.vw H) (All Ps)) (m : MonoL Ps) (hl : Ps.length ≤ 10000)
    (k : ∀ p xs H2, (S.lst p xs).I H2 → Ex (S.vw H) ((S.lst p xs).vw H2) → S.vw H p = none → All Ps xs ((S.lst p xs).vw H2) → tz D (σ.set i (some (.ref p))) H2) : tSeq (tAsg (tLst t) (gName i)) tz D σ H :=
  show tLst t σ H fun v H1 => tz D (σ.set i (some v)) H1 from v_lstN g m hl H iH (Ex.refl _) _ fun p xs H2 i2 e2 n1 hp ax => k p xs H2 (lst_of i2 hp) (ex_hide e2 n1) n1 ax
/-- a loop in which the hidden thing changes: S before it, S2 within -/
theorem x_for2 {S2 : Wv} {wi : TI} {n : Nat} {Pi : Nat → VP} {g : TG} {tu : TS} (hv : S2.vw = S.vw) (hI : ∀ H, S.I H → S2.I H) (iH : S.I H) (gi : GvI S wi σ (S.vw H) n Pi) (Pv : Nat → L2.St → Hp → Prop) (hm : ∀ i σ' H1 H2, i ≤ n → S2.I H1 → Ex H1 H2 → Pv i σ' H1 → Pv i σ' H2)
    (h0 : ∀ H1, S.I H1 → Ex (S.vw H) (S.vw H1) → Pv 0 σ H1)
    (hs : ∀ i x σ' H', i < n → S2.I H' → Ex (S.vw H) (S.vw H') → Pi i x (S.vw H') → Pv i σ' H' → ∀ N : L2.St → Hp → Prop, (∀ σ3 H3, S2.I H3 → Ex (S.vw H') (S.vw H3) → Pv (i + 1) σ3 H3 → N σ3 H3) → g x σ' H' fun σ2 H2 => tu { D with nx := N, ct := N, bk := D.nx } σ2 H2)
    (hd : ∀ σ' H', S2.I H' → Ex (S.vw H) (S.vw H') → Pv n σ' H' → D.nx σ' H') : tFor wi g tu D σ H := gi H iH (Ex.refl _) _ fun J H2 i2 e2 c1 c2 => by
  refine for_it (walk_of c1 c2) (fun i σ' H' => S2.I H' ∧ Ex (S.vw H2) (S.vw H') ∧ Pv i σ' H') ⟨hI _ i2, Ex.refl _, h0 H2 i2 e2⟩ (fun i σ' H' _ ⟨a, b, _⟩ => ⟨S2, a, by rw [hv]; exact b⟩) (fun i x σ' H1 H' hi ⟨a, b, c⟩ y => ?_) fun σ' H' ⟨a, b, c⟩ => hd σ' H' a (e2.trans b) c
  obtain ⟨y1, y2⟩ := y
  obtain ⟨a', ea⟩ := S2.up a y1
  have hp := y2 S2 a (by rw [hv]; exact b)
  rw [hv] at ea hp
  exact hs i x σ' H' hi a' (e2.trans (b.trans ea)) hp (hm i σ' H1 H' (Nat.le_of_lt hi) a y1 c) _ fun σ3 H3 i3 e3 p3 => ⟨i3, (b.trans ea).trans e3, p3⟩
theorem x_forq {S2 : Wv} {wi : TI} {n : Nat} {Pi : Nat → VP} {g : TG} {tu : TS} (hv : S2.vw = S.vw) (hI : ∀ H, S.I H → S2.I H) (iH : S.I H) (gi : GvI S wi σ (S.vw H) n Pi) (Pv : Nat → L2.St → Hp → Prop) (hm : ∀ i σ' H1 H2, i ≤ n → S2.I H1 → Ex H1 H2 → Pv i σ' H1 → Pv i σ' H2)
    (h0 : ∀ H1, S.I H1 → Ex (S.vw H) (S.vw H1) → Pv 0 σ H1)
    (hs : ∀ i x σ' H', i < n → S2.I H' → Ex (S.vw H) (S.vw H') → Pi i x (S.vw H') → Pv i σ' H' → ∀ N : L2.St → Hp → Prop, (∀ σ3 H3, S2.I H3 → Ex (S.vw H') (S.vw H3) → Pv (i + 1) σ3 H3 → N σ3 H3) → g x σ' H' fun σ2 H2 => tu { D with nx := N, ct := N, bk := tz D } σ2 H2)
    (hd : ∀ σ' H', S2.I H' → Ex (S.vw H) (S.vw H') → Pv n σ' H' → tz D σ' H') : tSeq (tFor wi g tu) tz D σ H := x_for2 (D := { D with nx := tz D }) hv hI iH gi Pv hm h0 hs hd
/-- data == data, != -/
theorem v_eqD {d e : PyData} (dpo : ∀ {H : Hp} {v : V} {d : PyData}, d.canLay0 = true → Dd K H v d → Dp K H v d) (ga : Gv S ta σ h (DV K d)) (gb : Gv S tb σ h (DV K e)) (hd : SeqAt.shaped d = true) (he : SeqAt.shaped e = true) : Gv S (tOp (rEqD K) ta tb) σ h (Is (.bl (PyData.eqv d e))) :=
  v_op ga gb (mono_dv d) fun x y H1 i _ px py Q q => ⟨d, e, dpo (SeqAt.canLay_of_shaped hd) (MeE.Dd.up (S.sub _) px), dpo (SeqAt.canLay_of_shaped he) (MeE.Dd.up (S.sub _) py), hd, he, q _ H1 i (Ex.refl _) rfl⟩
theorem v_neD {d e : PyData} (dpo : ∀ {H : Hp} {v : V} {d : PyData}, d.canLay0 = true → Dd K H v d → Dp K H v d) (ga : Gv S ta σ h (DV K d)) (gb : Gv S tb σ h (DV K e)) (hd : SeqAt.shaped d = true) (he : SeqAt.shaped e = true) : Gv S (tOp (rNeD K) ta tb) σ h (Is (.bl (!PyData.eqv d e))) :=
  v_op ga gb (mono_dv d) fun x y H1 i _ px py Q q => ⟨d, e, dpo (SeqAt.canLay_of_shaped hd) (MeE.Dd.up (S.sub _) px), dpo (SeqAt.canLay_of_shaped he) (MeE.Dd.up (S.sub _) py), hd, he, q _ H1 i (Ex.refl _) rfl⟩
end
end MeV
set_option Elab.async false
set_option linter.all false
set_option maxRecDepth 100000
set_option maxHeartbeats 4000000
/-! walks whose number of turns is drawn -/
namespace MeV
open PySem PySem.Spec PyProof.Rows L2 Evl MeH MeG LamX MeL
open MeE (VP Mono Is All MonoL Lst Tup mono_is monoL_nil monoL_cons monoL_app mono_lst mono_tup DP DV mono_dp mono_dv mono_dvs mono_dps)
def GvIx (S : Wv) (wi : TI) (σ : L2.St) (h : Hp) (C : Nat → Prop) (Pi : Nat → VP) : Prop := ∀ H1, S.I H1 → Ex h (S.vw H1) → ∀ R : It → Hp → Prop,
  (∀ n J H2, C n → S.I H2 → Ex (S.vw H1) (S.vw H2) → (∀ (S' : Wv) i H, i < n → S'.I H → Ex (S.vw H2) (S'.vw H) → J.go i H ∧ ∀ x H', J.yld i H x H' → Ex H H' ∧ Pi i x (S'.vw H')) → (∀ (S' : Wv) H, S'.I H → Ex (S.vw H2) (S'.vw H) → J.stop n H) → R J H2) → wi σ H1 R
section
variable {S : Wv} {K : PySem.W.Frag} {σ : L2.St} {h h' H : Hp} {ta tb tc te tl : TE} {t u : TT} {P P' R : VP} {v : V} {D : Ends} {tz tu : TS} {g : TG} {wi : TI} {n : Nat} {Pi : Nat → VP} {C : Nat → Prop}
theorem vx_rng {ta : TE} (ga : Gv S ta σ h (fun v _ => ∃ n : Nat, v = .int (n : Nat) ∧ C n)) (hC : ∀ n, C n → n ≤ 100000) : GvIx S (iRng1 (tCons ta tNil)) σ h C (fun i v _ => v = .int (i : Nat)) := fun H1 i1 e R r => ga H1 i1 e _ fun v H2 i2 e2 pv => by
  obtain ⟨n, rfl, hn⟩ := pv
  have := hC n hn
  refine ⟨(n : Int), rfl, by omega, by omega, ?_⟩
  rw [Int.toNat_natCast]
  refine r n _ H2 hn i2 e2 (fun S' i H hi iH eH => ⟨hi, fun x H' y => ?_⟩) fun S' H iH eH => Nat.le_refl _
  obtain ⟨rfl, y2⟩ := y
  refine ⟨Ex.refl _, ?_⟩
  rw [y2, Int.zero_add]
/-- a list made in turns, each item by one word -/
theorem v_lcx {j : Nat} {vs : List Nat} (E : VP) (gi : GvIx S wi σ h C Pi) (hn : ∀ n, C n → n ≤ 50000) (m : Mono E) (hw : ∀ x, wipe ((wipe σ vs).set j (some x)) vs = wipe σ vs) (hPm : ∀ i, Mono (Pi i))
    (he : ∀ (Dl : Addr) (acc : List V) (i : Nat) (x : V) (h1 : Hp), Ex h h1 → Pi i x h1 → Gv (S.lst Dl acc) te ((wipe σ vs).set j (some x)) h1 E) :
    Gv S (tLc wi (gName j) tYes te vs) σ h (fun v h => ∃ n, C n ∧ Lst (List.replicate n E) v h) := fun H0 i0 e0 Q q => gi H0 i0 e0 _ fun n J H2 hC i2 e2 c1 c2 Dl hD => by
  have nD : S.vw H2 Dl = none := by
    cases z : S.vw H2 Dl with
    | none => rfl
    | some o =>
      rw [S.sub _ _ _ z] at hD
      cases hD
  have mR : ∀ i, MonoL (List.replicate i E) := fun i R hR => by
    rw [List.eq_of_mem_replicate hR]
    exact m
  refine lc_it (walk_of c1 c2) (fun i H => ∃ acc, (S.lst Dl acc).I H ∧ Ex (S.vw H2) ((S.lst Dl acc).vw H) ∧ All (List.replicate i E) acc ((S.lst Dl acc).vw H)) ?_ ?_ ?_ ?_
  · obtain ⟨u1, u2⟩ := S.up i2 (Ex.new (o := .lst []) hD)
    exact ⟨[], lst_of u1 (S.see i2 hD (Ex.new hD) upd_same pl_lst.1), ex_hide u2 nD, trivial⟩
  · intro i H _ ⟨acc, a, b, _⟩
    exact ⟨_, a, b⟩
  · intro i x H H' hi ⟨acc, a, b, c⟩ y
    obtain ⟨y1, y2⟩ := y
    have hp := y2 _ a b
    obtain ⟨a', ea⟩ := (S.lst Dl acc).up a y1
    have c' := c.up ea (mR i)
    refine ⟨hw x, ?_⟩
    show te _ H' _
    refine he Dl acc i x _ ((e0.trans e2).trans (b.trans ea)) hp H' a' (Ex.refl _) _ fun y H4 i4 e4 py => ⟨acc, S.sub _ _ _ (lst_at i4), ?_, acc ++ [y], ?_⟩
    · rw [c.len, List.length_replicate]
      have := hn n hC
      exact sz_lt (by omega)
    · obtain ⟨k1, k2⟩ := hide_set i4 (o' := .lst (acc ++ [y])) pl_lst
      have k3 : (S.lst Dl (acc ++ [y])).vw (upd H4 Dl (.lst (acc ++ [y]))) = (S.lst Dl acc).vw H4 := hide_same i4 pl_lst
      refine ⟨lst_of k1 (by rw [k2, upd_same]), ?_, ?_⟩
      · rw [k3]
        exact (b.trans ea).trans e4
      · rw [k3, List.replicate_succ']
        exact (c'.up e4 (mR i)).app ⟨py, trivial⟩
  · intro H ⟨acc, a, b, c⟩
    exact q _ H a.1 (e2.trans (b.trans hide_ex)) ⟨n, hC, Dl, acc, rfl, lst_at a, c.up hide_ex (mR n)⟩
theorem x_forx {S2 : Wv} (hv : S2.vw = S.vw) (hI : ∀ H, S.I H → S2.I H) (iH : S.I H) (gi : GvIx S wi σ (S.vw H) C Pi) (Pv : Nat → L2.St → Hp → Prop) (hm : ∀ i σ' H1 H2, S2.I H1 → Ex H1 H2 → Pv i σ' H1 → Pv i σ' H2)
    (h0 : ∀ H1, S.I H1 → Ex (S.vw H) (S.vw H1) → Pv 0 σ H1)
    (hs : ∀ n i x σ' H', C n → i < n → S2.I H' → Ex (S.vw H) (S.vw H') → Pi i x (S.vw H') → Pv i σ' H' → ∀ N : L2.St → Hp → Prop, (∀ σ3 H3, S2.I H3 → Ex (S.vw H') (S.vw H3) → Pv (i + 1) σ3 H3 → N σ3 H3) → g x σ' H' fun σ2 H2 => tu { D with nx := N, ct := N, bk := tz D } σ2 H2)
    (hd : ∀ n σ' H', C n → S2.I H' → Ex (S.vw H) (S.vw H') → Pv n σ' H' → tz D σ' H') : tSeq (tFor wi g tu) tz D σ H :=
  show tFor wi g tu { D with nx := tz D } σ H from gi H iH (Ex.refl _) _ fun n J H2 hC i2 e2 c1 c2 => by
  refine for_it (walk_of c1 c2) (fun i σ' H' => S2.I H' ∧ Ex (S.vw H2) (S.vw H') ∧ Pv i σ' H') ⟨hI _ i2, Ex.refl _, h0 H2 i2 e2⟩ (fun i σ' H' _ ⟨a, b, _⟩ => ⟨S2, a, by rw [hv]; exact b⟩) (fun i x σ' H1 H' hi ⟨a, b, c⟩ y => ?_) fun σ' H' ⟨a, b, c⟩ => hd n σ' H' hC a (e2.trans b) c
  obtain ⟨y1, y2⟩ := y
  obtain ⟨a', ea⟩ := S2.up a y1
  have hp := y2 S2 a (by rw [hv]; exact b)
  rw [hv] at ea hp
  exact hs n i x σ' H' hC hi a' (e2.trans (b.trans ea)) hp (hm i σ' H1 H' a y1 c) _ fun σ3 H3 i3 e3 p3 => ⟨i3, (b.trans ea).trans e3, p3⟩
/-- xs[n], n drawn -/
theorem v_ixAny {Ps : List VP} (ga : Gv S ta σ h (Lst Ps)) (m : MonoL Ps) (gb : Gv S tb σ h (fun v _ => ∃ n : Int, v = .int n ∧ 0 ≤ n ∧ n < (Ps.length : Nat))) (hP : ∀ Q ∈ Ps, ∀ v h, Q v h → P v h) : Gv S (tOp (rIxL K) ta tb) σ h P :=
  v_op ga gb (mono_lst m) fun x y H1 i e px py Q q => by
    obtain ⟨p, xs, rfl, hp, ax⟩ := px
    obtain ⟨n, rfl, n0, n1⟩ := py
    obtain ⟨k, rfl⟩ : ∃ k : Nat, n = (k : Nat) := ⟨n.toNat, by omega⟩
    have hlt : k < xs.length := by
      rw [ax.len]
      omega
    obtain ⟨P', h1, h2⟩ := ax.get (List.getElem?_eq_getElem hlt)
    exact ⟨p, xs, (k : Nat), xs[k], rfl, rfl, sq_of (S.sub _ _ _ hp), atI_nat (List.getElem?_eq_getElem hlt), q _ H1 i (Ex.refl _) (hP P' (List.mem_of_getElem? h1) _ _ h2)⟩
/-- 'abc'[n], n drawn -/
theorem v_ixSAny {z : Str} (ga : Gv S ta σ h (Is (.str z))) (gb : Gv S tb σ h (fun v _ => ∃ n : Int, v = .int n ∧ 0 ≤ n ∧ n < (z.cps.toList.length : Nat))) (hz : z.length ≤ 100000) : Gv S (tOp rIxS ta tb) σ h (fun v _ => ∃ c ∈ z.cps.toList, v = .str ⟨#[c]⟩) :=
  v_op ga gb (mono_is _) fun x y H1 i e px py Q q => by
    have px' : x = .str z := px
    subst px'
    obtain ⟨n, rfl, n0, n1⟩ := py
    obtain ⟨k, rfl⟩ : ∃ k : Nat, n = (k : Nat) := ⟨n.toNat, by omega⟩
    have hlt : k < z.cps.toList.length := by omega
    exact ⟨z, (k : Nat), z.cps.toList[k], rfl, rfl, sz_of hz, atI_nat (List.getElem?_eq_getElem hlt), q _ H1 i (Ex.refl _) ⟨_, List.getElem_mem hlt, rfl⟩⟩
end
end MeV
set_option Elab.async false
set_option linter.all false
set_option maxRecDepth 100000
set_option maxHeartbeats 0
namespace K03
open PySem PySem.Spec PyProof.Rows L2 He MeH MeG MeK
def top (i : Nat) : Stmt := PySem.Challenge.pw_maskededits_k03_marks_and_names.main.body.getD i (.Pass ⟨0, 0, 0, 0⟩)
abbrev s_is_word : Stmt := top 6
def d_is_word : DefD := ⟨("is_word", none), "is_word", "is_word", defArgs s_is_word, defBody s_is_word, defScope s_is_word, [], []⟩
abbrev s_is_integer : Stmt := top 10
def d_is_integer : DefD := ⟨("is_integer", none), "is_integer", "is_integer", defArgs s_is_integer, defBody s_is_integer, defScope s_is_integer, [], []⟩
abbrev s_is_mark : Stmt := top 11
def d_is_mark : DefD := ⟨("is_mark", none), "is_mark", "is_mark", defArgs s_is_mark, defBody s_is_mark, defScope s_is_mark, [], []⟩
abbrev s_is_name : Stmt := top 12
def d_is_name : DefD := ⟨("is_name", none), "is_name", "is_name", defArgs s_is_name, defBody s_is_name, defScope s_is_name, [], []⟩
abbrev s_mark_text : Stmt := top 13
def d_mark_text : DefD := ⟨("mark_text", none), "mark_text", "mark_text", defArgs s_mark_text, defBody s_mark_text, defScope s_mark_text, [], []⟩
abbrev s_name_text : Stmt := top 14
def d_name_text : DefD := ⟨("name_text", none), "name_text", "name_text", defArgs s_name_text, defBody s_name_text, defScope s_name_text, [], []⟩
abbrev s_number_in : Stmt := top 15
def d_number_in : DefD := ⟨("number_in", none), "number_in", "number_in", defArgs s_number_in, defBody s_number_in, defScope s_number_in, [], []⟩
abbrev s_mark_in : Stmt := top 16
def d_mark_in : DefD := ⟨("mark_in", none), "mark_in", "mark_in", defArgs s_mark_in, defBody s_mark_in, defScope s_mark_in, [], []⟩
abbrev s_parse_name : Stmt := top 17
def d_parse_name : DefD := ⟨("parse_name", none), "parse_name", "parse_name", defArgs s_parse_name, defBody s_parse_name, defScope s_parse_name, [], []⟩
abbrev s__law_pool : Stmt := top 19
def d__law_pool : DefD := ⟨("_law_pool", none), "_law_pool", "_law_pool", defArgs s__law_pool, defBody s__law_pool, defScope s__law_pool, [], []⟩
abbrev s__law_take : Stmt := top 20
def d__law_take : DefD := ⟨("_law_take", none), "_law_take", "_law_take", defArgs s__law_take, defBody s__law_take, defScope s__law_take, [], []⟩
abbrev s__law_word : Stmt := top 21
def d__law_word : DefD := ⟨("_law_word", none), "_law_word", "_law_word", defArgs s__law_word, defBody s__law_word, defScope s__law_word, [], []⟩
abbrev s__law_name : Stmt := top 22
def d__law_name : DefD := ⟨("_law_name", none), "_law_name", "_law_name", defArgs s__law_name, defBody s__law_name, defScope s__law_name, [], []⟩
abbrev s__law_text : Stmt := top 23
def d__law_text : DefD := ⟨("_law_text", none), "_law_text", "_law_text", defArgs s__law_text, defBody s__law_text, defScope s__law_text, [], []⟩
abbrev s__law_is_word : Stmt := top 24
def d__law_is_word : DefD := ⟨("_law_is_word", none), "_law_is_word", "_law_is_word", defArgs s__law_is_word, defBody s__law_is_word, defScope s__law_is_word, [], []⟩
abbrev s__law_is_mark : Stmt := top 25
def d__law_is_mark : DefD := ⟨("_law_is_mark", none), "_law_is_mark", "_law_is_mark", defArgs s__law_is_mark, defBody s__law_is_mark, defScope s__law_is_mark, [], []⟩
abbrev s__law_parsed : Stmt := top 26
def d__law_parsed : DefD := ⟨("_law_parsed", none), "_law_parsed", "_law_parsed", defArgs s__law_parsed, defBody s__law_parsed, defScope s__law_parsed, [], []⟩
abbrev s__law_refused : Stmt := top 27
def d__law_refused : DefD := ⟨("_law_refused", none), "_law_refused", "_law_refused", defArgs s__law_refused, defBody s__law_refused, defScope s__law_refused, [], []⟩
abbrev s__law_marks_right : Stmt := top 28
def d__law_marks_right : DefD := ⟨("_law_marks_right", none), "_law_marks_right", "_law_marks_right", defArgs s__law_marks_right, defBody s__law_marks_right, defScope s__law_marks_right, [], []⟩
abbrev s_law : Stmt := top 29
def d_law : DefD := ⟨("law", none), "law", "law", defArgs s_law, defBody s_law, defScope s_law, [], []⟩
abbrev i_InvalidName : Stmt := inClass (top 2) 0
def e_InvalidName : DefD := ⟨("InvalidName", some "__init__"), "__init__", "InvalidName.__init__", defArgs i_InvalidName, defBody i_InvalidName, defScope i_InvalidName, [], []⟩
def fn : List DefD := [d_is_word, d_is_integer, d_is_mark, d_is_name, d_mark_text, d_name_text, d_number_in, d_mark_in, d_parse_name, d__law_pool, d__law_take, d__law_word, d__law_name, d__law_text, d__law_is_word, d__law_is_mark, d__law_parsed, d__law_refused, d__law_marks_right, d_law, e_InvalidName]
def fb : List Fb := [.sys,
  .fa (.glo "MaskError"),
  .iniC "MaskError" .ve,
  .fa (.free "ValueError"),
  .fa (.free "isinstance"),
  .fa (.free "range"),
  .fa (.free "max"),
  .fa (.free "min"),
  .fa (.free "len"),
  .fa (.free "repr"),
  .fa (.free "str"),
  .fa (.free "int"),
  .fa (.free "bool"),
  .fa (.free "tuple"),
  .fa (.free "all"),
  .fa (.free "any"),
  .fa (.glo "is_word"),
  .fa (.glo "is_integer"),
  .fa (.glo "is_mark"),
  .fa (.glo "is_name"),
  .fa (.glo "mark_text"),
  .fa (.glo "name_text"),
  .fa (.glo "number_in"),
  .fa (.glo "mark_in"),
  .fa (.glo "parse_name"),
  .fa (.glo "_law_pool"),
  .fa (.glo "_law_take"),
  .fa (.glo "_law_word"),
  .fa (.glo "_law_name"),
  .fa (.glo "_law_text"),
  .fa (.glo "_law_is_word"),
  .fa (.glo "_law_is_mark"),
  .fa (.glo "_law_parsed"),
  .fa (.glo "_law_refused"),
  .fa (.glo "_law_marks_right"),
  .fa (.glo "law"),
  .fa (.str "LETTERS" "abcdefghijklmnopqrstuvwxyz"),
  .fa (.int "MOST_LETTERS" 8),
  .fa (.str "DIGITS" "0123456789"),
  .fa (.int "MOST_NUMBER" 1000000000000000000),
  .fa (.glo "InvalidName"),
  .xcls "InvalidName" .ve,
  .xinit "InvalidName",
  .fa (.noat "InvalidName" "value"),
  .fa (.exm "InvalidName" "InvalidName" true)]
def tf : List Defn := [("_law_marks_right", none), ("law", none)]
section
variable {K : PySem.W.Frag} {h : Heap} {mg : Str → Option Value}
theorem fat (c : SaysY fb fn tf h K) (i : Nat) {f : Fb} (e : fb[i]? = some f := by rfl) : f.ok K = true := c.x.fact (List.mem_of_getElem? e)
theorem fatA (c : SaysY fb fn tf h K) (i : Nat) {f : Fa} (e : fb[i]? = some (.fa f) := by rfl) : f.ok K = true := c.x.fact (List.mem_of_getElem? e)
structure Txt (K : PySem.W.Frag) (mg : Str → Option Value) : Prop where
  sys : SysK K
  mgM : mg "MaskError" = some (.ref (ga K "MaskError"))
  iM : PySem.W.readsIn K (ga K "MaskError") (.type "type") = true ∧ PySem.W.specialIn K (.ref (ga K "MaskError")) "__getattribute__" = some (some (.builtin "type.__getattribute__")) ∧ PySem.W.findCls K (.ref (ga K "MaskError")) (.type "type") "__init__" = some (.val (.builtin "ValueError.__init__"))
  f_ValueError : mg "ValueError" = none
  f_isinstance : mg "isinstance" = none
  f_range : mg "range" = none
  f_max : mg "max" = none
  f_min : mg "min" = none
  f_len : mg "len" = none
  f_repr : mg "repr" = none
  f_str : mg "str" = none
  f_int : mg "int" = none
  f_bool : mg "bool" = none
  f_tuple : mg "tuple" = none
  f_all : mg "all" = none
  f_any : mg "any" = none
  g_is_word : mg "is_word" = some (.ref (ga K "is_word"))
  g_is_integer : mg "is_integer" = some (.ref (ga K "is_integer"))
  g_is_mark : mg "is_mark" = some (.ref (ga K "is_mark"))
  g_is_name : mg "is_name" = some (.ref (ga K "is_name"))
  g_mark_text : mg "mark_text" = some (.ref (ga K "mark_text"))
  g_name_text : mg "name_text" = some (.ref (ga K "name_text"))
  g_number_in : mg "number_in" = some (.ref (ga K "number_in"))
  g_mark_in : mg "mark_in" = some (.ref (ga K "mark_in"))
  g_parse_name : mg "parse_name" = some (.ref (ga K "parse_name"))
  g__law_pool : mg "_law_pool" = some (.ref (ga K "_law_pool"))
  g__law_take : mg "_law_take" = some (.ref (ga K "_law_take"))
  g__law_word : mg "_law_word" = some (.ref (ga K "_law_word"))
  g__law_name : mg "_law_name" = some (.ref (ga K "_law_name"))
  g__law_text : mg "_law_text" = some (.ref (ga K "_law_text"))
  g__law_is_word : mg "_law_is_word" = some (.ref (ga K "_law_is_word"))
  g__law_is_mark : mg "_law_is_mark" = some (.ref (ga K "_law_is_mark"))
  g__law_parsed : mg "_law_parsed" = some (.ref (ga K "_law_parsed"))
  g__law_refused : mg "_law_refused" = some (.ref (ga K "_law_refused"))
  g__law_marks_right : mg "_law_marks_right" = some (.ref (ga K "_law_marks_right"))
  g_law : mg "law" = some (.ref (ga K "law"))
  c_LETTERS : ∃ t, mg "LETTERS" = some (.str "abcdefghijklmnopqrstuvwxyz" t)
  c_MOST_LETTERS : ∃ t, mg "MOST_LETTERS" = some (.int 8 t)
  c_DIGITS : ∃ t, mg "DIGITS" = some (.str "0123456789" t)
  c_MOST_NUMBER : ∃ t, mg "MOST_NUMBER" = some (.int 1000000000000000000 t)
  g_InvalidName : mg "InvalidName" = some (.ref (ga K "InvalidName"))
  x_InvalidName : XCls K (ga K "InvalidName") "ValueError.__init__"
  o_InvalidName : OexC K (ga K "InvalidName")
  i_InvalidName : PySem.W.findIn K (.ref (ga K "InvalidName")) "__init__" = some (some (.ref (ma K (ga K "InvalidName") "__init__"))) ∧ PySem.W.typeIn K (.ref (ma K (ga K "InvalidName") "__init__")) = some (.type "function")
  n_InvalidName_value : PySem.W.findIn K (.ref (ga K "InvalidName")) "value" = some none
  m_InvalidName_InvalidName : PySem.W.exmOne K (.ref (ga K "InvalidName")) (.ref (ga K "InvalidName")) = some true
theorem txt_of (X : K.In h) (G : h.Ns mainGlobals mg) (c : SaysY fb fn tf h K) : Txt K mg where
  sys := sys_ok (fat c 0)
  mgM := glo_ok X G (fatA c 1)
  iM := iniC_ok (b := .ve) (fat c 2)
  f_ValueError := free_ok X G (fatA c 3)
  f_isinstance := free_ok X G (fatA c 4)
  f_range := free_ok X G (fatA c 5)
  f_max := free_ok X G (fatA c 6)
  f_min := free_ok X G (fatA c 7)
  f_len := free_ok X G (fatA c 8)
  f_repr := free_ok X G (fatA c 9)
  f_str := free_ok X G (fatA c 10)
  f_int := free_ok X G (fatA c 11)
  f_bool := free_ok X G (fatA c 12)
  f_tuple := free_ok X G (fatA c 13)
  f_all := free_ok X G (fatA c 14)
  f_any := free_ok X G (fatA c 15)
  g_is_word := glo_ok X G (fatA c 16)
  g_is_integer := glo_ok X G (fatA c 17)
  g_is_mark := glo_ok X G (fatA c 18)
  g_is_name := glo_ok X G (fatA c 19)
  g_mark_text := glo_ok X G (fatA c 20)
  g_name_text := glo_ok X G (fatA c 21)
  g_number_in := glo_ok X G (fatA c 22)
  g_mark_in := glo_ok X G (fatA c 23)
  g_parse_name := glo_ok X G (fatA c 24)
  g__law_pool := glo_ok X G (fatA c 25)
  g__law_take := glo_ok X G (fatA c 26)
  g__law_word := glo_ok X G (fatA c 27)
  g__law_name := glo_ok X G (fatA c 28)
  g__law_text := glo_ok X G (fatA c 29)
  g__law_is_word := glo_ok X G (fatA c 30)
  g__law_is_mark := glo_ok X G (fatA c 31)
  g__law_parsed := glo_ok X G (fatA c 32)
  g__law_refused := glo_ok X G (fatA c 33)
  g__law_marks_right := glo_ok X G (fatA c 34)
  g_law := glo_ok X G (fatA c 35)
  c_LETTERS := str_ok X G (fatA c 36)
  c_MOST_LETTERS := int_ok X G (fatA c 37)
  c_DIGITS := str_ok X G (fatA c 38)
  c_MOST_NUMBER := int_ok X G (fatA c 39)
  g_InvalidName := glo_ok X G (fatA c 40)
  x_InvalidName := xcls_ok (b := .ve) (fat c 41)
  o_InvalidName := oex_ok (fat c 41)
  i_InvalidName := xinit_ok (fat c 42)
  n_InvalidName_value := noat_ok (fatA c 43)
  m_InvalidName_InvalidName := exm_ok (fatA c 44)
end
abbrev R : PySem.W.OpenRow := PySem.W.OpenLaw.row PySem.Challenge.rw_maskededits_k03_marks_and_names
abbrev hk : PySem.W.Hook := hookY 5 fb fn tf
def ob (s : PySem.W.SharedT) : AlY := obsY 5 fb fn tf (HandSHeadRun.getT s)
theorem ob_eq (s : PySem.W.SharedT) : ob s = hk.obs s.abs := obsY_eq (HandSHeadRun.getT_eq s)
theorem run (w : World) : HandSHeadRun.RunEq R (PySem.W.view R.prog [29]) hk ob 8000 ["MaskError", "InvalidName", "LETTERS", "MOST_LETTERS", "is_word", "DIGITS", "MOST_NUMBER", "is_integer", "is_mark", "is_name", "mark_text", "name_text", "number_in", "mark_in", "parse_name", "_law_pool", "_law_take", "_law_word", "_law_name", "_law_text", "_law_is_word", "_law_is_mark", "_law_parsed", "_law_refused", "_law_marks_right"] w := by
  intro os
  kernel_rfl
end K03
set_option Elab.async false
set_option linter.all false
set_option maxRecDepth 100000
set_option maxHeartbeats 4000000
set_option pp.maxSteps 600
set_option pp.deepTerms false
namespace K03
open PySem PySem.Spec PyProof.Rows L2 He MeH MeG MeK Evl MeV MeL
open MeE (VP Mono Is All MonoL Lst Tup mono_is monoL_nil monoL_cons monoL_app mono_lst mono_tup DP DV mono_dp mono_dv mono_dvs mono_dps spI1 XV)
theorem bo_isi : bootBuiltins "isinstance" = some (.builtin "isinstance") := by decide +kernel
theorem bo_str : bootBuiltins "str" = some (.type "str") := by decide +kernel
theorem bo_int : bootBuiltins "int" = some (.type "int") := by decide +kernel
theorem bo_bool : bootBuiltins "bool" = some (.type "bool") := by decide +kernel
theorem bo_tuple : bootBuiltins "tuple" = some (.type "tuple") := by decide +kernel
theorem bo_all : bootBuiltins "all" = some (.builtin "all") := by decide +kernel
theorem bo_any : bootBuiltins "any" = some (.builtin "any") := by decide +kernel
theorem ha_VE : PySem.W.handedIn (.builtin "ValueError.__init__") = true := by decide +kernel
abbrev FD (K : PySem.W.Frag) (d : DefD) (f : Addr) (fd : FuncData) : Prop := FunD K d.name d.qual d.params d.body d.scope [] [] f fd
abbrev LET : Str := "abcdefghijklmnopqrstuvwxyz"
abbrev DIG : Str := "0123456789"
abbrev CIN (K : PySem.W.Frag) : Addr := ga K "InvalidName"
def kStr : PyData → Bool
  | .str _ => true
  | _ => false
theorem kStr_ok : ∀ d : PyData, kitB (tyD d) "str" = some (kStr d)
  | .none => (by decide +kernel : kitB "NoneType" "str" = some false)
  | .bool _ => (by decide +kernel : kitB "bool" "str" = some false)
  | .int _ => (by decide +kernel : kitB "int" "str" = some false)
  | .str _ => (by decide +kernel : kitB "str" "str" = some true)
  | .list _ => (by decide +kernel : kitB "list" "str" = some false)
  | .tuple _ => (by decide +kernel : kitB "tuple" "str" = some false)
  | .dict _ => (by decide +kernel : kitB "dict" "str" = some false)
def kTup : PyData → Bool
  | .tuple _ => true
  | _ => false
theorem kTup_ok : ∀ d : PyData, kitB (tyD d) "tuple" = some (kTup d)
  | .none => (by decide +kernel : kitB "NoneType" "tuple" = some false)
  | .bool _ => (by decide +kernel : kitB "bool" "tuple" = some false)
  | .int _ => (by decide +kernel : kitB "int" "tuple" = some false)
  | .str _ => (by decide +kernel : kitB "str" "tuple" = some false)
  | .list _ => (by decide +kernel : kitB "list" "tuple" = some false)
  | .tuple _ => (by decide +kernel : kitB "tuple" "tuple" = some true)
  | .dict _ => (by decide +kernel : kitB "dict" "tuple" = some false)
def kInt : PyData → Bool
  | .int _ => true
  | .bool _ => true
  | _ => false
theorem kInt_ok : ∀ d : PyData, kitB (tyD d) "int" = some (kInt d)
  | .none => (by decide +kernel : kitB "NoneType" "int" = some false)
  | .bool _ => (by decide +kernel : kitB "bool" "int" = some true)
  | .int _ => (by decide +kernel : kitB "int" "int" = some true)
  | .str _ => (by decide +kernel : kitB "str" "int" = some false)
  | .list _ => (by decide +kernel : kitB "list" "int" = some false)
  | .tuple _ => (by decide +kernel : kitB "tuple" "int" = some false)
  | .dict _ => (by decide +kernel : kitB "dict" "int" = some false)
def kBool : PyData → Bool
  | .bool _ => true
  | _ => false
theorem kBool_ok : ∀ d : PyData, kitB (tyD d) "bool" = some (kBool d)
  | .none => (by decide +kernel : kitB "NoneType" "bool" = some false)
  | .bool _ => (by decide +kernel : kitB "bool" "bool" = some true)
  | .int _ => (by decide +kernel : kitB "int" "bool" = some false)
  | .str _ => (by decide +kernel : kitB "str" "bool" = some false)
  | .list _ => (by decide +kernel : kitB "list" "bool" = some false)
  | .tuple _ => (by decide +kernel : kitB "tuple" "bool" = some false)
  | .dict _ => (by decide +kernel : kitB "dict" "bool" = some false)
/-! what the program tells of data -/
def isLet (c : Nat) : Bool := decide (c ∈ LET.cps.toList)
def isDig (c : Nat) : Bool := decide (c ∈ DIG.cps.toList)
def isWordS (x : Str) : Bool := (decide ((1 : Int) ≤ (x.length : Nat)) && decide (((x.length : Nat) : Int) ≤ 8)) && x.cps.toList.all isLet
def isWordD : PyData → Bool
  | .str x => isWordS x
  | _ => false
def isIntD : PyData → Bool
  | .int _ => true
  | _ => false
def okSrc : PyData → Bool
  | .str y => decide (y = ("" : Str)) || isWordS y
  | _ => false
def okNum : PyData → Bool
  | .int n => decide ((1 : Int) ≤ n) && decide (n ≤ 1000000000000000000)
  | _ => false
def isMarkD : PyData → Bool
  | .tuple [a, b, c] => isWordD a && (okSrc b && okNum c)
  | _ => false
def isNameD : PyData → Bool
  | .tuple ds => ds.all isMarkD
  | _ => false
theorem map_getD {β : Type} (a : Array Nat) (p : Nat → β) : (List.range a.size).map (fun i => p (a.getD i 0)) = a.toList.map p := by
  apply List.ext_getElem
  · simp
  · intro i h1 h2
    simp only [List.length_map, List.length_range] at h1
    simp [Array.getD, h1]
theorem r_id {te : TE} {σ : L2.St} {H0 H : Hp} {w w' : V} {D : Ends} (e : Ex H0 H) (g : Gv idW te σ H (Is w')) (hw : w' = w) (k : ∀ H', Ex H0 H' → D.rt w H') : tRet te D σ H :=
  x_ret (S := idW) (P := Is w') trivial g fun v H1 _ e1 p => by
    have p' : v = w' := p
    rw [p', hw]
    exact k H1 (e.trans e1)
theorem v_signs {S : Wv} {σ : L2.St} {h : Hp} {te ta : TE} {z : Str} {j : Nat} {vs : List Nat} {p : Nat → Bool} (g : Gv S ta σ h (Is (.str z))) (hz : z.cps.size ≤ 50000) (hw : ∀ x, wipe ((wipe σ vs).set j (some x)) vs = wipe σ vs)
    (he : ∀ (S' : Wv) (c : Nat) (h1 : Hp), Gv S' te ((wipe σ vs).set j (some (.str ⟨#[c]⟩))) h1 (Is (.bl (p c)))) : Gv S (tLc (iStr ta) (gName j) tYes te vs) σ h (LB (z.cps.toList.map p)) := by
  have q := v_lc (t := tYes) (fun _ => true) (fun i => Is (.bl (p (z.cps.getD i 0)))) (vi_str g) hz (fun _ _ => mono_is _) hw (fun Dl acc i x h1 hi e hx => v_yes) (fun Dl acc i x h1 hi e hx _ => by
    obtain ⟨c, h2, rfl⟩ := hx
    have e2 : z.cps.getD i 0 = c := by simp [Array.getD, hi, Array.getElem_eq_iff.mpr h2]
    rw [e2]
    exact he _ c h1) (fun _ _ _ _ _ x => x)
  rw [givP_all] at q
  unfold LB
  rw [← map_getD, List.map_map]
  exact q
section
variable {P : Program} {w : World} {K : PySem.W.Frag} {mg : Str → Option Value} {base : Heap} {f : Addr} {fd : FuncData}
theorem sc_is_word : FnScope ["thing", "sign"] ["thing"] (defScope s_is_word) := ⟨rfl, rfl, rfl, by decide +kernel, rfl, by decide +kernel, by decide +kernel⟩
theorem ok_is_word (F : FD K d_is_word f fd) (T : Txt K mg) : FnOk P w K mg base CX0 1 f fd ["thing"] (spD K (fun d => szB d = true) fun d => .bl (isWordD d)) := by
  obtain ⟨_, hML⟩ := T.c_MOST_LETTERS
  obtain ⟨_, hLET⟩ := T.c_LETTERS
  refine F.ok sc_is_word (fun vs H Q E h => ?_) (fun cdv A outer s H vs Q E hr h => ?_)
  · obtain ⟨v, d, rfl, _⟩ := h
    rfl
  · obtain ⟨v, d, rfl, hd, hz, k⟩ := h
    refine ⟨_, PSs.nox (pss_cons (ps_if (PW.pt (pw_or (pt_not (pt_val (pe_callB call_isi (by rfl) T.f_isinstance bo_isi (pa_cons (pv 0) (pa_cons (pe_bltn (v := .ty "str") (by rfl) T.f_str bo_str rfl) pa_nil))))) (pw_or1 (pt_not (pt_chain op_le op_le pe_int (pe_callB call_len_str (by rfl) T.f_len PySem.boot_len (pa_cons (pv 0) pa_nil)) (pe_glob (v := .int 8) rfl hML ⟨_, rfl⟩)))))) (pss_one (ps_ret pe_bl)) pss_nil) (pss_one (ps_ret (pe_callB (cr_all rfl) (by rfl) T.f_all bo_all (pa_cons (pe_lc (own := [("sign", 1)]) (g := gName 1) (by rfl) sc_is_word.nd (pi_str (pv 0)) (blkOk_by (own := [("sign", 1)]) (N := ["thing", "sign"]) (sc := defScope s_is_word) (by decide +kernel)) (fun _ _ _ _ _ => pg_name (i := 1) sc_is_word.nd rfl (Or.inl rfl)) (fun _ _ _ _ _ => pts_nil) (fun _ _ _ _ _ => (pe_cmpR op_in_sign (pv 1) (pe_glob (v := .str LET) rfl hLET ⟨_, rfl⟩) rfl))) pa_nil))))), ?_⟩
    cases d with
    | str x =>
      have hz' : x.length ≤ 100000 := of_decide_eq_true hz
      refine x_when (S := idW) trivial (vt_or (a := false) (vt_not (b := true) (vt_B (v_isi (vd_var rfl hd) (kStr_ok _)))) fun _ => vt_not (vt_test (v_le2 v_c (v_lenS (dv_str (vd_var rfl hd)) hz') v_c))) (fun hb H1 _ e1 => ?_) (fun hb H1 _ e1 => ?_)
      · refine r_id e1 v_c ?_ k
        show V.bl false = V.bl (isWordS x)
        unfold isWordS
        cases z : (decide ((1 : Int) ≤ (x.length : Nat)) && decide (((x.length : Nat) : Int) ≤ 8)) with
        | true =>
          rw [z] at hb
          cases hb
        | false => rfl
      · have h8 : (decide ((1 : Int) ≤ (x.length : Nat)) && decide (((x.length : Nat) : Int) ≤ 8)) = true := by
          cases z : (decide ((1 : Int) ≤ (x.length : Nat)) && decide (((x.length : Nat) : Int) ≤ 8)) with
          | true => rfl
          | false =>
            rw [z] at hb
            cases hb
        have hx : x.cps.size ≤ 50000 := by
          have h9 := of_decide_eq_true (Bool.and_eq_true_iff.mp h8).2
          have e9 : x.length = x.cps.size := rfl
          omega
        refine r_id e1 (v_all (v_signs (p := isLet) (dv_str (vd_var rfl (MeE.Dd.up e1 hd))) hx (fun _ => rfl) fun S' c h1 => v_inS (v_var rfl) v_c)) ?_ k
        show V.bl _ = V.bl (isWordS x)
        unfold isWordS
        rw [h8, List.all_map]
        rfl
    | _ => exact x_when (S := idW) (b := true) trivial (vt_or (a := true) (b := false) (vt_not (b := false) (vt_B (v_isi (vd_var rfl hd) (kStr_ok _)))) (fun z => nomatch z)) (fun _ H1 _ e1 => r_id e1 v_c rfl k) (fun z => nomatch z)
theorem sc_is_integer : FnScope ["thing"] ["thing"] (defScope s_is_integer) := ⟨rfl, rfl, rfl, by decide +kernel, rfl, by decide +kernel, by decide +kernel⟩
theorem ok_is_integer (F : FD K d_is_integer f fd) (T : Txt K mg) : FnOk P w K mg base CX0 1 f fd ["thing"] (spD K (fun _ => True) fun d => .bl (isIntD d)) := by
  refine F.ok sc_is_integer (fun vs H Q E h => ?_) (fun cdv A outer s H vs Q E hr h => ?_)
  · obtain ⟨v, d, rfl, _⟩ := h
    rfl
  · obtain ⟨v, d, rfl, hd, hz, k⟩ := h
    refine ⟨_, PSs.nox (pss_one (ps_ret (pe_and (pe_callB call_isi (by rfl) T.f_isinstance bo_isi (pa_cons (pv 0) (pa_cons (pe_bltn (v := .ty "int") (by rfl) T.f_int bo_int rfl) pa_nil))) (pe_one (pe_not (pe_callB call_isi (by rfl) T.f_isinstance bo_isi (pa_cons (pv 0) (pa_cons (pe_bltn (v := .ty "bool") (by rfl) T.f_bool bo_bool rfl) pa_nil)))))))), ?_⟩
    cases d with
    | int i => exact r_id (Ex.refl _) (v_andV (a := true) (v_isi (vd_var rfl hd) (kInt_ok _)) fun _ => v_notV (b := false) (v_isi (vd_var rfl hd) (kBool_ok _))) rfl k
    | bool i => exact r_id (Ex.refl _) (v_andV (a := true) (v_isi (vd_var rfl hd) (kInt_ok _)) fun _ => v_notV (b := true) (v_isi (vd_var rfl hd) (kBool_ok _))) rfl k
    | _ => exact r_id (Ex.refl _) (v_andV (a := false) (b := false) (v_isi (vd_var rfl hd) (kInt_ok _)) fun z => nomatch z) rfl k
/-- a def of one piece of data that is called -/
def Cal1 (P : Program) (w : World) (K : PySem.W.Frag) (mg : Str → Option Value) (base : Heap) (x : Str) (k : Nat) (ps : List Str) (sp : Sp) : Prop :=
  ∃ fd, PySem.W.keepIn K (.ref (ga K x)) = true ∧ Binds K fd ps [] ∧ FnOk P w K mg base CX0 k (ga K x) fd ps sp
theorem sc_is_mark : FnScope ["thing"] ["thing"] (defScope s_is_mark) := ⟨rfl, rfl, rfl, by decide +kernel, rfl, by decide +kernel, by decide +kernel⟩
theorem ok_is_mark (F : FD K d_is_mark f fd) (T : Txt K mg) (c1 : Cal1 P w K mg base "is_word" 1 ["thing"] (spD K (fun d => szB d = true) fun d => .bl (isWordD d))) (c2 : Cal1 P w K mg base "is_integer" 1 ["thing"] (spD K (fun _ => True) fun d => .bl (isIntD d))) :
    FnOk P w K mg base CX0 2 f fd ["thing"] (spD K (fun d => szB d = true) fun d => .bl (isMarkD d)) := by
  obtain ⟨_, hMN⟩ := T.c_MOST_NUMBER
  obtain ⟨_, kis_word, bis_word, Gis_word⟩ := c1
  obtain ⟨_, kis_integer, bis_integer, Gis_integer⟩ := c2
  refine F.ok sc_is_mark (fun vs H Q E h => ?_) (fun cdv A outer s H vs Q E hr h => ?_)
  · obtain ⟨v, d, rfl, _⟩ := h
    rfl
  · obtain ⟨v, d, rfl, hd, hz, k⟩ := h
    refine ⟨_, PSs.nox (pss_cons (ps_if (PW.pt (pw_or (pt_not (pt_val (pe_callB call_isi (by rfl) T.f_isinstance bo_isi (pa_cons (pv 0) (pa_cons (pe_bltn (v := .ty "tuple") (by rfl) T.f_tuple bo_tuple rfl) pa_nil))))) (pw_or (pt_cmpR op_ne (pe_callB call_len_seq (by rfl) T.f_len PySem.boot_len (pa_cons (pv 0) pa_nil)) pe_int (nomark _)) (pw_or1 (pt_not (pt_val (pe_call Gis_word (hr.mono (by decide)) rfl T.g_is_word kis_word bis_word .nil pass0 (pa_cons (pe_ix ix_tup (pv 0) pe_int (fun _ _ => rfl)) pa_nil)))))))) (pss_one (ps_ret pe_bl)) pss_nil) (pss_cons (ps_if (PW.pt (pw_or (pt_not (pt_val (pe_callB call_isi (by rfl) T.f_isinstance bo_isi (pa_cons (pe_ix ix_tup (pv 0) pe_int (fun _ _ => rfl)) (pa_cons (pe_bltn (v := .ty "str") (by rfl) T.f_str bo_str rfl) pa_nil))))) (pw_or1 (PW.pt (pw_and (pt_cmpR op_ne (pe_ix ix_tup (pv 0) pe_int (fun _ _ => rfl)) pe_str (nomark _)) (pw_and1 (pt_not (pt_val (pe_call Gis_word (hr.mono (by decide)) rfl T.g_is_word kis_word bis_word .nil pass0 (pa_cons (pe_ix ix_tup (pv 0) pe_int (fun _ _ => rfl)) pa_nil)))))))))) (pss_one (ps_ret pe_bl)) pss_nil) (pss_one (ps_ret (pe_and (pe_call Gis_integer (hr.mono (by decide)) rfl T.g_is_integer kis_integer bis_integer .nil pass0 (pa_cons (pe_ix ix_tup (pv 0) pe_int (fun _ _ => rfl)) pa_nil)) (pe_one (pe_chain op_le op_le pe_int (pe_ix ix_tup (pv 0) pe_int (fun _ _ => rfl)) (pe_glob (v := .int 1000000000000000000) rfl hMN ⟨_, rfl⟩)))))))), ?_⟩
    cases d with
    | tuple ds =>
      have hz' : szL ds = true := hz
      have l3 : ∀ (h1 : Hp), Ex H h1 → Gv idW (tOp rNe (tCB (rLenS K) (tCons (tVar 0) tNil)) (tC (.int 3))) (start ["thing"] [v]) h1 (Is (.bl (!decide (V.int (ds.length : Nat) = V.int 3)))) := fun h1 e => v_ne (v_lenT (vd_var rfl (MeE.Dd.up e hd))) v_c rfl
      match ds, hd, hz', k, l3 with
      | [a, b, c], hd, hz, k, l3 =>
        have za : szB a = true := szL_get (i := 0) hz rfl
        have zb : szB b = true := szL_get (i := 1) hz rfl
        refine x_when (S := idW) trivial (vt_or (a := false) (vt_not (b := true) (vt_B (v_isi (vd_var rfl hd) (kTup_ok _)))) fun _ => vt_or (a := false) (vt_test ((l3 _ (Ex.refl _)).is (by simp))) fun _ => vt_not (vt_B (v_spD (v_ixT (j := 0) (vd_var rfl hd) v_c rfl) za))) (fun hb H1 _ e1 => ?_) (fun hb H1 _ e1 => ?_)
        · refine r_id e1 v_c ?_ k
          have hw : isWordD a = false := by simpa using hb
          show V.bl false = V.bl (isWordD a && _)
          rw [hw]
          rfl
        · have hw : isWordD a = true := by simpa using hb
          have hd1 := MeE.Dd.up e1 hd
          cases b with
          | str y =>
            refine x_when (S := idW) trivial (vt_or (a := false) (vt_not (b := true) (vt_B (v_isi (v_ixT (j := 1) (vd_var rfl hd1) v_c rfl) (kStr_ok _)))) fun _ => vt_and (vt_test (v_ne (dv_str (v_ixT (j := 1) (vd_var rfl hd1) v_c rfl)) v_c rfl)) fun _ => vt_not (vt_B (v_spD (v_ixT (j := 1) (vd_var rfl hd1) v_c rfl) zb))) (fun hb2 H2 _ e2 => ?_) (fun hb2 H2 _ e2 => ?_)
            · refine r_id (e1.trans e2) v_c ?_ k
              have hs : okSrc (.str y) = false := by
                have hb3 : (!decide (V.str y = V.str ("" : Str))) = true ∧ (!isWordS y) = true := by
                  have e0 : isWordD (.str y) = isWordS y := rfl
                  rw [← e0]
                  simpa using hb2
                have h4 : ¬ y = ("" : Str) := fun z => by
                  rw [z] at hb3
                  simp at hb3
                show (decide (y = ("" : Str)) || isWordS y) = false
                rw [decide_eq_false h4]
                simpa using hb3.2
              show V.bl false = V.bl (isWordD a && (okSrc (.str y) && okNum c))
              rw [hs, hw]
              rfl
            · have hs : okSrc (.str y) = true := by
                show (decide (y = ("" : Str)) || isWordS y) = true
                by_cases h4 : y = ("" : Str)
                · rw [decide_eq_true h4]
                  rfl
                · have h5 : isWordS y = true := by
                    have h6 : ¬ V.str y = V.str ("" : Str) := fun z => h4 (by injection z)
                    have h7 : isWordD (.str y) = isWordS y := rfl
                    simpa [h6, h7] using hb2
                  rw [h5]
                  simp
              have hd2 := MeE.Dd.up e2 hd1
              have fin : V.bl (okNum c) = V.bl (isMarkD (.tuple [a, .str y, c])) := by
                show _ = V.bl (isWordD a && (okSrc (.str y) && okNum c))
                rw [hs, hw]
                rfl
              cases c with
              | int n => exact r_id (e1.trans e2) (v_andV (a := true) (v_spD (f := fun d => .bl (isIntD d)) (d := .int n) (v_ixT (j := 2) (vd_var rfl hd2) v_c rfl) trivial) fun _ => v_le2 v_c (dv_int (v_ixT (j := 2) (vd_var rfl hd2) v_c rfl)) v_c) fin k
              | _ => exact r_id (e1.trans e2) (v_andV (a := false) (b := false) (v_spD (f := fun d => .bl (isIntD d)) (v_ixT (j := 2) (vd_var rfl hd2) v_c rfl) trivial) fun z => nomatch z) fin k
          | _ =>
            refine x_when (S := idW) (b := true) trivial (vt_or (a := true) (b := false) (vt_not (b := false) (vt_B (v_isi (v_ixT (j := 1) (vd_var rfl hd1) v_c rfl) (kStr_ok _)))) (fun z => nomatch z)) (fun _ H2 _ e2 => r_id (e1.trans e2) v_c ?_ k) (fun z => nomatch z)
            show V.bl false = V.bl (isWordD a && _)
            rw [hw]
            rfl
      | [], hd, hz, k, l3 => exact x_when (S := idW) (b := true) trivial (vt_or (a := false) (b := true) (vt_not (b := true) (vt_B (v_isi (vd_var rfl hd) (kTup_ok _)))) fun _ => vt_or (a := true) (b := false) (vt_test ((l3 _ (Ex.refl _)).is (by simp))) fun z => nomatch z) (fun _ H1 _ e1 => r_id e1 v_c rfl k) (fun z => nomatch z)
      | [_], hd, hz, k, l3 => exact x_when (S := idW) (b := true) trivial (vt_or (a := false) (b := true) (vt_not (b := true) (vt_B (v_isi (vd_var rfl hd) (kTup_ok _)))) fun _ => vt_or (a := true) (b := false) (vt_test ((l3 _ (Ex.refl _)).is (by simp))) fun z => nomatch z) (fun _ H1 _ e1 => r_id e1 v_c rfl k) (fun z => nomatch z)
      | [_, _], hd, hz, k, l3 => exact x_when (S := idW) (b := true) trivial (vt_or (a := false) (b := true) (vt_not (b := true) (vt_B (v_isi (vd_var rfl hd) (kTup_ok _)))) fun _ => vt_or (a := true) (b := false) (vt_test ((l3 _ (Ex.refl _)).is (by simp))) fun z => nomatch z) (fun _ H1 _ e1 => r_id e1 v_c rfl k) (fun z => nomatch z)
      | _ :: _ :: _ :: _ :: r, hd, hz, k, l3 => exact x_when (S := idW) (b := true) trivial (vt_or (a := false) (b := true) (vt_not (b := true) (vt_B (v_isi (vd_var rfl hd) (kTup_ok _)))) fun _ => vt_or (a := true) (b := false) (vt_test ((l3 _ (Ex.refl _)).is (by simp; omega))) fun z => nomatch z) (fun _ H1 _ e1 => r_id e1 v_c rfl k) (fun z => nomatch z)
    | _ => exact x_when (S := idW) (b := true) trivial (vt_or (a := true) (b := false) (vt_not (b := false) (vt_B (v_isi (vd_var rfl hd) (kTup_ok _)))) (fun z => nomatch z)) (fun _ H1 _ e1 => r_id e1 v_c rfl k) (fun z => nomatch z)
end
end K03
set_option Elab.async false
set_option linter.all false
set_option maxRecDepth 100000
set_option maxHeartbeats 4000000
set_option pp.maxSteps 600
set_option pp.deepTerms false
namespace K03
open PySem PySem.Spec PyProof.Rows L2 He MeH MeG MeK Evl MeV MeL TL
open MeE (VP Mono Is All MonoL Lst Tup mono_is monoL_nil monoL_cons monoL_app mono_lst mono_tup DP DV mono_dp mono_dv mono_dvs mono_dps spI1 XV)

/-! texts of marks and names -/
def markT (l s : Str) (n : Int) : Str := if s = ("" : Str) then l ++ "." ++ toString n else l ++ "." ++ s ++ "." ++ toString n
def markTD : PyData → Str
  | .tuple [.str l, .str s, .int n] => markT l s n
  | _ => ""
def nameT : PyData → Str
  | .tuple ds => if (Txt.join "+" (ds.map markTD)).length = 0 then "/" else Txt.join "+" (ds.map markTD)
  | _ => ""
theorem mark_inv {d : PyData} (h : isMarkD d = true) : ∃ l s n, d = .tuple [.str l, .str s, .int n] ∧ isWordS l = true ∧ (s = ("" : Str) ∨ isWordS s = true) ∧ 1 ≤ n ∧ n ≤ 1000000000000000000 := by
  match d, h with
  | .tuple [a, b, c], h =>
    have h1 : (isWordD a && (okSrc b && okNum c)) = true := h
    obtain ⟨h2, h3⟩ := Bool.and_eq_true_iff.mp h1
    obtain ⟨h4, h5⟩ := Bool.and_eq_true_iff.mp h3
    match a, b, c, h2, h4, h5 with
    | .str l, .str s, .int n, h2, h4, h5 =>
      have h6 : (decide (s = ("" : Str)) || isWordS s) = true := h4
      have h7 : (decide ((1 : Int) ≤ n) && decide (n ≤ 1000000000000000000)) = true := h5
      obtain ⟨h8, h9⟩ := Bool.and_eq_true_iff.mp h7
      refine ⟨l, s, n, rfl, h2, ?_, of_decide_eq_true h8, of_decide_eq_true h9⟩
      rcases Bool.or_eq_true_iff.mp h6 with z | z
      · exact .inl (of_decide_eq_true z)
      · exact .inr z
theorem word_len {x : Str} (h : isWordS x = true) : 1 ≤ x.length ∧ x.length ≤ 8 := by
  obtain ⟨h1, _⟩ := Bool.and_eq_true_iff.mp h
  obtain ⟨h2, h3⟩ := Bool.and_eq_true_iff.mp h1
  have h4 := of_decide_eq_true h2
  have h5 := of_decide_eq_true h3
  omega
theorem src_len {x : Str} (h : x = ("" : Str) ∨ isWordS x = true) : x.length ≤ 8 := by
  rcases h with rfl | h
  · decide
  · exact (word_len h).2
theorem num_log {n : Int} (h0 : 1 ≤ n) (h1 : n ≤ 1000000000000000000) : n.natAbs.log2 < 1920 := by
  have h3 : n.natAbs < 2 ^ 60 := by omega
  have h4 : n.natAbs.log2 < 60 := (Nat.log2_lt (by omega)).mpr h3
  omega
theorem num_len {n : Int} (h0 : 1 ≤ n) (h1 : n ≤ 1000000000000000000) : (toString n : Str).length ≤ 19 := toString_length_le (by omega) (by decide) (by omega)
theorem empty_app (x : Str) : Str.empty ++ x = x := ext_tl (by rw [tl_append]; rfl)
theorem len_app (x y : Str) : (x ++ y).length = x.length + y.length := strLen_append x y
theorem dot_len : (("." : Str)).length = 1 := by decide
theorem markT_len {l s : Str} {n : Int} (h1 : isWordS l = true) (h2 : s = ("" : Str) ∨ isWordS s = true) (h3 : 1 ≤ n) (h4 : n ≤ 1000000000000000000) : (markT l s n).length ≤ 37 := by
  have a := (word_len h1).2
  have b := src_len h2
  have c := num_len h3 h4
  have d := dot_len
  unfold markT
  split
  · rw [len_app, len_app]
    omega
  · rw [len_app, len_app, len_app, len_app]
    omega
theorem markTD_len {d : PyData} (h : isMarkD d = true) : (markTD d).length ≤ 37 := by
  obtain ⟨l, s, n, rfl, h1, h2, h3, h4⟩ := mark_inv h
  exact markT_len h1 h2 h3 h4
theorem sum_le : ∀ {l : List Nat} {k : Nat}, (∀ x ∈ l, x ≤ k) → l.sum ≤ l.length * k
  | [], _, _ => by simp
  | a :: r, k, h => by
    have h1 := sum_le (l := r) (k := k) fun x hx => h x (List.mem_cons_of_mem _ hx)
    have h2 := h a List.mem_cons_self
    rw [List.sum_cons, List.length_cons, Nat.add_mul]
    omega
theorem names_sum {ds : List PyData} (h : ds.all isMarkD = true) (hl : ds.length ≤ 1000) : ((ds.map markTD).map (·.length)).sum + (ds.map markTD).length * (("+" : Str)).length ≤ 100000 := by
  have h1 : ((ds.map markTD).map (·.length)).sum ≤ ((ds.map markTD).map (·.length)).length * 37 := sum_le fun x hx => by
    rw [List.map_map] at hx
    obtain ⟨d, hd, rfl⟩ := List.mem_map.mp hx
    exact markTD_len (List.all_eq_true.mp h d hd)
  rw [List.length_map, List.length_map] at h1
  rw [List.length_map]
  have h2 : (("+" : Str)).length = 1 := by decide
  rw [h2, Nat.mul_one]
  omega
theorem join_len (a : Str) (ys : List Str) : (Txt.join a ys).length ≤ (ys.map (·.length)).sum + ys.length * a.length := by
  rw [join_eq]
  induction ys with
  | nil => exact Nat.zero_le _
  | cons y r ih =>
    cases r with
    | nil =>
      show y.length ≤ _
      simp
    | cons z r =>
      have e : Str.join a (y :: z :: r) = y ++ a ++ Str.join a (z :: r) := rfl
      rw [e, len_app, len_app, List.map_cons, List.sum_cons, List.length_cons, Nat.add_mul]
      omega
/-! errors that are raised -/
def ErrX (C : Addr) (v : V) (H : Hp) (E : XK) : Prop := ∀ dx H', Ex H H' → H dx = none → H' dx = some (.xd [("value", v)]) → E (.ref C) (some dx) H'
theorem mk_err {C : Addr} {v : V} {σ : L2.St} {H : Hp} {E : XK} {i : Nat} (hv : σ[i]? = some (some v)) (h : ErrX C v H E) : tMkO C (spI1 C "value") [] (tCons (tVar i) tNil) σ H E := by
  refine ⟨v, hv, by simp, fun a ha => ⟨a, v, rfl, upd_same, fun dx hd hne => ⟨rfl, dx, [("value", v)], upd_same, by rw [upd_ne hne, upd_same], ?_, ?_⟩⟩⟩
  · rw [upd_ne hne] at hd
    exact hd
  · rw [upd_ne hne] at hd
    refine h dx _ (fun b o e => ?_) hd upd_same
    have n1 : b ≠ dx := ne_of_none e hd
    have n2 : b ≠ a := ne_of_none e ha
    rw [upd_ne n1, del_ne n2, upd_ne n2, upd_ne n1, upd_ne n2]
    exact e
section
variable {P : Program} {w : World} {K : PySem.W.Frag} {mg : Str → Option Value} {base : Heap} {f : Addr} {fd : FuncData}
theorem sc_ini : FnScope ["self", "value"] ["self", "value"] (defScope i_InvalidName) := ⟨rfl, rfl, rfl, by decide +kernel, rfl, by decide +kernel, by decide +kernel⟩
theorem ok_ini (F : FD K e_InvalidName f fd) (T : Txt K mg) : FnOk P w K mg base CX0 1 f fd ["self", "value"] (spI1 (CIN K) "value") := by
  refine F.ok sc_ini (fun vs H Q E h => ?_) (fun cdv A outer s H vs Q E hr h => ?_)
  · obtain ⟨a, v, rfl, _⟩ := h
    rfl
  · obtain ⟨a, v, rfl, ha, k⟩ := h
    refine ⟨_, PSs.nox (pss_cons (ps_expr (pe_xiniC rfl T.mgM T.iM.1 T.iM.2.1 T.iM.2.2 ha_VE (pa_cons (pv 0) (pa_cons (pv 1) pa_nil)))) (pss_one (ps_xst (pv 0) (pv 1)))), ?_⟩
    exact ⟨_, rfl, _, rfl, a, CIN K, _, rfl, by simp, T.x_InvalidName, ha, _, rfl, _, rfl, a, CIN K, _, rfl, T.x_InvalidName, T.n_InvalidName_value, .inl ⟨ha, fun dx hd hne => k dx hd hne⟩⟩
theorem sc_is_name : FnScope ["thing", "mark"] ["thing"] (defScope s_is_name) := ⟨rfl, rfl, rfl, by decide +kernel, rfl, by decide +kernel, by decide +kernel⟩
def SzN (d : PyData) : Prop := szB d = true ∧ ∀ ds, d = .tuple ds → ds.length ≤ 1000
theorem ok_is_name (F : FD K d_is_name f fd) (T : Txt K mg) (c1 : Cal1 P w K mg base "is_mark" 2 ["thing"] (spD K (fun d => szB d = true) fun d => .bl (isMarkD d))) :
    FnOk P w K mg base CX0 3 f fd ["thing"] (spD K SzN fun d => .bl (isNameD d)) := by
  obtain ⟨_, kis_mark, bis_mark, Gis_mark⟩ := c1
  refine F.ok sc_is_name (fun vs H Q E h => ?_) (fun cdv A outer s H vs Q E hr h => ?_)
  · obtain ⟨v, d, rfl, _⟩ := h
    rfl
  · obtain ⟨v, d, rfl, hd, hz, k⟩ := h
    refine ⟨_, PSs.nox (pss_one (ps_ret (pe_and (pe_callB call_isi (by rfl) T.f_isinstance bo_isi (pa_cons (pv 0) (pa_cons (pe_bltn (v := .ty "tuple") (by rfl) T.f_tuple bo_tuple rfl) pa_nil))) (pe_one (pe_callB (cr_all rfl) (by rfl) T.f_all bo_all (pa_cons (pe_lc (own := [("mark", 1)]) (g := gName 1) (by rfl) sc_is_name.nd (pi_tup (pv 0)) (blkOk_by (own := [("mark", 1)]) (N := ["thing", "mark"]) (sc := defScope s_is_name) (by decide +kernel)) (fun _ _ _ _ _ => pg_name (i := 1) sc_is_name.nd rfl (Or.inl rfl)) (fun _ _ _ _ _ => pts_nil) (fun _ _ _ _ _ => (pe_call Gis_mark (hr.mono (by decide)) rfl T.g_is_mark kis_mark bis_mark .nil pass0 (pa_cons (pv 1) pa_nil)))) pa_nil)))))), ?_⟩
    cases d with
    | tuple ds =>
      have hz' : szL ds = true := hz.1
      refine r_id (Ex.refl _) (v_andV (a := true) (b := ds.all isMarkD) (v_isi (vd_var rfl hd) (kTup_ok _)) fun _ => (v_all (bs := ds.map isMarkD) ?_).is ?_) rfl k
      · have q := v_dataT (S := idW) (E := fun d => Is (.bl (isMarkD d))) (vd_var (K := K) (σ := start ["thing", "mark"] [v]) (i := 0) rfl hd) (by have := hz.2 ds rfl; omega) (fun _ => mono_is _) (j := 1) (vs := [1]) (fun _ => rfl) (fun S' x d h1 hm e hx => v_spD (C := fun d => szB d = true) (f := fun d => .bl (isMarkD d)) (E := E0) (vd_var (i := 1) rfl hx) (by
          obtain ⟨i, hi⟩ := List.getElem?_of_mem hm
          exact szL_get hz' hi))
        unfold LB
        rw [List.map_map]
        exact q
      · rw [List.all_map]
        rfl
    | _ => exact r_id (Ex.refl _) (v_andV (a := false) (b := false) (v_isi (vd_var rfl hd) (kTup_ok _)) fun z => nomatch z) rfl k
theorem sc_mark_text : FnScope ["mark", "level", "source", "number"] ["mark"] (defScope s_mark_text) := ⟨rfl, rfl, rfl, by decide +kernel, rfl, by decide +kernel, by decide +kernel⟩
theorem ok_mark_text (F : FD K d_mark_text f fd) (T : Txt K mg) : FnOk P w K mg base CX0 1 f fd ["mark"] (spD K (fun d => isMarkD d = true) fun d => .str (markTD d)) := by
  refine F.ok sc_mark_text (fun vs H Q E h => ?_) (fun cdv A outer s H vs Q E hr h => ?_)
  · obtain ⟨v, d, rfl, _⟩ := h
    rfl
  · obtain ⟨v, d, rfl, hd, hm, k⟩ := h
    refine ⟨_, PSs.nox (pss_cons (ps_asg (pv 0) (pg_tup rfl (pgs_cons (pg_name (i := 1) sc_mark_text.nd rfl (Or.inl rfl)) (pgs_cons (pg_name (i := 2) sc_mark_text.nd rfl (Or.inl rfl)) (pgs_cons (pg_name (i := 3) sc_mark_text.nd rfl (Or.inl rfl)) pgs_nil))))) (pss_one (ps_ret (pe_ifExp (pt_cmpR op_eq (pv 2) pe_str (nomark _)) (pe_joined (PJ.cons (pe_fmt (pv 1)) (PJ.cons pe_str (PJ.cons (pe_fmt (pv 3)) PJ.nil)))) (pe_joined (PJ.cons (pe_fmt (pv 1)) (PJ.cons pe_str (PJ.cons (pe_fmt (pv 2)) (PJ.cons pe_str (PJ.cons (pe_fmt (pv 3)) PJ.nil)))))))))), ?_⟩
    obtain ⟨l, s, n, rfl, h1, h2, h3, h4⟩ := mark_inv hm
    cases hd with
    | @tup a xs _ hs ha =>
      cases ha with
      | cons q1 ha =>
        cases ha with
        | cons q2 ha =>
          cases ha with
          | cons q3 ha =>
            cases ha
            cases q1
            cases q2
            cases q3
            refine ⟨_, rfl, a, _, rfl, hs, rfl, _, _, rfl, _, _, rfl, _, _, rfl, rfl, ?_⟩
            dsimp only
            show tRet _ _ [some (V.ref a), some (V.str l), some (V.str s), some (V.int n)] H
            have z1 := (word_len h1).2
            have z2 := src_len h2
            have z3 := num_len h3 h4
            have zd := dot_len
            have z4 : (toString n : Str).length ≤ 19 := z3
            have g1 : ∀ h1 : Hp, Gv idW (tVar 1) [some (V.ref a), some (V.str l), some (V.str s), some (V.int n)] h1 (Is (.str l)) := fun _ => v_var rfl
            have g2 : ∀ h1 : Hp, Gv idW (tVar 2) [some (V.ref a), some (V.str l), some (V.str s), some (V.int n)] h1 (Is (.str s)) := fun _ => v_var rfl
            have g3 : ∀ h1 : Hp, Gv idW (tVar 3) [some (V.ref a), some (V.str l), some (V.str s), some (V.int n)] h1 (Is (.int n)) := fun _ => v_var rfl
            have lo := num_log h3 h4
            refine r_id (Ex.refl _) (v_if (P := Is (.str (markT l s n))) (vt_test (v_eq (g2 _) v_c rfl)) (fun hb => ?_) (fun hb => ?_)) rfl k
            · have hs0 : s = ("" : Str) := by
                have z := of_decide_eq_true hb
                injection z
              refine (v_joined (vj_cons (v_fmtS (g1 _) (by omega)) ?_ (vj_cons v_c ?_ (vj_cons (v_fmtI (g3 _) lo) ?_ vj_nil)))).is ?_
              · rw [empty_app]
                omega
              · rw [empty_app, len_app]
                omega
              · rw [empty_app, len_app, len_app]
                omega
              · unfold markT
                rw [if_pos hs0, empty_app]
            · have hs0 : ¬ s = ("" : Str) := fun z => by
                rw [z] at hb
                exact absurd hb (by decide)
              refine (v_joined (vj_cons (v_fmtS (g1 _) (by omega)) ?_ (vj_cons v_c ?_ (vj_cons (v_fmtS (g2 _) (by omega)) ?_ (vj_cons v_c ?_ (vj_cons (v_fmtI (g3 _) lo) ?_ vj_nil)))))).is ?_
              · rw [empty_app]
                omega
              · rw [empty_app, len_app]
                omega
              · rw [empty_app, len_app, len_app]
                omega
              · rw [empty_app, len_app, len_app, len_app]
                omega
              · rw [empty_app, len_app, len_app, len_app, len_app]
                omega
              · unfold markT
                rw [if_neg hs0, empty_app]
theorem sc_name_text : FnScope ["name", "mark"] ["name"] (defScope s_name_text) := ⟨rfl, rfl, rfl, by decide +kernel, rfl, by decide +kernel, by decide +kernel⟩
/-- name_text: the text, or the error -/
def spNT (K : PySem.W.Frag) : Sp := fun vs H Q E => ∃ (v : V) (d : PyData), vs = [v] ∧ Dd K H v d ∧ SzN d ∧ (isNameD d = true → ∀ H', Ex H H' → Q (.str (nameT d)) H') ∧ (isNameD d = false → ErrX (CIN K) v H E)
theorem ok_name_text (F : FD K d_name_text f fd) (T : Txt K mg) (c1 : Cal1 P w K mg base "is_name" 3 ["thing"] (spD K SzN fun d => .bl (isNameD d))) (c2 : Cal1 P w K mg base "mark_text" 1 ["mark"] (spD K (fun d => isMarkD d = true) fun d => .str (markTD d)))
    {fi : FuncData} (Gini : FnOk P w K mg base CX0 1 (ma K (CIN K) "__init__") fi ["self", "value"] (spI1 (CIN K) "value")) (bini : Binds K fi ["self", "value"] []) :
    FnOk P w K mg base (CX P w) 4 f fd ["name"] (spNT K) := by
  obtain ⟨_, kis_name, bis_name, Gis_name⟩ := c1
  obtain ⟨_, kmark_text, bmark_text, Gmark_text⟩ := c2
  refine F.ok (CX := CX P w) sc_name_text (fun vs H Q E h => ?_) (fun cdv A outer s H vs Q E hr h => ?_)
  · obtain ⟨v, d, rfl, _⟩ := h
    rfl
  · obtain ⟨v, d, rfl, hd, hz, k, kx⟩ := h
    refine ⟨_, (pss_cons (ps_if (pt_not (pt_val (pe_call Gis_name (hr.mono (by decide)) rfl T.g_is_name kis_name bis_name .nil pass0 (pa_cons (pv 0) pa_nil)))) (pss_one (ps_raise rfl (takes_of rfl rfl rfl rfl) (pmk_oex T.o_InvalidName T.i_InvalidName.1 T.i_InvalidName.2 Gini (hr.mono (by decide)) bini .nil pass0 rfl T.g_InvalidName (pa_cons (pv 0) pa_nil)))) pss_nil) (pss_one (ps_ret (pe_orT (pe_join pe_str (pe_lc (own := [("mark", 1)]) (g := gName 1) (by rfl) sc_name_text.nd (pi_tup (pv 0)) (blkOk_by (own := [("mark", 1)]) (N := ["name", "mark"]) (sc := defScope s_name_text) (by decide +kernel)) (fun _ _ _ _ _ => pg_name (i := 1) sc_name_text.nd rfl (Or.inl rfl)) (fun _ _ _ _ _ => pts_nil) (fun _ _ _ _ _ => (pe_call Gmark_text (hr.mono (by decide)) rfl T.g_mark_text kmark_text bmark_text .nil pass0 (pa_cons (pv 1) pa_nil))))) (pe_one pe_str))))), ?_⟩
    refine x_when (S := idW) trivial (vt_not (vt_B (v_spD (vd_var rfl hd) hz))) (fun hb H1 _ e1 => ?_) (fun hb H1 _ e1 => ?_)
    · have hn : isNameD d = false := by simpa using hb
      exact mk_err rfl fun dx H' e' n' hx => kx hn dx H' (e1.trans e') (fresh_back e1 n') hx
    · have hn : isNameD d = true := by simpa using hb
      match d, hd, hz, hn, k with
      | .tuple ds, hd, hz, hn, k =>
        have hl := hz.2 ds rfl
        have hs := names_sum hn hl
        have hj : (Txt.join "+" (ds.map markTD)).length ≤ 100000 := Nat.le_trans (join_len _ _) hs
        refine r_id e1 (v_orS (v_join v_c (ys := ds.map markTD) ?_ hs) v_c hj) rfl (k hn)
        have q := v_dataT (S := idW) (E := fun d => Is (.str (markTD d))) (vd_var (K := K) (σ := start ["name", "mark"] [v]) (i := 0) rfl (MeE.Dd.up e1 hd)) (by omega) (fun _ => mono_is _) (j := 1) (vs := [1]) (fun _ => rfl) (fun S' x d h1 hm e hx => v_spD (C := fun d => isMarkD d = true) (f := fun d => .str (markTD d)) (E := E0) (vd_var (i := 1) rfl hx) (List.all_eq_true.mp hn d hm))
        unfold LS
        rw [List.map_map]
        exact q
end
end K03
set_option Elab.async false
set_option linter.all false
set_option maxRecDepth 100000
set_option maxHeartbeats 4000000
set_option pp.maxSteps 600
set_option pp.deepTerms false
namespace K03
open PySem PySem.Spec PyProof.Rows L2 He MeH MeG MeK Evl MeV MeL TL
open MeE (VP Mono Is All MonoL Lst Tup mono_is monoL_nil monoL_cons monoL_app mono_lst mono_tup DP DV mono_dp mono_dv mono_dvs mono_dps spI1 XV)

theorem u65 {k : Nat} {A : Around} (r : Room k A) : A.units + 65 < cLine := by
  have := r.un
  omega
/-! what is parsed -/
def first0 (x : Str) : Bool := match x.cps.toList with
  | c :: _ => decide (V.str ⟨#[c]⟩ = V.str ("0" : Str))
  | [] => false
def numOk (x : Str) : Bool := (decide ((1 : Int) ≤ (x.length : Nat)) && decide (((x.length : Nat) : Int) ≤ 19)) && (!first0 x && x.cps.toList.all isDig)
def numD (x : Str) : PyData := if numOk x = true then .int (NumText.digitsVal x.cps.toList : Nat) else .none
def numV (x : Str) : V := if numOk x = true then .int (NumText.digitsVal x.cps.toList : Nat) else .non
def three : List Str → List Str
  | [a, b] => [a, "", b]
  | l => l
def mark3 (x : Str) : List Str → PyData
  | [a, b, c] => if (decide (Txt.count x "." = 2) && decide (b = ("" : Str))) = true then .none else if isMarkD (.tuple [.str a, .str b, numD c]) = true then .tuple [.str a, .str b, numD c] else .none
  | _ => .none
def markInD (x : Str) : PyData := mark3 x (three (Txt.split x "."))
def isNo : PyData → Bool
  | .none => true
  | _ => false
def parseS (x : Str) : Option (List PyData) := if x = ("/" : Str) then some [] else if ((Txt.split x "+").map markInD).any isNo = true then none else some ((Txt.split x "+").map markInD)
def parseD : PyData → Option (List PyData)
  | .str x => parseS x
  | _ => none
theorem dig_all {l : List Nat} (h : l.all isDig = true) : NumText.AllDigits l := fun c hc => by
  have h1 := List.all_eq_true.mp h c hc
  have h2 : c ∈ DIG.cps.toList := of_decide_eq_true h1
  have h3 : DIG.cps.toList = [48, 49, 50, 51, 52, 53, 54, 55, 56, 57] := by decide
  rw [h3] at h2
  simp only [List.mem_cons, List.not_mem_nil, or_false] at h2
  omega
theorem num_int {x : Str} (h : numOk x = true) : PySem.intText? x = some (NumText.digitsVal x.cps.toList : Nat) ∧ x.length ≤ 19 := by
  obtain ⟨h1, h2⟩ := Bool.and_eq_true_iff.mp h
  obtain ⟨h3, h4⟩ := Bool.and_eq_true_iff.mp h1
  obtain ⟨_, h5⟩ := Bool.and_eq_true_iff.mp h2
  have h6 := of_decide_eq_true h3
  have h7 := of_decide_eq_true h4
  have h8 : x.length = x.cps.toList.length := len_tl x
  refine ⟨intText_digits (dig_all h5) (fun z => ?_) (by omega), by omega⟩
  rw [z] at h8
  simp at h8
  omega
theorem spl_le {S : List Nat} : ∀ (l : List Nat) (k : Nat) (acc p : List Nat), p ∈ spl S k acc l → p.length ≤ acc.length + l.length
  | [], k, acc, p, h => by
    rw [spl_nil] at h
    rw [List.mem_singleton.mp h]
    simp
  | c :: r, k + 1, acc, p, h => by
    have e : spl S (k + 1) acc (c :: r) = spl S k acc r := rfl
    rw [e] at h
    have := spl_le r k acc p h
    rw [List.length_cons]
    omega
  | c :: r, 0, acc, p, h => by
    cases hp : pre S (c :: r) with
    | true =>
      rw [spl_hit hp] at h
      rcases List.mem_cons.mp h with rfl | h
      · omega
      · have := spl_le r _ [] p h
        rw [List.length_cons]
        simp only [List.length_nil] at this
        omega
    | false =>
      rw [spl_miss hp] at h
      have := spl_le r 0 _ p h
      rw [List.length_append] at this
      rw [List.length_cons]
      simp only [List.length_cons, List.length_nil] at this
      omega
theorem spl_n {S : List Nat} : ∀ (l : List Nat) (k : Nat) (acc : List Nat), (spl S k acc l).length ≤ l.length + 1
  | [], k, acc => by
    rw [spl_nil]
    simp
  | c :: r, k + 1, acc => by
    have e : spl S (k + 1) acc (c :: r) = spl S k acc r := rfl
    rw [e]
    have := spl_n (S := S) r k acc
    rw [List.length_cons]
    omega
  | c :: r, 0, acc => by
    cases hp : pre S (c :: r) with
    | true =>
      rw [spl_hit hp, List.length_cons, List.length_cons]
      have := spl_n (S := S) r (S.length - 1) []
      omega
    | false =>
      rw [spl_miss hp, List.length_cons]
      have := spl_n (S := S) r 0 (acc ++ [c])
      omega
theorem tl_dot : tl (("." : Str)) = [46] := by decide
theorem tl_plus : tl (("+" : Str)) = [43] := by decide
theorem split_dot (x : Str) : (Txt.split x ".").map tl = spl [46] 0 [] (tl x) := by
  rw [split_spl x "." (by rw [tl_dot]; simp) (kind_ok (by decide +kernel)), tl_dot]
theorem split_plus (x : Str) : (Txt.split x "+").map tl = spl [43] 0 [] (tl x) := by
  rw [split_spl x "+" (by rw [tl_plus]; simp) (kind_ok (by decide +kernel)), tl_plus]
theorem part_le {x p : Str} (h : p ∈ Txt.split x ".") : p.length ≤ x.length := by
  have h1 : tl p ∈ (Txt.split x ".").map tl := List.mem_map.mpr ⟨p, h, rfl⟩
  rw [split_dot] at h1
  have h2 := spl_le _ _ _ _ h1
  rw [len_tl, len_tl]
  simpa using h2
theorem part_le2 {x p : Str} (h : p ∈ Txt.split x "+") : p.length ≤ x.length := by
  have h1 : tl p ∈ (Txt.split x "+").map tl := List.mem_map.mpr ⟨p, h, rfl⟩
  rw [split_plus] at h1
  have h2 := spl_le _ _ _ _ h1
  rw [len_tl, len_tl]
  simpa using h2
theorem parts_n (x : Str) : (Txt.split x "+").length ≤ x.length + 1 := by
  have h := spl_n (S := [43]) (tl x) 0 []
  rw [← split_plus, List.length_map] at h
  rw [len_tl]
  exact h
theorem three_mem {l : List Str} {p : Str} (h : p ∈ three l) : p ∈ l ∨ p = ("" : Str) := by
  unfold three at h
  split at h
  · simp only [List.mem_cons, List.not_mem_nil, or_false] at h ⊢
    rcases h with h | h | h
    · exact .inl (.inl h)
    · exact .inr h
    · exact .inl (.inr h)
  · exact .inl h
theorem markIn_cases (x : Str) : markInD x = .none ∨ isMarkD (markInD x) = true := by
  unfold markInD mark3
  split
  · split
    · exact .inl rfl
    · split
      · rename_i h
        exact .inr h
      · exact .inl rfl
  · exact .inl rfl
theorem word_ok {x : Str} (h : isWordS x = true) : PyData.canLay0 (.str x) = true := by
  obtain ⟨_, h1⟩ := Bool.and_eq_true_iff.mp h
  show x.cps.all _ = true
  rw [← Array.all_toList]
  refine List.all_eq_true.mpr fun c hc => ?_
  have h2 : c ∈ LET.cps.toList := of_decide_eq_true (List.all_eq_true.mp h1 c hc)
  have h3 : ∀ c ∈ LET.cps.toList, c < 0x110000 := by decide
  exact decide_eq_true (h3 c h2)
theorem mark_lay {d : PyData} (h : isMarkD d = true) : d.canLay0 = true ∧ d.depth ≤ 1 := by
  obtain ⟨l, s, n, rfl, h1, h2, h3, h4⟩ := mark_inv h
  refine ⟨?_, Nat.le_refl _⟩
  have z1 := word_ok h1
  have z2 : PyData.canLay0 (.str s) = true := by
    rcases h2 with rfl | h2
    · decide +kernel
    · exact word_ok h2
  show (PyData.canLay0 (.str l) && (PyData.canLay0 (.str s) && true)) = true
  rw [z1, z2]
  rfl
mutual
theorem dp_of {K : PySem.W.Frag} {H : Hp} : ∀ {v : V} {d : PyData}, d.canLay0 = true → Dd K H v d → Dp K H v d
  | _, _, _, .non => .non
  | _, _, _, .bl b => .bl b
  | _, _, _, .int i => .int i
  | _, _, _, .str x => .str x
  | _, _, c, .lst h k => .lst h (dp_ofAll c k)
  | _, _, c, .tup h k => .tup h (dp_ofAll c k)
  | _, _, c, .dic _ _ => nomatch c
theorem dp_ofAll {K : PySem.W.Frag} {H : Hp} : ∀ {vs : List V} {ds : List PyData}, PyData.canLayAll0 ds = true → DdAll K H vs ds → DpAll K H vs ds
  | _, _, _, .nil => .nil
  | _, _, c, .cons h k => .cons (dp_of (Bool.and_eq_true_iff.mp c).1 h) (dp_ofAll (Bool.and_eq_true_iff.mp c).2 k)
end
theorem marks_lay : ∀ ys : List Str, PyData.canLayAll0 (ys.map markInD) = true
  | [] => rfl
  | y :: ys => by
    show (PyData.canLay0 (markInD y) && PyData.canLayAll0 (ys.map markInD)) = true
    rw [marks_lay ys]
    rcases markIn_cases y with h | h
    · rw [h]
      rfl
    · rw [(mark_lay h).1]
      rfl
theorem marks_any (ys : List Str) : ((ys.map markInD).any fun z => PyData.eqv z .none) = (ys.map markInD).any isNo := by
  rw [List.any_map, List.any_map]
  congr 1
  funext y
  show PyData.eqv (markInD y) .none = isNo (markInD y)
  rcases markIn_cases y with h | h
  · rw [h]
    rfl
  · obtain ⟨l, s, n, e, _⟩ := mark_inv h
    rw [e]
    rfl
theorem marks_dep : ∀ ys : List Str, PyData.depthAll (ys.map markInD) ≤ 1
  | [] => Nat.zero_le _
  | y :: ys => by
    show max (PyData.depth (markInD y)) (PyData.depthAll (ys.map markInD)) ≤ 1
    have h1 := marks_dep ys
    have h2 : PyData.depth (markInD y) ≤ 1 := by
      rcases markIn_cases y with h | h
      · rw [h]
        exact Nat.zero_le _
      · exact (mark_lay h).2
    omega
theorem marks_shape (ys : List Str) : SeqAt.shaped (.list (ys.map markInD)) = true := by
  have h1 : PyData.canLay0 (.list (ys.map markInD)) = true := marks_lay ys
  have h2 : PyData.depth (.list (ys.map markInD)) ≤ 64 := by
    show PyData.depthAll (ys.map markInD) + 1 ≤ 64
    have := marks_dep ys
    omega
  unfold SeqAt.shaped
  rw [h1, decide_eq_true h2]
  rfl
/-- None in a list of data -/
theorem v_inNo {S : Wv} {K : PySem.W.Frag} {σ : L2.St} {h : Hp} {tb : TE} {ms : List PyData} (g : Gv S tb σ h (DV K (.list ms))) (hs : SeqAt.shaped (.list ms) = true) : Gv S (tOp (rInD K) (tC .non) tb) σ h (Is (.bl (ms.any fun z => PyData.eqv z .none))) := fun H1 i e Q q =>
  g H1 i e _ fun w H2 i2 e2 pw => ⟨.none, ms, .non, dp_of (SeqAt.canLay_of_shaped hs) (MeE.Dd.up (S.sub _) pw), rfl, hs, q _ H2 i2 e2 rfl⟩
/-- a text to data, new data all -/
def spO (K : PySem.W.Frag) (f : Str → PyData) : Sp := fun vs H Q _ => ∃ S : Wv, S.I H ∧ ∃ x : Str, vs = [.str x] ∧ x.length ≤ 100000 ∧ ∀ v H', S.I H' → Ex (S.vw H) (S.vw H') → Dd K (S.vw H') v (f x) → Q v H'
theorem v_spO {S : Wv} {K : PySem.W.Frag} {σ : L2.St} {h : Hp} {ta : TE} {f : Str → PyData} {E : XK} {x : Str} (g : Gv S ta σ h (Is (.str x))) (hx : x.length ≤ 100000) : Gv S (tCall (spO K f) [] E (tCons ta tNil)) σ h (DV K (f x)) :=
  v_call (Ps := All [Is (.str x)]) (va_cons g (mono_is _) va_nil) fun vs H1 i e ps Q q => by
    obtain ⟨w, rfl, hw⟩ := MeE.all1 ps
    have hw' : w = .str x := hw
    subst hw'
    exact ⟨S, i, x, rfl, hx, fun v H' i' e' d' => q v H' i' e' d'⟩
section
variable {P : Program} {w : World} {K : PySem.W.Frag} {mg : Str → Option Value} {base : Heap} {f : Addr} {fd : FuncData}
def spNum : Sp := fun vs H Q _ => ∃ x : Str, vs = [.str x] ∧ x.length ≤ 100000 ∧ ∀ H', Ex H H' → Q (numV x) H'
theorem v_num {S : Wv} {σ : L2.St} {h : Hp} {ta : TE} {E : XK} {x : Str} (g : Gv S ta σ h (Is (.str x))) (hx : x.length ≤ 100000) : Gv S (tCall spNum [] E (tCons ta tNil)) σ h (DV K (numD x)) :=
  v_call (Ps := All [Is (.str x)]) (va_cons g (mono_is _) va_nil) fun vs H1 i e ps Q q => by
    obtain ⟨w, rfl, hw⟩ := MeE.all1 ps
    have hw' : w = .str x := hw
    subst hw'
    refine ⟨x, rfl, hx, fun H' e' => q _ H' (S.up i e').1 (S.up i e').2 ?_⟩
    show Dd K _ (numV x) (numD x)
    unfold numV numD
    split
    · exact Dd.int _
    · exact Dd.non
theorem sc_number_in : FnScope ["text", "sign"] ["text"] (defScope s_number_in) := ⟨rfl, rfl, rfl, by decide +kernel, rfl, by decide +kernel, by decide +kernel⟩
theorem ok_number_in (F : FD K d_number_in f fd) (T : Txt K mg) : FnOk P w K mg base CX0 1 f fd ["text"] spNum := by
  obtain ⟨_, hDIG⟩ := T.c_DIGITS
  refine F.ok sc_number_in (fun vs H Q E h => ?_) (fun cdv A outer s H vs Q E hr h => ?_)
  · obtain ⟨x, rfl, _⟩ := h
    rfl
  · obtain ⟨x, rfl, hx, k⟩ := h
    refine ⟨_, PSs.nox (pss_cons (ps_if (PW.pt (pw_or (pt_not (pt_chain op_le op_le pe_int (pe_callB call_len_str (by rfl) T.f_len PySem.boot_len (pa_cons (pv 0) pa_nil)) pe_int)) (pw_or (pt_cmpR op_eq (pe_ix ix_str (pv 0) pe_int (fun _ _ => rfl)) pe_str (nomark _)) (pw_or1 (pt_val (pe_callB (cr_any rfl) (by rfl) T.f_any bo_any (pa_cons (pe_lc (own := [("sign", 1)]) (g := gName 1) (by rfl) sc_number_in.nd (pi_str (pv 0)) (blkOk_by (own := [("sign", 1)]) (N := ["text", "sign"]) (sc := defScope s_number_in) (by decide +kernel)) (fun _ _ _ _ _ => pg_name (i := 1) sc_number_in.nd rfl (Or.inl rfl)) (fun _ _ _ _ _ => pts_nil) (fun _ _ _ _ _ => (pe_cmpR op_notIn_sign (pv 1) (pe_glob (v := .str DIG) rfl hDIG ⟨_, rfl⟩) rfl))) pa_nil))))))) (pss_one (ps_ret pe_non)) pss_nil) (pss_one (ps_ret (pe_callTy call_int_str (by rfl) T.f_int bo_int (pa_cons (pv 0) pa_nil))))), ?_⟩
    have gx : ∀ (S : Wv) (h1 : Hp), Gv S (tVar 0) (start ["text", "sign"] [.str x]) h1 (Is (.str x)) := fun _ _ => v_var rfl
    have ht : GvT idW (tOr (tNot (tTest (tChain (rI0 fun i j => .bl (decide (i ≤ j))) (rI0 fun i j => .bl (decide (i ≤ j))) (tC (.int 1)) (tCB (fun xs H Q => ∃ z : Str, xs = [.str z] ∧ z.length ≤ sizeLine ∧ Q (.int z.length) H) (tCons (tVar 0) tNil)) (tC (.int 19)))))
        (tOr (tTest (tOp rEq (tOp rIxS (tVar 0) (tC (.int 0))) (tC (.str "0")))) (tB (tCB (rAny K) (tCons (tLc (iStr (tVar 0)) (gName 1) tYes (tOp (fun x y H Q => ∃ (c : Nat) (z : Str), x = .str ⟨#[c]⟩ ∧ y = .str z ∧ Q (.bl (!decide (c ∈ z.cps.toList))) H) (tVar 1) (tC (.str DIG))) [1]) tNil)))))
        (start ["text", "sign"] [.str x]) H (!numOk x) := by
      refine (vt_or (a := !(decide ((1 : Int) ≤ (x.length : Nat)) && decide (((x.length : Nat) : Int) ≤ 19))) (b := first0 x || !x.cps.toList.all isDig) (vt_not (vt_test (v_le2 v_c (v_lenS (gx _ _) hx) v_c))) fun h1 => ?_).is ?_
      · have h2 : (decide ((1 : Int) ≤ (x.length : Nat)) && decide (((x.length : Nat) : Int) ≤ 19)) = true := by simpa using h1
        obtain ⟨h3, h4⟩ := Bool.and_eq_true_iff.mp h2
        have h5 := of_decide_eq_true h3
        have h6 := of_decide_eq_true h4
        have h7 : x.length = x.cps.toList.length := len_tl x
        cases hl : x.cps.toList with
        | nil =>
          rw [hl] at h7
          simp at h7
          omega
        | cons c r =>
          refine vt_or (a := first0 x) (vt_test ((v_eq (v_ixS (j := 0) (c := c) (gx _ _) v_c hx (by rw [hl]; rfl)) v_c rfl).is ?_)) fun _ => vt_B ((v_any (v_signs (p := fun c => !isDig c) (gx _ _) (by have e9 : x.length = x.cps.size := rfl; omega) (fun _ => rfl) fun S' c h1 => v_ninS (v_var rfl) v_c)).is ?_)
          · unfold first0
            rw [hl]
          · rw [List.any_map, hl]
            have e : ∀ l : List Nat, l.any (id ∘ fun c => !isDig c) = !l.all isDig := fun l => by
              induction l with
              | nil => rfl
              | cons a r ih =>
                rw [List.any_cons, List.all_cons, ih]
                show (!isDig a || !r.all isDig) = !(isDig a && r.all isDig)
                cases isDig a <;> rfl
            rw [e]
      · unfold numOk
        cases (decide ((1 : Int) ≤ (x.length : Nat)) && decide (((x.length : Nat) : Int) ≤ 19)) <;> cases first0 x <;> cases x.cps.toList.all isDig <;> rfl
    refine x_when (S := idW) trivial ht (fun hb H1 _ e1 => ?_) (fun hb H1 _ e1 => ?_)
    · refine r_id e1 v_c ?_ k
      have hn : numOk x = false := by simpa using hb
      unfold numV
      rw [hn]
      rfl
    · have hn : numOk x = true := by simpa using hb
      obtain ⟨z1, z2⟩ := num_int hn
      refine r_id e1 (v_intS (gx _ _) z1 (by omega)) ?_ k
      unfold numV
      rw [hn]
      rfl
theorem sc_mark_in : FnScope ["text", "parts", "found"] ["text"] (defScope s_mark_in) := ⟨rfl, rfl, rfl, by decide +kernel, rfl, by decide +kernel, by decide +kernel⟩
theorem ok_mark_in (F : FD K d_mark_in f fd) (T : Txt K mg) (c1 : Cal1 P w K mg base "is_mark" 2 ["thing"] (spD K (fun d => szB d = true) fun d => .bl (isMarkD d))) (c2 : Cal1 P w K mg base "number_in" 1 ["text"] spNum) : FnOk P w K mg base CX0 3 f fd ["text"] (spO K markInD) := by
  obtain ⟨_, kis_mark, bis_mark, Gis_mark⟩ := c1
  obtain ⟨_, knumber_in, bnumber_in, Gnumber_in⟩ := c2
  refine F.ok sc_mark_in (fun vs H Q E h => ?_) (fun cdv A outer s H vs Q E hr h => ?_)
  · obtain ⟨S, i, x, rfl, _⟩ := h
    rfl
  · obtain ⟨S, iH, x, rfl, hx, k⟩ := h
    refine ⟨_, PSs.nox (pss_cons (ps_set (i := 1) sc_mark_in.nd rfl (Or.inl rfl) (pe_split (pv 0) pe_str)) (pss_cut (ps_if (pt_cmpR op_eq (pe_callB call_len_seq (by rfl) T.f_len PySem.boot_len (pa_cons (pv 1) pa_nil)) pe_int (nomark _)) (pss_one (ps_set (i := 1) sc_mark_in.nd rfl (Or.inl rfl) (pe_lst (pa_cons (pe_ix ix_list (pv 1) pe_int (fun _ _ => rfl)) (pa_cons pe_str (pa_cons (pe_ix ix_list (pv 1) pe_int (fun _ _ => rfl)) pa_nil)))))) pss_nil) (pss_cons (ps_if (PW.pt (pw_or (pt_cmpR op_ne (pe_callB call_len_seq (by rfl) T.f_len PySem.boot_len (pa_cons (pv 1) pa_nil)) pe_int (nomark _)) (pw_or1 (PW.pt (pw_and (pt_cmpR op_eq (pe_m1 PySem.F.slot_str_count PySem.F.type_str_count mt_count (pv 0) pe_str) pe_int (nomark _)) (pw_and1 (pt_cmpR op_eq (pe_ix ix_list (pv 1) pe_int (fun _ _ => rfl)) pe_str (nomark _)))))))) (pss_one (ps_ret pe_non)) pss_nil) (pss_cons (ps_set (i := 2) sc_mark_in.nd rfl (Or.inl rfl) (pe_tup (pa_cons (pe_ix ix_list (pv 1) pe_int (fun _ _ => rfl)) (pa_cons (pe_ix ix_list (pv 1) pe_int (fun _ _ => rfl)) (pa_cons (pe_call Gnumber_in (hr.mono (by decide)) rfl T.g_number_in knumber_in bnumber_in .nil pass0 (pa_cons (pe_ix ix_list (pv 1) pe_int (fun _ _ => rfl)) pa_nil)) pa_nil))))) (pss_one (ps_ret (pe_ifExp (pt_val (pe_call Gis_mark (hr.mono (by decide)) rfl T.g_is_mark kis_mark bis_mark .nil pass0 (pa_cons (pv 2) pa_nil))) (pv 2) pe_non))))))), ?_⟩
    refine x_asgq (S := S) (P := LS (Txt.split x ".")) iH (v_split (v_var rfl) v_c rfl hx) fun v1 H1 i1 e1 p1 => ?_
    have hp : ∀ p ∈ Txt.split x ".", p.length ≤ 100000 := fun p h => Nat.le_trans (part_le h) hx
    refine ⟨fun σ' H' => S.I H' ∧ Ex (S.vw H) (S.vw H') ∧ ∃ v2, σ' = [some (.str x), some v2, none] ∧ LS (three (Txt.split x ".")) v2 (S.vw H'), ?_, ?_⟩
    · refine x_if (S := S) i1 (vt_test (v_eq (v_lenL (K := K) (v_varP rfl (mono_LS _) p1)) v_c rfl)) (fun hb H2 i2 e2 => ?_) (fun hb H2 i2 e2 => ?_)
      · have hl : (Txt.split x ".").length = 2 := by
          have z := of_decide_eq_true hb
          injection z with z
          rw [List.length_map] at z
          omega
        match hs : Txt.split x ".", hl with
        | [a, b], _ =>
          rw [hs] at p1
          have p2 := mono_LS _ _ _ _ e2 p1
          refine x_asg (S := S) (P := LS [a, "", b]) i2 (v_lst (Ps := [Is (.str a), Is (.str ""), Is (.str b)]) (va_cons (v_ix (K := K) (j := 0) (v_varP rfl (mono_LS [a, b]) p2) (mono_ls [a, b]) v_c rfl) (mono_is _) (va_cons v_c (mono_is _) (va_cons (v_ix (K := K) (j := 1) (v_varP rfl (mono_LS [a, b]) p2) (mono_ls [a, b]) v_c rfl) (mono_is _) va_nil))) (mono_ls [a, "", b]) (by simp)) fun v3 H3 i3 e3 p3 => ⟨i3, (e1.trans e2).trans e3, v3, rfl, p3⟩
      · refine ⟨i2, e1.trans e2, v1, rfl, ?_⟩
        have h3 : three (Txt.split x ".") = Txt.split x "." := by
          unfold three
          split
          · rename_i a b z
            rw [z] at hb
            exact absurd hb (by simp)
          · rfl
        rw [h3]
        exact mono_LS _ _ _ _ e2 p1
    · intro σ' H2 hm
      obtain ⟨i2, e2, v2, rfl, p2⟩ := hm
      have hp3 : ∀ p ∈ three (Txt.split x "."), p.length ≤ 100000 := fun p h => by
        rcases three_mem h with z | z
        · exact hp p z
        · rw [z]
          decide
      have none_ : ∀ H3, S.I H3 → Ex (S.vw H2) (S.vw H3) → markInD x = .none → tRet (tC .non) { nx := fun _ H' => Q .non H', rt := Q } [some (.str x), some v2, none] H3 := fun H3 i3 e3 z => k _ H3 i3 (e2.trans e3) (by rw [z]; exact Dd.non)
      have ln : ∀ h1 : Hp, Ex (S.vw H2) h1 → Gv S (tOp rNe (tCB (rLenS K) (tCons (tVar 1) tNil)) (tC (.int 3))) [some (.str x), some v2, none] h1 (Is (.bl (!decide (V.int (((three (Txt.split x ".")).map fun y => Is (.str y)).length : Nat) = V.int 3)))) := fun h1 e => v_ne (v_lenL (v_varP rfl (mono_LS _) (mono_LS _ _ _ _ e p2))) v_c rfl
      match hs : three (Txt.split x "."), p2, hp3, ln with
      | [a, b, c], p2, hp3, ln =>
        have gp : ∀ (h1 : Hp) (j : Nat) (y : Str), Ex (S.vw H2) h1 → [a, b, c][j]? = some y → Gv S (tOp (rIxL K) (tVar 1) (tC (.int (j : Nat)))) [some (.str x), some v2, none] h1 (Is (.str y)) := fun h1 j y e hj => v_ix (v_varP rfl (mono_LS [a, b, c]) (mono_LS _ _ _ _ e p2)) (mono_ls [a, b, c]) v_c (by rw [List.getElem?_map, hj]; rfl)
        refine x_when (S := S) i2 (vt_or (a := false) (vt_test ((ln _ (Ex.refl _)).is (by simp))) fun _ => vt_and (vt_test (v_eq (v_count (v_var rfl) v_c) v_c rfl)) fun _ => vt_test (v_eq (gp _ 1 b (Ex.refl _) rfl) v_c rfl)) (fun hb H3 i3 e3 => ?_) (fun hb H3 i3 e3 => ?_)
        · refine none_ H3 i3 e3 ?_
          unfold markInD
          rw [hs]
          have h1 : (decide (Txt.count x "." = 2) && decide (b = ("" : Str))) = true := by simpa using hb
          show (if (decide (Txt.count x "." = 2) && decide (b = ("" : Str))) = true then PyData.none else _) = _
          rw [if_pos h1]
        · have h1 : ¬ ((decide (Txt.count x "." = 2) && decide (b = ("" : Str))) = true) := fun z => by
            have z' : Txt.count x "." = 2 ∧ b = ("" : Str) := by simpa using z
            rw [z'.1, z'.2] at hb
            simp at hb
          refine x_asgq (S := S) (P := DV K (.tuple [.str a, .str b, numD c])) i3 (vd_tup (vd_cons (is_str (gp _ 0 a e3 rfl)) (vd_cons (is_str (gp _ 1 b e3 rfl)) (vd_cons (v_num (gp _ 2 c e3 rfl) (hp3 c (by simp))) vd_nil))) (by simp)) fun v4 H4 i4 e4 p4 => ?_
          have hz : szB (.tuple [.str a, .str b, numD c]) = true := by
            have z1 : szB (.str a) = true := decide_eq_true (hp3 a (by simp))
            have z2 : szB (.str b) = true := decide_eq_true (hp3 b (by simp))
            have z3 : szB (numD c) = true := by
              unfold numD
              split <;> rfl
            show (szB (.str a) && (szB (.str b) && (szB (numD c) && true))) = true
            rw [z1, z2, z3]
            rfl
          refine x_ret (S := S) (P := DV K (markInD x)) i4 (v_if (vt_B (v_spD (vd_var (i := 2) rfl p4) hz)) (fun hb2 => ?_) (fun hb2 => ?_)) fun v5 H5 i5 e5 p5 => k v5 H5 i5 ((e2.trans e3).trans (e4.trans e5)) p5
          · have e6 : markInD x = .tuple [.str a, .str b, numD c] := by
              unfold markInD
              rw [hs]
              show (if _ then PyData.none else if isMarkD _ = true then _ else _) = _
              rw [if_neg h1, if_pos hb2]
            rw [e6]
            exact vd_var (i := 2) rfl p4
          · have e6 : markInD x = .none := by
              unfold markInD
              rw [hs]
              show (if _ then PyData.none else if isMarkD _ = true then _ else _) = _
              rw [if_neg h1, if_neg (by rw [hb2]; decide)]
            rw [e6]
            exact vd_non
      | [], p2, hp3, ln => exact x_when (S := S) (b := true) i2 (vt_or (a := true) (b := false) (vt_test ((ln _ (Ex.refl _)).is (by simp))) fun z => nomatch z) (fun _ H3 i3 e3 => none_ H3 i3 e3 (by unfold markInD; rw [hs]; rfl)) (fun z => nomatch z)
      | [_], p2, hp3, ln => exact x_when (S := S) (b := true) i2 (vt_or (a := true) (b := false) (vt_test ((ln _ (Ex.refl _)).is (by simp))) fun z => nomatch z) (fun _ H3 i3 e3 => none_ H3 i3 e3 (by unfold markInD; rw [hs]; rfl)) (fun z => nomatch z)
      | [_, _], p2, hp3, ln => exact x_when (S := S) (b := true) i2 (vt_or (a := true) (b := false) (vt_test ((ln _ (Ex.refl _)).is (by simp))) fun z => nomatch z) (fun _ H3 i3 e3 => none_ H3 i3 e3 (by unfold markInD; rw [hs]; rfl)) (fun z => nomatch z)
      | _ :: _ :: _ :: _ :: r, p2, hp3, ln => exact x_when (S := S) (b := true) i2 (vt_or (a := true) (b := false) (vt_test ((ln _ (Ex.refl _)).is (by simp; omega))) fun z => nomatch z) (fun _ H3 i3 e3 => none_ H3 i3 e3 (by unfold markInD; rw [hs]; rfl)) (fun z => nomatch z)
theorem sc_parse_name : FnScope ["text", "marks", "part"] ["text"] (defScope s_parse_name) := ⟨rfl, rfl, rfl, by decide +kernel, rfl, by decide +kernel, by decide +kernel⟩
def ErrS (S : Wv) (C : Addr) (v : V) (H : Hp) (E : XK) : Prop := ∀ dx H', S.I H' → Ex (S.vw H) (S.vw H') → S.vw H' dx = some (.xd [("value", v)]) → E (.ref C) (some dx) H'
theorem err_s {S : Wv} {C : Addr} {v : V} {H H1 : Hp} {E : XK} (i : S.I H1) (e : Ex (S.vw H) (S.vw H1)) (k : ErrS S C v H E) : ErrX C v H1 E := fun dx H' e' n' hx => k dx H' (S.up i e').1 (e.trans (S.up i e').2) (S.see i n' e' hx (fun _ z => nomatch z))
def spPN (K : PySem.W.Frag) : Sp := fun vs H Q E => ∃ S : Wv, S.I H ∧ ∃ (v : V) (d : PyData), vs = [v] ∧ Dd K (S.vw H) v d ∧ szB d = true ∧ (∀ x, d = .str x → x.length ≤ 40000) ∧
  (∀ ms, parseD d = some ms → ∀ u H', S.I H' → Ex (S.vw H) (S.vw H') → Dd K (S.vw H') u (.tuple ms) → Q u H') ∧ (parseD d = none → ErrS S (CIN K) v H E)
theorem err_up {C : Addr} {v : V} {H H1 : Hp} {E : XK} (e : Ex H H1) (h : ErrX C v H E) : ErrX C v H1 E := fun dx H' e' n' hx => h dx H' (e.trans e') (fresh_back e n') hx
theorem ok_parse_name (F : FD K d_parse_name f fd) (T : Txt K mg) (c1 : Cal1 P w K mg base "mark_in" 3 ["text"] (spO K markInD)) {fi : FuncData} (Gini : FnOk P w K mg base CX0 1 (ma K (CIN K) "__init__") fi ["self", "value"] (spI1 (CIN K) "value")) (bini : Binds K fi ["self", "value"] []) :
    FnOk P w K mg base (CX P w) 4 f fd ["text"] (spPN K) := by
  obtain ⟨_, kmark_in, bmark_in, Gmark_in⟩ := c1
  refine F.ok (CX := CX P w) sc_parse_name (fun vs H Q E h => ?_) (fun cdv A outer s H vs Q E hr h => ?_)
  · obtain ⟨S, i, v, d, rfl, _⟩ := h
    rfl
  · obtain ⟨S, iH, v, d, rfl, hd, hz, h40, k, kx⟩ := h
    refine ⟨_, (pss_cons (ps_if (pt_not (pt_val (pe_callB call_isi (by rfl) T.f_isinstance bo_isi (pa_cons (pv 0) (pa_cons (pe_bltn (v := .ty "str") (by rfl) T.f_str bo_str rfl) pa_nil))))) (pss_one (ps_raise rfl (takes_of rfl rfl rfl rfl) (pmk_oex T.o_InvalidName T.i_InvalidName.1 T.i_InvalidName.2 Gini (hr.mono (by decide)) bini .nil pass0 rfl T.g_InvalidName (pa_cons (pv 0) pa_nil)))) pss_nil) (pss_cons (ps_if (pt_cmpR op_eq (pv 0) pe_str (nomark _)) (pss_one (ps_ret (pe_tup pa_nil))) pss_nil) (pss_cons (ps_setLc (i := 1) (own := [("part", 2)]) (g := gName 2) (by rfl) sc_parse_name.nd rfl rfl (sw_true rfl rfl rfl (by decide +kernel)) (pi_list (pe_split (pv 0) pe_str)) (blkOk_by (own := [("part", 2)]) (N := ["text", "marks", "part"]) (sc := defScope s_parse_name) (by decide +kernel)) (fun _ _ _ _ _ => pg_name (i := 2) sc_parse_name.nd rfl (Or.inl rfl)) (fun _ _ _ _ _ => pts_nil) (fun _ _ _ _ _ => (pe_call Gmark_in (hr.mono (by decide)) rfl T.g_mark_in kmark_in bmark_in .nil pass0 (pa_cons (pv 2) pa_nil)))) (pss_cons (ps_if (pt_cmpR (op_inD (u65 hr)) pe_non (pv 1) rfl) (pss_one (ps_raise rfl (takes_of rfl rfl rfl rfl) (pmk_oex T.o_InvalidName T.i_InvalidName.1 T.i_InvalidName.2 Gini (hr.mono (by decide)) bini .nil pass0 rfl T.g_InvalidName (pa_cons (pv 0) pa_nil)))) pss_nil) (pss_one (ps_ret (pe_callTy call_tuple_of (by rfl) T.f_tuple bo_tuple (pa_cons (pv 1) pa_nil)))))))), ?_⟩
    cases d with
    | str x =>
      cases hd
      have hx : x.length ≤ 100000 := of_decide_eq_true hz
      have hx4 : x.length ≤ 40000 := h40 x rfl
      refine x_when (S := S) (b := false) iH (vt_not (b := true) (vt_B (v_isi (K := K) (is_str (v_var rfl)) (kStr_ok (.str x))))) (fun z => nomatch z) (fun _ H1 i1 e1 => ?_)
      refine x_when (S := S) i1 (vt_test (v_eq (v_var rfl) v_c rfl)) (fun hb H2 i2 e2 => ?_) (fun hb H2 i2 e2 => ?_)
      · have hx0 : x = ("/" : Str) := by
          have z := of_decide_eq_true hb
          injection z
        refine x_ret (S := S) (P := DV K (.tuple [])) i2 (vd_tup vd_nil (by simp)) fun v3 H3 i3 e3 p3 => k [] ?_ v3 H3 i3 ((e1.trans e2).trans e3) p3
        show parseS x = _
        unfold parseS
        rw [if_pos hx0]
      · have hx0 : ¬ x = ("/" : Str) := fun z => by
          rw [z] at hb
          exact absurd hb (by decide)
        have pS : parseS x = if ((Txt.split x "+").map markInD).any isNo = true then none else some ((Txt.split x "+").map markInD) := by
          unfold parseS
          rw [if_neg hx0]
        have hp := parts_n x
        refine x_asgq (S := S) (P := DV K (.list ((Txt.split x "+").map markInD))) i2 ((v_strsL (K := K) (E := fun y => DV K (markInD y)) (v_split (v_var rfl) v_c rfl hx) (by omega) (fun _ => mono_dv _) (j := 2) (vs := [2]) (fun _ => rfl) fun S' y h1 hm e => v_spO (v_var rfl) (Nat.le_trans (part_le2 hm) hx)).imp fun v h1 _ p => MeE.dv_lst (by rw [List.map_map]; exact p)) fun v3 H3 i3 e3 p3 => ?_
        refine x_when (S := S) i3 (vt_test (v_inNo (vd_var (i := 1) rfl p3) (marks_shape _))) (fun hb2 H4 i4 e4 => ?_) (fun hb2 H4 i4 e4 => ?_)
        · rw [marks_any] at hb2
          refine mk_err rfl (err_s i4 ((e1.trans e2).trans (e3.trans e4)) (kx ?_))
          show parseS x = _
          rw [pS, if_pos hb2]
        · rw [marks_any] at hb2
          refine x_ret (S := S) i4 (v_tupOf (vd_var (i := 1) rfl (MeE.Dd.up e4 p3))) fun v5 H5 i5 e5 p5 => k _ ?_ v5 H5 i5 ((e1.trans e2).trans ((e3.trans e4).trans e5)) p5
          show parseS x = _
          rw [pS, if_neg (by rw [hb2]; decide)]
    | _ => exact x_when (S := S) (b := true) iH (vt_not (b := false) (vt_B (v_isi (vd_var rfl hd) (kStr_ok _)))) (fun _ H1 i1 e1 => mk_err rfl (err_s i1 e1 (kx rfl))) (fun z => nomatch z)
end
end K03
set_option Elab.async false
set_option linter.all false
set_option maxRecDepth 100000
set_option maxHeartbeats 4000000
set_option pp.maxSteps 600
set_option pp.deepTerms false
namespace K03
open PySem PySem.Spec PyProof.Rows L2 He MeH MeG MeK Evl MeV MeL TL
open MeE (VP Mono Is All MonoL Lst Tup mono_is monoL_nil monoL_cons monoL_app mono_lst mono_tup DP DV mono_dp mono_dv mono_dvs mono_dps spI1 XV)

section
variable {P : Program} {w : World} {K : PySem.W.Frag} {mg : Str → Option Value} {base : Heap} {f : Addr} {fd : FuncData}
theorem row3 {H : Hp} {v : V} {l s : Str} {n : Int} (h : Dd K H v (.tuple [.str l, .str s, .int n])) : ∃ a, v = .ref a ∧ SqT K H a [.str l, .str s, .int n] := by
  cases h with
  | @tup a xs _ hs ha =>
    cases ha with
    | cons q1 ha =>
      cases ha with
      | cons q2 ha =>
        cases ha with
        | cons q3 ha =>
          cases ha
          cases q1
          cases q2
          cases q3
          exact ⟨a, rfl, hs⟩
def NmOk (d : PyData) : Prop := isNameD d = true ∧ ∀ ds, d = .tuple ds → ds.length ≤ 1000
theorem sc__law_text : FnScope ["_law_name_here", "_law_parts", "_law_level", "_law_source", "_law_number"] ["_law_name_here"] (defScope s__law_text) := ⟨rfl, rfl, rfl, by decide +kernel, rfl, by decide +kernel, by decide +kernel⟩
theorem ok_law_text (F : FD K d__law_text f fd) (T : Txt K mg) : FnOk P w K mg base CX0 1 f fd ["_law_name_here"] (spD K NmOk fun d => .str (nameT d)) := by
  refine F.ok sc__law_text (fun vs H Q E h => ?_) (fun cdv A outer s H vs Q E hr h => ?_)
  · obtain ⟨v, d, rfl, _⟩ := h
    rfl
  · obtain ⟨v, d, rfl, hd, hN, k⟩ := h
    refine ⟨_, PSs.nox (pss_cons (ps_set (i := 1) sc__law_text.nd rfl (Or.inl rfl) (pe_lst pa_nil)) (pss_cons (ps_for PassesOwn.never rfl (pi_tup (pv 0)) (pg_tup rfl (pgs_cons (pg_name (i := 2) sc__law_text.nd rfl (Or.inl rfl)) (pgs_cons (pg_name (i := 3) sc__law_text.nd rfl (Or.inl rfl)) (pgs_cons (pg_name (i := 4) sc__law_text.nd rfl (Or.inl rfl)) pgs_nil)))) (pss_one (ps_expr (pe_bm PySem.F.plainAttrs_list PySem.F.slot_list_append PySem.F.type_list_append mt_append (pv 1) (pa_cons (pe_ifExp (pt_cmpR op_eq (pv 3) pe_str (nomark _)) (pe_op op_add_str (pe_op op_add_str (pv 2) pe_str) (pe_callTy call_str_int (by rfl) T.f_str bo_str (pa_cons (pv 4) pa_nil))) (pe_op op_add_str (pe_op op_add_str (pe_op op_add_str (pe_op op_add_str (pv 2) pe_str) (pv 3)) pe_str) (pe_callTy call_str_int (by rfl) T.f_str bo_str (pa_cons (pv 4) pa_nil)))) pa_nil))))) (pss_one (ps_ret (pe_orT (pe_join pe_str (pv 1)) (pe_one pe_str)))))), ?_⟩
    match d, hd, hN, k with
    | .tuple ds, hd, hN, k =>
      have hl := hN.2 ds rfl
      have hm : ∀ d ∈ ds, isMarkD d = true := fun d h => List.all_eq_true.mp hN.1 d h
      refine x_newL (S := idW) (i := 1) (H := H) trivial va_nil monoL_nil (by simp) fun p xs H1 j1 ej n1 ax => ?_
      have hx : xs = [] := by
        cases xs with
        | nil => rfl
        | cons a r => exact ax.elim
      subst hx
      show tSeq (tFor _ _ _) _ _ [some v, some (.ref p), none, none, none] H1
      refine x_forq (S := idW.lst p []) (S2 := idW.hid p) rfl (fun _ i => lst_hid i) j1 (vi_dvT (K := K) (vd_var (i := 0) rfl (MeE.Dd.up ej hd))) (fun i σ' H' => (idW.lst p ((ds.take i).map fun d => V.str (markTD d))).I H' ∧ ∃ o1 o2 o3, σ' = [some v, some (.ref p), o1, o2, o3])
        (fun i σ' H1 H2 _ _ e ⟨a, c⟩ => ⟨(Wv.up _ a e).1, c⟩) (fun H' i' e' => ⟨i', none, none, none, rfl⟩) ?turn ?done
      case turn =>
        intro i x σ' H' hi i1 e1 hx hP N hN
        obtain ⟨hP, o1, o2, o3, rfl⟩ := hP
        obtain ⟨d, h1, h2⟩ := hx
        obtain ⟨l, s, n, rfl, m1, m2, m3, m4⟩ := mark_inv (hm d (List.mem_of_getElem? h1))
        obtain ⟨a, rfl, hs⟩ := row3 h2
        refine ⟨a, _, rfl, ex_t (Wv.sub (idW.lst p []) H') hs, rfl, _, _, rfl, _, _, rfl, _, _, rfl, rfl, ?_⟩
        dsimp only
        show tDrop _ _ [some v, some (.ref p), some (V.str l), some (V.str s), some (V.int n)] H'
        have z1 := (word_len m1).2
        have z2 := src_len m2
        have z4 : (toString n : Str).length ≤ 19 := num_len m3 m4
        have zd := dot_len
        have lo := num_log m3 m4
        have ht : ds.take (i + 1) = ds.take i ++ [.tuple [.str l, .str s, .int n]] := by
          have hlt := (List.getElem?_eq_some_iff.mp h1).1
          rw [List.take_succ, h1]
          rfl
        refine x_app (S := idW) (P := Is (.str (markT l s n))) hP rfl (v_if (vt_test (v_eq (v_var rfl) v_c rfl)) (fun hb => ?_) (fun hb => ?_)) ?_ fun y H2 i2 e2 p2 => hN _ _ (lst_hid i2) e2 ⟨?_, _, _, _, rfl⟩
        · have hs0 : s = ("" : Str) := by
            have z := of_decide_eq_true hb
            injection z
          refine (v_addS (v_addS (v_var (v := .str l) rfl) v_c (by omega)) (v_strI (v_var (v := .int n) rfl) lo) (by rw [len_app]; omega)).is ?_
          unfold markT
          rw [if_pos hs0]
        · have hs0 : ¬ s = ("" : Str) := fun z => by
            rw [z] at hb
            exact absurd hb (by decide)
          refine (v_addS (v_addS (v_addS (v_addS (v_var (v := .str l) rfl) v_c (by omega)) (v_var (v := .str s) rfl) (by rw [len_app]; omega)) v_c (by rw [len_app, len_app]; omega)) (v_strI (v_var (v := .int n) rfl) lo) (by rw [len_app, len_app, len_app]; omega)).is ?_
          unfold markT
          rw [if_neg hs0]
        · rw [List.length_map]
          have := List.length_take_le i ds
          have h9 : (ds.take i).length ≤ ds.length := by rw [List.length_take]; omega
          omega
        · have p2' : y = .str (markT l s n) := p2
          subst p2'
          rw [ht, List.map_append]
          exact i2
      case done =>
        intro σ' H' i1 e1 hP
        obtain ⟨hP, o1, o2, o3, rfl⟩ := hP
        rw [List.take_length] at hP
        have hs := names_sum hN.1 hl
        have hj : (Txt.join "+" (ds.map markTD)).length ≤ 100000 := Nat.le_trans (join_len _ _) hs
        have hq : H' p = some (.lst ((ds.map markTD).map V.str)) := by
          rw [List.map_map]
          exact lst_at hP
        refine r_id (H0 := H) ?_ (v_orS (v_join (ys := ds.map markTD) v_c ((v_var (v := .ref p) rfl).isP (mono_LS _) ⟨p, _, rfl, hq, str_all _⟩) hs) v_c hj) rfl k
        exact (ej.trans e1).trans (Wv.sub (idW.lst p []) H')

/-! signs that are left over -/
def sgn (c : Nat) : PyData := .str ⟨#[c]⟩
theorem giv_signs {a : Array Nat} {q : Nat → Bool} {E : Nat → VP} : givP a.size (fun i => q (a.getD i 0)) (fun i => E (a.getD i 0)) = (a.toList.filter q).map E := by
  have h := map_getD a (fun c => c)
  rw [List.map_id'] at h
  rw [← h, List.filter_map, List.map_map]
  rfl
theorem sgns_lay : ∀ {l : List Nat}, (∀ c ∈ l, c < 0x110000) → PyData.canLayAll0 (l.map sgn) = true ∧ PyData.depthAll (l.map sgn) = 0
  | [], _ => ⟨rfl, rfl⟩
  | c :: l, h => by
    obtain ⟨h1, h2⟩ := sgns_lay (l := l) fun d hd => h d (List.mem_cons_of_mem _ hd)
    have h3 : PyData.canLay0 (sgn c) = true := by
      show (#[c] : Array Nat).all _ = true
      rw [← Array.all_toList]
      simpa using h c List.mem_cons_self
    refine ⟨?_, ?_⟩
    · show (PyData.canLay0 (sgn c) && PyData.canLayAll0 (l.map sgn)) = true
      rw [h1, h3]
      rfl
    · show max (PyData.depth (sgn c)) (PyData.depthAll (l.map sgn)) = 0
      rw [h2]
      rfl
theorem shape_of {ds : List PyData} (h1 : PyData.canLayAll0 ds = true) (h2 : PyData.depthAll ds ≤ 60) : SeqAt.shaped (.list ds) = true := by
  have h3 : PyData.canLay0 (.list ds) = true := h1
  have h4 : PyData.depth (.list ds) ≤ 64 := by
    show PyData.depthAll ds + 1 ≤ 64
    omega
  unfold SeqAt.shaped
  rw [h3, decide_eq_true h4]
  rfl
theorem eqv_nil : ∀ ds : List PyData, PyData.eqv (.list ds) (.list []) = ds.isEmpty
  | [] => rfl
  | _ :: _ => rfl
theorem str_cps {x : Str} (h : PyData.canLay0 (.str x) = true) : ∀ c ∈ x.cps.toList, c < 0x110000 := fun c hc => by
  have h1 : x.cps.all _ = true := h
  rw [← Array.all_toList] at h1
  exact of_decide_eq_true (List.all_eq_true.mp h1 c hc)
/-- [sign for sign in text if sign not in these] == [] -/
theorem v_left {S : Wv} {σ : L2.St} {h : Hp} {ta : TE} {z : Str} {j : Nat} {vs : List Nat} {tt : TT} {q : Nat → Bool} (g : Gv S ta σ h (Is (.str z))) (hz : z.cps.size ≤ 50000) (hc : PyData.canLay0 (.str z) = true) (hw : ∀ x, wipe ((wipe σ vs).set j (some x)) vs = wipe σ vs)
    (hj : ∀ x, ((wipe σ vs).set j (some x))[j]? = some (some x))
    (ht : ∀ (S' : Wv) (c : Nat) (h1 : Hp), GvT S' tt ((wipe σ vs).set j (some (.str ⟨#[c]⟩))) h1 (q c)) : Gv S (tOp (rEqD K) (tLc (iStr ta) (gName j) tt (tVar j) vs) (tLst tNil)) σ h (Is (.bl (z.cps.toList.filter q).isEmpty)) := by
  have k := v_lc (S := S) (t := tt) (te := tVar j) (fun i => q (z.cps.getD i 0)) (fun i => DV K (sgn (z.cps.getD i 0))) (vi_str g) hz (fun _ _ => mono_dv _) hw (fun Dl acc i x h1 hi e hx => by
      obtain ⟨c, h2, rfl⟩ := hx
      have e2 : z.cps.getD i 0 = c := by simp [Array.getD, hi, Array.getElem_eq_iff.mpr h2]
      rw [e2]
      exact ht _ c h1) (fun Dl acc i x h1 hi e hx _ => by
      obtain ⟨c, h2, rfl⟩ := hx
      have e2 : z.cps.getD i 0 = c := by simp [Array.getD, hi, Array.getElem_eq_iff.mpr h2]
      rw [e2]
      exact vd_var (hj _) (Dd.str _)) (fun _ _ _ _ _ x => x)
  rw [giv_signs (E := fun c => DV K (sgn c))] at k
  have k2 : Gv S (tLc (iStr ta) (gName j) tt (tVar j) vs) σ h (DV K (.list ((z.cps.toList.filter q).map sgn))) := k.imp fun v h1 _ p => MeE.dv_lst (by rw [List.map_map]; exact p)
  obtain ⟨l1, l2⟩ := sgns_lay (l := z.cps.toList.filter q) fun c hc' => str_cps hc c (List.mem_filter.mp hc').1
  have k3 := v_eqD (K := K) dp_of k2 (vd_lst (ds := []) vd_nil (by simp)) (shape_of l1 (by omega)) rfl
  refine k3.is ?_
  rw [eqv_nil, List.isEmpty_map]
theorem none_left {l : List Nat} {p : Nat → Bool} : (l.filter fun c => !p c).isEmpty = l.all p := by
  induction l with
  | nil => rfl
  | cons a r ih =>
    rw [List.all_cons, List.filter_cons]
    cases h : p a with
    | true => simpa using ih
    | false => rfl
def StrC (d : PyData) : Prop := ∃ x : Str, d = .str x ∧ x.length ≤ 100000 ∧ PyData.canLay0 d = true
theorem sc__law_is_word : FnScope ["_law_thing", "_law_sign"] ["_law_thing"] (defScope s__law_is_word) := ⟨rfl, rfl, rfl, by decide +kernel, rfl, by decide +kernel, by decide +kernel⟩
theorem ok_law_is_word (F : FD K d__law_is_word f fd) (T : Txt K mg) : FnOk P w K mg base CX0 1 f fd ["_law_thing"] (spD K StrC fun d => .bl (isWordD d)) := by
  refine F.ok sc__law_is_word (fun vs H Q E h => ?_) (fun cdv A outer s H vs Q E hr h => ?_)
  · obtain ⟨v, d, rfl, _⟩ := h
    rfl
  · obtain ⟨v, d, rfl, hd, ⟨x, rfl, hx, hc⟩, k⟩ := h
    refine ⟨_, PSs.nox (pss_cons (ps_if (PW.pt (pw_or (pt_not (pt_val (pe_callB call_isi (by rfl) T.f_isinstance bo_isi (pa_cons (pv 0) (pa_cons (pe_bltn (v := .ty "str") (by rfl) T.f_str bo_str rfl) pa_nil))))) (pw_or (pt_cmpR op_lt (pe_callB call_len_str (by rfl) T.f_len PySem.boot_len (pa_cons (pv 0) pa_nil)) pe_int (nomark _)) (pw_or1 (pt_cmpR op_gt (pe_callB call_len_str (by rfl) T.f_len PySem.boot_len (pa_cons (pv 0) pa_nil)) pe_int (nomark _)))))) (pss_one (ps_ret pe_bl)) pss_nil) (pss_one (ps_ret (pe_cmpR (op_eqD hr.units) (pe_lc (own := [("_law_sign", 1)]) (g := gName 1) (by rfl) sc__law_is_word.nd (pi_str (pv 0)) (blkOk_by (own := [("_law_sign", 1)]) (N := ["_law_thing", "_law_sign"]) (sc := defScope s__law_is_word) (by decide +kernel)) (fun _ _ _ _ _ => pg_name (i := 1) sc__law_is_word.nd rfl (Or.inl rfl)) (fun _ _ _ _ _ => (pts_one (pt_cmpR op_notIn_sign (pv 1) pe_str rfl))) (fun _ _ _ _ _ => (pv 1))) (pe_lst pa_nil) (nomark _))))), ?_⟩
    have gx : ∀ (S : Wv) (h1 : Hp), Ex H h1 → Gv S (tVar 0) (start ["_law_thing", "_law_sign"] [v]) h1 (Is (.str x)) := fun _ _ e => dv_str (vd_var (K := K) (i := 0) rfl (MeE.Dd.up e hd))
    refine x_when (S := idW) (b := !(decide ((1 : Int) ≤ (x.length : Nat)) && decide (((x.length : Nat) : Int) ≤ 8))) trivial ((vt_or (a := false) (vt_not (b := true) (vt_B (v_isi (vd_var rfl hd) (kStr_ok _)))) fun _ => vt_or (vt_test (v_opV (v_lenS (gx _ _ (Ex.refl _)) hx) v_c rv_I0)) fun _ => vt_test (v_opV (v_lenS (gx _ _ (Ex.refl _)) hx) v_c rv_I0)).is ?_) (fun hb H1 _ e1 => ?_) (fun hb H1 _ e1 => ?_)
    · show (false || (decide (((x.length : Nat) : Int) < 1) || decide ((8 : Int) < ((x.length : Nat) : Int)))) = _
      by_cases h1 : (1 : Int) ≤ (x.length : Nat) <;> by_cases h2 : ((x.length : Nat) : Int) ≤ 8 <;> simp [h1, h2] <;> omega
    · refine r_id e1 v_c ?_ k
      show V.bl false = V.bl (isWordS x)
      unfold isWordS
      have h1 : (decide ((1 : Int) ≤ (x.length : Nat)) && decide (((x.length : Nat) : Int) ≤ 8)) = false := by
        simp at hb ⊢
        omega
      rw [h1]
      rfl
    · have h8 : (decide ((1 : Int) ≤ (x.length : Nat)) && decide (((x.length : Nat) : Int) ≤ 8)) = true := by simpa using hb
      have hz : x.cps.size ≤ 50000 := by
        have h9 := of_decide_eq_true (Bool.and_eq_true_iff.mp h8).2
        have e9 : x.length = x.cps.size := rfl
        omega
      refine r_id e1 (v_left (q := fun c => !isLet c) (j := 1) (vs := [1]) (gx _ _ e1) hz hc (fun _ => rfl) (fun _ => rfl) fun S' c h1 => vt_test (v_ninS (v_var rfl) v_c)) ?_ k
      show V.bl _ = V.bl (isWordS x)
      unfold isWordS
      rw [h8, none_left]
      rfl
theorem sc__law_is_mark : FnScope ["_law_thing"] ["_law_thing"] (defScope s__law_is_mark) := ⟨rfl, rfl, rfl, by decide +kernel, rfl, by decide +kernel, by decide +kernel⟩
def MkC (d : PyData) : Prop := ∃ (a b : Str) (n : Int), d = .tuple [.str a, .str b, .int n] ∧ StrC (.str a) ∧ StrC (.str b)
theorem ok_law_is_mark (F : FD K d__law_is_mark f fd) (T : Txt K mg) (c1 : Cal1 P w K mg base "_law_is_word" 1 ["_law_thing"] (spD K StrC fun d => .bl (isWordD d))) : FnOk P w K mg base CX0 2 f fd ["_law_thing"] (spD K MkC fun d => .bl (isMarkD d)) := by
  obtain ⟨_, k_law_is_word, b_law_is_word, G_law_is_word⟩ := c1
  refine F.ok sc__law_is_mark (fun vs H Q E h => ?_) (fun cdv A outer s H vs Q E hr h => ?_)
  · obtain ⟨v, d, rfl, _⟩ := h
    rfl
  · obtain ⟨v, d, rfl, hd, ⟨a, b, n, rfl, ca, cb⟩, k⟩ := h
    refine ⟨_, PSs.nox (pss_cons (ps_if (PW.pt (pw_or (pt_not (pt_val (pe_callB call_isi (by rfl) T.f_isinstance bo_isi (pa_cons (pv 0) (pa_cons (pe_bltn (v := .ty "tuple") (by rfl) T.f_tuple bo_tuple rfl) pa_nil))))) (pw_or (pt_cmpR op_ne (pe_callB call_len_seq (by rfl) T.f_len PySem.boot_len (pa_cons (pv 0) pa_nil)) pe_int (nomark _)) (pw_or1 (pt_not (pt_val (pe_call G_law_is_word (hr.mono (by decide)) rfl T.g__law_is_word k_law_is_word b_law_is_word .nil pass0 (pa_cons (pe_ix ix_tup (pv 0) pe_int (fun _ _ => rfl)) pa_nil)))))))) (pss_one (ps_ret pe_bl)) pss_nil) (pss_cons (ps_if (PW.pt (pw_or (pt_not (pt_val (pe_callB call_isi (by rfl) T.f_isinstance bo_isi (pa_cons (pe_ix ix_tup (pv 0) pe_int (fun _ _ => rfl)) (pa_cons (pe_bltn (v := .ty "str") (by rfl) T.f_str bo_str rfl) pa_nil))))) (pw_or1 (PW.pt (pw_and (pt_cmpR op_ne (pe_ix ix_tup (pv 0) pe_int (fun _ _ => rfl)) pe_str (nomark _)) (pw_and1 (pt_not (pt_val (pe_call G_law_is_word (hr.mono (by decide)) rfl T.g__law_is_word k_law_is_word b_law_is_word .nil pass0 (pa_cons (pe_ix ix_tup (pv 0) pe_int (fun _ _ => rfl)) pa_nil)))))))))) (pss_one (ps_ret pe_bl)) pss_nil) (pss_one (ps_ret (pe_and (pe_callB call_isi (by rfl) T.f_isinstance bo_isi (pa_cons (pe_ix ix_tup (pv 0) pe_int (fun _ _ => rfl)) (pa_cons (pe_bltn (v := .ty "int") (by rfl) T.f_int bo_int rfl) pa_nil))) (pe_and (pe_not (pe_callB call_isi (by rfl) T.f_isinstance bo_isi (pa_cons (pe_ix ix_tup (pv 0) pe_int (fun _ _ => rfl)) (pa_cons (pe_bltn (v := .ty "bool") (by rfl) T.f_bool bo_bool rfl) pa_nil)))) (pe_one (pe_chain op_le op_le pe_int (pe_ix ix_tup (pv 0) pe_int (fun _ _ => rfl)) (pe_op op_pow pe_int pe_int))))))))), ?_⟩
    have gi : ∀ (h1 : Hp) (j : Nat) (e : PyData), Ex H h1 → [PyData.str a, .str b, .int n][j]? = some e → Gv idW (tOp (rIxT K) (tVar 0) (tC (.int (j : Nat)))) (start ["_law_thing"] [v]) h1 (DV K e) := fun h1 j e e1 hj => v_ixT (vd_var rfl (MeE.Dd.up e1 hd)) v_c hj
    refine x_when (S := idW) trivial (vt_or (a := false) (vt_not (b := true) (vt_B (v_isi (vd_var rfl hd) (kTup_ok _)))) fun _ => vt_or (a := false) (vt_test ((v_ne (v_lenT (vd_var rfl hd)) v_c rfl).is (by simp))) fun _ => vt_not (vt_B (v_spD (gi _ 0 _ (Ex.refl _) rfl) ca))) (fun hb H1 _ e1 => ?_) (fun hb H1 _ e1 => ?_)
    · refine r_id e1 v_c ?_ k
      have hw : isWordD (.str a) = false := by simpa using hb
      show V.bl false = V.bl (isWordD (.str a) && _)
      rw [hw]
      rfl
    · have hw : isWordD (.str a) = true := by simpa using hb
      refine x_when (S := idW) trivial (vt_or (a := false) (vt_not (b := true) (vt_B (v_isi (gi _ 1 _ e1 rfl) (kStr_ok _)))) fun _ => vt_and (vt_test (v_ne (dv_str (gi _ 1 _ e1 rfl)) v_c rfl)) fun _ => vt_not (vt_B (v_spD (gi _ 1 _ e1 rfl) cb))) (fun hb2 H2 _ e2 => ?_) (fun hb2 H2 _ e2 => ?_)
      · refine r_id (e1.trans e2) v_c ?_ k
        have hs : okSrc (.str b) = false := by
          have hb3 : (!decide (V.str b = V.str ("" : Str))) = true ∧ (!isWordS b) = true := by
            have e0 : isWordD (.str b) = isWordS b := rfl
            rw [← e0]
            simpa using hb2
          have h4 : ¬ b = ("" : Str) := fun z => by
            rw [z] at hb3
            simp at hb3
          show (decide (b = ("" : Str)) || isWordS b) = false
          rw [decide_eq_false h4]
          simpa using hb3.2
        show V.bl false = V.bl (isWordD (.str a) && (okSrc (.str b) && okNum (.int n)))
        rw [hs, hw]
        rfl
      · have hs : okSrc (.str b) = true := by
          show (decide (b = ("" : Str)) || isWordS b) = true
          by_cases h4 : b = ("" : Str)
          · rw [decide_eq_true h4]
            rfl
          · have h5 : isWordS b = true := by
              have h6 : ¬ V.str b = V.str ("" : Str) := fun z => h4 (by injection z)
              have h7 : isWordD (.str b) = isWordS b := rfl
              simpa [h6, h7] using hb2
            rw [h5]
            simp
        have e3 := e1.trans e2
        refine r_id e3 (v_andV (a := true) (v_isi (gi _ 2 _ e3 rfl) (kInt_ok _)) fun _ => v_andV (a := true) (v_notV (b := false) (v_isi (gi _ 2 _ e3 rfl) (kBool_ok _))) fun _ => v_le2 v_c (dv_int (gi _ 2 _ e3 rfl)) (v_opV v_c v_c (rv_I ⟨by decide, by decide, by decide⟩))) ?_ k
        show _ = V.bl (isWordD (.str a) && (okSrc (.str b) && okNum (.int n)))
        rw [hs, hw]
        rfl
end
end K03
set_option Elab.async false
set_option linter.all false
set_option maxRecDepth 100000
set_option maxHeartbeats 4000000
set_option pp.maxSteps 600
set_option pp.deepTerms false
namespace K03
open PySem PySem.Spec PyProof.Rows L2 He MeH MeG MeK Evl MeV MeL TL PySem.Builtin PySem.Builtin.Str PySem.StrLaws
open MeE (VP Mono Is All MonoL Lst Tup mono_is monoL_nil monoL_cons monoL_app mono_lst mono_tup DP DV mono_dp mono_dv mono_dvs mono_dps spI1 XV)

/-! the law's own parse, in plain words -/
def numI (c : Str) : Int := (NumText.digitsVal c.cps.toList : Nat)
def rawOf (a b c : Str) : Option PyData := if numOk c = true then some (.tuple [.str a, .str b, .int (numI c)]) else none
def rawL : List Str → Option PyData
  | [a, c] => rawOf a "" c
  | [a, b, c] => if b = ("" : Str) then none else rawOf a b c
  | _ => none
def rawIn (y : Str) : Option PyData := rawL (Txt.split y ".")
def markO : Option PyData → PyData
  | some d => if isMarkD d = true then d else .none
  | none => .none
def resD (x : Str) : PyData := match parseS x with
  | some ms => .tuple ms
  | none => .none
theorem from_len (x : Str) (k : Nat) : ∀ (cuts : List Nat) (a : Nat), (partsFrom x k a cuts).length = cuts.length + 1
  | [], _ => rfl
  | c :: r, a => by
    show (strSub x a c :: partsFrom x k (c + k) r).length = _
    rw [List.length_cons, from_len x k r, List.length_cons]
theorem count_split (x : Str) : Txt.count x "." + 1 = ((Txt.split x ".").length : Nat) := by
  have hy : tl (("." : Str)) ≠ [] := by rw [tl_dot]; simp
  obtain ⟨f, g, hn⟩ := occ_tight x "." (len1 hy)
  have key := parts_spl hy _ 0 f (Nat.zero_le _) g hn
  rw [List.drop_zero] at key
  have e1 := split_spl x "." hy (kind_ok (by decide +kernel))
  have e2 : (Txt.split x ".").length = (partsFrom x (("." : Str)).length 0 (Builtin.Str.occurrences x "." 0 x.length (x.length + 1))).length := by
    rw [← List.length_map (f := tl), e1, ← key, List.length_map]
  rw [e2, from_len]
  rfl
theorem mark_num {a b c : Str} : isMarkD (.tuple [.str a, .str b, numD c]) = true → numOk c = true := fun h => by
  cases z : numOk c with
  | true => rfl
  | false =>
    unfold numD at h
    rw [z] at h
    have h1 : (isWordD (.str a) && (okSrc (.str b) && false)) = true := h
    simp at h1
theorem mark3_raw {x a b c : Str} (h : (decide (Txt.count x "." = 2) && decide (b = ("" : Str))) = false) : mark3 x [a, b, c] = markO (rawOf a b c) := by
  show (if (decide (Txt.count x "." = 2) && decide (b = ("" : Str))) = true then PyData.none else if isMarkD (.tuple [.str a, .str b, numD c]) = true then .tuple [.str a, .str b, numD c] else .none) = _
  rw [h, if_neg (by decide)]
  unfold rawOf
  cases z : numOk c with
  | true =>
    have e : numD c = .int (numI c) := by
      unfold numD numI
      rw [z]
      rfl
    rw [e]
    rfl
  | false =>
    rw [if_neg fun q => by
      rw [mark_num q] at z
      cases z]
    rfl
theorem raw_mark (y : Str) : markInD y = markO (rawIn y) := by
  unfold markInD rawIn
  have hc := count_split y
  match hs : Txt.split y ".", hc with
  | [], _ => rfl
  | [_], _ => rfl
  | [a, c], hc =>
    show mark3 y [a, "", c] = markO (rawOf a "" c)
    refine mark3_raw ?_
    have h1 : ¬ Txt.count y "." = 2 := by
      simp at hc
      omega
    rw [decide_eq_false h1]
    rfl
  | [a, b, c], hc =>
    show mark3 y [a, b, c] = markO (if b = ("" : Str) then none else rawOf a b c)
    have h1 : Txt.count y "." = 2 := by
      simp at hc
      omega
    by_cases hb : b = ("" : Str)
    · rw [if_pos hb]
      show (if (decide (Txt.count y "." = 2) && decide (b = ("" : Str))) = true then PyData.none else _) = _
      rw [decide_eq_true h1, decide_eq_true hb]
      rfl
    · rw [if_neg hb]
      refine mark3_raw ?_
      rw [decide_eq_false hb, Bool.and_false]
  | _ :: _ :: _ :: _ :: _, _ => rfl
theorem res_slash {x : Str} (h : x = ("/" : Str)) : resD x = .tuple [] := by
  unfold resD parseS
  rw [if_pos h]
theorem res_none {x y : Str} (h0 : ¬ x = ("/" : Str)) (hy : y ∈ Txt.split x "+") (h : markInD y = .none) : resD x = .none := by
  have h1 : ((Txt.split x "+").map markInD).any isNo = true := List.any_eq_true.mpr ⟨.none, List.mem_map.mpr ⟨y, hy, h⟩, rfl⟩
  unfold resD parseS
  rw [if_neg h0, if_pos h1]
theorem res_all {x : Str} {ds : List PyData} (h0 : ¬ x = ("/" : Str)) (hr : (Txt.split x "+").map rawIn = ds.map some) (hm : ∀ d ∈ ds, isMarkD d = true) : resD x = .tuple ds := by
  have h1 : (Txt.split x "+").map markInD = ds := by
    have e : (Txt.split x "+").map markInD = ((Txt.split x "+").map rawIn).map markO := by
      rw [List.map_map]
      exact List.map_congr_left fun y _ => raw_mark y
    rw [e, hr, List.map_map]
    have e2 : ds.map (markO ∘ some) = ds.map _root_.id := List.map_congr_left fun d hd => by
      show (if isMarkD d = true then d else .none) = d
      rw [if_pos (hm d hd)]
    rw [e2, List.map_id]
  have h2 : (ds.any isNo) = false := by
    cases z : ds.any isNo with
    | false => rfl
    | true =>
      obtain ⟨d, hd, hn⟩ := List.any_eq_true.mp z
      obtain ⟨l, s, n, rfl, _⟩ := mark_inv (hm d hd)
      cases hn
  unfold resD parseS
  rw [if_neg h0, h1, h2]
  rfl
theorem res_bad {x : Str} {ds : List PyData} {d : PyData} (h0 : ¬ x = ("/" : Str)) (hr : (Txt.split x "+").map rawIn = ds.map some) (hd : d ∈ ds) (hm : isMarkD d = false) : resD x = .none := by
  have h1 : some d ∈ (Txt.split x "+").map rawIn := by
    rw [hr]
    exact List.mem_map.mpr ⟨d, hd, rfl⟩
  obtain ⟨y, hy, e⟩ := List.mem_map.mp h1
  refine res_none h0 hy ?_
  rw [raw_mark, e]
  show (if isMarkD d = true then d else .none) = _
  rw [if_neg (by rw [hm]; decide)]
/-! signs of the parts -/
theorem spl_in {S : List Nat} : ∀ (l : List Nat) (k : Nat) (acc p : List Nat), p ∈ spl S k acc l → ∀ c ∈ p, c ∈ acc ∨ c ∈ l
  | [], k, acc, p, h, c, hc => by
    rw [spl_nil] at h
    rw [List.mem_singleton.mp h] at hc
    exact .inl hc
  | a :: r, k + 1, acc, p, h, c, hc => by
    have e : spl S (k + 1) acc (a :: r) = spl S k acc r := rfl
    rw [e] at h
    rcases spl_in r k acc p h c hc with z | z
    · exact .inl z
    · exact .inr (List.mem_cons_of_mem _ z)
  | a :: r, 0, acc, p, h, c, hc => by
    cases hp : pre S (a :: r) with
    | true =>
      rw [spl_hit hp] at h
      rcases List.mem_cons.mp h with rfl | h
      · exact .inl hc
      · rcases spl_in r _ [] p h c hc with z | z
        · cases z
        · exact .inr (List.mem_cons_of_mem _ z)
    | false =>
      rw [spl_miss hp] at h
      rcases spl_in r 0 _ p h c hc with z | z
      · rcases List.mem_append.mp z with z | z
        · exact .inl z
        · rw [List.mem_singleton.mp z]
          exact .inr List.mem_cons_self
      · exact .inr (List.mem_cons_of_mem _ z)
theorem lay_str {p : Str} (h : ∀ c ∈ p.cps.toList, c < 0x110000) : PyData.canLay0 (.str p) = true := by
  show p.cps.all _ = true
  rw [← Array.all_toList]
  exact List.all_eq_true.mpr fun c hc => decide_eq_true (h c hc)
theorem lay_dot {x p : Str} (hx : PyData.canLay0 (.str x) = true) (h : p ∈ Txt.split x ".") : PyData.canLay0 (.str p) = true := lay_str fun c hc => by
  have h1 : tl p ∈ (Txt.split x ".").map tl := List.mem_map.mpr ⟨p, h, rfl⟩
  rw [split_dot] at h1
  rcases spl_in _ _ _ _ h1 c hc with z | z
  · cases z
  · exact str_cps hx c z
theorem lay_plus {x p : Str} (hx : PyData.canLay0 (.str x) = true) (h : p ∈ Txt.split x "+") : PyData.canLay0 (.str p) = true := lay_str fun c hc => by
  have h1 : tl p ∈ (Txt.split x "+").map tl := List.mem_map.mpr ⟨p, h, rfl⟩
  rw [split_plus] at h1
  rcases spl_in _ _ _ _ h1 c hc with z | z
  · cases z
  · exact str_cps hx c z

section
variable {P : Program} {w : World} {K : PySem.W.Frag} {mg : Str → Option Value} {base : Heap} {f : Addr} {fd : FuncData}
def spLP (K : PySem.W.Frag) : Sp := fun vs H Q _ => ∃ S : Wv, S.I H ∧ ∃ x : Str, vs = [.str x] ∧ x.length ≤ 40000 ∧ PyData.canLay0 (.str x) = true ∧ ∀ v H', S.I H' → Ex (S.vw H) (S.vw H') → Dd K (S.vw H') v (resD x) → Q v H'
theorem ddAll_snoc {H : Hp} : ∀ {xs : List V} {ds : List PyData} {y : V} {d : PyData}, DdAll K H xs ds → Dd K H y d → DdAll K H (xs ++ [y]) (ds ++ [d])
  | _, _, _, _, .nil, h => .cons h .nil
  | _, _, _, _, .cons a b, h => .cons a (ddAll_snoc b h)
theorem filt_emp {ds : List PyData} {p : PyData → Bool} : (ds.filter fun d => !p d).isEmpty = ds.all p := by
  induction ds with
  | nil => rfl
  | cons a r ih =>
    rw [List.all_cons, List.filter_cons]
    cases h : p a with
    | true => simpa using ih
    | false => rfl
theorem lay_filter {q : PyData → Bool} : ∀ {ds : List PyData}, PyData.canLayAll0 ds = true → PyData.depthAll ds ≤ 1 → PyData.canLayAll0 (ds.filter q) = true ∧ PyData.depthAll (ds.filter q) ≤ 1
  | [], _, _ => ⟨rfl, Nat.zero_le _⟩
  | d :: ds, h1, h2 => by
    obtain ⟨a1, a2⟩ := Bool.and_eq_true_iff.mp (show (PyData.canLay0 d && PyData.canLayAll0 ds) = true from h1)
    have b : max (PyData.depth d) (PyData.depthAll ds) ≤ 1 := h2
    obtain ⟨c1, c2⟩ := lay_filter (q := q) (ds := ds) a2 (by omega)
    rw [List.filter_cons]
    split
    · refine ⟨?_, ?_⟩
      · show (PyData.canLay0 d && PyData.canLayAll0 (ds.filter q)) = true
        rw [a1, c1]
        rfl
      · show max (PyData.depth d) (PyData.depthAll (ds.filter q)) ≤ 1
        omega
    · exact ⟨c1, c2⟩
theorem giv_data {ds : List PyData} {q : PyData → Bool} {E : PyData → VP} : givP ds.length (fun i => q (ds.getD i .none)) (fun i => E (ds.getD i .none)) = (ds.filter q).map E := by
  have h : (List.range ds.length).map (fun i => ds.getD i .none) = ds := by
    apply List.ext_getElem
    · simp
    · intro i h1 h2
      simp only [List.length_map, List.length_range] at h1
      simp [List.getD_eq_getElem?_getD, h1]
  conv => rhs; rw [← h]
  rw [List.filter_map, List.map_map]
  rfl
def RawC (d : PyData) : Prop := MkC d
theorem raws_lay : ∀ {ds : List PyData}, (∀ d ∈ ds, MkC d) → PyData.canLayAll0 ds = true ∧ PyData.depthAll ds ≤ 1
  | [], _ => ⟨rfl, Nat.zero_le _⟩
  | d :: ds, h => by
    obtain ⟨c1, c2⟩ := raws_lay (ds := ds) fun e he => h e (List.mem_cons_of_mem _ he)
    obtain ⟨a, b, n, rfl, ⟨_, _, _, la⟩, ⟨_, _, _, lb⟩⟩ := h d List.mem_cons_self
    refine ⟨?_, ?_⟩
    · show ((PyData.canLay0 (.str a) && (PyData.canLay0 (.str b) && true)) && PyData.canLayAll0 ds) = true
      rw [la, lb, c1]
      rfl
    · show max 1 (PyData.depthAll ds) ≤ 1
      omega
/-- [one for one in found if not ok(one)] == [] -/
theorem v_bad {S : Wv} {σ : L2.St} {h : Hp} {ta : TE} {ds : List PyData} {j : Nat} {vs : List Nat} {tt : TT} {p : PyData → Bool} (g : Gv S ta σ h (DV K (.list ds))) (hz : ds.length ≤ 50000) (hl : PyData.canLayAll0 ds = true ∧ PyData.depthAll ds ≤ 1) (hw : ∀ x, wipe ((wipe σ vs).set j (some x)) vs = wipe σ vs)
    (hj : ∀ x, ((wipe σ vs).set j (some x))[j]? = some (some x))
    (ht : ∀ (S' : Wv) (x : V) (d : PyData) (h1 : Hp), d ∈ ds → Dd K h1 x d → GvT S' tt ((wipe σ vs).set j (some x)) h1 (!p d)) : Gv S (tOp (rEqD K) (tLc (iList K ta) (gName j) tt (tVar j) vs) (tLst tNil)) σ h (Is (.bl (ds.all p))) := by
  have k := v_lc (S := S) (t := tt) (te := tVar j) (fun i => !p (ds.getD i .none)) (fun i => DV K (ds.getD i .none)) (vi_dvL g) hz (fun _ _ => mono_dv _) hw (fun Dl acc i x h1 hi e hx => by
      obtain ⟨d, h2, h3⟩ := hx
      have e2 : ds.getD i .none = d := by rw [List.getD_eq_getElem?_getD, h2]; rfl
      rw [e2]
      exact ht _ x d h1 (List.mem_of_getElem? h2) h3) (fun Dl acc i x h1 hi e hx _ => by
      obtain ⟨d, h2, h3⟩ := hx
      have e2 : ds.getD i .none = d := by rw [List.getD_eq_getElem?_getD, h2]; rfl
      rw [e2]
      exact vd_var (hj _) h3) (fun i x h1 h2 e q => by
      obtain ⟨d, q1, q2⟩ := q
      exact ⟨d, q1, MeE.Dd.up e q2⟩)
  rw [giv_data (q := fun d => !p d) (E := fun d => DV K d)] at k
  have k2 : Gv S (tLc (iList K ta) (gName j) tt (tVar j) vs) σ h (DV K (.list (ds.filter fun d => !p d))) := k.imp fun v h1 _ q => MeE.dv_lst q
  obtain ⟨l1, l2⟩ := lay_filter (q := fun d => !p d) hl.1 hl.2
  have k3 := v_eqD (K := K) dp_of k2 (vd_lst (ds := []) vd_nil (by simp)) (shape_of l1 (by omega)) rfl
  refine k3.is ?_
  rw [eqv_nil, filt_emp]
end
end K03
set_option Elab.async false
set_option linter.all false
set_option maxRecDepth 100000
set_option maxHeartbeats 8000000
set_option pp.maxSteps 600
set_option pp.deepTerms false
namespace K03
open PySem PySem.Spec PyProof.Rows L2 He MeH MeG MeK Evl MeV MeL TL
open MeE (VP Mono Is All MonoL Lst Tup mono_is monoL_nil monoL_cons monoL_app mono_lst mono_tup DP DV mono_dp mono_dv mono_dvs mono_dps spI1 XV)

section
variable {P : Program} {w : World} {K : PySem.W.Frag} {mg : Str → Option Value} {base : Heap} {f : Addr} {fd : FuncData}
theorem v_leftN {S : Wv} {σ : L2.St} {h : Hp} {ta : TE} {z : Str} {j : Nat} {vs : List Nat} {tt : TT} {q : Nat → Bool} (g : Gv S ta σ h (Is (.str z))) (hz : z.cps.size ≤ 50000) (hc : PyData.canLay0 (.str z) = true) (hw : ∀ x, wipe ((wipe σ vs).set j (some x)) vs = wipe σ vs)
    (hj : ∀ x, ((wipe σ vs).set j (some x))[j]? = some (some x))
    (ht : ∀ (S' : Wv) (c : Nat) (h1 : Hp), GvT S' tt ((wipe σ vs).set j (some (.str ⟨#[c]⟩))) h1 (q c)) : Gv S (tOp (rNeD K) (tLc (iStr ta) (gName j) tt (tVar j) vs) (tLst tNil)) σ h (Is (.bl (!(z.cps.toList.filter q).isEmpty))) := by
  have k := v_lc (S := S) (t := tt) (te := tVar j) (fun i => q (z.cps.getD i 0)) (fun i => DV K (sgn (z.cps.getD i 0))) (vi_str g) hz (fun _ _ => mono_dv _) hw (fun Dl acc i x h1 hi e hx => by
      obtain ⟨c, h2, rfl⟩ := hx
      have e2 : z.cps.getD i 0 = c := by simp [Array.getD, hi, Array.getElem_eq_iff.mpr h2]
      rw [e2]
      exact ht _ c h1) (fun Dl acc i x h1 hi e hx _ => by
      obtain ⟨c, h2, rfl⟩ := hx
      have e2 : z.cps.getD i 0 = c := by simp [Array.getD, hi, Array.getElem_eq_iff.mpr h2]
      rw [e2]
      exact vd_var (hj _) (Dd.str _)) (fun _ _ _ _ _ x => x)
  rw [giv_signs (E := fun c => DV K (sgn c))] at k
  have k2 : Gv S (tLc (iStr ta) (gName j) tt (tVar j) vs) σ h (DV K (.list ((z.cps.toList.filter q).map sgn))) := k.imp fun v h1 _ p => MeE.dv_lst (by rw [List.map_map]; exact p)
  obtain ⟨l1, l2⟩ := sgns_lay (l := z.cps.toList.filter q) fun c hc' => str_cps hc c (List.mem_filter.mp hc').1
  have k3 := v_neD (K := K) dp_of k2 (vd_lst (ds := []) vd_nil (by simp)) (shape_of l1 (by omega)) rfl
  refine k3.is ?_
  rw [eqv_nil, List.isEmpty_map]
theorem sc__law_parsed : FnScope ["_law_text_here", "_law_found", "_law_part", "_law_words", "_law_sign", "_law_one"] ["_law_text_here"] (defScope s__law_parsed) := ⟨rfl, rfl, rfl, by decide +kernel, rfl, by decide +kernel, by decide +kernel⟩
theorem ok_law_parsed (F : FD K d__law_parsed f fd) (T : Txt K mg) (c1 : Cal1 P w K mg base "_law_is_mark" 2 ["_law_thing"] (spD K MkC fun d => .bl (isMarkD d))) : FnOk P w K mg base CX0 3 f fd ["_law_text_here"] (spLP K) := by
  obtain ⟨_, k_law_is_mark, b_law_is_mark, G_law_is_mark⟩ := c1
  refine F.ok sc__law_parsed (fun vs H Q E h => ?_) (fun cdv A outer s H vs Q E hr h => ?_)
  · obtain ⟨S, _, x, rfl, _⟩ := h
    rfl
  · obtain ⟨S, iH, x, rfl, hx, hc, k⟩ := h
    refine ⟨_, PSs.nox (pss_cons (ps_if (pt_cmpR op_eq (pv 0) pe_str (nomark _)) (pss_one (ps_ret (pe_tup pa_nil))) pss_nil) (pss_cons (ps_set (i := 1) sc__law_parsed.nd rfl (Or.inl rfl) (pe_lst pa_nil)) (pss_cons (ps_for PassesOwn.never rfl (pi_list (pe_split (pv 0) pe_str)) (pg_name (i := 2) sc__law_parsed.nd rfl (Or.inl rfl)) (pss_cons (ps_set (i := 3) sc__law_parsed.nd rfl (Or.inl rfl) (pe_split (pv 2) pe_str)) (pss_cut (ps_if (pt_cmpR op_eq (pe_callB call_len_seq (by rfl) T.f_len PySem.boot_len (pa_cons (pv 3) pa_nil)) pe_int (nomark _)) (pss_one (ps_set (i := 3) sc__law_parsed.nd rfl (Or.inl rfl) (pe_lst (pa_cons (pe_ix ix_list (pv 3) pe_int (fun _ _ => rfl)) (pa_cons pe_str (pa_cons (pe_ix ix_list (pv 3) pe_int (fun _ _ => rfl)) pa_nil)))))) (pss_one (ps_if (PW.pt (pw_or (pt_cmpR op_ne (pe_callB call_len_seq (by rfl) T.f_len PySem.boot_len (pa_cons (pv 3) pa_nil)) pe_int (nomark _)) (pw_or1 (pt_cmpR op_eq (pe_ix ix_list (pv 3) pe_int (fun _ _ => rfl)) pe_str (nomark _))))) (pss_one (ps_ret pe_non)) pss_nil))) (pss_cons (ps_if (PW.pt (pw_or (pt_cmpR op_eq (pe_ix ix_list (pv 3) pe_int (fun _ _ => rfl)) pe_str (nomark _)) (pw_or (pt_cmpR op_gt (pe_callB call_len_str (by rfl) T.f_len PySem.boot_len (pa_cons (pe_ix ix_list (pv 3) pe_int (fun _ _ => rfl)) pa_nil)) pe_int (nomark _)) (pw_or1 (pt_cmpR op_eq (pe_ix ix_str (pe_ix ix_list (pv 3) pe_int (fun _ _ => rfl)) pe_int (fun _ _ => rfl)) pe_str (nomark _)))))) (pss_one (ps_ret pe_non)) pss_nil) (pss_cons (ps_if (pt_cmpR (op_neD hr.units) (pe_lc (own := [("_law_sign", 4)]) (g := gName 4) (by rfl) sc__law_parsed.nd (pi_str (pe_ix ix_list (pv 3) pe_int (fun _ _ => rfl))) (blkOk_by (own := [("_law_sign", 4)]) (N := ["_law_text_here", "_law_found", "_law_part", "_law_words", "_law_sign", "_law_one"]) (sc := defScope s__law_parsed) (by decide +kernel)) (fun _ _ _ _ _ => pg_name (i := 4) sc__law_parsed.nd rfl (Or.inl rfl)) (fun _ _ _ _ _ => (pts_one (pt_cmpR op_notIn_sign (pv 4) pe_str rfl))) (fun _ _ _ _ _ => (pv 4))) (pe_lst pa_nil) (nomark _)) (pss_one (ps_ret pe_non)) pss_nil) (pss_one (ps_expr (pe_bm PySem.F.plainAttrs_list PySem.F.slot_list_append PySem.F.type_list_append mt_append (pv 1) (pa_cons (pe_tup (pa_cons (pe_ix ix_list (pv 3) pe_int (fun _ _ => rfl)) (pa_cons (pe_ix ix_list (pv 3) pe_int (fun _ _ => rfl)) (pa_cons (pe_callTy call_int_str (by rfl) T.f_int bo_int (pa_cons (pe_ix ix_list (pv 3) pe_int (fun _ _ => rfl)) pa_nil)) pa_nil)))) pa_nil))))))))) (pss_one (ps_ret (pe_ifExp (pt_cmpR (op_eqD hr.units) (pe_lc (own := [("_law_one", 5)]) (g := gName 5) (by rfl) sc__law_parsed.nd (pi_list (pv 1)) (blkOk_by (own := [("_law_one", 5)]) (N := ["_law_text_here", "_law_found", "_law_part", "_law_words", "_law_sign", "_law_one"]) (sc := defScope s__law_parsed) (by decide +kernel)) (fun _ _ _ _ _ => pg_name (i := 5) sc__law_parsed.nd rfl (Or.inl rfl)) (fun _ _ _ _ _ => (pts_one (pt_not (pt_val (pe_call G_law_is_mark (hr.mono (by decide)) rfl T.g__law_is_mark k_law_is_mark b_law_is_mark .nil pass0 (pa_cons (pv 5) pa_nil)))))) (fun _ _ _ _ _ => (pv 5))) (pe_lst pa_nil) (nomark _)) (pe_callTy call_tuple_of (by rfl) T.f_tuple bo_tuple (pa_cons (pv 1) pa_nil)) pe_non)))))), ?_⟩
    refine x_when (S := S) iH (vt_test (v_eq (v_var rfl) v_c rfl)) (fun hb H1 i1 e1 => ?_) (fun hb H1 i1 e1 => ?_)
    · have hx0 : x = ("/" : Str) := by
        have z := of_decide_eq_true hb
        injection z
      exact x_ret (S := S) (P := DV K (.tuple [])) i1 (vd_tup vd_nil (by simp)) fun v3 H3 i3 e3 p3 => k v3 H3 i3 (e1.trans e3) (by rw [res_slash hx0]; exact p3)
    · have hx0 : ¬ x = ("/" : Str) := fun z => by
        rw [z] at hb
        exact absurd hb (by decide)
      refine x_newL (S := S) (i := 1) i1 va_nil monoL_nil (by simp) fun p xs H2 j2 e2 n2 ax => ?_
      have hxs : xs = [] := by
        cases xs with
        | nil => rfl
        | cons a r => exact ax.elim
      subst hxs
      show tSeq (tFor _ _ _) _ _ [some (.str x), some (.ref p), none, none, none, none] H2
      refine x_forq (S := S.lst p []) (S2 := S.hid p) rfl (fun _ i => lst_hid i) j2 (vi_lst (K := K) (Ps := (Txt.split x "+").map fun y => Is (.str y)) (v_split (v_var rfl) v_c rfl (by omega)) (mono_ls _)) (fun i σ' H' => ∃ acc ds, (S.lst p acc).I H' ∧ DdAll K (hv (S.vw H') p) acc ds ∧ ((Txt.split x "+").take i).map rawIn = ds.map some ∧ (∀ d ∈ ds, MkC d) ∧ ∃ o2 o3, σ' = [some (.str x), some (.ref p), o2, o3, none, none])
        (fun i σ' H1 H2 _ _ e ⟨acc, ds, a, b, c, d, s⟩ => ⟨acc, ds, ((S.lst p acc).up a e).1, MeE.DdAll.up ((S.lst p acc).up a e).2 b, c, d, s⟩) (fun H' i' e' => ⟨[], [], i', .nil, rfl, by simp, none, none, rfl⟩) ?turn ?done
      case done =>
        intro σ' H' i' e' hP
        obtain ⟨acc, ds, jA, dA, rA, mA, o2, o3, rfl⟩ := hP
        rw [List.length_map, List.take_length] at rA
        have hD : Dd K (S.vw H') (.ref p) (.list ds) := Dd.lst (sq_of (lst_at jA)) (MeE.DdAll.up (hide_ex (J := fun o => o = .lst acc)) dA)
        have hn : ds.length ≤ 50000 := by
          have h1 : ((Txt.split x "+").map rawIn).length = (ds.map some).length := by rw [rA]
          rw [List.length_map, List.length_map] at h1
          have := parts_n x
          omega
        refine x_ret (S := S) (P := DV K (resD x)) jA.1 (v_if (vt_test (v_bad (p := isMarkD) (vd_var (i := 1) rfl hD) hn (raws_lay mA) (j := 5) (vs := [5]) (fun _ => rfl) (fun _ => rfl) fun S' z d h1 hm hd => vt_not (vt_B (v_spD (vd_var (i := 5) rfl hd) (mA d hm))))) (fun hb2 => ?_) (fun hb2 => ?_)) fun v5 H5 i5 e5 p5 => k v5 H5 i5 (((e1.trans e2).trans (e'.trans hide_ex)).trans e5) p5
        · rw [res_all hx0 rA (fun d hd => List.all_eq_true.mp hb2 d hd)]
          exact v_tupOf (vd_var (i := 1) rfl hD)
        · have hne : ∃ d ∈ ds, isMarkD d = false := by
            have h1 : ¬ ∀ d ∈ ds, isMarkD d = true := fun z => by
              rw [List.all_eq_true.mpr z] at hb2
              cases hb2
            simpa using h1
          obtain ⟨d, hd, hm⟩ := hne
          rw [res_bad hx0 rA hd hm]
          exact vd_non
      case turn =>
        intro i z σ' H' hi i1' e1' hz hP N hN
        obtain ⟨acc, ds, jA, dA, rA, mA, o2, o3, rfl⟩ := hP
        obtain ⟨R, h1, h2⟩ := hz
        rw [List.getElem?_map] at h1
        cases hy : (Txt.split x "+")[i]? with
        | none =>
          rw [hy] at h1
          cases h1
        | some y =>
          rw [hy] at h1
          cases h1
          have hz' : z = .str y := h2
          subst hz'
          have hmem := List.mem_of_getElem? hy
          have ly := part_le2 hmem
          have cy := lay_plus hc hmem
          have eA : Ex (S.vw H) ((S.lst p acc).vw H') := (e1.trans e2).trans e1'
          have retN : ∀ H4, (S.lst p acc).I H4 → Ex ((S.lst p acc).vw H') ((S.lst p acc).vw H4) → rawIn y = none → Q .non H4 := fun H4 i4 e4 hr => k _ H4 i4.1 ((eA.trans e4).trans hide_ex) (by
            rw [res_none hx0 hmem (by rw [raw_mark, hr]; rfl)]
            exact Dd.non)
          show tSeq (tAsg _ _) _ _ [some (.str x), some (.ref p), some (.str y), o3, none, none] H'
          refine x_asgq (S := S.lst p acc) (P := LS (Txt.split y ".")) jA (v_split (v_var rfl) v_c rfl (by omega)) fun v3 H3 i3 e3 p3 => ?_
          refine ⟨fun σ4 H4 => (S.lst p acc).I H4 ∧ Ex ((S.lst p acc).vw H') ((S.lst p acc).vw H4) ∧ ∃ v4 a b c, σ4 = [some (.str x), some (.ref p), some (.str y), some v4, none, none] ∧ LS [a, b, c] v4 ((S.lst p acc).vw H4) ∧ rawIn y = rawOf a b c ∧ ∀ q ∈ [a, b, c], q.length ≤ 40000 ∧ PyData.canLay0 (.str q) = true, ?_, ?_⟩
          · have hq : ∀ q ∈ Txt.split y ".", q.length ≤ 40000 ∧ PyData.canLay0 (.str q) = true := fun q hq => ⟨by have := part_le hq; omega, lay_dot cy hq⟩
            refine x_if (S := S.lst p acc) i3 (vt_test (v_eq (v_lenL (K := K) (v_varP rfl (mono_LS _) p3)) v_c rfl)) (fun hb3 H4 i4 e4 => ?_) (fun hb3 H4 i4 e4 => ?_)
            · have hl : (Txt.split y ".").length = 2 := by
                have z := of_decide_eq_true hb3
                injection z with z
                rw [List.length_map] at z
                omega
              match hs : Txt.split y ".", hl with
              | [a, c], _ =>
                rw [hs] at p3 hq
                have p4 := mono_LS _ _ _ _ e4 p3
                refine x_asg (S := S.lst p acc) (P := LS [a, "", c]) i4 (v_lst (Ps := [Is (.str a), Is (.str ""), Is (.str c)]) (va_cons (v_ix (K := K) (j := 0) (v_varP rfl (mono_LS [a, c]) p4) (mono_ls [a, c]) v_c rfl) (mono_is _) (va_cons v_c (mono_is _) (va_cons (v_ix (K := K) (j := 1) (v_varP rfl (mono_LS [a, c]) p4) (mono_ls [a, c]) v_c rfl) (mono_is _) va_nil))) (mono_ls [a, "", c]) (by simp)) fun v5 H5 i5 e5 p5 => ⟨i5, (e3.trans e4).trans e5, v5, a, "", c, rfl, p5, ?_, ?_⟩
                · unfold rawIn
                  rw [hs]
                  rfl
                · intro q hq'
                  simp only [List.mem_cons, List.not_mem_nil, or_false] at hq'
                  rcases hq' with rfl | rfl | rfl
                  · exact hq _ (by simp)
                  · exact ⟨by decide, by decide +kernel⟩
                  · exact hq _ (by simp)
            · have p4 := mono_LS _ _ _ _ e4 p3
              have ln : Gv (S.lst p acc) (tOp rNe (tCB (rLenS K) (tCons (tVar 3) tNil)) (tC (.int 3))) [some (.str x), some (.ref p), some (.str y), some v3, none, none] ((S.lst p acc).vw H4) (Is (.bl (!decide (V.int (((Txt.split y ".").map fun y => Is (.str y)).length : Nat) = V.int 3)))) := v_ne (v_lenL (v_varP rfl (mono_LS _) p4)) v_c rfl
              match hs : Txt.split y ".", p4, hq, ln, hb3 with
              | [a, b, c], p4, hq, ln, hb3 =>
                refine x_if (S := S.lst p acc) i4 (vt_or (a := false) (vt_test (ln.is (by simp))) fun _ => vt_test (v_eq (v_ix (K := K) (j := 1) (v_varP rfl (mono_LS [a, b, c]) p4) (mono_ls [a, b, c]) v_c rfl) v_c rfl)) (fun hb4 H5 i5 e5 => retN H5 i5 ((e3.trans e4).trans e5) ?_) (fun hb4 H5 i5 e5 => ⟨i5, (e3.trans e4).trans e5, v3, a, b, c, rfl, mono_LS _ _ _ _ e5 p4, ?_, hq⟩)
                · have hb5 : b = ("" : Str) := by simpa using hb4
                  unfold rawIn
                  rw [hs]
                  show (if b = ("" : Str) then none else rawOf a b c) = none
                  rw [if_pos hb5]
                · have hb5 : ¬ b = ("" : Str) := fun z => by
                    rw [z] at hb4
                    simp at hb4
                  unfold rawIn
                  rw [hs]
                  show (if b = ("" : Str) then none else rawOf a b c) = _
                  rw [if_neg hb5]
              | [], p4, hq, ln, hb3 => exact x_if (S := S.lst p acc) (b := true) i4 (vt_or (a := true) (b := false) (vt_test (ln.is (by simp))) fun z => nomatch z) (fun _ H5 i5 e5 => retN H5 i5 ((e3.trans e4).trans e5) (by unfold rawIn; rw [hs]; rfl)) (fun z => nomatch z)
              | [_], p4, hq, ln, hb3 => exact x_if (S := S.lst p acc) (b := true) i4 (vt_or (a := true) (b := false) (vt_test (ln.is (by simp))) fun z => nomatch z) (fun _ H5 i5 e5 => retN H5 i5 ((e3.trans e4).trans e5) (by unfold rawIn; rw [hs]; rfl)) (fun z => nomatch z)
              | [_, _], p4, hq, ln, hb3 => exact absurd hb3 (by simp)
              | _ :: _ :: _ :: _ :: r, p4, hq, ln, hb3 => exact x_if (S := S.lst p acc) (b := true) i4 (vt_or (a := true) (b := false) (vt_test (ln.is (by simp; omega))) fun z => nomatch z) (fun _ H5 i5 e5 => retN H5 i5 ((e3.trans e4).trans e5) (by unfold rawIn; rw [hs]; rfl)) (fun z => nomatch z)
          · intro σ4 H4 hm4
            obtain ⟨i4, e4, v4, a, b, c, rfl, p4, hraw, hq⟩ := hm4
            have lc := hq c (by simp)
            have gp : ∀ (h1 : Hp) (j : Nat) (y' : Str), Ex ((S.lst p acc).vw H4) h1 → [a, b, c][j]? = some y' → Gv (S.lst p acc) (tOp (rIxL K) (tVar 3) (tC (.int (j : Nat)))) [some (.str x), some (.ref p), some (.str y), some v4, none, none] h1 (Is (.str y')) := fun h1 j y' e hj => v_ix (v_varP rfl (mono_LS [a, b, c]) (mono_LS _ _ _ _ e p4)) (mono_ls [a, b, c]) v_c (by rw [List.getElem?_map, hj]; rfl)
            have bad : numOk c = false → rawIn y = none := fun z => by
              rw [hraw]
              unfold rawOf
              rw [z]
              rfl
            have l0 : c.length = c.cps.toList.length := len_tl c
            have tC1 : GvT (S.lst p acc) (tOr (tTest (tOp rEq (tOp (rIxL K) (tVar 3) (tC (.int 2))) (tC (.str "")))) (tOr (tTest (tOp (rI0 fun i j => .bl (decide (j < i))) (tCB (fun xs H Q => ∃ z : Str, xs = [.str z] ∧ z.length ≤ sizeLine ∧ Q (.int z.length) H) (tCons (tOp (rIxL K) (tVar 3) (tC (.int 2))) tNil)) (tC (.int 19)))) (tTest (tOp rEq (tOp rIxS (tOp (rIxL K) (tVar 3) (tC (.int 2))) (tC (.int 0))) (tC (.str "0"))))))
                [some (.str x), some (.ref p), some (.str y), some v4, none, none] ((S.lst p acc).vw H4) (decide (c = ("" : Str)) || (decide ((19 : Int) < (c.length : Nat)) || first0 c)) := by
              refine vt_or (vt_test ((v_eq (gp _ 2 c (Ex.refl _) rfl) v_c rfl).is (by simp))) fun hne => ?_
              have hc0 : ¬ c = ("" : Str) := of_decide_eq_false hne
              cases hl : c.cps.toList with
              | nil => exact absurd (ext_tl (x := c) (y := "") (by rw [show tl c = [] from hl]; decide)) hc0
              | cons ch r =>
                refine vt_or (vt_test (v_opV (v_lenS (gp _ 2 c (Ex.refl _) rfl) (by omega)) v_c rv_I0)) fun _ => vt_test ((v_eq (v_ixS (j := 0) (c := ch) (gp _ 2 c (Ex.refl _) rfl) v_c (by omega) (by rw [hl]; rfl)) v_c rfl).is ?_)
                unfold first0
                rw [hl]
            refine x_when (S := S.lst p acc) i4 tC1 (fun hb5 H5 i5 e5 => retN H5 i5 (e4.trans e5) (bad ?_)) (fun hb5 H5 i5 e5 => ?_)
            · unfold numOk
              rcases Bool.or_eq_true_iff.mp hb5 with z | z
              · have z' := of_decide_eq_true z
                rw [z']
                decide +kernel
              · rcases Bool.or_eq_true_iff.mp z with z | z
                · have z' := of_decide_eq_true z
                  have z2 : ¬ (((c.length : Nat) : Int) ≤ 19) := by omega
                  rw [decide_eq_false z2]
                  simp
                · rw [z]
                  simp
            · obtain ⟨z1, z2⟩ := Bool.or_eq_false_iff.mp hb5
              obtain ⟨z3, z4⟩ := Bool.or_eq_false_iff.mp z2
              have c0 : ¬ c = ("" : Str) := of_decide_eq_false z1
              have c1 : ¬ ((19 : Int) < (c.length : Nat)) := of_decide_eq_false z3
              have c2 : 1 ≤ c.length := by
                cases hl : c.cps.toList with
                | nil => exact absurd (ext_tl (x := c) (y := "") (by rw [show tl c = [] from hl]; decide)) c0
                | cons ch r =>
                  rw [l0, hl]
                  simp
              have hsz : c.cps.size ≤ 50000 := by
                have e9 : c.length = c.cps.size := rfl
                omega
              refine x_when (S := S.lst p acc) i5 (vt_test (v_leftN (q := fun c => !isDig c) (j := 4) (vs := [4]) (gp _ 2 c e5 rfl) hsz lc.2 (fun _ => rfl) (fun _ => rfl) fun S' ch h1 => vt_test (v_ninS (v_var rfl) v_c))) (fun hb6 H6 i6 e6 => retN H6 i6 ((e4.trans e5).trans e6) (bad ?_)) (fun hb6 H6 i6 e6 => ?_)
              · rw [none_left] at hb6
                unfold numOk
                have z5 : c.cps.toList.all isDig = false := by simpa using hb6
                rw [z5]
                simp
              · rw [none_left] at hb6
                have z5 : c.cps.toList.all isDig = true := by simpa using hb6
                have hok : numOk c = true := by
                  unfold numOk
                  rw [z5, z4, decide_eq_true (show (1 : Int) ≤ (c.length : Nat) by omega), decide_eq_true (show ((c.length : Nat) : Int) ≤ 19 by omega)]
                  rfl
                obtain ⟨w1, w2⟩ := num_int hok
                have e56 := e5.trans e6
                refine x_app (S := S) (P := DV K (.tuple [.str a, .str b, .int (numI c)])) i6 rfl (vd_tup (vd_cons (is_str (gp _ 0 a e56 rfl)) (vd_cons (is_str (gp _ 1 b e56 rfl)) (vd_cons (is_int (v_intS (gp _ 2 c e56 rfl) w1 (by omega))) vd_nil))) (by simp)) ?_ fun u H7 i7 e7 p7 => hN _ _ (lst_hid i7) (((e4.trans e5).trans e6).trans e7) ⟨acc ++ [u], ds ++ [.tuple [.str a, .str b, .int (numI c)]], i7, ddAll_snoc (MeE.DdAll.up (((e4.trans e5).trans e6).trans e7) dA) (show Dd K (hv (S.vw H7) p) u (.tuple [.str a, .str b, .int (numI c)]) from p7), ?_, ?_, _, _, rfl⟩
                · have l1 := (ddAll_get dA).1
                  have l2 : (((Txt.split x "+").take i).map rawIn).length = (ds.map some).length := by rw [rA]
                  rw [List.length_map, List.length_map, List.length_take] at l2
                  have := parts_n x
                  omega
                · rw [List.take_succ, hy, List.map_append, rA, List.map_append]
                  show _ ++ [rawIn y] = _ ++ [some _]
                  rw [hraw]
                  unfold rawOf
                  rw [hok]
                  rfl
                · intro d hd
                  rcases List.mem_append.mp hd with hd | hd
                  · exact mA d hd
                  · rw [List.mem_singleton.mp hd]
                    have qa := hq a (by simp)
                    have qb := hq b (by simp)
                    exact ⟨a, b, numI c, rfl, ⟨a, rfl, by omega, qa.2⟩, ⟨b, rfl, by omega, qb.2⟩⟩
end
end K03
set_option Elab.async false
set_option linter.all false
set_option maxRecDepth 100000
set_option maxHeartbeats 4000000
set_option pp.maxSteps 600
set_option pp.deepTerms false
namespace K03
open PySem PySem.Spec PyProof.Rows L2 He MeH MeG MeK Evl MeV MeL TL
open MeE (VP Mono Is All MonoL Lst Tup mono_is monoL_nil monoL_cons monoL_app mono_lst mono_tup DP DV mono_dp mono_dv mono_dvs mono_dps spI1 XV)
def spTake : Sp := fun vs H Q _ => ∃ (p : Addr) (a b sd : Int), vs = [.ref p, .int sd] ∧ H p = some (.lst [.int a, .int b]) ∧ 0 < sd ∧ sd < 1073741824 ∧ 0 ≤ b ∧ b < 4294967296 ∧
  ∀ n a' b' : Int, 0 ≤ n → n < sd → 0 ≤ b' → b' < 4294967296 → Q (.int n) (upd H p (.lst [.int a', .int b']))
def spPool (K : PySem.W.Frag) : Sp := fun vs H Q _ => ∃ (l : Addr) (ns : List Int) (k : Nat), vs = [.ref l, .int (k : Int)] ∧ SqL K H l (ns.map V.int) ∧ k < 100 ∧ ∀ (p : Addr) (a b : Int), H p = none → 0 ≤ b → b < 4294967296 → Q (.ref p) (upd H p (.lst [.int a, .int b]))
section
variable {P : Program} {w : World} {K : PySem.W.Frag} {mg : Str → Option Value} {base : Heap} {f : Addr} {fd : FuncData}
theorem b48 {b : Int} (h0 : 0 ≤ b) (h1 : b < 4294967296) : CMul b 48271 := .inr ⟨by decide, by decide⟩
theorem bsq {b : Int} (h0 : 0 ≤ b) (h1 : b < 4294967296) : CMul b b := .inl ⟨by omega, by omega⟩
theorem md_lo (a m : Int) (h : 0 < m) : 0 ≤ a % m := Int.emod_nonneg a (by omega)
theorem md_hi (a m : Int) (h : 0 < m) : a % m < m := Int.emod_lt_of_pos a h
theorem md_32 (a : Int) : 0 ≤ a % 2147483647 ∧ a % 2147483647 < 4294967296 := ⟨md_lo _ _ (by decide), Int.lt_trans (md_hi _ _ (by decide)) (by decide)⟩
theorem q47 : (0 : Int) < 2147483647 := by decide
theorem q29 : (0 : Int) < 2147483629 := by decide
theorem q87 : (0 : Int) < 2147483587 := by decide
theorem pl1 (a : Int) : 0 ≤ a % 2147483587 + 1 ∧ a % 2147483587 + 1 < 4294967296 := by
  have h1 := md_lo a 2147483587 q87
  have h2 := md_hi a 2147483587 q87
  omega
/-! _law_take -/
theorem sc_tk : FnScope ["_law_pool_here", "_law_sides", "_law_found"] ["_law_pool_here", "_law_sides"] (defScope s__law_take) := ⟨rfl, rfl, rfl, by decide +kernel, rfl, by decide +kernel, by decide +kernel⟩
theorem ok_tk (F : FD K d__law_take f fd) : FnOk P w K mg base CX0 1 f fd ["_law_pool_here", "_law_sides"] spTake := by
  refine F.ok sc_tk (fun vs H Q E h => ?_) (fun cdv A outer s H vs Q E hr h => ?_)
  · obtain ⟨p, a, b, sd, rfl, _⟩ := h
    rfl
  · obtain ⟨p, a, b, sd, rfl, hp, s0, s1, b0, b1, k⟩ := h
    refine ⟨_, PSs.nox (pss_cons (ps_if (pt_cmpR op_gt (pe_ix ix_list (pv 0) pe_int (fun _ _ => rfl)) pe_int (nomark _))
        (pss_cons (ps_set (i := 2) sc_tk.nd rfl (Or.inl rfl) (pe_op op_mod (pe_ix ix_list (pv 0) pe_int (fun _ _ => rfl)) (pv 1)))
          (pss_cons (ps_asg (pe_op op_fdiv (pe_ix ix_list (pv 0) pe_int (fun _ _ => rfl)) (pv 1)) (pg_sub (pv 0) pe_int set_list))
            (pss_one (ps_ret (pv 2))))) pss_nil)
      (pss_cons (ps_asg (pe_op op_mod (pe_op op_add (pe_op op_mul (pe_ix ix_list (pv 0) pe_int (fun _ _ => rfl)) pe_int) pe_int) pe_int) (pg_sub (pv 0) pe_int set_list))
        (pss_one (ps_ret (pe_op op_mod (pe_op op_fdiv (pe_op op_mod (pe_op op_mul (pe_ix ix_list (pv 0) pe_int (fun _ _ => rfl)) (pe_ix ix_list (pv 0) pe_int (fun _ _ => rfl))) pe_int) pe_int) (pv 1)))))), ?_⟩
    refine ⟨_, rfl, p, _, 0, .int a, rfl, rfl, SqL.of hp, rfl, a, 0, rfl, rfl, _, rfl, ite2 (fun ha => ?_) (fun ha => ?_)⟩
    · refine ⟨_, rfl, p, _, 0, .int a, rfl, rfl, SqL.of hp, rfl, _, rfl, a, sd, rfl, rfl, s0, ?_⟩
      refine ⟨_, rfl, p, _, 0, .int a, rfl, rfl, SqL.of hp, rfl, _, rfl, a, sd, rfl, rfl, ⟨s0, s1⟩, _, rfl, p, _, 0, 0, rfl, rfl, hp, rfl, _, rfl, ?_⟩
      exact k _ _ _ (md_lo a sd s0) (md_hi a sd s0) b0 b1
    · refine ⟨_, rfl, p, _, 1, .int b, rfl, rfl, SqL.of hp, rfl, b, 48271, rfl, rfl, b48 b0 b1, _, 11, rfl, rfl, _, 2147483647, rfl, rfl, q47, _, rfl, p, _, 1, 1, rfl, rfl, hp, rfl, ?_⟩
      obtain ⟨c0, c1⟩ := md_32 (b * 48271 + 11)
      have hp1 : upd H p (.lst [.int a, .int ((b * 48271 + 11) % 2147483647)]) p = some (.lst [.int a, .int ((b * 48271 + 11) % 2147483647)]) := upd_same
      refine ⟨_, rfl, p, _, 1, .int ((b * 48271 + 11) % 2147483647), rfl, rfl, SqL.of hp1, rfl, _, rfl, p, _, 1, .int ((b * 48271 + 11) % 2147483647), rfl, rfl, SqL.of hp1, rfl, _, _, rfl, rfl, bsq c0 c1, _, 2147483629, rfl, rfl, q29, _, 64, rfl, rfl, ⟨by decide, by decide⟩, _, rfl, _, sd, rfl, rfl, s0, ?_⟩
      exact k _ a _ (md_lo _ sd s0) (md_hi _ sd s0) c0 c1
/-! _law_pool -/
theorem sc_po : FnScope ["_law_script", "_law_k", "_law_cell", "_law_seed"] ["_law_script", "_law_k"] (defScope s__law_pool) := ⟨rfl, rfl, rfl, by decide +kernel, rfl, by decide +kernel, by decide +kernel⟩
theorem ok_po (F : FD K d__law_pool f fd) (T : Txt K mg) : FnOk P w K mg base CX0 1 f fd ["_law_script", "_law_k"] (spPool K) := by
  refine F.ok sc_po (fun vs H Q E h => ?_) (fun cdv A outer s H vs Q E hr h => ?_)
  · obtain ⟨l, ns, kk, rfl, _⟩ := h
    rfl
  · obtain ⟨l, ns, kk, rfl, hl, hk, k⟩ := h
    refine ⟨_, PSs.nox (pss_cons (ps_set (i := 2) sc_po.nd rfl (Or.inl rfl) pe_int)
      (pss_cons (ps_if (pt_cmpR op_lt (pv 1) (pe_callB call_len_seq (by rfl) T.f_len PySem.boot_len (pa_cons (pv 0) pa_nil)) (nomark _)) (pss_one (ps_set (i := 2) sc_po.nd rfl (Or.inl rfl) (pe_ix ix_list (pv 0) (pv 1) (fun _ _ => rfl)))) pss_nil)
      (pss_cons (ps_set (i := 3) sc_po.nd rfl (Or.inl rfl) (pe_op op_mod (pe_op op_mul (pe_op op_add (pe_op op_add (pe_op op_mod (pv 2) pe_int) (pe_op op_mul (pe_op op_mul pe_int (pv 1)) (pv 1))) pe_int) pe_int) pe_int))
      (pss_cons (ps_if (pt_cmpR op_lt (pv 2) (pe_op op_pow pe_int pe_int) (nomark _)) (pss_one (ps_set (i := 2) sc_po.nd rfl (Or.inl rfl) pe_int)) pss_nil)
      (pss_one (ps_ret (pe_lst (pa_cons (pv 2) (pa_cons (pe_op op_add (pe_op op_mod (pe_op op_mul (pv 3) (pv 3)) pe_int) pe_int) pa_nil))))))))), ?_⟩
    refine ⟨_, rfl, _, rfl, l, _, rfl, .inl hl, (kk : Int), _, rfl, rfl, _, rfl, ?_⟩
    have kl : -(2 ^ 64) < (kk : Int) ∧ (kk : Int) < 2 ^ 64 := ⟨by omega, by omega⟩
    refine ite2 (fun h1 => ?ya) (fun h1 => ?no)
    case' ya =>
      have h2 : kk < ns.length := by
        have h3 := of_decide_eq_true h1
        rw [List.length_map] at h3
        omega
      have e2 : (ns.map V.int)[kk]? = some (V.int (ns[kk]'h2)) := by
        rw [List.getElem?_map, List.getElem?_eq_getElem h2]
        rfl
      refine ⟨_, rfl, _, rfl, l, _, (kk : Int), _, rfl, rfl, hl, atI_nat e2, ?_⟩
    all_goals
      refine ⟨_, rfl, _, 2147483629, rfl, rfl, q29, _, rfl, 7919, (kk : Int), rfl, rfl, .inr kl, _, rfl, _, (kk : Int), rfl, rfl, .inr kl, _, _, rfl, rfl, _, 13, rfl, rfl, _, 48271, rfl, rfl, .inr ⟨by decide, by decide⟩, _, 2147483647, rfl, rfl, q47, ?_⟩
      refine ⟨_, rfl, 10, 18, rfl, rfl, ⟨by decide, by decide, by decide⟩, _, _, rfl, rfl, _, rfl, ?_⟩
      refine ite2 (fun _ => ?_) (fun _ => ?_)
    all_goals refine ⟨_, rfl, _, rfl, _, rfl, _, _, rfl, rfl, bsq (md_32 _).1 (md_32 _).2, _, 2147483587, rfl, rfl, q87, _, 1, rfl, rfl, by show 2 ≤ sizeLine; decide, fun p hp => ?_⟩
    all_goals exact k p _ _ hp (pl1 _).1 (pl1 _).2

/-- a draw -/
theorem v_take {S : Wv} {σ : L2.St} {h : Hp} {ta tb : TE} {p : Addr} {sd : Int} {E : XK} (hp : HasPool S p) (ga : Gv S ta σ h (Is (.ref p))) (gb : Gv S tb σ h (Is (.int sd))) (h0 : 0 < sd) (h1 : sd < 1073741824) :
    Gv S (tCall spTake [] E (tCons ta (tCons tb tNil))) σ h (fun v _ => ∃ n : Int, v = .int n ∧ 0 ≤ n ∧ n < sd) :=
  v_call (Ps := All [Is (.ref p), Is (.int sd)]) (va_cons ga (mono_is _) (va_cons gb (mono_is _) va_nil)) fun vs H1 i e ps Q q => by
    obtain ⟨x, y, rfl, hx, hy⟩ := MeE.all2 ps
    have hx' : x = .ref p := hx
    have hy' : y = .int sd := hy
    subst hx' hy'
    obtain ⟨⟨a, b, k1, k2, k3⟩, k4⟩ := hp H1 i
    refine ⟨p, a, b, sd, rfl, k1, h0, h1, k2, k3, fun n a' b' n0 n1 b0 b1 => ?_⟩
    obtain ⟨k5, k6⟩ := k4 a' b' b0 b1
    refine q _ _ k5 ?_ ⟨n, rfl, n0, n1⟩
    show Ex (S.vw H1) (S.vw (upd H1 p (poolO a' b')))
    rw [k6]
    exact Ex.refl _
end
end K03
set_option Elab.async false
set_option linter.all false
set_option maxRecDepth 100000
set_option maxHeartbeats 4000000
set_option pp.maxSteps 600
set_option pp.deepTerms false
namespace K03
open PySem PySem.Spec PyProof.Rows L2 He MeH MeG MeK Evl MeV MeL TL
open MeE (VP Mono Is All MonoL Lst Tup mono_is monoL_nil monoL_cons monoL_app mono_lst mono_tup DP DV mono_dp mono_dv mono_dvs mono_dps spI1 XV)

abbrev SIX : Str := "abcxyz"
theorem six_let : ∀ c ∈ SIX.cps.toList, isLet c = true := by decide
theorem all_sgn {H : Hp} : ∀ {n : Nat} {xs : List V}, All (List.replicate n (fun v _ => ∃ c ∈ SIX.cps.toList, v = .str ⟨#[c]⟩)) xs H → ∃ cs : List Nat, cs.length = n ∧ (∀ c ∈ cs, isLet c = true) ∧ xs = (cs.map fun c => (⟨#[c]⟩ : Str)).map V.str
  | 0, [], _ => ⟨[], rfl, by simp, rfl⟩
  | 0, _ :: _, h => h.elim
  | n + 1, [], h => h.elim
  | n + 1, x :: xs, h => by
    obtain ⟨⟨c, hc, rfl⟩, h2⟩ := (show (∃ c ∈ SIX.cps.toList, x = .str ⟨#[c]⟩) ∧ All (List.replicate n _) xs H from h)
    obtain ⟨cs, e1, e2, e3⟩ := all_sgn h2
    refine ⟨c :: cs, by simp [e1], ?_, by rw [e3]; rfl⟩
    intro d hd
    rcases List.mem_cons.mp hd with rfl | hd
    · exact six_let _ hc
    · exact e2 d hd
theorem join_sgn : ∀ cs : List Nat, tl (Txt.join "" (cs.map fun c => (⟨#[c]⟩ : Str))) = cs := fun cs => by
  rw [join_eq, tl_join]
  have h0 : tl (("" : Str)) = [] := by decide
  rw [h0, List.map_map]
  induction cs with
  | nil => rfl
  | cons c r ih =>
    cases r with
    | nil => rfl
    | cons d r =>
      show (tl ⟨#[c]⟩ ++ ([] ++ joinL [] (((d :: r).map _)))) = _
      rw [List.nil_append]
      have e : tl (⟨#[c]⟩ : Str) = [c] := rfl
      rw [e, ih]
      rfl
theorem word_sgn {cs : List Nat} (h1 : 1 ≤ cs.length) (h8 : cs.length ≤ 8) (hl : ∀ c ∈ cs, isLet c = true) : isWordS (Txt.join "" (cs.map fun c => (⟨#[c]⟩ : Str))) = true := by
  have e := join_sgn cs
  have l : (Txt.join "" (cs.map fun c => (⟨#[c]⟩ : Str))).length = cs.length := by rw [len_tl, e]
  unfold isWordS
  rw [l, show (Txt.join "" (cs.map fun c => (⟨#[c]⟩ : Str))).cps.toList = cs from e, List.all_eq_true.mpr hl, decide_eq_true (show (1 : Int) ≤ (cs.length : Nat) by omega), decide_eq_true (show ((cs.length : Nat) : Int) ≤ 8 by omega)]
  rfl
section
variable {P : Program} {w : World} {K : PySem.W.Frag} {mg : Str → Option Value} {base : Heap} {f : Addr} {fd : FuncData}
/-- a drawn word -/
def spWd : Sp := fun vs H Q _ => ∃ (S : Wv) (p : Addr), S.I H ∧ HasPool S p ∧ vs = [.ref p] ∧ ∀ (x : Str) H', S.I H' → Ex (S.vw H) (S.vw H') → isWordS x = true → Q (.str x) H'
theorem v_wd {S : Wv} {σ : L2.St} {h : Hp} {ta : TE} {p : Addr} {E : XK} (hp : HasPool S p) (ga : Gv S ta σ h (Is (.ref p))) : Gv S (tCall spWd [] E (tCons ta tNil)) σ h (fun v _ => ∃ x : Str, v = .str x ∧ isWordS x = true) :=
  v_call (Ps := All [Is (.ref p)]) (va_cons ga (mono_is _) va_nil) fun vs H1 i e ps Q q => by
    obtain ⟨x, rfl, hx⟩ := MeE.all1 ps
    have hx' : x = .ref p := hx
    subst hx'
    exact ⟨S, p, i, hp, rfl, fun x H' i' e' hw => q _ H' i' e' ⟨x, rfl, hw⟩⟩
theorem sc__law_word : FnScope ["_law_pool_here", "_law_turn"] ["_law_pool_here"] (defScope s__law_word) := ⟨rfl, rfl, rfl, by decide +kernel, rfl, by decide +kernel, by decide +kernel⟩
theorem ok_law_word (F : FD K d__law_word f fd) (T : Txt K mg) (c1 : Cal1 P w K mg base "_law_take" 1 ["_law_pool_here", "_law_sides"] spTake) : FnOk P w K mg base CX0 2 f fd ["_law_pool_here"] spWd := by
  obtain ⟨_, k_law_take, b_law_take, G_law_take⟩ := c1
  refine F.ok sc__law_word (fun vs H Q E h => ?_) (fun cdv A outer s H vs Q E hr h => ?_)
  · obtain ⟨S, p, _, _, rfl, _⟩ := h
    rfl
  · obtain ⟨S, p, iH, hp, rfl, k⟩ := h
    refine ⟨_, PSs.nox (pss_one (ps_ret (pe_join pe_str (pe_lc (own := [("_law_turn", 1)]) (g := gName 1) (by rfl) sc__law_word.nd (pi_range1 (by rfl) T.f_range (pa_cons (pe_ix ix_list (pe_lst (pa_cons pe_int (pa_cons pe_int (pa_cons pe_int pa_nil)))) (pe_call G_law_take (hr.mono (by decide)) rfl T.g__law_take k_law_take b_law_take .nil pass0 (pa_cons (pv 0) (pa_cons pe_int pa_nil))) (fun _ _ => rfl)) pa_nil)) (blkOk_by (own := [("_law_turn", 1)]) (N := ["_law_pool_here", "_law_turn"]) (sc := defScope s__law_word) (by decide +kernel)) (fun _ _ _ _ _ => pg_name (i := 1) sc__law_word.nd rfl (Or.inl rfl)) (fun _ _ _ _ _ => pts_nil) (fun _ _ _ _ _ => (pe_ix ix_str pe_str (pe_call G_law_take (hr.mono (by decide)) rfl T.g__law_take k_law_take b_law_take .nil pass0 (pa_cons (pv 0) (pa_cons pe_int pa_nil))) (fun _ _ => rfl))))))), ?_⟩
    have m3 : MonoL [Is (.int 1), Is (.int 2), Is (.int 8)] := monoL_cons (mono_is _) (monoL_cons (mono_is _) (monoL_cons (mono_is _) monoL_nil))
    have gl : Gv S (tLc (iRng1 (tCons (tOp (rIxL K) (tLst (tCons (tC (.int 1)) (tCons (tC (.int 2)) (tCons (tC (.int 8)) tNil)))) (tCall spTake [] E0 (tCons (tVar 0) (tCons (tC (.int 3)) tNil)))) tNil)) (gName 1) tYes (tOp rIxS (tC (.str "abcxyz")) (tCall spTake [] E0 (tCons (tVar 0) (tCons (tC (.int 6)) tNil)))) [1]) (start ["_law_pool_here", "_law_turn"] [.ref p]) (S.vw H)
        (fun v h => ∃ n, (1 ≤ n ∧ n ≤ 8) ∧ Lst (List.replicate n (fun v _ => ∃ c ∈ SIX.cps.toList, v = .str ⟨#[c]⟩)) v h) :=
      v_lcx (C := fun n => 1 ≤ n ∧ n ≤ 8) (Pi := fun i v _ => v = .int (i : Nat)) _ (vx_rng (v_ixAny (Ps := [Is (.int 1), Is (.int 2), Is (.int 8)]) (v_lst (va_cons v_c (mono_is _) (va_cons v_c (mono_is _) (va_cons v_c (mono_is _) va_nil))) m3 (by simp)) m3 (v_take hp (v_var rfl) v_c (by decide) (by decide)) (fun R hR v h1 hv => by
        simp only [List.mem_cons, List.not_mem_nil, or_false] at hR
        rcases hR with rfl | rfl | rfl
        · exact ⟨1, hv, by omega, by omega⟩
        · exact ⟨2, hv, by omega, by omega⟩
        · exact ⟨8, hv, by omega, by omega⟩)) (fun n h => by omega)) (fun n h => by omega) (fun _ _ _ _ h => h) (fun _ => rfl) (fun _ _ _ _ _ h => h) (fun Dl acc i x h1 e hx => v_ixSAny v_c (v_take hp.hide (v_var rfl) v_c (by decide) (by decide)) (by decide))
    refine ⟨⟨_, rfl⟩, gl H iH (Ex.refl _) _ fun v H1 i1 e1 pv => ?_⟩
    obtain ⟨n, ⟨n1, n8⟩, q, xs, rfl, hq, ax⟩ := pv
    obtain ⟨cs, l1, l2, rfl⟩ := all_sgn ax
    refine ⟨"", q, cs.map fun c => (⟨#[c]⟩ : Str), rfl, rfl, .inl (sq_of (S.sub _ _ _ hq)), ?_, k _ H1 i1 e1 (word_sgn (by omega) (by omega) l2)⟩
    have h0 : (("" : Str)).length = 0 := by decide
    have hs : ((cs.map fun c => (⟨#[c]⟩ : Str)).map (·.length)).sum ≤ ((cs.map fun c => (⟨#[c]⟩ : Str)).map (·.length)).length * 1 := sum_le fun x hx => by
      rw [List.map_map] at hx
      obtain ⟨c, _, rfl⟩ := List.mem_map.mp hx
      exact Nat.le_refl _
    rw [List.length_map, List.length_map] at hs
    rw [h0, Nat.mul_zero]
    omega
end
end K03
set_option Elab.async false
set_option linter.all false
set_option maxRecDepth 100000
set_option maxHeartbeats 4000000
set_option pp.maxSteps 600
set_option pp.deepTerms false
namespace K03
open PySem PySem.Spec PyProof.Rows L2 He MeH MeG MeK Evl MeV MeL TL
open MeE (VP Mono Is All MonoL Lst Tup mono_is monoL_nil monoL_cons monoL_app mono_lst mono_tup DP DV mono_dp mono_dv mono_dvs mono_dps spI1 XV)

section
variable {P : Program} {w : World} {K : PySem.W.Frag} {mg : Str → Option Value} {base : Heap} {f : Addr} {fd : FuncData}
def Num0 : VP := fun v _ => ∃ n : Int, v = .int n ∧ 0 ≤ n ∧ n ≤ 999999999999999999
def Num1 : VP := fun v _ => ∃ n : Int, v = .int n ∧ 1 ≤ n ∧ n ≤ 1000000000000000000
def Wd : VP := fun v _ => ∃ x : Str, v = .str x ∧ isWordS x = true
def Sr : VP := fun v _ => ∃ x : Str, v = .str x ∧ (x = ("" : Str) ∨ isWordS x = true)
def Mk (K : PySem.W.Frag) : VP := fun v h => ∃ d, isMarkD d = true ∧ Dd K h v d
/-- a drawn name -/
def spNm (K : PySem.W.Frag) : Sp := fun vs H Q _ => ∃ (S : Wv) (p : Addr), S.I H ∧ HasPool S p ∧ vs = [.ref p] ∧ ∀ (v : V) (ds : List PyData) H', S.I H' → Ex (S.vw H) (S.vw H') → ds.all isMarkD = true → ds.length ≤ 4 → Dd K (S.vw H') v (.tuple ds) → Q v H'
theorem pw6 : (10 : Int) ^ (6 : Int).toNat = 1000000 := by decide
theorem pw18 : (10 : Int) ^ (18 : Int).toNat = 1000000000000000000 := by decide
theorem mk_row {h : Hp} {v : V} {n : Int} (hn : 1 ≤ n ∧ n ≤ 1000000000000000000) (t : Tup [Wd, Sr, Is (.int n)] v h) : Mk K v h := by
  obtain ⟨p, xs, rfl, hp, ax⟩ := t
  obtain ⟨a, b, c, rfl, ⟨x, rfl, hx⟩, ⟨y, rfl, hy⟩, hc⟩ := MeE.all3 ax
  have hc' : c = .int n := hc
  subst hc'
  refine ⟨.tuple [.str x, .str y, .int n], ?_, Dd.tup (st_of hp) (.cons (.str x) (.cons (.str y) (.cons (.int n) .nil)))⟩
  show (isWordS x && ((decide (y = ("" : Str)) || isWordS y) && (decide ((1 : Int) ≤ n) && decide (n ≤ 1000000000000000000)))) = true
  rw [hx, decide_eq_true hn.1, decide_eq_true hn.2]
  rcases hy with h | h
  · rw [decide_eq_true h]
    rfl
  · rw [h]
    simp
theorem sc__law_name : FnScope ["_law_pool_here", "_law_found", "_law_turn", "_law_number"] ["_law_pool_here"] (defScope s__law_name) := ⟨rfl, rfl, rfl, by decide +kernel, rfl, by decide +kernel, by decide +kernel⟩
theorem ok_law_name (F : FD K d__law_name f fd) (T : Txt K mg) (c1 : Cal1 P w K mg base "_law_take" 1 ["_law_pool_here", "_law_sides"] spTake) (c2 : Cal1 P w K mg base "_law_word" 2 ["_law_pool_here"] spWd) : FnOk P w K mg base CX0 3 f fd ["_law_pool_here"] (spNm K) := by
  obtain ⟨_, k_law_take, b_law_take, G_law_take⟩ := c1
  obtain ⟨_, k_law_word, b_law_word, G_law_word⟩ := c2
  refine F.ok sc__law_name (fun vs H Q E h => ?_) (fun cdv A outer s H vs Q E hr h => ?_)
  · obtain ⟨S, p, _, _, rfl, _⟩ := h
    rfl
  · obtain ⟨S, p, iH, hp, rfl, k⟩ := h
    refine ⟨_, PSs.nox (pss_cons (ps_set (i := 1) sc__law_name.nd rfl (Or.inl rfl) (pe_lst pa_nil)) (pss_cons (ps_for PassesOwn.never rfl (pi_range1 (by rfl) T.f_range (pa_cons (pe_call G_law_take (hr.mono (by decide)) rfl T.g__law_take k_law_take b_law_take .nil pass0 (pa_cons (pv 0) (pa_cons pe_int pa_nil))) pa_nil)) (pg_name (i := 2) sc__law_name.nd rfl (Or.inl rfl)) (pss_cons (ps_set (i := 3) sc__law_name.nd rfl (Or.inl rfl) (pe_op op_add pe_int (pe_ix ix_list (pe_lst (pa_cons (pe_call G_law_take (hr.mono (by decide)) rfl T.g__law_take k_law_take b_law_take .nil pass0 (pa_cons (pv 0) (pa_cons pe_int pa_nil))) (pa_cons (pe_call G_law_take (hr.mono (by decide)) rfl T.g__law_take k_law_take b_law_take .nil pass0 (pa_cons (pv 0) (pa_cons (pe_op op_pow pe_int pe_int) pa_nil))) (pa_cons (pe_op op_sub (pe_op op_pow pe_int pe_int) pe_int) pa_nil)))) (pe_call G_law_take (hr.mono (by decide)) rfl T.g__law_take k_law_take b_law_take .nil pass0 (pa_cons (pv 0) (pa_cons pe_int pa_nil))) (fun _ _ => rfl)))) (pss_one (ps_expr (pe_bm PySem.F.plainAttrs_list PySem.F.slot_list_append PySem.F.type_list_append mt_append (pv 1) (pa_cons (pe_tup (pa_cons (pe_call G_law_word (hr.mono (by decide)) rfl T.g__law_word k_law_word b_law_word .nil pass0 (pa_cons (pv 0) pa_nil)) (pa_cons (pe_ix ix_list (pe_lst (pa_cons pe_str (pa_cons (pe_call G_law_word (hr.mono (by decide)) rfl T.g__law_word k_law_word b_law_word .nil pass0 (pa_cons (pv 0) pa_nil)) pa_nil))) (pe_call G_law_take (hr.mono (by decide)) rfl T.g__law_take k_law_take b_law_take .nil pass0 (pa_cons (pv 0) (pa_cons pe_int pa_nil))) (fun _ _ => rfl)) (pa_cons (pv 3) pa_nil)))) pa_nil)))))) (pss_one (ps_ret (pe_callTy call_tuple_of (by rfl) T.f_tuple bo_tuple (pa_cons (pv 1) pa_nil)))))), ?_⟩
    refine x_newL (S := S) (i := 1) iH va_nil monoL_nil (by simp) fun q xs H2 j2 e2 n2 ax => ?_
    have hxs : xs = [] := by
      cases xs with
      | nil => rfl
      | cons a r => exact ax.elim
    subst hxs
    show tSeq (tFor _ _ _) _ _ [some (.ref p), some (.ref q), none, none] H2
    refine x_forx (S := S.lst q []) (S2 := S.hid q) (C := fun n => n ≤ 4) (Pi := fun i v _ => v = .int (i : Nat)) rfl (fun _ i => lst_hid i) j2 (vx_rng ((v_take hp.hide (v_var rfl) v_c (by decide) (by decide)).imp fun v h1 _ ⟨n, h2, h3, h4⟩ => ⟨n.toNat, by rw [h2]; congr 1; omega, by omega⟩) (fun n h => by omega))
      (fun i σ' H' => ∃ acc ds, (S.lst q acc).I H' ∧ DdAll K (hv (S.vw H') q) acc ds ∧ ds.length = i ∧ ds.all isMarkD = true ∧ ∃ o2 o3, σ' = [some (.ref p), some (.ref q), o2, o3])
      (fun i σ' H1 H2 _ e ⟨acc, ds, a, b, c⟩ => ⟨acc, ds, ((S.lst q acc).up a e).1, MeE.DdAll.up ((S.lst q acc).up a e).2 b, c⟩) (fun H' i' e' => ⟨[], [], i', .nil, rfl, rfl, none, none, rfl⟩) ?turn ?done
    case done =>
      intro n σ' H' hn i' e' hP
      obtain ⟨acc, ds, jA, dA, lA, mA, o2, o3, rfl⟩ := hP
      have hD : Dd K (S.vw H') (.ref q) (.list ds) := Dd.lst (sq_of (lst_at jA)) (MeE.DdAll.up (hide_ex (J := fun o => o = .lst acc)) dA)
      exact x_ret (S := S) jA.1 (v_tupOf (vd_var (i := 1) rfl hD)) fun v5 H5 i5 e5 p5 => k v5 ds H5 i5 ((e2.trans (e'.trans hide_ex)).trans e5) mA (by omega) p5
    case turn =>
      intro n i z σ' H' hn hi i1 e1 hz hP N hN
      obtain ⟨acc, ds, jA, dA, lA, mA, o2, o3, rfl⟩ := hP
      show tSeq (tAsg _ _) _ _ [some (.ref p), some (.ref q), some z, o3] H'
      have hpA : HasPool (S.lst q acc) p := hp.hide
      have m0 : Mono Num0 := fun _ _ _ _ h => h
      have m3 : MonoL [Num0, Num0, Num0] := monoL_cons m0 (monoL_cons m0 (monoL_cons m0 monoL_nil))
      refine x_asgq (S := S.lst q acc) (P := Num1) jA (v_op (P := Is (.int 1)) (P' := Num0) v_c (v_ixAny (Ps := [Num0, Num0, Num0]) (v_lst (va_cons ((v_take hpA (v_var rfl) v_c (by decide) (by decide)).imp fun v h1 _ ⟨n, h2, h3, h4⟩ => ⟨n, h2, h3, by omega⟩) m0 (va_cons ((v_take (sd := 1000000) hpA (v_var rfl) ((v_opV v_c v_c (rv_I ⟨by decide, by decide, by decide⟩)).is (by rw [pw6])) (by decide) (by decide)).imp fun v h1 _ ⟨n, h2, h3, h4⟩ => ⟨n, h2, h3, by omega⟩) m0 (va_cons ((v_opV (v_opV v_c v_c (rv_I ⟨by decide, by decide, by decide⟩)) v_c rv_I0).imp fun v h1 _ h2 => ⟨999999999999999999, by
          have h2' : v = .int ((10 : Int) ^ (18 : Int).toNat - 1) := h2
          rw [h2', pw18]
          rfl, by decide, by decide⟩) m0 va_nil))) m3 (by simp)) m3 (v_take hpA (v_var rfl) v_c (by decide) (by decide)) (fun R hR v h1 hv => by
          simp only [List.mem_cons, List.not_mem_nil, or_false, or_self] at hR
          subst hR
          exact hv)) (mono_is _) fun a b H1 i1 e1 pa pb Q q => by
            have pa' : a = .int 1 := pa
            subst pa'
            obtain ⟨n, rfl, n0, n1⟩ := pb
            exact ⟨1, n, rfl, rfl, q _ H1 i1 (Ex.refl _) ⟨1 + n, rfl, by omega, by omega⟩⟩) fun v3 H3 i3 e3 p3 => ?_
      obtain ⟨num, rfl, hn1, hn2⟩ := p3
      have mW : Mono Wd := fun _ _ _ _ h => h
      have mS : Mono Sr := fun _ _ _ _ h => h
      have m2 : MonoL [Sr, Sr] := monoL_cons mS (monoL_cons mS monoL_nil)
      refine x_app (S := S) (P := Mk K) i3 rfl ((v_tup (Ps := [Wd, Sr, Is (.int num)]) (va_cons (v_wd hpA (v_var rfl)) mW (va_cons (v_ixAny (Ps := [Sr, Sr]) (v_lst (va_cons (Gv.imp v_c fun v h1 _ h2 => ⟨"", h2, .inl rfl⟩) mS (va_cons ((v_wd hpA (v_var rfl)).imp fun v h1 _ ⟨x, h2, h3⟩ => ⟨x, h2, .inr h3⟩) mS va_nil)) m2 (by simp)) m2 (v_take hpA (v_var rfl) v_c (by decide) (by decide)) (fun R hR v h1 hv => by
          simp only [List.mem_cons, List.not_mem_nil, or_false, or_self] at hR
          subst hR
          exact hv)) mS (va_cons (v_var rfl) (mono_is _) va_nil))) (monoL_cons mW (monoL_cons mS (monoL_cons (mono_is _) monoL_nil))) (by simp)).imp fun v h1 _ t => mk_row ⟨hn1, hn2⟩ t) (by have := (ddAll_get dA).1; omega) fun u H7 i7 e7 p7 => ?_
      obtain ⟨d, d1, d2⟩ := p7
      refine hN _ _ (lst_hid i7) (e3.trans e7) ⟨acc ++ [u], ds ++ [d], i7, ddAll_snoc (MeE.DdAll.up (e3.trans e7) dA) (show Dd K (hv (S.vw H7) q) u d from d2), by simp [lA], ?_, _, _, rfl⟩
      rw [List.all_append, mA]
      simp [d1]
end
end K03
set_option Elab.async false
set_option linter.all false
set_option maxRecDepth 100000
set_option maxHeartbeats 4000000
set_option pp.maxSteps 600
set_option pp.deepTerms false
namespace K03
open PySem PySem.Spec PyProof.Rows L2 He MeH MeG MeK Evl MeV MeL TL LamX
open MeE (VP Mono Is All MonoL Lst Tup mono_is monoL_nil monoL_cons monoL_app mono_lst mono_tup DP DV mono_dp mono_dv mono_dvs mono_dps spI1 XV)

theorem boot_repr : bootBuiltins "repr" = some (.builtin "repr") := by decide +kernel
/-- _law_refused(lambda: .., thing) -/
def TTr (K : PySem.W.Frag) (C : Addr) (q : Str) (params : Arguments) (body : Expr) (scope : Scope) (cl : List (Str × Addr)) (tl : XK → TE) : L2.St → List V → Hp → VK → Prop := fun σ vs H Q => ∃ (f c' : Addr) (v : V) (d : PyData), vs = [.ref f, v] ∧ H f = some (LamO f c' q params body scope cl) ∧ H c' = some (CodeO c' q) ∧ Dd K H v d ∧ d.showable = true ∧ d.depth ≤ 60 ∧ d.shown.length ≤ sizeLine ∧
  tl (fun cls dx H' => cls = .ref C ∧ ∃ (x : Addr) (w : V), dx = some x ∧ H' x = some (.xd [("value", w)]) ∧ Dd K H' w d ∧ Dd K H' v d ∧ Q (.bl true) H') σ H (fun _ H' => Q (.bl false) H')
theorem sc__law_refused : FnScope ["_law_door", "_law_thing", "e"] ["_law_door", "_law_thing"] (defScope s__law_refused) := ⟨rfl, rfl, rfl, by decide +kernel, rfl, by decide +kernel, by decide +kernel⟩
section
variable {X : Cx} {pins : List (Addr × Obj)} {σ : L2.St} {H : Hp} {s : Shared}
theorem refused_in (T : Txt X.K X.mg) {g : Addr} {cdv : Value} {k : Nat} {vs : List V} {Q : VK} {params : Arguments} {body : Expr} {scope : Scope} {tl : XK → TE} (hgd : X.A.guards = some []) (I : Inv X pins σ H s) (hr : Room (k + 1) (X.A.deeper (envOfC "_law_refused" (defScope s__law_refused) s.heap.objs.size g cdv)))
    (L : LamS X.env.scope scope) (hbind : ∀ (q : Str) (cl : List (Str × Addr)) (pm cv ctv : Value), bindArgs (PySem.W.kla_fn "<lambda>" q params body scope cl pm cv ctv) ⟨[], []⟩ = pure [])
    (hbody : ∀ (E : XK) (A : Around) (outer : List Env) (s : Shared) (H : Hp) (f c' : Addr), A.guards = X.A.guards → Room k (A.deeper (lamEnv X scope s.heap.objs.size f c')) → PE (lamCx X A outer s H E scope f c') body (tl E))
    (hmono : ∀ (W1 W2 : XK) (Q1 Q2 : VK), (∀ cls dx H', W1 cls dx H' → W2 cls dx H') → (∀ u H', Q1 u H' → Q2 u H') → tl W1 σ H Q1 → tl W2 σ H Q2)
    (h : TTr X.K (CIN X.K) (X.env.qual ++ "<lambda>") params body scope (cloFrom X.env.cells scope.names []) tl σ vs H Q) :
    ∃ t, PSs (cxOf L2.CX0 X.prog X.w X.K X.mg X.base ["_law_door", "_law_thing", "e"] "_law_refused" (defScope s__law_refused) g cdv X.A X.stack s H L2.E0) (defBody s__law_refused) t ∧ t { nx := fun _ H' => Q .non H', rt := Q } (L2.start ["_law_door", "_law_thing", "e"] vs) H := by
  obtain ⟨f, c', v, d, rfl, hf, hc, hv, hs, hdp, hsz, ht⟩ := h
  have hgd2 : ∀ a : Addr, ((X.A.deeper (envOfC "_law_refused" (defScope s__law_refused) s.heap.objs.size g cdv)).mark (some (.ref a))).guards = some [] := fun _ => hgd
  have hu2 : ∀ a : Addr, ((X.A.deeper (envOfC "_law_refused" (defScope s__law_refused) s.heap.objs.size g cdv)).mark (some (.ref a))).units + 64 < cLine := fun _ => hr.units
  refine ⟨_, pss_cons (ps_try_as (X := cxOf L2.CX0 X.prog X.w X.K X.mg X.base ["_law_door", "_law_thing", "e"] "_law_refused" (defScope s__law_refused) g cdv X.A X.stack s H L2.E0) (i := 2) (c := .ref (CIN X.K)) (ts := fun a cls d => tRet (tOp rEq (tCB (rRepr X.K) (tCons (tXf a cls d (CIN X.K) "value" (tVar 2)) tNil)) (tCB (rRepr X.K) (tCons (tVar 1) tNil))))
      (tb := fun W => tDrop (tActK 0 (X.env.qual ++ "<lambda>") params body scope (cloFrom X.env.cells scope.names []) σ W tl))
      rfl rfl sc__law_refused.nd rfl rfl ⟨rfl, by decide, .inl T.g_InvalidName⟩ LamX.takes0 (fun W pn xe tk _ => pss_one (ps_expr (pe_actK (i := 0) I L hbind tk hr hbody rfl (.inl rfl)))) (fun a oe cls dx pn hz hf => pss_one (ps_ret (pe_cmpR op_eq (pe_callB (call_repr (X := (cxOf L2.CX0 X.prog X.w X.K X.mg X.base ["_law_door", "_law_thing", "e"] "_law_refused" (defScope s__law_refused) g cdv X.A X.stack s H L2.E0).suite a ((a, oe) :: pn)) (hgd2 a) (hu2 a) T.sys) (by rfl) T.f_repr boot_repr (pa_cons (pe_xf (xf_ok T.x_InvalidName) T.n_InvalidName_value hz hf (pv 2)) pa_nil)) (pe_callB (call_repr (X := (cxOf L2.CX0 X.prog X.w X.K X.mg X.base ["_law_door", "_law_thing", "e"] "_law_refused" (defScope s__law_refused) g cdv X.A X.stack s H L2.E0).suite a ((a, oe) :: pn)) (hgd2 a) (hu2 a) T.sys) (by rfl) T.f_repr boot_repr (pa_cons (pv 1) pa_nil)) (nomark _)))))
    (pss_one (ps_ret pe_bl)), ?_⟩
  refine ⟨f, c', rfl, hf, hc, ?_⟩
  have key : ∀ (W1 W2 : XK) (Q1 Q2 : VK), (∀ cls dx H', W1 cls dx H' → W2 cls dx H') → (∀ u H', Q1 u H' → Q2 u H') → tl W1 σ H Q1 → tl W2 σ H Q2 := hmono
  refine key _ _ _ _ (fun cls dx H' hE => ?_) (fun u H' hq => hq) ht
  obtain ⟨rfl, x, y, rfl, hx, hy, hv2, hq⟩ := hE
  refine ⟨true, T.m_InvalidName_InvalidName, fun _ a ha => ?_, fun z => nomatch z⟩
  refine ⟨_, rfl, rfl, rfl, x, [("value", y)], y, rfl, hx, by simp [List.lookup], y, d, rfl, hy, hs, hdp, hsz, v, rfl, v, d, rfl, hv2, hs, hdp, hsz, rfl, ?_⟩
  show Q (.bl (decide (V.str d.shown = V.str d.shown))) H'
  rw [decide_eq_true rfl]
  exact hq
end
end K03
set_option Elab.async false
set_option linter.all false
set_option maxRecDepth 100000
set_option maxHeartbeats 4000000
set_option pp.maxSteps 600
set_option pp.deepTerms false
namespace K03
open PySem PySem.Spec PyProof.Rows L2 He MeH MeG MeK Evl MeV MeL TL LamX
open MeE (VP Mono Is All MonoL Lst Tup mono_is monoL_nil monoL_cons monoL_app mono_lst mono_tup DP DV mono_dp mono_dv mono_dvs mono_dps spI1 XV)

section
variable {X : Cx}
/-- what the def that is called needs -/
structure RefF (K : PySem.W.Frag) (mg : Str → Option Value) (g : Addr) (fd : FuncData) : Prop where
  F : FunD K "_law_refused" "_law_refused" (defArgs s__law_refused) (defBody s__law_refused) (defScope s__law_refused) [] [] g fd
  m : mg "_law_refused" = some (.ref g)
  k : PySem.W.keepIn K (.ref g) = true
  b : L2.Binds K fd ["_law_door", "_law_thing"] []
def tRef (K : PySem.W.Frag) (T : List (Addr × Str)) (q : Str) (params : Arguments) (body : Expr) (scope : Scope) (cl : List (Str × Addr)) (tl : XK → TE) (te : TE) : TE := tIn (TTr K (CIN K) q params body scope cl tl) 2 (tCons (tLamV T q params body scope cl) (tCons te tNil))
theorem pe_refused (Tx : Txt X.K X.mg) {g c P : Addr} {fd : FuncData} {k : Nat} {T : List (Addr × Str)} {params : Arguments} {body e : Expr} {scope : Scope} {tl : XK → TE} {te : TE} {p pos lpos : Pos} (R : RefF X.K X.mg g fd) (hgd : X.A.guards = some []) (hr : Room (k + 2) X.A)
    (TB : TabB X.base X.mg c P) (hcode : X.env.code = .ref c) (hm : (P, X.env.qual ++ "<lambda>") ∈ T) (hu : ∀ p ∈ T, p.1 = P → p.2 = X.env.qual ++ "<lambda>") (hdef : defaultsOf params X.env = ([], [])) (L : LamS X.env.scope scope)
    (hbind : ∀ (q : Str) (cl : List (Str × Addr)) (pm cv ctv : Value), bindArgs (PySem.W.kla_fn "<lambda>" q params body scope cl pm cv ctv) ⟨[], []⟩ = pure [])
    (hbody : ∀ (E : XK) (A : Around) (outer : List Env) (s : Shared) (H : Hp) (f c' : Addr), A.guards = X.A.guards → Room k (A.deeper (lamEnv X scope s.heap.objs.size f c')) → PE (lamCx X A outer s H E scope f c') body (tl E))
    (hmono : ∀ (σ : L2.St) (H : Hp) (W1 W2 : XK) (Q1 Q2 : VK), (∀ cls dx H', W1 cls dx H' → W2 cls dx H') → (∀ u H', Q1 u H' → Q2 u H') → tl W1 σ H Q1 → tl W2 σ H Q2) (hg : Gl X "_law_refused") (he : PE X e te)
    (hst : starEach [.Lambda params body scope lpos, e] X.env = (false, eval (.Lambda params body scope lpos) X.env) :: starEach [e] X.env := by rfl) (hpl : (backTo pos (starEach [e] X.env)).any (·.1) = false := by rfl) (hs2 : starEach [e] X.env = (false, eval e X.env) :: starEach [] X.env := by rfl) :
    PE X (.Call (.Name "_law_refused" p) [.Lambda params body scope lpos, e] [] pos) (tRef X.K T (X.env.qual ++ "<lambda>") params body scope (cloFrom X.env.cells scope.names []) tl te) :=
  pe_callIn (k := k + 1) (ps := ["_law_door", "_law_thing"]) R.F hg R.m R.k R.b sc__law_refused hr (fun cdv pins s σ H vs Q I hr' hl h => refused_in Tx hgd I hr' L hbind hbody (hmono σ H) h) (pa_cons (pe_lam TB hcode hm hu hdef L) (pa_cons he pa_nil hs2) hst) (by decide) hst hpl
end
end K03
set_option Elab.async false
set_option linter.all false
set_option maxRecDepth 100000
set_option maxHeartbeats 4000000
set_option pp.maxSteps 600
set_option pp.deepTerms false
namespace K03
open PySem PySem.Spec PyProof.Rows L2 He MeH MeG MeK Evl MeV MeL TL LamX
open MeE (VP Mono Is All MonoL Lst Tup mono_is monoL_nil monoL_cons monoL_app mono_lst mono_tup DP DV mono_dp mono_dv mono_dvs mono_dps spI1 XV)

/-- the call raises the error of the class C, its value told by P -/
def GvX (S : Wv) (tl : XK → TE) (σ : L2.St) (h : Hp) (P : VP) (C : Addr) : Prop := ∀ H1, S.I H1 → Ex h (S.vw H1) → ∀ (E : XK) (Q : VK), (∀ x w H2, S.I H2 → Ex (S.vw H1) (S.vw H2) → S.vw H2 x = some (.xd [("value", w)]) → P w (S.vw H2) → E (.ref C) (some x) H2) → tl E σ H1 Q
/-- may be shown -/
structure Shw (d : PyData) : Prop where
  s : d.showable = true
  dp : d.depth ≤ 60
  l : d.shown.length ≤ sizeLine
section
variable {S : Wv} {K : PySem.W.Frag} {σ : L2.St} {h : Hp}
theorem v_ref {T : List (Addr × Str)} {q : Str} {params : Arguments} {body : Expr} {scope : Scope} {cl : List (Str × Addr)} {tl : XK → TE} {te : TE} {d : PyData} (ht : HasTab S T) (hl : GvX S tl σ h (DV K d) (CIN K)) (ge : Gv S te σ h (DV K d)) (hs : Shw d) :
    Gv S (tRef K T q params body scope cl tl te) σ h (Is (.bl true)) := by
  refine v_in (Ps := All [LamV q params body scope cl, DV K d]) (va_cons (v_lam ht) mono_lam (va_cons ge (mono_dv d) va_nil)) (fun vs h1 ps => ps.len) fun vs H1 i e ps Q q0 => ?_
  obtain ⟨a, b, rfl, ⟨f, c', rfl, hf, hc⟩, hb⟩ := MeE.all2 ps
  refine ⟨f, c', b, d, rfl, S.sub _ _ _ hf, S.sub _ _ _ hc, MeE.Dd.up (S.sub _) hb, hs.s, hs.dp, hs.l, hl H1 i e _ _ fun x w H2 i2 e2 hx hw => ?_⟩
  exact ⟨rfl, x, w, rfl, S.sub _ _ _ hx, MeE.Dd.up (S.sub _) hw, MeE.Dd.up (e2.trans (S.sub _)) hb, q0 _ H2 i2 e2 rfl⟩
theorem errX_of {C : Addr} {v : V} {H : Hp} {E : XK} (i : S.I H) (k : ∀ x H2, S.I H2 → Ex (S.vw H) (S.vw H2) → S.vw H2 x = some (.xd [("value", v)]) → E (.ref C) (some x) H2) : ErrX C v H E := err_s (H := H) i (Ex.refl _) k
/-- name_text(e) of what is no name -/
theorem x_nt {te : TE} {d : PyData} (ge : Gv S te σ h (DV K d)) (hz : SzN d) (hn : isNameD d = false) : GvX S (fun E => tCall (spNT K) [] E (tCons te tNil)) σ h (DV K d) (CIN K) := fun H1 i e E Q k =>
  ge H1 i e _ fun v H2 i2 e2 hv => ⟨v, d, rfl, MeE.Dd.up (S.sub _) hv, hz, fun z => (by rw [hn] at z; cases z), fun _ => errX_of i2 fun x H3 i3 e3 hx => k x v H3 i3 (e2.trans e3) hx (MeE.Dd.up e3 hv)⟩
/-- parse_name(e) of what can't be parsed -/
theorem x_pn {te : TE} {d : PyData} (ge : Gv S te σ h (DV K d)) (hz : szB d = true) (h4 : ∀ x, d = .str x → x.length ≤ 40000) (hn : parseD d = none) : GvX S (fun E => tCall (spPN K) [] E (tCons te tNil)) σ h (DV K d) (CIN K) := fun H1 i e E Q k =>
  ge H1 i e _ fun v H2 i2 e2 hv => ⟨S, i2, v, d, rfl, hv, hz, h4, fun ms z => (by rw [hn] at z; cases z), fun _ x H3 i3 e3 hx => k x v H3 i3 (e2.trans e3) hx (MeE.Dd.up e3 hv)⟩
/-- parse_name(e) of what can -/
theorem v_pn {te : TE} {d : PyData} {ms : List PyData} {E : XK} (ge : Gv S te σ h (DV K d)) (hz : szB d = true) (h4 : ∀ x, d = .str x → x.length ≤ 40000) (hn : parseD d = some ms) : Gv S (tCall (spPN K) [] E (tCons te tNil)) σ h (DV K (.tuple ms)) := fun H1 i e Q k =>
  ge H1 i e _ fun v H2 i2 e2 hv => ⟨S, i2, v, d, rfl, hv, hz, h4, fun ms' z u H3 i3 e3 hu => k u H3 i3 (e2.trans e3) (by rw [hn] at z; cases z; exact hu), fun z => (by rw [hn] at z; cases z)⟩
/-- name_text(e) of a name -/
theorem v_nt {te : TE} {d : PyData} {E : XK} (ge : Gv S te σ h (DV K d)) (hz : SzN d) (hn : isNameD d = true) : Gv S (tCall (spNT K) [] E (tCons te tNil)) σ h (Is (.str (nameT d))) := fun H1 i e Q k =>
  ge H1 i e _ fun v H2 i2 e2 hv => ⟨v, d, rfl, MeE.Dd.up (S.sub _) hv, hz, fun _ H3 e3 => k _ H3 (S.up i2 e3).1 (e2.trans (S.up i2 e3).2) rfl, fun z => (by rw [hn] at z; cases z)⟩
/-- _law_parsed(e) -/
theorem v_lp {te : TE} {x : Str} {E : XK} (ge : Gv S te σ h (Is (.str x))) (h4 : x.length ≤ 40000) (hc : PyData.canLay0 (.str x) = true) : Gv S (tCall (spLP K) [] E (tCons te tNil)) σ h (DV K (resD x)) := fun H1 i e Q k =>
  ge H1 i e _ fun v H2 i2 e2 hv => ⟨S, i2, x, (by have hv' : v = .str x := hv; rw [hv']; rfl), h4, hc, fun u H3 i3 e3 hu => k u H3 i3 (e2.trans e3) hu⟩
theorem mono_nt {te : TE} (m : ∀ (σ : L2.St) (H : Hp) (Q1 Q2 : VK), (∀ u H', Q1 u H' → Q2 u H') → te σ H Q1 → te σ H Q2) (σ : L2.St) (H : Hp) (W1 W2 : XK) (Q1 Q2 : VK) (hW : ∀ cls dx H', W1 cls dx H' → W2 cls dx H') (hQ : ∀ u H', Q1 u H' → Q2 u H') :
    tCall (spNT K) [] W1 (tCons te tNil) σ H Q1 → tCall (spNT K) [] W2 (tCons te tNil) σ H Q2 := fun t =>
  m σ H _ _ (fun u H' ⟨v, d, a, b, c, e, f⟩ => ⟨v, d, a, b, c, fun z H2 e2 => hQ _ _ (e z H2 e2), fun z dx H2 e2 n hx => hW _ _ _ (f z dx H2 e2 n hx)⟩) t
theorem mono_pn {te : TE} (m : ∀ (σ : L2.St) (H : Hp) (Q1 Q2 : VK), (∀ u H', Q1 u H' → Q2 u H') → te σ H Q1 → te σ H Q2) (σ : L2.St) (H : Hp) (W1 W2 : XK) (Q1 Q2 : VK) (hW : ∀ cls dx H', W1 cls dx H' → W2 cls dx H') (hQ : ∀ u H', Q1 u H' → Q2 u H') :
    tCall (spPN K) [] W1 (tCons te tNil) σ H Q1 → tCall (spPN K) [] W2 (tCons te tNil) σ H Q2 := fun t =>
  m σ H _ _ (fun u H' ⟨S, i, v, d, a, b, c, c2, e, f⟩ => ⟨S, i, v, d, a, b, c, c2, fun ms z u2 H2 i2 e2 h2 => hQ _ _ (e ms z u2 H2 i2 e2 h2), fun z dx H2 i2 e2 hx => hW _ _ _ (f z dx H2 i2 e2 hx)⟩) t
theorem mono_v {i : Nat} (σ : L2.St) (H : Hp) (Q1 Q2 : VK) (hQ : ∀ u H', Q1 u H' → Q2 u H') : tVar i σ H Q1 → tVar i σ H Q2 := fun ⟨v, a, b⟩ => ⟨v, a, hQ _ _ b⟩
theorem mono_t1 {i : Nat} (σ : L2.St) (H : Hp) (Q1 Q2 : VK) (hQ : ∀ u H', Q1 u H' → Q2 u H') : tTup (tCons (tVar i) tNil) σ H Q1 → tTup (tCons (tVar i) tNil) σ H Q2 := fun ⟨v, a, b, c⟩ => ⟨v, a, b, fun p hp => hQ _ _ (c p hp)⟩
end
end K03
set_option Elab.async false
set_option linter.all false
set_option maxRecDepth 100000
set_option maxHeartbeats 4000000
namespace K03
open PySem PySem.Spec PyProof.Rows L2 MeH MeG Evl MeV MeL
open MeE (VP Mono Is All MonoL Lst Tup mono_is DP DV mono_dp mono_dv mono_dvs mono_dps)
/-- for x in data: if test: return ..; the test never holds -/
theorem x_loopD {S : Wv} {K : PySem.W.Frag} {H : Hp} {D : Ends} {tz tr : TS} {tl : TE} {tt : TT} {ds : List PyData} {o0 o1 : Option V} (iH : S.I H) (gl : Gv S tl [o0, o1] (S.vw H) (DV K (.list ds)))
    (ht : ∀ d ∈ ds, ∀ (x : V) (h1 : Hp), Dd K h1 x d → GvT S tt [some x, o1] h1 false) (k : ∀ o H', S.I H' → Ex (S.vw H) (S.vw H') → tz D [o, o1] H') : tSeq (tFor (iList K tl) (gName 0) (tIfS tt tr tNext)) tz D [o0, o1] H := by
  refine x_forq (S := S) (S2 := S) rfl (fun _ i => i) iH (vi_dvL gl) (fun _ σ' _ => ∃ o, σ' = [o, o1]) (fun _ _ _ _ _ _ _ p => p) (fun _ _ _ => ⟨o0, rfl⟩) (fun i x σ' H' hi i' e' hx hP N hN => ?_) fun σ' H' i' e' hP => ?_
  · obtain ⟨o, rfl⟩ := hP
    obtain ⟨d, h1, h2⟩ := hx
    show tIfS tt tr tNext _ [some x, o1] H'
    exact x_if (S := S) i' (ht d (List.mem_of_getElem? h1) x _ h2) (fun z => nomatch z) fun _ H2 i2 e2 => hN _ H2 i2 e2 ⟨some x, rfl⟩
  · obtain ⟨o, rfl⟩ := hP
    exact k o H' i' e'
end K03
set_option Elab.async false
set_option linter.all false
set_option maxRecDepth 100000
set_option maxHeartbeats 4000000
set_option pp.maxSteps 600
set_option pp.deepTerms false
namespace K03
open PySem PySem.Spec PyProof.Rows L2 He MeH MeG MeK Evl MeV MeL TL LamX
open MeE (VP Mono Is All MonoL Lst Tup mono_is monoL_nil monoL_cons monoL_app mono_lst mono_tup DP DV mono_dp mono_dv mono_dvs mono_dps spI1 XV)
/-! texts of names: their signs, their lengths, read back -/
theorem let_in {c : Nat} (h : isLet c = true) : 97 ≤ c ∧ c ≤ 122 := by
  have h2 : c ∈ LET.cps.toList := of_decide_eq_true h
  have h3 : LET.cps.toList = (List.range 26).map (97 + ·) := by decide
  rw [h3] at h2
  obtain ⟨i, hi, rfl⟩ := List.mem_map.mp h2
  have := List.mem_range.mp hi
  omega
theorem word_in {x : Str} (h : isWordS x = true) : ∀ c ∈ tl x, 97 ≤ c ∧ c ≤ 122 := fun c hc => by
  obtain ⟨_, h2⟩ := Bool.and_eq_true_iff.mp h
  exact let_in (List.all_eq_true.mp h2 c hc)
theorem num_tl {n : Int} (h : 1 ≤ n) : tl (toString n : Str) = numL n.toNat := by
  have e : ((n.toNat : Nat) : Int) = n := Int.toNat_of_nonneg (by omega)
  have t := tl_num n.toNat
  rw [e] at t
  exact t
theorem numL_head : ∀ n : Nat, 1 ≤ n → ∃ c r, numL n = c :: r ∧ c ≠ 48 := fun n => by
  induction n using Nat.strongRecOn with
  | _ n ih =>
    intro h0
    by_cases h : n < 10
    · exact ⟨48 + n, [], numL_lt h, by omega⟩
    · obtain ⟨c, r, e, hc⟩ := ih (n / 10) (by omega) (by omega)
      exact ⟨c, r ++ [48 + n % 10], by rw [numL_step (by omega), e] <;> rfl, hc⟩
theorem dig_of {c : Nat} (h : 48 ≤ c ∧ c ≤ 57) : isDig c = true := by
  refine decide_eq_true ?_
  have h3 : DIG.cps.toList = (List.range 10).map (48 + ·) := by decide
  rw [h3]
  exact List.mem_map.mpr ⟨c - 48, List.mem_range.mpr (by omega), by omega⟩
theorem num_ok {n : Int} (h0 : 1 ≤ n) (h1 : n ≤ 1000000000000000000) : numOk (toString n : Str) = true ∧ numI (toString n : Str) = n := by
  have ht := num_tl h0
  have hl := num_len h0 h1
  obtain ⟨c, r, e, hc⟩ := numL_head n.toNat (by omega)
  have hlen : (toString n : Str).length = (numL n.toNat).length := by rw [len_tl, ht]
  constructor
  · unfold numOk
    refine Bool.and_eq_true_iff.mpr ⟨Bool.and_eq_true_iff.mpr ⟨decide_eq_true ?_, decide_eq_true (by omega)⟩, Bool.and_eq_true_iff.mpr ⟨?_, ?_⟩⟩
    · rw [hlen, e, List.length_cons]
      omega
    · have hf : first0 (toString n : Str) = false := by
        unfold first0
        have ht' : (toString n : Str).cps.toList = c :: r := ht.trans e
        rw [ht']
        refine decide_eq_false fun z => ?_
        have z' := congrArg Str.cps (V.str.inj z)
        have z2 : (#[c] : Array Nat) = #[48] := z'
        have z3 : c = 48 := by simpa using z2
        exact hc z3
      rw [hf]
      rfl
    · refine List.all_eq_true.mpr fun d hd => ?_
      have hd' : d ∈ numL n.toNat := ht ▸ hd
      have := numL_digits n.toNat d hd'
      exact dig_of (by omega)
  · unfold numI
    have ht' : (toString n : Str).cps.toList = numL n.toNat := ht
    rw [ht', numL_val]
    exact Int.toNat_of_nonneg (by omega)
theorem num_in {n : Int} (h : 1 ≤ n) : ∀ c ∈ tl (toString n : Str), 48 ≤ c ∧ c ≤ 57 := fun c hc => by
  rw [num_tl h] at hc
  have := numL_digits n.toNat c hc
  omega
theorem mark_join (l s : Str) (n : Int) : markT l s n = Txt.join "." (if s = ("" : Str) then [l, toString n] else [l, s, toString n]) := by
  unfold markT
  split
  · rw [join_eq] <;> rfl
  · rw [join_eq]
    refine ext_tl ?_
    show tl (l ++ "." ++ s ++ "." ++ (toString n : Str)) = tl (l ++ "." ++ (s ++ "." ++ (toString n : Str)))
    rw [tl_append, tl_append, tl_append, tl_append, tl_append, tl_append, tl_append, tl_append]
    simp only [List.append_assoc]
theorem mark_split {l s : Str} {n : Int} (h1 : isWordS l = true) (h2 : s = ("" : Str) ∨ isWordS s = true) (h3 : 1 ≤ n) : Txt.split (markT l s n) "." = (if s = ("" : Str) then [l, toString n] else [l, s, toString n]) := by
  rw [mark_join]
  refine split_join (s := 46) (S := []) (by decide) (by decide +kernel) (by split <;> simp) fun p hp hc => ?_
  have hw : p = l ∨ isWordS p = true ∨ p = (toString n : Str) := by
    split at hp
    · rcases List.mem_cons.mp hp with z | z
      · exact .inl z
      · rcases List.mem_cons.mp z with z | z
        · exact .inr (.inr z)
        · cases z
    · rename_i hs
      rcases List.mem_cons.mp hp with z | z
      · exact .inl z
      · rcases List.mem_cons.mp z with z | z
        · rcases h2 with h2 | h2
          · exact absurd h2 hs
          · exact .inr (.inl (z ▸ h2))
        · rcases List.mem_cons.mp z with z | z
          · exact .inr (.inr z)
          · cases z
  rcases hw with rfl | hw | rfl
  · have := word_in h1 46 hc
    omega
  · have := word_in hw 46 hc
    omega
  · have := num_in h3 46 hc
    omega
theorem mark_back {d : PyData} (h : isMarkD d = true) : markInD (markTD d) = d := by
  obtain ⟨l, s, n, rfl, h1, h2, h3, h4⟩ := mark_inv h
  rw [raw_mark]
  have e : rawIn (markTD (.tuple [.str l, .str s, .int n])) = some (.tuple [.str l, .str s, .int n]) := by
    show rawL (Txt.split (markT l s n) ".") = _
    rw [mark_split h1 h2 h3]
    obtain ⟨k1, k2⟩ := num_ok h3 h4
    split
    · rename_i hs
      subst hs
      show rawOf l "" (toString n) = _
      unfold rawOf
      rw [if_pos k1, k2]
    · rename_i hs
      show (if s = ("" : Str) then none else rawOf l s (toString n)) = _
      rw [if_neg hs]
      unfold rawOf
      rw [if_pos k1, k2]
  rw [e]
  show (if isMarkD _ = true then _ else _) = _
  rw [if_pos h]
/-- signs of a mark's text -/
def sgOk (c : Nat) : Prop := c = 46 ∨ (48 ≤ c ∧ c ≤ 57) ∨ (97 ≤ c ∧ c ≤ 122)
theorem mark_in_s {d : PyData} (h : isMarkD d = true) : ∀ c ∈ tl (markTD d), sgOk c := fun c hc => by
  obtain ⟨l, s, n, rfl, h1, h2, h3, h4⟩ := mark_inv h
  have hd : tl (("." : Str)) = [46] := tl_dot
  have hc' : c ∈ tl (markT l s n) := hc
  unfold markT at hc'
  split at hc'
  · rw [tl_append, tl_append, hd] at hc'
    rcases List.mem_append.mp hc' with z | z
    · rcases List.mem_append.mp z with z | z
      · exact .inr (.inr (word_in h1 c z))
      · exact .inl (List.mem_singleton.mp z)
    · exact .inr (.inl (num_in h3 c z))
  · rename_i hs
    rw [tl_append, tl_append, tl_append, tl_append, hd] at hc'
    have h2' : isWordS s = true := by
      rcases h2 with z | z
      · exact absurd z hs
      · exact z
    rcases List.mem_append.mp hc' with z | z
    · rcases List.mem_append.mp z with z | z
      · rcases List.mem_append.mp z with z | z
        · rcases List.mem_append.mp z with z | z
          · exact .inr (.inr (word_in h1 c z))
          · exact .inl (List.mem_singleton.mp z)
        · exact .inr (.inr (word_in h2' c z))
      · exact .inl (List.mem_singleton.mp z)
    · exact .inr (.inl (num_in h3 c z))
theorem mark_first {d : PyData} (h : isMarkD d = true) : 1 ≤ (markTD d).length := by
  obtain ⟨l, s, n, rfl, h1, h2, h3, h4⟩ := mark_inv h
  have a := (word_len h1).1
  show 1 ≤ (markT l s n).length
  unfold markT
  split
  · rw [len_app, len_app]
    omega
  · rw [len_app, len_app, len_app, len_app]
    omega
theorem joinL_in {S : List Nat} : ∀ {ps : List (List Nat)} {c : Nat}, c ∈ joinL S ps → c ∈ S ∨ ∃ p ∈ ps, c ∈ p
  | [], c, h => by cases h
  | [p], c, h => .inr ⟨p, List.mem_cons_self, h⟩
  | p :: q :: r, c, h => by
    have h' : c ∈ p ++ (S ++ joinL S (q :: r)) := h
    rcases List.mem_append.mp h' with z | z
    · exact .inr ⟨p, List.mem_cons_self, z⟩
    · rcases List.mem_append.mp z with z | z
      · exact .inl z
      · rcases joinL_in z with z | ⟨p', h1, h2⟩
        · exact .inl z
        · exact .inr ⟨p', List.mem_cons_of_mem _ h1, h2⟩
theorem join_pos {a : Str} {y : Str} {r : List Str} (h : 1 ≤ y.length) : ¬ (Txt.join a (y :: r)).length = 0 := by
  rw [join_eq]
  cases r with
  | nil =>
    show ¬ y.length = 0
    omega
  | cons z r =>
    have e : Str.join a (y :: z :: r) = y ++ a ++ Str.join a (z :: r) := rfl
    rw [e, len_app, len_app]
    omega
theorem join_in {ds : List PyData} (h : ds.all isMarkD = true) : ∀ c ∈ tl (Txt.join "+" (ds.map markTD)), c = 43 ∨ sgOk c := fun c hc => by
  rw [join_eq, tl_join] at hc
  rcases joinL_in hc with z | ⟨p, hp, z⟩
  · have e : tl (("+" : Str)) = [43] := tl_plus
    rw [e] at z
    exact .inl (List.mem_singleton.mp z)
  · rw [List.map_map] at hp
    obtain ⟨d, hd, rfl⟩ := List.mem_map.mp hp
    exact .inr (mark_in_s (List.all_eq_true.mp h d hd) c z)
theorem nameT_cons {d : PyData} {ds : List PyData} (h : (d :: ds).all isMarkD = true) : nameT (.tuple (d :: ds)) = Txt.join "+" ((d :: ds).map markTD) := by
  have h1 := List.all_eq_true.mp h d List.mem_cons_self
  have n := join_pos (a := "+") (r := ds.map markTD) (mark_first h1)
  show (if (Txt.join "+" ((d :: ds).map markTD)).length = 0 then ("/" : Str) else _) = _
  exact if_neg n
theorem nameT_nil : nameT (.tuple []) = ("/" : Str) := by decide
theorem nameT_in {ds : List PyData} (h : ds.all isMarkD = true) : ∀ c ∈ tl (nameT (.tuple ds)), c < 128 := fun c hc => by
  cases ds with
  | nil =>
    rw [nameT_nil] at hc
    have e : tl (("/" : Str)) = [47] := by decide
    rw [e] at hc
    have := List.mem_singleton.mp hc
    omega
  | cons d ds =>
    rw [nameT_cons h] at hc
    rcases join_in h c hc with z | z | z | z <;> omega
theorem nameT_len {ds : List PyData} (h : ds.all isMarkD = true) (hl : ds.length ≤ 4) : (nameT (.tuple ds)).length ≤ 152 := by
  cases ds with
  | nil =>
    rw [nameT_nil]
    decide
  | cons d ds =>
    rw [nameT_cons h]
    have a := join_len "+" ((d :: ds).map markTD)
    have b : (((d :: ds).map markTD).map (·.length)).sum ≤ (((d :: ds).map markTD).map (·.length)).length * 37 := sum_le fun x hx => by
      rw [List.map_map] at hx
      obtain ⟨d', hd, rfl⟩ := List.mem_map.mp hx
      exact markTD_len (List.all_eq_true.mp h d' hd)
    rw [List.length_map, List.length_map] at b
    rw [List.length_map] at a
    have e : (("+" : Str)).length = 1 := by decide
    rw [e] at a
    have e2 : (d :: ds).length * 37 ≤ 4 * 37 := Nat.mul_le_mul_right _ hl
    omega
theorem parse_back {ds : List PyData} (h : ds.all isMarkD = true) : parseS (nameT (.tuple ds)) = some ds := by
  cases ds with
  | nil =>
    rw [nameT_nil]
    unfold parseS
    rw [if_pos rfl]
  | cons d ds =>
    rw [nameT_cons h]
    have hne : ¬ Txt.join "+" ((d :: ds).map markTD) = ("/" : Str) := fun z => by
      have hm : 47 ∈ tl (Txt.join "+" ((d :: ds).map markTD)) := by
        rw [z]
        decide
      rcases join_in h 47 hm with z | z | z | z <;> omega
    have hsp : Txt.split (Txt.join "+" ((d :: ds).map markTD)) "+" = (d :: ds).map markTD := split_join (s := 43) (S := []) (by decide) (by decide +kernel) (by simp) fun p hp hc => by
      obtain ⟨d', hd, rfl⟩ := List.mem_map.mp hp
      rcases mark_in_s (List.all_eq_true.mp h d' hd) 43 hc with z | z | z <;> omega
    have hmap : ((d :: ds).map markTD).map markInD = d :: ds := by
      rw [List.map_map]
      conv => rhs; rw [← List.map_id (d :: ds)]
      refine List.map_congr_left fun d' hd => ?_
      exact mark_back (List.all_eq_true.mp h d' hd)
    unfold parseS
    rw [if_neg hne, hsp, hmap]
    have hno : ¬ (d :: ds).any isNo = true := fun z => by
      obtain ⟨d', hd, z⟩ := List.any_eq_true.mp z
      obtain ⟨l, s, n, rfl, _⟩ := mark_inv (List.all_eq_true.mp h d' hd)
      cases z
    rw [if_neg hno]
/-! may be shown -/
theorem shw_str {x : Str} (h : ∀ c ∈ tl x, c < 128) (hl : x.length ≤ 40000) : Shw (.str x) := by
  refine ⟨rfl, by simp [PyData.depth], ?_⟩
  have a := PyData.shown_le_bulk 20 (by decide) (.str x) (by
    simp only [PyData.leavesShort, List.all_eq_true, decide_eq_true_eq]
    intro c hc
    have := h c hc
    omega)
  have b : (PyData.str x).bulk = x.length := by simp only [PyData.bulk]; rfl
  rw [b] at a
  unfold sizeLine
  omega
theorem mark_sh {d : PyData} (h : isMarkD d = true) : d.showable = true ∧ d.depth = 1 ∧ d.bulk ≤ 20 ∧ d.leavesShort 20 = true := by
  obtain ⟨l, s, n, rfl, h1, h2, h3, h4⟩ := mark_inv h
  have a := word_len h1
  have b := src_len h2
  have c := num_log h3 h4
  have e := num_len h3 h4
  refine ⟨?_, ?_, ?_, ?_⟩
  · simp [PyData.showable, PyData.showableAll, c]
  · simp [PyData.depth, PyData.depthAll]
  · simp only [PyData.bulk, PyData.bulkAll]
    have a' : l.cps.size ≤ 8 := a.2
    have b' : s.cps.size ≤ 8 := b
    omega
  · have f1 : ∀ x ∈ l.cps.toList, x < 4294967296 := fun x hx => by
      have := word_in h1 x hx
      omega
    have f2 : ∀ x ∈ s.cps.toList, x < 4294967296 := fun x hx => by
      rcases h2 with rfl | h2
      · cases hx
      · have := word_in h2 x hx
        omega
    have f3 : (PyData.shown (.int n)).length ≤ 20 := Nat.le_trans e (by decide)
    simp only [PyData.leavesShort, PyData.leavesShortAll, Bool.and_eq_true, decide_eq_true_eq, List.all_eq_true]
    exact ⟨f1, f2, f3, trivial⟩
theorem marks_sh : ∀ {ds : List PyData}, ds.all isMarkD = true → PyData.showableAll ds = true ∧ PyData.depthAll ds ≤ 1 ∧ PyData.bulkAll ds ≤ 21 * ds.length ∧ PyData.leavesShortAll 20 ds = true
  | [], _ => ⟨rfl, by simp [PyData.depthAll], by simp [PyData.bulkAll], rfl⟩
  | d :: ds, h => by
    obtain ⟨a1, a2, a3, a4⟩ := mark_sh (List.all_eq_true.mp h d List.mem_cons_self)
    obtain ⟨b1, b2, b3, b4⟩ := marks_sh (ds := ds) (List.all_eq_true.mpr fun x hx => List.all_eq_true.mp h x (List.mem_cons_of_mem _ hx))
    refine ⟨?_, ?_, ?_, ?_⟩
    · simp only [PyData.showableAll, a1, b1, Bool.and_self]
    · simp only [PyData.depthAll]
      omega
    · simp only [PyData.bulkAll, List.length_cons]
      omega
    · simp only [PyData.leavesShortAll, a4, b4, Bool.and_self]
/-- a row of marks may be shown -/
theorem shw_marks {ds : List PyData} (h : ds.all isMarkD = true) (hl : ds.length ≤ 1000) : Shw (.tuple ds) := by
  obtain ⟨b1, b2, b3, b4⟩ := marks_sh h
  refine ⟨by simp only [PyData.showable, b1], by simp only [PyData.depth]; omega, ?_⟩
  have a := PyData.shown_le_bulk 20 (by decide) (.tuple ds) (by simp only [PyData.leavesShort, b4])
  have e : (PyData.tuple ds).bulk = PyData.bulkAll ds := by simp only [PyData.bulk]
  rw [e] at a
  unfold sizeLine
  omega
/-- what is parsed is a row of marks -/
theorem parse_marks {x : Str} {ms : List PyData} (h : parseS x = some ms) : ms.all isMarkD = true ∧ ms.length ≤ x.length + 1 := by
  unfold parseS at h
  split at h
  · cases h
    exact ⟨rfl, Nat.zero_le _⟩
  · split at h
    · cases h
    · rename_i hn
      cases h
      refine ⟨List.all_eq_true.mpr fun d hd => ?_, by rw [List.length_map]; exact parts_n x⟩
      obtain ⟨y, hy, rfl⟩ := List.mem_map.mp hd
      rcases markIn_cases y with z | z
      · exact absurd (List.any_eq_true.mpr ⟨_, hd, by rw [z]; rfl⟩) hn
      · exact z
/-! '1' * n -/
def onesN (n : Nat) : Str := ⟨(List.replicate n (("1" : Str)).cps).foldl (· ++ ·) #[]⟩
theorem fold_rep (a : Array Nat) : ∀ (n : Nat) (acc : Array Nat), ((List.replicate n a).foldl (· ++ ·) acc).toList = acc.toList ++ (List.replicate n a.toList).flatten
  | 0, acc => by simp
  | n + 1, acc => by
    rw [List.replicate_succ, List.foldl_cons, fold_rep a n, List.replicate_succ, List.flatten_cons, Array.toList_append, List.append_assoc]
theorem flat_rep (c : Nat) : ∀ n : Nat, (List.replicate n [c]).flatten = List.replicate n c
  | 0 => rfl
  | n + 1 => by rw [List.replicate_succ, List.flatten_cons, flat_rep c n, List.replicate_succ] <;> rfl
section
variable (n : Nat)
theorem tl_ones : tl (onesN n) = List.replicate n 49 := by
  show ((List.replicate n (("1" : Str)).cps).foldl (· ++ ·) #[]).toList = _
  rw [fold_rep]
  have e : (("1" : Str)).cps.toList = [49] := by decide
  rw [e, flat_rep]
  show [] ++ _ = _
  rw [List.nil_append]
theorem ones_len : (onesN n).length = n := by rw [len_tl, tl_ones, List.length_replicate]
def bigN : Str := "low." ++ onesN n
theorem tl_big : tl (bigN n) = tl (("low." : Str)) ++ List.replicate n 49 := by
  unfold bigN
  rw [tl_append, tl_ones]
theorem big_join : bigN n = Txt.join "." [("low" : Str), onesN n] := by
  rw [join_eq]
  refine ext_tl ?_
  rw [tl_big]
  show _ = tl ("low" ++ "." ++ onesN n)
  rw [tl_append, tl_append, tl_ones]
  have e : tl (("low." : Str)) = tl (("low" : Str)) ++ tl (("." : Str)) := by decide
  rw [e]
theorem big_in : ∀ c ∈ tl (bigN n), c = 49 ∨ c = 108 ∨ c = 111 ∨ c = 119 ∨ c = 46 := fun c hc => by
  have l1 : tl (("low." : Str)) = [108, 111, 119, 46] := by decide
  rw [tl_big, l1] at hc
  rcases List.mem_append.mp hc with z | z
  · simp only [List.mem_cons, List.not_mem_nil, or_false] at z
    omega
  · exact .inl (List.eq_of_mem_replicate z)
theorem big_len : (bigN n).length = n + 4 := by
  have l1 : tl (("low." : Str)) = [108, 111, 119, 46] := by decide
  rw [len_tl, tl_big, l1, List.length_append, List.length_replicate]
  show 4 + n = _
  omega
theorem big_none (hn : 19 < n) : parseS (bigN n) = none := by
  have hin := big_in n
  have h1 : ¬ bigN n = ("/" : Str) := fun z => by
    have h := congrArg Str.length z
    rw [big_len] at h
    have h' : n + 4 = 1 := h
    omega
  have h2 : Txt.split (bigN n) "+" = [bigN n] := by
    have e : bigN n = Txt.join "+" [bigN n] := by rw [join_eq] <;> rfl
    conv => lhs; rw [e]
    refine split_join (s := 43) (S := []) (by decide) (by decide +kernel) (by simp) fun p hp hc => ?_
    rw [List.mem_singleton.mp hp] at hc
    have := hin 43 hc
    omega
  have h3 : Txt.split (bigN n) "." = [("low" : Str), onesN n] := by
    rw [big_join]
    refine split_join (s := 46) (S := []) (by decide) (by decide +kernel) (by simp) fun p hp hc => ?_
    rcases List.mem_cons.mp hp with z | z
    · rw [z] at hc
      have e : tl (("low" : Str)) = [108, 111, 119] := by decide
      rw [e] at hc
      simp at hc
    · rw [List.mem_singleton.mp z, tl_ones] at hc
      have := List.eq_of_mem_replicate hc
      omega
  have h4 : numOk (onesN n) = false := by
    unfold numOk
    rw [ones_len]
    have k : decide (((n : Nat) : Int) ≤ 19) = false := decide_eq_false (by omega)
    rw [k, Bool.and_false, Bool.false_and]
  have h5 : markInD (bigN n) = .none := by
    rw [raw_mark]
    show markO (rawL (Txt.split (bigN n) ".")) = _
    rw [h3]
    show markO (if numOk (onesN n) = true then _ else none) = _
    rw [h4]
    rfl
  unfold parseS
  rw [if_neg h1, h2, List.map_cons, h5]
  rfl
theorem big_shw (hn : n ≤ 30000) : Shw (.str (bigN n)) := shw_str (fun c hc => by
  have := big_in n c hc
  omega) (by rw [big_len]; omega)
end
end K03
set_option Elab.async false
set_option linter.all false
set_option maxRecDepth 100000
set_option maxHeartbeats 4000000
set_option pp.maxSteps 600
set_option pp.deepTerms false
namespace K03
open PySem PySem.Spec PyProof.Rows L2 He MeH MeG MeK Evl MeV MeL TL LamX
open MeE (VP Mono Is All MonoL Lst Tup mono_is monoL_nil monoL_cons monoL_app mono_lst mono_tup DP DV mono_dp mono_dv mono_dvs mono_dps spI1 XV)
section
variable {P : Program} {w : World} {K : PySem.W.Frag} {mg : Str → Option Value} {base : Heap} {f : Addr} {fd : FuncData}
/-- '1' * 5000 -/
theorem op_mulS {X : Cx} {n : Nat} (hn : n = 5000) : OpR X (binaryOp .Mult) (fun x y H Q => x = .str "1" ∧ y = .int 5000 ∧ Q (.str (onesN n)) H) := by
  subst hn
  intro pins s σ H x y v u Q I rx ry h
  obtain ⟨rfl, rfl, q⟩ := h
  obtain ⟨t, rfl⟩ := rx
  obtain ⟨t', rfl⟩ := ry
  refine PySem.P.mul_str (by decide) (fun _ _ => by decide) (fun _ _ => by decide +kernel) ?_
  rw [if_neg (by decide), if_neg (by decide)]
  exact ⟨by decide +kernel, .str (onesN 5000), H, I.tok _, ⟨_, rfl⟩, q⟩
theorem sc__law_marks_right : FnScope ["_law_thing", "_law_some"] [] (defScope s__law_marks_right) := ⟨rfl, rfl, rfl, by decide +kernel, rfl, by decide +kernel, by decide +kernel⟩

/-- .. whose code object is known -/
theorem okGc {p : Str × Option Str} {x qual : Str} {params : Arguments} {body : List Stmt} {scope : Scope} {dvs : List V} {kws : List (Str × V)} {CX : CXT} {N ps : List Str} {k : Nat} {sp : Sp} (F : FunD K x qual params body scope dvs kws (fAd K p) fd) (S : FnScope N ps scope) (len : ∀ vs H Q E, sp vs H Q E → vs.length = ps.length)
    (hbody : ∀ (A : Around) (outer : List Env) (s : Shared) (H : Hp) (vs : List V) (Q : VK) (E : XK), (A.deeper (envOfC qual scope s.heap.objs.size (fAd K p) (.ref (codeOf K p)))).guards = some [] → Room k (A.deeper (envOfC qual scope s.heap.objs.size (fAd K p) (.ref (codeOf K p)))) → sp vs H Q E →
      ∃ t, PSs (cxOf CX P w K mg base N qual scope (fAd K p) (.ref (codeOf K p)) A outer s H E) body t ∧ t { nx := fun _ H' => Q .non H', rt := Q } (L2.start N vs) H) : FnG P w K mg base CX (k + 1) (fAd K p) fd ps sp := by
  obtain ⟨_, _, _, _, _, _, _, cdv, _, _, e, lk, hcd, _⟩ := F.ex
  subst e
  obtain ⟨c, hc⟩ := codeIn_ref hcd
  subst hc
  have e := codeOf_eq (p := p) lk rfl
  refine ⟨len, fun A outer s H args us vs Q E g room env bind vals want => LamX.run_ofS lk hcd S room env bind vals (len _ _ _ _ want) fun room' => ?_⟩
  have go := hbody A outer s H vs Q E g
  rw [e] at go
  exact go room' want
def md1 : List PyData := [.tuple [.str "low", .str "", .int 0], .tuple [.str "low", .str "", .int (-1)], .tuple [.str "low", .str "", .bool true], .tuple [.str "low", .str "", .str "1"], .tuple [.str "low", .str "", .int 1000000000000000001]]
def spMR (T : List (Addr × Str)) : Sp := fun vs H Q _ => ∃ S : Wv, S.I H ∧ HasTab S T ∧ vs = [] ∧ ∀ H', S.I H' → Ex (S.vw H) (S.vw H') → Q (.bl true) H'
/-- a def that may raise, called -/
def CalX (P : Program) (w : World) (K : PySem.W.Frag) (mg : Str → Option Value) (base : Heap) (x : Str) (k : Nat) (ps : List Str) (sp : Sp) : Prop :=
  ∃ fd, PySem.W.keepIn K (.ref (ga K x)) = true ∧ Binds K fd ps [] ∧ FnOk P w K mg base (CX P w) k (ga K x) fd ps sp
abbrev qM : Str := "_law_marks_right.<locals>.<lambda>"
def md2 : List PyData := [.tuple [.str "low", .none, .int 1], .tuple [.str "low", .str "Pad", .int 1], .tuple [.str "", .str "", .int 1], .tuple [.str "Low", .str "", .int 1], .tuple [.str "abcdefghi", .str "", .int 1], .list [.str "low", .str "", .int 1]]
def md3 : List PyData := [.tuple [.str "low", .int 1], .tuple [.str "low", .str "", .int 1, .int 1], .none, .int 5, .str "low.1", .tuple [], .tuple [.tuple [.str "low"], .str "", .int 1], .tuple [.list [], .str "", .int 1]]
def md4 : List PyData := [.none, .int 5, .str "low.1", .list [], .list [.tuple [.str "low", .str "", .int 1]], .dict [], .tuple [.str "low", .str "", .int 1]]
def md5 : List PyData := [.none, .int 5, .list [], .tuple [], .tuple [.tuple [.str "low", .str "", .int 1]], .dict [], .str "", .str " ", .str "low", .str "low.", .str ".1", .str "low.1+", .str "+low.1", .str "//"]
def md6 : List PyData := [.str "low..1", .str "low.1000000000000000001"]
def md6n (n : Nat) : List PyData := [.str "low..1", .str "low.1000000000000000001", .str (bigN n)]
def md7 : List PyData := [.str "low.01", .str "low.0", .str "low.1.2", .str "low.a.b", .str "low.1 ", .str "low.+1", .str "low.1_0", .str "Low.1", .str "low.a.1.1"]
def md8 : List PyData := [.str "low.1+/"]
def shwB (d : PyData) : Bool := d.showable && decide (d.depth ≤ 60) && decide (d.shown.length ≤ 100000)
theorem shw_of {d : PyData} (h : shwB d = true) : Shw d := by
  unfold shwB at h
  simp only [Bool.and_eq_true, decide_eq_true_eq] at h
  exact ⟨h.1.1, h.1.2, sz_of h.2⟩
def t1 (d : PyData) : PyData := .tuple [d]
def ck1 (d : PyData) : Bool := szB d && !isMarkD d && szB (t1 d) && !isNameD (t1 d)
def ck2 (d : PyData) : Bool := szB d && !isMarkD d && szB (t1 d) && !isNameD (t1 d) && shwB (t1 d)
def lenB : PyData → Bool
  | .tuple ds => decide (ds.length ≤ 1000)
  | _ => true
def ck4 (d : PyData) : Bool := szB d && lenB d && !isNameD d && shwB d
def slB : PyData → Bool
  | .str x => decide (x.length ≤ 40000)
  | _ => true
def ck5 (d : PyData) : Bool := szB d && slB d && (parseD d).isNone && shwB d
theorem ok1 : md1.all ck1 = true := by decide +kernel
theorem ok2 : (md2 ++ md3).all ck2 = true := by decide +kernel
theorem ok4 : md4.all ck4 = true := by decide +kernel
theorem ok5 : md5.all ck5 = true := by decide +kernel
theorem ok7 : (md7 ++ md8).all ck5 = true := by decide +kernel
theorem ok6 : md6.all ck5 = true := by decide +kernel
theorem big_sz {n : Nat} (hn : n = 5000) : szB (.str (bigN n)) = true := by
  unfold szB
  rw [big_len, hn]
  rfl
theorem szN1 {d : PyData} (h : szB (t1 d) = true) : SzN (t1 d) := ⟨h, fun ds e => by unfold t1 at e; cases e; simp⟩
theorem rv_isn {H : Hp} {a b : Bool} : RV (fun x y H Q => ∃ a b, x = V.bl a ∧ y = V.bl b ∧ Q (.bl (!decide (a = b))) H) (.bl a) (.bl b) H (.bl (!decide (a = b))) := fun H1 _ _ q => ⟨a, b, rfl, rfl, q H1 (Ex.refl H1)⟩
theorem rv_is {H : Hp} {a b : Bool} : RV (fun x y H Q => ∃ a b, x = V.bl a ∧ y = V.bl b ∧ Q (.bl (decide (a = b))) H) (.bl a) (.bl b) H (.bl (decide (a = b))) := fun H1 _ _ q => ⟨a, b, rfl, rfl, q H1 (Ex.refl H1)⟩
theorem ok_marks {n : Nat} (hn : n = 5000) {T0 : List (Addr × Str)} (F : FD K d__law_marks_right (fAd K ("_law_marks_right", none)) fd) (T : Txt K mg) (TB : TabB base mg (cT K ("_law_marks_right", none)).1 (cT K ("_law_marks_right", none)).2) (hmT : ((cT K ("_law_marks_right", none)).2, qM) ∈ T0) (huT : ∀ p ∈ T0, p.1 = (cT K ("_law_marks_right", none)).2 → p.2 = qM)
    {fr : FuncData} (RF : RefF K mg (ga K "_law_refused") fr)
    (c1 : Cal1 P w K mg base "is_mark" 2 ["thing"] (spD K (fun d => szB d = true) fun d => .bl (isMarkD d))) (c2 : Cal1 P w K mg base "is_name" 3 ["thing"] (spD K SzN fun d => .bl (isNameD d))) (c3 : CalX P w K mg base "name_text" 4 ["name"] (spNT K)) (c4 : CalX P w K mg base "parse_name" 4 ["text"] (spPN K)) :
    FnG P w K mg base CX0 7 (fAd K ("_law_marks_right", none)) fd [] (spMR T0) := by
  obtain ⟨_, kis_mark, bis_mark, Gis_mark⟩ := c1
  obtain ⟨_, kis_name, bis_name, Gis_name⟩ := c2
  obtain ⟨_, kname_text, bname_text, Gname_text⟩ := c3
  obtain ⟨_, kparse_name, bparse_name, Gparse_name⟩ := c4
  refine okGc F sc__law_marks_right (fun vs H Q E h => ?_) (fun A outer s H vs Q E hgd hr h => ?_)
  · obtain ⟨S, _, _, rfl, _⟩ := h
    rfl
  · obtain ⟨S, iH, hT, rfl, k⟩ := h
    refine ⟨_, PSs.nox (pss_cons (ps_for PassesOwn.never rfl (pi_list (pe_lst (pa_cons (pe_tup (pa_cons pe_str (pa_cons pe_str (pa_cons pe_int pa_nil)))) (pa_cons (pe_tup (pa_cons pe_str (pa_cons pe_str (pa_cons (pe_un un_neg pe_int) pa_nil)))) (pa_cons (pe_tup (pa_cons pe_str (pa_cons pe_str (pa_cons pe_bl pa_nil)))) (pa_cons (pe_tup (pa_cons pe_str (pa_cons pe_str (pa_cons pe_str pa_nil)))) (pa_cons (pe_tup (pa_cons pe_str (pa_cons pe_str (pa_cons (pe_op op_add (pe_op op_pow pe_int pe_int) pe_int) pa_nil)))) pa_nil))))))) (pg_name (i := 0) sc__law_marks_right.nd rfl (Or.inr rfl)) (pss_one (ps_if (PW.pt (pw_or (pt_cmpR op_isnot_bl (pe_call Gis_mark (hr.mono (by decide)) rfl T.g_is_mark kis_mark bis_mark .nil pass0 (pa_cons (pv 0) pa_nil)) pe_bl (nomark _)) (pw_or1 (pt_cmpR op_isnot_bl (pe_call Gis_name (hr.mono (by decide)) rfl T.g_is_name kis_name bis_name .nil pass0 (pa_cons (pe_tup (pa_cons (pv 0) pa_nil)) pa_nil)) pe_bl (nomark _))))) (pss_one (ps_ret pe_bl)) pss_nil))) (pss_cons (ps_set (i := 1) sc__law_marks_right.nd rfl (Or.inl rfl) (pe_lst (pa_cons (pe_tup (pa_cons pe_str (pa_cons pe_non (pa_cons pe_int pa_nil)))) (pa_cons (pe_tup (pa_cons pe_str (pa_cons pe_str (pa_cons pe_int pa_nil)))) (pa_cons (pe_tup (pa_cons pe_str (pa_cons pe_str (pa_cons pe_int pa_nil)))) (pa_cons (pe_tup (pa_cons pe_str (pa_cons pe_str (pa_cons pe_int pa_nil)))) (pa_cons (pe_tup (pa_cons pe_str (pa_cons pe_str (pa_cons pe_int pa_nil)))) (pa_cons (pe_lst (pa_cons pe_str (pa_cons pe_str (pa_cons pe_int pa_nil)))) pa_nil)))))))) (pss_cons (ps_for PassesOwn.never rfl (pi_list (pe_op op_cat (pv 1) (pe_lst (pa_cons (pe_tup (pa_cons pe_str (pa_cons pe_int pa_nil))) (pa_cons (pe_tup (pa_cons pe_str (pa_cons pe_str (pa_cons pe_int (pa_cons pe_int pa_nil))))) (pa_cons pe_non (pa_cons pe_int (pa_cons pe_str (pa_cons (pe_tup pa_nil) (pa_cons (pe_tup (pa_cons (pe_tup (pa_cons pe_str pa_nil)) (pa_cons pe_str (pa_cons pe_int pa_nil)))) (pa_cons (pe_tup (pa_cons (pe_lst pa_nil) (pa_cons pe_str (pa_cons pe_int pa_nil)))) pa_nil))))))))))) (pg_name (i := 0) sc__law_marks_right.nd rfl (Or.inr rfl)) (pss_one (ps_if (PW.pt (pw_or (pt_cmpR op_isnot_bl (pe_call Gis_mark (hr.mono (by decide)) rfl T.g_is_mark kis_mark bis_mark .nil pass0 (pa_cons (pv 0) pa_nil)) pe_bl (nomark _)) (pw_or1 (pt_not (pt_val (pe_refused T (k := 4) RF hgd (hr.mono (by decide)) TB rfl hmT huT rfl (lamS_by (by show lamSB (defScope s__law_marks_right) _ = true; decide +kernel)) (fun _ _ _ _ _ => rfl) (fun E A outer s H f c' hg0 hr0 => pe_call Gname_text (hr0.mono (by decide)) rfl T.g_name_text kname_text bname_text .nil (passes_call (takes_of rfl rfl rfl rfl) (fun _ _ _ _ h => h)) (pa_cons (pe_tup (pa_cons (pv 0) pa_nil)) pa_nil)) (fun σ H W1 W2 Q1 Q2 => mono_nt (mono_t1) σ H W1 W2 Q1 Q2) rfl (pe_tup (pa_cons (pv 0) pa_nil)))))))) (pss_one (ps_ret pe_bl)) pss_nil))) (pss_cons (ps_for PassesOwn.never rfl (pi_list (pe_lst (pa_cons pe_non (pa_cons pe_int (pa_cons pe_str (pa_cons (pe_lst pa_nil) (pa_cons (pe_lst (pa_cons (pe_tup (pa_cons pe_str (pa_cons pe_str (pa_cons pe_int pa_nil)))) pa_nil)) (pa_cons pe_dnewK (pa_cons (pe_tup (pa_cons pe_str (pa_cons pe_str (pa_cons pe_int pa_nil)))) pa_nil))))))))) (pg_name (i := 0) sc__law_marks_right.nd rfl (Or.inr rfl)) (pss_one (ps_if (PW.pt (pw_or (pt_cmpR op_isnot_bl (pe_call Gis_name (hr.mono (by decide)) rfl T.g_is_name kis_name bis_name .nil pass0 (pa_cons (pv 0) pa_nil)) pe_bl (nomark _)) (pw_or1 (pt_not (pt_val (pe_refused T (k := 4) RF hgd (hr.mono (by decide)) TB rfl hmT huT rfl (lamS_by (by show lamSB (defScope s__law_marks_right) _ = true; decide +kernel)) (fun _ _ _ _ _ => rfl) (fun E A outer s H f c' hg0 hr0 => pe_call Gname_text (hr0.mono (by decide)) rfl T.g_name_text kname_text bname_text .nil (passes_call (takes_of rfl rfl rfl rfl) (fun _ _ _ _ h => h)) (pa_cons (pv 0) pa_nil)) (fun σ H W1 W2 Q1 Q2 => mono_nt (mono_v) σ H W1 W2 Q1 Q2) rfl (pv 0))))))) (pss_one (ps_ret pe_bl)) pss_nil))) (pss_cons (ps_set (i := 1) sc__law_marks_right.nd rfl (Or.inl rfl) (pe_lst (pa_cons pe_non (pa_cons pe_int (pa_cons (pe_lst pa_nil) (pa_cons (pe_tup pa_nil) (pa_cons (pe_tup (pa_cons (pe_tup (pa_cons pe_str (pa_cons pe_str (pa_cons pe_int pa_nil)))) pa_nil)) (pa_cons pe_dnewK (pa_cons pe_str (pa_cons pe_str (pa_cons pe_str (pa_cons pe_str (pa_cons pe_str (pa_cons pe_str (pa_cons pe_str (pa_cons pe_str pa_nil)))))))))))))))) (pss_cons (ps_for PassesOwn.never rfl (pi_list (pe_op op_cat (pv 1) (pe_lst (pa_cons pe_str (pa_cons pe_str (pa_cons (pe_op op_add_str pe_str (pe_op (op_mulS hn) pe_str pe_int)) pa_nil)))))) (pg_name (i := 0) sc__law_marks_right.nd rfl (Or.inr rfl)) (pss_one (ps_if (pt_not (pt_val (pe_refused T (k := 4) RF hgd (hr.mono (by decide)) TB rfl hmT huT rfl (lamS_by (by show lamSB (defScope s__law_marks_right) _ = true; decide +kernel)) (fun _ _ _ _ _ => rfl) (fun E A outer s H f c' hg0 hr0 => pe_call Gparse_name (hr0.mono (by decide)) rfl T.g_parse_name kparse_name bparse_name .nil (passes_call (takes_of rfl rfl rfl rfl) (fun _ _ _ _ h => h)) (pa_cons (pv 0) pa_nil)) (fun σ H W1 W2 Q1 Q2 => mono_pn (mono_v) σ H W1 W2 Q1 Q2) rfl (pv 0)))) (pss_one (ps_ret pe_bl)) pss_nil))) (pss_cons (ps_set (i := 1) sc__law_marks_right.nd rfl (Or.inl rfl) (pe_lst (pa_cons pe_str (pa_cons pe_str (pa_cons pe_str (pa_cons pe_str (pa_cons pe_str (pa_cons pe_str (pa_cons pe_str (pa_cons pe_str (pa_cons pe_str pa_nil))))))))))) (pss_cons (ps_for PassesOwn.never rfl (pi_list (pe_op op_cat (pv 1) (pe_lst (pa_cons pe_str pa_nil)))) (pg_name (i := 0) sc__law_marks_right.nd rfl (Or.inr rfl)) (pss_one (ps_if (pt_not (pt_val (pe_refused T (k := 4) RF hgd (hr.mono (by decide)) TB rfl hmT huT rfl (lamS_by (by show lamSB (defScope s__law_marks_right) _ = true; decide +kernel)) (fun _ _ _ _ _ => rfl) (fun E A outer s H f c' hg0 hr0 => pe_call Gparse_name (hr0.mono (by decide)) rfl T.g_parse_name kparse_name bparse_name .nil (passes_call (takes_of rfl rfl rfl rfl) (fun _ _ _ _ h => h)) (pa_cons (pv 0) pa_nil)) (fun σ H W1 W2 Q1 Q2 => mono_pn (mono_v) σ H W1 W2 Q1 Q2) rfl (pv 0)))) (pss_one (ps_ret pe_bl)) pss_nil))) (pss_one (ps_ret (pe_and (pe_cmpR op_is_bl (pe_call Gis_name (hr.mono (by decide)) rfl T.g_is_name kis_name bis_name .nil pass0 (pa_cons (pe_tup pa_nil) pa_nil)) pe_bl (nomark _)) (pe_and (pe_cmpR op_eq (pe_call Gname_text (hr.mono (by decide)) rfl T.g_name_text kname_text bname_text .nil (passes_call LamX.takes0 (fun _ _ _ _ h => h)) (pa_cons (pe_tup pa_nil) pa_nil)) pe_str (nomark _)) (pe_one (pe_cmpR (op_eqD hr.units) (pe_call Gparse_name (hr.mono (by decide)) rfl T.g_parse_name kparse_name bparse_name .nil (passes_call LamX.takes0 (fun _ _ _ _ h => h)) (pa_cons pe_str pa_nil)) (pe_tup pa_nil) (nomark _))))))))))))))), ?_⟩
    have tup1 : ∀ (σ : L2.St) (h : Hp) (x : V) (d : PyData), σ[0]? = some (some x) → Dd K h x d → Gv S (tTup (tCons (tVar 0) tNil)) σ h (DV K (t1 d)) := fun σ h x d e hx => vd_tup (ds := [d]) (vd_cons (vd_var e hx) vd_nil) (by simp)
    refine x_loopD (S := S) (K := K) (ds := md1) iH (vd_lst (vd_cons (vd_tup (vd_cons vd_str (vd_cons vd_str (vd_cons vd_int vd_nil))) (by simp)) (vd_cons (vd_tup (vd_cons vd_str (vd_cons vd_str (vd_cons (is_int (v_un v_c ru_neg)) vd_nil))) (by simp)) (vd_cons (vd_tup (vd_cons vd_str (vd_cons vd_str (vd_cons vd_bl vd_nil))) (by simp)) (vd_cons (vd_tup (vd_cons vd_str (vd_cons vd_str (vd_cons vd_str vd_nil))) (by simp)) (vd_cons (vd_tup (vd_cons vd_str (vd_cons vd_str (vd_cons (is_int ((v_opV (v_opV v_c v_c (rv_I ⟨by decide, by decide, by decide⟩)) v_c rv_I0).is (by rw [pw18]; rfl))) vd_nil))) (by simp)) vd_nil))))) (by simp [md1])) (fun d hd x h1 hx => ?_) (fun o H1 i1 e1 => ?_)
    · have k0 := List.all_eq_true.mp ok1 d hd
      unfold ck1 at k0
      simp only [Bool.and_eq_true, Bool.not_eq_true'] at k0
      obtain ⟨⟨⟨k1, k2⟩, k3⟩, k4⟩ := k0
      refine (vt_or (a := false) (b := false) (vt_test ((v_opV (v_spD (vd_var rfl hx) k1) v_c rv_isn).is (by rw [k2]; rfl))) fun _ => vt_test ((v_opV (v_spD (tup1 _ _ _ _ rfl hx) (szN1 k3)) v_c rv_isn).is (by rw [k4]; rfl))).is rfl
    have row : ∀ {σ : L2.St} {h : Hp} {a b : PyData} {c : PyData} {ta tb tc : TE}, Gv S ta σ h (DV K a) → Gv S tb σ h (DV K b) → Gv S tc σ h (DV K c) → Gv S (tTup (tCons ta (tCons tb (tCons tc tNil)))) σ h (DV K (.tuple [a, b, c])) := fun g1 g2 g3 => vd_tup (vd_cons g1 (vd_cons g2 (vd_cons g3 vd_nil))) (by simp)
    have lst : ∀ {σ : L2.St} {h : Hp} {ds : List PyData} {t : TA}, GvA S t σ h (All (ds.map (DV K))) → ds.length ≤ 1000 → Gv S (tLst t) σ h (Lst (ds.map (DV K))) := fun g hl => v_lst g (mono_dvs _) (by rw [List.length_map]; omega)
    have cat : ∀ {h : Hp} {ds es : List PyData} {o : Option V} {v : V} {t : TA}, Lst (ds.map (DV K)) v h → GvA S t [o, some v] h (All (es.map (DV K))) → ds.length ≤ 1000 → es.length ≤ 1000 → Gv S (tOp rCat (tVar 1) (tLst t)) [o, some v] h (DV K (.list (ds ++ es))) := fun {h ds es o v t} hv g hl hl2 =>
      (v_cat (v_varP rfl (mono_lst (mono_dvs _)) hv) (lst g hl2) (mono_dvs _) (mono_dvs _) (by rw [List.length_map, List.length_map]; omega)).imp fun v H1 _ p => MeE.dv_lst (by rw [List.map_append]; exact p)
    refine x_asgq (S := S) (P := Lst (md2.map (DV K))) i1 (lst (vd_cons (row vd_str vd_non vd_int) (vd_cons (row vd_str vd_str vd_int) (vd_cons (row vd_str vd_str vd_int) (vd_cons (row vd_str vd_str vd_int) (vd_cons (row vd_str vd_str vd_int) (vd_cons (vd_lst (vd_cons vd_str (vd_cons vd_str (vd_cons vd_int vd_nil))) (by simp)) vd_nil)))))) (by simp [md2])) fun v2 H2 i2 e2 hv2 => ?_
    refine x_loopD (S := S) (K := K) (ds := md2 ++ md3) i2 (cat hv2 (vd_cons (vd_tup (vd_cons vd_str (vd_cons vd_int vd_nil)) (by simp)) (vd_cons (vd_tup (vd_cons vd_str (vd_cons vd_str (vd_cons vd_int (vd_cons vd_int vd_nil)))) (by simp)) (vd_cons vd_non (vd_cons vd_int (vd_cons vd_str (vd_cons (vd_tup vd_nil (by simp)) (vd_cons (row (vd_tup (vd_cons vd_str vd_nil) (by simp)) vd_str vd_int) (vd_cons (row (vd_lst vd_nil (by simp)) vd_str vd_int) vd_nil)))))))) (by simp [md2]) (by simp [md3])) (fun d hd x h1 hx => ?_) (fun o3 H3 i3 e3 => ?_)
    · have k0 := List.all_eq_true.mp ok2 d hd
      unfold ck2 at k0
      simp only [Bool.and_eq_true, Bool.not_eq_true'] at k0
      obtain ⟨⟨⟨⟨k1, k2⟩, k3⟩, k4⟩, k5⟩ := k0
      refine (vt_or (a := false) (b := false) (vt_test ((v_opV (v_spD (vd_var rfl hx) k1) v_c rv_isn).is (by rw [k2]; rfl))) fun _ => vt_not (b := true) (vt_B (v_ref hT (x_nt (tup1 _ _ _ _ rfl hx) (szN1 k3) k4) (tup1 _ _ _ _ rfl hx) (shw_of k5)))).is rfl
    refine x_loopD (S := S) (K := K) (ds := md4) i3 (vd_lst (vd_cons vd_non (vd_cons vd_int (vd_cons vd_str (vd_cons (vd_lst vd_nil (by simp)) (vd_cons (vd_lst (vd_cons (row vd_str vd_str vd_int) vd_nil) (by simp)) (vd_cons vd_dic (vd_cons (row vd_str vd_str vd_int) vd_nil))))))) (by simp [md4])) (fun d hd x h1 hx => ?_) (fun o4 H4 i4 e4 => ?_)
    · have k0 := List.all_eq_true.mp ok4 d hd
      unfold ck4 at k0
      simp only [Bool.and_eq_true, Bool.not_eq_true'] at k0
      obtain ⟨⟨⟨k1, k2⟩, k3⟩, k4⟩ := k0
      have kz : SzN d := ⟨k1, fun ds e => by rw [e] at k2; exact of_decide_eq_true k2⟩
      refine (vt_or (a := false) (b := false) (vt_test ((v_opV (v_spD (vd_var rfl hx) kz) v_c rv_isn).is (by rw [k3]; rfl))) fun _ => vt_not (b := true) (vt_B (v_ref hT (x_nt (vd_var rfl hx) kz k3) (vd_var rfl hx) (shw_of k4)))).is rfl
    have loopP : ∀ {o1 : Option V} (d : PyData) (x : V) (h1 : Hp), Dd K h1 x d → ck5 d = true → ∀ {q : Str} {params : Arguments} {body : Expr} {scope : Scope} {cl : List (Str × Addr)}, GvT S (tNot (tB (tRef K T0 q params body scope cl (fun E => tCall (spPN K) [] E (tCons (tVar 0) tNil)) (tVar 0)))) [some x, o1] h1 false := fun {o1} d x h1 hx k0 {q params body scope cl} => by
      unfold ck5 at k0
      simp only [Bool.and_eq_true] at k0
      obtain ⟨⟨⟨k1, k2⟩, k3⟩, k4⟩ := k0
      exact vt_not (b := true) (vt_B (v_ref hT (x_pn (vd_var rfl hx) k1 (fun y e => by rw [e] at k2; exact of_decide_eq_true k2) (Option.isNone_iff_eq_none.mp k3)) (vd_var rfl hx) (shw_of k4)))
    refine x_asgq (S := S) (P := Lst (md5.map (DV K))) i4 (lst (vd_cons vd_non (vd_cons vd_int (vd_cons (vd_lst vd_nil (by simp)) (vd_cons (vd_tup vd_nil (by simp)) (vd_cons (vd_tup (vd_cons (row vd_str vd_str vd_int) vd_nil) (by simp)) (vd_cons vd_dic (vd_cons vd_str (vd_cons vd_str (vd_cons vd_str (vd_cons vd_str (vd_cons vd_str (vd_cons vd_str (vd_cons vd_str (vd_cons vd_str vd_nil)))))))))))))) (by simp [md5])) fun v5 H5 i5 e5 hv5 => ?_
    refine x_loopD (S := S) (K := K) (ds := md5 ++ md6n n) i5 (cat hv5 (vd_cons vd_str (vd_cons vd_str (vd_cons (is_str (v_addS v_c (v_opV v_c v_c (rv_val fun H1 _ Q q => ⟨rfl, rfl, q⟩)) (by rw [ones_len, hn]; decide))) vd_nil))) (by simp [md5]) (by simp [md6n])) (fun d hd x h1 hx => ?_) (fun o6 H6 i6 e6 => ?_)
    · rcases List.mem_append.mp hd with z | z
      · exact loopP d x h1 hx (List.all_eq_true.mp ok5 d z)
      · have z' : d ∈ md6 ++ [.str (bigN n)] := z
        rcases List.mem_append.mp z' with z2 | z2
        · exact loopP d x h1 hx (List.all_eq_true.mp ok6 d z2)
        · have hb := List.mem_singleton.mp z2
          subst hb
          exact vt_not (b := true) (vt_B (v_ref hT (x_pn (vd_var rfl hx) (big_sz hn) (fun y e => by cases e; rw [big_len]; omega) (big_none n (by omega))) (vd_var rfl hx) (big_shw n (by omega))))
    refine x_asgq (S := S) (P := Lst (md7.map (DV K))) i6 (lst (vd_cons vd_str (vd_cons vd_str (vd_cons vd_str (vd_cons vd_str (vd_cons vd_str (vd_cons vd_str (vd_cons vd_str (vd_cons vd_str (vd_cons vd_str vd_nil))))))))) (by simp [md7])) fun v7 H7 i7 e7 hv7 => ?_
    refine x_loopD (S := S) (K := K) (ds := md7 ++ md8) i7 (cat hv7 (vd_cons vd_str vd_nil) (by simp [md7]) (by simp [md8])) (fun d hd x h1 hx => loopP d x h1 hx (List.all_eq_true.mp ok7 d hd)) (fun o8 H8 i8 e8 => ?_)
    refine x_ret (S := S) (P := Is (.bl true)) i8 ?_ fun v9 H9 i9 e9 hv9 => ?_
    · have e0 : ∀ {σ : L2.St} {h : Hp}, Gv S (tTup tNil) σ h (DV K (.tuple [])) := vd_tup vd_nil (by simp)
      have z0 : SzN (.tuple []) := ⟨rfl, fun ds e => by cases e; simp⟩
      refine (v_andV (a := true) (b := true) ((v_opV (v_spD e0 z0) v_c rv_is).is rfl) fun _ => (v_andV (a := true) (b := true) ((v_eq (v_nt e0 z0 rfl) v_c rfl).is (by rw [nameT_nil]; rfl)) fun _ => ?_).is rfl).is rfl
      exact (v_eqD dp_of (v_pn (ms := []) vd_str rfl (fun x e => by cases e; decide) (by rfl)) e0 (by decide) (by decide)).is rfl
    · rw [show v9 = .bl true from hv9]
      exact k H9 i9 (e1.trans (e2.trans (e3.trans (e4.trans (e5.trans (e6.trans (e7.trans (e8.trans e9))))))))
end
end K03
set_option Elab.async false
set_option linter.all false
set_option maxRecDepth 100000
set_option maxHeartbeats 4000000
set_option pp.maxSteps 600
set_option pp.deepTerms false
namespace K03
open PySem PySem.Spec PyProof.Rows L2 He MeH MeG MeK Evl MeV MeL TL LamX
open MeE (VP Mono Is All MonoL Lst Tup mono_is monoL_nil monoL_cons monoL_app mono_lst mono_tup DP DV mono_dp mono_dv mono_dvs mono_dps spI1 XV)
section
variable {X : Cx} {CX : CXT} {k : Nat} {f : Addr} {fd : FuncData} {ps : List Str} {sp : Sp} {dvs : List V} {ds : List Value} {E : XK} {x : Str} {p pos : Pos}
theorem pe_call0G (F : FnG X.prog X.w X.K X.mg X.base CX k f fd ps sp) (hgd : X.A.guards = some []) (hr : Room k X.A) (hg : Gl X x) (hm : X.mg x = some (.ref f)) (hk : PySem.W.keepIn X.K (.ref f) = true) (hb : L2.Binds X.K fd ps ds) (hd : Vals dvs ds) (hx : Passes CX X E)
    (hdb : (x == ("__debug__" : Str)) = false := by decide) : PE X (.Call (.Name x p) [] [] pos) (tCall sp dvs E tNil) :=
  ⟨fun pins s σ H Q I h => wpAny_Call_Name_kw (ld_glob I hg hm (PySem.W.callWith_K0 I.kIn hk (run_fnG (us := []) F hgd hr hb hd hx I .nil h)) hdb)⟩
end
section
variable {S : Wv} {K : PySem.W.Frag} {σ : L2.St} {h : Hp} {ta tb tc te : TE}
theorem v_lenA {a : Addr} {xs : List V} (g : Gv S ta σ h (Is (.ref a))) (hs : SqL K h a xs) : Gv S (tCB (rLenS K) (tCons ta tNil)) σ h (Is (.int (xs.length : Nat))) := fun H1 i e Q q =>
  g H1 i e _ fun w H2 i2 e2 hw => ⟨a, xs, by rw [show w = .ref a from hw], .inl (ex_l ((e.trans e2).trans (S.sub _)) hs), q _ H2 i2 e2 rfl⟩
theorem v_min2 {i j : Int} (ga : Gv S ta σ h (Is (.int i))) (gb : Gv S tb σ h (Is (.int j))) : Gv S (tCB (fun xs H Q => ∃ i j : Int, xs = [.int i, .int j] ∧ Q (.int (if j < i then j else i)) H) (tCons ta (tCons tb tNil))) σ h (Is (.int (if j < i then j else i))) := fun H1 i1 e Q q =>
  ga H1 i1 e _ fun x H2 i2 e2 hx => gb H2 i2 (e.trans e2) _ fun y H3 i3 e3 hy => ⟨i, j, by rw [show x = .int i from hx, show y = .int j from hy], q _ H3 i3 (e2.trans e3) rfl⟩
theorem v_max2 {i j : Int} (ga : Gv S ta σ h (Is (.int i))) (gb : Gv S tb σ h (Is (.int j))) : Gv S (tCB (fun xs H Q => ∃ i j : Int, xs = [.int i, .int j] ∧ Q (.int (if j > i then j else i)) H) (tCons ta (tCons tb tNil))) σ h (Is (.int (if j > i then j else i))) := fun H1 i1 e Q q =>
  ga H1 i1 e _ fun x H2 i2 e2 hx => gb H2 i2 (e.trans e2) _ fun y H3 i3 e3 hy => ⟨i, j, by rw [show x = .int i from hx, show y = .int j from hy], q _ H3 i3 (e2.trans e3) rfl⟩
/-- slices of a text -/
def GvO (S : Wv) (to : TO) (σ : L2.St) (h : Hp) (o : Option Int) : Prop := ∀ H1, S.I H1 → Ex h (S.vw H1) → ∀ Q : Option Int → Hp → Prop, (∀ H2, S.I H2 → Ex (S.vw H1) (S.vw H2) → Q o H2) → to σ H1 Q
theorem vo_no : GvO S tNoPart σ h none := fun H1 i _ Q q => q H1 i (Ex.refl _)
theorem vo_some {n : Int} (g : Gv S te σ h (Is (.int n))) : GvO S (tPart te) σ h (some n) := fun H1 i e Q q => g H1 i e _ fun x H2 i2 e2 hx => ⟨n, hx, q H2 i2 e2⟩
theorem v_cut {z : Str} {lo hi : TO} {l u : Option Int} (g : Gv S te σ h (Is (.str z))) (gl : GvO S lo σ h l) (gh : GvO S hi σ h u) (hz : z.length ≤ 100000) : Gv S (tSl rSlS te lo hi) σ h (Is (.str (cutS z l u))) := fun H1 i e Q q =>
  g H1 i e _ fun x H2 i2 e2 hx => gl H2 i2 (e.trans e2) _ fun H3 i3 e3 => gh H3 i3 ((e.trans e2).trans e3) _ fun H4 i4 e4 => ⟨z, hx, sz_of hz, q _ H4 i4 ((e2.trans e3).trans e4) rfl⟩
theorem cut_in {z : Str} {l u : Option Int} {c : Nat} (hc : c ∈ tl (cutS z l u)) : c ∈ tl z := by
  have h' : c ∈ (z.cps.toList.drop (HT.sIx z.length 0 l)).take (HT.sIx z.length z.length u - HT.sIx z.length 0 l) := hc
  exact List.mem_of_mem_drop (List.mem_of_mem_take h')
/-- a text that may be bent -/
structure Bt (x : Str) : Prop where
  s : ∀ c ∈ tl x, c < 128
  l : x.length ≤ 400
theorem Bt.app {x y : Str} {n m : Nat} (hx : ∀ c ∈ tl x, c < 128) (hy : ∀ c ∈ tl y, c < 128) (h1 : x.length ≤ n) (h2 : y.length ≤ m) (h : n + m ≤ 400) : Bt (x ++ y) := by
  refine ⟨fun c hc => ?_, by rw [len_app]; omega⟩
  rw [tl_append] at hc
  rcases List.mem_append.mp hc with z | z
  · exact hx c z
  · exact hy c z
theorem Bt.lay {x : Str} (b : Bt x) : PyData.canLay0 (.str x) = true := lay_str fun c hc => by
  have := b.s c hc
  omega
theorem Bt.shw {x : Str} (b : Bt x) : Shw (.str x) := shw_str b.s (by have := b.l; omega)
theorem sq_noT {H : Hp} {a : Addr} {xs : List V} (h : SqL K H a xs) : SqL K (noT H) a xs := by
  rcases h with (h | ⟨o, h⟩) | h
  · exact .inl (.inl (noT_of h pl_lst.1))
  · exact .inl (.inr ⟨o, noT_of h (fun _ z => nomatch z)⟩)
  · exact .inr h
theorem v_nm {p : Addr} {E : XK} (hp : HasPool S p) (ga : Gv S ta σ h (Is (.ref p))) : Gv S (tCall (spNm K) [] E (tCons ta tNil)) σ h (fun v h => ∃ ds : List PyData, ds.all isMarkD = true ∧ ds.length ≤ 4 ∧ Dd K h v (.tuple ds)) := fun H1 i e Q q =>
  ga H1 i e _ fun v H2 i2 e2 hv => ⟨S, p, i2, hp, by rw [show v = .ref p from hv]; rfl, fun w ds H3 i3 e3 hm hl hd => q w H3 i3 (e2.trans e3) ⟨ds, hm, hl, hd⟩⟩
theorem x_parq {ta : TA} {P1 P2 : VP} {i j : Nat} {tz : TS} {D : Ends} {H : Hp} (iH : S.I H) (g : GvA S ta σ (S.vw H) (All [P1, P2])) (k : ∀ v w H1, S.I H1 → Ex (S.vw H) (S.vw H1) → P1 v (S.vw H1) → P2 w (S.vw H1) → tz D ((σ.set i (some v)).set j (some w)) H1) : tSeq (tPar i j ta) tz D σ H :=
  g H iH (Ex.refl _) _ fun vs H1 i1 e1 ps => by
    obtain ⟨v, w, h1, h2, h3⟩ := MeE.all2 ps
    exact ⟨v, w, h1, k v w H1 i1 e1 h2 h3⟩
theorem mark_sz {d : PyData} (h : isMarkD d = true) : szB d = true := by
  obtain ⟨l, s, n, rfl, h1, h2, h3, h4⟩ := mark_inv h
  have a := (word_len h1).2
  have b := src_len h2
  simp only [szB, szL, Bool.and_true, Bool.and_eq_true, decide_eq_true_eq]
  omega
theorem marks_szL : ∀ {ds : List PyData}, ds.all isMarkD = true → szL ds = true
  | [], _ => rfl
  | d :: ds, h => by
    simp only [szL, Bool.and_eq_true]
    exact ⟨mark_sz (List.all_eq_true.mp h d List.mem_cons_self), marks_szL (List.all_eq_true.mpr fun x hx => List.all_eq_true.mp h x (List.mem_cons_of_mem _ hx))⟩
theorem marks_sz {ds : List PyData} (h : ds.all isMarkD = true) : szB (.tuple ds) = true := by
  simp only [szB]
  exact marks_szL h
theorem v_isN {d : PyData} (g : Gv S ta σ h (DV K d)) : Gv S (tOp (fun x y H Q => y = V.non ∧ Q (.bl (decide (x = .non))) H) ta (tC .non)) σ h (Is (.bl (isNo d))) := fun H1 i e Q q =>
  g H1 i e _ fun v H2 i2 e2 hv => ⟨rfl, by
    have e0 : decide (v = .non) = isNo d := by
      have hv' : Dd K (S.vw H2) v d := hv
      cases hv' <;> rfl
    rw [e0]
    exact q _ H2 i2 e2 rfl⟩
theorem v_noN {d : PyData} (g : Gv S ta σ h (DV K d)) : Gv S (tOp (fun x y H Q => y = V.non ∧ Q (.bl (!decide (x = .non))) H) ta (tC .non)) σ h (Is (.bl (!isNo d))) := fun H1 i e Q q =>
  g H1 i e _ fun v H2 i2 e2 hv => ⟨rfl, by
    have e0 : decide (v = .non) = isNo d := by
      have hv' : Dd K (S.vw H2) v d := hv
      cases hv' <;> rfl
    rw [e0]
    exact q _ H2 i2 e2 rfl⟩
end
section
variable {P : Program} {w : World} {K : PySem.W.Frag} {mg : Str → Option Value} {base : Heap} {f : Addr} {fd : FuncData}
theorem sc_law : FnScope ["_law_script", "_law_k", "_law_pool_here", "_law_turn", "_law_name_here", "_law_text_here", "_law_spot", "_law_sign", "_law_some", "_law_bent", "_law_due"] ["_law_script"] (defScope s_law) := ⟨rfl, rfl, rfl, by decide +kernel, rfl, by decide +kernel, by decide +kernel⟩
def spLaw (K : PySem.W.Frag) (T : List (Addr × Str)) : Sp := fun vs H Q _ => ∃ (a : Addr) (ns : List Int), vs = [.ref a] ∧ SqL K H a (ns.map V.int) ∧ ns.length ≤ 63 ∧ Tabs T H ∧ ∀ H', Q (.bl true) H'
abbrev qL : Str := "law.<locals>.<lambda>"
abbrev SIGNS : Str := "0019a.+/ Z-"
theorem signs_in : ∀ c ∈ SIGNS.cps.toList, c < 128 := by decide
theorem ok_law {T0 : List (Addr × Str)} (F : FD K d_law (fAd K ("law", none)) fd) (T : Txt K mg) (TB : TabB base mg (cT K ("law", none)).1 (cT K ("law", none)).2) (hmT : ((cT K ("law", none)).2, qL) ∈ T0) (huT : ∀ p ∈ T0, p.1 = (cT K ("law", none)).2 → p.2 = qL)
    {fr fm : FuncData} (RF : RefF K mg (ga K "_law_refused") fr) (G_law_marks_right : FnG P w K mg base CX0 7 (ga K "_law_marks_right") fm [] (spMR T0)) (k_law_marks_right : PySem.W.keepIn K (.ref (ga K "_law_marks_right")) = true) (b_law_marks_right : L2.Binds K fm [] [])
    (c2 : Cal1 P w K mg base "is_name" 3 ["thing"] (spD K SzN fun d => .bl (isNameD d))) (c3 : CalX P w K mg base "name_text" 4 ["name"] (spNT K)) (c4 : CalX P w K mg base "parse_name" 4 ["text"] (spPN K))
    (d1 : Cal1 P w K mg base "_law_pool" 1 ["_law_script", "_law_k"] (spPool K)) (d2 : Cal1 P w K mg base "_law_take" 1 ["_law_pool_here", "_law_sides"] spTake) (d3 : Cal1 P w K mg base "_law_name" 3 ["_law_pool_here"] (spNm K)) (d4 : Cal1 P w K mg base "_law_text" 1 ["_law_name_here"] (spD K NmOk fun d => .str (nameT d))) (d5 : Cal1 P w K mg base "_law_parsed" 3 ["_law_text_here"] (spLP K)) :
    FnG P w K mg base CX0 8 (fAd K ("law", none)) fd ["_law_script"] (spLaw K T0) := by
  obtain ⟨_, kis_name, bis_name, Gis_name⟩ := c2
  obtain ⟨_, kname_text, bname_text, Gname_text⟩ := c3
  obtain ⟨_, kparse_name, bparse_name, Gparse_name⟩ := c4
  obtain ⟨_, k_law_pool, b_law_pool, G_law_pool⟩ := d1
  obtain ⟨_, k_law_take, b_law_take, G_law_take⟩ := d2
  obtain ⟨_, k_law_name, b_law_name, G_law_name⟩ := d3
  obtain ⟨_, k_law_text, b_law_text, G_law_text⟩ := d4
  obtain ⟨_, k_law_parsed, b_law_parsed, G_law_parsed⟩ := d5
  refine okGc F sc_law (fun vs H Q E h => ?_) (fun A outer s H vs Q E hgd hr h => ?_)
  · obtain ⟨a, ns, rfl, _⟩ := h
    rfl
  · obtain ⟨a, ns, rfl, hs, hl, iH, k⟩ := h
    refine ⟨_, PSs.nox (pss_cons (ps_if (pt_not (pt_val (pe_call0G G_law_marks_right hgd (hr.mono (by decide)) rfl T.g__law_marks_right k_law_marks_right b_law_marks_right .nil pass0))) (pss_one (ps_ret pe_bl)) pss_nil) (pss_cons (ps_for PassesOwn.never rfl (pi_range1 (by rfl) T.f_range (pa_cons (pe_callB (call_max2 rfl) (by rfl) T.f_max boot_max (pa_cons pe_int (pa_cons (pe_callB (call_min2 rfl) (by rfl) T.f_min boot_min (pa_cons (pe_callB call_len_seq (by rfl) T.f_len PySem.boot_len (pa_cons (pv 0) pa_nil)) (pa_cons pe_int pa_nil))) pa_nil))) pa_nil)) (pg_name (i := 1) sc_law.nd rfl (Or.inl rfl)) (pss_cons (ps_set (i := 2) sc_law.nd rfl (Or.inl rfl) (pe_call G_law_pool (hr.mono (by decide)) rfl T.g__law_pool k_law_pool b_law_pool .nil pass0 (pa_cons (pv 0) (pa_cons (pv 1) pa_nil)))) (pss_one (ps_for PassesOwn.never rfl (pi_range1 (by rfl) T.f_range (pa_cons pe_int pa_nil)) (pg_name (i := 3) sc_law.nd rfl (Or.inl rfl)) (pss_cons (ps_set (i := 4) sc_law.nd rfl (Or.inl rfl) (pe_call G_law_name (hr.mono (by decide)) rfl T.g__law_name k_law_name b_law_name .nil pass0 (pa_cons (pv 2) pa_nil))) (pss_cons (ps_set (i := 5) sc_law.nd rfl (Or.inl rfl) (pe_call G_law_text (hr.mono (by decide)) rfl T.g__law_text k_law_text b_law_text .nil pass0 (pa_cons (pv 4) pa_nil))) (pss_cons (ps_if (PW.pt (pw_or (pt_cmpR op_isnot_bl (pe_call Gis_name (hr.mono (by decide)) rfl T.g_is_name kis_name bis_name .nil pass0 (pa_cons (pv 4) pa_nil)) pe_bl (nomark _)) (pw_or (pt_cmpR op_ne (pe_call Gname_text (hr.mono (by decide)) rfl T.g_name_text kname_text bname_text .nil (passes_call LamX.takes0 (fun _ _ _ _ h => h)) (pa_cons (pv 4) pa_nil)) (pv 5) (nomark _)) (pw_or1 (pt_cmpR op_ne (pe_callB (call_repr hgd hr.units T.sys) (by rfl) T.f_repr boot_repr (pa_cons (pe_call Gparse_name (hr.mono (by decide)) rfl T.g_parse_name kparse_name bparse_name .nil (passes_call LamX.takes0 (fun _ _ _ _ h => h)) (pa_cons (pv 5) pa_nil)) pa_nil)) (pe_callB (call_repr hgd hr.units T.sys) (by rfl) T.f_repr boot_repr (pa_cons (pv 4) pa_nil)) (nomark _)))))) (pss_one (ps_ret pe_bl)) pss_nil) (pss_cons (ps_par (i := 6) (j := 7) (by rfl) sc_law.nd rfl rfl (by decide) rfl rfl (pa_cons (pe_call G_law_take (hr.mono (by decide)) rfl T.g__law_take k_law_take b_law_take .nil pass0 (pa_cons (pv 2) (pa_cons (pe_op op_add (pe_callB call_len_str (by rfl) T.f_len PySem.boot_len (pa_cons (pv 5) pa_nil)) pe_int) pa_nil))) (pa_cons (pe_ix ix_str pe_str (pe_call G_law_take (hr.mono (by decide)) rfl T.g__law_take k_law_take b_law_take .nil pass0 (pa_cons (pv 2) (pa_cons pe_int pa_nil))) (fun _ _ => rfl)) pa_nil)) (by rfl)) (pss_cons (ps_set (i := 8) sc_law.nd rfl (Or.inl rfl) (pe_lst (pa_cons (pe_op op_add_str (pe_op op_add_str (pe_slice sl_str (pv 5) po_none (po_some (pv 6))) (pv 7)) (pe_slice sl_str (pv 5) (po_some (pv 6)) po_none)) (pa_cons (pe_op op_add_str (pe_slice sl_str (pv 5) po_none (po_some (pv 6))) (pe_slice sl_str (pv 5) (po_some (pe_op op_add (pv 6) pe_int)) po_none)) pa_nil)))) (pss_one (ps_for PassesOwn.never rfl (pi_list (pe_op op_cat (pv 8) (pe_lst (pa_cons (pe_op op_add_str (pe_op op_add_str (pe_slice sl_str (pv 5) po_none (po_some (pv 6))) (pv 7)) (pe_slice sl_str (pv 5) (po_some (pe_op op_add (pv 6) pe_int)) po_none)) pa_nil)))) (pg_name (i := 9) sc_law.nd rfl (Or.inr rfl)) (pss_cons (ps_set (i := 10) sc_law.nd rfl (Or.inl rfl) (pe_call G_law_parsed (hr.mono (by decide)) rfl T.g__law_parsed k_law_parsed b_law_parsed .nil pass0 (pa_cons (pv 9) pa_nil))) (pss_cons (ps_if (PW.pt (pw_and (pt_cmpR op_isN (pv 10) pe_non (nomark _)) (pw_and1 (pt_not (pt_val (pe_refused T (k := 4) RF hgd (hr.mono (by decide)) TB rfl hmT huT rfl (lamS_by (by show lamSB (defScope s_law) _ = true; decide +kernel)) (fun _ _ _ _ _ => rfl) (fun E A outer s H f c' hg0 hr0 => pe_call Gparse_name (hr0.mono (by decide)) rfl T.g_parse_name kparse_name bparse_name .nil (passes_call (takes_of rfl rfl rfl rfl) (fun _ _ _ _ h => h)) (pa_cons (pv 9) pa_nil)) (fun σ H W1 W2 Q1 Q2 => mono_pn (mono_v) σ H W1 W2 Q1 Q2) rfl (pv 9))))))) (pss_one (ps_ret pe_bl)) pss_nil) (pss_one (ps_if (PW.pt (pw_and (pt_cmpR op_notN (pv 10) pe_non (nomark _)) (pw_and1 (pt_cmpR op_ne (pe_callB (call_repr hgd hr.units T.sys) (by rfl) T.f_repr boot_repr (pa_cons (pe_call Gparse_name (hr.mono (by decide)) rfl T.g_parse_name kparse_name bparse_name .nil (passes_call LamX.takes0 (fun _ _ _ _ h => h)) (pa_cons (pv 9) pa_nil)) pa_nil)) (pe_callB (call_repr hgd hr.units T.sys) (by rfl) T.f_repr boot_repr (pa_cons (pv 10) pa_nil)) (nomark _))))) (pss_one (ps_ret pe_bl)) pss_nil))))))))))))))) (pss_one (ps_ret pe_bl)))), ?_⟩
    have hT := tab_tab T0
    have hs0 : SqL K ((tabW T0).vw H) a (ns.map V.int) := sq_noT hs
    have gMR : ∀ {E : XK} {σ : L2.St} {h : Hp}, Gv (tabW T0) (tCall (spMR T0) [] E tNil) σ h (Is (.bl true)) := fun H1 i e Q q => ⟨tabW T0, i, hT, rfl, fun H' i' e' => q _ H' i' e' rfl⟩
    refine x_when (S := tabW T0) (b := false) iH (vt_not (b := true) (vt_B gMR)) (fun z => nomatch z) fun _ H1 i1 e1 => ?_
    show tSeq (tFor _ _ _) _ _ [some (.ref a), none, none, none, none, none, none, none, none, none, none] H1
    refine x_forx (S := tabW T0) (S2 := tabW T0) (C := fun n => n ≤ 6) (Pi := fun i v _ => v = .int (i : Nat)) rfl (fun _ i => i) i1
      (vx_rng (Gv.imp (v_max2 v_c (v_min2 (v_lenA (v_var rfl) (ex_l e1 hs0)) v_c)) fun v h1 _ hv => ⟨(if (if (6 : Int) < ((ns.map V.int).length : Nat) then (6 : Int) else ((ns.map V.int).length : Nat)) > 1 then (if (6 : Int) < ((ns.map V.int).length : Nat) then (6 : Int) else ((ns.map V.int).length : Nat)) else 1).toNat, by
        rw [show v = _ from hv]
        congr 1
        split <;> split <;> omega, by split <;> split <;> omega⟩) (fun n h => by omega))
      (fun i σ' H' => ∃ o1 o2 o3 o4 o5 o6 o7 o8 o9 o10, σ' = [some (.ref a), o1, o2, o3, o4, o5, o6, o7, o8, o9, o10]) (fun _ _ _ _ _ _ h => h) (fun _ _ _ => ⟨_, _, _, _, _, _, _, _, _, _, rfl⟩) ?turn ?done
    case done =>
      intro n σ' H' hn i' e' hP
      exact x_ret (S := tabW T0) i' v_c fun v5 H5 i5 e5 p5 => by
        rw [show v5 = .bl true from p5]
        exact k H5
    case turn =>
      intro n i x σ' H' hn hi i' e' hx hP N hN
      obtain ⟨o1, o2, o3, o4, o5, o6, o7, o8, o9, o10, rfl⟩ := hP
      have hx' : x = .int (i : Nat) := hx
      subst hx'
      show tCall (spPool K) [] _ _ [some (.ref a), some (.int (i : Nat)), o2, o3, o4, o5, o6, o7, o8, o9, o10] H' _
      refine ⟨_, rfl, _, rfl, a, ns, i, rfl, ex_l (((e1.trans e')).trans ((tabW T0).sub _)) hs0, by omega, fun p pa pb np b0 b1 => ?_⟩
      dsimp only
      show tFor _ _ _ _ [some (.ref a), some (.int (i : Nat)), some (.ref p), o3, o4, o5, o6, o7, o8, o9, o10] (upd H' p (poolO pa pb))
      have u2 := (tabW T0).up i' (Ex.new (o := poolO pa pb) np)
      have nD : (tabW T0).vw H' p = none := noT_none np
      have i2 : ((tabW T0).hide p PoolJ).I (upd H' p (poolO pa pb)) := ⟨u2.1, poolO pa pb, noT_of upd_same pl_lst.1, pl_lst, pa, pb, rfl, b0, b1⟩
      have e2 : Ex ((tabW T0).vw H') (((tabW T0).hide p PoolJ).vw (upd H' p (poolO pa pb))) := ex_hide u2.2 nD
      have hp2 : HasPool ((tabW T0).hide p PoolJ) p := pool_hide
      have hT2 : HasTab ((tabW T0).hide p PoolJ) T0 := hT.hide
      revert i2 e2 hp2 hT2
      generalize upd H' p (poolO pa pb) = H2
      generalize hS : (tabW T0).hide p PoolJ = S
      intro i2 e2 hp2 hT2
      refine x_for (S := S) (n := 8) (Pi := fun i v _ => v = .int (i : Nat)) i2 (vi_rng (va_cons v_c (mono_is _) va_nil) (by decide)) (fun _ σ' _ => ∃ o3 o4 o5 o6 o7 o8 o9 o10, σ' = [some (.ref a), some (.int (i : Nat)), some (.ref p), o3, o4, o5, o6, o7, o8, o9, o10]) (fun _ _ _ _ _ _ _ h => h) (fun _ _ _ => ⟨_, _, _, _, _, _, _, _, rfl⟩) ?turn2 ?done2
      case done2 =>
        intro σ' H3 i3 e3 hP
        obtain ⟨o3, o4, o5, o6, o7, o8, o9, o10, rfl⟩ := hP
        subst hS
        exact hN _ H3 i3.1 ((e2.trans e3).trans hide_ex) ⟨_, _, _, _, _, _, _, _, _, _, rfl⟩
      case turn2 =>
        intro j y σ' H3 hj i3 e3 hy hP N2 hN2
        obtain ⟨o3, o4, o5, o6, o7, o8, o9, o10, rfl⟩ := hP
        show tSeq (tAsg _ _) _ _ [some (.ref a), some (.int (i : Nat)), some (.ref p), some y, o4, o5, o6, o7, o8, o9, o10] H3
        refine x_asgq (S := S) (P := fun v h => ∃ ds : List PyData, ds.all isMarkD = true ∧ ds.length ≤ 4 ∧ Dd K h v (.tuple ds)) i3 (v_nm hp2 (v_var rfl)) fun v4 H4 i4 e4 h4 => ?_
        obtain ⟨ds, hm, hl4, hd4⟩ := h4
        have hNm : NmOk (.tuple ds) := ⟨hm, fun _ e => by cases e; omega⟩
        have hSz : SzN (.tuple ds) := ⟨marks_sz hm, fun _ e => by cases e; omega⟩
        have hSh : Shw (.tuple ds) := shw_marks hm (by omega)
        refine x_asgq (S := S) (P := Is (.str (nameT (.tuple ds)))) i4 (v_spD (vd_var (i := 4) rfl hd4) hNm) fun v5 H5 i5 e5 h5 => ?_
        have h5' : v5 = .str (nameT (.tuple ds)) := h5
        subst h5'
        have q1 := nameT_in hm
        have q2 := nameT_len hm hl4
        have q3 := parse_back hm
        have hd5 := MeE.Dd.up e5 hd4
        have gnt : ∀ {σ : L2.St} {h : Hp} {te : TE} {E : XK}, Gv S te σ h (DV K (.tuple ds)) → Gv S (tCall (spNT K) [] E (tCons te tNil)) σ h (Is (.str (nameT (.tuple ds)))) := fun g => v_nt g hSz hm
        revert q1 q2 q3 gnt
        generalize nameT (.tuple ds) = X
        intro q1 q2 q3 gnt
        show tSeq (tIfS _ _ _) _ _ [some (.ref a), some (.int (i : Nat)), some (.ref p), some y, some v4, some (.str X), o6, o7, o8, o9, o10] H5
        refine x_when (S := S) (b := false) i5 ((vt_or (a := false) (b := false) (vt_test ((v_opV (v_spD (vd_var (i := 4) rfl hd5) hSz) v_c rv_isn).is (by rw [show isNameD (.tuple ds) = true from hm]; rfl))) fun _ => (vt_or (a := false) (b := false) (vt_test ((v_ne (gnt (vd_var (i := 4) rfl hd5)) (v_var rfl) rfl).is (by rw [decide_eq_true rfl]; rfl)))
          fun _ => vt_test ((v_ne (v_repr (v_pn (ms := ds) (is_str (v_var rfl)) (decide_eq_true (by omega)) (fun x e => by cases e; omega) q3) hSh.s hSh.dp hSh.l) (v_repr (vd_var (i := 4) rfl hd5) hSh.s hSh.dp hSh.l) rfl).is (by rw [decide_eq_true rfl]; rfl))).is rfl).is rfl) (fun z => nomatch z) fun _ H6 i6 e6 => ?_
        refine x_parq (S := S) (P1 := fun v _ => ∃ n : Int, v = .int n ∧ 0 ≤ n ∧ n < ((X.length : Nat) : Int) + 1) (P2 := fun v _ => ∃ c ∈ SIGNS.cps.toList, v = .str ⟨#[c]⟩) i6 (va_cons (v_take hp2 (v_var rfl) (v_opV (v_lenS (v_var rfl) (by omega)) v_c rv_I0) (by omega) (by omega)) (fun _ _ _ _ p => p) (va_cons (v_ixSAny v_c (v_take hp2 (v_var rfl) v_c (by decide) (by decide)) (by decide)) (fun _ _ _ _ p => p) va_nil)) fun v6 v7 H7 i7 e7 h6 h7 => ?_
        obtain ⟨sp, rfl, sp0, sp1⟩ := h6
        obtain ⟨sg, hsg, rfl⟩ := h7
        have c1 : ∀ c ∈ tl (⟨#[sg]⟩ : Str), c < 128 := fun c hc => by
          have : c = sg := by simpa [tl] using hc
          rw [this]
          exact signs_in sg hsg
        have c2 : (⟨#[sg]⟩ : Str).length ≤ 1 := Nat.le_refl 1
        have cq : ∀ (l u : Option Int), (∀ c ∈ tl (cutS X l u), c < 128) ∧ (cutS X l u).length ≤ 152 := fun l u => ⟨fun c hc => q1 c (cut_in hc), Nat.le_trans (cutS_length X l u) q2⟩
        have w1 : ∀ l u : Option Int, (∀ c ∈ tl (cutS X l u ++ ⟨#[sg]⟩), c < 128) ∧ (cutS X l u ++ ⟨#[sg]⟩).length ≤ 153 := fun l u => by
          obtain ⟨z1, z2⟩ := Bt.app (cq l u).1 c1 (cq l u).2 c2 (by decide)
          refine ⟨z1, ?_⟩
          rw [len_app]
          have := (cq l u).2
          omega
        have bt1 : Bt (cutS X none (some sp) ++ ⟨#[sg]⟩ ++ cutS X (some sp) none) := Bt.app (w1 _ _).1 (cq _ _).1 (w1 _ _).2 (cq _ _).2 (by decide)
        have bt2 : Bt (cutS X none (some sp) ++ cutS X (some (sp + 1)) none) := Bt.app (cq _ _).1 (cq _ _).1 (cq _ _).2 (cq _ _).2 (by decide)
        have bt3 : Bt (cutS X none (some sp) ++ ⟨#[sg]⟩ ++ cutS X (some (sp + 1)) none) := Bt.app (w1 _ _).1 (cq _ _).1 (w1 _ _).2 (cq _ _).2 (by decide)
        have gc1 : ∀ {σ : L2.St} {h : Hp}, σ[5]? = some (some (.str X)) → σ[6]? = some (some (.int sp)) → Gv S (tSl rSlS (tVar 5) tNoPart (tPart (tVar 6))) σ h (Is (.str (cutS X none (some sp)))) := fun h5 h6 => v_cut (v_var h5) vo_no (vo_some (v_var h6)) (by omega)
        have gc2 : ∀ {σ : L2.St} {h : Hp}, σ[5]? = some (some (.str X)) → σ[6]? = some (some (.int sp)) → Gv S (tSl rSlS (tVar 5) (tPart (tVar 6)) tNoPart) σ h (Is (.str (cutS X (some sp) none))) := fun h5 h6 => v_cut (v_var h5) (vo_some (v_var h6)) vo_no (by omega)
        have gc3 : ∀ {σ : L2.St} {h : Hp}, σ[5]? = some (some (.str X)) → σ[6]? = some (some (.int sp)) → Gv S (tSl rSlS (tVar 5) (tPart (tOp (rI0 fun i j => V.int (i + j)) (tVar 6) (tC (.int 1)))) tNoPart) σ h (Is (.str (cutS X (some (sp + 1)) none))) := fun h5 h6 => v_cut (v_var h5) (vo_some (v_opV (v_var h6) v_c rv_I0)) vo_no (by omega)
        have z1 := (cq none (some sp)).2
        have z2 := (cq (some sp) none).2
        have z3 := (cq (some (sp + 1)) none).2
        have z4 := (w1 none (some sp)).2
        refine x_asgq (S := S) (P := LS [cutS X none (some sp) ++ ⟨#[sg]⟩ ++ cutS X (some sp) none, cutS X none (some sp) ++ cutS X (some (sp + 1)) none]) i7
          (v_lst (va_cons (v_addS (v_addS (gc1 rfl rfl) (v_var rfl) (by omega)) (gc2 rfl rfl) (by omega)) (mono_is _) (va_cons (v_addS (gc1 rfl rfl) (gc3 rfl rfl) (by omega)) (mono_is _) va_nil)) (mono_ls [_, _]) (by simp)) fun v8 H8 i8 e8 h8 => ?_
        have allB : ∀ y ∈ [cutS X none (some sp) ++ ⟨#[sg]⟩ ++ cutS X (some sp) none, cutS X none (some sp) ++ cutS X (some (sp + 1)) none, cutS X none (some sp) ++ ⟨#[sg]⟩ ++ cutS X (some (sp + 1)) none], Bt y := fun y hy => by
          simp only [List.mem_cons, List.not_mem_nil, or_false] at hy
          rcases hy with rfl | rfl | rfl
          · exact bt1
          · exact bt2
          · exact bt3
        have gl : Gv S (tOp rCat (tVar 8) (tLst (tCons (tOp _ (tOp _ (tSl rSlS (tVar 5) tNoPart (tPart (tVar 6))) (tVar 7)) (tSl rSlS (tVar 5) (tPart (tOp (rI0 fun i j => V.int (i + j)) (tVar 6) (tC (.int 1)))) tNoPart)) tNil))) [some (.ref a), some (.int (i : Nat)), some (.ref p), some y, some v4, some (.str X), some (.int sp), some (.str ⟨#[sg]⟩), some v8, o9, o10] (S.vw H8) (LS [cutS X none (some sp) ++ ⟨#[sg]⟩ ++ cutS X (some sp) none, cutS X none (some sp) ++ cutS X (some (sp + 1)) none, cutS X none (some sp) ++ ⟨#[sg]⟩ ++ cutS X (some (sp + 1)) none]) :=
          v_cat (Ps := [_, _]) (Rs := [_]) (v_varP rfl (mono_lst (mono_ls [_, _])) h8) (v_lst (va_cons (v_addS (v_addS (gc1 rfl rfl) (v_var rfl) (by omega)) (gc3 rfl rfl) (by omega)) (mono_is _) va_nil) (mono_ls [_]) (by simp)) (mono_ls [_, _]) (mono_ls [_]) (by simp)
        revert allB gl
        generalize [cutS X none (some sp) ++ ⟨#[sg]⟩ ++ cutS X (some sp) none, cutS X none (some sp) ++ cutS X (some (sp + 1)) none, cutS X none (some sp) ++ ⟨#[sg]⟩ ++ cutS X (some (sp + 1)) none] = bs
        intro allB gl
        show tFor _ _ _ _ [some (.ref a), some (.int (i : Nat)), some (.ref p), some y, some v4, some (.str X), some (.int sp), some (.str ⟨#[sg]⟩), some v8, o9, o10] H8
        refine x_for (S := S) i8 (vi_lst gl (mono_ls bs)) (fun _ σ' _ => ∃ o9 o10, σ' = [some (.ref a), some (.int (i : Nat)), some (.ref p), some y, some v4, some (.str X), some (.int sp), some (.str ⟨#[sg]⟩), some v8, o9, o10]) (fun _ _ _ _ _ _ _ h => h) (fun _ _ _ => ⟨_, _, rfl⟩) ?turn3 ?done3
        case done3 =>
          intro σ' H9 i9 e9 hP
          obtain ⟨o9, o10, rfl⟩ := hP
          exact hN2 _ H9 i9 (e4.trans (e5.trans (e6.trans (e7.trans (e8.trans e9))))) ⟨_, _, _, _, _, _, _, _, rfl⟩
        case turn3 =>
          intro l x σ' H9 hl9 i9 e9 hx hP N3 hN3
          obtain ⟨o9, o10, rfl⟩ := hP
          obtain ⟨Px, hx1, hx2⟩ := hx
          rw [List.getElem?_map] at hx1
          obtain ⟨b, hb1, hb2⟩ := Option.map_eq_some_iff.mp hx1
          subst hb2
          have hxb : x = .str b := hx2
          subst hxb
          have bt := allB b (List.mem_of_getElem? hb1)
          have bl := bt.l
          show tSeq (tAsg _ _) _ _ [some (.ref a), some (.int (i : Nat)), some (.ref p), some y, some v4, some (.str X), some (.int sp), some (.str ⟨#[sg]⟩), some v8, some (.str b), o10] H9
          refine x_asgq (S := S) (P := DV K (resD b)) i9 (v_lp (v_var rfl) (by omega) bt.lay) fun v10 H10 i10 e10 h10 => ?_
          have hps : szB (.str b) = true := decide_eq_true (by omega)
          have hp4 : ∀ x, PyData.str b = .str x → x.length ≤ 40000 := fun x e => by cases e; omega
          cases hr0 : parseS b with
          | none =>
            have hres : resD b = .none := by
              unfold resD
              rw [hr0]
            rw [hres] at h10
            refine x_when (S := S) (b := false) i10 ((vt_and (a := true) (b := false) (vt_test (v_isN (vd_var (i := 10) rfl h10))) fun _ => vt_not (b := true) (vt_B (v_ref hT2 (x_pn (is_str (v_var (i := 9) rfl)) hps hp4 hr0) (is_str (v_var (i := 9) rfl)) bt.shw))).is rfl) (fun z => nomatch z) fun _ H11 i11 e11 => ?_
            refine x_if (S := S) (b := false) i11 ((vt_and (a := false) (b := false) (vt_test (v_noN (vd_var (i := 10) rfl (MeE.Dd.up e11 h10)))) fun z => nomatch z).is rfl) (fun z => nomatch z) fun _ H12 i12 e12 => ?_
            exact hN3 _ H12 i12 (e10.trans (e11.trans e12)) ⟨_, _, rfl⟩
          | some ms =>
            have hres : resD b = .tuple ms := by
              unfold resD
              rw [hr0]
            rw [hres] at h10
            obtain ⟨m1, m2⟩ := parse_marks hr0
            have hSh2 : Shw (.tuple ms) := shw_marks m1 (by omega)
            refine x_when (S := S) (b := false) i10 ((vt_and (a := false) (b := false) (vt_test (v_isN (vd_var (i := 10) rfl h10))) fun z => nomatch z).is rfl) (fun z => nomatch z) fun _ H11 i11 e11 => ?_
            refine x_if (S := S) (b := false) i11 ((vt_and (a := true) (b := false) (vt_test (v_noN (vd_var (i := 10) rfl (MeE.Dd.up e11 h10)))) fun _ => vt_test ((v_ne (v_repr (v_pn (ms := ms) (is_str (v_var (i := 9) rfl)) hps hp4 hr0) hSh2.s hSh2.dp hSh2.l) (v_repr (vd_var (i := 10) rfl (MeE.Dd.up e11 h10)) hSh2.s hSh2.dp hSh2.l) rfl).is (by rw [decide_eq_true rfl]; rfl))).is rfl) (fun z => nomatch z) fun _ H12 i12 e12 => ?_
            exact hN3 _ H12 i12 (e10.trans (e11.trans e12)) ⟨_, _, rfl⟩
end
end K03
set_option Elab.async false
set_option linter.all false
set_option maxRecDepth 100000
set_option maxHeartbeats 4000000
set_option pp.maxSteps 600
set_option pp.deepTerms false
namespace K03
open PySem PySem.Spec PyProof.Rows L2 He MeH MeG MeK Evl MeV MeL TL LamX
open MeE (VP Mono Is All MonoL Lst Tup mono_is monoL_nil monoL_cons monoL_app mono_lst mono_tup DP DV mono_dp mono_dv mono_dvs mono_dps spI1 XV)

theorem tabs0 {T : List (Addr × Str)} {H : Hp} (h : ∀ p ∈ T, H p.1 = some (.tbl #[])) : Tabs T H := fun p hp => ⟨#[], h p hp, trivial, fun _ _ z => nomatch z⟩
theorem facts {P : Program} {w : World} {K : PySem.W.Frag} {h : Heap} {mg : Str → Option Value} {f : Addr} (X : K.In h) (G : h.Ns mainGlobals mg) (hfa : mg ("law" : Str) = some (.ref f)) (c : SaysY fb fn tf h K) :
    ∃ fd : FuncData, (∀ (s : Shared) (v : Value), BindsTo s fd ⟨[v], []⟩ [("_law_script", v)]) ∧ ∀ base : Heap, K.In base → base.Ns mainGlobals mg → (∀ p ∈ tf.map (cT K), TabB base mg p.1 p.2) → FnG P w K mg base CX0 8 f fd ["_law_script"] (spLaw K [((cT K ("_law_marks_right", none)).2, qM), ((cT K ("law", none)).2, qL)]) := by
  have T : Txt K mg := txt_of X G c
  obtain ⟨fd_is_word, Fd_is_word⟩ := c.x.def_ 0 (d := d_is_word) rfl
  obtain ⟨fd_is_integer, Fd_is_integer⟩ := c.x.def_ 1 (d := d_is_integer) rfl
  obtain ⟨fd_is_mark, Fd_is_mark⟩ := c.x.def_ 2 (d := d_is_mark) rfl
  obtain ⟨fd_is_name, Fd_is_name⟩ := c.x.def_ 3 (d := d_is_name) rfl
  obtain ⟨fd_mark_text, Fd_mark_text⟩ := c.x.def_ 4 (d := d_mark_text) rfl
  obtain ⟨fd_name_text, Fd_name_text⟩ := c.x.def_ 5 (d := d_name_text) rfl
  obtain ⟨fd_number_in, Fd_number_in⟩ := c.x.def_ 6 (d := d_number_in) rfl
  obtain ⟨fd_mark_in, Fd_mark_in⟩ := c.x.def_ 7 (d := d_mark_in) rfl
  obtain ⟨fd_parse_name, Fd_parse_name⟩ := c.x.def_ 8 (d := d_parse_name) rfl
  obtain ⟨fd__law_pool, Fd__law_pool⟩ := c.x.def_ 9 (d := d__law_pool) rfl
  obtain ⟨fd__law_take, Fd__law_take⟩ := c.x.def_ 10 (d := d__law_take) rfl
  obtain ⟨fd__law_word, Fd__law_word⟩ := c.x.def_ 11 (d := d__law_word) rfl
  obtain ⟨fd__law_name, Fd__law_name⟩ := c.x.def_ 12 (d := d__law_name) rfl
  obtain ⟨fd__law_text, Fd__law_text⟩ := c.x.def_ 13 (d := d__law_text) rfl
  obtain ⟨fd__law_is_word, Fd__law_is_word⟩ := c.x.def_ 14 (d := d__law_is_word) rfl
  obtain ⟨fd__law_is_mark, Fd__law_is_mark⟩ := c.x.def_ 15 (d := d__law_is_mark) rfl
  obtain ⟨fd__law_parsed, Fd__law_parsed⟩ := c.x.def_ 16 (d := d__law_parsed) rfl
  obtain ⟨fd__law_refused, Fd__law_refused⟩ := c.x.def_ 17 (d := d__law_refused) rfl
  obtain ⟨fd__law_marks_right, Fd__law_marks_right⟩ := c.x.def_ 18 (d := d__law_marks_right) rfl
  obtain ⟨fd_law, Fd_law⟩ := c.x.def_ 19 (d := d_law) rfl
  obtain ⟨fe_InvalidName, Fe_InvalidName⟩ := c.x.def_ 20 (d := e_InvalidName) rfl
  have e := hfa.symm.trans T.g_law
  cases e
  have b := FunD.bindsA (ps := ["_law_script"]) Fd_law fun _ _ _ _ _ _ us hl => match us, hl with | [_], _ => rfl
  have nd : (cT K ("_law_marks_right", none)).2 ≠ (cT K ("law", none)).2 := fun z => by
    have h1 := c.nd
    have h2 : [(cT K ("_law_marks_right", none)).2, (cT K ("law", none)).2].Nodup := h1
    rw [z] at h2
    simp at h2
  refine ⟨fd_law, fun s v => b s [v] rfl, fun base kin ns tb => ?_⟩
  have t1 : TabB base mg (cT K ("_law_marks_right", none)).1 (cT K ("_law_marks_right", none)).2 := tb _ (List.mem_map.mpr ⟨_, List.mem_cons_self, rfl⟩)
  have t2 : TabB base mg (cT K ("law", none)).1 (cT K ("law", none)).2 := tb _ (List.mem_map.mpr ⟨_, List.mem_cons_of_mem _ List.mem_cons_self, rfl⟩)
  have c_word : Cal1 P w K mg base "is_word" 1 ["thing"] (spD K (fun d => szB d = true) fun d => .bl (isWordD d)) := ⟨_, Fd_is_word.kp, Fd_is_word.bindsN fun _ _ _ _ _ _ us hl => match us, hl with | [_], _ => rfl, ok_is_word Fd_is_word T⟩
  have c_int : Cal1 P w K mg base "is_integer" 1 ["thing"] (spD K (fun _ => True) fun d => .bl (isIntD d)) := ⟨_, Fd_is_integer.kp, Fd_is_integer.bindsN fun _ _ _ _ _ _ us hl => match us, hl with | [_], _ => rfl, ok_is_integer Fd_is_integer T⟩
  have c_mark : Cal1 P w K mg base "is_mark" 2 ["thing"] (spD K (fun d => szB d = true) fun d => .bl (isMarkD d)) := ⟨_, Fd_is_mark.kp, Fd_is_mark.bindsN fun _ _ _ _ _ _ us hl => match us, hl with | [_], _ => rfl, ok_is_mark Fd_is_mark T c_word c_int⟩
  have c_name : Cal1 P w K mg base "is_name" 3 ["thing"] (spD K SzN fun d => .bl (isNameD d)) := ⟨_, Fd_is_name.kp, Fd_is_name.bindsN fun _ _ _ _ _ _ us hl => match us, hl with | [_], _ => rfl, ok_is_name Fd_is_name T c_mark⟩
  have c_mt : Cal1 P w K mg base "mark_text" 1 ["mark"] (spD K (fun d => isMarkD d = true) fun d => .str (markTD d)) := ⟨_, Fd_mark_text.kp, Fd_mark_text.bindsN fun _ _ _ _ _ _ us hl => match us, hl with | [_], _ => rfl, ok_mark_text Fd_mark_text T⟩
  have bini : L2.Binds K fe_InvalidName ["self", "value"] [] := Fe_InvalidName.bindsN fun _ _ _ _ _ _ us hl => match us, hl with | [_, _], _ => rfl
  have Gini : FnOk P w K mg base CX0 1 (ma K (CIN K) "__init__") fe_InvalidName ["self", "value"] (spI1 (CIN K) "value") := ok_ini Fe_InvalidName T
  have c_nt : CalX P w K mg base "name_text" 4 ["name"] (spNT K) := ⟨_, Fd_name_text.kp, Fd_name_text.bindsN fun _ _ _ _ _ _ us hl => match us, hl with | [_], _ => rfl, ok_name_text Fd_name_text T c_name c_mt Gini bini⟩
  have c_num : Cal1 P w K mg base "number_in" 1 ["text"] spNum := ⟨_, Fd_number_in.kp, Fd_number_in.bindsN fun _ _ _ _ _ _ us hl => match us, hl with | [_], _ => rfl, ok_number_in Fd_number_in T⟩
  have c_mi : Cal1 P w K mg base "mark_in" 3 ["text"] (spO K markInD) := ⟨_, Fd_mark_in.kp, Fd_mark_in.bindsN fun _ _ _ _ _ _ us hl => match us, hl with | [_], _ => rfl, ok_mark_in Fd_mark_in T c_mark c_num⟩
  have c_pn : CalX P w K mg base "parse_name" 4 ["text"] (spPN K) := ⟨_, Fd_parse_name.kp, Fd_parse_name.bindsN fun _ _ _ _ _ _ us hl => match us, hl with | [_], _ => rfl, ok_parse_name Fd_parse_name T c_mi Gini bini⟩
  have c_po : Cal1 P w K mg base "_law_pool" 1 ["_law_script", "_law_k"] (spPool K) := ⟨_, Fd__law_pool.kp, Fd__law_pool.bindsN fun _ _ _ _ _ _ us hl => match us, hl with | [_, _], _ => rfl, ok_po Fd__law_pool T⟩
  have c_tk : Cal1 P w K mg base "_law_take" 1 ["_law_pool_here", "_law_sides"] spTake := ⟨_, Fd__law_take.kp, Fd__law_take.bindsN fun _ _ _ _ _ _ us hl => match us, hl with | [_, _], _ => rfl, ok_tk Fd__law_take⟩
  have c_wd : Cal1 P w K mg base "_law_word" 2 ["_law_pool_here"] spWd := ⟨_, Fd__law_word.kp, Fd__law_word.bindsN fun _ _ _ _ _ _ us hl => match us, hl with | [_], _ => rfl, ok_law_word Fd__law_word T c_tk⟩
  have c_nm : Cal1 P w K mg base "_law_name" 3 ["_law_pool_here"] (spNm K) := ⟨_, Fd__law_name.kp, Fd__law_name.bindsN fun _ _ _ _ _ _ us hl => match us, hl with | [_], _ => rfl, ok_law_name Fd__law_name T c_tk c_wd⟩
  have c_tx : Cal1 P w K mg base "_law_text" 1 ["_law_name_here"] (spD K NmOk fun d => .str (nameT d)) := ⟨_, Fd__law_text.kp, Fd__law_text.bindsN fun _ _ _ _ _ _ us hl => match us, hl with | [_], _ => rfl, ok_law_text Fd__law_text T⟩
  have c_lw : Cal1 P w K mg base "_law_is_word" 1 ["_law_thing"] _ := ⟨_, Fd__law_is_word.kp, Fd__law_is_word.bindsN fun _ _ _ _ _ _ us hl => match us, hl with | [_], _ => rfl, ok_law_is_word Fd__law_is_word T⟩
  have c_lm : Cal1 P w K mg base "_law_is_mark" 2 ["_law_thing"] (spD K MkC fun d => .bl (isMarkD d)) := ⟨_, Fd__law_is_mark.kp, Fd__law_is_mark.bindsN fun _ _ _ _ _ _ us hl => match us, hl with | [_], _ => rfl, ok_law_is_mark Fd__law_is_mark T c_lw⟩
  have c_lp : Cal1 P w K mg base "_law_parsed" 3 ["_law_text_here"] (spLP K) := ⟨_, Fd__law_parsed.kp, Fd__law_parsed.bindsN fun _ _ _ _ _ _ us hl => match us, hl with | [_], _ => rfl, ok_law_parsed Fd__law_parsed T c_lm⟩
  have RF : RefF K mg (ga K "_law_refused") fd__law_refused := ⟨Fd__law_refused, T.g__law_refused, Fd__law_refused.kp, Fd__law_refused.bindsN fun _ _ _ _ _ _ us hl => match us, hl with | [_, _], _ => rfl⟩
  have GM : FnG P w K mg base CX0 7 (ga K "_law_marks_right") fd__law_marks_right [] (spMR [((cT K ("_law_marks_right", none)).2, qM), ((cT K ("law", none)).2, qL)]) := ok_marks rfl Fd__law_marks_right T t1 List.mem_cons_self (fun p hp e => by
    rcases List.mem_cons.mp hp with z | z
    · rw [z]
    · rw [List.mem_singleton.mp z] at e
      exact absurd e.symm nd) RF c_mark c_name c_nt c_pn
  exact ok_law Fd_law T t2 (List.mem_cons_of_mem _ List.mem_cons_self) (fun p hp e => by
    rcases List.mem_cons.mp hp with z | z
    · rw [z] at e
      exact absurd e nd
    · rw [List.mem_singleton.mp z]) RF GM Fd__law_marks_right.kp (Fd__law_marks_right.bindsN fun _ _ _ _ _ _ us hl => match us, hl with | [], _ => rfl) c_name c_nt c_pn c_po c_tk c_nm c_tx c_lp
end K03
open PySem PySem.W PySem.Calls PyProof.Rows
theorem PySem.Challenge.cw_maskededits_k03_marks_and_names_holds : PySem.Challenge.rw_maskededits_k03_marks_and_names.Holds := by
  w_on; o_law
  refine HandSHeadRun.head_any (r := OpenLaw.row PySem.Challenge.rw_maskededits_k03_marks_and_names) (q := view (OpenLaw.row PySem.Challenge.rw_maskededits_k03_marks_and_names).prog [29]) (H := K03.hk) (ob := K03.ob) (M := 8000) (loose := ["MaskError", "InvalidName", "LETTERS", "MOST_LETTERS", "is_word", "DIGITS", "MOST_NUMBER", "is_integer", "is_mark", "is_name", "mark_text", "name_text", "number_in", "mark_in", "parse_name", "_law_pool", "_law_take", "_law_word", "_law_name", "_law_text", "_law_is_word", "_law_is_mark", "_law_parsed", "_law_refused", "_law_marks_right"]) (d := HandSHeadRun.topDef (OpenLaw.row PySem.Challenge.rw_maskededits_k03_marks_and_names).prog 29) (kwd := []) K03.ob_eq
    (by kernel_rfl) (fun s => by kernel_rfl) K03.run (by kernel_rfl) (by kernel_rfl) (by kernel_rfl) (by rfl) (by first | assumption | decide +kernel) (by decide +kernel) ⟨rfl, rfl, rfl, rfl, rfl, by decide +kernel⟩ ?hw ?hc
  case hw => w_witness2
  case hc =>
    refine MeL.walk_ofGE (l := PySem.Challenge.rw_maskededits_k03_marks_and_names) (n := 63) (k := 8) (x := "_law_script") (CX := fun _ => L2.CX0) rfl (by decide) (by kernel_rfl) ⟨rfl, by decide, by decide⟩ ?F (fun _ _ _ _ _ z => z)
    intro w mg fa h Y G hmg0
    obtain ⟨K, KX, c⟩ := Y
    have hmg : mg ("law" : PySem.Str) = some (.ref fa) := by
      have e : (HandSHeadRun.topDef (OpenLaw.row PySem.Challenge.rw_maskededits_k03_marks_and_names).prog 29).name = ("law" : PySem.Str) := by kernel_rfl
      rw [← e]
      exact hmg0
    obtain ⟨fd, hb, hF⟩ := K03.facts (P := (PySem.Challenge.rw_maskededits_k03_marks_and_names).prog) (w := w) KX G hmg c
    refine ⟨K, KX, fd, K03.tf.map (He.cT K), _, ⟨?_, ?_, ?_⟩, hb, ?_, hF⟩
    · intro p hp
      obtain ⟨d, hd, rfl⟩ := List.mem_map.mp hp
      exact c.empty d hd
    · intro p hp
      obtain ⟨d, hd, rfl⟩ := List.mem_map.mp hp
      exact c.out d hd
    · intro p hp
      obtain ⟨d, hd, rfl⟩ := List.mem_map.mp hp
      exact PySem.W.codeHd_of_K KX (c.hd d hd)
    · intro H a ns hl _ ht hS
      refine ⟨a, ns, rfl, hS, hl, K03.tabs0 fun p hp => ?_, fun _ => rfl⟩
      rcases List.mem_cons.mp hp with z | z
      · rw [z]
        exact ht _ (List.mem_map.mpr ⟨_, List.mem_cons_self, rfl⟩)
      · rw [List.mem_singleton.mp z]
        exact ht _ (List.mem_map.mpr ⟨_, List.mem_cons_of_mem _ List.mem_cons_self, rfl⟩)
#print axioms PySem.Challenge.cw_maskededits_k03_marks_and_names_holds
