import PyProof.Rows.All
import Wide.All
import OpenK.AllK
import Wide.FinOn
import PyProof.EqAt
import PyProof.EqKinds
import PyProof.TupleCall
import KE.KTryMore
import KE.KExcInit
import HandS.Base
import HandS.Call
import HandS.List
import HandS.Ends
import HandS.Exc
import HandS.ExcInit
import KE.KExcIs
import HandS.ExcField
import HandS.IsInst
import HandS.ClsMeth
import HandS.Defaults
import HandS.MakeKw
import HandS.MakeKwOnly
import HandS.Dict
import HandS.HeadEnd
import HandS.Lambda
import KE.KStateDown
import HandS.More
import HandS.Words
import HandS.WordsExc
import HandS.Head0
import HandS.Head1
import HandS.Head2
import HandS.HeadHook1
import HandS.HeadHook2
import HandS.ForMost
import HandS.Evl
import HandS.Walk
import HandS.HeadHook4
import KE.KLam
import HandS.Comp
import HandS.Text
import HandS.Codes
import HandS.TryOnly
import HandS.EndBits
import HandS.EndTab
import PyProof.CodeObj
import HandS.Iter
import HandS.TupLe
import HandS.Flow
import HandS.FStr
import HandS.StrMore
import PyProof.StrOps2
import KE.KDictKeyed
import KE.KDictWalk
import HandS.Deep
import HandS.TupAny
import KE.KDictDisplayH
import HandS.ExcIs
import PyProof.InstNe
import KE.SortKeyHeap
import HandS.SortKw
import KE.KDictPairs
import HandS.Style
import HandS.Strs
import HandS.SetFor
import HandS.ListEq
import HandS.Wide
import PySem.Challenge.RW_maskededits_k54_records_in_order
section
set_option Elab.async false
set_option linter.all false
set_option maxRecDepth 100000
set_option maxHeartbeats 4000000
/-! own error classes over ValueError, KeyError, RuntimeError: made by place or by name, stored to. What KE.KExcPX shows of classes over one base (call_own, init_base, exc_osa, osa_old) for keywords and for KeyError too; its proofs were followed. -/
namespace PySem
namespace MeX
open Builtin Builtin.ObjectAttr
/-- an error's __init__ -/
structure XIni (IB initId : String) : Prop where
  entry : entryFor table initId = some Builtin.«BaseException.__init__»
  split : splitId initId = some (IB, "__init__")
  kind : builtinKind initId = some .slot
  row : Manifest.signature? initId = some ⟨.positional, "*", IB, .self, [⟨"args", .varPos, false⟩]⟩
  noStar : (IB != "*") = true
  plain : plainId initId = true
theorem ini_KeyError : XIni "KeyError" "KeyError.__init__" where
  entry := entryFor_alias (id' := "BaseException.__init__") (by rw [fastTable_eq_tree]; kernel_rfl) (by first | rfl | decide +kernel) (by decide +kernel) (by rw [fastTable_eq_tree]; kernel_rfl)
  split := by kernel_rfl
  kind := by kernel_rfl
  row := by kernel_rfl
  noStar := by decide +kernel
  plain := by decide +kernel
theorem ini_of {B n i : String} (F : ExcCallFacts B n i) : XIni B i := ⟨F.initEntry, F.initSplit, F.initKind, F.initRow, F.noStar, F.init.plain⟩
structure XBase (NB newId IB initId : String) (bt : List Value) : Prop where
  new : ∃ i bm, ExcBaseFacts NB newId i bm
  ini : XIni IB initId
  cN : bt.contains (.type NB) = true
  cI : bt.contains (.type IB) = true
  cA : bt.contains (.type "AttributeError") = false
  cM : bt.contains (.type "NameError") = false
  cO : bt.contains (.type "object") = true
  ne : bt.isEmpty = false
  pass : ∀ self : Value, refuseLoop self "__setattr__" bt = pure ()
abbrev tVE : List Value := [.type "ValueError", .type "Exception", .type "BaseException", .type "object"]
abbrev tKE : List Value := [.type "KeyError", .type "LookupError", .type "Exception", .type "BaseException", .type "object"]
abbrev tRE : List Value := [.type "RuntimeError", .type "Exception", .type "BaseException", .type "object"]
theorem baseVE : XBase "ValueError" "ValueError.__new__" "ValueError" "ValueError.__init__" tVE :=
  ⟨⟨_, _, F.excBase_ValueError⟩, ini_of F.excBase_ValueError.toExcCallFacts, by decide +kernel, by decide +kernel, by decide +kernel, by decide +kernel, by decide +kernel, rfl, fun self => by kernel_rfl⟩
theorem baseRE : XBase "RuntimeError" "RuntimeError.__new__" "RuntimeError" "RuntimeError.__init__" tRE :=
  ⟨⟨_, _, F.excBase_RuntimeError⟩, ini_of F.excBase_RuntimeError.toExcCallFacts, by decide +kernel, by decide +kernel, by decide +kernel, by decide +kernel, by decide +kernel, rfl, fun self => by kernel_rfl⟩
theorem baseKE : XBase "LookupError" "LookupError.__new__" "KeyError" "KeyError.__init__" tKE :=
  ⟨⟨_, _, F.excBase_LookupError⟩, ini_KeyError, by decide +kernel, by decide +kernel, by decide +kernel, by decide +kernel, by decide +kernel, rfl, fun self => by kernel_rfl⟩
theorem refs_has (X : String) (bt : List Value) : ∀ cs : List Addr, (cs.map Value.ref ++ bt).contains (.type X) = bt.contains (.type X)
  | [] => rfl
  | c :: cs => by
    rw [List.map_cons, List.cons_append, List.contains_cons, refs_has X bt cs]
    rfl
theorem refs_pass (self : Value) (bt : List Value) : ∀ cs : List Addr, refuseLoop self "__setattr__" (cs.map Value.ref ++ bt) = refuseLoop self "__setattr__" bt
  | [] => rfl
  | c :: cs => by
    rw [List.map_cons, List.cons_append, refuseLoop_ref]
    exact refs_pass self bt cs
abbrev excO (C t : Addr) : Obj := { cls := .ref C, data := .fields #[.ref t, .none, .none, .none, .bool false, .none] }
section
variable {M : Model} {A : Around} {E : Value → Shared → Prop} {h : Heap} {g : Array GenState} {d : Drawn} {t : Nat} {os : OsState}
variable {nm q : Str} {C N : Addr} {bs bt : List Value} {cs : List Addr} {hdct : Bool} {sn : List Str} {sub : List Value} {ab : Bool} {col : Option Bool} {dd : Option Addr} {k0 k1 k2 k3 k5 : Option Value} {NB newId IB initId : String}
theorem check_new (F : XBase NB newId IB initId bt) {rest : List Value} {kw : List (Str × Value)} {Q : Unit → Shared → Prop}
    (hC : h.get? C = some (excClassObj nm q C N bs (cs.map Value.ref ++ bt) hdct sn sub ab col dd k0 k1 k2 k3 k5 newId)) (hq : Q () ⟨h, g, d, t, os⟩) : wpAny M A (checkBuiltinCall newId ⟨.ref C :: rest, kw⟩) Q E ⟨h, g, d, t, os⟩ := by
  obtain ⟨i0, b0, G⟩ := F.new
  have hcont : (Value.ref C :: (cs.map Value.ref ++ bt)).contains (.type NB) = true := by rw [List.contains_cons, refs_has, F.cN, Bool.or_true]
  have hstar := G.noStar
  simp only [checkBuiltinCall, G.newKind, G.newSplit, G.newRow]
  repeat (first | refine wpAny_loadPart_at hC ?_ | (refine wpAny_isSubtype_exc hC ?_; rw [hcont]) | refine wpAny_staticBase_exc hC ?_ | refine wpAny_madeBy_exc hC ?_ | simp only [bne_self_eq_false, Bool.false_eq_true, if_false] | wp_step)
  exact hq
theorem check_init (F : XBase NB newId IB initId bt) {e : Addr} {oe : Obj} {rest : List Value} {Q : Unit → Shared → Prop}
    (hC : h.get? C = some (excClassObj nm q C N bs (cs.map Value.ref ++ bt) hdct sn sub ab col dd k0 k1 k2 k3 k5 newId)) (he : h.get? e = some oe) (hcls : oe.cls = .ref C) (hq : Q () ⟨h, g, d, t, os⟩) :
    wpAny M A (checkBuiltinCall initId ⟨.ref e :: rest, []⟩) Q E ⟨h, g, d, t, os⟩ := by
  have hcB : (Value.ref C :: (cs.map Value.ref ++ bt)).contains (.type IB) = true := by rw [List.contains_cons, refs_has, F.cI, Bool.or_true]
  have hshort := F.ini.noStar
  simp only [checkBuiltinCall, F.ini.kind, F.ini.split, F.ini.row]
  repeat (first | (with_reducible refine wpAny_loadPart_at he ?_; rw [hcls]) | with_reducible refine wpAny_loadPart_at hC ?_ | (with_reducible refine wpAny_isSubtype_exc hC ?_; rw [hcB]) | wp_step)
  refine wpAny_onRaise ?_
  rw [show ∀ (a b : String) (n : Nat), Bind.check ⟨.positional, "*", IB, .self, [⟨"args", .varPos, false⟩]⟩ a b n (List.map (fun x => x.fst) ({ pos := Value.ref e :: rest } : Args).kw) = pure () from
    fun a b n => check_star_args _ _ _ _ _ _]
  exact wpAny_pure hq
end
section
variable {prog : Program} {w : World} {A : Around} {E : Value → Shared → Prop} {R : Result → Shared → Prop} {h : Heap} {g : Array GenState} {d : Drawn} {t : Nat} {os : OsState}
variable {nm q : Str} {C N : Addr} {bs bt : List Value} {cs : List Addr} {hdct : Bool} {sn : List Str} {sub : List Value} {ab : Bool} {col : Option Bool} {dd : Option Addr} {k0 k1 k2 k3 k5 : Option Value} {NB newId IB initId : String}
theorem new_ (F : XBase NB newId IB initId bt) {rest : List Value} {kw : List (Str × Value)}
    (hC : h.get? C = some (excClassObj nm q C N bs (cs.map Value.ref ++ bt) hdct sn sub ab col dd k0 k1 k2 k3 k5 newId))
    (hq : R (.ok (.ret (.ref (h.objs.size + 1)))) ⟨(h.push { cls := .type "tuple", data := .seq rest.toArray }).push
      { cls := .ref C, data := .fields #[.ref h.objs.size, .none, .none, .none, .bool false, .none] }, g, d, t, os⟩) (hrest : rest.length ≤ sizeLine) :
    codeAny (model prog w) A (.builtin newId ⟨.ref C :: rest, kw⟩) R ⟨h, g, d, t, os⟩ := by
  obtain ⟨i0, b0, G⟩ := F.new
  have hends := G.ends
  have hcB : (Value.ref C :: (cs.map Value.ref ++ bt)).contains (.type NB) = true := by rw [List.contains_cons, refs_has, F.cN, Bool.or_true]
  have hcA : (Value.ref C :: (cs.map Value.ref ++ bt)).contains (.type "AttributeError") = false := by rw [List.contains_cons, refs_has, F.cA]; rfl
  have hcN : (Value.ref C :: (cs.map Value.ref ++ bt)).contains (.type "NameError") = false := by rw [List.contains_cons, refs_has, F.cM]; rfl
  refine codeAny_builtinAt G.entry ?_
  unfold Builtin.«BaseException.__new__»
  refine wpAt_bind ?_
  show wpAt _ _ _ (stack >>= _) _ _ _
  refine wpAt_bind (wpAt_stack fun p below => wpAt_of_wpAny ?_)
  wp_walk
  refine wpAt_of_wpAny ?_
  rw [G.owner]
  repeat (first | with_reducible refine wpAny_madeHere_exc G.canon hC ?_ | with_reducible refine wpAny_loadPart_at hC ?_ | (with_reducible refine wpAny_isSubtype_exc hC ?_; first | rw [hcB] | rw [hcA] | rw [hcN]) | wp_step)
  show R _ _
  rw [Heap.size_push]
  exact hq
theorem type_call (F : XBase NB newId IB initId bt) {rest : List Value} {kw : List (Str × Value)} {fI : Addr} {Q : Fin → Shared → Prop}
    (hC : h.get? C = some (excClassObj nm q C N bs (cs.map Value.ref ++ bt) hdct sn sub ab col dd k0 k1 k2 k3 k5 newId))
    (hi : W.Looks (model prog w) h (typeLookup (.ref C) "__init__") (some (.ref fI))) (hb : ∀ self, W.Looks (model prog w) h (bindSpecial (.ref fI) self) (.ref fI, [self])) (hrest : rest.length ≤ sizeLine)
    (hq : codeAny (model prog w) A (.call (.ref fI) ⟨.ref (h.objs.size + 1) :: rest, kw⟩)
      (fun r s' => match r with | .ok (.ret v) => v = .none ∧ Q (.done (.ret (.ref (h.objs.size + 1)))) s' | .ok _ => False | .error e => E e s')
      ⟨(h.push (W.kdv_tup rest)).push (excO C h.objs.size), g, d, t, os⟩) :
    wpAny (model prog w) A (Builtin.«type.__call__» ⟨.ref C :: rest, kw⟩) Q E ⟨h, g, d, t, os⟩ := by
  obtain ⟨i0, b0, G⟩ := id F.new
  repeat (first | with_reducible refine wpAny_loadPart_at hC ?_ | with_reducible refine wpAny_madeBy_exc hC ?_ | wp_step)
  refine codeAny_call_builtin_code (Code.quiet_builtin _ G.quiet) (check_new F hC ?_)
  refine new_ F hC ?_ hrest
  show wpAny _ _ _ _ _ _
  have k : ∀ b o, h.get? b = some o → ((h.push (W.kdv_tup rest)).push (excO C h.objs.size)).get? b = some o := fun b o e => Heap.get?_push_of_some _ (Heap.get?_push_of_some _ e)
  have hC₁ := k _ _ hC
  have hget : ((h.push (W.kdv_tup rest)).push (excO C h.objs.size)).get? (h.objs.size + 1) = some (excO C h.objs.size) := by heap_get
  have hcC : (Value.ref C :: (cs.map Value.ref ++ bt)).contains (.ref C) = true := by simp
  have i1 := hi.keeps k
  have b1 := (hb (.ref (h.objs.size + 1))).keeps k
  unfold isInstance
  repeat (first | with_reducible refine wpAny_loadPart_at hget ?_ | (with_reducible refine wpAny_isSubtype_exc hC₁ ?_; rw [hcC]) | wp_step)
  show wpAny _ _ (typeLookup (.ref C) _) _ _ _
  refine i1.at ?_
  refine wpAny_holding (wpAny_bind (b1.at ?_))
  refine wpAny_bind (wpAny_call (codeAny_mono hq fun r s' z => ?_))
  rcases r with e | (v | _ | _ | _) <;> first | exact z | exact z.elim | skip
  obtain ⟨rfl, z⟩ := z
  first
    | exact wpAny_pure (wpAny_pure z)
    | (wp_walk; exact z)
theorem check_tc {M : Model} {rest : List Value} {kw : List (Str × Value)} {Q : Unit → Shared → Prop} (hC : h.get? C = some (excClassObj nm q C N bs (cs.map Value.ref ++ bt) hdct sn sub ab col dd k0 k1 k2 k3 k5 newId))
    (hq : Q () ⟨h, g, d, t, os⟩) : wpAny M A (checkBuiltinCall "type.__call__" ⟨.ref C :: rest, kw⟩) Q E ⟨h, g, d, t, os⟩ := by
  have f3 := tc_sub
  have hT : (⟨h, g, d, t, os⟩ : Shared).TypeIs (.ref C) "type" := ⟨_, hC, rfl⟩
  simp only [checkBuiltinCall, tc_kind, tc_split]
  repeat (any_goals (first | assumption | with_reducible refine wpAny_loadPart_at hC ?_ | with_reducible refine wpAny_onRaise ?_ | with_reducible refine wpAny_map ?_ | wp_step))
theorem call_x (F : XBase NB newId IB initId bt) {rest : List Value} {kw : List (Str × Value)} {fI : Addr}
    (hC : h.get? C = some (excClassObj nm q C N bs (cs.map Value.ref ++ bt) hdct sn sub ab col dd k0 k1 k2 k3 k5 newId))
    (hi : W.Looks (model prog w) h (typeLookup (.ref C) "__init__") (some (.ref fI))) (hb : ∀ self, W.Looks (model prog w) h (bindSpecial (.ref fI) self) (.ref fI, [self])) (hrest : rest.length ≤ sizeLine)
    (hq : codeAny (model prog w) (A.under (.builtin "type.__call__" ⟨.ref C :: rest, kw⟩)) (.call (.ref fI) ⟨.ref (h.objs.size + 1) :: rest, kw⟩) (W.InitBack (h.objs.size + 1) R)
      ⟨(h.push (W.kdv_tup rest)).push (excO C h.objs.size), g, d, t, os⟩) :
    codeAny (model prog w) A (.call (.ref C) ⟨rest, kw⟩) R ⟨h, g, d, t, os⟩ := by
  have f1 := tc_lookup
  have f2 := tc_bind (.ref C)
  have hTy : (⟨h, g, d, t, os⟩ : Shared).TypeIs (.ref C) "type" := ⟨_, hC, rfl⟩
  refine codeAny_of_tree ?_
  show wpAny _ _ (callAny (.ref C) _) _ _ _
  repeat (any_goals (first | assumption | with_reducible refine wpAny_loadPart_at hC ?_ | wp_step))
  refine ⟨rfl, ?_⟩
  refine codeAny_call_builtin_at (Code.quiet_builtin _ (by decide +kernel)) entry_typeCall (check_tc hC (type_call F hC hi hb hrest ?_))
  refine codeAny_mono hq fun r s' z => ?_
  rcases r with e | (v | _ | _ | _) <;> exact z
/-- B.__init__(e, ..) -/
theorem init_x (F : XBase NB newId IB initId bt) {e t0 : Addr} {rest : List Value}
    (hC : h.get? C = some (excClassObj nm q C N bs (cs.map Value.ref ++ bt) hdct sn sub ab col dd k0 k1 k2 k3 k5 newId)) (he : h.get? e = some (excO C t0)) (hrest : rest.length ≤ sizeLine)
    (hq : ∀ h' t1, (∀ b o, b ≠ e → h.get? b = some o → h'.get? b = some o) → h'.get? e = some (excO C t1) → R (.ok (.ret .none)) ⟨h', g, d, t, os⟩) :
    codeAny (model prog w) A (.call (.builtin initId) ⟨.ref e :: rest, []⟩) R ⟨h, g, d, t, os⟩ := by
  refine codeAny_call_builtin F.ini.plain F.ini.entry (check_init F hC he rfl ?_)
  wp_walk
  refine hq _ h.objs.size (fun b o hb ho => ?_) ?_
  · rw [Heap.get?_update_other _ _ (Ne.symm hb)]
    exact Heap.get?_push_of_some _ ho
  · rw [Heap.get?_update_self _ (Heap.get?_push_of_some _ he) rfl]
    rfl
end
section
variable {prog : Program} {w : World} {A : Around} {E : Value → Shared → Prop} {R : Result → Shared → Prop} {hp : Heap} {g : Array GenState} {d : Drawn} {t : Nat} {os : OsState}
/-- the first field of an error -/
theorem osa_new {K : W.Frag} {NB newId IB initId : String} {bt : List Value} {cs : List Addr} (F : XBase NB newId IB initId bt) {name : Str} {tk : Tok} {v : Value} {x C : Addr} {fv : Array Value} {cd : ClassData}
    (X : K.In hp) (hx : hp.get? x = some { cls := .ref C, data := .fields fv }) (hcd : W.clsIn K C = some cd) (hm : cd.mro = .ref C :: (cs.map Value.ref ++ bt)) (hh : cd.hasDict = true) (ha : W.findIn K (.ref C) name = some none)
    (hq : ∀ h' tk' dx, (∀ b o, b ≠ x → hp.get? b = some o → h'.get? b = some o) → hp.objs.size ≤ dx → dx ≠ x → h'.get? x = some { cls := .ref C, dict := some dx, data := .fields fv } →
      h'.Ns1 dx (fun y => if y = name then some v else none) → R (.ok (.ret .none)) ⟨h', g, d, tk', os⟩) :
    codeAny (model prog w) A (.call (.builtin "object.__setattr__") ⟨[.ref x, .str name tk, v], []⟩) R ⟨hp, g, d, t, os⟩ := by
  have I : W.InstAt hp x { cls := .ref C, data := .fields fv } C none := ⟨hx, rfl, rfl, trivial⟩
  have SF := PySem.F.store_object
  have ne : cd.mro.isEmpty = false := by rw [hm]; rfl
  have hob : cd.mro.contains (.type "object") = true := by
    rw [hm, List.contains_cons, refs_has, F.cO, Bool.or_true]
  have hxs : x ≠ hp.objs.size := Nat.ne_of_lt (Heap.lt_size hx)
  have sub : W.Looks (model prog w) hp (isInstance (.ref x) (.type "object")) true := I.type.andThen (W.looks_mroIn X (by unfold W.mroIn; rw [hcd, Option.bind_some, if_neg (by rw [ne]; decide), hob]))
  refine codeAny_call_builtin SF.slot.plain SF.entry (@W.check_slot (model prog w) _ _ ⟨hp, g, d, t, os⟩ "object.__setattr__" "object" "__setattr__" (.ref x) [.str name tk, v] [] _ SF.kind SF.split sub (SF.args (.ref x) (.str name tk) v) ?_)
  have hmr : W.Looks (model prog w) hp (mroOf (.ref C)) cd.mro := (W.looks_clsIn X hcd).andThen .now
  have L3 : W.Looks (model prog w) hp (storeTaker? none) none := .now
  have hcls : W.Looks (model prog w) hp (classData C) cd := W.looks_clsIn X hcd
  rw [W.osa_eq, refuse_eq]
  refine wpAny_bind (wpAny_bind (I.type.at (wpAny_bind (hmr.at ?_))))
  rw [hm, refuseLoop_ref, refs_pass, F.pass]
  refine wpAny_pure (wpAny_bind (I.type.at (wpAny_bind ((W.looks_findIn X ha).at (wpAny_bind (L3.at ?_))))))
  show wpAny _ _ (storeInOwnDict (.ref x) (.ref C) (.str name tk) name v false) _ _ _
  obtain ⟨nm, bs, mro, ns, qn, hd, sn, sb, ab, col, del⟩ := cd
  dsimp only at hh
  subst hh
  unfold storeInOwnDict ownDictForStores
  repeat (first | with_reducible refine HandSPX.store_in_new ?_ ?_ | with_reducible refine wpAny_loadPart_at hx ?_ | with_reducible refine hcls.at ?_ | wp_step)
  · exact ⟨_, #[], _, (Heap.get?_update_ne _ _ _ _ hxs.symm).trans (Heap.get?_push_at rfl rfl), rfl, fun e he => absurd he (by simp), fun _ => rfl⟩
  · intro h' tk' hn' hs
    have hx₁ : (hp.push { cls := .type "dict", data := .dict #[] }).get? x = some { cls := .ref C, data := .fields fv } := Heap.get?_push_of_some _ hx
    refine hq h' tk' hp.objs.size (fun b o hb ho => ?_) (Nat.le_refl _) hxs.symm ?_ hn'
    · exact (hs.2 b (Nat.ne_of_lt (Heap.lt_size ho))).trans ((Heap.get?_update_ne _ _ _ _ hb).trans (Heap.get?_push_of_some _ ho))
    · exact (hs.2 x hxs).trans (Heap.get?_update_self _ hx₁ rfl)
/-- a further field -/
theorem osa_old {K : W.Frag} {NB newId IB initId : String} {bt : List Value} {cs : List Addr} (F : XBase NB newId IB initId bt) {name : Str} {tk : Tok} {v : Value} {x C dx : Addr} {fv : Array Value} {cd : ClassData} {m0 : Str → Option Value} {nl : List Str}
    (X : K.In hp) (hx : hp.get? x = some { cls := .ref C, dict := some dx, data := .fields fv }) (hns : hp.Ns1 dx m0) (hw : Within m0 nl) (hz : nl.length ≤ 1000) (hcd : W.clsIn K C = some cd) (hm : cd.mro = .ref C :: (cs.map Value.ref ++ bt)) (hh : cd.hasDict = true)
    (ha : W.findIn K (.ref C) name = some none)
    (hq : ∀ h' tk', (∀ b o, b ≠ dx → hp.get? b = some o → h'.get? b = some o) → h'.Ns1 dx (fun y => if y = name then some v else m0 y) → R (.ok (.ret .none)) ⟨h', g, d, tk', os⟩) :
    codeAny (model prog w) A (.call (.builtin "object.__setattr__") ⟨[.ref x, .str name tk, v], []⟩) R ⟨hp, g, d, t, os⟩ := by
  obtain ⟨oD, esD, epD, hoD, hdD, _⟩ := hns.count hw
  have I : W.InstAt hp x { cls := .ref C, dict := some dx, data := .fields fv } C (some oD) := ⟨hx, rfl, rfl, hoD⟩
  have SF := PySem.F.store_object
  have ne : cd.mro.isEmpty = false := by rw [hm]; rfl
  have hob : cd.mro.contains (.type "object") = true := by
    rw [hm, List.contains_cons, refs_has, F.cO, Bool.or_true]
  have sub : W.Looks (model prog w) hp (isInstance (.ref x) (.type "object")) true := I.type.andThen (W.looks_mroIn X (by unfold W.mroIn; rw [hcd, Option.bind_some, if_neg (by rw [ne]; decide), hob]))
  refine codeAny_call_builtin SF.slot.plain SF.entry (@W.check_slot (model prog w) _ _ ⟨hp, g, d, t, os⟩ "object.__setattr__" "object" "__setattr__" (.ref x) [.str name tk, v] [] _ SF.kind SF.split sub (SF.args (.ref x) (.str name tk) v) ?_)
  have hmr : W.Looks (model prog w) hp (mroOf (.ref C)) cd.mro := (W.looks_clsIn X hcd).andThen .now
  have L3 : W.Looks (model prog w) hp (storeTaker? none) none := .now
  have hcls : W.Looks (model prog w) hp (classData C) cd := W.looks_clsIn X hcd
  rw [W.osa_eq, refuse_eq]
  refine wpAny_bind (wpAny_bind (I.type.at (wpAny_bind (hmr.at ?_))))
  rw [hm, refuseLoop_ref, refs_pass, F.pass]
  refine wpAny_pure (wpAny_bind (I.type.at (wpAny_bind ((W.looks_findIn X ha).at (wpAny_bind (L3.at ?_))))))
  show wpAny _ _ (storeInOwnDict (.ref x) (.ref C) (.str name tk) name v false) _ _ _
  obtain ⟨nm, bs, mro, ns, qn, hd, sn, sb, ab, col, del⟩ := cd
  dsimp only at hh
  subst hh
  unfold storeInOwnDict ownDictForStores
  repeat (first | with_reducible refine PySem.OEX.store_in_old hns hw hz ?_ | with_reducible refine wpAny_loadPart_at hx ?_ | with_reducible refine hcls.at ?_ | wp_step)
  intro h' tk' hn' hs
  exact hq h' tk' (fun b o hb ho => (hs.2 b hb).trans ho) hn'
end
end MeX
end PySem
end
section
set_option Elab.async false
set_option linter.all false
set_option maxRecDepth 100000
set_option maxHeartbeats 4000000
/-! the same as rules of HandS; what HandS.ExcInit shows of one base (its proofs were followed) for three bases, keywords and further fields -/
namespace MeH
open PySem PySem.Spec PyProof.Rows L2
/-- an own error class; ini: the name of its base's __init__ -/
structure XCls (K : PySem.W.Frag) (C : Addr) (ini : String) : Prop where
  cls : ∃ (NB newId IB : String) (bt : List Value) (cs : List Addr) (nm q : Str) (N : Addr) (bs : List Value) (sn : List Str) (sub : List Value) (ab : Bool) (col : Option Bool) (dd : Option Addr) (k0 k1 k2 k3 k5 : Option Value),
    MeX.XBase NB newId IB ini bt ∧ K.lookup C = some (excClassObj nm q C N bs (cs.map Value.ref ++ bt) true sn sub ab col dd k0 k1 k2 k3 k5 newId)
  sa : PySem.W.findIn K (.ref C) "__setattr__" = some (some (.builtin "object.__setattr__"))
  kC : PySem.W.keepIn K (.ref C) = true
  ga : PySem.W.findIn K (.ref C) "__getattribute__" = some (some (.builtin "BaseException.__getattribute__"))
  gt : PySem.W.findIn K (.ref C) "__getattr__" = some none
  su : PySem.W.subIn K (.ref C) (.type "BaseException") = some true
  hd : PySem.W.hasDictIn K C = true
  ca : PySem.W.findIn K (.ref C) "__class__" = some (some (.builtin "object.__class__"))
  sp : PySem.W.specialIn K (.builtin "object.__class__") "__get__" = some (some (.builtin "getset_descriptor.__get__"))
  tk : PySem.W.takesIn K (.builtin "object.__class__") = some true
  mo : PySem.W.mroIn K C (.type "object") = some true
section
variable {X : Cx} {pins : List (Addr × Obj)} {σ : L2.St} {H : Hp} {s : Shared} {a C dx : Addr} {ini : String} {f : Str} {y : V} {u : Value} {fs : List (Str × V)} {Q : Unit → Shared → Prop} {E : Value → Shared → Prop} {A : Around}
theorem xst_new (T : XCls X.K C ini) (I : Inv X pins σ H s) (e : H a = some (exo a C none)) (hno : PySem.W.findIn X.K (.ref C) f = some none) (ry : RelV y u)
    (h : ∀ dx s', H dx = none → dx ≠ a → Inv X pins σ (upd (upd H dx (exd dx [(f, y)])) a (exo a C (some dx))) s' → Q () s') : wpAny (model X.prog X.w) A (setAttr (.ref a) f u) Q E s := by
  obtain ⟨NB, newId, IB, bt, cs, nm, q, N, bs, sn, sub, ab, col, dd, k0, k1, k2, k3, k5, FB, hC⟩ := T.cls
  have hcl : PySem.W.clsIn X.K C = some { name := nm, bases := bs, mro := .ref C :: (cs.map Value.ref ++ bt), ns := N, qualname := q, hasDict := true, slotNames := sn, subclasses := sub, abstract := ab, collection := col, hasDel := false } := by unfold PySem.W.clsIn; rw [hC] <;> rfl
  obtain ⟨t1, ho⟩ := exo_at I.hok e
  obtain ⟨hp, g, d, t, os⟩ := s
  refine PySem.W.set_plain I.kIn (ox := { cls := .ref C, dict := none, data := .fields #[.ref t1, .none, .none, .none, .bool false, .none] }) (od := none) ⟨ho, rfl, rfl, trivial⟩ T.sa ?_
  refine MeX.osa_new FB I.kIn ho hcl rfl rfl hno (fun h' tk' dx k dn dne hx hn => ?_)
  have hnd : H dx = none := I.hok.fresh dn
  have nd : ∀ {b : Addr} {o : Obj}, hp.get? b = some o → b ≠ dx := fun {b o} q => Nat.ne_of_lt (Nat.lt_of_lt_of_le (Heap.lt_size q) dn)
  have na : ∀ {b : Addr}, H b = none → b ≠ a := fun {b} n z => by
    rw [z, e] at n
    cases n
  have Un1 : Un X.fs [] H (upd (upd H dx (exd dx [(f, y)])) a (exo a C (some dx))) hp h' := {
    keep := fun b o q n _ _ => k b o (na n) q
    slot := fun b o q n _ _ => ⟨o.slots, k b o (na n) q⟩
    free := fun b o q n _ => by rw [upd_ne (na n), upd_ne (nd q)]; exact n
    there := fun b o q _ => by
      by_cases hb : b = a
      · exact ⟨_, by rw [hb]; exact hx⟩
      · exact ⟨o, k b o hb q⟩
    tups := fun b xs q => by rw [upd_ne (at_ne e q exo_tup), upd_ne (ne_of_none q hnd)]; exact q
    frzs := fun b o v q => by rw [upd_ne (at_ne e q exo_frz), upd_ne (ne_of_none q hnd)]; exact q
    tbls := fun b ps q => ⟨#[], by rw [upd_ne (at_ne e q exo_tbl), upd_ne (ne_of_none q hnd), q]; simp⟩ }
  refine h dx _ hnd dne (I.un (t' := tk') Un1 fun b o q => ?_)
  by_cases hb : b = a
  · subst hb
    rw [upd_same] at q
    cases q
    exact exo_ok hx
  · rw [upd_ne hb] at q
    by_cases hd : b = dx
    · subst hd
      rw [upd_same] at q
      cases q
      exact exd_ok hn (relO_put (fs := []) ry fun g => True.intro)
    · rw [upd_ne hd] at q
      exact (I.hok b o q).stay (fun c v hc z => k c v (by
          rcases hc with hc | hc
          · rw [hc]
            exact hb
          · exact at_ne e hc exo_own) z)
        (fun c hc => by rw [upd_ne (at_ne e hc exo_own), upd_ne (ne_of_none hc hnd)]; exact hc) (fun c xs hc => by rw [upd_ne (at_ne e hc exo_tup), upd_ne (ne_of_none hc hnd)]; exact hc)
theorem xst_old (T : XCls X.K C ini) (I : Inv X pins σ H s) (e : H a = some (exo a C (some dx))) (ed : H dx = some (exd dx fs)) (hl : fs.length ≤ 900) (hno : PySem.W.findIn X.K (.ref C) f = some none) (ry : RelV y u)
    (h : ∀ s', Inv X pins σ (upd H dx (exd dx ((f, y) :: fs))) s' → Q () s') : wpAny (model X.prog X.w) A (setAttr (.ref a) f u) Q E s := by
  obtain ⟨NB, newId, IB, bt, cs, nm, q, N, bs, sn, sub, ab, col, dd, k0, k1, k2, k3, k5, FB, hC⟩ := T.cls
  have hcl : PySem.W.clsIn X.K C = some { name := nm, bases := bs, mro := .ref C :: (cs.map Value.ref ++ bt), ns := N, qualname := q, hasDict := true, slotNames := sn, subclasses := sub, abstract := ab, collection := col, hasDel := false } := by unfold PySem.W.clsIn; rw [hC] <;> rfl
  obtain ⟨t1, ho⟩ := exo_at I.hok e
  obtain ⟨mA, hns, rel⟩ := exd_at I.hok ed
  have hw := within_of rel
  obtain ⟨hp, g, d, t, os⟩ := s
  obtain ⟨oD, _, _, hoD, _, _⟩ := hns.count hw
  refine PySem.W.set_plain I.kIn (ox := { cls := .ref C, dict := some dx, data := .fields #[.ref t1, .none, .none, .none, .bool false, .none] }) (od := some oD) ⟨ho, rfl, rfl, hoD⟩ T.sa ?_
  refine MeX.osa_old FB I.kIn ho hns hw (by rw [List.length_map]; omega) hcl rfl rfl hno (fun h' tk' k hn => ?_)
  have hd : ∃ o, h'.get? dx = some o := by
    obtain ⟨o, _, _, e', _⟩ := hn
    exact ⟨o, e'⟩
  exact h _ (I.write (t' := tk') (x := dx) (e := dx) (o := exd dx ((f, y) :: fs)) (by rw [ed]; exact True.intro) (.inl rfl) k hd (exd_ok hn (relO_put ry rel)))
theorem xinit_ok {us : List Value} {Q : Value → Shared → Prop} (T : XCls X.K C ini) (I : Inv X pins σ H s) (e : H a = some (exo a C none)) (hl : us.length ≤ sizeLine) (h : ∀ s', Inv X pins σ H s' → Q .none s') :
    wpAny (model X.prog X.w) A (call (.builtin ini) (.ref a :: us)) Q E s := by
  obtain ⟨NB, newId, IB, bt, cs, nm, q, N, bs, sn, sub, ab, col, dd, k0, k1, k2, k3, k5, FB, hC⟩ := T.cls
  obtain ⟨t1, ho⟩ := exo_at I.hok e
  obtain ⟨hp, g, d, t, os⟩ := s
  refine wpAny_call (MeX.init_x FB (I.kIn _ _ hC) ho hl fun h' t2 k hx => ?_)
  have J := I.write (t' := t) (x := a) (e := a) (o := exo a C none) (by rw [e]; exact True.intro) (.inl rfl) k ⟨_, hx⟩ (exo_ok hx)
  have eu : upd H a (exo a C none) = H := by
    funext b
    by_cases hb : b = a
    · rw [hb, upd_same, e]
    · rw [upd_ne hb]
  rw [eu] at J
  exact h _ J
end
/-- B.__init__(self, ..) -/
def tXini (K : PySem.W.Frag) (ini : String) (ta : TA) : TE := fun σ H Q => ta σ H fun vs H1 => ∃ (a C : Addr) (ws : List V), vs = .ref a :: ws ∧ ws.length ≤ 1000 ∧ XCls K C ini ∧ H1 a = some (exo a C none) ∧ Q .non H1
/-- self.f = e -/
def tXst (K : PySem.W.Frag) (f : Str) (to te : TE) : TS := fun D σ H => te σ H fun y H1 => to σ H1 fun x H2 => ∃ (a C : Addr) (ini : String), x = .ref a ∧ XCls K C ini ∧ PySem.W.findIn K (.ref C) f = some none ∧
  ((H2 a = some (exo a C none) ∧ ∀ dx, H2 dx = none → dx ≠ a → D.nx σ (upd (upd H2 dx (exd dx [(f, y)])) a (exo a C (some dx)))) ∨
    ∃ (dx : Addr) (fs : List (Str × V)), H2 a = some (exo a C (some dx)) ∧ H2 dx = some (exd dx fs) ∧ fs.length ≤ 900 ∧ D.nx σ (upd H2 dx (exd dx ((f, y) :: fs))))
/-- e.f of an error that has its dict -/
def tXfl (K : PySem.W.Frag) (f : Str) (to : TE) : TE := fun σ H Q => to σ H fun x H1 => ∃ (a C : Addr) (ini : String) (dx : Addr) (fs : List (Str × V)) (v : V), x = .ref a ∧ XCls K C ini ∧ PySem.W.findIn K (.ref C) f = some none ∧
  H1 a = some (exo a C (some dx)) ∧ H1 dx = some (exd dx fs) ∧ fs.lookup f = some v ∧ Q v H1
/-- C(e, .., k = v, ..) as a value -/
def tXmk (C : Addr) (n m : Nat) (sp : Sp) (gV : List V → List V → List V) (E : XK) (t tk : TA) : TE := fun σ H Q => t σ H fun vs H1 => tk σ H1 fun zs H2 => vs.length = n ∧ zs.length = m ∧ n ≤ 1000 ∧
  ∀ a, H2 a = none → sp (gV (.ref a :: vs) zs) (upd H2 a (exo a C none)) (fun v H3 => v = .non ∧ Q (.ref a) H3) E
/-- isinstance(e, c), e an error that stands in H -/
def rXis (K : PySem.W.Frag) : List V → Hp → VK → Prop := fun xs H Q => ∃ (a C : Addr) (ini : String) (d : Option Addr) (c : V) (u : Value) (b : Bool), xs = [.ref a, c] ∧ ClsV c u ∧ XCls K C ini ∧ H a = some (exo a C d) ∧ (∀ dx, d = some dx → ∃ fs, H dx = some (exd dx fs)) ∧
  PySem.W.kitOne K (.ref C) u = some b ∧ Q (.bl b) H
section
variable {X : Cx} {o e : Expr} {es : List Expr} {to te : TE} {ta : TA} {f : Str} {p p' p1 p2 pos : Pos} {ini : String}
theorem ps_xst (ho : PE X o to) (he : PE X e te) (hs : swapsWith e (some (.Attribute o f p')) pos.line X.env = pure false := by rfl) : PS X (.Assign [.Attribute o f p'] e pos) (tXst X.K f to te) := by
  refine ⟨fun pins s σ H D I h => ?_⟩
  refine plainObj_wpAny_Assign_Attribute (thn (he.run pins s σ H _ I h) fun v s1 ⟨y, H1, I1, r1, q1⟩ => thn (ho.run pins s1 σ H1 _ I1 q1) fun u s2 ⟨x, H2, I2, r2, a, C, ini, ex, T, hno, q⟩ => ?_) hs
  subst ex
  obtain rfl : u = Value.ref a := r2
  rcases q with ⟨ea, q⟩ | ⟨dx, fs, ea, ed, hl, q⟩
  · exact xst_new T I2 ea hno r1 fun dx s' n ne J => ⟨σ, _, J, q dx n ne⟩
  · exact xst_old T I2 ea ed hl hno r1 fun s' J => ⟨σ, _, J, q⟩
/-- the base a built-in class -/
theorem pe_xiniB {B : Str} {Bn : String} {pl : Sem Bool} (hg : Gl X B) (hm : X.mg B = none) (hv : bootBuiltins B = some (.type Bn)) (ht : typeOf (.type Bn) = pure (.type "type")) (hst : Manifest.isStub Bn = false)
    (vV : PySem.W.findCls X.K (.type Bn) (.type "type") "__init__" = some (.val (.builtin ini))) (hh : PySem.W.handedIn (.builtin ini) = true) (ha : PA X (e :: es) ta) (hn : B ≠ "__name__" := by decide) (hdb : (B == ("__debug__" : Str)) = false := by decide)
    (hc : eval (.Call (.Attribute (.Name B p1) "__init__" p2) (e :: es) [] pos) X.env = (do
      let ov ← eval (.Name B p1) X.env
      standAt p2.atName
      let (f, first) ← holding [ov] (getMethod ov "__init__" pl)
      callWith pos f first (backTo pos (starEach (e :: es) X.env)) (backToKw pos (keywordEach [] X.env))) := by rfl)
    (he : starEach (e :: es) X.env = (false, eval e X.env) :: starEach es X.env := by rfl) (hpl : (backTo pos (starEach es X.env)).any (·.1) = false := by rfl) :
    PE X (.Call (.Attribute (.Name B p1) "__init__" p2) (e :: es) [] pos) (tXini X.K ini ta) := by
  refine ⟨fun pins s σ H Q I h => ?_⟩
  refine PySem.W.methodCall_KW (ld_blt I hg hm hv ?_ hn hdb) hc
  obtain ⟨m, fr⟩ := I.fr
  refine PySem.W.method_type fr I.ok.mod.kin ht hst vV hh ?_
  show wpAny _ _ (callWith pos (Value.builtin ini) [] (backTo pos (starEach (e :: es) X.env)) []) _ _ _
  refine PyProof.Rows.callWith_method1 (thn (ha.run pos pins _ σ H _ (I.tok _) h) fun us s1 ⟨vs, H1, I1, r1, a, C, ws, ev, hl, T, ea, q⟩ => ?_) he hpl
  subst ev
  cases r1 with
  | @cons _ u0 _ ur ra rw' =>
    obtain rfl : u0 = Value.ref a := ra
    have hlen : ur.length ≤ sizeLine := by
      rw [← Paired.length rw', sizeLine_eq]
      omega
    exact xinit_ok T I1 ea hlen fun s' J => ⟨.non, H1, J, rfl, q⟩
/-- the base an own class -/
theorem pe_xiniC {B : Str} {CB : Addr} {mc : Value} {pl : Sem Bool} (hg : Gl X B) (hm : X.mg B = some (.ref CB)) (rd : PySem.W.readsIn X.K CB mc = true) (ga : PySem.W.specialIn X.K (.ref CB) "__getattribute__" = some (some (.builtin "type.__getattribute__")))
    (vV : PySem.W.findCls X.K (.ref CB) mc "__init__" = some (.val (.builtin ini))) (hh : PySem.W.handedIn (.builtin ini) = true) (ha : PA X (e :: es) ta) (hdb : (B == ("__debug__" : Str)) = false := by decide)
    (hc : eval (.Call (.Attribute (.Name B p1) "__init__" p2) (e :: es) [] pos) X.env = (do
      let ov ← eval (.Name B p1) X.env
      standAt p2.atName
      let (f, first) ← holding [ov] (getMethod ov "__init__" pl)
      callWith pos f first (backTo pos (starEach (e :: es) X.env)) (backToKw pos (keywordEach [] X.env))) := by rfl)
    (he : starEach (e :: es) X.env = (false, eval e X.env) :: starEach es X.env := by rfl) (hpl : (backTo pos (starEach es X.env)).any (·.1) = false := by rfl) :
    PE X (.Call (.Attribute (.Name B p1) "__init__" p2) (e :: es) [] pos) (tXini X.K ini ta) := by
  refine ⟨fun pins s σ H Q I h => ?_⟩
  refine PySem.W.methodCall_KW (ld_glob I hg hm ?_ hdb) hc
  refine PySem.W.method_cls I.kIn ga (PySem.W.cls_value I.kIn rd vV hh ?_)
  show wpAny _ _ (callWith pos (Value.builtin ini) [] (backTo pos (starEach (e :: es) X.env)) []) _ _ _
  refine PyProof.Rows.callWith_method1 (thn (ha.run pos pins _ σ H _ (I.tok _) h) fun us s1 ⟨vs, H1, I1, r1, a, C, ws, ev, hl, T, ea, q⟩ => ?_) he hpl
  subst ev
  cases r1 with
  | @cons _ u0 _ ur ra rw' =>
    obtain rfl : u0 = Value.ref a := ra
    have hlen : ur.length ≤ sizeLine := by
      rw [← Paired.length rw', sizeLine_eq]
      omega
    exact xinit_ok T I1 ea hlen fun s' J => ⟨.non, H1, J, rfl, q⟩
theorem exo_inst {pins : List (Addr × Obj)} {σ : L2.St} {H : Hp} {s : Shared} {a C : Addr} {d : Option Addr} (I : Inv X pins σ H s) (e : H a = some (exo a C d)) (hd : ∀ dx, d = some dx → ∃ fs, H dx = some (exd dx fs)) :
    ∃ ox od, PySem.W.InstAt s.heap a ox C od := by
  obtain ⟨t1, ho⟩ := exo_at I.hok e
  cases d with
  | none => exact ⟨_, none, ho, rfl, rfl, trivial⟩
  | some dx =>
    obtain ⟨fs, ed⟩ := hd dx rfl
    obtain ⟨mA, hns, rel⟩ := exd_at I.hok ed
    obtain ⟨od, hod, _⟩ := lookIn_ns hns
    exact ⟨_, some od, ho, rfl, rfl, hod⟩
theorem pe_xfl (ho : PE X o to) (hb : attributeBase o f X.env (eval o X.env) = eval o X.env := by rfl) : PE X (.Attribute o f pos) (tXfl X.K f to) := by
  refine ⟨fun pins s σ H Q I h => ?_⟩
  refine attr_of hb (thn (ho.run pins s σ H _ I h) fun u s1 ⟨x, H1, I1, rx, a, C, ini, dx, fs, v, ex, T, hno, ea, ed, l, q⟩ => ?_)
  subst ex
  obtain rfl : u = Value.ref a := rx
  obtain ⟨t1, hoa⟩ := exo_at I1.hok ea
  obtain ⟨mA, hns, hr⟩ := exd_at I1.hok ed
  obtain ⟨od, hod, hl⟩ := lookIn_ns hns
  obtain ⟨w', hu, ru⟩ := RelO.some_of (v := v) (o := mA f) (by rw [← l]; exact hr f)
  have J : PySem.W.InstAt s1.heap a { cls := .ref C, dict := some dx, data := .fields #[.ref t1, .none, .none, .none, .bool false, .none] } C (some od) := ⟨hoa, rfl, rfl, hod⟩
  exact HandSPX.exc_get I1.kIn J T.ga T.gt T.su (PySem.W.findObj_own T.hd hno rfl (by rw [hl, hu])) (handed_of ru) ⟨v, H1, I1.tok _, ru, q⟩
theorem call_xis : CallR X (.builtin "isinstance") (rXis X.K) := by
  intro pins s σ H xs us Q I r h
  obtain ⟨a, C, ini, d, c, u, b, rfl, k, T, ea, ed, e, q⟩ := h
  obtain ⟨u1, u2, rfl, r1, r2⟩ := vals2 r
  have e2 := k.eq r2
  subst e2
  obtain rfl : u1 = Value.ref a := r1
  obtain ⟨ox, od, J⟩ := exo_inst I ea ed
  obtain ⟨cd, hcd, _⟩ := PySem.W.any_some T.hd
  exact PySem.W.kia_one (PySem.W.kitx_exc (by rw [hcd]; rfl) T.ga T.gt T.su T.ca T.sp T.tk T.mo) I.kIn J e (fun z => nomatch z) fun tk => ⟨.bl b, H, I.tok tk, rfl, q⟩
end
section
variable {X : Cx} {CX : CXT} {k n : Nat} {fI C : Addr} {fd : FuncData} {ps ks : List Str} {sp : Sp} {E : XK} {x : Str} {p pos : Pos} {e : Expr} {es : List Expr} {kws : List Keyword} {t tk : TA} {g : List Value → List Value → List Value} {gV : List V → List V → List V} {ini : String}
theorem run_xmk {pins : List (Addr × Obj)} {σ : L2.St} {H : Hp} {s : Shared} {Q : VK} {us ws : List Value} {vs zs : List V} (T : XCls X.K C ini) (iC : PySem.W.findIn X.K (.ref C) "__init__" = some (some (.ref fI))) (tI : PySem.W.typeIn X.K (.ref fI) = some (.type "function"))
    (F1 : FnOk X.prog X.w X.K X.mg X.base CX k fI fd ps sp) (hr : Room (k + 1) X.A) (hb : KBn X.K fd ps (n + 1) ks g gV) (hx : Passes CX X E) (I : Inv X pins σ H s) (r : Vals vs us) (rz : Vals zs ws) (l1 : vs.length = n) (l2 : zs.length = ks.length) (hn : n ≤ 1000)
    (h : ∀ a, H a = none → sp (gV (.ref a :: vs) zs) (upd H a (exo a C none)) (fun v H2 => v = .non ∧ Q (.ref a) H2) E) :
    wpAny (model X.prog X.w) X.A (call (.ref C) us (ks.zip ws)) (EP X pins σ Q) X.xe s := by
  obtain ⟨NB, newId, IB, bt, cs, nm, q, N, bs, sn, sub, ab, col, dd, k0, k1, k2, k3, k5, FB, hC⟩ := T.cls
  obtain ⟨hp, g0, dr, tk, os⟩ := s
  have hsz : hp.objs.size ≤ hp.objs.size + 1 := Nat.le_succ _
  have hq := h (hp.objs.size + 1) (I.hok.fresh hsz)
  have kk : ∀ b o, hp.get? b = some o → ((hp.push (PySem.W.kdv_tup us)).push (MeX.excO C hp.objs.size)).get? b = some o := fun b o e => Heap.get?_push_of_some _ (Heap.get?_push_of_some _ e)
  have hget : ((hp.push (PySem.W.kdv_tup us)).push (MeX.excO C hp.objs.size)).get? (hp.objs.size + 1) = some (MeX.excO C hp.objs.size) := by heap_get
  have I2 : Inv X pins σ (upd H (hp.objs.size + 1) (exo (hp.objs.size + 1) C none)) ⟨(hp.push (PySem.W.kdv_tup us)).push (MeX.excO C hp.objs.size), g0, dr, tk, os⟩ :=
    I.laid (t' := tk) (a := hp.objs.size + 1) (o := exo (hp.objs.size + 1) C none) (h' := (hp.push (PySem.W.kdv_tup us)).push (MeX.excO C hp.objs.size)) kk hsz (exo_ok hget)
  have r1 : Vals (V.ref (hp.objs.size + 1) :: vs) (Value.ref (hp.objs.size + 1) :: us) := .cons rfl r
  have r2 := hb.rel r1 rz
  have e1 : (Value.ref (hp.objs.size + 1) :: us).length = n + 1 := r1.length.symm.trans (congrArg Nat.succ l1)
  have e2 : ws.length = ks.length := rz.length.symm.trans l2
  have hus : us.length ≤ sizeLine := by
    rw [← Paired.length r, sizeLine_eq]
    omega
  refine wpAny_call (MeX.call_x FB (I.kIn _ _ hC) (PySem.W.looks_findIn I.kIn iC) (fun self => PySem.W.bind_fn I.kIn self tI) hus
    (codeAny_mono (F1.run _ X.stack _ _ ⟨Value.ref (hp.objs.size + 1) :: us, ks.zip ws⟩ (g (Value.ref (hp.objs.size + 1) :: us) ws) _ _ E (hr.make C us (ks.zip ws)) (I2.env0.make C us (ks.zip ws)) (hb.to _ (Value.ref (hp.objs.size + 1) :: us) ws I2.kIn e1 e2) r2 hq) fun r s' hq' => ?_))
  cases r with
  | error er => exact hx pins σ _ _ er s' I2 hq'
  | ok fl =>
    cases fl with
    | ret u =>
      obtain ⟨v, H', I3, rv, ev, q3⟩ := I2.after hq'
      subst ev
      exact ⟨rv, ⟨V.ref (hp.objs.size + 1), H', I3, rfl, q3⟩⟩
    | next => exact False.elim hq'
    | brk => exact False.elim hq'
    | cont => exact False.elim hq'
/-- C(e, ..) -/
theorem pe_xmk (T : XCls X.K C ini) (iC : PySem.W.findIn X.K (.ref C) "__init__" = some (some (.ref fI))) (tI : PySem.W.typeIn X.K (.ref fI) = some (.type "function"))
    (F1 : FnOk X.prog X.w X.K X.mg X.base CX k fI fd ps sp) (hr : Room (k + 1) X.A) (hb : KBn X.K fd ps (n + 1) [] g gV) (hx : Passes CX X E) (hg : Gl X x) (hm : X.mg x = some (.ref C)) (ha : PA X (e :: es) t)
    (hdb : (x == ("__debug__" : Str)) = false := by decide) (he : starEach (e :: es) X.env = (false, eval e X.env) :: starEach es X.env := by rfl) (hpl : (backTo pos (starEach es X.env)).any (·.1) = false := by rfl) :
    PE X (.Call (.Name x p) (e :: es) [] pos) (tXmk C n 0 sp gV E t tNil) := by
  refine ⟨fun pins s σ H Q I h => ?_⟩
  refine wpAny_Call_Name_kw (ld_glob I hg hm ?_ hdb)
  refine PySem.W.callWith_K (h₀ := X.base) I.ok.mod.kin T.kC (thn (ha.run pos pins s σ H _ I h) fun us s1 ⟨vs, H1, I1, r1, l1, l2, hn, q⟩ => ⟨I1.kIn, ?_⟩) he hpl
  exact run_xmk (ks := []) (ws := []) (zs := []) T iC tI F1 hr hb hx I1 r1 .nil l1 rfl hn q
/-- C() -/
theorem pe_xmk0 (T : XCls X.K C ini) (iC : PySem.W.findIn X.K (.ref C) "__init__" = some (some (.ref fI))) (tI : PySem.W.typeIn X.K (.ref fI) = some (.type "function"))
    (F1 : FnOk X.prog X.w X.K X.mg X.base CX k fI fd ps sp) (hr : Room (k + 1) X.A) (hb : KBn X.K fd ps 1 [] g gV) (hx : Passes CX X E) (hg : Gl X x) (hm : X.mg x = some (.ref C))
    (hdb : (x == ("__debug__" : Str)) = false := by decide) : PE X (.Call (.Name x p) [] [] pos) (tXmk C 0 0 sp gV E tNil tNil) := by
  refine ⟨fun pins s σ H Q I h => ?_⟩
  refine wpAny_Call_Name_kw (ld_glob I hg hm ?_ hdb)
  obtain ⟨l1, l2, hn, q⟩ := h
  exact PySem.W.callWith_K0 I.kIn T.kC (run_xmk (ks := []) (us := []) (ws := []) (vs := []) (zs := []) T iC tI F1 hr hb hx I .nil .nil rfl rfl hn q)
/-- C(k = v, ..) -/
theorem pe_xmkK (T : XCls X.K C ini) (iC : PySem.W.findIn X.K (.ref C) "__init__" = some (some (.ref fI))) (tI : PySem.W.typeIn X.K (.ref fI) = some (.type "function"))
    (F1 : FnOk X.prog X.w X.K X.mg X.base CX k fI fd ps sp) (hr : Room (k + 1) X.A) (hb : KBn X.K fd ps 1 ks g gV) (hx : Passes CX X E) (hg : Gl X x) (hm : X.mg x = some (.ref C)) (hkw : PK X kws tk)
    (hall : (backToKw pos (keywordEach kws X.env)).all (·.1.isSome) = true := by rfl) (hks : (backToKw pos (keywordEach kws X.env)).filterMap (·.1) = ks := by rfl) (hdb : (x == ("__debug__" : Str)) = false := by decide)
    (hpl : ((backTo pos (starEach [] X.env)).any (·.1) || (backToKw pos (keywordEach kws X.env)).any (·.1.isNone)) = false := by rfl) :
    PE X (.Call (.Name x p) [] kws pos) (tXmk C 0 ks.length sp gV E tNil tk) := by
  refine ⟨fun pins s σ H Q I h => ?_⟩
  refine wpAny_Call_Name_kw (ld_glob I hg hm ?_ hdb)
  refine PySem.W.callWith_KW0 (h₀ := X.base) I.ok.mod.kin T.kC hall ?_ hpl
  refine thn (hkw.run pos pins s σ H _ I h) fun ws s2 ⟨zs, H2, I2, rz, l1, l2, hn, q2⟩ => ⟨I2.kIn, ?_⟩
  rw [hks]
  exact run_xmk (us := []) (vs := []) T iC tI F1 hr hb hx I2 .nil rz rfl l2 hn q2
end
end MeH
end
section
set_option Elab.async false
set_option linter.all false
set_option maxRecDepth 100000
set_option maxHeartbeats 4000000
/-! a def that may ask repr of made things: nothing of repr runs around it (guards) -/
namespace MeG
open PySem PySem.Spec PyProof.Rows L2
/-- the def at f keeps the promise sp wherever no repr runs around -/
structure FnG (P : Program) (w : World) (K : PySem.W.Frag) (mg : Str → Option Value) (base : Heap) (CX : CXT) (k : Nat) (f : Addr) (fd : FuncData) (ps : List Str) (sp : Sp) : Prop where
  len : ∀ vs H Q E, sp vs H Q E → vs.length = ps.length
  run : ∀ (A : Around) (outer : List Env) (s : Shared) (H : Hp) (args : Args) (us : List Value) (vs : List V) (Q : VK) (E : XK), A.guards = some [] →
    Room k A → Env0 P w K mg base A outer s H → BindsTo s fd args (ps.zip us) → Vals vs us → sp vs H Q E → codeAny (model P w) A (.call (.ref f) args) (CR CX outer P w H s Q E) s
section
variable {P : Program} {w : World} {K : PySem.W.Frag} {mg : Str → Option Value} {base : Heap} {x qual : Str} {params : Arguments} {body : List Stmt} {scope : Scope} {dvs : List V} {kws : List (Str × V)} {f : Addr} {fd : FuncData}
theorem FnG.of {CX : CXT} {k : Nat} {ps : List Str} {sp : Sp} (F : FnOk P w K mg base CX k f fd ps sp) : FnG P w K mg base CX k f fd ps sp where
  len := F.len
  run := fun A outer s H args us vs Q E _ => F.run A outer s H args us vs Q E
/-- from its body: HandS.Lambda's run_ofS, at these surroundings -/
theorem okG {CX : CXT} {N ps : List Str} {k : Nat} {sp : Sp} (F : FunD K x qual params body scope dvs kws f fd) (S : FnScope N ps scope) (len : ∀ vs H Q E, sp vs H Q E → vs.length = ps.length)
    (hbody : ∀ (cdv : Value) (A : Around) (outer : List Env) (s : Shared) (H : Hp) (vs : List V) (Q : VK) (E : XK), (A.deeper (envOfC qual scope s.heap.objs.size f cdv)).guards = some [] → Room k (A.deeper (envOfC qual scope s.heap.objs.size f cdv)) → sp vs H Q E →
      ∃ t, PSs (cxOf CX P w K mg base N qual scope f cdv A outer s H E) body t ∧ t { nx := fun _ H' => Q .non H', rt := Q } (start N vs) H) : FnG P w K mg base CX (k + 1) f fd ps sp := by
  obtain ⟨_, _, _, _, _, _, _, cdv, _, _, e, lk, hcd, _⟩ := F.ex
  subst e
  exact ⟨len, fun A outer s H args us vs Q E g room env bind vals want => LamX.run_ofS lk hcd S room env bind vals (len _ _ _ _ want) fun room' => hbody cdv A outer s H vs Q E g room' want⟩
end
section
variable {X : Cx} {CX : CXT} {k : Nat} {f : Addr} {fd : FuncData} {ps : List Str} {sp : Sp} {dvs : List V} {ds : List Value} {E : XK} {x : Str} {p pos : Pos} {e : Expr} {es : List Expr} {t : TA}
/-- such a def, called with values -/
theorem run_fnG {pins : List (Addr × Obj)} {σ : L2.St} {H : Hp} {s : Shared} {Q : VK} {us : List Value} {vs : List V} (F : FnG X.prog X.w X.K X.mg X.base CX k f fd ps sp) (hgd : X.A.guards = some []) (room : Room k X.A) (bind : Binds X.K fd ps ds) (dfl : Vals dvs ds) (out : Passes CX X E)
    (I : Inv X pins σ H s) (vals : Vals vs us) (want : sp (vs ++ dvs) H Q E) : wpAny (model X.prog X.w) X.A (call (.ref f) us) (EP X pins σ Q) X.xe s := by
  have both := vals.append dfl
  have count : (us ++ ds).length = ps.length := both.length.symm.trans (F.len _ _ _ _ want)
  have go := F.run X.A X.stack s H ⟨us, []⟩ (us ++ ds) (vs ++ dvs) Q E hgd room I.env0 (bind s us I.kIn count) both want
  refine wpAny_call (codeAny_mono go fun r s' h => ?_)
  match r, h with
  | .ok (.ret _), h => exact I.after h
  | .error e, h => exact out pins σ H s e s' I h
theorem pe_callG (F : FnG X.prog X.w X.K X.mg X.base CX k f fd ps sp) (hgd : X.A.guards = some []) (room : Room k X.A) (hg : Gl X x) (hm : X.mg x = some (.ref f)) (hk : PySem.W.keepIn X.K (.ref f) = true) (bind : Binds X.K fd ps ds) (dfl : Vals dvs ds) (out : Passes CX X E)
    (ha : PA X (e :: es) t) (hdb : (x == ("__debug__" : Str)) = false := by decide) (one : starEach (e :: es) X.env = (false, eval e X.env) :: starEach es X.env := by rfl) (plain : (backTo pos (starEach es X.env)).any (·.1) = false := by rfl) :
    PE X (.Call (.Name x p) (e :: es) [] pos) (tCall sp dvs E t) :=
  ⟨fun pins s σ H _ I h => wpAny_Call_Name_kw (ld_glob I hg hm (PySem.W.callWith_K I.ok.mod.kin hk (thn (ha.run pos pins s σ H _ I h) fun _ _ ⟨_, _, I1, r, q⟩ => ⟨I1.kIn, run_fnG F hgd room bind dfl out I1 r q⟩) one plain) hdb)⟩
end

/-! ### repr over data at any depth, dicts too -/
/-- the written part knows sys.modules, a dict -/
def SysK (K : PySem.W.Frag) : Prop := ∃ o, K.lookup sysModules = some o ∧ o.cls = .type "dict"
theorem notin_app {x : Addr} {as bs : List Addr} (h1 : x ∉ as) (h2 : x ∉ bs) : x ∉ as ++ bs := fun z => (List.mem_append.mp z).elim h1 h2
def kD : Key → PyData
  | .inl i => .int i
  | .inr x => .str x
mutual
inductive Dd (K : PySem.W.Frag) (H : Hp) : V → PyData → Prop
  | non : Dd K H .non .none
  | bl (b : Bool) : Dd K H (.bl b) (.bool b)
  | int (i : Int) : Dd K H (.int i) (.int i)
  | str (x : Str) : Dd K H (.str x) (.str x)
  | lst {a : Addr} {xs : List V} {ds : List PyData} : SqL K H a xs → DdAll K H xs ds → Dd K H (.ref a) (.list ds)
  | tup {a : Addr} {xs : List V} {ds : List PyData} : SqT K H a xs → DdAll K H xs ds → Dd K H (.ref a) (.tuple ds)
  | dic {a : Addr} {kvs : List (Key × V)} {ds : List (PyData × PyData)} : Rd H a (.dK kvs) → DdKv K H kvs ds → Dd K H (.ref a) (.dict ds)
inductive DdAll (K : PySem.W.Frag) (H : Hp) : List V → List PyData → Prop
  | nil : DdAll K H [] []
  | cons {v : V} {vs : List V} {d : PyData} {ds : List PyData} : Dd K H v d → DdAll K H vs ds → DdAll K H (v :: vs) (d :: ds)
inductive DdKv (K : PySem.W.Frag) (H : Hp) : List (Key × V) → List (PyData × PyData) → Prop
  | nil : DdKv K H [] []
  | cons {k : Key} {v : V} {vs : List (Key × V)} {d : PyData} {ds : List (PyData × PyData)} : Dd K H v d → DdKv K H vs ds → DdKv K H ((k, v) :: vs) ((kD k, d) :: ds)
end
theorem kD_reads {h : Heap} {k : Key} {u : Value} (e : keyIs k u = true) : Reads h u (kD k) [] := by
  rcases keyIs_shape e with ⟨i, t, rfl, rfl⟩ | ⟨x, t, rfl, rfl⟩
  · exact Reads.int i t
  · exact Reads.str x t
theorem keys_reads {P : Program} {w : World} {h : Heap} : ∀ {es : List DictEntry} {kvs : List (Key × Value)}, Pairs (mixKind P w) es kvs → ReadsAll h (es.map (·.key)) (kvs.map fun p => kD p.1) []
  | _, _, .nil => ReadsAll.nil
  | _, _, .cons (es := es) (kvs := kvs) h1 _ h3 => ReadsAll.cons (as := []) (bs := []) (kD_reads h1) (keys_reads h3)
theorem pairs_vals {P : Program} {w : World} : ∀ {es : List DictEntry} {kvs : List (Key × Value)}, Pairs (mixKind P w) es kvs → es.map (·.val) = kvs.map (·.2)
  | _, _, .nil => rfl
  | _, _, .cons (es := es) (kvs := kvs) _ h2 h3 => by
    rw [List.map_cons, List.map_cons, h2, pairs_vals h3]
section
variable {X : Cx} {pins : List (Addr × Obj)} {σ : L2.St} {H : Hp} {s : Shared}
theorem sys_ne (I : Inv X pins σ H s) (S : SysK X.K) {a : Addr} {o : Obj} (e : s.heap.get? a = some o) (hc : o.cls ≠ .type "dict") : sysModules ≠ a := by
  obtain ⟨q, hq, c⟩ := S
  intro z
  have e2 := I.kIn _ _ hq
  rw [z, e] at e2
  cases e2
  exact hc c
mutual
theorem Dd.reads (I : Inv X pins σ H s) (S : SysK X.K) : ∀ (d : PyData) (v : V) (u : Value), Dd X.K H v d → RelV v u → ∃ as, Reads s.heap u d as ∧ sysModules ∉ as
  | .none, _, _, h, r => by
    cases h
    cases r
    exact ⟨_, Reads.none, by simp⟩
  | .bool b, _, _, h, r => by
    cases h
    cases r
    exact ⟨_, Reads.bool b, by simp⟩
  | .int i, _, _, h, r => by
    cases h
    obtain ⟨t, rfl⟩ := r
    exact ⟨_, Reads.int i t, by simp⟩
  | .str x, _, _, h, r => by
    cases h
    obtain ⟨t, rfl⟩ := r
    exact ⟨_, Reads.str x t, by simp⟩
  | .list ds, _, _, h, r => by
    cases h with
    | lst hs ha =>
      cases r
      obtain ⟨its, rv, ⟨o, n, ho, hc, _, hd⟩, _⟩ := I.list hs
      obtain ⟨as, hr, hm⟩ := Dd.readsAll I S ds _ its ha rv
      refine ⟨_, Reads.list ho hc hd hr, ?_⟩
      rw [List.mem_cons]
      rintro (z | z)
      · exact sys_ne I S ho (by rw [hc]; decide) z
      · exact hm z
  | .tuple ds, _, _, h, r => by
    cases h with
    | tup hs ha =>
      cases r
      obtain ⟨its, rv, ⟨o, ho, hc, n, hd⟩, _⟩ := I.tuple hs
      obtain ⟨as, hr, hm⟩ := Dd.readsAll I S ds _ its ha rv
      exact ⟨_, Reads.tuple ho hc hd hr, hm⟩
  | .dict ds, _, _, h, r => by
    cases h with
    | dic hs ha =>
      cases r
      obtain ⟨_, hsy, vs, kv, o, es, ep, ho, hx, hd, _, hp, _⟩ := hs.ok I.hok
      obtain ⟨bs, hr, hm, hk⟩ := Dd.readsKv I S ds _ _ ha kv
      refine ⟨_, Reads.dict (as := []) (bs := bs) ho hx.1 hd ?_ ?_, ?_⟩
      · rw [← hk]
        exact keys_reads hp
      · rw [pairs_vals hp]
        exact hr
      · refine notin_app (fun z => ?_) hm
        rw [← List.mem_singleton.mp z] at hsy
        exact absurd hsy (by decide)
theorem Dd.readsAll (I : Inv X pins σ H s) (S : SysK X.K) : ∀ (ds : List PyData) (vs : List V) (us : List Value), DdAll X.K H vs ds → Vals vs us → ∃ as, ReadsAll s.heap us ds as ∧ sysModules ∉ as
  | [], _, _, h, r => by
    cases h
    cases r
    exact ⟨_, ReadsAll.nil, by simp⟩
  | d :: ds, _, _, h, r => by
    cases h with
    | cons h1 h2 =>
      cases r with
      | cons r1 r2 =>
        obtain ⟨as, q1, m1⟩ := Dd.reads I S d _ _ h1 r1
        obtain ⟨bs, q2, m2⟩ := Dd.readsAll I S ds _ _ h2 r2
        exact ⟨_, ReadsAll.cons q1 q2, notin_app m1 m2⟩
theorem Dd.readsKv (I : Inv X pins σ H s) (S : SysK X.K) : ∀ (ds : List (PyData × PyData)) (vs : List (Key × V)) (us : List (Key × Value)), DdKv X.K H vs ds → KV vs us → ∃ as, ReadsAll s.heap (us.map (·.2)) (ds.map (·.2)) as ∧ sysModules ∉ as ∧ us.map (fun p => kD p.1) = ds.map (·.1)
  | [], _, _, h, r => by
    cases h
    cases r
    exact ⟨_, ReadsAll.nil, by simp, rfl⟩
  | (k, d) :: ds, _, _, h, r => by
    cases h with
    | cons h1 h2 =>
      cases r with
      | @cons _ q _ _ r1 r2 =>
        obtain ⟨qk, qv⟩ := q
        obtain ⟨ek, rv⟩ := r1
        dsimp only at ek rv
        subst ek
        obtain ⟨as, q1, m1⟩ := Dd.reads I S d _ _ h1 rv
        obtain ⟨bs, q2, m2, hk⟩ := Dd.readsKv I S ds _ _ h2 r2
        refine ⟨_, ReadsAll.cons q1 q2, notin_app m1 m2, ?_⟩
        rw [List.map_cons, List.map_cons, hk]
end
end
/-- repr(x) -/
def rRepr (K : PySem.W.Frag) : List V → Hp → VK → Prop := fun xs H Q => ∃ (v : V) (d : PyData), xs = [v] ∧ Dd K H v d ∧ d.showable = true ∧ d.depth ≤ 60 ∧ d.shown.length ≤ sizeLine ∧ Q (.str d.shown) H
theorem call_repr {X : Cx} (hgd : X.A.guards = some []) (hu : X.A.units + 64 < cLine) (S : SysK X.K) : CallR X (.builtin "repr") (rRepr X.K) := by
  intro pins s σ H xs us Q I r h
  obtain ⟨v, d, rfl, hd, hs, hdep, hsz, q⟩ := h
  obtain ⟨u, rfl, rv⟩ := vals1 r
  cases hd with
  | non =>
    cases rv
    exact PySem.P.repr_of_none ⟨.str _, H, I.tok _, ⟨_, rfl⟩, q⟩
  | bl b =>
    cases rv
    refine PySem.P.repr_of_bool ⟨.str _, H, I.tok _, ⟨_, rfl⟩, ?_⟩
    cases b <;> exact q
  | int i =>
    obtain ⟨t, rfl⟩ := rv
    exact PySem.P.repr_of_int (of_decide_eq_true hs) ⟨.str _, H, I.tok _, ⟨_, rfl⟩, q⟩
  | str x =>
    obtain ⟨t, rfl⟩ := rv
    exact PySem.P.repr_of_str ⟨.str _, H, I.tok _, ⟨_, rfl⟩, q⟩ hsz
  | lst h1 h2 =>
    obtain ⟨as, r1, m1⟩ := Dd.reads I S _ _ _ (Dd.lst h1 h2) rv
    cases rv
    exact repr_of_reads' r1 hs (fun _ => m1) hgd (by omega) (fun _ _ e => e) (fun h' u tk hk => ⟨.str _, H, I.kept (t' := tk) hk, ⟨_, rfl⟩, q⟩) hsz
  | tup h1 h2 =>
    obtain ⟨as, r1, m1⟩ := Dd.reads I S _ _ _ (Dd.tup h1 h2) rv
    cases rv
    exact repr_of_reads' r1 hs (fun _ => m1) hgd (by omega) (fun _ _ e => e) (fun h' u tk hk => ⟨.str _, H, I.kept (t' := tk) hk, ⟨_, rfl⟩, q⟩) hsz
  | dic h1 h2 =>
    obtain ⟨as, r1, m1⟩ := Dd.reads I S _ _ _ (Dd.dic h1 h2) rv
    cases rv
    exact repr_of_reads' r1 hs (fun _ => m1) hgd (by omega) (fun _ _ e => e) (fun h' u tk hk => ⟨.str _, H, I.kept (t' := tk) hk, ⟨_, rfl⟩, q⟩) hsz
end MeG
end
section
set_option Elab.async false
set_option linter.all false
set_option maxRecDepth 100000
set_option maxHeartbeats 4000000
/-! the head's facts, with own error classes -/
namespace MeK
open PySem PySem.Spec PyProof.Rows L2 He MeH MeG
def refsB (bt : List Value) : List Value → Bool
  | .ref _ :: r => refsB bt r
  | l => l == bt
theorem refsB_ok {bt : List Value} : ∀ l : List Value, refsB bt l = true → ∃ cs : List Addr, l = cs.map Value.ref ++ bt
  | [], e => ⟨[], beq_iff_eq.mp e⟩
  | .ref c :: r, e => by
    obtain ⟨cs, q⟩ := refsB_ok r e
    exact ⟨c :: cs, by rw [q]; rfl⟩
  | .none :: _, e => ⟨[], beq_iff_eq.mp e⟩
  | .ellipsis :: _, e => ⟨[], beq_iff_eq.mp e⟩
  | .notImplemented :: _, e => ⟨[], beq_iff_eq.mp e⟩
  | .bool _ :: _, e => ⟨[], beq_iff_eq.mp e⟩
  | .int _ _ :: _, e => ⟨[], beq_iff_eq.mp e⟩
  | .float _ _ :: _, e => ⟨[], beq_iff_eq.mp e⟩
  | .str _ _ :: _, e => ⟨[], beq_iff_eq.mp e⟩
  | .bytes _ _ :: _, e => ⟨[], beq_iff_eq.mp e⟩
  | .type _ :: _, e => ⟨[], beq_iff_eq.mp e⟩
  | .builtin _ :: _, e => ⟨[], beq_iff_eq.mp e⟩
def objB (K : PySem.W.Frag) (C : Addr) (bt : List Value) (newId : String) : Bool := match K.lookup C with
  | some ⟨.type "type", _, .cls cd, sl⟩ => (match cd.mro, sl.toList with
    | .ref C' :: bm, [_, _, _, _, some (.builtin n), _] => C' == C && n == newId && !cd.hasDel && cd.hasDict && refsB bt bm
    | _, _ => false)
  | _ => false
theorem objB_ok {K : PySem.W.Frag} {C : Addr} {bt : List Value} {newId : String} (q : objB K C bt newId = true) :
    ∃ (cs : List Addr) (nm qn : Str) (N : Addr) (bs : List Value) (sn : List Str) (sub : List Value) (ab : Bool) (col : Option Bool) (dd : Option Addr) (k0 k1 k2 k3 k5 : Option Value),
      K.lookup C = some (excClassObj nm qn C N bs (cs.map Value.ref ++ bt) true sn sub ab col dd k0 k1 k2 k3 k5 newId) := by
  unfold objB at q
  split at q
  · rename_i dd cd sl ho
    split at q
    · rename_i C' bm k0 k1 k2 k3 n k5 hm hs
      simp only [Bool.and_eq_true, beq_iff_eq, Bool.not_eq_true'] at q
      obtain ⟨⟨⟨⟨rfl, rfl⟩, hdel⟩, hdi⟩, ht⟩ := q
      obtain ⟨cs, rfl⟩ := refsB_ok _ ht
      obtain ⟨nm, bs, mro, ns, qn, hd, sn, sub, ab, col, del⟩ := cd
      dsimp only at hm hdel hdi
      subst hm hdel hdi
      have hsl : sl = #[k0, k1, k2, k3, some (.builtin n), k5] := by
        obtain ⟨l⟩ := sl
        simp only at hs
        rw [hs]
      subst hsl
      exact ⟨cs, nm, qn, ns, bs, sn, sub, ab, col, dd, k0, k1, k2, k3, k5, ho⟩
    · cases q
  · cases q
/-- the three bases -/
inductive Bk where
  | ve | ke | re
def Bk.bt : Bk → List Value
  | .ve => MeX.tVE
  | .ke => MeX.tKE
  | .re => MeX.tRE
def Bk.newId : Bk → String
  | .ve => "ValueError.__new__"
  | .ke => "LookupError.__new__"
  | .re => "RuntimeError.__new__"
def Bk.ini : Bk → String
  | .ve => "ValueError.__init__"
  | .ke => "KeyError.__init__"
  | .re => "RuntimeError.__init__"
theorem Bk.ok : ∀ b : Bk, ∃ NB IB, MeX.XBase NB b.newId IB b.ini b.bt
  | .ve => ⟨_, _, MeX.baseVE⟩
  | .ke => ⟨_, _, MeX.baseKE⟩
  | .re => ⟨_, _, MeX.baseRE⟩
def oo (a b : Option Bool) : Bool := decide (a = b)
def valB (o : Option PySem.W.CFound) (u : Value) : Bool := match o with
  | some (.val v) => v == u
  | _ => false
theorem valB_ok {o : Option PySem.W.CFound} {u : Value} (h : valB o u = true) : o = some (.val u) := by
  unfold valB at h
  split at h
  · rename_i v
    rw [beq_iff_eq.mp h]
  · cases h
/-- facts by names -/
inductive Fb where
  | fa (f : Fa)
  | xcls (x : Str) (b : Bk)
  | xinit (x : Str)
  | iniC (x : Str) (b : Bk)
  | iniT (T : String) (b : Bk)
  | kit (x y : Str) (r : Bool)
  | kitT (x : Str) (T : String) (r : Bool)
  | sys
  | any (f : PySem.W.Frag → Bool)
def Fb.ok (K : PySem.W.Frag) : Fb → Bool
  | .fa f => f.ok K
  | .xcls x b => objB K (ga K x) b.bt b.newId && (eqO (PySem.W.findIn K (.ref (ga K x)) "__setattr__") (some (some (.builtin "object.__setattr__"))) && (PySem.W.keepIn K (.ref (ga K x)) &&
      (eqO (PySem.W.findIn K (.ref (ga K x)) "__getattribute__") (some (some (.builtin "BaseException.__getattribute__"))) && (eqO (PySem.W.findIn K (.ref (ga K x)) "__getattr__") (some none) &&
      (oo (PySem.W.subIn K (.ref (ga K x)) (.type "BaseException")) (some true) && (PySem.W.hasDictIn K (ga K x) && (eqO (PySem.W.findIn K (.ref (ga K x)) "__class__") (some (some (.builtin "object.__class__"))) &&
      (eqO (PySem.W.specialIn K (.builtin "object.__class__") "__get__") (some (some (.builtin "getset_descriptor.__get__"))) && (oo (PySem.W.takesIn K (.builtin "object.__class__")) (some true) && oo (PySem.W.mroIn K (ga K x) (.type "object")) (some true))))))))))
  | .xinit x => eqO (PySem.W.findIn K (.ref (ga K x)) "__init__") (some (some (.ref (ma K (ga K x) "__init__")))) && decide (PySem.W.typeIn K (.ref (ma K (ga K x) "__init__")) = some (.type "function"))
  | .iniC x b => PySem.W.readsIn K (ga K x) (.type "type") && (eqO (PySem.W.specialIn K (.ref (ga K x)) "__getattribute__") (some (some (.builtin "type.__getattribute__"))) && valB (PySem.W.findCls K (.ref (ga K x)) (.type "type") "__init__") (.builtin b.ini))
  | .iniT T b => valB (PySem.W.findCls K (.type T) (.type "type") "__init__") (.builtin b.ini)
  | .kit x y r => oo (PySem.W.kitOne K (.ref (ga K x)) (.ref (ga K y))) (some r)
  | .kitT x T r => oo (PySem.W.kitOne K (.ref (ga K x)) (.type T)) (some r)
  | .sys => (match K.lookup sysModules with
    | some o => o.cls == .type "dict"
    | none => false)
  | .any f => f K
section
variable {K : PySem.W.Frag} {x y : Str}
theorem xcls_ok {b : Bk} (c : (Fb.xcls x b).ok K = true) : XCls K (ga K x) b.ini := by
  obtain ⟨c1, c⟩ := ba c
  obtain ⟨c2, c⟩ := ba c
  obtain ⟨c3, c⟩ := ba c
  obtain ⟨c4, c⟩ := ba c
  obtain ⟨c5, c⟩ := ba c
  obtain ⟨c6, c⟩ := ba c
  obtain ⟨c7, c⟩ := ba c
  obtain ⟨c8, c⟩ := ba c
  obtain ⟨c9, c⟩ := ba c
  obtain ⟨c10, c11⟩ := ba c
  obtain ⟨NB, IB, F⟩ := b.ok
  obtain ⟨cs, nm, qn, N, bs, sn, sub, ab, col, dd, k0, k1, k2, k3, k5, ho⟩ := objB_ok c1
  exact ⟨⟨NB, b.newId, IB, b.bt, cs, nm, qn, N, bs, sn, sub, ab, col, dd, k0, k1, k2, k3, k5, F, ho⟩, eqO_ok c2, c3, eqO_ok c4, eqO_ok c5, of_decide_eq_true c6, c7, eqO_ok c8, eqO_ok c9, of_decide_eq_true c10, of_decide_eq_true c11⟩
theorem xinit_ok (c : (Fb.xinit x).ok K = true) : PySem.W.findIn K (.ref (ga K x)) "__init__" = some (some (.ref (ma K (ga K x) "__init__"))) ∧ PySem.W.typeIn K (.ref (ma K (ga K x) "__init__")) = some (.type "function") := by
  obtain ⟨c1, c2⟩ := ba c
  exact ⟨eqO_ok c1, of_decide_eq_true c2⟩
theorem iniC_ok {b : Bk} (c : (Fb.iniC x b).ok K = true) : PySem.W.readsIn K (ga K x) (.type "type") = true ∧ PySem.W.specialIn K (.ref (ga K x)) "__getattribute__" = some (some (.builtin "type.__getattribute__")) ∧
    PySem.W.findCls K (.ref (ga K x)) (.type "type") "__init__" = some (.val (.builtin b.ini)) := by
  obtain ⟨c1, c⟩ := ba c
  obtain ⟨c2, c3⟩ := ba c
  exact ⟨c1, eqO_ok c2, valB_ok c3⟩
theorem iniT_ok {T : String} {b : Bk} (c : (Fb.iniT T b).ok K = true) : PySem.W.findCls K (.type T) (.type "type") "__init__" = some (.val (.builtin b.ini)) := valB_ok c
theorem kit_ok {r : Bool} (c : (Fb.kit x y r).ok K = true) : PySem.W.kitOne K (.ref (ga K x)) (.ref (ga K y)) = some r := of_decide_eq_true c
theorem kitT_ok {T : String} {r : Bool} (c : (Fb.kitT x T r).ok K = true) : PySem.W.kitOne K (.ref (ga K x)) (.type T) = some r := of_decide_eq_true c
theorem sys_ok (c : Fb.sys.ok K = true) : SysK K := by
  have c2 : (match K.lookup sysModules with
    | some o => o.cls == .type "dict"
    | none => false) = true := c
  cases e : K.lookup sysModules with
  | none =>
    rw [e] at c2
    cases c2
  | some o =>
    rw [e] at c2
    exact ⟨o, e, beq_iff_eq.mp c2⟩
end
/-! ### the Hook -/
def asX (g : Addr → Option Obj) (n : Nat) : List Addr := sysModules :: cStatics :: asD g n
def obsX (fb : List Fb) (fn : List DefD) (K : PySem.W.Frag) : AlD := ((fb.all fun f => f.ok K) && fn.all fun d => d.ok K, fn.map fun d => fnW K d.at_)
def SaysX (fb : List Fb) (fn : List DefD) (K : PySem.W.Frag) : Prop := obsX fb fn K = valD fn
def obsXG (n : Nat) (fb : List Fb) (fn : List DefD) (g : Addr → Option Obj) : AlD := obsX fb fn (frG g (asX g n))
def hookX (n : Nat) (fb : List Fb) (fn : List DefD) : PySem.W.Hook where
  α := AlD
  obs := fun s => obsXG n fb fn s.heap.get?
  val := fun _ => valD fn
  says := fun _ h => ∃ K : PySem.W.Frag, K.In h ∧ SaysX fb fn K
  of := fun _ _ e => ⟨_, frG_in, e⟩
  keeps := fun _ _ _ ⟨K, hK, c⟩ k => ⟨K, PySem.W.Frag.In.keeps hK k, c⟩
theorem obsXG_eq {n : Nat} {fb : List Fb} {fn : List DefD} {g : Addr → Option Obj} {s : Shared} (h : ∀ a, g a = s.heap.get? a) : obsXG n fb fn g = (hookX n fb fn).obs s := by
  have e : g = s.heap.get? := funext h
  rw [e] <;> rfl
section
variable {fb : List Fb} {fn : List DefD} {K : PySem.W.Frag}
theorem SaysX.fact (c : SaysX fb fn K) {f : Fb} (h : f ∈ fb) : f.ok K = true := by
  have c1 := (ba (show ((fb.all fun f => f.ok K) && fn.all fun d => d.ok K) = true from congrArg (fun z : AlD => z.1) c)).1
  exact List.all_eq_true.mp c1 f h
theorem SaysX.def_ (c : SaysX fb fn K) (i : Nat) {d : DefD} (h : fn[i]? = some d := by rfl) : ∃ fd, FunD K d.name d.qual d.params d.body d.scope (d.dvs K) (d.kws K) (fAd K d.at_) fd := by
  have c2 := (ba (show ((fb.all fun f => f.ok K) && fn.all fun d => d.ok K) = true from congrArg (fun z : AlD => z.1) c)).2
  have e : fn.map (fun d => fnW K d.at_) = fn.map DefD.val := congrArg (fun z : AlD => z.2) c
  have e2 : (fn.map fun d => fnW K d.at_)[i]? = (fn.map DefD.val)[i]? := by rw [e]
  rw [List.getElem?_map, List.getElem?_map, h] at e2
  exact DefD.funD (Option.some.inj e2) (List.all_eq_true.mp c2 d (List.mem_of_getElem? h))
end
end MeK
end
section
set_option Elab.async false
set_option linter.all false
set_option maxRecDepth 100000
set_option maxHeartbeats 4000000
/-! what an expression gives, by a word that stays true while the heap grows -/
namespace MeE
open PySem L2 Evl MeH MeG
abbrev VP := V → Hp → Prop
def Mono (P : VP) : Prop := ∀ v H H', Ex H H' → P v H → P v H'
def Gets (te : TE) (σ : L2.St) (H : Hp) (P : VP) : Prop := ∀ H1, Ex H H1 → ∀ Q : VK, (∀ v H2, Ex H1 H2 → P v H2 → Q v H2) → te σ H1 Q
def GetsA (ta : TA) (σ : L2.St) (H : Hp) (P : List V → Hp → Prop) : Prop := ∀ H1, Ex H H1 → ∀ Q : List V → Hp → Prop, (∀ vs H2, Ex H1 H2 → P vs H2 → Q vs H2) → ta σ H1 Q
def Is (w : V) : VP := fun v _ => v = w
def All : List VP → List V → Hp → Prop
  | [], [], _ => True
  | P :: Ps, v :: vs, H => P v H ∧ All Ps vs H
  | _, _, _ => False
def MonoL (Ps : List VP) : Prop := ∀ P ∈ Ps, Mono P
def Lst (Ps : List VP) : VP := fun v H => ∃ (p : Addr) (xs : List V), v = .ref p ∧ H p = some (.lst xs) ∧ All Ps xs H
def Tup (Ps : List VP) : VP := fun v H => ∃ (p : Addr) (xs : List V), v = .ref p ∧ H p = some (.tup xs) ∧ All Ps xs H
theorem mono_is (w : V) : Mono (Is w) := fun _ _ _ _ h => h
theorem monoL_nil : MonoL [] := fun _ h => nomatch h
theorem monoL_cons {P : VP} {Ps : List VP} (h : Mono P) (hs : MonoL Ps) : MonoL (P :: Ps) := fun R hR => (List.mem_cons.mp hR).elim (fun e => e ▸ h) (hs R)
theorem monoL_app {Ps Rs : List VP} (h : MonoL Ps) (hs : MonoL Rs) : MonoL (Ps ++ Rs) := fun R hR => (List.mem_append.mp hR).elim (h R) (hs R)
theorem All.up {H H' : Hp} (e : Ex H H') : ∀ {Ps : List VP} {vs : List V}, MonoL Ps → All Ps vs H → All Ps vs H'
  | [], [], _, _ => trivial
  | [], _ :: _, _, h => h.elim
  | _ :: _, [], _, h => h.elim
  | P :: Ps, v :: vs, m, h => ⟨m P List.mem_cons_self v H H' e h.1, All.up e (fun R hR => m R (List.mem_cons_of_mem _ hR)) h.2⟩
theorem All.len {H : Hp} : ∀ {Ps : List VP} {vs : List V}, All Ps vs H → vs.length = Ps.length
  | [], [], _ => rfl
  | [], _ :: _, h => h.elim
  | _ :: _, [], h => h.elim
  | _ :: _, _ :: _, h => congrArg Nat.succ (All.len h.2)
theorem All.app {H : Hp} : ∀ {Ps Rs : List VP} {vs ws : List V}, All Ps vs H → All Rs ws H → All (Ps ++ Rs) (vs ++ ws) H
  | [], _, [], _, _, h => h
  | [], _, _ :: _, _, h, _ => h.elim
  | _ :: _, _, [], _, h, _ => h.elim
  | _ :: _, _, _ :: _, _, h, k => ⟨h.1, All.app h.2 k⟩
theorem All.get {H : Hp} : ∀ {Ps : List VP} {vs : List V} {i : Nat} {v : V}, All Ps vs H → vs[i]? = some v → ∃ P, Ps[i]? = some P ∧ P v H
  | [], [], _, _, _, e => by simp at e
  | [], _ :: _, _, _, h, _ => h.elim
  | _ :: _, [], _, _, h, _ => h.elim
  | P :: _, w :: _, 0, v, h, e => by
    have e' : w = v := by simpa using e
    exact ⟨P, rfl, e' ▸ h.1⟩
  | _ :: Ps, _ :: vs, i + 1, v, h, e => by
    obtain ⟨R, h1, h2⟩ := All.get (i := i) h.2 (by simpa using e)
    exact ⟨R, by simpa using h1, h2⟩
theorem mono_lst {Ps : List VP} (m : MonoL Ps) : Mono (Lst Ps) := fun _ _ _ e ⟨p, xs, h1, h2, h3⟩ => ⟨p, xs, h1, e _ _ h2, h3.up e m⟩
theorem mono_tup {Ps : List VP} (m : MonoL Ps) : Mono (Tup Ps) := fun _ _ _ e ⟨p, xs, h1, h2, h3⟩ => ⟨p, xs, h1, e _ _ h2, h3.up e m⟩
section
variable {K : PySem.W.Frag} {σ : L2.St} {H H' : Hp} {ta tb te : TE} {P P' R : VP} {r : R2}
theorem Gets.up (e : Ex H H') (h : Gets te σ H P) : Gets te σ H' P := fun H1 a Q q => h H1 (e.trans a) Q q
theorem Gets.imp (h : Gets te σ H P) (k : ∀ v H1, Ex H H1 → P v H1 → R v H1) : Gets te σ H R := fun H1 a Q q => h H1 a Q fun v H2 e p => q v H2 e (k v H2 (a.trans e) p)
theorem Gets.ev {v : V} (h : Gets te σ H (Is v)) : Ev te σ H v := fun H1 a Q q => h H1 a Q fun w H2 e p => by
  have p' : w = v := p
  rw [p']
  exact q H2 e
theorem Ev.gets {v : V} (h : Ev te σ H v) : Gets te σ H (Is v) := fun H1 a Q q => h H1 a Q fun H2 e => q v H2 e rfl
theorem g_var {i : Nat} {v : V} (h : σ[i]? = some (some v)) : Gets (tVar i) σ H (Is v) := Ev.gets (ev_var h)
theorem g_varP {i : Nat} {v : V} (h : σ[i]? = some (some v)) (m : Mono P) (p : P v H) : Gets (tVar i) σ H P := fun H1 a Q q => ⟨v, h, q v H1 (Ex.refl H1) (m _ _ _ a p)⟩
theorem g_c {v : V} : Gets (tC v) σ H (Is v) := Ev.gets ev_c
theorem g_op (ha : Gets ta σ H P) (hb : Gets tb σ H P') (m : Mono P) (hr : ∀ x y H1, Ex H H1 → P x H1 → P' y H1 → ∀ Q : VK, (∀ z H2, Ex H1 H2 → R z H2 → Q z H2) → r x y H1 Q) : Gets (tOp r ta tb) σ H R := fun H1 e Q q =>
  ha H1 e _ fun x H2 e2 px => hb H2 (e.trans e2) _ fun y H3 e3 py => hr x y H3 ((e.trans e2).trans e3) (m _ _ _ e3 px) py Q fun z H4 e4 pz => q z H4 ((e2.trans e3).trans e4) pz
theorem ga_nil : GetsA tNil σ H (All []) := fun H1 _ _ q => q [] H1 (Ex.refl H1) trivial
theorem ga_cons {tr : TA} {Ps : List VP} (h : Gets te σ H P) (m : Mono P) (hr : GetsA tr σ H (All Ps)) : GetsA (tCons te tr) σ H (All (P :: Ps)) := fun H1 e Q q =>
  h H1 e _ fun v H2 e2 p => hr H2 (e.trans e2) _ fun vs H3 e3 ps => q _ H3 (e2.trans e3) ⟨m _ _ _ e3 p, ps⟩
theorem g_lst {t : TA} {Ps : List VP} (h : GetsA t σ H (All Ps)) (m : MonoL Ps) (hl : Ps.length ≤ 1000) : Gets (tLst t) σ H (Lst Ps) := fun H1 e Q q =>
  h H1 e _ fun vs H2 e2 ps => ⟨by rw [ps.len]; exact sz_of (by omega), fun p hp => q _ _ (e2.trans (Ex.new hp)) ⟨p, vs, rfl, upd_same, ps.up (Ex.new hp) m⟩⟩
theorem g_tup {t : TA} {Ps : List VP} (h : GetsA t σ H (All Ps)) (m : MonoL Ps) (hl : Ps.length ≤ 1000) : Gets (tTup t) σ H (Tup Ps) := fun H1 e Q q =>
  h H1 e _ fun vs H2 e2 ps => ⟨by rw [ps.len]; exact sz_of (by omega), fun p hp => q _ _ (e2.trans (Ex.new hp)) ⟨p, vs, rfl, upd_same, ps.up (Ex.new hp) m⟩⟩
theorem g_cat {Ps Rs : List VP} (ha : Gets ta σ H (Lst Ps)) (hb : Gets tb σ H (Lst Rs)) (m : MonoL Ps) (m' : MonoL Rs) (hl : Ps.length + Rs.length ≤ 1000) : Gets (tOp rCat ta tb) σ H (Lst (Ps ++ Rs)) :=
  g_op ha hb (mono_lst m) fun x y H1 e px py Q q => by
    obtain ⟨p, xs, rfl, hp, ax⟩ := px
    obtain ⟨b, ys, rfl, hb', ay⟩ := py
    exact ⟨p, b, xs, ys, rfl, rfl, hp, hb', by rw [ax.len, ay.len]; exact sz_of (by omega), fun c hc => q _ _ (Ex.new hc) ⟨c, xs ++ ys, rfl, upd_same, (ax.app ay).up (Ex.new hc) (monoL_app m m')⟩⟩
/-- a call by values -/
theorem g_cb {rr : List V → Hp → VK → Prop} {t : TA} {Ps : List VP} (h : GetsA t σ H (All Ps)) (hr : ∀ vs H1, Ex H H1 → All Ps vs H1 → ∀ Q : VK, (∀ z H2, Ex H1 H2 → R z H2 → Q z H2) → rr vs H1 Q) : Gets (tCB rr t) σ H R := fun H1 e Q q =>
  h H1 e _ fun vs H2 e2 ps => hr vs H2 (e.trans e2) ps Q fun z H3 e3 pz => q z H3 (e2.trans e3) pz
/-- a call of a def -/
theorem g_call {sp : Sp} {dvs : List V} {E : XK} {t : TA} {Ps : List VP} (h : GetsA t σ H (All Ps)) (hr : ∀ vs H1, Ex H H1 → All Ps vs H1 → ∀ Q : VK, (∀ z H2, Ex H1 H2 → R z H2 → Q z H2) → sp (vs ++ dvs) H1 Q E) : Gets (tCall sp dvs E t) σ H R := fun H1 e Q q =>
  h H1 e _ fun vs H2 e2 ps => hr vs H2 (e.trans e2) ps Q fun z H3 e3 pz => q z H3 (e2.trans e3) pz
theorem all1 {A : VP} {vs : List V} (h : All [A] vs H) : ∃ a, vs = [a] ∧ A a H := by
  match vs, h with
  | [a], h => exact ⟨a, rfl, h.1⟩
theorem all2 {A B : VP} {vs : List V} (h : All [A, B] vs H) : ∃ a b, vs = [a, b] ∧ A a H ∧ B b H := by
  match vs, h with
  | [a, b], h => exact ⟨a, b, rfl, h.1, h.2.1⟩
theorem all3 {A B C : VP} {vs : List V} (h : All [A, B, C] vs H) : ∃ a b c, vs = [a, b, c] ∧ A a H ∧ B b H ∧ C c H := by
  match vs, h with
  | [a, b, c], h => exact ⟨a, b, c, rfl, h.1, h.2.1, h.2.2.1⟩
theorem et_g {b : Bool} (h : Gets te σ H (Is (.bl b))) : EvT (tTest te) σ H b := et_test h.ev
theorem etB_g {b : Bool} (h : Gets te σ H (Is (.bl b))) : EvT (tB te) σ H b := et_B h.ev
/-! statements -/
variable {D : Ends} {tu tw tz : TS}
theorem w_asg {i : Nat} (h : Gets te σ H P) (k : ∀ v H1, Ex H H1 → P v H1 → D.nx (σ.set i (some v)) H1) : tAsg te (gName i) D σ H := h H (Ex.refl H) _ k
theorem w_ret (h : Gets te σ H P) (k : ∀ v H1, Ex H H1 → P v H1 → D.rt v H1) : tRet te D σ H := h H (Ex.refl H) _ k
theorem w_drop (h : Gets te σ H P) (k : ∀ v H1, Ex H H1 → P v H1 → D.nx σ H1) : tDrop te D σ H := h H (Ex.refl H) _ k
end
/-! ### errors as values -/
def XV (C : Addr) (fs : List (Str × V)) : VP := fun v H => ∃ a dx, v = .ref a ∧ H a = some (exo a C (some dx)) ∧ H dx = some (exd dx fs)
theorem mono_xv (C : Addr) (fs : List (Str × V)) : Mono (XV C fs) := fun _ _ _ e ⟨a, dx, h1, h2, h3⟩ => ⟨a, dx, h1, e _ _ h2, e _ _ h3⟩
/-- __init__ that stores one field -/
def spI1 (C : Addr) (f : Str) : Sp := fun vs H Q _ => ∃ (a : Addr) (v : V), vs = [.ref a, v] ∧ H a = some (exo a C none) ∧ ∀ dx, H dx = none → dx ≠ a → Q .non (upd (upd H dx (exd dx [(f, v)])) a (exo a C (some dx)))
def spI2 (C : Addr) (f f2 : Str) : Sp := fun vs H Q _ => ∃ (a : Addr) (v w : V), vs = [.ref a, v, w] ∧ H a = some (exo a C none) ∧ ∀ dx, H dx = none → dx ≠ a → Q .non (upd (upd H dx (exd dx [(f2, w), (f, v)])) a (exo a C (some dx)))
def spI0 (C : Addr) : Sp := fun vs H Q _ => ∃ (a : Addr), vs = [.ref a] ∧ H a = some (exo a C none) ∧ Q .non H
/-- an error without a dict -/
def X0 (C : Addr) : VP := fun v H => ∃ a, v = .ref a ∧ H a = some (exo a C none)
theorem mono_x0 (C : Addr) : Mono (X0 C) := fun _ _ _ e ⟨a, h1, h2⟩ => ⟨a, h1, e _ _ h2⟩
theorem ex_made {H H2 : Hp} {a dx C : Addr} {fs : List (Str × V)} (ha : H a = none) (hd : upd H a (exo a C none) dx = none) (hne : dx ≠ a) :
    Ex H (upd (upd (upd H a (exo a C none)) dx (exd dx fs)) a (exo a C (some dx))) := fun b o e => by
  have nb : b ≠ a := ne_of_none e ha
  have nd : b ≠ dx := ne_of_none e (by rw [upd_ne hne] at hd; exact hd)
  rw [upd_ne nb, upd_ne nd, upd_ne nb]
  exact e
section
variable {σ : L2.St} {H : Hp} {C : Addr} {E : XK} {t tk : TA} {f f2 : Str} {v w : V}
/-- C(e): by place -/
theorem g_x1 {gV : List V → List V → List V} (ht : GetsA t σ H (All [Is v])) (hg : ∀ a : Addr, gV [.ref a, v] [] = [.ref a, v]) : Gets (tXmk C 1 0 (spI1 C f) gV E t tNil) σ H (XV C [(f, v)]) := fun H1 e Q q =>
  ht H1 e _ fun vs H2 e2 ps => by
    obtain ⟨z, rfl, pz⟩ := all1 ps
    have pz' : z = v := pz
    subst pz'
    refine ⟨rfl, rfl, by decide, fun a ha => ?_⟩
    rw [hg a]
    exact ⟨a, z, rfl, upd_same, fun dx hd hne => ⟨rfl, q _ _ (e2.trans (ex_made (H2 := H2) ha hd hne)) ⟨a, dx, rfl, upd_same, by rw [upd_ne hne, upd_same]⟩⟩⟩
/-- C(k = e): by name -/
theorem g_x1k {gV : List V → List V → List V} (ht : GetsA tk σ H (All [Is v])) (hg : ∀ a : Addr, gV [.ref a] [v] = [.ref a, v]) : Gets (tXmk C 0 1 (spI1 C f) gV E tNil tk) σ H (XV C [(f, v)]) := fun H1 e Q q =>
  ht H1 e _ fun vs H2 e2 ps => by
    obtain ⟨z, rfl, pz⟩ := all1 ps
    have pz' : z = v := pz
    subst pz'
    refine ⟨rfl, rfl, by decide, fun a ha => ?_⟩
    rw [hg a]
    exact ⟨a, z, rfl, upd_same, fun dx hd hne => ⟨rfl, q _ _ (e2.trans (ex_made (H2 := H2) ha hd hne)) ⟨a, dx, rfl, upd_same, by rw [upd_ne hne, upd_same]⟩⟩⟩
theorem g_x2 {gV : List V → List V → List V} (ht : GetsA t σ H (All [Is v, Is w])) (hg : ∀ a : Addr, gV [.ref a, v, w] [] = [.ref a, v, w]) : Gets (tXmk C 2 0 (spI2 C f f2) gV E t tNil) σ H (XV C [(f2, w), (f, v)]) := fun H1 e Q q =>
  ht H1 e _ fun vs H2 e2 ps => by
    obtain ⟨z, z2, rfl, pz, pw⟩ := all2 ps
    have pz' : z = v := pz
    have pw' : z2 = w := pw
    subst pz' pw'
    refine ⟨rfl, rfl, by decide, fun a ha => ?_⟩
    rw [hg a]
    exact ⟨a, z, z2, rfl, upd_same, fun dx hd hne => ⟨rfl, q _ _ (e2.trans (ex_made (H2 := H2) ha hd hne)) ⟨a, dx, rfl, upd_same, by rw [upd_ne hne, upd_same]⟩⟩⟩
theorem g_x2k {gV : List V → List V → List V} {p q0 : V} (ht : GetsA tk σ H (All [Is p, Is q0])) (hg : ∀ a : Addr, gV [.ref a] [p, q0] = [.ref a, v, w]) : Gets (tXmk C 0 2 (spI2 C f f2) gV E tNil tk) σ H (XV C [(f2, w), (f, v)]) := fun H1 e Q q =>
  ht H1 e _ fun vs H2 e2 ps => by
    obtain ⟨z, z2, rfl, pz, pw⟩ := all2 ps
    have pz' : z = p := pz
    have pw' : z2 = q0 := pw
    subst pz' pw'
    refine ⟨rfl, rfl, by decide, fun a ha => ?_⟩
    rw [hg a]
    exact ⟨a, v, w, rfl, upd_same, fun dx hd hne => ⟨rfl, q _ _ (e2.trans (ex_made (H2 := H2) ha hd hne)) ⟨a, dx, rfl, upd_same, by rw [upd_ne hne, upd_same]⟩⟩⟩
theorem g_x0 {gV : List V → List V → List V} (hg : ∀ a : Addr, gV [.ref a] [] = [.ref a]) : Gets (tXmk C 0 0 (spI0 C) gV E tNil tNil) σ H (X0 C) := fun H1 e Q q => by
  refine ⟨rfl, rfl, by decide, fun a ha => ?_⟩
  rw [hg a]
  exact ⟨a, rfl, upd_same, rfl, q _ _ (Ex.new ha) ⟨a, rfl, upd_same⟩⟩
/-- e.f -/
theorem g_xfl {K : PySem.W.Frag} {ini : String} {to : TE} {fs : List (Str × V)} (ho : Gets to σ H (XV C fs)) (T : XCls K C ini) (hno : PySem.W.findIn K (.ref C) f = some none) (hl : fs.lookup f = some v) : Gets (tXfl K f to) σ H (Is v) := fun H1 e Q q =>
  ho H1 e _ fun x H2 e2 ⟨a, dx, h1, h2, h3⟩ => ⟨a, C, ini, dx, fs, v, h1, T, hno, h2, h3, hl, q v H2 e2 rfl⟩
/-- an error of the class C, with a dict or without -/
def XA (C : Addr) : VP := fun v H => ∃ (a : Addr) (d : Option Addr), v = .ref a ∧ H a = some (exo a C d) ∧ ∀ dx, d = some dx → ∃ fs, H dx = some (exd dx fs)
theorem mono_xa (C : Addr) : Mono (XA C) := fun _ _ _ e ⟨a, d, h1, h2, h3⟩ => ⟨a, d, h1, e _ _ h2, fun dx q => let ⟨fs, r⟩ := h3 dx q; ⟨fs, e _ _ r⟩⟩
theorem xa_of {fs : List (Str × V)} {x : V} (h : XV C fs x H) : XA C x H := by
  obtain ⟨a, dx, h1, h2, h3⟩ := h
  refine ⟨a, some dx, h1, h2, fun d q => ?_⟩
  cases q
  exact ⟨fs, h3⟩
theorem xa_of0 {x : V} (h : X0 C x H) : XA C x H := by
  obtain ⟨a, h1, h2⟩ := h
  exact ⟨a, none, h1, h2, fun d q => nomatch q⟩
/-- isinstance(e, c) -/
theorem g_xis {K : PySem.W.Frag} {ini : String} {te : TE} {c : V} {u : Value} {b : Bool} (he : Gets te σ H (XA C)) (T : XCls K C ini) (hc : ClsV c u) (hk : PySem.W.kitOne K (.ref C) u = some b) : Gets (tCB (rXis K) (tCons te (tCons (tC c) tNil))) σ H (Is (.bl b)) := fun H1 e Q q =>
  he H1 e _ fun x H2 e2 ⟨a, d, h1, h2, h3⟩ => by
    subst h1
    exact ⟨a, C, ini, d, c, u, b, rfl, hc, T, h2, h3, hk, q _ H2 e2 rfl⟩
end
end MeE
end
section
set_option Elab.async false
set_option linter.all false
set_option maxRecDepth 100000
set_option maxHeartbeats 4000000
/-! data at any depth, items by place, equality, repr, loops, over the words of MeE -/
namespace MeE
open PySem L2 Evl MeH MeG
variable {K : PySem.W.Frag}
def DP (K : PySem.W.Frag) (d : PyData) : VP := fun v H => Dp K H v d
def DV (K : PySem.W.Frag) (d : PyData) : VP := fun v H => Dd K H v d
mutual
theorem Dp.up {H H' : Hp} (e : Ex H H') : ∀ {v : V} {d : PyData}, Dp K H v d → Dp K H' v d
  | _, _, .non => .non
  | _, _, .bl b => .bl b
  | _, _, .int i => .int i
  | _, _, .str x => .str x
  | _, _, .lst h k => .lst (ex_l e h) (DpAll.up e k)
  | _, _, .tup h k => .tup (ex_t e h) (DpAll.up e k)
theorem DpAll.up {H H' : Hp} (e : Ex H H') : ∀ {vs : List V} {ds : List PyData}, DpAll K H vs ds → DpAll K H' vs ds
  | _, _, .nil => .nil
  | _, _, .cons h k => .cons (Dp.up e h) (DpAll.up e k)
end
mutual
theorem Dd.up {H H' : Hp} (e : Ex H H') : ∀ {v : V} {d : PyData}, Dd K H v d → Dd K H' v d
  | _, _, .non => .non
  | _, _, .bl b => .bl b
  | _, _, .int i => .int i
  | _, _, .str x => .str x
  | _, _, .lst h k => .lst (ex_l e h) (DdAll.up e k)
  | _, _, .tup h k => .tup (ex_t e h) (DdAll.up e k)
  | _, _, .dic h k => .dic (ex_rd e h) (DdKv.up e k)
theorem DdAll.up {H H' : Hp} (e : Ex H H') : ∀ {vs : List V} {ds : List PyData}, DdAll K H vs ds → DdAll K H' vs ds
  | _, _, .nil => .nil
  | _, _, .cons h k => .cons (Dd.up e h) (DdAll.up e k)
theorem DdKv.up {H H' : Hp} (e : Ex H H') : ∀ {vs : List (Key × V)} {ds : List (PyData × PyData)}, DdKv K H vs ds → DdKv K H' vs ds
  | _, _, .nil => .nil
  | _, _, .cons h k => .cons (Dd.up e h) (DdKv.up e k)
end
theorem mono_dp (d : PyData) : Mono (DP K d) := fun _ _ _ e h => Dp.up e h
theorem mono_dv (d : PyData) : Mono (DV K d) := fun _ _ _ e h => Dd.up e h
theorem mono_dps (ds : List PyData) : MonoL (ds.map (DP K)) := fun R hR => by
  obtain ⟨d, _, rfl⟩ := List.mem_map.mp hR
  exact mono_dp d
theorem mono_dvs (ds : List PyData) : MonoL (ds.map (DV K)) := fun R hR => by
  obtain ⟨d, _, rfl⟩ := List.mem_map.mp hR
  exact mono_dv d
theorem dp_all {H : Hp} : ∀ {ds : List PyData} {xs : List V}, All (ds.map (DP K)) xs H → DpAll K H xs ds
  | [], [], _ => .nil
  | [], _ :: _, h => h.elim
  | _ :: _, [], h => h.elim
  | _ :: _, _ :: _, h => .cons h.1 (dp_all h.2)
theorem dv_all {H : Hp} : ∀ {ds : List PyData} {xs : List V}, All (ds.map (DV K)) xs H → DdAll K H xs ds
  | [], [], _ => .nil
  | [], _ :: _, h => h.elim
  | _ :: _, [], h => h.elim
  | _ :: _, _ :: _, h => .cons h.1 (dv_all h.2)
theorem dp_lst {H : Hp} {ds : List PyData} {v : V} (h : Lst (ds.map (DP K)) v H) : DP K (.list ds) v H := by
  obtain ⟨p, xs, rfl, h2, h3⟩ := h
  exact .lst (sq_of h2) (dp_all h3)
theorem dv_lst {H : Hp} {ds : List PyData} {v : V} (h : Lst (ds.map (DV K)) v H) : DV K (.list ds) v H := by
  obtain ⟨p, xs, rfl, h2, h3⟩ := h
  exact .lst (sq_of h2) (dv_all h3)
theorem dv_tup {H : Hp} {ds : List PyData} {v : V} (h : Tup (ds.map (DV K)) v H) : DV K (.tuple ds) v H := by
  obtain ⟨p, xs, rfl, h2, h3⟩ := h
  exact .tup (st_of h2) (dv_all h3)
theorem dp_ints {H : Hp} : ∀ ns : List Int, DpAll K H (ns.map V.int) (ns.map PyData.int)
  | [] => .nil
  | n :: ns => .cons (.int n) (dp_ints ns)
theorem dp_bls {H : Hp} : ∀ bs : List Bool, DpAll K H (bs.map V.bl) (bs.map PyData.bool)
  | [] => .nil
  | b :: bs => .cons (.bl b) (dp_bls bs)
section
variable {σ : L2.St} {H : Hp} {ta tb te : TE} {P R : VP}
theorem gd_nil : GetsA tNil σ H (All (([] : List PyData).map (DP K))) := ga_nil
theorem gd_cons {d : PyData} {ds : List PyData} {tr : TA} (h : Gets te σ H (DP K d)) (hr : GetsA tr σ H (All (ds.map (DP K)))) : GetsA (tCons te tr) σ H (All ((d :: ds).map (DP K))) := ga_cons h (mono_dp d) hr
theorem gd_lst {ds : List PyData} {t : TA} (h : GetsA t σ H (All (ds.map (DP K)))) (hl : ds.length ≤ 1000) : Gets (tLst t) σ H (DP K (.list ds)) :=
  (g_lst h (mono_dps ds) (by rw [List.length_map]; exact hl)).imp fun v H1 _ p => dp_lst p
theorem gd_int {i : Int} : Gets (tC (.int i)) σ H (DP K (.int i)) := fun H1 e Q q => q _ H1 (Ex.refl H1) (Dp.int i)
theorem gd_bl {b : Bool} : Gets (tC (.bl b)) σ H (DP K (.bool b)) := fun H1 e Q q => q _ H1 (Ex.refl H1) (Dp.bl b)
theorem gd_of {v : V} {d : PyData} (h : Gets te σ H (Is v)) (k : ∀ H1, Ex H H1 → Dp K H1 v d) : Gets te σ H (DP K d) := h.imp fun w H1 e p => by
  have p' : w = v := p
  rw [p']
  exact k H1 e
/-- xs[j] -/
theorem g_ix {Ps : List VP} {j : Nat} (ha : Gets ta σ H (Lst Ps)) (m : MonoL Ps) (hb : Gets tb σ H (Is (.int (j : Nat)))) (hj : Ps[j]? = some P) : Gets (tOp (rIxL K) ta tb) σ H P :=
  g_op ha hb (mono_lst m) fun x y H1 e px py Q q => by
    obtain ⟨p, xs, rfl, hp, ax⟩ := px
    have py' : y = .int (j : Nat) := py
    subst py'
    have hlt : j < xs.length := by
      rw [ax.len]
      exact (List.getElem?_eq_some_iff.mp hj).1
    obtain ⟨P', h1, h2⟩ := ax.get (List.getElem?_eq_getElem hlt)
    rw [hj] at h1
    cases h1
    exact ⟨p, xs, (j : Nat), xs[j], rfl, rfl, sq_of hp, atI_nat (List.getElem?_eq_getElem hlt), q _ H1 (Ex.refl H1) h2⟩
theorem g_neD {d e : PyData} (ha : Gets ta σ H (DP K d)) (hb : Gets tb σ H (DP K e)) (hd : SeqAt.shaped d = true) (he : SeqAt.shaped e = true) : Gets (tOp (rNeD K) ta tb) σ H (Is (.bl (!PyData.eqv d e))) :=
  g_op ha hb (mono_dp d) fun x y H1 _ px py Q q => ⟨d, e, px, py, hd, he, q _ H1 (Ex.refl H1) rfl⟩
theorem g_eqD {d e : PyData} (ha : Gets ta σ H (DP K d)) (hb : Gets tb σ H (DP K e)) (hd : SeqAt.shaped d = true) (he : SeqAt.shaped e = true) : Gets (tOp (rEqD K) ta tb) σ H (Is (.bl (PyData.eqv d e))) :=
  g_op ha hb (mono_dp d) fun x y H1 _ px py Q q => ⟨d, e, px, py, hd, he, q _ H1 (Ex.refl H1) rfl⟩
theorem eqv_shaped {d : PyData} (h : SeqAt.shaped d = true) : PyData.eqv d d = true := SeqAt.eqv_refl d (SeqAt.canLay_of_shaped h)
theorem g_ne {x y : V} (ha : Gets ta σ H (Is x)) (hb : Gets tb σ H (Is y)) (hs : scal x y = true) : Gets (tOp rNe ta tb) σ H (Is (.bl (!decide (x = y)))) := Ev.gets (ev_op ha.ev hb.ev (rv_ne hs))
/-- repr(e) -/
theorem g_repr {d : PyData} (h : Gets te σ H (DV K d)) (hs : d.showable = true) (hd : d.depth ≤ 60) (hl : d.shown.length ≤ sizeLine) : Gets (tCB (rRepr K) (tCons te tNil)) σ H (Is (.str d.shown)) := fun H1 e Q q =>
  h H1 e _ fun v H2 e2 p => ⟨v, d, rfl, p, hs, hd, hl, q _ H2 e2 rfl⟩
theorem g_rep {Ps : List VP} {k : Nat} (ha : Gets ta σ H (Lst Ps)) (m : MonoL Ps) (hb : Gets tb σ H (Is (.int (k : Nat)))) (hk : k ≤ 100) (hl : Ps.length ≤ 100) : Gets (tOp rRep ta tb) σ H (Lst (List.replicate k Ps).flatten) :=
  g_op ha hb (mono_lst m) fun x y H1 e px py Q q => by
    obtain ⟨p, xs, rfl, hp, ax⟩ := px
    have py' : y = .int (k : Nat) := py
    subst py'
    have al : ∀ n : Nat, All (List.replicate n Ps).flatten (List.replicate n xs).flatten H1 := fun n => by
      induction n with
      | zero => exact trivial
      | succ n ih =>
        rw [List.replicate_succ, List.replicate_succ, List.flatten_cons, List.flatten_cons]
        exact ax.app ih
    have ml : ∀ n : Nat, MonoL (List.replicate n Ps).flatten := fun n => by
      induction n with
      | zero => exact monoL_nil
      | succ n ih =>
        rw [List.replicate_succ, List.flatten_cons]
        exact monoL_app m ih
    have hz : xs.length * k ≤ 100 * 100 := Nat.mul_le_mul (by rw [ax.len]; exact hl) hk
    have hsz : sizeLine = 16777216 := sizeLine_eq
    exact ⟨p, (k : Nat), xs, rfl, rfl, hp, by omega, by omega, by rw [Int.toNat_natCast]; omega, fun c hc => q _ _ (Ex.new hc) ⟨c, _, rfl, upd_same, by rw [Int.toNat_natCast]; exact (al k).up (Ex.new hc) (ml k)⟩⟩
/-! loops over a new list, over its places -/
variable {D : Ends} {tu : TS} {g : TG} {tl : TE}
theorem w_forL {Ps : List VP} (h : Gets tl σ H (Lst Ps)) (m : MonoL Ps) (S : Nat → L2.St → Prop) (h0 : S 0 σ)
    (hs : ∀ i x P σ' H', Ex H H' → Ps[i]? = some P → P x H' → S i σ' → ∀ N : L2.St → Hp → Prop, (∀ σ3 H3, Ex H' H3 → S (i + 1) σ3 → N σ3 H3) → g x σ' H' fun σ2 H2 => tu { D with nx := N, ct := N, bk := D.nx } σ2 H2)
    (hd : ∀ σ' H', Ex H H' → S Ps.length σ' → D.nx σ' H') : tFor (iList K tl) g tu D σ H :=
  h H (Ex.refl H) _ fun v H1 e1 ⟨p, xs, hv, hp, ax⟩ => by
    subst hv
    refine ⟨p, rfl, ⟨xs, sq_of hp⟩, for_list (xs := xs) (fun i σ' H' => Ex H1 H' ∧ S i σ') ⟨Ex.refl H1, h0⟩ (fun i σ' H' _ q => sq_of (q.1 _ _ hp)) (fun i x σ' H' hx q => ?_) fun σ' H' q => hd σ' H' (e1.trans q.1) (by rw [← ax.len]; exact q.2)⟩
    obtain ⟨P, h1, h2⟩ := (ax.up q.1 m).get hx
    exact hs i x P σ' H' (e1.trans q.1) h1 h2 q.2 _ fun σ3 H3 e3 s3 => ⟨q.1.trans e3, s3⟩
/-- over a list that stands -/
theorem w_forV {a : Addr} {xs : List V} (h : Gets tl σ H (Is (.ref a))) (hx : SqL K H a xs) (S : Nat → L2.St → Prop) (h0 : S 0 σ)
    (hs : ∀ i x σ' H', Ex H H' → xs[i]? = some x → S i σ' → ∀ N : L2.St → Hp → Prop, (∀ σ3 H3, Ex H' H3 → S (i + 1) σ3 → N σ3 H3) → g x σ' H' fun σ2 H2 => tu { D with nx := N, ct := N, bk := D.nx } σ2 H2)
    (hd : ∀ σ' H', Ex H H' → S xs.length σ' → D.nx σ' H') : tFor (iList K tl) g tu D σ H :=
  h H (Ex.refl H) _ fun v H1 e1 hv => by
    have hv' : v = .ref a := hv
    subst hv'
    refine ⟨a, rfl, ⟨xs, ex_l e1 hx⟩, for_list (xs := xs) (fun i σ' H' => Ex H1 H' ∧ S i σ') ⟨Ex.refl H1, h0⟩ (fun i σ' H' _ q => ex_l (e1.trans q.1) hx) (fun i x σ' H' hx' q => ?_) fun σ' H' q => hd σ' H' (e1.trans q.1) q.2⟩
    exact hs i x σ' H' (e1.trans q.1) hx' q.2 _ fun σ3 H3 e3 s3 => ⟨q.1.trans e3, s3⟩
/-- for i, x in enumerate(l), l a list that stands -/
theorem w_forE {t : TA} {a : Addr} {xs : List V} (h : GetsA t σ H (All [Is (.ref a)])) (hx : SqL K H a xs) (S : Nat → L2.St → Prop) (h0 : S 0 σ)
    (hs : ∀ i x T σ' H', Ex H H' → xs[i]? = some x → H' T = some (.tup [.int (i : Nat), x]) → S i σ' → ∀ N : L2.St → Hp → Prop, (∀ σ3 H3, Ex H' H3 → S (i + 1) σ3 → N σ3 H3) → g (.ref T) σ' H' fun σ2 H2 => tu { D with nx := N, ct := N, bk := D.nx } σ2 H2)
    (hd : ∀ σ' H', Ex H H' → S xs.length σ' → D.nx σ' H') : tFor (iEnum K t) g tu D σ H :=
  h H (Ex.refl H) _ fun vs H1 e1 ps => by
    obtain ⟨v, rfl, hv⟩ := all1 ps
    have hv' : v = .ref a := hv
    subst hv'
    refine ⟨a, xs, rfl, ex_l e1 hx, for_it walk_enum (fun i σ' H' => Ex H1 H' ∧ S i σ') ⟨Ex.refl H1, h0⟩ (fun i σ' H' _ q => ex_l (e1.trans q.1) hx) (fun i x σ' H' H'' hi q y => ?_) fun σ' H' q => hd σ' H' (e1.trans q.1) q.2⟩
    obtain ⟨T, i', x', rfl, hT, rfl, ei, ex⟩ := y
    have ei' : i' = .int (i : Nat) := (Option.some.inj ei).symm
    subst ei'
    exact hs i x' T σ' _ ((e1.trans q.1).trans (Ex.new hT)) ex upd_same q.2 _ fun σ3 H3 e3 s3 => ⟨(q.1.trans (Ex.new hT)).trans e3, s3⟩
/-- for i in range(n) -/
theorem w_forR {ta : TA} {j : Nat} {n : Int} (h : EvA ta σ H [.int n]) (hn : 0 ≤ n ∧ n ≤ 100000) (S : Nat → L2.St → Prop) (h0 : S 0 σ)
    (hs : ∀ (i : Nat) σ' H', Ex H H' → (i : Int) < n → S i σ' → ∀ N : L2.St → Hp → Prop, (∀ σ3 H3, Ex H' H3 → S (i + 1) σ3 → N σ3 H3) → tu { D with nx := N, ct := N, bk := D.nx } (σ'.set j (some (.int (i : Int)))) H')
    (hd : ∀ σ' H', Ex H H' → S n.toNat σ' → D.nx σ' H') : tFor (iRng1 ta) (gName j) tu D σ H :=
  s_forR1 h hn (fun i σ' H' => Ex H H' ∧ S i σ') (fun H1 e => ⟨e, h0⟩) (fun i σ' H' hi q => hs i σ' H' q.1 hi q.2 _ fun σ3 H3 e3 s3 => ⟨q.1.trans e3, s3⟩) fun σ' H' q => hd σ' H' q.1 q.2
end
end MeE
end
section
set_option Elab.async false
set_option linter.all false
set_option maxRecDepth 100000
set_option maxHeartbeats 4000000
/-! the head's facts, the tables of the defs that make lambdas left out -/
namespace MeK
open PySem PySem.Spec PyProof.Rows L2 He MeH MeG
structure SaysY (fb : List Fb) (fn : List DefD) (tf : List Defn) (h : Heap) (K : PySem.W.Frag) : Prop where
  x : SaysX fb fn K
  hd : ∀ p ∈ tf, PySem.W.codeHdIn K (cT K p).1 (cT K p).2 = true
  out : ∀ p ∈ tf, K.lookup (cT K p).2 = none
  empty : ∀ p ∈ tf, h.get? (cT K p).2 = some { cls := .none, data := .fields #[] }
  nd : (tf.map fun p => (cT K p).2).Nodup
abbrev AlY : Type := AlD × Bool
def frY (n : Nat) (g : Addr → Option Obj) : PySem.W.Frag := frT g (asX g n)
def obsY (n : Nat) (fb : List Fb) (fn : List DefD) (tf : List Defn) (g : Addr → Option Obj) : AlY := (obsX fb fn (frY n g), tabsB g tf (frY n g) && decide (tf.map fun p => (cT (frY n g) p).2).Nodup)
def hookY (n : Nat) (fb : List Fb) (fn : List DefD) (tf : List Defn) : PySem.W.Hook where
  α := AlY
  obs := fun s => obsY n fb fn tf s.heap.get?
  val := fun _ => (valD fn, true)
  says := fun _ h => ∃ K : PySem.W.Frag, K.In h ∧ SaysY fb fn tf h K
  of := fun _ s e => ⟨_, frT_in, by
    have e1 : obsX fb fn (frY n s.heap.get?) = valD fn := congrArg (fun z : AlY => z.1) e
    have e3 : (tabsB s.heap.get? tf (frY n s.heap.get?) && decide (tf.map fun p => (cT (frY n s.heap.get?) p).2).Nodup) = true := congrArg (fun z : AlY => z.2) e
    obtain ⟨e2, e4⟩ := ba e3
    have key : ∀ p ∈ tf, PySem.W.codeHdIn (frY n s.heap.get?) (cT (frY n s.heap.get?) p).1 (cT (frY n s.heap.get?) p).2 = true ∧ ∃ o, s.heap.get? (cT (frY n s.heap.get?) p).2 = some o ∧ emptyTab o = true := fun p hp => by
      obtain ⟨h3, h4⟩ := ba (List.all_eq_true.mp e2 p hp)
      refine ⟨h3, ?_⟩
      cases q : s.heap.get? (cT (frY n s.heap.get?) p).2 with
      | none =>
        rw [q] at h4
        cases h4
      | some o =>
        rw [q] at h4
        exact ⟨o, rfl, h4⟩
    refine ⟨e1, fun p hp => (key p hp).1, fun p hp => ?_, fun p hp => ?_, of_decide_eq_true e4⟩
    · obtain ⟨_, o, q, z⟩ := key p hp
      exact frT_none q z
    · obtain ⟨_, o, q, z⟩ := key p hp
      rw [emptyTab_eq z] at q
      exact q⟩
  keeps := fun _ _ _ ⟨K, hK, c⟩ k => ⟨K, PySem.W.Frag.In.keeps hK k, ⟨c.x, c.hd, c.out, fun p hp => k _ _ (c.empty p hp), c.nd⟩⟩
theorem obsY_eq {n : Nat} {fb : List Fb} {fn : List DefD} {tf : List Defn} {g : Addr → Option Obj} {s : Shared} (h : ∀ a, g a = s.heap.get? a) : obsY n fb fn tf g = (hookY n fb fn tf).obs s := by
  have e : g = s.heap.get? := funext h
  rw [e] <;> rfl
theorem refsVE_of : ∀ cs : List Addr, PySem.HandSPX.refsVE (cs.map Value.ref ++ MeX.tVE) = true
  | [] => by decide +kernel
  | _ :: cs => refsVE_of cs
theorem oex_ok {K : PySem.W.Frag} {x : Str} (c : (Fb.xcls x .ve).ok K = true) : OexC K (ga K x) := by
  have T := xcls_ok c
  obtain ⟨c1, _⟩ := ba c
  obtain ⟨cs, nm, qn, N, bs, sn, sub, ab, col, dd, k0, k1, k2, k3, k5, ho⟩ := objB_ok c1
  exact ⟨⟨nm, qn, N, bs, _, sn, sub, ab, col, dd, k0, k1, k2, k3, k5, ho, refsVE_of cs⟩, T.sa, T.su, by
    show Option.map (fun x => x.cls) (K.lookup (ga K x)) = _
    rw [ho]
    rfl, T.kC⟩
theorem xf_ok {K : PySem.W.Frag} {C : Addr} {ini : String} (T : XCls K C ini) : XfC K C := ⟨T.ga, T.gt, T.su, T.hd⟩
end MeK
end
section
set_option Elab.async false
set_option linter.all false
set_option maxRecDepth 100000
set_option maxHeartbeats 4000000
/-! lambdas as values that the heap knows; a def read at the place of its call; the end with tables and guards -/
namespace MeL
open PySem PySem.Spec PyProof.Rows L2 LamX MeG
/-- at f: a lambda -/
def LamO (f c' : Addr) (q : Str) (params : Arguments) (body : Expr) (scope : Scope) (cl : List (Str × Addr)) : HO :=
  .ext fun h => ∃ pm ctv : Value, h.get? f = some (PySem.W.kla_obj "<lambda>" q params body scope cl pm c' ctv)
theorem lamO_ok {P : Program} {w : World} {H : Hp} {h : Heap} {f c' : Addr} {q : Str} {params : Arguments} {body : Expr} {scope : Scope} {cl : List (Str × Addr)} {pm ctv : Value}
    (e : h.get? f = some (PySem.W.kla_obj "<lambda>" q params body scope cl pm c' ctv)) : ObjOk P w H h f (LamO f c' q params body scope cl) :=
  ⟨⟨pm, ctv, e⟩, ⟨_, e⟩, fun h1 h2 ⟨pm, ctv, z⟩ k => ⟨pm, ctv, k _ z⟩⟩
theorem lamO_tbl {f c' : Addr} {q : Str} {params : Arguments} {body : Expr} {scope : Scope} {cl : List (Str × Addr)} (ps : Array Value) : LamO f c' q params body scope cl ≠ .tbl ps := fun z => by
  unfold LamO at z
  cases z
/-- lambda: body -/
def tLamV (T : List (Addr × Str)) (q : Str) (params : Arguments) (body : Expr) (scope : Scope) (cl : List (Str × Addr)) : TE := fun _ H Q => Tabs T H ∧
  ∀ (f c' : Addr) (H1 : Hp), H f = none → ExtN H H1 → Tabs T H1 → H1 f = some (LamO f c' q params body scope cl) → H1 c' = some (CodeO c' q) → Q (.ref f) H1
/-- a row is written behind a table: its code object at c' is told from now on -/
abbrev rowOf (pos : Pos) (c' : Addr) : Array Value := #[rawInt pos.line, rawInt pos.col, .ref c']
theorem row_in {q : Str} {pos : Pos} {c' P : Addr} {ps : Array Value} {H H1 : Hp} (ok : TriplesOk ps.toList) (old : ∀ (p : Pos) (cv : Value), codeAmong p ps.toList = some cv → ∃ c, cv = .ref c ∧ H c = some (CodeO c q)) (e : ExtN H H1)
    (hP : H1 P = some (.tbl (ps ++ rowOf pos c'))) (hc : H1 c' = some (CodeO c' q)) : TabS H1 P q := by
  have list : (ps ++ rowOf pos c').toList = ps.toList ++ [rawInt pos.line, rawInt pos.col, .ref c'] := Array.toList_append
  refine ⟨_, hP, list ▸ PySem.TriplesOk_snoc _ _ _ _ ok, fun p cv found => ?_⟩
  rcases among_app ps.toList ok (list ▸ found) with was | new
  · obtain ⟨c, h1, h2⟩ := old p cv was
    exact ⟨c, h1, e _ _ h2 codeO_ne⟩
  · exact ⟨c', new, hc⟩
theorem tabS_stays {H H1 : Hp} {P : Addr} {q : Str} (t : TabS H P q) (e : ExtN H H1) (same : H1 P = H P) : TabS H1 P q := by
  obtain ⟨ps, h1, h2, h3⟩ := t
  refine ⟨ps, same.trans h1, h2, fun p cv found => ?_⟩
  obtain ⟨c, h4, h5⟩ := h3 p cv found
  exact ⟨c, h4, e _ _ h5 codeO_ne⟩
section
variable {X : Cx} {pins : List (Addr × Obj)} {σ : L2.St} {H : Hp} {s : Shared}
/-- the function's object is laid upon a state in which its code object stands -/
theorem lam_laid {T : List (Addr × Str)} {params : Arguments} {body : Expr} {scope : Scope} {cl : List (Str × Addr)} {q : Str} {H1 : Hp} {h1 : Heap} {tk : Nat} {c' : Addr} {pm ctv : Value} {Q : VK} (I : Inv X pins σ H1 { s with heap := h1, toks := tk }) (e : ExtN H H1) (tabs : Tabs T H1) (hc : H1 c' = some (CodeO c' q))
    (new : H h1.objs.size = none) (want : ∀ (f c' : Addr) (H1 : Hp), H f = none → ExtN H H1 → Tabs T H1 → H1 f = some (LamO f c' q params body scope cl) → H1 c' = some (CodeO c' q) → Q (.ref f) H1) :
    EP X pins σ Q (.ref h1.objs.size) { s with heap := h1.push (PySem.W.kla_obj "<lambda>" q params body scope cl pm c' ctv), toks := tk } := by
  have free1 : H1 h1.objs.size = none := I.hok.fresh (Nat.le_refl _)
  have more : ∀ b o, H1 b = some o → upd H1 h1.objs.size (LamO h1.objs.size c' q params body scope cl) b = some o := fun b o h => (upd_ne (ne_of_none h free1)).trans h
  have I2 := I.laid (t' := tk) (a := h1.objs.size) (o := LamO h1.objs.size c' q params body scope cl) (h' := h1.push (PySem.W.kla_obj "<lambda>" q params body scope cl pm c' ctv)) (fun _ _ h => Heap.get?_push_of_some _ h) (Nat.le_refl _) (lamO_ok (Heap.get?_push_size _ rfl))
  exact ⟨.ref h1.objs.size, _, I2, rfl, want _ c' _ new (e.trans (ExtN.of more)) (tabs.ext more) upd_same (more _ _ hc)⟩
theorem pe_lamF {T : List (Addr × Str)} {c P : Addr} {params : Arguments} {body : Expr} {scope : Scope} {pos : Pos} (TB : TabB X.base X.mg c P) (hcode : X.env.code = .ref c)
    (hm : (P, X.env.qual ++ "<lambda>") ∈ T) (hu : ∀ p ∈ T, p.1 = P → p.2 = X.env.qual ++ "<lambda>") (hdef : defaultsOf params X.env = ([], [])) (fr : X.Ok → ∀ y ∈ scope.names, y.2 = .free → ∃ c, X.env.cells.lookup y.1 = some c) :
    PE X (.Lambda params body scope pos) (tLamV T (X.env.qual ++ "<lambda>") params body scope (cloFrom X.env.cells scope.names [])) where
  run := fun pins s σ H Q I ⟨tabs, want⟩ => by
    obtain ⟨ps, inP, ok, old⟩ := tabs _ hm
    have obP := I.hok P _ inP
    have ns := I.mod.glob.keeps I.bk
    apply PySem.W.kla_eval hdef
    cases found : codeAmong pos ps.toList with
    | some cv =>
      obtain ⟨c', rfl, inC⟩ := old pos cv found
      exact PySem.W.kla_makeFunctionHit (ps := ps) (closure_ok (fr I.ok)) I.ok.glob ns hcode (TB.code.keeps I.bk) obP ok found (TB.bm.keeps I.bk) fun ctv h1 tk kept grown => lam_laid (I.kept (t' := tk) kept) (ExtN.refl H) tabs inC (I.hok.fresh grown) want
    | none =>
      refine PySem.W.kla_makeFunction (ps := ps) (closure_ok (fr I.ok)) I.ok.glob ns hcode (TB.code.keeps I.bk) obP ok found TB.gP (TB.bm.keeps I.bk) fun cv ctv h1 tk kept above below isCode row => ?_
      obtain ⟨c', oc, fs, tq, same, ob, dat, nm⟩ := isCode
      cases same
      have newC : H cv = none := I.hok.fresh above
      have apart : P ≠ cv := ne_of_none inP newC
      have I1 := inv_table (t' := tk) (more := rowOf pos cv) I inP kept row above ⟨oc, fs, tq, ob, dat, nm⟩
      have e1 : ExtN H (upd (upd H P (.tbl (ps ++ rowOf pos cv))) cv (CodeO cv (X.env.qual ++ "<lambda>"))) := fun b o h no => by
        have n1 : b ≠ P := fun z => no ps (Option.some.inj (h.symm.trans (z ▸ inP)))
        exact (upd_ne (ne_of_none h newC)).trans ((upd_ne n1).trans h)
      refine lam_laid I1 e1 (fun p hp => ?_) upd_same (I.hok.fresh (Nat.le_trans above (Nat.le_of_lt below))) want
      by_cases hb : p.1 = P
      · rw [hu p hp hb, hb]
        exact row_in ok old e1 ((upd_ne apart).trans upd_same) upd_same
      · have at1 : H p.1 ≠ none := fun z => by
          obtain ⟨qs, h2, _⟩ := tabs p hp
          exact nomatch z.symm.trans h2
        exact tabS_stays (tabs p hp) e1 ((upd_ne (fun z : p.1 = cv => at1 (by rw [z]; exact newC))).trans (upd_ne hb))
theorem pe_lam {T : List (Addr × Str)} {c P : Addr} {params : Arguments} {body : Expr} {scope : Scope} {pos : Pos} (TB : TabB X.base X.mg c P) (hcode : X.env.code = .ref c)
    (hm : (P, X.env.qual ++ "<lambda>") ∈ T) (hu : ∀ p ∈ T, p.1 = P → p.2 = X.env.qual ++ "<lambda>") (hdef : defaultsOf params X.env = ([], [])) (L : LamS X.env.scope scope) :
    PE X (.Lambda params body scope pos) (tLamV T (X.env.qual ++ "<lambda>") params body scope (cloFrom X.env.cells scope.names [])) := pe_lamF TB hcode hm hu hdef L.has
/-- x(), in the def that got the lambda of X: that def entered at s -/
def tActK (i : Nat) (q : Str) (params : Arguments) (body : Expr) (scope : Scope) (cl : List (Str × Addr)) (σ : L2.St) (W : WX) (tl : XK → TE) : TE := fun σZ HZ Q =>
  ∃ f c' : Addr, σZ[i]? = some (some (.ref f)) ∧ HZ f = some (LamO f c' q params body scope cl) ∧ HZ c' = some (CodeO c' q) ∧ tl (fun cls d H' => W cls d σZ H') σ HZ Q
/-- a lambda of X runs, called from frames above: its body's reading is asked at X's slots -/
theorem lam_run {A : Around} {outer : List Env} {s1 : Shared} {HZ : Hp} {params : Arguments} {body : Expr} {scope : Scope} {k : Nat} {f c' : Addr} {E : XK} {te : TE} {Q : VK} (I : Inv X pins σ H s) (L : LamS X.env.scope scope)
    (hbind : ∀ (q : Str) (cl : List (Str × Addr)) (pm cv ctv : Value), bindArgs (PySem.W.kla_fn "<lambda>" q params body scope cl pm cv ctv) ⟨[], []⟩ = pure []) (room : Room (k + 1) A) (env : Env0 X.prog X.w X.K X.mg X.base A outer s1 HZ) (lim : s1.heap.NoLimit) (un : Un (frs X.stack) [] H HZ s.heap s1.heap)
    (inF : HZ f = some (LamO f c' (X.env.qual ++ "<lambda>") params body scope (cloFrom X.env.cells scope.names []))) (inC : HZ c' = some (CodeO c' (X.env.qual ++ "<lambda>"))) (hbody : Room k (A.deeper (lamEnv X scope s1.heap.objs.size f c')) → PE (lamCx X A outer s1 HZ E scope f c') body te) (want : te σ HZ Q) :
    codeAny (model X.prog X.w) A (.call (.ref f) ⟨[], []⟩) (CR (L2.CX X.prog X.w) outer X.prog X.w HZ s1 Q E) s1 := by
  obtain ⟨⟨pm, ctv, obF⟩, _⟩ := env.hok f _ inF
  obtain ⟨⟨oc, fs, tq, obC, dat, nm⟩, _⟩ := env.hok c' _ inC
  apply PySem.W.kla_callFunE room.depth obF rfl L.co L.gen rfl ⟨c', oc, fs, tq, rfl, obC, dat, nm⟩
  rw [hbind]
  refine wpAny_pure (wpAny_newFunctionEnv (fun y hy => (L.own y hy).2) (fun y hy => nomatch hy) (fun h1 ns but => ⟨lim.fresh _ but, ?_⟩) L.kind)
  have start := lam_start2 (A := A) (E := E) (f := f) (c' := c') (tk := s1.toks + ([] : List (Str × Value)).length) I L env room.hd un ns fun b o h => but.extBut b o (Nat.ne_of_lt (Heap.lt_size h)) (Heap.get?_push_of_some _ h)
  have go := (hbody (room.deeper _)).run [] _ _ HZ Q start want
  exact PySem.W.kla_codeExpr (wpAny_mono go (fun _ _ ⟨v, H2, J, rel, h⟩ => ⟨v, H2, J.os, J.bare, J.base, J.hok, rel, h⟩) fun _ _ h => h)
theorem pe_actK {CXg : CXT} {Eg : XK} {Ng : List Str} {qg : Str} {sg : Scope} {g : Addr} {cdg : Value} {params : Arguments} {body : Expr} {scope : Scope} {k i : Nat} {a : Str} {pn : List (Addr × Obj)} {xe : Value → Shared → Prop} {W : WX} {tl : XK → TE} {p1 p2 : Pos}
    (I : Inv X pins σ H s) (L : LamS X.env.scope scope)
    (hbind : ∀ (q : Str) (cl : List (Str × Addr)) (pm cv ctv : Value), bindArgs (PySem.W.kla_fn "<lambda>" q params body scope cl pm cv ctv) ⟨[], []⟩ = pure [])
    (tk : Takes ((cxOf CXg X.prog X.w X.K X.mg X.base Ng qg sg g cdg X.A X.stack s H Eg).tr pn xe) W) (hr : Room (k + 1) (X.A.deeper (envOfC qg sg s.heap.objs.size g cdg)))
    (hbody : ∀ (E : XK) (A : Around) (outer : List Env) (s : Shared) (H : Hp) (f c' : Addr), A.guards = X.A.guards → Room k (A.deeper (lamEnv X scope s.heap.objs.size f c')) → PE (lamCx X A outer s H E scope f c') body (tl E))
    (slot : Ng[i]? = some a) (seen : Vis sg a) (nodbg : (a == ("__debug__" : Str)) = false := by decide) (nodct : (a == ("__classdict__" : Str)) = false := by decide) :
    PE ((cxOf CXg X.prog X.w X.K X.mg X.base Ng qg sg g cdg X.A X.stack s H Eg).tr pn xe) (.Call (.Name a p1) [] [] p2) (tActK i (X.env.qual ++ "<lambda>") params body scope (cloFrom X.env.cells scope.names []) σ W tl) where
  run := fun pinsZ sZ σZ HZ Q IZ ⟨f, c', at_, inF, inC, want⟩ => by
    have name := (pe_var (X := (cxOf CXg X.prog X.w X.K X.mg X.base Ng qg sg g cdg X.A X.stack s H Eg).tr pn xe) (pos := p1) slot seen nodbg nodct).run pinsZ sZ σZ HZ (fun v H1 => v = .ref f ∧ H1 = HZ) IZ ⟨_, at_, rfl, rfl⟩
    refine wpAny_Call_Name_kw (thn name fun u s1 ⟨v, H1, I1, rel, ev, eH⟩ => ?_)
    subst ev eH
    have eu : u = Value.ref f := rel
    subst eu
    obtain ⟨⟨_, _, obF⟩, _⟩ := I1.hok f _ inF
    have go := lam_run (E := fun cls d H' => W cls d σZ H') I L hbind hr I1.env0 I1.nolimit I1.base inF inC (hbody _ (X.A.deeper (envOfC qg sg s.heap.objs.size g cdg)) _ s1 H1 f c' rfl) want
    refine PySem.W.callWith_F0 ⟨_, _, _, _, obF⟩ (wpAny_call (codeAny_mono go fun r s2 h => ?_))
    match r, h with
    | .ok (.ret _), h => exact I1.after h
    | .error e, h => exact tk e s2 (XE.of_call I1 (W := W) (fun _ _ _ h => h) h)
/-- x(e, ..), x's body read here: TT, what it makes of the values -/
def tIn (TT : L2.St → List V → Hp → VK → Prop) (n : Nat) (ta : TA) : TE := fun σ H Q => ta σ H fun vs H1 => vs.length = n ∧ TT σ vs H1 Q
theorem pe_callIn {TT : L2.St → List V → Hp → VK → Prop} {x : Str} {g : Addr} {k : Nat} {pg : Arguments} {bg : List Stmt} {sg : Scope} {fd : FuncData} {Ng ps : List Str} {e : Expr} {es : List Expr} {ta : TA} {p pos : Pos} (F : FunD X.K x x pg bg sg [] [] g fd)
    (hg : Gl X x) (hm : X.mg x = some (.ref g)) (hk : PySem.W.keepIn X.K (.ref g) = true) (hb : L2.Binds X.K fd ps []) (Sg : FnScope Ng ps sg) (hr : Room (k + 1) X.A)
    (hG : ∀ (cdv : Value) (pins : List (Addr × Obj)) (s : Shared) (σ : L2.St) (H : Hp) (vs : List V) (Q : VK), Inv X pins σ H s → Room k (X.A.deeper (envOfC x sg s.heap.objs.size g cdv)) → vs.length = ps.length → TT σ vs H Q →
      ∃ t, PSs (cxOf L2.CX0 X.prog X.w X.K X.mg X.base Ng x sg g cdv X.A X.stack s H L2.E0) bg t ∧ t { nx := fun _ H' => Q .non H', rt := Q } (L2.start Ng vs) H)
    (ha : PA X (e :: es) ta) (hdb : (x == ("__debug__" : Str)) = false := by decide) (he : starEach (e :: es) X.env = (false, eval e X.env) :: starEach es X.env := by rfl) (hpl : (backTo pos (starEach es X.env)).any (·.1) = false := by rfl) :
    PE X (.Call (.Name x p) (e :: es) [] pos) (tIn TT ps.length ta) := by
  refine ⟨fun pins s σ H Q I h => wpAny_Call_Name_kw (ld_glob I hg hm ?_ hdb)⟩
  refine PySem.W.callWith_K I.ok.mod.kin hk (thn (ha.run pos pins s σ H _ I h) fun us s1 ⟨vs, H1, I1, vals, count, want⟩ => ⟨I1.kIn, ?_⟩) he hpl
  obtain ⟨_, _, _, _, _, _, _, cdv, _, _, e, lk, hcd, _⟩ := F.ex
  subst e
  have bind := hb s1 us I1.kIn (by rw [List.append_nil, ← vals.length, count])
  rw [List.append_nil] at bind
  have go := run_ofS (CX := L2.CX0) (E := L2.E0) (Q := Q) lk hcd Sg hr I1.env0 bind vals count fun room => hG cdv pins s1 σ H1 vs Q I1 room count want
  refine wpAny_call (codeAny_mono go fun r s2 h => ?_)
  match r, h with
  | .ok (.ret _), h => exact I1.after h
end
end MeL
end
section
set_option Elab.async false
set_option linter.all false
set_option maxRecDepth 100000
set_option maxHeartbeats 4000000
/-! the end: a law that makes lambdas and asks repr; its tables may be none at all -/
namespace MeL
open PySem PySem.Spec PyProof.Rows L2 LamX MeG
def emptyO : Obj := { cls := .none, data := .fields #[] }
def scriptO (vs : List Value) : Obj := { cls := .type "list", data := .seq vs.toArray }
/-- the tables of the law and its script, as the abstract heap tells them; a script of the written part is not told -/
def begH (K : PySem.W.Frag) (cs : List (Addr × Addr)) (a : Addr) (vs : List Value) (ns : List Int) : Hp := fun b =>
  if b ∈ cs.map Prod.snd then some (.tbl #[]) else if b = a ∧ K.lookup a = none then some (.frz (scriptO vs) (.lst (ns.map V.int))) else none
/-- what holds where the law is called -/
structure Beg (K : PySem.W.Frag) (mg : Str → Option Value) (cs : List (Addr × Addr)) (a : Addr) (vs : List Value) (ns : List Int) (s : Shared) : Prop where
  kin : K.In s.heap
  main : s.heap.Ns mainGlobals mg
  blt : ∃ mb : Str → Option Value, s.heap.Ns builtinsNs mb ∧ ∀ x : Str, x ≠ "__name__" → mb x = bootBuiltins x
  lim : s.heap.NoLimit
  gens : s.gens = #[]
  tab : ∀ p ∈ cs, s.heap.get? p.2 = some emptyO
  out : ∀ p ∈ cs, K.lookup p.2 = none
  code : ∀ p ∈ cs, PySem.W.CodeHd s.heap p.1 p.2
  bmod : ∃ (m : Addr) (o : Obj), mg "__builtins__" = some (.ref m) ∧ m ≠ builtinsNs ∧ s.heap.get? m = some o ∧ o.cls = .type "module" ∧ o.dict = some builtinsNs ∧ o.data = .plain
  scr : s.heap.get? a = some (scriptO vs)
  num : IntsAre vs ns
  size : ns.length ≤ sizeLine
section
variable {K : PySem.W.Frag} {mg : Str → Option Value} {cs : List (Addr × Addr)} {a : Addr} {vs : List Value} {ns : List Int} {s : Shared}
theorem Beg.tabAt (B : Beg K mg cs a vs ns s) {b : Addr} (h : b ∈ cs.map Prod.snd) : s.heap.get? b = some emptyO ∧ K.lookup b = none := by
  obtain ⟨p, hp, rfl⟩ := List.mem_map.mp h
  exact ⟨B.tab p hp, B.out p hp⟩
theorem Beg.apart (B : Beg K mg cs a vs ns s) : a ∉ cs.map Prod.snd := fun h => by
  have h1 := (B.tabAt h).1
  rw [B.scr] at h1
  have h2 : (scriptO vs).cls = emptyO.cls := congrArg Obj.cls (Option.some.inj h1)
  cases h2
theorem begH_tab {b : Addr} (h : b ∈ cs.map Prod.snd) : begH K cs a vs ns b = some (.tbl #[]) := by
  unfold begH
  exact if_pos h
theorem begH_scr (B : Beg K mg cs a vs ns s) (h : K.lookup a = none) : begH K cs a vs ns a = some (.frz (scriptO vs) (.lst (ns.map V.int))) := by
  unfold begH
  rw [if_neg B.apart, if_pos ⟨rfl, h⟩]
/-- only these are told -/
theorem begH_some {b : Addr} {o : HO} (h : begH K cs a vs ns b = some o) : (b ∈ cs.map Prod.snd ∧ o = .tbl #[]) ∨ (b = a ∧ K.lookup a = none ∧ o = .frz (scriptO vs) (.lst (ns.map V.int))) := by
  unfold begH at h
  split at h
  · rename_i h1
    exact .inl ⟨h1, (Option.some.inj h).symm⟩
  · split at h
    · rename_i h2
      exact .inr ⟨h2.1, h2.2, (Option.some.inj h).symm⟩
    · cases h
theorem Beg.ok (B : Beg K mg cs a vs ns s) (P : Program) (w : World) : HOk P w (begH K cs a vs ns) s.heap := fun b o h => by
  rcases begH_some h with ⟨h1, rfl⟩ | ⟨rfl, _, rfl⟩
  · exact (B.tabAt h1).1
  · refine ⟨B.scr, ?_, vs, _, vals_ints B.num, B.scr⟩
    rw [List.length_map]
    exact B.size
/-- a thing that is neither a list nor an empty table isn't told -/
theorem Beg.free (B : Beg K mg cs a vs ns s) {b : Addr} {o : Obj} (h : s.heap.get? b = some o) (h1 : ∀ xs n, o.data ≠ .seq xs n) (h2 : o.data ≠ .fields #[]) : begH K cs a vs ns b = none := by
  cases q : begH K cs a vs ns b with
  | none => rfl
  | some u =>
    rcases begH_some q with ⟨h3, _⟩ | ⟨rfl, _, _⟩
    · have h4 := (B.tabAt h3).1
      rw [h] at h4
      exact absurd (congrArg Obj.data (Option.some.inj h4)) h2
    · have h4 := B.scr
      rw [h] at h4
      exact absurd (congrArg Obj.data (Option.some.inj h4)) (h1 _ _)
/-- the ground under the law: all that isn't told -/
abbrev Beg.base (_ : Beg K mg cs a vs ns s) : Heap := hidT s.heap (begH K cs a vs ns)
theorem Beg.low (B : Beg K mg cs a vs ns s) {b : Addr} {o : Obj} (h : s.heap.get? b = some o) (h1 : ∀ xs n, o.data ≠ .seq xs n) (h2 : o.data ≠ .fields #[]) : B.base.get? b = some o := hidT_get h (B.free h h1 h2)
theorem Beg.lowNs (B : Beg K mg cs a vs ns s) {b : Addr} {m : Str → Option Value} (h : s.heap.Ns b m) : B.base.Ns b m := by
  obtain ⟨o, es, ep, h1, h2, h3⟩ := h
  refine ⟨o, es, ep, B.low h1 (fun xs n z => ?_) fun z => ?_, h2, h3⟩ <;> exact nomatch h2.symm.trans z
theorem Beg.lowK (B : Beg K mg cs a vs ns s) : K.In B.base := fun b o h => by
  refine hidT_get (B.kin b o h) ?_
  cases q : begH K cs a vs ns b with
  | none => rfl
  | some u =>
    rcases begH_some q with ⟨h3, _⟩ | ⟨rfl, h3, _⟩
    · exact nomatch h.symm.trans (B.tabAt h3).2
    · exact nomatch h.symm.trans h3
theorem Beg.mod (B : Beg K mg cs a vs ns s) : L2.Mod K mg B.base where
  kin := B.lowK
  glob := B.lowNs B.main
  blt := let ⟨mb, h1, h2⟩ := B.blt; ⟨mb, B.lowNs h1, h2⟩
  nolimit := let ⟨mc, h1, h2⟩ := B.lim; ⟨mc, B.lowNs h1, h2⟩
theorem Beg.tables (B : Beg K mg cs a vs ns s) : ∀ p ∈ cs, TabB B.base mg p.1 p.2 := fun p hp => by
  have ht := B.tab p hp
  have noMain : mainGlobals ≠ p.2 := fun z => by
    obtain ⟨o, es, ep, h1, h2, _⟩ := B.main
    rw [z, ht] at h1
    cases Option.some.inj h1
    exact nomatch h2
  refine { code := ?_, bm := ?_, gP := noMain }
  · obtain ⟨o, us, file, tf, flags, tg, inF, text, tt, e1, r1, r2, r3, rest⟩ := B.code p hp
    refine ⟨o, us, file, tf, flags, tg, inF, text, tt, B.low e1 (fun xs n z => nomatch r2.symm.trans z) (fun z => ?_), r1, r2, r3, rest⟩
    have z2 : us = #[] := Data.fields.inj (r2.symm.trans z)
    rw [z2] at r3
    simp at r3
  · obtain ⟨m, o, b1, b2, b3, b4, b5, b6⟩ := B.bmod
    refine ⟨m, o, b1, b2, fun z => ?_, fun z => ?_, B.low b3 (fun xs n z => nomatch b6.symm.trans z) (fun z => nomatch b6.symm.trans z), b4, b5, b6⟩
    · obtain ⟨o', es, ep, h1, h2, _⟩ := B.main
      rw [← z, b3] at h1
      cases Option.some.inj h1
      exact nomatch b6.symm.trans h2
    · rw [z, ht] at b3
      cases Option.some.inj b3
      exact nomatch b6
theorem Beg.env (B : Beg K mg cs a vs ns s) (P : Program) (w : World) : Env0 P w K mg B.base callerA [] s (begH K cs a vs ns) where
  frames := rfl
  mod := B.mod
  bs := fun _ _ h => of_hidT h
  bsz := Nat.le_of_eq (hidT_size _ _)
  funs := trivial
  frf := fun _ h => nomatch (show _ ∈ ([] : List Addr) from h)
  hok := B.ok P w
  bare := .of_eq B.gens
theorem Beg.script (B : Beg K mg cs a vs ns s) : SqL K (begH K cs a vs ns) a (ns.map V.int) := by
  cases q : K.lookup a with
  | none => exact .inl (.inr ⟨_, begH_scr B q⟩)
  | some o =>
    have h1 := B.kin a o q
    rw [B.scr] at h1
    cases Option.some.inj h1
    have h2 := B.num.length
    refine .inr ⟨_, vs.toArray, _, q, rfl, rfl, rfl, ?_, vals_ints B.num⟩
    rw [List.size_toArray, h2]
    exact B.size
/-- behind the law: all that stood is as it was, tables may have grown -/
theorem Beg.stands (B : Beg K mg cs a vs ns s) {P : Program} {w : World} {H' : Hp} {s' : Shared} (un : Un (frs []) [] (begH K cs a vs ns) H' s.heap s'.heap) (hok : HOk P w H' s'.heap) : OldK s.heap s'.heap := by
  have told : ∀ b o, s.heap.get? b = some o → (∃ p ∈ cs, p.2 = b ∧ o = emptyO ∧ ∃ more : Array Value, s'.heap.get? b = some { cls := .none, data := .fields more }) ∨ s'.heap.get? b = some o := fun b o h => by
    cases q : begH K cs a vs ns b with
    | none => exact .inr (un.keep b o h q (fun z => nomatch (show b ∈ ([] : List Addr) from z)) (fun z => nomatch z))
    | some u =>
      rcases begH_some q with ⟨h1, rfl⟩ | ⟨rfl, _, rfl⟩
      · obtain ⟨p, hp, rfl⟩ := List.mem_map.mp h1
        obtain ⟨more, h2⟩ := un.tbls _ _ q
        have h3 := B.tab p hp
        rw [h] at h3
        exact .inl ⟨p, hp, rfl, Option.some.inj h3, _, hok _ _ h2⟩
      · have h3 := B.scr
        rw [h] at h3
        cases Option.some.inj h3
        exact .inr (hok _ _ (un.frzs _ _ _ q)).1
  constructor
  · intro b o h
    rcases told b o h with ⟨p, hp, rfl, rfl, more, h2⟩ | h2
    · exact .inr (.inl ⟨((B.code p hp).tab (B.tab p hp)).isCodeTable, rfl, #[], more, rfl, by rw [Array.empty_append]; exact h2⟩)
    · exact .inl h2
  · intro b o h
    rcases told b o h with ⟨_, _, _, _, more, h2⟩ | h2
    · exact ⟨_, h2⟩
    · exact ⟨o, h2⟩
/-- the law's call, from its promise -/
theorem Beg.call (B : Beg K mg cs a vs ns s) {P : Program} {w : World} {CX : CXT} {k : Nat} {fa : Addr} {fd : FuncData} {x : Str} {sp : Sp} (F : FnG P w K mg B.base CX k fa fd [x] sp) (hr : Room k callerA) (hbind : ∀ (s : Shared) (u : Value), BindsTo s fd ⟨[u], []⟩ [(x, u)])
    (hsp : sp [.ref a] (begH K cs a vs ns) (fun v _ => v = .bl true) fun _ _ _ => False) (hCX : ∀ H e s', CX [] H s (fun _ _ _ => False) e s' → False) :
    codeAny (model P w) callerA (.call (.ref fa) ⟨[.ref a], []⟩) (fun r s' => r = .ok (.ret (.bool true)) ∧ OldK s.heap s'.heap ∧ s'.os = s.os ∧ AllBare s'.gens) s := by
  have go := F.run callerA [] s (begH K cs a vs ns) ⟨[.ref a], []⟩ [.ref a] [.ref a] _ _ rfl hr (B.env P w) (hbind s (.ref a)) (.cons rfl .nil) hsp
  refine codeAny_mono go fun r s' h => ?_
  match r, h with
  | .error e, h => exact (hCX _ e s' h).elim
  | .ok (.ret u), h =>
    obtain ⟨v, H', h1, h2, un, hok, h3, h4⟩ := h
    have h4' : v = .bl true := h4
    rw [h4'] at h3
    have h5 : u = Value.bool true := h3
    exact ⟨by rw [h5], B.stands un hok, h1, h2⟩
end
/-- what is to be shown of the law at the head's heap -/
def LawAtG (l : PySem.W.OpenLaw) (w : World) (K : PySem.W.Frag) (CX : CXT) (k n : Nat) (x : Str) (mg : Str → Option Value) (fa : Addr) (h : Heap) : Prop :=
  ∃ (fd : FuncData) (cs : List (Addr × Addr)) (sp : Sp), ((∀ p ∈ cs, h.get? p.2 = some emptyO) ∧ (∀ p ∈ cs, K.lookup p.2 = none) ∧ ∀ p ∈ cs, PySem.W.CodeHd h p.1 p.2) ∧ (∀ (s : Shared) (u : Value), BindsTo s fd ⟨[u], []⟩ [(x, u)]) ∧
    (∀ (H : Hp) (a : Addr) (ns : List Int), ns.length ≤ n → (∀ z ∈ ns, Builtin.Int.intBits z ≤ 1048576) → (∀ p ∈ cs, H p.2 = some (.tbl #[])) → SqL K H a (ns.map V.int) → sp [.ref a] H (fun v _ => v = .bl true) fun _ _ _ => False) ∧
    ∀ base : Heap, K.In base → base.Ns mainGlobals mg → (∀ p ∈ cs, TabB base mg p.1 p.2) → FnG l.prog w K mg base CX k fa fd [x] sp
theorem walk_ofGE {l : PySem.W.OpenLaw} {n k : Nat} {q : Program} {loose : List Str} {XP : (Str → Option Value) → Heap → Prop} {YP : World → Heap → Prop} {d : DefRec} {CX : World → CXT} {x : Str} (most : l.most = some n) (few : n ≤ sizeLine) (plain : d.params.defaults = []) (room : Room k callerA)
    (F : ∀ (w : World) (mg : Str → Option Value) (fa : Addr) (h : Heap), YP w h → h.Ns mainGlobals mg → mg d.name = some (.ref fa) → ∃ K : PySem.W.Frag, K.In h ∧ LawAtG l w K (CX w) k n x mg fa h)
    (shut : ∀ (w : World) (H : Hp) (s : Shared) (e : Value) (s' : Shared), CX w [] H s (fun _ _ _ => False) e s' → False) : PySem.W.WalkO q loose XP YP l.row.toRowW d [] (fun f vs => PySem.call f vs) :=
  Att.attach_callB most plain fun w _ s mg mb fa _ _ _ _ a vs ns G Y _ _ _ hmg scr num len bits gens => by
    obtain ⟨K, kin, fd, cs, sp, ⟨t1, t2, t3⟩, hb, hsp, hF⟩ := F w mg fa _ Y G.T.g hmg
    have B : Beg K mg cs a vs ns s := ⟨kin, G.T.g, ⟨mb, G.T.b, G.T.builtins⟩, G.T.nolimit, gens, t1, t2, t3, G.T.bmain, scr, num, Nat.le_trans len few⟩
    exact B.call (hF _ B.lowK (B.lowNs B.main) B.tables) room hb (hsp _ a ns len bits (fun p hp => begH_tab (List.mem_map.mpr ⟨p, hp, rfl⟩)) B.script) fun H e s' => shut w H s e s'
end MeL
end
section
set_option Elab.async false
set_option linter.all false
set_option maxRecDepth 100000
set_option maxHeartbeats 4000000
/-! what an expression gives, told in a view of the heap: the rest (a pool, tables) may change -/
namespace MeV
open PySem L2 Evl MeH MeG LamX MeL
open MeE (VP Mono Is All MonoL Lst Tup mono_is monoL_nil monoL_cons monoL_app mono_lst mono_tup DP DV mono_dp mono_dv mono_dvs mono_dps)
/-- no table, no code -/
def Pl (o : HO) : Prop := (∀ ps, o ≠ .tbl ps) ∧ ∀ c q, o ≠ CodeO c q
theorem pl_lst {xs : List V} : Pl (.lst xs) := ⟨fun _ z => (by cases z), fun _ _ z => (by unfold CodeO at z; cases z)⟩
structure Wv where
  vw : Hp → Hp
  I : Hp → Prop
  sub : ∀ H, Ex (vw H) H
  up : ∀ {H H' : Hp}, I H → Ex H H' → I H' ∧ Ex (vw H) (vw H')
  see : ∀ {H H' : Hp} {q : Addr} {o : HO}, I H → H q = none → Ex H H' → H' q = some o → (∀ ps, o ≠ .tbl ps) → vw H' q = some o
  /-- a thing that is seen is changed -/
  chg : ∀ {H : Hp} {q : Addr} {o o' : HO}, I H → vw H q = some o → Pl o → Pl o' → I (upd H q o') ∧ vw (upd H q o') = upd (vw H) q o'
def Gv (S : Wv) (te : TE) (σ : L2.St) (h : Hp) (P : VP) : Prop := ∀ H1, S.I H1 → Ex h (S.vw H1) → ∀ Q : VK, (∀ v H2, S.I H2 → Ex (S.vw H1) (S.vw H2) → P v (S.vw H2) → Q v H2) → te σ H1 Q
def GvA (S : Wv) (ta : TA) (σ : L2.St) (h : Hp) (P : List V → Hp → Prop) : Prop := ∀ H1, S.I H1 → Ex h (S.vw H1) → ∀ Q : List V → Hp → Prop, (∀ vs H2, S.I H2 → Ex (S.vw H1) (S.vw H2) → P vs (S.vw H2) → Q vs H2) → ta σ H1 Q
def GvT (S : Wv) (tt : TT) (σ : L2.St) (h : Hp) (b : Bool) : Prop := ∀ H1, S.I H1 → Ex h (S.vw H1) → ∀ Q : Bool → Hp → Prop, (∀ H2, S.I H2 → Ex (S.vw H1) (S.vw H2) → Q b H2) → tt σ H1 Q
section
variable {S : Wv} {K : PySem.W.Frag} {σ : L2.St} {h h' : Hp} {ta tb te : TE} {t u : TT} {P P' R : VP} {r : R2} {v : V}
theorem Wv.to (S : Wv) {h H : Hp} (e : Ex h (S.vw H)) : Ex h H := e.trans (S.sub H)
theorem Gv.up (e : Ex h h') (g : Gv S te σ h P) : Gv S te σ h' P := fun H1 i a Q q => g H1 i (e.trans a) Q q
theorem GvA.up {ta : TA} {P : List V → Hp → Prop} (e : Ex h h') (g : GvA S ta σ h P) : GvA S ta σ h' P := fun H1 i a Q q => g H1 i (e.trans a) Q q
theorem GvT.up {b : Bool} (e : Ex h h') (g : GvT S t σ h b) : GvT S t σ h' b := fun H1 i a Q q => g H1 i (e.trans a) Q q
theorem Gv.imp (g : Gv S te σ h P) (k : ∀ v h1, Ex h h1 → P v h1 → R v h1) : Gv S te σ h R := fun H1 i a Q q => g H1 i a Q fun v H2 i2 e p => q v H2 i2 e (k v _ (a.trans e) p)
/-! what Evl knows -/
theorem v_ev (g : Ev te σ h v) : Gv S te σ h (Is v) := fun H1 i a Q q => g H1 (S.to a) Q fun H2 e => q v H2 (S.up i e).1 (S.up i e).2 rfl
theorem vt_et {b : Bool} (g : EvT t σ h b) : GvT S t σ h b := fun H1 i a Q q => g H1 (S.to a) Q fun H2 e => q H2 (S.up i e).1 (S.up i e).2
theorem v_el {xs : List V} (g : EvL te σ h xs) : Gv S te σ h (fun v H => ∃ p, v = .ref p ∧ H p = some (.lst xs)) := fun H1 i a Q q => g H1 (S.to a) Q fun p H2 n e hp => q _ H2 (S.up i e).1 (S.up i e).2 ⟨p, rfl, S.see i n e hp (fun _ z => nomatch z)⟩
theorem v_eu {xs : List V} (g : EvU te σ h xs) : Gv S te σ h (fun v H => ∃ p, v = .ref p ∧ H p = some (.tup xs)) := fun H1 i a Q q => g H1 (S.to a) Q fun p H2 n e hp => q _ H2 (S.up i e).1 (S.up i e).2 ⟨p, rfl, S.see i n e hp (fun _ z => nomatch z)⟩
theorem va_ea {ta : TA} {vs : List V} (g : EvA ta σ h vs) : GvA S ta σ h (fun ws _ => ws = vs) := fun H1 i a Q q => g H1 (S.to a) Q fun H2 e => q vs H2 (S.up i e).1 (S.up i e).2 rfl
theorem v_var {i : Nat} (e : σ[i]? = some (some v)) : Gv S (tVar i) σ h (Is v) := v_ev (ev_var e)
theorem v_c : Gv S (tC v) σ h (Is v) := v_ev ev_c
theorem v_varP {i : Nat} (e : σ[i]? = some (some v)) (m : Mono P) (p : P v h) : Gv S (tVar i) σ h P := fun H1 i1 a Q q => ⟨v, e, q v H1 i1 (Ex.refl _) (m _ _ _ a p)⟩
/-- a word that is told of v and holds in the heap now -/
theorem Gv.isP (g : Gv S te σ h (Is v)) (m : Mono P) (p : P v h) : Gv S te σ h P := fun H1 i a Q q => g H1 i a Q fun w H2 i2 e2 ew => by
  have ew' : w = v := ew
  rw [ew']
  exact q v H2 i2 e2 (m _ _ _ (a.trans e2) p)
theorem v_op (ga : Gv S ta σ h P) (gb : Gv S tb σ h P') (m : Mono P) (hr : ∀ x y H1, S.I H1 → Ex h (S.vw H1) → P x (S.vw H1) → P' y (S.vw H1) → ∀ Q : VK, (∀ z H2, S.I H2 → Ex (S.vw H1) (S.vw H2) → R z (S.vw H2) → Q z H2) → r x y H1 Q) : Gv S (tOp r ta tb) σ h R := fun H1 i e Q q =>
  ga H1 i e _ fun x H2 i2 e2 px => gb H2 i2 (e.trans e2) _ fun y H3 i3 e3 py => hr x y H3 i3 ((e.trans e2).trans e3) (m _ _ _ e3 px) py Q fun z H4 i4 e4 pz => q z H4 i4 ((e2.trans e3).trans e4) pz
/-- both sides known, the operation Evl's -/
theorem v_opV {x y z : V} (ga : Gv S ta σ h (Is x)) (gb : Gv S tb σ h (Is y)) (hr : RV r x y h z) : Gv S (tOp r ta tb) σ h (Is z) := v_op ga gb (mono_is x) fun a b H1 i e pa pb Q q => by
  have pa' : a = x := pa
  have pb' : b = y := pb
  subst pa' pb'
  exact hr H1 (S.to e) Q fun H2 e2 => q z H2 (S.up i e2).1 (S.up i e2).2 rfl
theorem v_un {r : V → Hp → VK → Prop} {x z : V} (ga : Gv S ta σ h (Is x)) (hr : RU r x h z) : Gv S (tUn r ta) σ h (Is z) := fun H1 i e Q q => ga H1 i e _ fun w H2 i2 e2 pw => by
  have pw' : w = x := pw
  subst pw'
  exact hr H2 (S.to (e.trans e2)) Q fun H3 e3 => q z H3 (S.up i2 e3).1 (e2.trans (S.up i2 e3).2) rfl
theorem va_nil : GvA S tNil σ h (All []) := fun H1 i _ _ q => q [] H1 i (Ex.refl _) trivial
theorem va_cons {tr : TA} {Ps : List VP} (g : Gv S te σ h P) (m : Mono P) (gr : GvA S tr σ h (All Ps)) : GvA S (tCons te tr) σ h (All (P :: Ps)) := fun H1 i e Q q =>
  g H1 i e _ fun v H2 i2 e2 p => gr H2 i2 (e.trans e2) _ fun vs H3 i3 e3 ps => q _ H3 i3 (e2.trans e3) ⟨m _ _ _ e3 p, ps⟩
theorem v_lst {t : TA} {Ps : List VP} (g : GvA S t σ h (All Ps)) (m : MonoL Ps) (hl : Ps.length ≤ 10000) : Gv S (tLst t) σ h (Lst Ps) := fun H1 i e Q q =>
  g H1 i e _ fun vs H2 i2 e2 ps => ⟨by rw [ps.len]; exact sz_of (by omega), fun p hp => q _ _ (S.up i2 (Ex.new hp)).1 (e2.trans (S.up i2 (Ex.new hp)).2) ⟨p, vs, rfl, S.see i2 hp (Ex.new hp) upd_same (fun _ z => nomatch z), ps.up (S.up i2 (Ex.new hp)).2 m⟩⟩
theorem v_tup {t : TA} {Ps : List VP} (g : GvA S t σ h (All Ps)) (m : MonoL Ps) (hl : Ps.length ≤ 10000) : Gv S (tTup t) σ h (Tup Ps) := fun H1 i e Q q =>
  g H1 i e _ fun vs H2 i2 e2 ps => ⟨by rw [ps.len]; exact sz_of (by omega), fun p hp => q _ _ (S.up i2 (Ex.new hp)).1 (e2.trans (S.up i2 (Ex.new hp)).2) ⟨p, vs, rfl, S.see i2 hp (Ex.new hp) upd_same (fun _ z => nomatch z), ps.up (S.up i2 (Ex.new hp)).2 m⟩⟩
theorem v_cat {Ps Rs : List VP} (ga : Gv S ta σ h (Lst Ps)) (gb : Gv S tb σ h (Lst Rs)) (m : MonoL Ps) (m' : MonoL Rs) (hl : Ps.length + Rs.length ≤ 10000) : Gv S (tOp rCat ta tb) σ h (Lst (Ps ++ Rs)) :=
  v_op ga gb (mono_lst m) fun x y H1 i e px py Q q => by
    obtain ⟨p, xs, rfl, hp, ax⟩ := px
    obtain ⟨b, ys, rfl, hb', ay⟩ := py
    exact ⟨p, b, xs, ys, rfl, rfl, S.sub _ _ _ hp, S.sub _ _ _ hb', by rw [ax.len, ay.len]; exact sz_of (by omega), fun c hc => q _ _ (S.up i (Ex.new hc)).1 (S.up i (Ex.new hc)).2 ⟨c, xs ++ ys, rfl, S.see i hc (Ex.new hc) upd_same (fun _ z => nomatch z), (ax.app ay).up (S.up i (Ex.new hc)).2 (monoL_app m m')⟩⟩
theorem v_ix {Ps : List VP} {j : Nat} (ga : Gv S ta σ h (Lst Ps)) (m : MonoL Ps) (gb : Gv S tb σ h (Is (.int (j : Nat)))) (hj : Ps[j]? = some P) : Gv S (tOp (rIxL K) ta tb) σ h P :=
  v_op ga gb (mono_lst m) fun x y H1 i e px py Q q => by
    obtain ⟨p, xs, rfl, hp, ax⟩ := px
    have py' : y = .int (j : Nat) := py
    subst py'
    have hlt : j < xs.length := by
      rw [ax.len]
      exact (List.getElem?_eq_some_iff.mp hj).1
    obtain ⟨P', h1, h2⟩ := ax.get (List.getElem?_eq_getElem hlt)
    rw [hj] at h1
    cases h1
    exact ⟨p, xs, (j : Nat), xs[j], rfl, rfl, sq_of (S.sub _ _ _ hp), atI_nat (List.getElem?_eq_getElem hlt), q _ H1 i (Ex.refl _) h2⟩
/-- a call by values -/
theorem v_cb {rr : List V → Hp → VK → Prop} {t : TA} {Ps : List V → Hp → Prop} (g : GvA S t σ h Ps) (hr : ∀ vs H1, S.I H1 → Ex h (S.vw H1) → Ps vs (S.vw H1) → ∀ Q : VK, (∀ z H2, S.I H2 → Ex (S.vw H1) (S.vw H2) → R z (S.vw H2) → Q z H2) → rr vs H1 Q) : Gv S (tCB rr t) σ h R := fun H1 i e Q q =>
  g H1 i e _ fun vs H2 i2 e2 ps => hr vs H2 i2 (e.trans e2) ps Q fun z H3 i3 e3 pz => q z H3 i3 (e2.trans e3) pz
/-- a call of a def -/
theorem v_call {sp : Sp} {dvs : List V} {E : XK} {t : TA} {Ps : List V → Hp → Prop} (g : GvA S t σ h Ps) (hr : ∀ vs H1, S.I H1 → Ex h (S.vw H1) → Ps vs (S.vw H1) → ∀ Q : VK, (∀ z H2, S.I H2 → Ex (S.vw H1) (S.vw H2) → R z (S.vw H2) → Q z H2) → sp (vs ++ dvs) H1 Q E) : Gv S (tCall sp dvs E t) σ h R := fun H1 i e Q q =>
  g H1 i e _ fun vs H2 i2 e2 ps => hr vs H2 i2 (e.trans e2) ps Q fun z H3 i3 e3 pz => q z H3 i3 (e2.trans e3) pz
/-! tests -/
theorem vt_test {b : Bool} (g : Gv S te σ h (Is (.bl b))) : GvT S (tTest te) σ h b := fun H1 i e Q q => g H1 i e _ fun w H2 i2 e2 ew => ⟨b, ew, q H2 i2 e2⟩
theorem vt_B {b : Bool} (g : Gv S te σ h (Is (.bl b))) : GvT S (tB te) σ h b := fun H1 i e Q q => g H1 i e _ fun w H2 i2 e2 ew => ⟨b, ew, q H2 i2 e2⟩
theorem vt_not {b : Bool} (g : GvT S t σ h b) : GvT S (tNot t) σ h (!b) := fun H1 i e Q q => g H1 i e _ fun H2 i2 e2 => q H2 i2 e2
theorem vt_and {a b : Bool} (g1 : GvT S t σ h a) (g2 : a = true → GvT S u σ h b) : GvT S (tAnd t u) σ h (a && b) := fun H1 i e Q q => g1 H1 i e _ fun H2 i2 e2 => by
  cases a with
  | true =>
    show u σ H2 Q
    exact g2 rfl H2 i2 (e.trans e2) Q fun H3 i3 e3 => q H3 i3 (e2.trans e3)
  | false =>
    show Q false H2
    exact q H2 i2 e2
theorem vt_or {a b : Bool} (g1 : GvT S t σ h a) (g2 : a = false → GvT S u σ h b) : GvT S (tOr t u) σ h (a || b) := fun H1 i e Q q => g1 H1 i e _ fun H2 i2 e2 => by
  cases a with
  | true =>
    show Q true H2
    exact q H2 i2 e2
  | false =>
    show u σ H2 Q
    exact g2 rfl H2 i2 (e.trans e2) Q fun H3 i3 e3 => q H3 i3 (e2.trans e3)
theorem GvT.is {a b : Bool} (g : GvT S t σ h a) (e : a = b) : GvT S t σ h b := e ▸ g
theorem Gv.is {w : V} (g : Gv S te σ h (Is v)) (e : v = w) : Gv S te σ h (Is w) := e ▸ g
theorem v_andV {a b : Bool} (g1 : Gv S ta σ h (Is (.bl a))) (g2 : a = true → Gv S tb σ h (Is (.bl b))) : Gv S (tAndV ta tb) σ h (Is (.bl (a && b))) := fun H1 i e Q q => g1 H1 i e _ fun w H2 i2 e2 ew => ⟨a, ew, by
  have ew' : w = .bl a := ew
  subst ew'
  cases a with
  | true =>
    show tb σ H2 Q
    exact g2 rfl H2 i2 (e.trans e2) Q fun z H3 i3 e3 p3 => q z H3 i3 (e2.trans e3) p3
  | false =>
    show Q (.bl false) H2
    exact q _ H2 i2 e2 rfl⟩
theorem v_if {b : Bool} (g : GvT S t σ h b) (g1 : b = true → Gv S ta σ h P) (g2 : b = false → Gv S tb σ h P) : Gv S (tIf t ta tb) σ h P := fun H1 i e Q q => g H1 i e _ fun H2 i2 e2 => by
  cases b with
  | true =>
    show ta σ H2 Q
    exact g1 rfl H2 i2 (e.trans e2) Q fun z H3 i3 e3 p3 => q z H3 i3 (e2.trans e3) p3
  | false =>
    show tb σ H2 Q
    exact g2 rfl H2 i2 (e.trans e2) Q fun z H3 i3 e3 p3 => q z H3 i3 (e2.trans e3) p3
/-! data -/
theorem vd_nil : GvA S tNil σ h (All (([] : List PyData).map (DV K))) := va_nil
theorem vd_cons {d : PyData} {ds : List PyData} {tr : TA} (g : Gv S te σ h (DV K d)) (gr : GvA S tr σ h (All (ds.map (DV K)))) : GvA S (tCons te tr) σ h (All ((d :: ds).map (DV K))) := va_cons g (mono_dv d) gr
theorem vd_lst {ds : List PyData} {t : TA} (g : GvA S t σ h (All (ds.map (DV K)))) (hl : ds.length ≤ 1000) : Gv S (tLst t) σ h (DV K (.list ds)) :=
  (v_lst g (mono_dvs ds) (by rw [List.length_map]; omega)).imp fun v H1 _ p => MeE.dv_lst p
theorem vd_tup {ds : List PyData} {t : TA} (g : GvA S t σ h (All (ds.map (DV K)))) (hl : ds.length ≤ 1000) : Gv S (tTup t) σ h (DV K (.tuple ds)) :=
  (v_tup g (mono_dvs ds) (by rw [List.length_map]; omega)).imp fun v H1 _ p => MeE.dv_tup p
theorem vd_int {i : Int} : Gv S (tC (.int i)) σ h (DV K (.int i)) := Gv.imp v_c fun v h1 _ p => by
  have p' : v = .int i := p
  subst p'
  exact Dd.int i
theorem vd_str {x : Str} : Gv S (tC (.str x)) σ h (DV K (.str x)) := Gv.imp v_c fun v h1 _ p => by
  have p' : v = .str x := p
  subst p'
  exact Dd.str x
theorem vd_bl {b : Bool} : Gv S (tC (.bl b)) σ h (DV K (.bool b)) := Gv.imp v_c fun v h1 _ p => by
  have p' : v = .bl b := p
  subst p'
  exact Dd.bl b
theorem vd_non : Gv S (tC .non) σ h (DV K .none) := Gv.imp v_c fun v h1 _ p => by
  have p' : v = .non := p
  subst p'
  exact Dd.non
theorem vd_dic : Gv S tDNewK σ h (DV K (.dict [])) := fun H1 i e Q q d hd => q _ _ (S.up i (Ex.new hd)).1 (S.up i (Ex.new hd)).2 (Dd.dic (Rd.of (S.see i hd (Ex.new hd) upd_same (fun _ z => nomatch z))) .nil)
theorem vd_of {d : PyData} (g : Gv S te σ h (Is v)) (k : Dd K h v d) : Gv S te σ h (DV K d) := g.isP (mono_dv d) k
theorem vd_var {i : Nat} {d : PyData} (e : σ[i]? = some (some v)) (k : Dd K h v d) : Gv S (tVar i) σ h (DV K d) := v_varP e (mono_dv d) k
theorem v_repr {d : PyData} (g : Gv S te σ h (DV K d)) (hs : d.showable = true) (hd : d.depth ≤ 60) (hl : d.shown.length ≤ sizeLine) : Gv S (tCB (rRepr K) (tCons te tNil)) σ h (Is (.str d.shown)) := fun H1 i e Q q =>
  g H1 i e _ fun v H2 i2 e2 p => ⟨v, d, rfl, MeE.Dd.up (S.sub _) p, hs, hd, hl, q _ H2 i2 e2 rfl⟩
/-! statements -/
variable {D : Ends} {tu tw tz : TS} {H : Hp}
theorem x_asg {i : Nat} (iH : S.I H) (g : Gv S te σ (S.vw H) P) (k : ∀ v H1, S.I H1 → Ex (S.vw H) (S.vw H1) → P v (S.vw H1) → D.nx (σ.set i (some v)) H1) : tAsg te (gName i) D σ H := g H iH (Ex.refl _) _ k
theorem x_asgq {i : Nat} (iH : S.I H) (g : Gv S te σ (S.vw H) P) (k : ∀ v H1, S.I H1 → Ex (S.vw H) (S.vw H1) → P v (S.vw H1) → tz D (σ.set i (some v)) H1) : tSeq (tAsg te (gName i)) tz D σ H := g H iH (Ex.refl _) _ k
theorem x_ret (iH : S.I H) (g : Gv S te σ (S.vw H) P) (k : ∀ v H1, S.I H1 → Ex (S.vw H) (S.vw H1) → P v (S.vw H1) → D.rt v H1) : tRet te D σ H := g H iH (Ex.refl _) _ k
theorem x_drop (iH : S.I H) (g : Gv S te σ (S.vw H) P) (k : ∀ v H1, S.I H1 → Ex (S.vw H) (S.vw H1) → P v (S.vw H1) → D.nx σ H1) : tDrop te D σ H := g H iH (Ex.refl _) _ k
theorem x_if {b : Bool} (iH : S.I H) (g : GvT S t σ (S.vw H) b) (k1 : b = true → ∀ H1, S.I H1 → Ex (S.vw H) (S.vw H1) → tu D σ H1) (k2 : b = false → ∀ H1, S.I H1 → Ex (S.vw H) (S.vw H1) → tw D σ H1) : tIfS t tu tw D σ H := g H iH (Ex.refl _) _ fun H1 i1 e1 => by
  cases b with
  | true =>
    show tu D σ H1
    exact k1 rfl H1 i1 e1
  | false =>
    show tw D σ H1
    exact k2 rfl H1 i1 e1
/-- if t: .. (no else), then tz -/
theorem x_when {b : Bool} (iH : S.I H) (g : GvT S t σ (S.vw H) b) (k1 : b = true → ∀ H1, S.I H1 → Ex (S.vw H) (S.vw H1) → tu { D with nx := tz D } σ H1) (k2 : b = false → ∀ H1, S.I H1 → Ex (S.vw H) (S.vw H1) → tz D σ H1) : tSeq (tIfS t tu tNext) tz D σ H := x_if (D := { D with nx := tz D }) iH g k1 k2
end
end MeV
end
section
set_option Elab.async false
set_option linter.all false
set_option maxRecDepth 100000
set_option maxHeartbeats 4000000
/-! views: all of the heap, tables left out, a thing hidden; loops and comprehensions -/
namespace MeV
open PySem L2 Evl MeH MeG LamX MeL
open MeE (VP Mono Is All MonoL Lst Tup mono_is monoL_nil monoL_cons monoL_app mono_lst mono_tup DP DV mono_dp mono_dv mono_dvs mono_dps)
/-- all is seen -/
def idW : Wv where
  vw := fun H => H
  I := fun _ => True
  sub := fun H => Ex.refl H
  up := fun _ e => ⟨trivial, e⟩
  see := fun _ _ _ h _ => h
  chg := fun _ _ _ _ => ⟨trivial, rfl⟩
/-- all but tables -/
def noT (H : Hp) : Hp := fun b => match H b with
  | some (.tbl _) => none
  | o => o
theorem noT_of {H : Hp} {b : Addr} {o : HO} (h : H b = some o) (n : ∀ ps, o ≠ .tbl ps) : noT H b = some o := by
  unfold noT
  rw [h]
  split
  · rename_i ps z
    exact absurd (Option.some.inj z) (n ps)
  · rfl
theorem of_noT {H : Hp} {b : Addr} {o : HO} (h : noT H b = some o) : H b = some o ∧ ∀ ps, o ≠ .tbl ps := by
  unfold noT at h
  split at h
  · cases h
  · rename_i z
    exact ⟨h, fun ps e => z ps (by rw [h, e])⟩
theorem noT_none {H : Hp} {b : Addr} (h : H b = none) : noT H b = none := by
  unfold noT
  rw [h]
theorem noT_ex {H H' : Hp} (e : ExtN H H') : Ex (noT H) (noT H') := fun b o h => noT_of (e b o (of_noT h).1 (of_noT h).2) (of_noT h).2
theorem noT_upd {H : Hp} {q : Addr} {o : HO} (n : ∀ ps, o ≠ .tbl ps) : noT (upd H q o) = upd (noT H) q o := by
  funext b
  by_cases hb : b = q
  · subst hb
    rw [upd_same]
    exact noT_of upd_same n
  · rw [upd_ne hb]
    unfold noT
    rw [upd_ne hb]
theorem TabS.chg {H : Hp} {P q : Addr} {s : Str} {o o' : HO} (t : TabS H P s) (h : H q = some o) (p : Pl o) : TabS (upd H q o') P s := by
  obtain ⟨ps, h1, h2, h3⟩ := t
  have n1 : P ≠ q := fun z => p.1 ps (by rw [z, h] at h1; exact Option.some.inj h1)
  refine ⟨ps, by rw [upd_ne n1]; exact h1, h2, fun pos cv hc => ?_⟩
  obtain ⟨c, e1, e2⟩ := h3 pos cv hc
  have n2 : c ≠ q := fun z => by
    rw [z, h] at e2
    exact p.2 _ _ (Option.some.inj e2)
  exact ⟨c, e1, by rw [upd_ne n2]; exact e2⟩
def tabW (T : List (Addr × Str)) : Wv where
  vw := noT
  I := Tabs T
  sub := fun H b o h => (of_noT h).1
  up := fun i e => ⟨i.ext e, noT_ex (ExtN.of e)⟩
  see := fun _ _ _ h n => noT_of h n
  chg := fun i h p p' => ⟨fun q hq => TabS.chg (i q hq) (of_noT h).1 p, noT_upd p'.1⟩
/-- all but p -/
def hv (f : Hp) (p : Addr) : Hp := fun b => if b = p then none else f b
theorem hv_of {f : Hp} {p b : Addr} {o : HO} (h : f b = some o) (n : b ≠ p) : hv f p b = some o := by
  unfold hv
  rw [if_neg n]
  exact h
theorem of_hv {f : Hp} {p b : Addr} {o : HO} (h : hv f p b = some o) : b ≠ p ∧ f b = some o := by
  unfold hv at h
  by_cases hb : b = p
  · rw [if_pos hb] at h
    cases h
  · rw [if_neg hb] at h
    exact ⟨hb, h⟩
theorem hv_upd {f : Hp} {p q : Addr} {o : HO} (n : q ≠ p) : hv (upd f q o) p = upd (hv f p) q o := by
  funext b
  by_cases hbq : b = q
  · subst hbq
    rw [upd_same]
    exact hv_of upd_same n
  · rw [upd_ne hbq]
    unfold hv
    rw [upd_ne hbq]
theorem hv_same {f : Hp} {p : Addr} {o : HO} : hv (upd f p o) p = hv f p := by
  funext b
  unfold hv
  by_cases hb : b = p
  · rw [if_pos hb, if_pos hb]
  · rw [if_neg hb, if_neg hb, upd_ne hb]
/-- what is at p is hidden, J tells of it -/
def Wv.hide (S : Wv) (p : Addr) (J : HO → Prop) : Wv where
  vw := fun H => hv (S.vw H) p
  I := fun H => S.I H ∧ ∃ o, S.vw H p = some o ∧ Pl o ∧ J o
  sub := fun H b o h => S.sub H b o (of_hv h).2
  up := fun {H H'} i e => by
    obtain ⟨i1, o, h1, h2⟩ := i
    obtain ⟨u1, u2⟩ := S.up i1 e
    exact ⟨⟨u1, o, u2 _ _ h1, h2⟩, fun b v h => hv_of (u2 _ _ (of_hv h).2) (of_hv h).1⟩
  see := fun {H H' q o} i n e h k => by
    obtain ⟨i1, o1, h1, _⟩ := i
    exact hv_of (S.see i1 n e h k) fun z => by
      rw [z, S.sub _ _ _ h1] at n
      cases n
  chg := fun {H q o o'} i h p1 p2 => by
    obtain ⟨i1, o1, h1, h2⟩ := i
    obtain ⟨hb, h'⟩ := of_hv h
    obtain ⟨m1, m2⟩ := S.chg i1 h' p1 p2
    refine ⟨⟨m1, o1, by rw [m2, upd_ne (Ne.symm hb)]; exact h1, h2⟩, ?_⟩
    show hv (S.vw (upd H q o')) p = upd (hv (S.vw H) p) q o'
    rw [m2, hv_upd hb]
theorem hide_vw {S : Wv} {p b : Addr} {J : HO → Prop} {H : Hp} {o : HO} (h : S.vw H b = some o) (n : b ≠ p) : (S.hide p J).vw H b = some o := hv_of h n
theorem hide_ex {S : Wv} {p : Addr} {J : HO → Prop} {H : Hp} : Ex ((S.hide p J).vw H) (S.vw H) := fun b o h => (of_hv h).2
/-- what does not speak of p is seen still -/
theorem ex_hide {S : Wv} {p : Addr} {J : HO → Prop} {h H : Hp} (e : Ex h (S.vw H)) (n : h p = none) : Ex h ((S.hide p J).vw H) := fun b o hb => hide_vw (e b o hb) (ne_of_none hb n)
/-- some list -/
abbrev Wv.hid (S : Wv) (p : Addr) : Wv := S.hide p fun o => ∃ xs, o = .lst xs
/-- this list -/
abbrev Wv.lst (S : Wv) (p : Addr) (xs : List V) : Wv := S.hide p fun o => o = .lst xs
theorem lst_hid {S : Wv} {p : Addr} {xs : List V} {H : Hp} (i : (S.lst p xs).I H) : (S.hid p).I H := by
  obtain ⟨i1, o, h1, h2, h3⟩ := i
  exact ⟨i1, o, h1, h2, xs, h3⟩
theorem lst_of {S : Wv} {p : Addr} {xs : List V} {H : Hp} (i : S.I H) (h : S.vw H p = some (.lst xs)) : (S.lst p xs).I H := ⟨i, _, h, pl_lst, rfl⟩
theorem lst_at {S : Wv} {p : Addr} {xs : List V} {H : Hp} (i : (S.lst p xs).I H) : S.vw H p = some (.lst xs) := by
  obtain ⟨_, o, h1, _, h3⟩ := i
  rw [h1, h3]
theorem hide_set {S : Wv} {p : Addr} {J : HO → Prop} {H : Hp} {o' : HO} (i : (S.hide p J).I H) (p2 : Pl o') : S.I (upd H p o') ∧ S.vw (upd H p o') = upd (S.vw H) p o' := by
  obtain ⟨i1, o, h1, h2, _⟩ := i
  exact S.chg i1 h1 h2 p2
theorem hide_same {S : Wv} {p : Addr} {J J' : HO → Prop} {H : Hp} {o' : HO} (i : (S.hide p J).I H) (p2 : Pl o') : (S.hide p J').vw (upd H p o') = (S.hide p J').vw H := by
  show hv (S.vw (upd H p o')) p = hv (S.vw H) p
  rw [(hide_set i p2).2, hv_same]
/-! iterators -/
def GvI (S : Wv) (wi : TI) (σ : L2.St) (h : Hp) (n : Nat) (Pi : Nat → VP) : Prop := ∀ H1, S.I H1 → Ex h (S.vw H1) → ∀ R : It → Hp → Prop,
  (∀ J H2, S.I H2 → Ex (S.vw H1) (S.vw H2) → (∀ (S' : Wv) i H, i < n → S'.I H → Ex (S.vw H2) (S'.vw H) → J.go i H ∧ ∀ x H', J.yld i H x H' → Ex H H' ∧ Pi i x (S'.vw H')) → (∀ (S' : Wv) H, S'.I H → Ex (S.vw H2) (S'.vw H) → J.stop n H) → R J H2) → wi σ H1 R
section
variable {S : Wv} {K : PySem.W.Frag} {σ : L2.St} {h h' : Hp} {ta tb te tl : TE} {t u : TT} {P P' R : VP} {r : R2} {v : V} {n : Nat} {Pi : Nat → VP} {wi : TI}
def PAt (Ps : List VP) (i : Nat) : VP := fun v h => ∃ P, Ps[i]? = some P ∧ P v h
theorem vi_lst {Ps : List VP} (g : Gv S tl σ h (Lst Ps)) (m : MonoL Ps) : GvI S (iList K tl) σ h Ps.length (PAt Ps) := fun H1 i1 e R r => g H1 i1 e _ fun v H2 i2 e2 ⟨p, xs, hv, hp, ax⟩ => by
  have sq : ∀ {S' : Wv} {H : Hp}, Ex (S.vw H2) (S'.vw H) → SqL K H p xs := fun {S' H} e => sq_of (S'.sub _ _ _ (e _ _ hp))
  refine ⟨p, hv, ⟨xs, sq (S' := S) (Ex.refl _)⟩, r _ H2 i2 e2 (fun S' i H hi iH eH => ?_) fun S' H iH eH => ⟨xs, sq eH, by rw [ax.len]; exact Nat.le_refl _⟩⟩
  have hi' : i < xs.length := by rw [ax.len]; exact hi
  refine ⟨⟨xs, xs[i], sq eH, List.getElem?_eq_getElem hi'⟩, fun x H' y => ?_⟩
  obtain ⟨rfl, y2⟩ := y
  exact ⟨Ex.refl _, (ax.up eH m).get (y2 xs (sq eH))⟩
/-- a list that stands, its items as they are -/
theorem vi_sqL {a : Addr} {xs : List V} (g : Gv S tl σ h (Is (.ref a))) (hs : SqL K h a xs) : GvI S (iList K tl) σ h xs.length (fun i v _ => xs[i]? = some v) := fun H1 i1 e R r => g H1 i1 e _ fun v H2 i2 e2 hv => by
  have sq : ∀ {S' : Wv} {H : Hp}, Ex (S.vw H2) (S'.vw H) → SqL K H a xs := fun {S' H} e3 => ex_l (((e.trans e2).trans e3).trans (S'.sub _)) hs
  refine ⟨a, hv, ⟨xs, sq (S' := S) (Ex.refl _)⟩, r _ H2 i2 e2 (fun S' i H hi iH eH => ⟨⟨xs, xs[i], sq eH, List.getElem?_eq_getElem hi⟩, fun x H' y => ?_⟩) fun S' H iH eH => ⟨xs, sq eH, Nat.le_refl _⟩⟩
  obtain ⟨rfl, y2⟩ := y
  exact ⟨Ex.refl _, y2 xs (sq eH)⟩
theorem vi_sqT {a : Addr} {xs : List V} (g : Gv S tl σ h (Is (.ref a))) (hs : SqT K h a xs) : GvI S (iTup K tl) σ h xs.length (fun i v _ => xs[i]? = some v) := fun H1 i1 e R r => g H1 i1 e _ fun v H2 i2 e2 hv => by
  have sq : ∀ {S' : Wv} {H : Hp}, Ex (S.vw H2) (S'.vw H) → SqT K H a xs := fun {S' H} e3 => ex_t (((e.trans e2).trans e3).trans (S'.sub _)) hs
  refine ⟨a, hv, ⟨xs, sq (S' := S) (Ex.refl _)⟩, r _ H2 i2 e2 (fun S' i H hi iH eH => ⟨⟨xs, xs[i], sq eH, List.getElem?_eq_getElem hi⟩, fun x H' y => ?_⟩) fun S' H iH eH => ⟨xs, sq eH, Nat.le_refl _⟩⟩
  obtain ⟨rfl, y2⟩ := y
  exact ⟨Ex.refl _, y2 xs (sq eH)⟩
theorem vi_str {z : Str} (g : Gv S te σ h (Is (.str z))) : GvI S (iStr te) σ h z.cps.size (fun i v _ => ∃ c, z.cps[i]? = some c ∧ v = .str ⟨#[c]⟩) := fun H1 i1 e R r => g H1 i1 e _ fun v H2 i2 e2 hv => by
  refine ⟨z, hv, r _ H2 i2 e2 (fun S' i H hi iH eH => ⟨hi, fun x H' y => ?_⟩) fun S' H iH eH => Nat.le_refl _⟩
  obtain ⟨rfl, y2⟩ := y
  exact ⟨Ex.refl _, y2⟩
theorem vi_rng {ta : TA} {n : Nat} (g : GvA S ta σ h (All [Is (.int (n : Nat))])) (hn : n ≤ 100000) : GvI S (iRng1 ta) σ h n (fun i v _ => v = .int (i : Nat)) := fun H1 i1 e R r => g H1 i1 e _ fun vs H2 i2 e2 ps => by
  obtain ⟨v, rfl, hv⟩ := MeE.all1 ps
  have hv' : v = .int (n : Nat) := hv
  subst hv'
  refine ⟨(n : Int), rfl, by omega, by omega, ?_⟩
  rw [Int.toNat_natCast]
  refine r _ H2 i2 e2 (fun S' i H hi iH eH => ⟨hi, fun x H' y => ?_⟩) fun S' H iH eH => Nat.le_refl _
  obtain ⟨rfl, y2⟩ := y
  refine ⟨Ex.refl _, ?_⟩
  rw [y2, Int.zero_add]
/-- items of data -/
theorem ddAll_get {H : Hp} : ∀ {ds : List PyData} {xs : List V}, DdAll K H xs ds → xs.length = ds.length ∧ ∀ (i : Nat) (x : V), xs[i]? = some x → ∃ d, ds[i]? = some d ∧ Dd K H x d
  | [], [], _ => ⟨rfl, fun i x e => by simp at e⟩
  | d :: ds, x :: xs, h => by
    cases h with
    | cons h1 h2 =>
      obtain ⟨l, k⟩ := ddAll_get h2
      refine ⟨by rw [List.length_cons, List.length_cons, l], fun i y e => ?_⟩
      cases i with
      | zero =>
        have e' : x = y := by simpa using e
        exact ⟨d, rfl, e' ▸ h1⟩
      | succ i => exact k i y (by simpa using e)
  | [], _ :: _, h => nomatch h
  | _ :: _, [], h => nomatch h
def DAt (K : PySem.W.Frag) (ds : List PyData) (i : Nat) : VP := fun v h => ∃ d, ds[i]? = some d ∧ Dd K h v d
theorem vi_dvL {ds : List PyData} (g : Gv S tl σ h (DV K (.list ds))) : GvI S (iList K tl) σ h ds.length (DAt K ds) := fun H1 i1 e R r => g H1 i1 e _ fun v H2 i2 e2 hv => by
  have hv' : Dd K (S.vw H2) v (.list ds) := hv
  cases hv' with
  | @lst a xs _ hs ha =>
    obtain ⟨l, k⟩ := ddAll_get ha
    have sq : ∀ {S' : Wv} {H : Hp}, Ex (S.vw H2) (S'.vw H) → SqL K H a xs := fun {S' H} e3 => ex_l (e3.trans (S'.sub _)) hs
    refine ⟨a, rfl, ⟨xs, sq (S' := S) (Ex.refl _)⟩, r _ H2 i2 e2 (fun S' i H hi iH eH => ?_) fun S' H iH eH => ⟨xs, sq eH, by rw [l]; exact Nat.le_refl _⟩⟩
    have hi' : i < xs.length := by rw [l]; exact hi
    refine ⟨⟨xs, xs[i], sq eH, List.getElem?_eq_getElem hi'⟩, fun x H' y => ?_⟩
    obtain ⟨rfl, y2⟩ := y
    obtain ⟨d, k1, k2⟩ := k i x (y2 xs (sq eH))
    exact ⟨Ex.refl _, d, k1, MeE.Dd.up eH k2⟩
theorem vi_dvT {ds : List PyData} (g : Gv S tl σ h (DV K (.tuple ds))) : GvI S (iTup K tl) σ h ds.length (DAt K ds) := fun H1 i1 e R r => g H1 i1 e _ fun v H2 i2 e2 hv => by
  have hv' : Dd K (S.vw H2) v (.tuple ds) := hv
  cases hv' with
  | @tup a xs _ hs ha =>
    obtain ⟨l, k⟩ := ddAll_get ha
    have sq : ∀ {S' : Wv} {H : Hp}, Ex (S.vw H2) (S'.vw H) → SqT K H a xs := fun {S' H} e3 => ex_t (e3.trans (S'.sub _)) hs
    refine ⟨a, rfl, ⟨xs, sq (S' := S) (Ex.refl _)⟩, r _ H2 i2 e2 (fun S' i H hi iH eH => ?_) fun S' H iH eH => ⟨xs, sq eH, by rw [l]; exact Nat.le_refl _⟩⟩
    have hi' : i < xs.length := by rw [l]; exact hi
    refine ⟨⟨xs, xs[i], sq eH, List.getElem?_eq_getElem hi'⟩, fun x H' y => ?_⟩
    obtain ⟨rfl, y2⟩ := y
    obtain ⟨d, k1, k2⟩ := k i x (y2 xs (sq eH))
    exact ⟨Ex.refl _, d, k1, MeE.Dd.up eH k2⟩
/-! comprehensions -/
def givP (n : Nat) (f : Nat → Bool) (E : Nat → VP) : List VP := ((List.range n).filter f).map E
theorem givP_yes {f : Nat → Bool} {E : Nat → VP} (h : f n = true) : givP (n + 1) f E = givP n f E ++ [E n] := by
  unfold givP
  rw [List.range_succ, List.filter_append, List.map_append, List.filter_cons, if_pos h] <;> rfl
theorem givP_no {f : Nat → Bool} {E : Nat → VP} (h : f n = false) : givP (n + 1) f E = givP n f E := by
  unfold givP
  rw [List.range_succ, List.filter_append, List.map_append, List.filter_cons, if_neg (by rw [h]; decide)]
  show _ ++ [] = _
  rw [List.append_nil]
theorem givP_len (n : Nat) (f : Nat → Bool) (E : Nat → VP) : (givP n f E).length ≤ n := by
  unfold givP
  rw [List.length_map]
  have h := List.length_filter_le f (List.range n)
  rw [List.length_range] at h
  exact h
theorem givP_mono {f : Nat → Bool} {E : Nat → VP} (m : ∀ i, i < n → Mono (E i)) : MonoL (givP n f E) := fun R hR => by
  unfold givP at hR
  obtain ⟨i, hi, rfl⟩ := List.mem_map.mp hR
  exact m i (List.mem_range.mp (List.mem_filter.mp hi).1)
theorem walk_of {J : It} {H2 : Hp} (h1 : ∀ (S' : Wv) i H, i < n → S'.I H → Ex (S.vw H2) (S'.vw H) → J.go i H ∧ ∀ x H', J.yld i H x H' → Ex H H' ∧ Pi i x (S'.vw H')) (h2 : ∀ (S' : Wv) H, S'.I H → Ex (S.vw H2) (S'.vw H) → J.stop n H) :
    Walk J n (fun H => ∃ S' : Wv, S'.I H ∧ Ex (S.vw H2) (S'.vw H)) (fun i H x H' => Ex H H' ∧ ∀ S' : Wv, S'.I H → Ex (S.vw H2) (S'.vw H) → Pi i x (S'.vw H')) :=
  ⟨fun i H hi ⟨S', a, b⟩ => (h1 S' i H hi a b).1, fun H ⟨S', a, b⟩ => h2 S' H a b, fun i H x H' hi ⟨S', a, b⟩ y => ⟨((h1 S' i H hi a b).2 x H' y).1, fun S1 a1 b1 => ((h1 S1 i H hi a1 b1).2 x H' y).2⟩⟩
theorem v_lc {j : Nat} {vs : List Nat} (f : Nat → Bool) (E : Nat → VP) (gi : GvI S wi σ h n Pi) (hn : n ≤ 50000) (m : ∀ i, i < n → Mono (E i)) (hw : ∀ x, wipe ((wipe σ vs).set j (some x)) vs = wipe σ vs)
    (ht : ∀ (Dl : Addr) (acc : List V) (i : Nat) (x : V) (h1 : Hp), i < n → Ex h h1 → Pi i x h1 → GvT (S.lst Dl acc) t ((wipe σ vs).set j (some x)) h1 (f i))
    (he : ∀ (Dl : Addr) (acc : List V) (i : Nat) (x : V) (h1 : Hp), i < n → Ex h h1 → Pi i x h1 → f i = true → Gv (S.lst Dl acc) te ((wipe σ vs).set j (some x)) h1 (E i)) (hPm : ∀ i, Mono (Pi i)) :
    Gv S (tLc wi (gName j) t te vs) σ h (Lst (givP n f E)) := fun H0 i0 e0 Q q => gi H0 i0 e0 _ fun J H2 i2 e2 c1 c2 Dl hD => by
  have nD : S.vw H2 Dl = none := by
    cases z : S.vw H2 Dl with
    | none => rfl
    | some o =>
      rw [S.sub _ _ _ z] at hD
      cases hD
  refine lc_it (walk_of c1 c2) (fun i H => ∃ acc, (S.lst Dl acc).I H ∧ Ex (S.vw H2) ((S.lst Dl acc).vw H) ∧ All (givP i f E) acc ((S.lst Dl acc).vw H)) ?_ ?_ ?_ ?_
  · obtain ⟨u1, u2⟩ := S.up i2 (Ex.new (o := .lst []) hD)
    exact ⟨[], lst_of u1 (S.see i2 hD (Ex.new hD) upd_same pl_lst.1), ex_hide u2 nD, trivial⟩
  · intro i H _ ⟨acc, a, b, _⟩
    exact ⟨_, a, b⟩
  · intro i x H H' hi ⟨acc, a, b, c⟩ y
    obtain ⟨y1, y2⟩ := y
    have hp := y2 _ a b
    obtain ⟨a', ea⟩ := (S.lst Dl acc).up a y1
    have mE := givP_mono (n := i) (f := f) (E := E) (fun k hk => m k (Nat.lt_trans hk hi))
    have c' := c.up ea mE
    refine ⟨hw x, ht Dl acc i x _ hi ((e0.trans e2).trans (b.trans ea)) hp H' a' (Ex.refl _) _ fun H3 i3 e3 => ?_⟩
    cases hf : f i with
    | true =>
      show te _ H3 _
      refine he Dl acc i x _ hi ((e0.trans e2).trans ((b.trans ea).trans e3)) (hPm i _ _ _ e3 hp) hf H3 i3 (Ex.refl _) _ fun y H4 i4 e4 py => ⟨acc, S.sub _ _ _ (lst_at i4), ?_, acc ++ [y], ?_⟩
      · rw [c.len]
        exact Nat.lt_of_le_of_lt (givP_len i f E) (sz_lt (by omega))
      · obtain ⟨k1, k2⟩ := hide_set i4 (o' := .lst (acc ++ [y])) pl_lst
        have k3 : (S.lst Dl (acc ++ [y])).vw (upd H4 Dl (.lst (acc ++ [y]))) = (S.lst Dl acc).vw H4 := hide_same i4 pl_lst
        refine ⟨lst_of k1 (by rw [k2, upd_same]), ?_, ?_⟩
        · rw [k3]
          exact ((b.trans ea).trans e3).trans e4
        · rw [k3, givP_yes hf]
          exact ((c'.up e3 mE).up e4 mE).app ⟨py, trivial⟩
    | false =>
      show ∃ acc, _
      refine ⟨acc, i3, (b.trans ea).trans e3, ?_⟩
      rw [givP_no hf]
      exact c'.up e3 mE
  · intro H ⟨acc, a, b, c⟩
    have a1 := a.1
    exact q _ H a1 (e2.trans (b.trans hide_ex)) ⟨Dl, acc, rfl, lst_at a, c.up hide_ex (givP_mono m)⟩
/-! loops -/
variable {D : Ends} {tu tz : TS} {g : TG} {H : Hp}
theorem x_for (iH : S.I H) (gi : GvI S wi σ (S.vw H) n Pi) (Pv : Nat → L2.St → Hp → Prop) (hm : ∀ i σ' H1 H2, i ≤ n → S.I H1 → Ex H1 H2 → Pv i σ' H1 → Pv i σ' H2)
    (h0 : ∀ H1, S.I H1 → Ex (S.vw H) (S.vw H1) → Pv 0 σ H1)
    (hs : ∀ i x σ' H', i < n → S.I H' → Ex (S.vw H) (S.vw H') → Pi i x (S.vw H') → Pv i σ' H' → ∀ N : L2.St → Hp → Prop, (∀ σ3 H3, S.I H3 → Ex (S.vw H') (S.vw H3) → Pv (i + 1) σ3 H3 → N σ3 H3) → g x σ' H' fun σ2 H2 => tu { D with nx := N, ct := N, bk := D.nx } σ2 H2)
    (hd : ∀ σ' H', S.I H' → Ex (S.vw H) (S.vw H') → Pv n σ' H' → D.nx σ' H') : tFor wi g tu D σ H := gi H iH (Ex.refl _) _ fun J H2 i2 e2 c1 c2 => by
  refine for_it (walk_of c1 c2) (fun i σ' H' => S.I H' ∧ Ex (S.vw H2) (S.vw H') ∧ Pv i σ' H') ⟨i2, Ex.refl _, h0 H2 i2 e2⟩ (fun i σ' H' _ ⟨a, b, _⟩ => ⟨S, a, b⟩) (fun i x σ' H1 H' hi ⟨a, b, c⟩ y => ?_) fun σ' H' ⟨a, b, c⟩ => hd σ' H' a (e2.trans b) c
  obtain ⟨y1, y2⟩ := y
  obtain ⟨a', ea⟩ := S.up a y1
  exact hs i x σ' H' hi a' (e2.trans (b.trans ea)) (y2 S a b) (hm i σ' H1 H' (Nat.le_of_lt hi) a y1 c) _ fun σ3 H3 i3 e3 p3 => ⟨i3, (b.trans ea).trans e3, p3⟩
end
end MeV
end
section
set_option Elab.async false
set_option linter.all false
set_option maxRecDepth 100000
set_option maxHeartbeats 4000000
/-! a pool that is drawn from; tables that lambdas write; what may be done in a view -/
namespace MeV
open PySem L2 Evl MeH MeG LamX MeL
open MeE (VP Mono Is All MonoL Lst Tup mono_is monoL_nil monoL_cons monoL_app mono_lst mono_tup DP DV mono_dp mono_dv mono_dvs mono_dps)
def poolO (a b : Int) : HO := .lst [.int a, .int b]
def PoolJ (o : HO) : Prop := ∃ a b : Int, o = poolO a b ∧ 0 ≤ b ∧ b < 4294967296
def HasPool (S : Wv) (p : Addr) : Prop := ∀ H, S.I H → (∃ a b : Int, H p = some (poolO a b) ∧ 0 ≤ b ∧ b < 4294967296) ∧ ∀ a b : Int, 0 ≤ b → b < 4294967296 → S.I (upd H p (poolO a b)) ∧ S.vw (upd H p (poolO a b)) = S.vw H
theorem pool_hide {S : Wv} {p : Addr} : HasPool (S.hide p PoolJ) p := fun H i => by
  obtain ⟨i1, o, h1, h2, a, b, h3, h4, h5⟩ := id i
  refine ⟨⟨a, b, by rw [← h3]; exact S.sub _ _ _ h1, h4, h5⟩, fun a' b' h6 h7 => ?_⟩
  obtain ⟨k1, k2⟩ := hide_set i (o' := poolO a' b') pl_lst
  exact ⟨⟨k1, poolO a' b', by rw [k2, upd_same], pl_lst, a', b', rfl, h6, h7⟩, hide_same i pl_lst⟩
theorem HasPool.none {S : Wv} {p : Addr} (hp : HasPool S p) {H : Hp} (i : S.I H) : S.vw H p = none := by
  cases z : S.vw H p with
  | none => rfl
  | some o =>
    have k := hp H i
    have e0 := (k.2 0 0 (by decide) (by decide)).2
    have e1 := (k.2 1 0 (by decide) (by decide)).2
    have f0 := S.sub _ _ _ (show S.vw (upd H p (poolO 0 0)) p = some o by rw [e0]; exact z)
    have f1 := S.sub _ _ _ (show S.vw (upd H p (poolO 1 0)) p = some o by rw [e1]; exact z)
    rw [upd_same] at f0 f1
    rw [← f0] at f1
    have f2 := Option.some.inj f1
    unfold poolO at f2
    simp at f2
theorem HasPool.hide {S : Wv} {p D : Addr} {J : HO → Prop} (hp : HasPool S p) : HasPool (S.hide D J) p := fun H i => by
  obtain ⟨i1, o, h1, h2⟩ := i
  refine ⟨(hp H i1).1, fun a b h6 h7 => ?_⟩
  obtain ⟨k1, k2⟩ := (hp H i1).2 a b h6 h7
  refine ⟨⟨k1, o, by rw [k2]; exact h1, h2⟩, ?_⟩
  show hv (S.vw (upd H p (poolO a b))) D = hv (S.vw H) D
  rw [k2]
/-- tables -/
structure HasTab (S : Wv) (T : List (Addr × Str)) : Prop where
  tab : ∀ H, S.I H → Tabs T H
  step : ∀ H H1, S.I H → ExtN H H1 → Tabs T H1 → S.I H1 ∧ Ex (S.vw H) (S.vw H1)
  see : ∀ H H1 q o, S.I H → ExtN H H1 → H q = none → H1 q = some o → (∀ ps, o ≠ .tbl ps) → S.vw H1 q = some o
  code : ∀ H c s, S.I H → H c = some (CodeO c s) → S.vw H c = some (CodeO c s)
theorem tab_tab (T : List (Addr × Str)) : HasTab (tabW T) T where
  tab := fun _ i => i
  step := fun H H1 i e t => ⟨t, noT_ex e⟩
  see := fun H H1 q o _ _ _ h n => noT_of h n
  code := fun H c s _ h => noT_of h codeO_ne
theorem HasTab.hide {S : Wv} {T : List (Addr × Str)} {D : Addr} {J : HO → Prop} (ht : HasTab S T) : HasTab (S.hide D J) T where
  tab := fun H i => ht.tab H i.1
  step := fun H H1 i e t => by
    obtain ⟨i1, o, h1, h2⟩ := i
    obtain ⟨k1, k2⟩ := ht.step H H1 i1 e t
    exact ⟨⟨k1, o, k2 _ _ h1, h2⟩, fun b v h => hv_of (k2 _ _ (of_hv h).2) (of_hv h).1⟩
  see := fun H H1 q o i e n h k => by
    obtain ⟨i1, o1, h1, h2⟩ := i
    refine hv_of (ht.see H H1 q o i1 e n h k) fun z => ?_
    rw [z, S.sub _ _ _ h1] at n
    cases n
  code := fun H c s i h => by
    obtain ⟨i1, o1, h1, h2, _⟩ := i
    refine hv_of (ht.code H c s i1 h) fun z => ?_
    rw [z] at h
    have e := (S.sub _ _ _ h1).symm.trans h
    exact h2.2 _ _ (Option.some.inj e)
section
variable {S : Wv} {K : PySem.W.Frag} {σ : L2.St} {h h' : Hp} {ta tb te tl : TE}
/-- a lambda that stands -/
def LamV (q : Str) (params : Arguments) (body : Expr) (scope : Scope) (cl : List (Str × Addr)) : VP := fun v h => ∃ f c' : Addr, v = .ref f ∧ h f = some (LamO f c' q params body scope cl) ∧ h c' = some (CodeO c' q)
theorem mono_lam {q : Str} {params : Arguments} {body : Expr} {scope : Scope} {cl : List (Str × Addr)} : Mono (LamV q params body scope cl) := fun _ _ _ e ⟨f, c', h1, h2, h3⟩ => ⟨f, c', h1, e _ _ h2, e _ _ h3⟩
theorem v_lam {T : List (Addr × Str)} {q : Str} {params : Arguments} {body : Expr} {scope : Scope} {cl : List (Str × Addr)} (ht : HasTab S T) : Gv S (tLamV T q params body scope cl) σ h (LamV q params body scope cl) := fun H1 i1 e1 Q q0 =>
  ⟨ht.tab H1 i1, fun f c' H2 nf e2 t2 hf hc => by
    obtain ⟨k1, k2⟩ := ht.step H1 H2 i1 e2 t2
    exact q0 _ H2 k1 k2 ⟨f, c', rfl, ht.see H1 H2 f _ i1 e2 nf hf lamO_tbl, ht.code H2 c' q k1 hc⟩⟩
/-- a call read at its place -/
theorem v_in {TT : L2.St → List V → Hp → VK → Prop} {n : Nat} {t : TA} {Ps : List V → Hp → Prop} {R : VP} (g : GvA S t σ h Ps) (hl : ∀ vs h1, Ps vs h1 → vs.length = n)
    (hr : ∀ vs H1, S.I H1 → Ex h (S.vw H1) → Ps vs (S.vw H1) → ∀ Q : VK, (∀ z H2, S.I H2 → Ex (S.vw H1) (S.vw H2) → R z (S.vw H2) → Q z H2) → TT σ vs H1 Q) : Gv S (tIn TT n t) σ h R := fun H1 i e Q q =>
  g H1 i e _ fun vs H2 i2 e2 ps => ⟨hl _ _ ps, hr vs H2 i2 (e.trans e2) ps Q fun z H3 i3 e3 pz => q z H3 i3 (e2.trans e3) pz⟩
end
end MeV
end
section
set_option Elab.async false
set_option linter.all false
set_option maxRecDepth 100000
set_option maxHeartbeats 4000000
/-! readings of data: kinds, lengths, items, tests, texts -/
namespace MeV
open PySem PySem.Spec PyProof.Rows L2 Evl MeH MeG LamX MeL
open MeE (VP Mono Is All MonoL Lst Tup mono_is monoL_nil monoL_cons monoL_app mono_lst mono_tup DP DV mono_dp mono_dv mono_dvs mono_dps)
/-- the kind of data -/
def tyD : PyData → String
  | .none => "NoneType"
  | .bool _ => "bool"
  | .int _ => "int"
  | .str _ => "str"
  | .list _ => "list"
  | .tuple _ => "tuple"
  | .dict _ => "dict"
mutual
/-- all texts within are short -/
def szB : PyData → Bool
  | .str x => decide (x.length ≤ 100000)
  | .list xs => szL xs
  | .tuple xs => szL xs
  | _ => true
def szL : List PyData → Bool
  | [] => true
  | d :: ds => szB d && szL ds
end
theorem szL_get {ds : List PyData} {i : Nat} {d : PyData} (h : szL ds = true) (e : ds[i]? = some d) : szB d = true := by
  induction ds generalizing i with
  | nil => simp at e
  | cons a r ih =>
    unfold szL at h
    obtain ⟨h1, h2⟩ := Bool.and_eq_true_iff.mp h
    cases i with
    | zero =>
      have e' : a = d := by simpa using e
      exact e' ▸ h1
    | succ i => exact ih h2 (by simpa using e)
theorem ty_dd {K : PySem.W.Frag} {H : Hp} {v : V} {d : PyData} (h : Dd K H v d) : TyX K H v (.type (tyD d)) := by
  cases h with
  | non => exact .base .non
  | bl b => exact .base (.bl b)
  | int i => exact .base (.int i)
  | str x => exact .base (.str x)
  | lst hs _ =>
    rcases hs with (h | ⟨o, h⟩) | ⟨o, its, n, h1, h2, _⟩
    · exact .base (.lst h)
    · exact .base (.frz h)
    · exact .kList h1 h2
  | tup hs _ =>
    rcases hs with (h | ⟨o, h⟩) | ⟨o, its, n, h1, h2, _⟩
    · exact .base (.tup h)
    · exact .fTuple h
    · exact .kTuple h1 h2
  | dic hs _ =>
    rcases hs with h | ⟨o, h⟩
    · exact .base (.dK h)
    · exact .fDict h
/-- f of one piece of data gives a plain value -/
def spD (K : PySem.W.Frag) (C : PyData → Prop) (f : PyData → V) : Sp := fun vs H Q _ => ∃ (v : V) (d : PyData), vs = [v] ∧ Dd K H v d ∧ C d ∧ ∀ H', Ex H H' → Q (f d) H'
section
variable {S : Wv} {K : PySem.W.Frag} {σ : L2.St} {h h' : Hp} {ta tb tc te tl : TE} {t u : TT} {P P' R : VP} {v : V}
theorem v_spD {C : PyData → Prop} {f : PyData → V} {E : XK} {d : PyData} (g : Gv S ta σ h (DV K d)) (hC : C d) : Gv S (tCall (spD K C f) [] E (tCons ta tNil)) σ h (Is (f d)) :=
  v_call (Ps := All [DV K d]) (va_cons g (mono_dv d) va_nil) fun vs H1 i e ps Q q => by
    obtain ⟨w, rfl, hw⟩ := MeE.all1 ps
    exact ⟨w, d, rfl, MeE.Dd.up (S.sub _) hw, hC, fun H' e' => q _ H' (S.up i e').1 (S.up i e').2 rfl⟩
/-- isinstance(e, T) -/
theorem v_isi {d : PyData} {T : String} {b : Bool} (g : Gv S ta σ h (DV K d)) (hk : kitB (tyD d) T = some b) : Gv S (tCB (rIsi K) (tCons ta (tCons (tC (.ty T)) tNil))) σ h (Is (.bl b)) := fun H1 i e Q q =>
  g H1 i e _ fun w H2 i2 e2 p => ⟨w, .ty T, _, _, b, rfl, .ty T, ty_dd (MeE.Dd.up (S.sub _) p), kit_ty hk, q _ H2 i2 e2 rfl⟩
theorem v_le2 {a b c : Int} (ga : Gv S ta σ h (Is (.int a))) (gb : Gv S tb σ h (Is (.int b))) (gc : Gv S tc σ h (Is (.int c))) :
    Gv S (tChain (rI0 fun i j => .bl (decide (i ≤ j))) (rI0 fun i j => .bl (decide (i ≤ j))) ta tb tc) σ h (Is (.bl (decide (a ≤ b) && decide (b ≤ c)))) := fun H1 i e Q q =>
  ga H1 i e _ fun x H2 i2 e2 px => gb H2 i2 (e.trans e2) _ fun y H3 i3 e3 py => ⟨a, b, px, py, decide (a ≤ b), rfl, by
    by_cases hab : a ≤ b
    · rw [if_pos (decide_eq_true hab)]
      exact gc H3 i3 ((e.trans e2).trans e3) _ fun z H4 i4 e4 pz => ⟨b, c, py, pz, q _ H4 i4 ((e2.trans e3).trans e4) (by rw [decide_eq_true hab]; rfl)⟩
    · rw [if_neg (by rw [decide_eq_false hab]; decide)]
      exact q _ H3 i3 (e2.trans e3) (by rw [decide_eq_false hab]; rfl)⟩
theorem v_lenS {x : Str} (g : Gv S ta σ h (Is (.str x))) (hz : x.length ≤ 100000) : Gv S (tCB (fun xs H Q => ∃ z : Str, xs = [.str z] ∧ z.length ≤ sizeLine ∧ Q (.int z.length) H) (tCons ta tNil)) σ h (Is (.int (x.length : Nat))) := fun H1 i e Q q =>
  g H1 i e _ fun w H2 i2 e2 p => by
    have p' : w = .str x := p
    subst p'
    exact ⟨x, rfl, sz_of hz, q _ H2 i2 e2 rfl⟩
theorem v_lenT {ds : List PyData} (g : Gv S ta σ h (DV K (.tuple ds))) : Gv S (tCB (rLenS K) (tCons ta tNil)) σ h (Is (.int (ds.length : Nat))) := fun H1 i e Q q =>
  g H1 i e _ fun w H2 i2 e2 p => by
    have p' : Dd K (S.vw H2) w (.tuple ds) := p
    cases p' with
    | @tup a xs _ hs ha => exact ⟨a, xs, rfl, .inr (ex_t (S.sub _) hs), by rw [(ddAll_get ha).1]; exact q _ H2 i2 e2 rfl⟩
theorem v_lenL {Ps : List VP} (g : Gv S ta σ h (Lst Ps)) : Gv S (tCB (rLenS K) (tCons ta tNil)) σ h (Is (.int (Ps.length : Nat))) := fun H1 i e Q q =>
  g H1 i e _ fun w H2 i2 e2 ⟨p, xs, hw, hp, ax⟩ => ⟨p, xs, by rw [hw], .inl (sq_of (S.sub _ _ _ hp)), by rw [ax.len]; exact q _ H2 i2 e2 rfl⟩
/-- t[j] of a tuple of data -/
theorem v_ixT {ds : List PyData} {j : Nat} {d : PyData} (ga : Gv S ta σ h (DV K (.tuple ds))) (gb : Gv S tb σ h (Is (.int (j : Nat)))) (hj : ds[j]? = some d) : Gv S (tOp (rIxT K) ta tb) σ h (DV K d) :=
  v_op ga gb (mono_dv _) fun x y H1 i e px py Q q => by
    have py' : y = .int (j : Nat) := py
    subst py'
    have px' : Dd K (S.vw H1) x (.tuple ds) := px
    cases px' with
    | @tup a xs _ hs ha =>
      obtain ⟨l, k⟩ := ddAll_get ha
      have hlt : j < xs.length := by
        rw [l]
        exact (List.getElem?_eq_some_iff.mp hj).1
      obtain ⟨d', k1, k2⟩ := k j _ (List.getElem?_eq_getElem hlt)
      rw [hj] at k1
      cases k1
      exact ⟨a, xs, (j : Nat), xs[j], rfl, rfl, ex_t (S.sub _) hs, atI_nat (List.getElem?_eq_getElem hlt), q _ H1 i (Ex.refl _) k2⟩
theorem dv_str {x : Str} (g : Gv S ta σ h (DV K (.str x))) : Gv S ta σ h (Is (.str x)) := g.imp fun v h1 _ p => by
  have p' : Dd K h1 v (.str x) := p
  cases p' with
  | str _ => rfl
theorem dv_int {x : Int} (g : Gv S ta σ h (DV K (.int x))) : Gv S ta σ h (Is (.int x)) := g.imp fun v h1 _ p => by
  have p' : Dd K h1 v (.int x) := p
  cases p' with
  | int _ => rfl
theorem is_str {x : Str} (g : Gv S ta σ h (Is (.str x))) : Gv S ta σ h (DV K (.str x)) := g.imp fun v h1 _ p => by
  have p' : v = .str x := p
  subst p'
  exact Dd.str x
theorem is_int {x : Int} (g : Gv S ta σ h (Is (.int x))) : Gv S ta σ h (DV K (.int x)) := g.imp fun v h1 _ p => by
  have p' : v = .int x := p
  subst p'
  exact Dd.int x
def LB (bs : List Bool) : VP := Lst (bs.map fun b => Is (.bl b))
theorem all_bl {H : Hp} : ∀ {bs : List Bool} {xs : List V}, All (bs.map fun b => Is (.bl b)) xs H → xs = bs.map V.bl
  | [], [], _ => rfl
  | [], _ :: _, h => h.elim
  | _ :: _, [], h => h.elim
  | b :: bs, x :: xs, h => by
    have h1 : x = .bl b := h.1
    rw [h1, all_bl h.2, List.map_cons]
theorem v_all {bs : List Bool} (g : Gv S ta σ h (LB bs)) : Gv S (tCB (rAll K) (tCons ta tNil)) σ h (Is (.bl (bs.all id))) := fun H1 i e Q q =>
  g H1 i e _ fun w H2 i2 e2 ⟨p, xs, hw, hp, ax⟩ => ⟨p, bs, by rw [hw], by rw [← all_bl ax]; exact sq_of (S.sub _ _ _ hp), q _ H2 i2 e2 rfl⟩
theorem v_any {bs : List Bool} (g : Gv S ta σ h (LB bs)) : Gv S (tCB (rAny K) (tCons ta tNil)) σ h (Is (.bl (bs.any id))) := fun H1 i e Q q =>
  g H1 i e _ fun w H2 i2 e2 ⟨p, xs, hw, hp, ax⟩ => ⟨p, bs, by rw [hw], by rw [← all_bl ax]; exact sq_of (S.sub _ _ _ hp), q _ H2 i2 e2 rfl⟩
/-- c in s, one sign -/
theorem v_inS {c : Nat} {z : Str} (ga : Gv S ta σ h (Is (.str ⟨#[c]⟩))) (gb : Gv S tb σ h (Is (.str z))) :
    Gv S (tOp (fun x y H Q => ∃ (c : Nat) (z : Str), x = .str ⟨#[c]⟩ ∧ y = .str z ∧ Q (.bl (decide (c ∈ z.cps.toList))) H) ta tb) σ h (Is (.bl (decide (c ∈ z.cps.toList)))) := v_opV ga gb fun H1 _ Q q => ⟨c, z, rfl, rfl, q H1 (Ex.refl _)⟩
theorem v_ninS {c : Nat} {z : Str} (ga : Gv S ta σ h (Is (.str ⟨#[c]⟩))) (gb : Gv S tb σ h (Is (.str z))) :
    Gv S (tOp (fun x y H Q => ∃ (c : Nat) (z : Str), x = .str ⟨#[c]⟩ ∧ y = .str z ∧ Q (.bl (!decide (c ∈ z.cps.toList))) H) ta tb) σ h (Is (.bl (!decide (c ∈ z.cps.toList)))) := v_opV ga gb fun H1 _ Q q => ⟨c, z, rfl, rfl, q H1 (Ex.refl _)⟩
theorem v_eq {x y : V} (ga : Gv S ta σ h (Is x)) (gb : Gv S tb σ h (Is y)) (hs : scal x y = true) : Gv S (tOp rEq ta tb) σ h (Is (.bl (decide (x = y)))) := v_opV ga gb (rv_eq hs)
theorem v_ne {x y : V} (ga : Gv S ta σ h (Is x)) (gb : Gv S tb σ h (Is y)) (hs : scal x y = true) : Gv S (tOp rNe ta tb) σ h (Is (.bl (!decide (x = y)))) := v_opV ga gb (rv_ne hs)
theorem v_notV {b : Bool} (g : Gv S ta σ h (Is (.bl b))) : Gv S (tNotV ta) σ h (Is (.bl (!b))) := fun H1 i e Q q => g H1 i e _ fun w H2 i2 e2 ew => ⟨b, ew, q _ H2 i2 e2 rfl⟩
theorem v_yes : GvT S tYes σ h true := fun H1 i e Q q => q H1 i (Ex.refl _)
theorem givP_all {n : Nat} {E : Nat → VP} : givP n (fun _ => true) E = (List.range n).map E := by
  unfold givP
  rw [List.filter_eq_self.mpr (fun _ _ => rfl)]
end
end MeV
end
section
set_option Elab.async false
set_option linter.all false
set_option maxRecDepth 100000
set_option maxHeartbeats 4000000
/-! dicts whose keys are None, numbers, texts and tuples of such, together: what a look-up finds -/
namespace MeD
open PySem PySem.Spec PyProof.Rows
/-- an entry: what its key is, the key's value, the value -/
abbrev Ent := NestedKey × Value × Value
def ent (w : World) (x : Ent) : DictEntry := ⟨x.1.hash w, x.2.1, x.2.2⟩
def IsK (h : Heap) (k : NestedKey) (v : Value) : Prop := NestedIs h k v ∧ k.depth ≤ 8
def ixK (xs : List Ent) (k : NestedKey) : Option Nat := xs.findIdx? fun x => decide (x.1 = k)
section
variable {xs : List Ent} {k : NestedKey}
theorem ixK_some {j : Nat} (h : ixK xs k = some j) : ∃ p, xs[j]? = some (k, p) := by
  obtain ⟨hj, h1, _⟩ := List.findIdx?_eq_some_iff_getElem.mp h
  refine ⟨xs[j].2, ?_⟩
  rw [List.getElem?_eq_getElem hj]
  have e : xs[j].1 = k := of_decide_eq_true h1
  rw [← e] <;> rfl
theorem ixK_none (h : ixK xs k = none) : ∀ x ∈ xs, x.1 ≠ k := fun x hx => of_decide_eq_false (by
  have := List.findIdx?_eq_none_iff.mp h x hx
  simpa using this)
theorem ixK_of (hn : (xs.map (·.1)).Nodup) {j : Nat} {p : Value × Value} (h : xs[j]? = some (k, p)) : ixK xs k = some j := by
  cases e : ixK xs k with
  | none => exact absurd rfl (ixK_none e _ (List.mem_of_getElem? h))
  | some i =>
    obtain ⟨q, hq⟩ := ixK_some e
    have h1 : (xs.map (·.1))[i]? = some k := by rw [List.getElem?_map, hq] <;> rfl
    have h2 : (xs.map (·.1))[j]? = some k := by rw [List.getElem?_map, h] <;> rfl
    rw [(List.getElem?_inj (List.getElem?_eq_some_iff.mp h1).1 hn).mp (h1.trans h2.symm)]
end
theorem fi_congr {α : Type} {p q : α → Bool} : ∀ (l : List α), (∀ x ∈ l, p x = q x) → l.findIdx? p = l.findIdx? q
  | [], _ => rfl
  | x :: l, h => by
    rw [List.findIdx?_cons, List.findIdx?_cons, h x List.mem_cons_self, fi_congr l fun y hy => h y (List.mem_cons_of_mem _ hy)]
section
variable {prog : Program} {w : World} {A : Around} {E : Value → Shared → Prop} {s : Shared} {d : Addr} {o : Obj} {es : Array DictEntry} {ep : Nat} {xs : List Ent} {k : NestedKey} {key : Value}
theorem ents_at (he : es.toList = xs.map (ent w)) (j : Nat) : es[j]? = xs[j]?.map (ent w) := by
  rw [← Array.getElem?_toList, he, List.getElem?_map]
theorem ents_size (he : es.toList = xs.map (ent w)) : es.size = xs.length := by
  have := congrArg List.length he
  rw [List.length_map] at this
  exact this
theorem IsK.quiet {Q : Bool → Shared → Prop} (h : IsK s.heap k key) (hq : Q true s) : wpAny (model prog w) A (eqIsQuiet 8 key) Q E s := quiet_key k key 8 s h.1 h.2 A E Q hq
theorem IsK.eq {k' : NestedKey} {u : Value} {Q : Bool → Shared → Prop} (hu : A.units + 8 < cLine) (h' : IsK s.heap k' u) (h : IsK s.heap k key) (hq : Q (decide (k' = k)) s) : wpAny (model prog w) A (eqBool u key) Q E s :=
  eqAt_key k' k A s u key h'.1 h.1 (by have := h.2; omega) prog w E Q (by rw [← NestedKey.decide_eq]; exact hq)
/-- the keys of equal hash -/
def mates (w : World) (k : NestedKey) (es : Array DictEntry) : List Nat := placesWithHash es.size (fun i => es[i]?.map (·.hash)) (k.hash w)
theorem mates_mem {i : Nat} : i ∈ mates w k es ↔ es[i]?.map (·.hash) = some (k.hash w) := by
  unfold mates placesWithHash
  rw [List.mem_filter, List.mem_range]
  constructor
  · intro h
    exact beq_iff_eq.mp h.2
  · intro h
    refine ⟨?_, beq_iff_eq.mpr h⟩
    cases q : es[i]? with
    | none => rw [q] at h; cases h
    | some e => exact (Array.getElem?_eq_some_iff.mp q).1
theorem mates_nodup : (mates w k es).Nodup := List.Nodup.sublist List.filter_sublist List.nodup_range
def isAt (xs : List Ent) (k : NestedKey) (i : Nat) : Bool := match xs[i]? with
  | some x => decide (x.1 = k)
  | none => false
theorem find_mates (he : es.toList = xs.map (ent w)) (hn : (xs.map (·.1)).Nodup) : (mates w k es).find? (isAt xs k) = ixK xs k := by
  cases e : ixK xs k with
  | none =>
    rw [List.find?_eq_none]
    intro i _ h
    unfold isAt at h
    split at h
    · rename_i x hx
      exact ixK_none e x (List.mem_of_getElem? hx) (of_decide_eq_true h)
    · cases h
  | some j =>
    obtain ⟨p, hp⟩ := ixK_some e
    cases q : (mates w k es).find? (isAt xs k) with
    | none =>
      have hm : j ∈ mates w k es := mates_mem.mpr (by rw [ents_at he, hp] <;> rfl)
      have := List.find?_eq_none.mp q j hm
      unfold isAt at this
      rw [hp] at this
      simp at this
    | some i =>
      have := List.find?_some q
      unfold isAt at this
      split at this
      · rename_i x hx
        have ek : x.1 = k := of_decide_eq_true this
        have : ixK xs k = some i := ixK_of hn (p := x.2) (by rw [hx, ← ek])
        rw [← this, e]
      · cases this
theorem one_hit (hn : (xs.map (·.1)).Nodup) {i j : Nat} (h1 : isAt xs k i = true) (h2 : isAt xs k j = true) : i = j := by
  have f : ∀ i, isAt xs k i = true → ixK xs k = some i := fun i h => by
    unfold isAt at h
    split at h
    · rename_i x hx
      have ek : x.1 = k := of_decide_eq_true h
      exact ixK_of hn (p := x.2) (by rw [hx, ← ek])
    · cases h
  exact Option.some.inj ((f i h1).symm.trans (f j h2))
theorem iteC {α : Type} {M : Model} {c : Prop} [Decidable c] {a b : Sem α} {Q : α → Shared → Prop} (h1 : c → wpAny M A a Q E s) (h2 : ¬ c → wpAny M A b Q E s) : wpAny M A (if c then a else b) Q E s := by
  by_cases h : c
  · rw [if_pos h]
    exact h1 h
  · rw [if_neg h]
    exact h2 h
theorem tells {stored : List Value} {Q : Bool → Shared → Prop} (hk : IsK s.heap k key) (hst : ∀ v ∈ stored, ∃ k', IsK s.heap k' v) (h : Q false s) : wpAny (model prog w) A (tableMayTell key stored) Q E s := by
  unfold tableMayTell
  by_cases he : stored.isEmpty = true
  · rw [if_pos he]
    exact wpAny_pure h
  · rw [if_neg he]
    refine wpAny_bind (hk.quiet ?_)
    refine wpAny_bind ?_
    refine wpAny_forIn_list _ (fun r b s' => s' = s ∧ b = (none, ()) ∧ ∀ v ∈ r, ∃ k', IsK s.heap k' v) _ (fun v r b s' hI => ?_) (fun b s' hI => ?_) _ _ ⟨rfl, rfl, hst⟩
    · obtain ⟨rfl, rfl, hr⟩ := hI
      obtain ⟨k', hv⟩ := hr v List.mem_cons_self
      exact wpAny_bind (hv.quiet (wpAny_pure ⟨rfl, rfl, fun u hu => hr u (List.mem_cons_of_mem _ hu)⟩))
    · obtain ⟨rfl, rfl, _⟩ := hI
      exact wpAny_pure h
/-- what is known of a dict's entries -/
structure Has (w : World) (s : Shared) (d : Addr) (o : Obj) (es : Array DictEntry) (ep : Nat) (xs : List Ent) : Prop where
  ho : s.heap.get? d = some o
  hd : o.data = .dict es ep
  he : es.toList = xs.map (ent w)
  his : ∀ x ∈ xs, IsK s.heap x.1 x.2.1
  hn : (xs.map (·.1)).Nodup
theorem Has.mate (hs : Has w s d o es ep xs) {i : Nat} (hi : i ∈ mates w k es) : ∃ x, xs[i]? = some x ∧ es[i]? = some (ent w x) ∧ ((ent w x).hash == k.hash w) = true ∧ IsK s.heap x.1 x.2.1 := by
  have h1 := mates_mem.mp hi
  rw [ents_at hs.he] at h1
  cases e : xs[i]? with
  | none => rw [e] at h1; cases h1
  | some x =>
    rw [e] at h1
    exact ⟨x, rfl, by rw [ents_at hs.he, e] <;> rfl, beq_iff_eq.mpr (Option.some.inj h1), hs.his x (List.mem_of_getElem? e)⟩
theorem isAt_of {i : Nat} {x : Ent} (h : xs[i]? = some x) : isAt xs k i = decide (x.1 = k) := by
  unfold isAt
  rw [h]
theorem walk {Q : Option Nat → Shared → Prop} (hu : A.units + 8 < cLine) (hk : IsK s.heap k key) (hs : Has w s d o es ep xs) (hQ : Q (ixK xs k) s) :
    wpAny (model prog w) A (dictWalkPlain d key (k.hash w) es (mates w k es)) Q E s := by
  unfold dictWalkPlain
  refine wpAny_bind ?_
  refine wpAny_forIn_list _ (fun r b s' => s' = s ∧ b = (none, ()) ∧ ∃ p, mates w k es = p ++ r ∧ p.find? (isAt xs k) = none) _ (fun i r b s' hI => ?_) (fun b s' hI => ?_) _ _ ⟨rfl, rfl, [], rfl, rfl⟩
  · obtain ⟨rfl, rfl, p, hp, hf⟩ := hI
    obtain ⟨x, h1, h2, h3, h4⟩ := hs.mate (k := k) (i := i) (by rw [hp]; simp)
    rw [h2]
    dsimp only
    rw [if_pos h3]
    refine wpAny_bind (wpAny_dictEpoch hs.ho hs.hd (wpAny_bind (h4.eq hu hk (wpAny_bind (wpAny_dictEpoch hs.ho hs.hd ?_)))))
    rw [if_neg (by simp)]
    by_cases hx : x.1 = k
    · rw [decide_eq_true hx]
      refine wpAny_bind (wpAny_rule (wpAny_pure ?_))
      have : ixK xs k = some i := ixK_of hs.hn (p := x.2) (by rw [h1, ← hx])
      rw [this] at hQ
      exact wpAny_pure hQ
    · rw [decide_eq_false hx]
      refine wpAny_bind (wpAny_rule (wpAny_pure ⟨rfl, rfl, p ++ [i], by rw [hp]; simp, ?_⟩))
      rw [List.find?_append, hf, Option.none_or]
      simp [isAt_of h1, hx]
  · obtain ⟨rfl, rfl, p, hp, hf⟩ := hI
    rw [List.append_nil] at hp
    rw [← hp, find_mates hs.he hs.hn] at hf
    rw [hf] at hQ
    exact wpAny_pure hQ
theorem hitOr {C : Prop} {p r : List Nat} {i : Nat} {x : Ent} (hs : Has w s d o es ep xs) (hp : mates w k es = p ++ i :: r) (hx : xs[i]? = some x) (h1 : x.1 = k → p.find? (isAt xs k) = none → C) (h2 : x.1 ≠ k → True → C) : C := by
  by_cases e : x.1 = k
  · refine h1 e ?_
    cases q : p.find? (isAt xs k) with
    | none => rfl
    | some j =>
      have e1 : j = i := one_hit hs.hn (List.find?_some q) (by rw [isAt_of hx]; exact decide_eq_true e)
      have nd := mates_nodup (w := w) (k := k) (es := es)
      rw [hp] at nd
      obtain ⟨_, _, h⟩ := List.nodup_append.mp nd
      exact absurd e1 (h j (List.mem_of_find?_eq_some q) i (by simp))
  · exact h2 e trivial
theorem Has.stored (hs : Has w s d o es ep xs) : ∀ v ∈ (mates w k es).filterMap (fun i => es[i]?.map (·.key)), ∃ k', IsK s.heap k' v := fun v hv => by
  obtain ⟨i, hi, e⟩ := List.mem_filterMap.mp hv
  obtain ⟨x, _, h2, _, h4⟩ := hs.mate hi
  rw [h2] at e
  have e' : x.2.1 = v := Option.some.inj e
  rw [← e']
  exact ⟨x.1, h4⟩
theorem IsK.same {k1 k2 : NestedKey} {h : Heap} {v : Value} (a : IsK h k1 v) (b : IsK h k2 v) : k1 = k2 := NestedIs.inj _ _ _ a.1 b.1
/-- what a look-up finds -/
theorem find {Q : Option Nat → Shared → Prop} (hu : A.units + 8 < cLine) (hk : IsK s.heap k key) (hs : Has w s d o es ep xs) (hQ : Q (ixK xs k) s) : wpAny (model prog w) A (dictFind d key (k.hash w)) Q E s := by
  unfold dictFind
  refine wpAny_holding ?_
  refine wpAny_bind (wpAny_dictEntries hs.ho hs.hd ?_)
  have rare : ¬ (es.any fun e => e.key == key && e.hash != k.hash w) = true := by
    rw [← Array.any_toList, List.any_eq_true]
    rintro ⟨e, he, hc⟩
    rw [hs.he] at he
    obtain ⟨x, hx, rfl⟩ := List.mem_map.mp he
    rw [Bool.and_eq_true, beq_iff_eq, bne_iff_ne] at hc
    obtain ⟨c1, c2⟩ := hc
    have c1' : x.2.1 = key := c1
    have hx' := hs.his x hx
    rw [c1'] at hx'
    exact c2 (congrArg (NestedKey.hash w) (hx'.same hk))
  by_cases hstr : ∃ y t, key = .str y t ∧ (es.all fun e => isExactStrKey e.key) = true
  · obtain ⟨y, t, rfl, hall⟩ := hstr
    dsimp only
    rw [if_pos hall]
    obtain ⟨hk1, hk2⟩ := id hk
    cases hk1
    have f : es.findIdx? (·.key.isStr y) = ixK xs (.text y) := by
      have e : es = (xs.map (ent w)).toArray := by rw [← hs.he]
      rw [e, List.findIdx?_toArray, List.findIdx?_map]
      refine fi_congr xs fun x hx => ?_
      show x.2.1.isStr y = decide (x.1 = .text y)
      have h2 := (hs.his x hx).1
      have h3 : isExactStrKey x.2.1 = true := by
        rw [e] at hall
        simp only [List.all_toArray, List.all_map, List.all_eq_true] at hall
        exact hall x hx
      obtain ⟨k1, v1, v2⟩ := x
      dsimp only at h2 h3 ⊢
      cases h2 with
      | text z u =>
        show (z == y) = _
        by_cases hz : z = y
        · rw [hz]
          simp
        · rw [decide_eq_false fun q => hz (NestedKey.text.inj q)]
          simpa using hz
      | _ => cases h3
    unfold foundByValue
    rw [f]
    cases hx : ixK xs (.text y) with
    | none =>
      rw [hx] at hQ
      exact wpAny_pure hQ
    | some j =>
      rw [hx] at hQ
      obtain ⟨p, hp⟩ := ixK_some hx
      dsimp only
      rw [ents_at hs.he, hp]
      refine wpAny_bind (wpAny_dictEpoch hs.ho hs.hd (wpAny_bind ((hs.his _ (List.mem_of_getElem? hp)).eq hu hk (wpAny_bind (wpAny_dictEpoch hs.ho hs.hd ?_)))))
      rw [if_neg (by simp), if_pos (by simp)]
      exact wpAny_bind (wpAny_rule (wpAny_pure hQ))
  · cases key
    all_goals dsimp only
    case' str y t => rw [if_neg (fun h => hstr ⟨y, t, rfl, h⟩)]
    all_goals
      refine iteC (fun _ => walk hu hk hs hQ) fun _ => ?_
      first | refine iteC (fun z => absurd z rare) fun _ => ?_ | skip
      refine iteC (fun _ => ?_) fun _ => ?_
      ·
        · refine wpAny_bind (wpAny_pure ?_)
          refine iteC (fun z => absurd z (by simp)) fun _ => ?_
          refine wpAny_bind ?_
          refine wpAny_forIn_list _ (fun r b s' => s' = s ∧ ∃ p, mates w k es = p ++ r ∧ b = (none, p.find? (isAt xs k))) _ (fun i r b s' hI => ?_) (fun b s' hI => ?_) _ _ ⟨rfl, [], rfl, rfl⟩
          · obtain ⟨rfl, p, hp, rfl⟩ := hI
            obtain ⟨x, h1, h2, h3, h4⟩ := hs.mate (i := i) (by rw [hp]; simp)
            rw [h2]
            dsimp only
            rw [if_pos h3]
            refine wpAny_bind (wpAny_dictEpoch hs.ho hs.hd (wpAny_bind (h4.eq hu hk (wpAny_bind (wpAny_dictEpoch hs.ho hs.hd ?_)))))
            rw [if_neg (by simp)]
            refine hitOr hs hp h1 (fun hx hf => ?_) fun hx hf => ?_
            · rw [decide_eq_true hx, if_pos rfl, hf, if_neg (by simp)]
              refine wpAny_bind (wpAny_rule ?_)
              refine iteC (fun _ => ?_) fun _ => ?_
              · exact wpAny_pure (wpAny_pure (by rw [← ixK_of (k := k) hs.hn (p := x.2) (by rw [h1, ← hx])]; exact hQ))
              · exact wpAny_pure ⟨rfl, p ++ [i], by rw [hp]; simp, by rw [List.find?_append, hf]; simp [isAt_of h1, hx]⟩
            · rw [decide_eq_false hx, if_neg (by simp)]
              refine wpAny_bind (wpAny_rule ?_)
              rw [if_neg (by simp)]
              exact wpAny_pure ⟨rfl, p ++ [i], by rw [hp]; simp, by rw [List.find?_append]; simp [isAt_of h1, hx]⟩
          · obtain ⟨rfl, p, hp, rfl⟩ := hI
            rw [List.append_nil] at hp
            rw [← hp, find_mates hs.he hs.hn]
            exact wpAny_pure hQ
      ·
        · refine wpAny_bind (tells hk hs.stored ?_)
          refine iteC (fun z => absurd z (by simp)) fun _ => ?_
          refine wpAny_bind ?_
          refine wpAny_forIn_list _ (fun r b s' => s' = s ∧ ∃ p, mates w k es = p ++ r ∧ b = (none, p.find? (isAt xs k))) _ (fun i r b s' hI => ?_) (fun b s' hI => ?_) _ _ ⟨rfl, [], rfl, rfl⟩
          · obtain ⟨rfl, p, hp, rfl⟩ := hI
            obtain ⟨x, h1, h2, h3, h4⟩ := hs.mate (i := i) (by rw [hp]; simp)
            rw [h2]
            dsimp only
            rw [if_pos h3]
            refine wpAny_bind (wpAny_dictEpoch hs.ho hs.hd (wpAny_bind (h4.eq hu hk (wpAny_bind (wpAny_dictEpoch hs.ho hs.hd ?_)))))
            rw [if_neg (by simp)]
            refine hitOr hs hp h1 (fun hx hf => ?_) fun hx hf => ?_
            · rw [decide_eq_true hx, if_pos rfl, hf, if_neg (by simp)]
              refine wpAny_bind (wpAny_rule ?_)
              refine iteC (fun _ => ?_) fun _ => ?_
              · exact wpAny_pure (wpAny_pure (by rw [← ixK_of (k := k) hs.hn (p := x.2) (by rw [h1, ← hx])]; exact hQ))
              · exact wpAny_pure ⟨rfl, p ++ [i], by rw [hp]; simp, by rw [List.find?_append, hf]; simp [isAt_of h1, hx]⟩
            · rw [decide_eq_false hx, if_neg (by simp)]
              refine wpAny_bind (wpAny_rule ?_)
              rw [if_neg (by simp)]
              exact wpAny_pure ⟨rfl, p ++ [i], by rw [hp]; simp, by rw [List.find?_append]; simp [isAt_of h1, hx]⟩
          · obtain ⟨rfl, p, hp, rfl⟩ := hI
            rw [List.append_nil] at hp
            rw [← hp, find_mates hs.he hs.hn]
            exact wpAny_pure hQ
end
end MeD
end
section
set_option Elab.async false
set_option linter.all false
set_option maxRecDepth 100000
set_option maxHeartbeats 4000000
/-! dicts of mixed keys: reading, storing, removing -/
namespace MeD
open PySem PySem.Spec PyProof.Rows
def getK (xs : List Ent) (k : NestedKey) : Option Value := (ixK xs k).bind fun j => xs[j]?.map fun x => x.2.2
def putK (xs : List Ent) (k : NestedKey) (key v : Value) : List Ent := match ixK xs k with
  | some j => xs.modify j fun x => (x.1, x.2.1, v)
  | none => xs ++ [(k, key, v)]
def dropK (xs : List Ent) (k : NestedKey) : List Ent := match ixK xs k with
  | some j => xs.eraseIdx j
  | none => xs
/-- the object at d is a dict of these entries -/
def IsD (w : World) (h : Heap) (d : Addr) (ep : Nat) (xs : List Ent) : Prop := ∃ o es, h.get? d = some o ∧ o.ExactDict ∧ o.data = .dict es ep ∧ es.toList = xs.map (ent w)
/-- how often its keys were changed -/
def putE (xs : List Ent) (k : NestedKey) (ep : Nat) : Nat := match ixK xs k with
  | some _ => ep
  | none => ep + 1
theorem map_modify {α β : Type} {f : α → β} {g : α → α} {g' : β → β} (h : ∀ x, f (g x) = g' (f x)) : ∀ (l : List α) (j : Nat), (l.modify j g).map f = (l.map f).modify j g'
  | [], j => by cases j <;> rfl
  | x :: l, 0 => by
    show f (g x) :: _ = g' (f x) :: _
    rw [h]
  | x :: l, j + 1 => congrArg (f x :: ·) (map_modify h l j)
theorem map_erase {α β : Type} {f : α → β} : ∀ (l : List α) (j : Nat), (l.eraseIdx j).map f = (l.map f).eraseIdx j
  | [], _ => rfl
  | _ :: _, 0 => rfl
  | x :: l, j + 1 => congrArg (f x :: ·) (map_erase l j)
section
variable {xs : List Ent} {k : NestedKey} {key v : Value}
theorem putK_len : (putK xs k key v).length ≤ xs.length + 1 := by
  unfold putK
  split
  · rw [List.length_modify]
    omega
  · rw [List.length_append]
    exact Nat.le_refl _
theorem putK_nodup (hn : (xs.map (·.1)).Nodup) : ((putK xs k key v).map (·.1)).Nodup := by
  unfold putK
  split
  · rw [map_modify (f := fun x : Ent => x.1) (g := fun x => (x.1, x.2.1, v)) (g' := id) (fun _ => rfl), List.modify_id]
    exact hn
  · rename_i e
    rw [List.map_append]
    refine List.nodup_append.mpr ⟨hn, by simp, fun a ha b hb z => ?_⟩
    obtain ⟨x, hx, rfl⟩ := List.mem_map.mp ha
    have hb' : b = k := by simpa using hb
    exact ixK_none e x hx (z.trans hb')
theorem dropK_nodup (hn : (xs.map (·.1)).Nodup) : ((dropK xs k).map (·.1)).Nodup := by
  unfold dropK
  split
  · rw [map_erase]
    exact List.Nodup.sublist (List.eraseIdx_sublist _ _) hn
  · exact hn
end
section
variable {prog : Program} {w : World} {A : Around} {E : Value → Shared → Prop} {s : Shared} {d : Addr} {ep : Nat} {xs : List Ent} {k : NestedKey} {key : Value}
/-- a dict with its keys -/
structure Dk (w : World) (s : Shared) (d : Addr) (ep : Nat) (xs : List Ent) : Prop where
  is : IsD w s.heap d ep xs
  his : ∀ x ∈ xs, IsK s.heap x.1 x.2.1
  hn : (xs.map (·.1)).Nodup
theorem Dk.tok (D : Dk w s d ep xs) (t : Nat) : Dk w { s with toks := t } d ep xs := ⟨D.is, D.his, D.hn⟩
theorem Dk.type (D : Dk w s d ep xs) : s.TypeIs (.ref d) "dict" := by
  obtain ⟨o, _, ho, hc, _⟩ := D.is
  exact ⟨o, ho, hc.1⟩
theorem get {Q : Option Value → Shared → Prop} (hu : A.units + 8 < cLine) (hk : IsK s.heap k key) (D : Dk w s d ep xs) (h : Q (getK xs k) { s with toks := s.toks + k.draws }) : wpAny (model prog w) A (dictGet d key) Q E s := by
  obtain ⟨o, es, ho, hc, hd, he⟩ := D.is
  unfold dictGet
  refine wpAny_holding (wpAny_bind (pyHash_key k key A s _ hk.1 (by have := hk.2; omega) (wpAny_bind ?_)))
  refine find (s := { s with toks := s.toks + k.draws }) hu hk ⟨ho, hd, he, D.his, D.hn⟩ ?_
  unfold getK at h
  cases e : ixK xs k with
  | none =>
    rw [e] at h
    exact wpAny_pure h
  | some j =>
    rw [e] at h
    refine wpAny_bind (wpAny_dictEntries (s := { s with toks := s.toks + k.draws }) ho hd (wpAny_pure ?_))
    rw [ents_at he]
    cases q : xs[j]? with
    | none =>
      obtain ⟨p, hp⟩ := ixK_some e
      rw [hp] at q
      cases q
    | some x =>
      rw [Option.bind_some, q] at h
      exact h
theorem put {v : Value} {Q : Unit → Shared → Prop} (hu : A.units + 8 < cLine) (hk : IsK s.heap k key) (D : Dk w s d ep xs) (hz : xs.length ≤ sizeLine)
    (h : ∀ h', IsD w h' d (putE xs k ep) (putK xs k key v) → Heap.SameBut d s.heap h' → Q () { s with heap := h' }) : wpAny (model prog w) A (dictSetHashed d key (k.hash w) v) Q E s := by
  obtain ⟨o, es, ho, hc, hd, he⟩ := D.is
  have hs := ents_size he
  unfold dictSetHashed
  refine wpAny_holding (wpAny_bind (find hu hk ⟨ho, hd, he, D.his, D.hn⟩ ?_))
  unfold putK putE at h
  cases e : ixK xs k with
  | none =>
    rw [e] at h
    refine wpAny_bind (wpAny_rule (wpAny_updateDictKeys (hz := by omega) ho hd (h _ ⟨_, _, Heap.get?_update_self _ ho (Obj.isFreed_of_dict (Obj.data_mapDictKeys hd _)), hc.mapDictKeys _, Obj.data_mapDictKeys hd _, ?_⟩ (Heap.SameBut.update ..))))
    simp [he, ent]
  | some j =>
    rw [e] at h
    refine wpAny_bind (wpAny_rule (wpAny_bind (wpAny_updateDict ho hd (wpAny_point (h _ ⟨_, _, Heap.get?_update_self _ ho (Obj.isFreed_of_dict (Obj.data_mapDict hd _)), hc.mapDict _, Obj.data_mapDict hd _, ?_⟩ (Heap.SameBut.update ..))))))
    rw [map_modify (g' := fun e : DictEntry => { e with val := v }) (fun _ => rfl), ← he]
    obtain ⟨l⟩ := es
    simp
theorem set {v : Value} {Q : Unit → Shared → Prop} (hu : A.units + 8 < cLine) (hk : IsK s.heap k key) (D : Dk w s d ep xs) (hz : xs.length ≤ sizeLine)
    (h : ∀ h', IsD w h' d (putE xs k ep) (putK xs k key v) → Heap.SameBut d s.heap h' → Q () { s with heap := h', toks := s.toks + k.draws }) : wpAny (model prog w) A (dictSet d key v) Q E s := by
  unfold dictSet
  exact wpAny_holding (wpAny_bind (pyHash_key k key A s _ hk.1 (by have := hk.2; omega) (put (s := { s with toks := s.toks + k.draws }) hu hk (D.tok _) hz h)))
theorem del {Q : Option Value → Shared → Prop} (hu : A.units + 8 < cLine) (hk : IsK s.heap k key) (D : Dk w s d ep xs) (hz : xs.length ≤ sizeLine) (hi : (ixK xs k).isSome = true)
    (h : ∀ h', IsD w h' d (ep + 1) (dropK xs k) → Heap.SameBut d s.heap h' → Q (getK xs k) { s with heap := h', toks := s.toks + k.draws }) : wpAny (model prog w) A (dictDel d key) Q E s := by
  obtain ⟨o, es, ho, hc, hd, he⟩ := D.is
  have hs := ents_size he
  obtain ⟨j, e⟩ := Option.isSome_iff_exists.mp hi
  obtain ⟨p, hp⟩ := ixK_some e
  unfold dictDel
  refine wpAny_holding (wpAny_bind (pyHash_key k key A s _ hk.1 (by have := hk.2; omega) (wpAny_bind ?_)))
  refine find (s := { s with toks := s.toks + k.draws }) hu hk ⟨ho, hd, he, D.his, D.hn⟩ ?_
  unfold getK dropK at h
  rw [e] at h ⊢
  have hf : (es.eraseIdxIfInBounds j).size ≤ es.size + 1 := by
    unfold Array.eraseIdxIfInBounds
    split
    · rw [Array.size_eraseIdx]
      omega
    · omega
  refine wpAny_bind (wpAny_rule (wpAny_bind (wpAny_dictEntries (s := { s with toks := s.toks + k.draws }) ho hd (wpAny_bind (wpAny_updateDictKeys (s := { s with toks := s.toks + k.draws }) (hz := by omega) (hf := hf) ho hd ?_)))))
  · have hh := h _ ⟨_, _, Heap.get?_update_self _ ho (Obj.isFreed_of_dict (Obj.data_mapDictKeys hd fun es => es.eraseIdxIfInBounds j)), hc.mapDictKeys _, Obj.data_mapDictKeys hd _, ?_⟩ (Heap.SameBut.update ..)
    · refine wpAny_pure ?_
      rw [ents_at he, hp]
      rw [Option.bind_some, hp] at hh
      exact hh
    · rw [map_erase, ← he]
      obtain ⟨l⟩ := es
      simp
end
end MeD
end
section
set_option Elab.async false
set_option linter.all false
set_option maxRecDepth 100000
set_option maxHeartbeats 4000000
/-! dicts of mixed keys as things of the abstract heap -/
namespace MeD
open PySem PySem.Spec PyProof.Rows L2 MeV LamX
abbrev EntV := NestedKey × V × V
abbrev PairE : List EntV → List Ent → Prop := Paired fun p q => p.1 = q.1 ∧ RelV p.2.1 q.2.1 ∧ RelV p.2.2 q.2.2
def Fine (a : Addr) (xs : List EntV) : Prop := xs.length ≤ sizeLine ∧ (a == sysModules) = false ∧ (xs.map (·.1)).Nodup
def DicO (w : World) (a : Addr) (ep : Nat) (xs : List EntV) : HO := .ext fun h => Fine a xs ∧ ∃ us, PairE xs us ∧ IsD w h a ep us
theorem dic_pl {w : World} {a : Addr} {ep : Nat} {xs : List EntV} : Pl (DicO w a ep xs) := by
  refine ⟨fun ps z => (by unfold DicO at z; cases z), fun c q z => ?_⟩
  unfold DicO CodeO at z
  injection z with z
  let ob : Obj := { cls := .none, data := .fields #[.none, .str q 0] }
  let hp : Heap := { objs := Array.replicate (c + 1) ob }
  have g : ∀ b o, hp.get? b = some o → o = ob := fun b o e => by
    unfold Heap.get? at e
    have eb : hp.objs[b]? = if b < c + 1 then some ob else none := Array.getElem?_replicate
    rw [eb] at e
    by_cases hb : b < c + 1
    · rw [if_pos hb] at e
      exact (Option.some.inj e).symm
    · rw [if_neg hb] at e
      cases e
  have h1 : hp.get? c = some ob := by
    unfold Heap.get?
    have eb : hp.objs[c]? = if c < c + 1 then some ob else none := Array.getElem?_replicate
    rw [eb, if_pos (Nat.lt_succ_self c)]
  have h2 := (congrFun z hp).mpr ⟨ob, _, 0, h1, rfl, rfl⟩
  obtain ⟨_, us, _, o, es, ho, _, hd, _⟩ := h2
  rw [g a o ho] at hd
  cases hd
section
variable {P : Program} {w w' : World} {H : Hp} {h : Heap} {a : Addr} {ep : Nat} {xs : List EntV} {us : List Ent}
theorem dic_ok (f : Fine a xs) (p : PairE xs us) (i : IsD w h a ep us) : ObjOk P w' H h a (DicO w a ep xs) := by
  refine ⟨⟨f, us, p, i⟩, ?_, fun h1 h2 ⟨f, us, p, o, es, ho, r⟩ k => ⟨f, us, p, o, es, k o ho, r⟩⟩
  obtain ⟨o, _, ho, _⟩ := i
  exact ⟨o, ho⟩
theorem ok_dic (ok : ObjOk P w' H h a (DicO w a ep xs)) : Fine a xs ∧ ∃ us, PairE xs us ∧ IsD w h a ep us := ok.1
theorem PairE.keys : ∀ {xs : List EntV} {us : List Ent}, PairE xs us → us.map (·.1) = xs.map (·.1)
  | _, _, .nil => rfl
  | _, _, .cons r t => by
    rw [List.map_cons, List.map_cons, PairE.keys t, r.1]
theorem PairE.len {xs : List EntV} {us : List Ent} (p : PairE xs us) : us.length = xs.length := by
  have := congrArg List.length p.keys
  simpa using this
theorem PairE.at_ : ∀ {xs : List EntV} {us : List Ent} {i : Nat} {u : Ent}, PairE xs us → us[i]? = some u → ∃ x, xs[i]? = some x ∧ x.1 = u.1 ∧ RelV x.2.1 u.2.1 ∧ RelV x.2.2 u.2.2
  | _, _, _, _, .nil, e => by cases e
  | _, _, 0, _, .cons r t, e => by
    cases e
    exact ⟨_, rfl, r⟩
  | _, _, i + 1, _, .cons r t, e => PairE.at_ (i := i) t (by simpa using e)
end
end MeD
end
section
set_option Elab.async false
set_option linter.all false
set_option maxRecDepth 100000
set_option maxHeartbeats 4000000
/-! mirrors: trees of data and a small memory; what it is that a state of the model shows them -/
namespace Mi
open PySem PySem.Spec PyProof.Rows L2 Evl MeV MeD
/-- data as a tree; cls k: the k-th class; err k fs: the error that was caught; clo j: the j-th lambda of the def; scr: a list of another one's; ref n: the n-th thing of the memory, which may change; obj k fs: an object of class k that changes no more -/
inductive D where
  | non | bl (b : Bool) | int (i : Int) | str (x : Str) | tup (ds : List D) | lst (ds : List D) | scr (ds : List D) | dic (kvs : List (D × D)) | obj (k : Nat) (fs : List (Str × D)) | ref (n : Nat) | ty (x : String) | cls (k : Nat) | err (k : Nat) (fs : List (Str × D)) | clo (j : Nat)
/-- a thing of the memory -/
inductive MO where
  | lst (ds : List D) | dic (ep : Nat) (kvs : List (D × D)) | ins (k : Nat) (fs : List (Str × D))
abbrev Mem := List MO
abbrev Sl := List (Option D)
/-- how a mirror ends: with a value, by an error of class k, or nothing is told -/
inductive R (α : Type) where
  | ok (a : α) (m : Mem) | exc (k : Nat) (fs : List (Str × D)) (m : Mem) | no
def R.bind {α β : Type} : R α → (α → Mem → R β) → R β
  | .ok a m, f => f a m
  | .exc k fs m, _ => .exc k fs m
  | .no, _ => .no
mutual
/-- a tree as a key -/
def keyD : D → Option NestedKey
  | .non => some .none
  | .bl b => some (.num (if b = true then 1 else 0))
  | .int i => some (.num i)
  | .str x => some (.text x)
  | .tup ds => (keysD ds).map .tup
  | .lst _ => none
  | .scr _ => none
  | .dic _ => none
  | .obj _ _ => none
  | .ref _ => none
  | .ty _ => none
  | .cls _ => none
  | .err _ _ => none
  | .clo _ => none
def keysD : List D → Option (List NestedKey)
  | [] => some []
  | d :: ds => (keyD d).bind fun k => (keysD ds).map (k :: ·)
end
def key8 (d : D) : Option NestedKey := (keyD d).bind fun k => bif Nat.ble k.depth 8 then some k else none
/-- a lambda -/
structure LamD where
  q : Str
  params : Arguments
  body : Expr
  scope : Scope
  cells : List (Str × Addr)
/-- the addresses of the classes; the caught error: its place, its dict's place, its class; the lambdas of the def; what the def that called has in its slots; the tables of code -/
structure Cl where
  cls : Nat → Addr
  ex : Option (Addr × Addr × Nat)
  lam : Nat → Option LamD
  cap : List (V × D)
  tabs : Option (List (Addr × Str))
/-- the world, the written part, what is known of the def -/
structure Cc where
  w : World
  K : PySem.W.Frag
  L : Cl
abbrev Cc.cl (c : Cc) (k : Nat) : Addr := c.L.cls k
mutual
inductive Rep (c : Cc) (h : Hp) (ι : List Addr) : V → D → Prop
  | non : Rep c h ι .non .non
  | bl (b : Bool) : Rep c h ι (.bl b) (.bl b)
  | int (i : Int) : Rep c h ι (.int i) (.int i)
  | str (x : Str) : Rep c h ι (.str x) (.str x)
  | ty (x : String) : Rep c h ι (.ty x) (.ty x)
  | ref {n : Nat} {a : Addr} : ι[n]? = some a → Rep c h ι (.ref a) (.ref n)
  | tup {a : Addr} {xs : List V} {ds : List D} : SqT c.K h a xs → RepA c h ι xs ds → Rep c h ι (.ref a) (.tup ds)
  | lst {a : Addr} {xs : List V} {ds : List D} : h a = some (.lst xs) → RepA c h ι xs ds → Rep c h ι (.ref a) (.lst ds)
  | scr {a : Addr} {xs : List V} {ds : List D} : SqL c.K h a xs → RepA c h ι xs ds → Rep c h ι (.ref a) (.scr ds)
  | dic {a : Addr} {ep : Nat} {xs : List EntV} {ds : List (D × D)} : h a = some (DicO c.w a ep xs) → RepK c h ι xs ds → Rep c h ι (.ref a) (.dic ds)
  | obj {a dx : Addr} {k : Nat} {fs : List (Str × V)} {ds : List (Str × D)} : h a = some (.ins (c.cl k) dx fs) → RepF c h ι fs ds → Rep c h ι (.ref a) (.obj k ds)
  | cls (k : Nat) : Rep c h ι (.ref (c.cl k)) (.cls k)
  | err {a dd : Addr} {k : Nat} {ws : List (Str × V)} {fs : List (Str × D)} : c.L.ex = some (a, dd, k) → h dd = some (.xd ws) → RepF c h ι ws fs → Rep c h ι (.ref a) (.err k fs)
  | clo {f c' : Addr} {j : Nat} {l : LamD} : c.L.lam j = some l → h f = some (MeL.LamO f c' l.q l.params l.body l.scope l.cells) → h c' = some (LamX.CodeO c' l.q) → Rep c h ι (.ref f) (.clo j)
inductive RepA (c : Cc) (h : Hp) (ι : List Addr) : List V → List D → Prop
  | nil : RepA c h ι [] []
  | cons {v : V} {d : D} {vs : List V} {ds : List D} : Rep c h ι v d → RepA c h ι vs ds → RepA c h ι (v :: vs) (d :: ds)
inductive RepK (c : Cc) (h : Hp) (ι : List Addr) : List EntV → List (D × D) → Prop
  | nil : RepK c h ι [] []
  | cons {k : NestedKey} {kv v : V} {dk d : D} {vs : List EntV} {ds : List (D × D)} : key8 dk = some k → Rep c h ι kv dk → Rep c h ι v d → RepK c h ι vs ds → RepK c h ι ((k, kv, v) :: vs) ((dk, d) :: ds)
inductive RepF (c : Cc) (h : Hp) (ι : List Addr) : List (Str × V) → List (Str × D) → Prop
  | nil : RepF c h ι [] []
  | cons {f : Str} {v : V} {d : D} {vs : List (Str × V)} {ds : List (Str × D)} : Rep c h ι v d → RepF c h ι vs ds → RepF c h ι ((f, v) :: vs) ((f, d) :: ds)
end
section
variable {c : Cc} {h h' : Hp} {ι ι' : List Addr}
theorem pre_get {n : Nat} {a : Addr} (p : ι <+: ι') (e : ι[n]? = some a) : ι'[n]? = some a := by
  obtain ⟨l, rfl⟩ := p
  rw [List.getElem?_append_left (List.getElem?_eq_some_iff.mp e).1]
  exact e
mutual
theorem Rep.up (e : Ex h h') (p : ι <+: ι') : ∀ {v : V} {d : D}, Rep c h ι v d → Rep c h' ι' v d
  | _, _, .non => .non
  | _, _, .bl b => .bl b
  | _, _, .int i => .int i
  | _, _, .str x => .str x
  | _, _, .ty x => .ty x
  | _, _, .ref q => .ref (pre_get p q)
  | _, _, .tup s k => .tup (ex_t e s) (RepA.up e p k)
  | _, _, .lst s k => .lst (e _ _ s) (RepA.up e p k)
  | _, _, .scr s k => .scr (ex_l e s) (RepA.up e p k)
  | _, _, .dic s k => .dic (e _ _ s) (RepK.up e p k)
  | _, _, .obj s k => .obj (e _ _ s) (RepF.up e p k)
  | _, _, .cls k => .cls k
  | _, _, .err a b k => .err a (e _ _ b) (RepF.up e p k)
  | _, _, .clo a b k => .clo a (e _ _ b) (e _ _ k)
theorem RepA.up (e : Ex h h') (p : ι <+: ι') : ∀ {vs : List V} {ds : List D}, RepA c h ι vs ds → RepA c h' ι' vs ds
  | _, _, .nil => .nil
  | _, _, .cons a k => .cons (Rep.up e p a) (RepA.up e p k)
theorem RepK.up (e : Ex h h') (p : ι <+: ι') : ∀ {vs : List EntV} {ds : List (D × D)}, RepK c h ι vs ds → RepK c h' ι' vs ds
  | _, _, .nil => .nil
  | _, _, .cons z b a k => .cons z (Rep.up e p b) (Rep.up e p a) (RepK.up e p k)
theorem RepF.up (e : Ex h h') (p : ι <+: ι') : ∀ {vs : List (Str × V)} {ds : List (Str × D)}, RepF c h ι vs ds → RepF c h' ι' vs ds
  | _, _, .nil => .nil
  | _, _, .cons a k => .cons (Rep.up e p a) (RepF.up e p k)
end
theorem RepA.len : ∀ {vs : List V} {ds : List D}, RepA c h ι vs ds → vs.length = ds.length
  | _, _, .nil => rfl
  | _, _, .cons _ k => congrArg (· + 1) (RepA.len k)
theorem RepA.get : ∀ {vs : List V} {ds : List D} {i : Nat} {d : D}, RepA c h ι vs ds → ds[i]? = some d → ∃ v, vs[i]? = some v ∧ Rep c h ι v d
  | _, _, _, _, .nil, e => by cases e
  | _, _, 0, _, .cons a _, e => by
    cases e
    exact ⟨_, rfl, a⟩
  | _, _, i + 1, _, .cons _ k, e => RepA.get (i := i) k (by simpa using e)
theorem RepA.at_ : ∀ {vs : List V} {ds : List D} {i : Nat} {v : V}, RepA c h ι vs ds → vs[i]? = some v → ∃ d, ds[i]? = some d ∧ Rep c h ι v d
  | _, _, _, _, .nil, e => by cases e
  | _, _, 0, _, .cons a _, e => by
    cases e
    exact ⟨_, rfl, a⟩
  | _, _, i + 1, _, .cons _ k, e => RepA.at_ (i := i) k (by simpa using e)
theorem RepA.app : ∀ {vs ws : List V} {ds es : List D}, RepA c h ι vs ds → RepA c h ι ws es → RepA c h ι (vs ++ ws) (ds ++ es)
  | _, _, _, _, .nil, k => k
  | _, _, _, _, .cons a r, k => .cons a (RepA.app r k)
end
/-- what is told of a thing of the memory -/
inductive RepO (c : Cc) (h : Hp) (ι : List Addr) (a : Addr) : MO → HO → Prop
  | lst {xs : List V} {ds : List D} : RepA c h ι xs ds → RepO c h ι a (.lst ds) (.lst xs)
  | dic {ep : Nat} {xs : List EntV} {ds : List (D × D)} : RepK c h ι xs ds → RepO c h ι a (.dic ep ds) (DicO c.w a ep xs)
  | ins {k : Nat} {dx : Addr} {fs : List (Str × V)} {ds : List (Str × D)} : RepF c h ι fs ds → RepO c h ι a (.ins k ds) (.ins (c.cl k) dx fs)
theorem RepO.up {c : Cc} {h h' : Hp} {ι ι' : List Addr} {a : Addr} (e : Ex h h') (p : ι <+: ι') {o : MO} {O : HO} (r : RepO c h ι a o O) : RepO c h' ι' a o O := by
  cases r with
  | lst k => exact .lst (k.up e p)
  | dic k => exact .dic (k.up e p)
  | ins k => exact .ins (k.up e p)
theorem RepO.pl {c : Cc} {h : Hp} {ι : List Addr} {a : Addr} {o : MO} {O : HO} (r : RepO c h ι a o O) : Pl O := by
  cases r with
  | lst => exact pl_lst
  | dic => exact dic_pl
  | ins => exact ⟨(fun _ z => nomatch z), (fun _ _ z => (by unfold LamX.CodeO at z; cases z))⟩
/-- what changes no more -/
def fz (S : Wv) (ι : List Addr) (H : Hp) : Hp := fun a => if a ∈ ι then none else S.vw H a
theorem fz_of {S : Wv} {ι : List Addr} {H : Hp} {a : Addr} {o : HO} (n : a ∉ ι) (h : S.vw H a = some o) : fz S ι H a = some o := by
  unfold fz
  rw [if_neg n]
  exact h
theorem of_fz {S : Wv} {ι : List Addr} {H : Hp} {a : Addr} {o : HO} (h : fz S ι H a = some o) : a ∉ ι ∧ S.vw H a = some o := by
  unfold fz at h
  split at h
  · cases h
  · rename_i n
    exact ⟨n, h⟩
theorem fz_sub {S : Wv} {ι : List Addr} {H : Hp} : Ex (fz S ι H) H := fun a o h => S.sub H a o (of_fz h).2
/-- the memory is held -/
structure SR (c : Cc) (S : Wv) (ι : List Addr) (m : Mem) (H : Hp) : Prop where
  i : S.I H
  nd : ι.Nodup
  len : ι.length = m.length
  at_ : ∀ (n : Nat) (a : Addr) (o : MO), ι[n]? = some a → m[n]? = some o → ∃ O, S.vw H a = some O ∧ RepO c (fz S ι H) ι a o O
  cap : ∀ p ∈ c.L.cap, Rep c (fz S ι H) ι p.1 p.2
  tb : ∀ T, c.L.tabs = some T → HasTab S T
/-- from one state to a later one: what changes no more stays -/
structure Fr (S : Wv) (ι : List Addr) (H : Hp) (ι' : List Addr) (H' : Hp) : Prop where
  p : ι <+: ι'
  e : Ex (fz S ι H) (fz S ι' H')
section
variable {c : Cc} {S : Wv} {ι ι1 ι2 : List Addr} {m : Mem} {H H1 H2 : Hp}
theorem Fr.refl : Fr S ι H ι H := ⟨List.prefix_refl _, Ex.refl _⟩
theorem Fr.trans (a : Fr S ι H ι1 H1) (b : Fr S ι1 H1 ι2 H2) : Fr S ι H ι2 H2 := ⟨a.p.trans b.p, a.e.trans b.e⟩
theorem SR.has (s : SR c S ι m H) {a : Addr} (h : a ∈ ι) : ∃ O, S.vw H a = some O ∧ Pl O := by
  obtain ⟨n, hn, e⟩ := List.getElem_of_mem h
  have hm : n < m.length := by
    rw [← s.len]
    exact hn
  obtain ⟨O, h1, h2⟩ := s.at_ n a m[n] (by rw [List.getElem?_eq_getElem hn, e]) (List.getElem?_eq_getElem hm)
  exact ⟨O, h1, h2.pl⟩
theorem SR.ne (s : SR c S ι m H) {p : Addr} (n : H p = none) : p ∉ ι := fun h => by
  obtain ⟨O, h1, _⟩ := s.has h
  rw [S.sub _ _ _ h1] at n
  cases n
/-- the heap has grown -/
theorem SR.grow (s : SR c S ι m H) (e : Ex H H1) : SR c S ι m H1 ∧ Fr S ι H ι H1 := by
  obtain ⟨i1, e1⟩ := S.up s.i e
  have f : Ex (fz S ι H) (fz S ι H1) := fun a o h => fz_of (of_fz h).1 (e1 _ _ (of_fz h).2)
  refine ⟨⟨i1, s.nd, s.len, fun n a o h1 h2 => ?_, fun p hp => (s.cap p hp).up f (List.prefix_refl _), s.tb⟩, ⟨List.prefix_refl _, f⟩⟩
  obtain ⟨O, h3, h4⟩ := s.at_ n a o h1 h2
  exact ⟨O, e1 _ _ h3, h4.up f (List.prefix_refl _)⟩
/-- a new thing that changes no more -/
theorem SR.new (s : SR c S ι m H) {p : Addr} {o : HO} (n : H p = none) (k : ∀ ps, o ≠ .tbl ps) : SR c S ι m (upd H p o) ∧ Fr S ι H ι (upd H p o) ∧ fz S ι (upd H p o) p = some o := by
  obtain ⟨s1, f1⟩ := s.grow (Ex.new (o := o) n)
  exact ⟨s1, f1, fz_of (s.ne n) (S.see s.i n (Ex.new n) upd_same k)⟩
/-- a new thing of the memory -/
theorem SR.alloc (s : SR c S ι m H) {p : Addr} {o : MO} {O : HO} (n : H p = none) (r : RepO c (fz S ι H) ι p o O) : SR c S (ι ++ [p]) (m ++ [o]) (upd H p O) ∧ Fr S ι H (ι ++ [p]) (upd H p O) := by
  obtain ⟨i1, e1⟩ := S.up s.i (Ex.new (o := O) n)
  have np := s.ne n
  have f : Ex (fz S ι H) (fz S (ι ++ [p]) (upd H p O)) := fun a o h => by
    obtain ⟨h1, h2⟩ := of_fz h
    refine fz_of (fun z => ?_) (e1 _ _ h2)
    rcases List.mem_append.mp z with z | z
    · exact h1 z
    · rw [List.mem_singleton.mp z, ] at h2
      rw [S.sub _ _ _ h2] at n
      cases n
  have pr : ι <+: ι ++ [p] := List.prefix_append _ _
  refine ⟨⟨i1, ?_, ?_, fun k a o' h1 h2 => ?_, fun p hp => (s.cap p hp).up f pr, s.tb⟩, ⟨pr, f⟩⟩
  · exact List.nodup_append.mpr ⟨s.nd, by simp, fun a ha b hb z => np (by rw [← List.mem_singleton.mp hb, ← z]; exact ha)⟩
  · rw [List.length_append, List.length_append, s.len] <;> rfl
  · by_cases hk : k < ι.length
    · rw [List.getElem?_append_left hk] at h1
      rw [List.getElem?_append_left (by rw [← s.len]; exact hk)] at h2
      obtain ⟨O', h3, h4⟩ := s.at_ k a o' h1 h2
      exact ⟨O', e1 _ _ h3, h4.up f pr⟩
    · have hl : k = ι.length := by
        have := (List.getElem?_eq_some_iff.mp h1).1
        rw [List.length_append] at this
        have t : [p].length = 1 := rfl
        omega
      subst hl
      rw [List.getElem?_append_right (Nat.le_refl _), Nat.sub_self] at h1
      rw [s.len, List.getElem?_append_right (Nat.le_refl _), Nat.sub_self] at h2
      cases h1
      cases h2
      exact ⟨O, S.see s.i n (Ex.new n) upd_same r.pl.1, r.up f pr⟩
/-- a thing of the memory is changed -/
theorem SR.set (s : SR c S ι m H) {n : Nat} {a : Addr} {o : MO} {O : HO} (h : ι[n]? = some a) (r : RepO c (fz S ι H) ι a o O) : SR c S ι (m.set n o) (upd H a O) ∧ Fr S ι H ι (upd H a O) := by
  have ha : a ∈ ι := List.mem_of_getElem? h
  obtain ⟨O0, h0, p0⟩ := s.has ha
  obtain ⟨i1, v1⟩ := S.chg s.i h0 p0 r.pl
  have f : fz S ι (upd H a O) = fz S ι H := by
    funext b
    unfold fz
    by_cases hb : b ∈ ι
    · rw [if_pos hb, if_pos hb]
    · rw [if_neg hb, if_neg hb, v1, upd_ne fun z => hb (by rw [z]; exact ha)]
  refine ⟨⟨i1, s.nd, by rw [List.length_set]; exact s.len, fun k b o' h1 h2 => ?_, fun p hp => (by rw [f]; exact s.cap p hp), s.tb⟩, ⟨List.prefix_refl _, by rw [f]; exact Ex.refl _⟩⟩
  rw [f]
  by_cases hk : k = n
  · subst hk
    rw [h] at h1
    cases h1
    rw [List.getElem?_set_self (by rw [← s.len]; exact (List.getElem?_eq_some_iff.mp h).1)] at h2
    cases h2
    exact ⟨O, by rw [v1, upd_same], r⟩
  · rw [List.getElem?_set_ne (Ne.symm hk)] at h2
    obtain ⟨O', h3, h4⟩ := s.at_ k b o' h1 h2
    refine ⟨O', ?_, h4⟩
    have hb : b ≠ a := fun z => by
      rw [z] at h1
      exact hk ((List.getElem?_inj (List.getElem?_eq_some_iff.mp h1).1 s.nd).mp (h1.trans h.symm))
    rw [v1, upd_ne hb]
    exact h3
end
/-- slots -/
structure RepSl (c : Cc) (h : Hp) (ι : List Addr) (σ : L2.St) (sl : Sl) : Prop where
  len : σ.length = sl.length
  at_ : ∀ (i : Nat) (d : D), sl[i]? = some (some d) → ∃ v, σ[i]? = some (some v) ∧ Rep c h ι v d
section
variable {c : Cc} {h h' : Hp} {ι ι' : List Addr} {σ : L2.St} {sl : Sl}
theorem RepSl.up (e : Ex h h') (p : ι <+: ι') (r : RepSl c h ι σ sl) : RepSl c h' ι' σ sl := ⟨r.len, fun i d q => let ⟨v, h1, h2⟩ := r.at_ i d q; ⟨v, h1, h2.up e p⟩⟩
theorem RepSl.fr {S : Wv} {H H1 : Hp} (r : RepSl c (fz S ι H) ι σ sl) (f : Fr S ι H ι' H1) : RepSl c (fz S ι' H1) ι' σ sl := r.up f.e f.p
theorem RepSl.set {v : V} {d : D} (r : RepSl c h ι σ sl) (i : Nat) (q : Rep c h ι v d) : RepSl c h ι (σ.set i (some v)) (sl.set i (some d)) := by
  refine ⟨by rw [List.length_set, List.length_set]; exact r.len, fun j d' e => ?_⟩
  by_cases hj : j = i
  · subst hj
    have hl : j < sl.length := by
      have := (List.getElem?_eq_some_iff.mp e).1
      rw [List.length_set] at this
      exact this
    rw [List.getElem?_set_self hl] at e
    cases e
    exact ⟨v, List.getElem?_set_self (by rw [r.len]; exact hl), q⟩
  · rw [List.getElem?_set_ne (Ne.symm hj)] at e
    obtain ⟨w, h1, h2⟩ := r.at_ j d' e
    exact ⟨w, by rw [List.getElem?_set_ne (Ne.symm hj)]; exact h1, h2⟩
theorem RepSl.clear (r : RepSl c h ι σ sl) (i : Nat) (o : Option V) : RepSl c h ι (σ.set i o) (sl.set i none) := by
  refine ⟨by rw [List.length_set, List.length_set]; exact r.len, fun j d' e => ?_⟩
  by_cases hj : j = i
  · subst hj
    have hl : j < sl.length := by
      have := (List.getElem?_eq_some_iff.mp e).1
      rw [List.length_set] at this
      exact this
    rw [List.getElem?_set_self hl] at e
    cases e
  · rw [List.getElem?_set_ne (Ne.symm hj)] at e
    obtain ⟨w, h1, h2⟩ := r.at_ j d' e
    exact ⟨w, by rw [List.getElem?_set_ne (Ne.symm hj)]; exact h1, h2⟩
end
end Mi
end
section
set_option Elab.async false
set_option linter.all false
set_option maxRecDepth 100000
set_option maxHeartbeats 4000000
/-! mirrors of expressions: what is read, by one reading -/
namespace Mi
open PySem PySem.Spec PyProof.Rows L2 Evl MeV
/-- what is wanted of errors, by the slots -/
abbrev SX := L2.St → XK
abbrev ME := Sl → Mem → R D
abbrev MA := Sl → Mem → R (List D)
abbrev MT := Sl → Mem → R Bool
/-- what is wanted behind a mirror's end -/
def Post (c : Cc) (E : XK) (S : Wv) (ι : List Addr) (H : Hp) {α β : Type} (RR : Hp → List Addr → β → α → Prop) (r : R α) (Q : β → Hp → Prop) : Prop :=
  match r with
  | .ok a m => ∀ v ι' H', SR c S ι' m H' → Fr S ι H ι' H' → RR (fz S ι' H') ι' v a → Q v H'
  | .exc k fs m => ∀ x ws ι' H', SR c S ι' m H' → Fr S ι H ι' H' → fz S ι' H' x = some (.xd ws) → RepF c (fz S ι' H') ι' ws fs → E (.ref (c.cl k)) (some x) H'
  | .no => False
def rD (c : Cc) : Hp → List Addr → V → D → Prop := fun h ι v d => Rep c h ι v d
def rA (c : Cc) : Hp → List Addr → List V → List D → Prop := fun h ι v d => RepA c h ι v d
def rB : Hp → List Addr → Bool → Bool → Prop := fun _ _ b k => b = k
/-- the reading of a mirror -/
def tG (c : Cc) (E : SX) {α β : Type} (RR : Hp → List Addr → β → α → Prop) (m : Sl → Mem → R α) : L2.St → Hp → (β → Hp → Prop) → Prop := fun σ H Q =>
  ∃ S ι mem sl, SR c S ι mem H ∧ RepSl c (fz S ι H) ι σ sl ∧ Post c (E σ) S ι H RR (m sl mem) Q
abbrev tM (c : Cc) (E : SX) (m : ME) : TE := tG c E (rD c) m
abbrev tMA (c : Cc) (E : SX) (m : MA) : TA := tG c E (rA c) m
abbrev tMT (c : Cc) (E : SX) (m : MT) : TT := tG c E rB m
section
variable {c : Cc} {E : XK} {S : Wv} {ι ι' : List Addr} {mem : Mem} {H H' : Hp} {σ : L2.St} {sl : Sl} {α β γ δ : Type} {RR : Hp → List Addr → β → α → Prop} {RQ : Hp → List Addr → δ → γ → Prop} {Q : δ → Hp → Prop} {K : β → Hp → Prop}
theorem Post.from {r : R γ} (p : Post c E S ι H RQ r Q) (f : Fr S ι H ι' H') : Post c E S ι' H' RQ r Q := by
  cases r with
  | ok a m => exact fun v ι2 H2 s g q => p v ι2 H2 s (f.trans g) q
  | exc k fs m => exact fun x ws ι2 H2 s g q w => p x ws ι2 H2 s (f.trans g) q w
  | no => exact p
/-- one mirror runs, another one follows -/
theorem run1 {E : SX} {m : Sl → Mem → R α} {f : α → Mem → R γ} (s : SR c S ι mem H) (q : RepSl c (fz S ι H) ι σ sl) (p : Post c (E σ) S ι H RQ ((m sl mem).bind f) Q)
    (k : ∀ v a ι1 mem1 H1, SR c S ι1 mem1 H1 → Fr S ι H ι1 H1 → RR (fz S ι1 H1) ι1 v a → Post c (E σ) S ι1 H1 RQ (f a mem1) Q → K v H1) : tG c E RR m σ H K := by
  refine ⟨S, ι, mem, sl, s, q, ?_⟩
  cases hm : m sl mem with
  | ok a m1 =>
    rw [hm] at p
    exact fun v ι1 H1 s1 f1 r1 => k v a ι1 m1 H1 s1 f1 r1 (Post.from (r := f a m1) p f1)
  | exc k0 fs m1 =>
    rw [hm] at p
    exact p
  | no =>
    rw [hm] at p
    exact p.elim
/-- .. nothing follows -/
theorem Post.imp {r : R γ} {Q' : δ → Hp → Prop} (p : Post c E S ι H RQ r Q) (k : ∀ v H', Q v H' → Q' v H') : Post c E S ι H RQ r Q' := by
  cases r with
  | ok a m => exact fun v ι2 H2 s g q => k _ _ (p v ι2 H2 s g q)
  | exc k0 fs m => exact p
  | no => exact p
theorem Post.here {a : γ} {v : δ} (p : Post c E S ι H RQ (.ok a mem) Q) (s : SR c S ι mem H) (r : RQ (fz S ι H) ι v a) : Q v H := p v ι H s Fr.refl r
end
section
variable {X : Cx} {e a b : Expr} {t t' : TE}
theorem _root_.L2.PE.weak (h : PE X e t) (k : ∀ σ H Q, t' σ H Q → t σ H Q) : PE X e t' := ⟨fun pins s σ H Q I q => h.run pins s σ H Q I (k σ H Q q)⟩
theorem _root_.L2.PT.weak {t t' : TT} (h : PT X e t) (k : ∀ σ H Q, t' σ H Q → t σ H Q) : PT X e t' := ⟨fun pins s σ H Q I q => h.run pins s σ H Q I (k σ H Q q)⟩
theorem _root_.L2.PA.weak {es : List Expr} {t t' : TA} (h : PA X es t) (k : ∀ σ H Q, t' σ H Q → t σ H Q) : PA X es t' := ⟨fun pos pins s σ H Q I q => h.run pos pins s σ H Q I (k σ H Q q)⟩
theorem _root_.L2.PS.weak {st : Stmt} {t t' : TS} (h : PS X st t) (k : ∀ D σ H, t' D σ H → t D σ H) : PS X st t' := ⟨fun pins s σ H D I q => h.run pins s σ H D I (k D σ H q)⟩
theorem _root_.L2.PSs.weak {st : List Stmt} {t t' : TS} (h : PSs X st t) (k : ∀ D σ H, t' D σ H → t D σ H) : PSs X st t' := ⟨fun pins s σ H D I q => h.run pins s σ H D I (k D σ H q)⟩
end
/-! the mirrors -/
def mVar (i : Nat) : ME := fun sl m => match sl[i]? with
  | some (some d) => .ok d m
  | _ => .no
def mC (d : D) : ME := fun _ m => .ok d m
def mBin (g : D → D → Mem → R D) (x y : ME) : ME := fun sl m => (x sl m).bind fun d1 m1 => (y sl m1).bind fun d2 m2 => g d1 d2 m2
def mUn (g : D → Mem → R D) (x : ME) : ME := fun sl m => (x sl m).bind g
def mNil : MA := fun _ m => .ok [] m
def mCons (x : ME) (r : MA) : MA := fun sl m => (x sl m).bind fun d m1 => (r sl m1).bind fun ds m2 => .ok (d :: ds) m2
def mTup (r : MA) : ME := fun sl m => (r sl m).bind fun ds m1 => if ds.length ≤ 100000 then .ok (.tup ds) m1 else .no
def mLst (r : MA) : ME := fun sl m => (r sl m).bind fun ds m1 => if ds.length ≤ 100000 then .ok (.lst ds) m1 else .no
/-- a list that may change -/
def mLstN (r : MA) : ME := fun sl m => (r sl m).bind fun ds m1 => if ds.length ≤ 100000 then .ok (.ref m1.length) (m1 ++ [.lst ds]) else .no
def mIf (t : MT) (x y : ME) : ME := fun sl m => (t sl m).bind fun b m1 => bif b then x sl m1 else y sl m1
def mTest (x : ME) : MT := fun sl m => (x sl m).bind fun d m1 => match d with
  | .bl b => .ok b m1
  | _ => .no
def mNot (t : MT) : MT := fun sl m => (t sl m).bind fun b m1 => .ok (!b) m1
def mAnd (t u : MT) : MT := fun sl m => (t sl m).bind fun b m1 => bif b then u sl m1 else .ok false m1
def mOr (t u : MT) : MT := fun sl m => (t sl m).bind fun b m1 => bif b then .ok true m1 else u sl m1
def mAndV (x y : ME) : ME := fun sl m => (x sl m).bind fun d m1 => match d with
  | .bl b => bif b then y sl m1 else .ok (.bl false) m1
  | _ => .no
def mOrV (x y : ME) : ME := fun sl m => (x sl m).bind fun d m1 => match d with
  | .bl b => bif b then .ok (.bl true) m1 else y sl m1
  | _ => .no
def mNotV (x : ME) : ME := fun sl m => (x sl m).bind fun d m1 => match d with
  | .bl b => .ok (.bl (!b)) m1
  | _ => .no
/-- an operation on two values -/
def SimR (c : Cc) (r : R2) (g : D → D → Mem → R D) : Prop := ∀ (E : XK) (S : Wv) (ι : List Addr) (mem : Mem) (H : Hp) (x y : V) (d1 d2 : D) (Q : VK), SR c S ι mem H → Rep c (fz S ι H) ι x d1 → Rep c (fz S ι H) ι y d2 → Post c E S ι H (rD c) (g d1 d2 mem) Q → r x y H Q
def SimU (c : Cc) (r : V → Hp → VK → Prop) (g : D → Mem → R D) : Prop := ∀ (E : XK) (S : Wv) (ι : List Addr) (mem : Mem) (H : Hp) (x : V) (d : D) (Q : VK), SR c S ι mem H → Rep c (fz S ι H) ι x d → Post c E S ι H (rD c) (g d mem) Q → r x H Q
/-- a call by values -/
def SimB (c : Cc) (r : List V → Hp → VK → Prop) (g : List D → Mem → R D) : Prop := ∀ (E : XK) (S : Wv) (ι : List Addr) (mem : Mem) (H : Hp) (xs : List V) (ds : List D) (Q : VK), SR c S ι mem H → RepA c (fz S ι H) ι xs ds → Post c E S ι H (rD c) (g ds mem) Q → r xs H Q
def mCB (g : List D → Mem → R D) (r : MA) : ME := fun sl m => (r sl m).bind g
section
variable {X : Cx} {c : Cc} {E : SX} {e a b : Expr} {es : List Expr} {pos : Pos} {x y : ME} {ms : MA} {t u : MT}
theorem m_var {i : Nat} (h : PE X e (tVar i)) : PE X e (tM c E (mVar i)) := h.weak fun σ H Q ⟨S, ι, mem, sl, s, q, p⟩ => by
  unfold mVar at p
  split at p
  · rename_i d hd
    obtain ⟨v, h1, h2⟩ := q.at_ i d hd
    exact ⟨v, h1, Post.here p s h2⟩
  · exact p.elim
theorem m_c {v : V} {d : D} (h : PE X e (tC v)) (r : ∀ hh ι, Rep c hh ι v d) : PE X e (tM c E (mC d)) := h.weak fun σ H Q ⟨S, ι, mem, sl, s, q, p⟩ => Post.here (v := v) p s (r _ _)
theorem m_int {i : Int} {k pos} : PE X (.Constant (.int i) k pos) (tM c E (mC (.int i))) := m_c pe_int fun _ _ => .int i
theorem m_bl {i : Bool} {k pos} : PE X (.Constant (.bool i) k pos) (tM c E (mC (.bl i))) := m_c pe_bl fun _ _ => .bl i
theorem m_str {i : Str} {k pos} : PE X (.Constant (.str i) k pos) (tM c E (mC (.str i))) := m_c pe_str fun _ _ => .str i
theorem m_non {k pos} : PE X (.Constant .none k pos) (tM c E (mC .non)) := m_c pe_non fun _ _ => .non
theorem s_op {r : R2} {g : D → D → Mem → R D} (hr : SimR c r g) (σ : L2.St) (H : Hp) (Q : VK) : tM c E (mBin g x y) σ H Q → tOp r (tM c E x) (tM c E y) σ H Q := fun ⟨S, ι, mem, sl, s, q, p⟩ =>
  run1 (RR := rD c) s q p fun v1 d1 ι1 m1 H1 s1 f1 r1 p1 => run1 (RR := rD c) s1 (q.fr f1) p1 fun v2 d2 ι2 m2 H2 s2 f2 r2 p2 => hr _ S ι2 m2 H2 v1 v2 d1 d2 Q s2 (Rep.up f2.e f2.p r1) r2 p2
theorem m_op {op : Operator} {r : R2} {g : D → D → Mem → R D} (ho : OpR X (binaryOp op) r) (hr : SimR c r g) (ha : PE X a (tM c E x)) (hb : PE X b (tM c E y)) : PE X (.BinOp a op b pos) (tM c E (mBin g x y)) := (pe_op ho ha hb).weak (s_op hr)
theorem m_cmp {op : CmpOp} {r : R2} {g : D → D → Mem → R D} (ho : OpR X (compareOp op) r) (hr : SimR c r g) (ha : PE X a (tM c E x)) (hb : PE X b (tM c E y)) (hm : behindInMarks op b = false) : PE X (.Compare a [op] [b] pos) (tM c E (mBin g x y)) := (pe_cmpR ho ha hb hm).weak (s_op hr)
theorem m_un {op : UnaryOp} {r : V → Hp → VK → Prop} {g : D → Mem → R D} (h : PE X e (tUn r (tM c E x))) (hr : SimU c r g) : PE X e (tM c E (mUn g x)) := h.weak fun σ H Q ⟨S, ι, mem, sl, s, q, p⟩ =>
  run1 (RR := rD c) s q p fun v d ι1 m1 H1 s1 f1 r1 p1 => hr _ S ι1 m1 H1 v d Q s1 r1 p1
/-! tests -/
theorem s_test (σ : L2.St) (H : Hp) (Q : Bool → Hp → Prop) : tMT c E (mTest x) σ H Q → tTest (tM c E x) σ H Q := fun ⟨S, ι, mem, sl, s, q, p⟩ =>
  run1 (RR := rD c) s q p fun v d ι1 m1 H1 s1 f1 r1 p1 => by
    have r1' : Rep c (fz S ι1 H1) ι1 v d := r1
    cases r1' with
    | bl b => exact ⟨b, rfl, Post.here (v := b) p1 s1 rfl⟩
    | _ => exact p1.elim
theorem mt_cmp {op : CmpOp} {r : R2} {g : D → D → Mem → R D} (ho : OpR X (compareOp op) r) (hr : SimR c r g) (ha : PE X a (tM c E x)) (hb : PE X b (tM c E y)) (hm : behindInMarks op b = false) : PT X (.Compare a [op] [b] pos) (tMT c E (mTest (mBin g x y))) :=
  (pt_cmpR ho ha hb hm).weak fun σ H Q h => by
    obtain ⟨S, ι, mem, sl, s, q, p⟩ := s_test σ H Q h
    exact s_op hr σ H _ ⟨S, ι, mem, sl, s, q, p⟩
theorem mt_val (h : PE X e (tM c E x)) (he : ∀ whole, isTrue e X.env whole = (do let v ← whole; standAt e.pos; holding [v] (truthy v)) := by intro _; rfl) : PT X e (tMT c E (mTest x)) := (pt_val h he).weak fun σ H Q h => s_test σ H Q h
theorem mt_not (h : PT X a (tMT c E t)) : PT X (.UnaryOp .Not a pos) (tMT c E (mNot t)) := (pt_not h).weak fun σ H Q ⟨S, ι, mem, sl, s, q, p⟩ =>
  run1 (RR := rB) s q p fun v b ι1 m1 H1 s1 f1 r1 p1 => by
    have e1 : v = b := r1
    subst e1
    exact Post.here (v := !v) p1 s1 rfl
theorem s_and (σ : L2.St) (H : Hp) (Q : Bool → Hp → Prop) : tMT c E (mAnd t u) σ H Q → tAnd (tMT c E t) (tMT c E u) σ H Q := fun ⟨S, ι, mem, sl, s, q, p⟩ =>
  run1 (RR := rB) s q p fun v b ι1 m1 H1 s1 f1 r1 p1 => by
    have e1 : v = b := r1
    subst e1
    cases v with
    | true => exact ⟨S, ι1, m1, sl, s1, q.fr f1, p1⟩
    | false => exact Post.here (v := false) p1 s1 rfl
theorem s_or (σ : L2.St) (H : Hp) (Q : Bool → Hp → Prop) : tMT c E (mOr t u) σ H Q → tOr (tMT c E t) (tMT c E u) σ H Q := fun ⟨S, ι, mem, sl, s, q, p⟩ =>
  run1 (RR := rB) s q p fun v b ι1 m1 H1 s1 f1 r1 p1 => by
    have e1 : v = b := r1
    subst e1
    cases v with
    | true => exact Post.here (v := true) p1 s1 rfl
    | false => exact ⟨S, ι1, m1, sl, s1, q.fr f1, p1⟩
theorem _root_.L2.PW.weak {t t' : TT} (h : PW X e t) (k : ∀ σ H Q, t' σ H Q → t σ H Q) : PW X e t' := ⟨fun w pins s σ H Q I q => h.run w pins s σ H Q I (k σ H Q q)⟩
theorem mw_and {rest : List Expr} (ha : PT X a (tMT c E t)) (hb : PW X (.BoolOp .And (b :: rest) pos) (tMT c E u)) : PW X (.BoolOp .And (a :: b :: rest) pos) (tMT c E (mAnd t u)) := (pw_and ha hb).weak s_and
theorem mw_or {rest : List Expr} (ha : PT X a (tMT c E t)) (hb : PW X (.BoolOp .Or (b :: rest) pos) (tMT c E u)) : PW X (.BoolOp .Or (a :: b :: rest) pos) (tMT c E (mOr t u)) := (pw_or ha hb).weak s_or
theorem m_if {k : Expr} (hc : PT X k (tMT c E t)) (ha : PE X a (tM c E x)) (hb : PE X b (tM c E y)) : PE X (.IfExp k a b pos) (tM c E (mIf t x y)) := (pe_ifExp hc ha hb).weak fun σ H Q ⟨S, ι, mem, sl, s, q, p⟩ =>
  run1 (RR := rB) s q p fun v b ι1 m1 H1 s1 f1 r1 p1 => by
    have e1 : v = b := r1
    subst e1
    cases v with
    | true => exact ⟨S, ι1, m1, sl, s1, q.fr f1, p1⟩
    | false => exact ⟨S, ι1, m1, sl, s1, q.fr f1, p1⟩
/-! values by truth: bools -/
theorem m_and {rest : List Expr} (ha : PE X a (tM c E x)) (hb : PE X (.BoolOp .And (b :: rest) pos) (tM c E y)) : PE X (.BoolOp .And (a :: b :: rest) pos) (tM c E (mAndV x y)) := (pe_and ha hb).weak fun σ H Q ⟨S, ι, mem, sl, s, q, p⟩ =>
  run1 (RR := rD c) s q p fun v d ι1 m1 H1 s1 f1 r1 p1 => by
    have r1' : Rep c (fz S ι1 H1) ι1 v d := r1
    cases r1' with
    | bl b =>
      refine ⟨b, rfl, ?_⟩
      cases b with
      | true => exact ⟨S, ι1, m1, sl, s1, q.fr f1, p1⟩
      | false => exact Post.here (v := V.bl false) p1 s1 (Rep.bl false)
    | _ => exact p1.elim
theorem m_or {rest : List Expr} (ha : PE X a (tM c E x)) (hb : PE X (.BoolOp .Or (b :: rest) pos) (tM c E y)) : PE X (.BoolOp .Or (a :: b :: rest) pos) (tM c E (mOrV x y)) := (pe_or ha hb).weak fun σ H Q ⟨S, ι, mem, sl, s, q, p⟩ =>
  run1 (RR := rD c) s q p fun v d ι1 m1 H1 s1 f1 r1 p1 => by
    have r1' : Rep c (fz S ι1 H1) ι1 v d := r1
    cases r1' with
    | bl b =>
      refine ⟨b, rfl, ?_⟩
      cases b with
      | true => exact Post.here (v := V.bl true) p1 s1 (Rep.bl true)
      | false => exact ⟨S, ι1, m1, sl, s1, q.fr f1, p1⟩
    | _ => exact p1.elim
theorem m_not (ha : PE X a (tM c E x)) : PE X (.UnaryOp .Not a pos) (tM c E (mNotV x)) := (pe_not ha).weak fun σ H Q ⟨S, ι, mem, sl, s, q, p⟩ =>
  run1 (RR := rD c) s q p fun v d ι1 m1 H1 s1 f1 r1 p1 => by
    have r1' : Rep c (fz S ι1 H1) ι1 v d := r1
    cases r1' with
    | bl b => exact ⟨b, rfl, Post.here (v := V.bl (!b)) p1 s1 (Rep.bl _)⟩
    | _ => exact p1.elim
/-! arguments, displays -/
theorem m_nil : PA X [] (tMA c E mNil) := pa_nil.weak fun σ H Q ⟨S, ι, mem, sl, s, q, p⟩ => Post.here (v := ([] : List V)) p s RepA.nil
theorem m_cons (ha : PE X e (tM c E x)) (hr : PA X es (tMA c E ms)) (hs : starEach (e :: es) X.env = (false, eval e X.env) :: starEach es X.env := by rfl) : PA X (e :: es) (tMA c E (mCons x ms)) := (pa_cons ha hr hs).weak fun σ H Q ⟨S, ι, mem, sl, s, q, p⟩ =>
  run1 (RR := rD c) s q p fun v d ι1 m1 H1 s1 f1 r1 p1 => run1 (RR := rA c) s1 (q.fr f1) p1 fun vs ds ι2 m2 H2 s2 f2 r2 p2 => Post.here (v := v :: vs) p2 s2 (RepA.cons (Rep.up f2.e f2.p r1) r2)
theorem m_tup {k} (h : PA X es (tMA c E ms)) : PE X (.Tuple es k pos) (tM c E (mTup ms)) := (pe_tup h).weak fun σ H Q ⟨S, ι, mem, sl, s, q, p⟩ =>
  run1 (RR := rA c) s q p fun vs ds ι1 m1 H1 s1 f1 r1 p1 => by
    split at p1
    · rename_i hl
      refine ⟨by rw [RepA.len r1]; exact sz_of hl, fun a ha => ?_⟩
      obtain ⟨s2, f2, h2⟩ := s1.new (o := .tup vs) ha (fun _ z => nomatch z)
      exact p1 _ ι1 _ s2 f2 (Rep.tup (st_of h2) (RepA.up f2.e f2.p r1))
    · exact p1.elim
theorem m_lst (h : PA X es (tMA c E ms)) : PE X (.List es pos) (tM c E (mLst ms)) := (pe_lst h).weak fun σ H Q ⟨S, ι, mem, sl, s, q, p⟩ =>
  run1 (RR := rA c) s q p fun vs ds ι1 m1 H1 s1 f1 r1 p1 => by
    split at p1
    · rename_i hl
      refine ⟨by rw [RepA.len r1]; exact sz_of hl, fun a ha => ?_⟩
      obtain ⟨s2, f2, h2⟩ := s1.new (o := .lst vs) ha (fun _ z => nomatch z)
      exact p1 _ ι1 _ s2 f2 (Rep.lst h2 (RepA.up f2.e f2.p r1))
    · exact p1.elim
theorem m_lstN (h : PA X es (tMA c E ms)) : PE X (.List es pos) (tM c E (mLstN ms)) := (pe_lst h).weak fun σ H Q ⟨S, ι, mem, sl, s, q, p⟩ =>
  run1 (RR := rA c) s q p fun vs ds ι1 m1 H1 s1 f1 r1 p1 => by
    split at p1
    · rename_i hl
      refine ⟨by rw [RepA.len r1]; exact sz_of hl, fun a ha => ?_⟩
      obtain ⟨s2, f2⟩ := s1.alloc (o := .lst ds) (O := .lst vs) ha (.lst r1)
      refine p1 _ (ι1 ++ [a]) _ s2 f2 (Rep.ref ?_)
      rw [← s1.len, List.getElem?_append_right (Nat.le_refl _), Nat.sub_self]
      rfl
    · exact p1.elim
theorem s_cb {r : List V → Hp → VK → Prop} {g : List D → Mem → R D} (hr : SimB c r g) (σ : L2.St) (H : Hp) (Q : VK) : tM c E (mCB g ms) σ H Q → tCB r (tMA c E ms) σ H Q := fun ⟨S, ι, mem, sl, s, q, p⟩ =>
  run1 (RR := rA c) s q p fun vs ds ι1 m1 H1 s1 f1 r1 p1 => hr _ S ι1 m1 H1 vs ds Q s1 r1 p1
theorem m_cb {r : List V → Hp → VK → Prop} {g : List D → Mem → R D} (h : PE X e (tCB r (tMA c E ms))) (hr : SimB c r g) : PE X e (tM c E (mCB g ms)) := h.weak (s_cb hr)
end
end Mi
end
section
set_option Elab.async false
set_option linter.all false
set_option maxRecDepth 100000
set_option maxHeartbeats 4000000
/-! mirrors of statements -/
namespace Mi
open PySem PySem.Spec PyProof.Rows L2 Evl MeV
inductive RS where
  | next (sl : Sl) (m : Mem) | ret (d : D) (m : Mem) | brk (sl : Sl) (m : Mem) | cont (sl : Sl) (m : Mem) | exc (k : Nat) (fs : List (Str × D)) (sl : Sl) (m : Mem) | no
abbrev MS := Sl → Mem → RS
def R.seq {α : Type} : R α → Sl → (α → Mem → RS) → RS
  | .ok a m, _, f => f a m
  | .exc k fs m, sl, _ => .exc k fs sl m
  | .no, _, _ => .no
def PostS (c : Cc) (E : SX) (S : Wv) (ι : List Addr) (H : Hp) (r : RS) (D : Ends) : Prop :=
  match r with
  | .next sl m => ∀ σ ι' H', SR c S ι' m H' → Fr S ι H ι' H' → RepSl c (fz S ι' H') ι' σ sl → D.nx σ H'
  | .ret d m => ∀ v ι' H', SR c S ι' m H' → Fr S ι H ι' H' → Rep c (fz S ι' H') ι' v d → D.rt v H'
  | .brk sl m => ∀ σ ι' H', SR c S ι' m H' → Fr S ι H ι' H' → RepSl c (fz S ι' H') ι' σ sl → D.bk σ H'
  | .cont sl m => ∀ σ ι' H', SR c S ι' m H' → Fr S ι H ι' H' → RepSl c (fz S ι' H') ι' σ sl → D.ct σ H'
  | .exc k fs sl m => ∀ σ x ws ι' H', SR c S ι' m H' → Fr S ι H ι' H' → RepSl c (fz S ι' H') ι' σ sl → fz S ι' H' x = some (.xd ws) → RepF c (fz S ι' H') ι' ws fs → E σ (.ref (c.cl k)) (some x) H'
  | .no => False
def tMS (c : Cc) (E : SX) (m : MS) : TS := fun D σ H => ∃ S ι mem sl, SR c S ι mem H ∧ RepSl c (fz S ι H) ι σ sl ∧ PostS c E S ι H (m sl mem) D
section
variable {c : Cc} {E : SX} {S : Wv} {ι ι' : List Addr} {mem : Mem} {H H' : Hp} {σ : L2.St} {sl : Sl} {α β : Type} {RR : Hp → List Addr → β → α → Prop} {K : β → Hp → Prop} {D D' : Ends}
theorem PostS.from {r : RS} (p : PostS c E S ι H r D) (f : Fr S ι H ι' H') : PostS c E S ι' H' r D := by
  cases r with
  | next sl m => exact fun v ι2 H2 s g q => p v ι2 H2 s (f.trans g) q
  | ret sl m => exact fun v ι2 H2 s g q => p v ι2 H2 s (f.trans g) q
  | brk sl m => exact fun v ι2 H2 s g q => p v ι2 H2 s (f.trans g) q
  | cont sl m => exact fun v ι2 H2 s g q => p v ι2 H2 s (f.trans g) q
  | exc k fs sl m => exact fun σ x ws ι2 H2 s g r q w => p σ x ws ι2 H2 s (f.trans g) r q w
  | no => exact p
/-- a mirror of an expression runs, one of a statement follows -/
theorem runS {m : Sl → Mem → R α} {f : α → Mem → RS} (s : SR c S ι mem H) (q : RepSl c (fz S ι H) ι σ sl) (p : PostS c E S ι H ((m sl mem).seq sl f) D)
    (k : ∀ v a ι1 mem1 H1, SR c S ι1 mem1 H1 → Fr S ι H ι1 H1 → RR (fz S ι1 H1) ι1 v a → PostS c E S ι1 H1 (f a mem1) D → K v H1) : tG c E RR m σ H K := by
  refine ⟨S, ι, mem, sl, s, q, ?_⟩
  cases hm : m sl mem with
  | ok a m1 =>
    rw [hm] at p
    exact fun v ι1 H1 s1 f1 r1 => k v a ι1 m1 H1 s1 f1 r1 (PostS.from (r := f a m1) p f1)
  | exc k0 fs m1 =>
    rw [hm] at p
    exact fun x ws ι' H' s' f' a b => p σ x ws ι' H' s' f' (q.fr f') a b
  | no =>
    rw [hm] at p
    exact p.elim
end
/-! the mirrors -/
def nAsg (i : Nat) (x : ME) : MS := fun sl m => (x sl m).seq sl fun d m1 => .next (sl.set i (some d)) m1
def nRet (x : ME) : MS := fun sl m => (x sl m).seq sl fun d m1 => .ret d m1
def nRetN : MS := fun _ m => .ret .non m
def nDrop (x : ME) : MS := fun sl m => (x sl m).seq sl fun _ m1 => .next sl m1
def nIf (t : MT) (a b : MS) : MS := fun sl m => (t sl m).seq sl fun k m1 => bif k then a sl m1 else b sl m1
def nNil : MS := fun sl m => .next sl m
def nBrk : MS := fun sl m => .brk sl m
def nCont : MS := fun sl m => .cont sl m
def RS.then : RS → MS → RS
  | .next sl m, f => f sl m
  | r, _ => r
def nSeq (a b : MS) : MS := fun sl m => (a sl m).then b
def nPar (i j : Nat) (x : MA) : MS := fun sl m => (x sl m).seq sl fun ds m1 => match ds with
  | [d1, d2] => .next ((sl.set i (some d1)).set j (some d2)) m1
  | _ => .no
/-- a target takes a value -/
abbrev MG := D → Sl → Option Sl
def SimG (c : Cc) (g : TG) (mg : MG) : Prop := ∀ (S : Wv) (ι : List Addr) (mem : Mem) (H : Hp) (σ : L2.St) (sl sl' : Sl) (v : V) (d : D) (Q : L2.St → Hp → Prop), SR c S ι mem H → RepSl c (fz S ι H) ι σ sl → Rep c (fz S ι H) ι v d → mg d sl = some sl' → (∀ σ', RepSl c (fz S ι H) ι σ' sl' → Q σ' H) → g v σ H Q
def gSet (i : Nat) : MG := fun d sl => some (sl.set i (some d))
def gSets : List MG → List D → Sl → Option Sl
  | [], [], sl => some sl
  | g :: gs, d :: ds, sl => (g d sl).bind fun sl1 => gSets gs ds sl1
  | _, _, _ => none
def gTup (gs : List MG) : MG := fun d sl => match d with
  | .tup ds => gSets gs ds sl
  | _ => none
def nAsgG (g : MG) (x : ME) : MS := fun sl m => (x sl m).seq sl fun d m1 => match g d sl with
  | some sl1 => .next sl1 m1
  | none => .no
section
variable {X : Cx} {c : Cc} {E : SX} {e a b : Expr} {es : List Expr} {pos : Pos} {x y : ME} {ms : MA} {t u : MT} {p q : MS} {st : Stmt} {sts : List Stmt}
theorem n_asg {i : Nat} (h : PS X st (tAsg (tM c E x) (gName i))) : PS X st (tMS c E (nAsg i x)) := h.weak fun D σ H ⟨S, ι, mem, sl, s, q, p⟩ =>
  runS (RR := rD c) s q p fun v d ι1 m1 H1 s1 f1 r1 p1 => p1 _ ι1 H1 s1 Fr.refl ((q.fr f1).set i r1)
theorem n_ret (h : PS X st (tRet (tM c E x))) : PS X st (tMS c E (nRet x)) := h.weak fun D σ H ⟨S, ι, mem, sl, s, q, p⟩ =>
  runS (RR := rD c) s q p fun v d ι1 m1 H1 s1 f1 r1 p1 => p1 v ι1 H1 s1 Fr.refl r1
theorem n_retN : PS X (.Return none pos) (tMS c E nRetN) := ps_retN.weak fun D σ H ⟨S, ι, mem, sl, s, q, p⟩ => p V.non ι H s Fr.refl Rep.non
theorem n_drop (h : PS X st (tDrop (tM c E x))) : PS X st (tMS c E (nDrop x)) := h.weak fun D σ H ⟨S, ι, mem, sl, s, q, p⟩ =>
  runS (RR := rD c) s q p fun v d ι1 m1 H1 s1 f1 r1 p1 => p1 σ ι1 H1 s1 Fr.refl (q.fr f1)
theorem n_if {k : Expr} {ls rs : List Stmt} (hc : PT X k (tMT c E t)) (ha : PSs X ls (tMS c E p)) (hb : PSs X rs (tMS c E q)) : PS X (.If k ls rs pos) (tMS c E (nIf t p q)) := (ps_if hc ha hb).weak fun D σ H ⟨S, ι, mem, sl, s, r, w⟩ =>
  runS (RR := rB) s r w fun v k ι1 m1 H1 s1 f1 r1 p1 => by
    have e1 : v = k := r1
    subst e1
    cases v with
    | true => exact ⟨S, ι1, m1, sl, s1, r.fr f1, p1⟩
    | false => exact ⟨S, ι1, m1, sl, s1, r.fr f1, p1⟩
theorem n_nil : PSs X [] (tMS c E nNil) := pss_nil.weak fun D σ H ⟨S, ι, mem, sl, s, q, p⟩ => p σ ι H s Fr.refl q
theorem n_pass : PS X (.Pass pos) (tMS c E nNil) := (ps_pass (X := X)).weak fun D σ H ⟨S, ι, mem, sl, s, q, p⟩ => p σ ι H s Fr.refl q
theorem n_brk : PS X (.Break pos) (tMS c E nBrk) := (ps_break (X := X)).weak fun D σ H ⟨S, ι, mem, sl, s, q, p⟩ => p σ ι H s Fr.refl q
theorem n_cont : PS X (.Continue pos) (tMS c E nCont) := (ps_continue (X := X)).weak fun D σ H ⟨S, ι, mem, sl, s, q, p⟩ => p σ ι H s Fr.refl q
theorem n_one (h : PS X st (tMS c E p)) : PSs X [st] (tMS c E p) := pss_one h
theorem n_cons (h1 : PS X st (tMS c E p)) (h2 : PSs X sts (tMS c E q)) : PSs X (st :: sts) (tMS c E (nSeq p q)) := (pss_cons h1 h2).weak fun D σ H ⟨S, ι, mem, sl, s, r, w⟩ => by
  refine ⟨S, ι, mem, sl, s, r, ?_⟩
  have w' : PostS c E S ι H ((p sl mem).then q) D := w
  cases hp : p sl mem with
  | next sl1 m1 =>
    rw [hp] at w'
    exact fun σ1 ι1 H1 s1 f1 q1 => ⟨S, ι1, m1, sl1, s1, q1, PostS.from (r := q sl1 m1) w' f1⟩
  | ret d m =>
    rw [hp] at w'
    exact w'
  | brk d m =>
    rw [hp] at w'
    exact w'
  | cont d m =>
    rw [hp] at w'
    exact w'
  | exc k d sl m =>
    rw [hp] at w'
    exact w'
  | no =>
    rw [hp] at w'
    exact w'
theorem n_par {i j : Nat} (h : PS X st (tPar i j (tMA c E ms))) : PS X st (tMS c E (nPar i j ms)) := h.weak fun D σ H ⟨S, ι, mem, sl, s, q, p⟩ =>
  runS (RR := rA c) s q p fun vs ds ι1 m1 H1 s1 f1 r1 p1 => by
    have r1' : RepA c (fz S ι1 H1) ι1 vs ds := r1
    cases r1' with
    | nil => exact p1.elim
    | @cons v1 d1 vs1 ds1 k1 r2 =>
      cases r2 with
      | nil => exact p1.elim
      | @cons v2 d2 vs2 ds2 k2 r3 =>
        cases r3 with
        | nil => exact ⟨v1, v2, rfl, p1 _ ι1 H1 s1 Fr.refl (((q.fr f1).set i k1).set j k2)⟩
        | cons k3 r4 => exact p1.elim
theorem g_set (i : Nat) : SimG c (gName i) (gSet i) := fun S ι mem H σ sl sl' v d Q s q r h k => by
  cases h
  exact k _ (q.set i r)
/-- a row of targets -/
def SimGs (c : Cc) (g : TGs) (gs : List MG) : Prop := ∀ (S : Wv) (ι : List Addr) (mem : Mem) (H : Hp) (σ : L2.St) (sl sl' : Sl) (vs : List V) (ds : List D) (Q : L2.St → Hp → Prop), SR c S ι mem H → RepSl c (fz S ι H) ι σ sl → RepA c (fz S ι H) ι vs ds → gSets gs ds sl = some sl' → (∀ σ', RepSl c (fz S ι H) ι σ' sl' → Q σ' H) → g vs σ H Q
theorem gs_nil : SimGs c gNil [] := fun S ι mem H σ sl sl' vs ds Q s q r h k => by
  cases r with
  | nil =>
    cases h
    exact ⟨rfl, k _ q⟩
  | cons _ _ => cases h
theorem gs_cons {g : TG} {gs : TGs} {m : MG} {mr : List MG} (h1 : SimG c g m) (h2 : SimGs c gs mr) : SimGs c (gCons g gs) (m :: mr) := fun S ι mem H σ sl sl' vs ds Q s q r h k => by
  cases r with
  | nil => cases h
  | @cons v d vs ds k1 r2 =>
    have h' : (m d sl).bind (fun sl1 => gSets mr ds sl1) = some sl' := h
    obtain ⟨sl1, e1, e2⟩ := Option.bind_eq_some_iff.mp h'
    exact ⟨v, vs, rfl, h1 S ι mem H σ sl sl1 v d _ s q k1 e1 fun σ1 q1 => h2 S ι mem H σ1 sl1 sl' vs ds Q s q1 r2 e2 k⟩
theorem gSets_len : ∀ {gs : List MG} {ds : List D} {sl sl' : Sl}, gSets gs ds sl = some sl' → ds.length = gs.length
  | [], [], _, _, _ => rfl
  | g :: gs, d :: ds, sl, sl', h => by
    obtain ⟨sl1, _, e2⟩ := Option.bind_eq_some_iff.mp (show (g d sl).bind (fun sl1 => gSets gs ds sl1) = some sl' from h)
    exact congrArg (· + 1) (gSets_len e2)
theorem g_tup {gs : TGs} {mr : List MG} {n : Nat} (h : SimGs c gs mr) (hn : mr.length = n) : SimG c (L2.gTup c.K n gs) (gTup mr) := fun S ι mem H σ sl sl' v d Q s q r e k => by
  cases r with
  | @tup a xs ds h1 h2 =>
    have e' : gSets mr ds sl = some sl' := e
    exact ⟨a, xs, rfl, ex_t fz_sub h1, by rw [RepA.len h2, gSets_len e']; exact hn, h S ι mem H σ sl sl' xs ds Q s q h2 e' k⟩
  | _ => cases e
theorem n_asgG {g : TG} {mg : MG} (h : PS X st (tAsg (tM c E x) g)) (hg : SimG c g mg) : PS X st (tMS c E (nAsgG mg x)) := h.weak fun D σ H ⟨S, ι, mem, sl, s, q, p⟩ =>
  runS (RR := rD c) s q p fun v d ι1 m1 H1 s1 f1 r1 p1 => by
    cases he : mg d sl with
    | none =>
      rw [he] at p1
      exact p1.elim
    | some sl1 =>
      rw [he] at p1
      exact hg S ι1 m1 H1 σ sl sl1 v d _ s1 (q.fr f1) r1 he fun σ' q' => p1 σ' ι1 H1 s1 Fr.refl q'
end
/-! loops over what is walked -/
abbrev MI := Sl → Mem → R (List D)
/-- an iterator that gives ds, whatever else happens -/
def Gives (c : Cc) (h : Hp) (ι : List Addr) (J : It) (ds : List D) : Prop := ∀ (S2 : Wv) (ι2 : List Addr) (mem2 : Mem) (H2 : Hp), SR c S2 ι2 mem2 H2 → Ex h (fz S2 ι2 H2) → ι <+: ι2 →
  (∀ i, i < ds.length → J.go i H2 ∧ ∀ x H3, J.yld i H2 x H3 → Ex H2 H3 ∧ ∃ d, ds[i]? = some d ∧ Rep c (fz S2 ι2 H3) ι2 x d) ∧ J.stop ds.length H2
def SimI (c : Cc) (E : SX) (wi : TI) (mi : MI) : Prop := ∀ (S : Wv) (ι : List Addr) (mem : Mem) (H : Hp) (σ : L2.St) (sl : Sl) (K : It → Hp → Prop), SR c S ι mem H → RepSl c (fz S ι H) ι σ sl →
  (match mi sl mem with
    | .ok ds m1 => ∀ J ι1 H1, SR c S ι1 m1 H1 → Fr S ι H ι1 H1 → Gives c (fz S ι1 H1) ι1 J ds → K J H1
    | .exc k fs m1 => ∀ x ws ι' H', SR c S ι' m1 H' → Fr S ι H ι' H' → fz S ι' H' x = some (.xd ws) → RepF c (fz S ι' H') ι' ws fs → E σ (.ref (c.cl k)) (some x) H'
    | .no => False) → wi σ H K
def forL (g : MG) (body : MS) : List D → MS
  | [], sl, m => .next sl m
  | d :: ds, sl, m => match g d sl with
    | none => .no
    | some sl1 => match body sl1 m with
      | .next sl2 m2 => forL g body ds sl2 m2
      | .cont sl2 m2 => forL g body ds sl2 m2
      | .brk sl2 m2 => .next sl2 m2
      | r => r
def nFor (it : MI) (g : MG) (body : MS) : MS := fun sl m => (it sl m).seq sl fun ds m1 => forL g body ds sl m1
section
variable {X : Cx} {c : Cc} {E : SX} {pos : Pos} {st : Stmt} {wi : TI} {g : TG} {tb : TS} {mi : MI} {mg : MG} {body : MS}
theorem n_for (h : PS X st (tFor wi g (tMS c E body))) (hi : SimI c E wi mi) (hg : SimG c g mg) : PS X st (tMS c E (nFor mi mg body)) := h.weak fun D σ H ⟨S, ι, mem, sl, s, q, p⟩ => by
  refine hi S ι mem H σ sl _ s q ?_
  have p' : PostS c E S ι H ((mi sl mem).seq sl fun ds m1 => forL mg body ds sl m1) D := p
  cases hm : mi sl mem with
  | no =>
    rw [hm] at p'
    exact p'
  | exc k fs m1 =>
    rw [hm] at p'
    exact fun x ws ι' H' s' f' a b => p' σ x ws ι' H' s' f' (q.fr f') a b
  | ok ds m1 =>
    rw [hm] at p'
    refine fun J ι1 H1 s1 f1 gv => ?_
    have w : Walk J ds.length (fun H' => ∃ ι2 mem2, SR c S ι2 mem2 H' ∧ Fr S ι1 H1 ι2 H') (fun i H' x H3 => Ex H' H3 ∧ ∀ ι2 mem2, SR c S ι2 mem2 H' → Fr S ι1 H1 ι2 H' → ∃ d, ds[i]? = some d ∧ Rep c (fz S ι2 H3) ι2 x d) :=
      ⟨fun i H' hi ⟨ι2, mem2, s2, f2⟩ => ((gv S ι2 mem2 H' s2 f2.e f2.p).1 i hi).1, fun H' ⟨ι2, mem2, s2, f2⟩ => (gv S ι2 mem2 H' s2 f2.e f2.p).2, fun i H' x H3 hi ⟨ι2, mem2, s2, f2⟩ y => ⟨(((gv S ι2 mem2 H' s2 f2.e f2.p).1 i hi).2 x H3 y).1, fun ι3 mem3 s3 f3 => (((gv S ι3 mem3 H' s3 f3.e f3.p).1 i hi).2 x H3 y).2⟩⟩
    refine for_it w (fun i σ' H' => ∃ ι2 mem2 sl2, SR c S ι2 mem2 H' ∧ Fr S ι1 H1 ι2 H' ∧ RepSl c (fz S ι2 H') ι2 σ' sl2 ∧ PostS c E S ι2 H' (forL mg body (ds.drop i) sl2 mem2) D)
      ⟨ι1, m1, sl, s1, Fr.refl, q.fr f1, PostS.from (r := forL mg body ds sl m1) p' f1⟩ (fun i σ' H' _ ⟨ι2, mem2, sl2, a, b, _⟩ => ⟨ι2, mem2, a, b⟩) (fun i x σ' H2 H3 hi ⟨ι2, mem2, sl2, s2, f2, q2, p2⟩ y => ?_) fun σ' H' ⟨ι2, mem2, sl2, s2, f2, q2, p2⟩ => ?_
    · obtain ⟨ex, y2⟩ := y
      obtain ⟨d, hd, rd⟩ := y2 ι2 mem2 s2 f2
      obtain ⟨s3, f3⟩ := s2.grow ex
      have hdr : ds.drop i = d :: ds.drop (i + 1) := by
        obtain ⟨hlt, he⟩ := List.getElem?_eq_some_iff.mp hd
        rw [← he]
        exact List.drop_eq_getElem_cons hlt
      rw [hdr] at p2
      have p3 := PostS.from p2 f3
      cases hgd : mg d sl2 with
      | none =>
        have z : forL mg body (d :: ds.drop (i + 1)) sl2 mem2 = .no := by
          show (match mg d sl2 with | none => RS.no | some sl1 => _) = _
          rw [hgd]
        rw [z] at p3
        exact p3.elim
      | some sl3 =>
        refine hg S ι2 mem2 H3 σ' sl2 sl3 x d _ s3 (q2.fr f3) rd hgd fun σ3 q3 => ⟨S, ι2, mem2, sl3, s3, q3, ?_⟩
        have z : forL mg body (d :: ds.drop (i + 1)) sl2 mem2 = (match body sl3 mem2 with
            | .next sl2 m2 => forL mg body (ds.drop (i + 1)) sl2 m2
            | .cont sl2 m2 => forL mg body (ds.drop (i + 1)) sl2 m2
            | .brk sl2 m2 => .next sl2 m2
            | r => r) := by
          show (match mg d sl2 with | none => RS.no | some sl1 => _) = _
          rw [hgd]
        rw [z] at p3
        cases hb : body sl3 mem2 with
        | next sl4 m4 =>
          rw [hb] at p3
          exact fun σ4 ι4 H4 s4 f4 q4 => ⟨ι4, m4, sl4, s4, (f2.trans f3).trans f4, q4, PostS.from p3 f4⟩
        | cont sl4 m4 =>
          rw [hb] at p3
          exact fun σ4 ι4 H4 s4 f4 q4 => ⟨ι4, m4, sl4, s4, (f2.trans f3).trans f4, q4, PostS.from p3 f4⟩
        | brk sl4 m4 =>
          rw [hb] at p3
          exact p3
        | ret d4 m4 =>
          rw [hb] at p3
          exact p3
        | exc k fs sl4 m4 =>
          rw [hb] at p3
          exact p3
        | no =>
          rw [hb] at p3
          exact p3
    · rw [List.drop_length] at p2
      exact p2 σ' ι2 H' s2 Fr.refl q2
end
end Mi
end
section
set_option Elab.async false
set_option linter.all false
set_option maxRecDepth 100000
set_option maxHeartbeats 4000000
/-! mirrors of defs and of their calls -/
namespace Mi
open PySem PySem.Spec PyProof.Rows L2 Evl MeV MeG
abbrev MF := List D → Mem → R D
/-- the promise of a def whose mirror is f -/
def spM (c : Cc) (n : Nat) (f : MF) : Sp := fun vs H Q E => ∃ S ι mem ds, SR c S ι mem H ∧ RepA c (fz S ι H) ι vs ds ∧ ds.length = n ∧ Post c E S ι H (rD c) (f ds mem) Q
def slStart (N : List Str) (ds : List D) : Sl := ds.map some ++ List.replicate (N.length - ds.length) none
def RS.back : RS → R D
  | .next _ m => .ok .non m
  | .ret d m => .ok d m
  | .exc k fs _ m => .exc k fs m
  | _ => .no
/-- a def's mirror, from its body's -/
def mDef (N : List Str) (b : MS) : MF := fun ds m => (b (slStart N ds) m).back
def mCall (n : Nat) (f : MF) (r : MA) : ME := fun sl m => (r sl m).bind fun ds m1 => if ds.length = n then f ds m1 else .no
section
variable {c : Cc} {h : Hp} {ι : List Addr}
theorem repA_start : ∀ {vs : List V} {ds : List D} {i : Nat} {d : D}, RepA c h ι vs ds → (ds.map some)[i]? = some (some d) → ∃ v, (vs.map some)[i]? = some (some v) ∧ Rep c h ι v d := fun {vs ds i d} r e => by
  rw [List.getElem?_map] at e
  obtain ⟨d', h1, h2⟩ := Option.map_eq_some_iff.mp e
  cases h2
  obtain ⟨v, h3, h4⟩ := r.get h1
  exact ⟨v, by rw [List.getElem?_map, h3]; rfl, h4⟩
theorem repSl_start (N : List Str) {vs : List V} {ds : List D} (r : RepA c h ι vs ds) : RepSl c h ι (L2.start N vs) (slStart N ds) := by
  have hl := r.len
  refine ⟨?_, fun i d e => ?_⟩
  · unfold L2.start slStart
    rw [List.length_append, List.length_append, List.length_map, List.length_map, List.length_replicate, List.length_replicate, hl]
  · unfold slStart at e
    unfold L2.start
    by_cases hi : i < ds.length
    · rw [List.getElem?_append_left (by rw [List.length_map]; exact hi)] at e
      obtain ⟨v, h1, h2⟩ := repA_start r e
      exact ⟨v, by rw [List.getElem?_append_left (by rw [List.length_map, hl]; exact hi)]; exact h1, h2⟩
    · rw [List.getElem?_append_right (by rw [List.length_map]; omega)] at e
      have := List.mem_of_getElem? e
      have z := List.eq_of_mem_replicate this
      cases z
end
section
variable {P : Program} {w : World} {K : PySem.W.Frag} {mg : Str → Option Value} {base : Heap} {x qual : Str} {params : Arguments} {body : List Stmt} {scope : Scope} {dvs : List V} {kws : List (Str × V)} {f : Addr} {fd : FuncData} {c : Cc}
/-- a body's mirror makes a def's -/
theorem fn_M {N ps : List Str} {k : Nat} {b : MS} (F : FunD K x qual params body scope dvs kws f fd) (Sg : FnScope N ps scope)
    (hb : ∀ (cdv : Value) (A : Around) (outer : List Env) (s : Shared) (H : Hp) (E : XK), (A.deeper (envOfC qual scope s.heap.objs.size f cdv)).guards = some [] → Room k (A.deeper (envOfC qual scope s.heap.objs.size f cdv)) →
      PSs (cxOf (L2.CX P w) P w K mg base N qual scope f cdv A outer s H E) body (tMS c (fun _ => E) b)) : FnG P w K mg base (L2.CX P w) (k + 1) f fd ps (spM c ps.length (mDef N b)) := by
  refine okG F Sg (fun vs H Q E h => ?_) fun cdv A outer s H vs Q E hgd hr h => ?_
  · obtain ⟨S, ι, mem, ds, _, h2, h3, _⟩ := h
    rw [h2.len]
    exact h3
  · obtain ⟨S, ι, mem, ds, h1, h2, h3, p⟩ := h
    refine ⟨_, hb cdv A outer s H E hgd hr, S, ι, mem, slStart N ds, h1, repSl_start N h2, ?_⟩
    have p' : Post c E S ι H (rD c) (b (slStart N ds) mem).back Q := p
    cases hm : b (slStart N ds) mem with
    | next sl m =>
      rw [hm] at p'
      exact fun σ ι' H' s' f' _ => p' V.non ι' H' s' f' Rep.non
    | ret d m =>
      rw [hm] at p'
      exact p'
    | exc k fs sl m =>
      rw [hm] at p'
      exact fun σ x ws ι' H' s' f' _ a b => p' x ws ι' H' s' f' a b
    | brk sl m =>
      rw [hm] at p'
      exact p'.elim
    | cont sl m =>
      rw [hm] at p'
      exact p'.elim
    | no =>
      rw [hm] at p'
      exact p'.elim
end
/-- errors of a callee reach what is wanted of them at the slots -/
def PassS (CX : CXT) (X : Cx) (E : SX) : Prop := ∀ (pins : List (Addr × Obj)) (σ : L2.St) (H : Hp) (s : Shared) (e : Value) (s' : Shared), Inv X pins σ H s → CX X.stack H s (E σ) e s' → X.xe e s'
def tCallS (sp : Sp) (E : SX) (t : TA) : TE := fun σ H Q => t σ H fun vs H1 => sp vs H1 Q (E σ)
section
variable {X : Cx} {CX : CXT} {k : Nat} {f : Addr} {fd : FuncData} {ps : List Str} {sp : Sp} {E : SX} {x : Str} {p pos : Pos} {e : Expr} {es : List Expr} {t : TA}
theorem passS {X : Cx} {W : WX} {E : SX} (tk : Takes X W) (hW : ∀ cls d σ H, E σ cls d H → W cls d σ H) : PassS (L2.CX X.prog X.w) X E := fun _ σ _ _ e s' I c => tk e s' (XE.of_call I (fun cls d H' h => hW cls d σ H' h) c)
theorem run_fnS {pins : List (Addr × Obj)} {σ : L2.St} {H : Hp} {s : Shared} {Q : VK} {us : List Value} {vs : List V} (F : FnG X.prog X.w X.K X.mg X.base CX k f fd ps sp) (hgd : X.A.guards = some []) (room : Room k X.A) (bind : L2.Binds X.K fd ps []) (out : PassS CX X E)
    (I : Inv X pins σ H s) (vals : Vals vs us) (want : sp vs H Q (E σ)) : wpAny (model X.prog X.w) X.A (call (.ref f) us) (EP X pins σ Q) X.xe s := by
  have count : (us ++ []).length = ps.length := by
    rw [List.append_nil, ← vals.length]
    exact F.len _ _ _ _ want
  have bd := bind s us I.kIn count
  rw [List.append_nil] at bd
  refine wpAny_call (codeAny_mono (F.run X.A X.stack s H ⟨us, []⟩ us vs Q (E σ) hgd room I.env0 bd vals want) fun r s' h => ?_)
  match r, h with
  | .ok (.ret _), h => exact I.after h
  | .error e, h => exact out pins σ H s e s' I h
theorem pe_callS (F : FnG X.prog X.w X.K X.mg X.base CX k f fd ps sp) (hgd : X.A.guards = some []) (room : Room k X.A) (hg : Gl X x) (hm : X.mg x = some (.ref f)) (hk : PySem.W.keepIn X.K (.ref f) = true) (bind : L2.Binds X.K fd ps []) (out : PassS CX X E)
    (ha : PA X (e :: es) t) (hdb : (x == ("__debug__" : Str)) = false := by decide) (one : starEach (e :: es) X.env = (false, eval e X.env) :: starEach es X.env := by rfl) (plain : (backTo pos (starEach es X.env)).any (·.1) = false := by rfl) :
    PE X (.Call (.Name x p) (e :: es) [] pos) (tCallS sp E t) :=
  ⟨fun pins s σ H _ I h => wpAny_Call_Name_kw (ld_glob I hg hm (PySem.W.callWith_K I.ok.mod.kin hk (thn (ha.run pos pins s σ H _ I h) fun _ _ ⟨_, _, I1, r, q⟩ => ⟨I1.kIn, run_fnS F hgd room bind out I1 r q⟩) one plain) hdb)⟩
theorem pe_callS0 (F : FnG X.prog X.w X.K X.mg X.base CX k f fd ps sp) (hgd : X.A.guards = some []) (room : Room k X.A) (hg : Gl X x) (hm : X.mg x = some (.ref f)) (hk : PySem.W.keepIn X.K (.ref f) = true) (bind : L2.Binds X.K fd ps []) (out : PassS CX X E)
    (hdb : (x == ("__debug__" : Str)) = false := by decide) : PE X (.Call (.Name x p) [] [] pos) (tCallS sp E tNil) :=
  ⟨fun pins s σ H _ I h => wpAny_Call_Name_kw (ld_glob I hg hm (PySem.W.callWith_K0 I.kIn hk (run_fnS F hgd room bind out I .nil h)) hdb)⟩
end
section
variable {X : Cx} {c : Cc} {E : SX} {e : Expr} {es : List Expr} {pos p : Pos} {ms : MA} {x : Str} {k n : Nat} {f : Addr} {fd : FuncData} {ps : List Str} {mf : MF}
theorem s_call (σ : L2.St) (H : Hp) (Q : VK) : tM c E (mCall n mf ms) σ H Q → tCallS (spM c n mf) E (tMA c E ms) σ H Q := fun ⟨S, ι, mem, sl, s, q, w⟩ =>
  run1 (RR := rA c) s q w fun vs ds ι1 m1 H1 s1 f1 r1 p1 => by
    split at p1
    · rename_i hn
      exact ⟨S, ι1, m1, ds, s1, r1, hn, p1⟩
    · exact p1.elim
/-- what it takes to call a def by its name -/
structure Cal (X : Cx) (c : Cc) (x : Str) (k : Nat) (f : Addr) (fd : FuncData) (ps : List Str) (mf : MF) : Prop where
  F : FnG X.prog X.w X.K X.mg X.base (L2.CX X.prog X.w) k f fd ps (spM c ps.length mf)
  hm : X.mg x = some (.ref f)
  hk : PySem.W.keepIn X.K (.ref f) = true
  hb : L2.Binds X.K fd ps []
theorem m_call (C : Cal X c x k f fd ps mf) (hgd : X.A.guards = some []) (hr : Room k X.A) (hg : Gl X x) (hx : PassS (L2.CX X.prog X.w) X E) (ha : PA X (e :: es) (tMA c E ms))
    (hdb : (x == ("__debug__" : Str)) = false := by decide) (he : starEach (e :: es) X.env = (false, eval e X.env) :: starEach es X.env := by rfl) (hpl : (backTo pos (starEach es X.env)).any (·.1) = false := by rfl) :
    PE X (.Call (.Name x p) (e :: es) [] pos) (tM c E (mCall ps.length mf ms)) := (pe_callS C.F hgd hr hg C.hm C.hk C.hb hx ha hdb he hpl).weak s_call
theorem m_call0 (C : Cal X c x k f fd ps mf) (hgd : X.A.guards = some []) (hr : Room k X.A) (hg : Gl X x) (hx : PassS (L2.CX X.prog X.w) X E) (hdb : (x == ("__debug__" : Str)) = false := by decide) :
    PE X (.Call (.Name x p) [] [] pos) (tM c E (mCall ps.length mf mNil)) := (pe_callS0 C.F hgd hr hg C.hm C.hk C.hb hx hdb).weak fun σ H Q ⟨S, ι, mem, sl, s, q, w⟩ => by
  have w' : Post c (E σ) S ι H (rD c) (if ([] : List D).length = ps.length then mf [] mem else .no) Q := w
  split at w'
  · rename_i hn
    exact ⟨S, ι, mem, [], s, .nil, hn, w'⟩
  · exact w'.elim
end
end Mi
end
section
set_option Elab.async false
set_option linter.all false
set_option maxRecDepth 100000
set_option maxHeartbeats 4000000
/-! mirrors of list comprehensions -/
namespace Mi
open PySem PySem.Spec PyProof.Rows L2 Evl MeV MeG
section
variable {c : Cc} {S : Wv} {ι : List Addr} {m : Mem} {H : Hp} {p : Addr} {xs : List V}
theorem fz_lst (S : Wv) (ι : List Addr) (H : Hp) (p : Addr) (xs : List V) : Ex (fz (S.lst p xs) ι H) (fz S ι H) := fun a o h => by
  obtain ⟨h1, h2⟩ := of_fz h
  exact fz_of h1 (of_hv h2).2
/-- a new list that grows, not told to the memory -/
theorem SR.tmp (s : SR c S ι m H) (n : H p = none) : SR c (S.lst p xs) ι m (upd H p (.lst xs)) ∧ Ex (fz S ι H) (fz (S.lst p xs) ι (upd H p (.lst xs))) := by
  obtain ⟨i1, e1⟩ := S.up s.i (Ex.new (o := .lst xs) n)
  have ne : ∀ {a : Addr} {o : HO}, S.vw H a = some o → a ≠ p := fun {a o} h z => by
    rw [z] at h
    rw [S.sub _ _ _ h] at n
    cases n
  have f : Ex (fz S ι H) (fz (S.lst p xs) ι (upd H p (.lst xs))) := fun a o h => by
    obtain ⟨h1, h2⟩ := of_fz h
    exact fz_of h1 (hv_of (e1 _ _ h2) (ne h2))
  refine ⟨⟨lst_of i1 (S.see s.i n (Ex.new n) upd_same pl_lst.1), s.nd, s.len, fun k a o h1 h2 => ?_, fun p hp => (s.cap p hp).up f (List.prefix_refl _), fun T h => (s.tb T h).hide⟩, f⟩
  obtain ⟨O, h3, h4⟩ := s.at_ k a o h1 h2
  exact ⟨O, hv_of (e1 _ _ h3) (ne h3), h4.up f (List.prefix_refl _)⟩
/-- .. grown -/
theorem SR.push (s : SR c (S.lst p xs) ι m H) (ht : ∀ T, c.L.tabs = some T → HasTab S T) (y : V) : SR c (S.lst p (xs ++ [y])) ι m (upd H p (.lst (xs ++ [y]))) ∧ fz (S.lst p (xs ++ [y])) ι (upd H p (.lst (xs ++ [y]))) = fz (S.lst p xs) ι H := by
  obtain ⟨k1, k2⟩ := hide_set s.i (o' := .lst (xs ++ [y])) pl_lst
  have k3 : (S.lst p (xs ++ [y])).vw (upd H p (.lst (xs ++ [y]))) = (S.lst p xs).vw H := hide_same s.i pl_lst
  have f : fz (S.lst p (xs ++ [y])) ι (upd H p (.lst (xs ++ [y]))) = fz (S.lst p xs) ι H := by
    funext b
    unfold fz
    rw [k3]
  refine ⟨⟨lst_of k1 (by rw [k2, upd_same]), s.nd, s.len, fun k a o h1 h2 => ?_, fun p hp => (by rw [f]; exact s.cap p hp), fun T h => (ht T h).hide⟩, f⟩
  obtain ⟨O, h3, h4⟩ := s.at_ k a o h1 h2
  refine ⟨O, ?_, ?_⟩
  · rw [k3]
    exact h3
  · rw [f]
    exact h4
/-- .. done: it changes no more -/
theorem SR.done (s : SR c (S.lst p xs) ι m H) (ht : ∀ T, c.L.tabs = some T → HasTab S T) : SR c S ι m H ∧ fz S ι H p = some (.lst xs) := by
  have np : p ∉ ι := fun h => by
    obtain ⟨O, h1, _⟩ := s.has h
    exact (of_hv h1).1 rfl
  refine ⟨⟨s.i.1, s.nd, s.len, fun k a o h1 h2 => ?_, fun p hp => (s.cap p hp).up (fz_lst S ι H _ xs) (List.prefix_refl _), ht⟩, fz_of np (lst_at s.i)⟩
  obtain ⟨O, h3, h4⟩ := s.at_ k a o h1 h2
  exact ⟨O, (of_hv h3).2, h4.up (fz_lst S ι H p xs) (List.prefix_refl _)⟩
end
def wipeSl (sl : Sl) : List Nat → Sl
  | [] => sl
  | v :: vs => (wipeSl sl vs).set v none
theorem repSl_wipe {c : Cc} {h : Hp} {ι : List Addr} {σ : L2.St} {sl : Sl} (r : RepSl c h ι σ sl) : ∀ vs : List Nat, RepSl c h ι (wipe σ vs) (wipeSl sl vs)
  | [] => r
  | v :: vs => (repSl_wipe r vs).clear v none
/-- a target that sets slots of vs alone -/
def SimGW (c : Cc) (g : TG) (mg : MG) (vs : List Nat) : Prop := ∀ (S : Wv) (ι : List Addr) (mem : Mem) (H : Hp) (σ : L2.St) (sl sl' : Sl) (v : V) (d : D) (Q : L2.St → Hp → Prop), SR c S ι mem H → RepSl c (fz S ι H) ι σ sl → Rep c (fz S ι H) ι v d → mg d sl = some sl' →
  (∀ σ', RepSl c (fz S ι H) ι σ' sl' → wipe σ' vs = wipe σ vs → Q σ' H) → g v σ H Q
theorem wipe_get (τ : L2.St) (j : Nat) : ∀ vs : List Nat, (wipe τ vs)[j]? = if j ∈ vs then (if j < τ.length then some none else none) else τ[j]?
  | [] => rfl
  | v :: vs => by
    show ((wipe τ vs).set v none)[j]? = _
    have l1 := wipe_length τ vs
    by_cases hj : j = v
    · subst hj
      rw [if_pos List.mem_cons_self]
      split
      · rw [List.getElem?_set_self (by omega)]
      · exact List.getElem?_eq_none (by rw [List.length_set]; omega)
    · rw [List.getElem?_set_ne (Ne.symm hj), wipe_get τ j vs]
      by_cases hv : j ∈ vs
      · rw [if_pos hv, if_pos (List.mem_cons_of_mem _ hv)]
      · rw [if_neg hv, if_neg fun z => (List.mem_cons.mp z).elim hj hv]
theorem wipe_set {vs : List Nat} {σ : L2.St} {i : Nat} {o : Option V} (h : i ∈ vs) : wipe (σ.set i o) vs = wipe σ vs := by
  refine List.ext_getElem? fun j => ?_
  rw [wipe_get, wipe_get, List.length_set]
  by_cases hj : j ∈ vs
  · rw [if_pos hj, if_pos hj]
  · rw [if_neg hj, if_neg hj, List.getElem?_set_ne fun z => hj (by rw [← z]; exact h)]
theorem wipe_wipe (σ : L2.St) (vs : List Nat) : wipe (wipe σ vs) vs = wipe σ vs := by
  refine List.ext_getElem? fun j => ?_
  rw [wipe_get (wipe σ vs), wipe_length, wipe_get]
  by_cases hj : j ∈ vs
  · rw [if_pos hj, if_pos hj]
  · rw [if_neg hj, if_neg hj]
theorem gw_set {c : Cc} {i : Nat} {vs : List Nat} (h : i ∈ vs) : SimGW c (gName i) (gSet i) vs := fun S ι mem H σ sl sl' v d Q s q r e k => by
  cases e
  exact k _ (q.set i r) (wipe_set h)
def SimGsW (c : Cc) (g : TGs) (gs : List MG) (ws : List Nat) : Prop := ∀ (S : Wv) (ι : List Addr) (mem : Mem) (H : Hp) (σ : L2.St) (sl sl' : Sl) (vs : List V) (ds : List D) (Q : L2.St → Hp → Prop), SR c S ι mem H → RepSl c (fz S ι H) ι σ sl → RepA c (fz S ι H) ι vs ds → gSets gs ds sl = some sl' →
  (∀ σ', RepSl c (fz S ι H) ι σ' sl' → wipe σ' ws = wipe σ ws → Q σ' H) → g vs σ H Q
section
variable {c : Cc} {ws : List Nat}
theorem gsw_nil : SimGsW c gNil [] ws := fun S ι mem H σ sl sl' vs ds Q s q r h k => by
  cases r with
  | nil =>
    cases h
    exact ⟨rfl, k _ q rfl⟩
  | cons _ _ => cases h
theorem gsw_cons {g : TG} {gs : TGs} {m : MG} {mr : List MG} (h1 : SimGW c g m ws) (h2 : SimGsW c gs mr ws) : SimGsW c (gCons g gs) (m :: mr) ws := fun S ι mem H σ sl sl' vs ds Q s q r h k => by
  cases r with
  | nil => cases h
  | @cons v d vs ds k1 r2 =>
    have h' : (m d sl).bind (fun sl1 => gSets mr ds sl1) = some sl' := h
    obtain ⟨sl1, e1, e2⟩ := Option.bind_eq_some_iff.mp h'
    exact ⟨v, vs, rfl, h1 S ι mem H σ sl sl1 v d _ s q k1 e1 fun σ1 q1 w1 => h2 S ι mem H σ1 sl1 sl' vs ds Q s q1 r2 e2 fun σ2 q2 w2 => k σ2 q2 (w2.trans w1)⟩
theorem gw_tup {gs : TGs} {mr : List MG} {n : Nat} (h : SimGsW c gs mr ws) (hn : mr.length = n) : SimGW c (L2.gTup c.K n gs) (gTup mr) ws := fun S ι mem H σ sl sl' v d Q s q r e k => by
  cases r with
  | @tup a xs ds h1 h2 =>
    have e' : gSets mr ds sl = some sl' := e
    exact ⟨a, xs, rfl, ex_t fz_sub h1, by rw [RepA.len h2, gSets_len e']; exact hn, h S ι mem H σ sl sl' xs ds Q s q h2 e' k⟩
  | _ => cases e
end
def R.quiet {α : Type} : R α → R α
  | .exc _ _ _ => .no
  | r => r
def lcL (g : MG) (t : MT) (x : ME) (sl : Sl) : List D → List D → Mem → R (List D)
  | [], acc, m => .ok acc m
  | d :: ds, acc, m => match g d sl with
    | none => .no
    | some sl1 => (t sl1 m).quiet.bind fun b m1 => bif b then (x sl1 m1).quiet.bind fun y m2 => if acc.length < 50000 then lcL g t x sl ds (acc ++ [y]) m2 else .no else lcL g t x sl ds acc m1
def mLc (it : MI) (vs : List Nat) (g : MG) (t : MT) (x : ME) : ME := fun sl m => (it sl m).bind fun ds m1 => (lcL g t x (wipeSl sl vs) ds [] m1).bind fun acc m2 => .ok (.lst acc) m2
def mYes : MT := fun _ m => .ok true m
def E0 : SX := fun _ _ _ _ => False
theorem post_quiet {c : Cc} {S : Wv} {ι : List Addr} {H : Hp} {α β : Type} {RR : Hp → List Addr → β → α → Prop} {r : R α} {Q : β → Hp → Prop} {E : XK} {σ : L2.St} (p : Post c E S ι H RR r.quiet Q) : Post c (E0 σ) S ι H RR r Q := by
  cases r with
  | ok a m => exact p
  | exc k fs m => exact (show False from p).elim
  | no => exact p
/-- in a comprehension nothing is raised -/
theorem runQ {c : Cc} {S : Wv} {ι : List Addr} {mem : Mem} {H : Hp} {σ : L2.St} {sl : Sl} {α β γ : Type} {RR : Hp → List Addr → β → α → Prop} {K : β → Hp → Prop} {m : Sl → Mem → R α} {f : α → Mem → R γ} {Z : R γ → Prop} (s : SR c S ι mem H) (q : RepSl c (fz S ι H) ι σ sl) (p : Z ((m sl mem).quiet.bind f)) (hZ : ¬ Z .no)
    (k : ∀ v a ι1 mem1 H1, SR c S ι1 mem1 H1 → Fr S ι H ι1 H1 → RR (fz S ι1 H1) ι1 v a → Z (f a mem1) → K v H1) : tG c E0 RR m σ H K := by
  refine ⟨S, ι, mem, sl, s, q, ?_⟩
  cases hm : m sl mem with
  | ok a m1 =>
    rw [hm] at p
    exact fun v ι1 H1 s1 f1 r1 => k v a ι1 m1 H1 s1 f1 r1 p
  | exc k0 fs m1 =>
    rw [hm] at p
    exact absurd p hZ
  | no =>
    rw [hm] at p
    exact absurd p hZ
section
variable {X : Cx} {c : Cc} {E : SX} {e : Expr} {wi : TI} {g : TG} {tt : TT} {mi : MI} {mg : MG} {t : MT} {x : ME} {vs : List Nat}
theorem s_lc (hi : SimI c E wi mi) (hg : SimGW c g mg vs) (σ : L2.St) (H : Hp) (Q : VK) : tM c E (mLc mi vs mg t x) σ H Q → tLc wi g (tMT c E0 t) (tM c E0 x) vs σ H Q := fun ⟨S, ι, mem, sl, s, q, p⟩ => by
  refine hi S ι mem H σ sl _ s q ?_
  have p' : Post c (E σ) S ι H (rD c) ((mi sl mem).bind fun ds m1 => (lcL mg t x (wipeSl sl vs) ds [] m1).bind fun acc m2 => .ok (.lst acc) m2) Q := p
  cases hm : mi sl mem with
  | no =>
    rw [hm] at p'
    exact p'
  | exc k fs m1 =>
    rw [hm] at p'
    exact p'
  | ok ds m1 =>
    rw [hm] at p'
    have p1 : Post c (E σ) S ι H (rD c) ((lcL mg t x (wipeSl sl vs) ds [] m1).bind fun acc m2 => .ok (.lst acc) m2) Q := p'
    refine fun J ι1 H1 s1 f1 gv Dl hD => ?_
    have w : Walk J ds.length (fun H' => ∃ S2 ι2 mem2, SR c S2 ι2 mem2 H' ∧ Ex (fz S ι1 H1) (fz S2 ι2 H') ∧ ι1 <+: ι2) (fun i H' y H3 => Ex H' H3 ∧ ∀ S2 ι2 mem2, SR c S2 ι2 mem2 H' → Ex (fz S ι1 H1) (fz S2 ι2 H') → ι1 <+: ι2 → ∃ d, ds[i]? = some d ∧ Rep c (fz S2 ι2 H3) ι2 y d) :=
      ⟨fun i H' hi ⟨S2, ι2, mem2, a, b, d⟩ => ((gv S2 ι2 mem2 H' a b d).1 i hi).1, fun H' ⟨S2, ι2, mem2, a, b, d⟩ => (gv S2 ι2 mem2 H' a b d).2, fun i H' y H3 hi ⟨S2, ι2, mem2, a, b, d⟩ z => ⟨(((gv S2 ι2 mem2 H' a b d).1 i hi).2 y H3 z).1, fun S3 ι3 mem3 a3 b3 d3 => (((gv S3 ι3 mem3 H' a3 b3 d3).1 i hi).2 y H3 z).2⟩⟩
    refine lc_it w (fun i H' => ∃ acc accD ι2 mem2, SR c (S.lst Dl acc) ι2 mem2 H' ∧ Ex (fz S ι1 H1) (fz (S.lst Dl acc) ι2 H') ∧ ι1 <+: ι2 ∧ RepA c (fz (S.lst Dl acc) ι2 H') ι2 acc accD ∧
      Post c (E σ) S ι H (rD c) ((lcL mg t x (wipeSl sl vs) (ds.drop i) accD mem2).bind fun acc m2 => .ok (.lst acc) m2) Q) ?_ (fun i H' _ ⟨acc, accD, ι2, mem2, a, b, d, _⟩ => ⟨_, ι2, mem2, a, b, d⟩) ?_ ?_
    · obtain ⟨s2, e2⟩ := s1.tmp (xs := []) hD
      exact ⟨[], [], ι1, m1, s2, e2, List.prefix_refl _, .nil, p1⟩
    · intro i y H2 H3 hlt hP hY
      obtain ⟨acc, accD, ι2, mem2, s2, e2, pr2, ra, z2⟩ := hP
      obtain ⟨ex, y2⟩ := hY
      obtain ⟨d, hd, rd⟩ := y2 _ ι2 mem2 s2 e2 pr2
      obtain ⟨s3, f3⟩ := s2.grow ex
      have hdr : ds.drop i = d :: ds.drop (i + 1) := by
        obtain ⟨hlt, he⟩ := List.getElem?_eq_some_iff.mp hd
        rw [← he]
        exact List.drop_eq_getElem_cons hlt
      rw [hdr] at z2
      have qw : RepSl c (fz (S.lst Dl acc) ι2 H3) ι2 (wipe σ vs) (wipeSl sl vs) := repSl_wipe (((q.fr f1).up (e2.trans f3.e) pr2)) vs
      cases hgd : mg d (wipeSl sl vs) with
      | none =>
        have z : lcL mg t x (wipeSl sl vs) (d :: ds.drop (i + 1)) accD mem2 = .no := by
          show (match mg d (wipeSl sl vs) with | none => R.no | some sl1 => _) = _
          rw [hgd]
        rw [z] at z2
        exact z2.elim
      | some sl3 =>
        have z : lcL mg t x (wipeSl sl vs) (d :: ds.drop (i + 1)) accD mem2 = ((t sl3 mem2).quiet.bind fun b m1 => bif b then (x sl3 m1).quiet.bind fun y m2 => if accD.length < 50000 then lcL mg t x (wipeSl sl vs) (ds.drop (i + 1)) (accD ++ [y]) m2 else .no else lcL mg t x (wipeSl sl vs) (ds.drop (i + 1)) accD m1) := by
          show (match mg d (wipeSl sl vs) with | none => R.no | some sl1 => _) = _
          rw [hgd]
        rw [z] at z2
        refine hg (S.lst Dl acc) ι2 mem2 H3 (wipe σ vs) (wipeSl sl vs) sl3 y d _ s3 qw rd hgd fun σ3 q3 w3 => ⟨by rw [w3, wipe_wipe], ?_⟩
        refine runQ (RR := rB) (Z := fun r => Post c (E σ) S ι H (rD c) (r.bind fun acc m2 => .ok (.lst acc) m2) Q) s3 q3 z2 (fun z => z) fun b b' ι4 m4 H4 s4 f4 r4 z4 => ?_
        have eb : b = b' := r4
        subst eb
        cases b with
        | false => exact ⟨acc, accD, ι4, m4, s4, e2.trans (f3.e.trans f4.e), pr2.trans f4.p, (ra.up f3.e f3.p).up f4.e f4.p, z4⟩
        | true =>
          show tM c E0 x σ3 H4 _
          refine runQ (RR := rD c) (Z := fun r => Post c (E σ) S ι H (rD c) (r.bind fun acc m2 => .ok (.lst acc) m2) Q) s4 (q3.fr f4) z4 (fun z => z) fun v5 d5 ι5 m5 H5 s5 f5 r5 z5 => ?_
          have ra5 := ((ra.up f3.e f3.p).up f4.e f4.p).up f5.e f5.p
          by_cases hl : accD.length < 50000
          · rw [if_pos hl] at z5
            obtain ⟨s6, e6⟩ := s5.push s.tb v5
            refine ⟨acc, S.sub _ _ _ (lst_at s5.i), ?_, acc ++ [v5], accD ++ [d5], ι5, m5, s6, ?_, ((pr2.trans f4.p).trans f5.p), ?_, z5⟩
            · rw [RepA.len ra]
              exact sz_lt (by omega)
            · rw [e6]
              exact e2.trans (f3.e.trans (f4.e.trans f5.e))
            · rw [e6]
              exact ra5.app (.cons r5 .nil)
          · rw [if_neg hl] at z5
            exact z5.elim
    · intro H2 hP
      obtain ⟨acc, accD, ι2, mem2, s2, e2, pr2, ra, z2⟩ := hP
      rw [List.drop_length] at z2
      obtain ⟨s3, h3⟩ := s2.done s.tb
      have fr : Fr S ι1 H1 ι2 H2 := ⟨pr2, e2.trans (fz_lst S ι2 H2 Dl acc)⟩
      exact z2 _ ι2 H2 s3 (f1.trans fr) (Rep.lst h3 (ra.up (fz_lst S ι2 H2 Dl acc) (List.prefix_refl _)))
theorem m_lc (h : PE X e (tLc wi g (tMT c E0 t) (tM c E0 x) vs)) (hi : SimI c E wi mi) (hg : SimGW c g mg vs) : PE X e (tM c E (mLc mi vs mg t x)) := h.weak (s_lc hi hg)
theorem mts_nil : PTs X [] (tMT c E0 mYes) := ⟨fun pins s σ H Q I ⟨S, ι, mem, sl, s', q, p⟩ => pts_nil.run pins s σ H Q I (Post.here (v := true) p s' rfl)⟩
end
end Mi
end
section
set_option Elab.async false
set_option linter.all false
set_option maxRecDepth 100000
set_option maxHeartbeats 4000000
/-! mirrors of what is built in: numbers, texts, data -/
namespace Mi
open PySem PySem.Spec PyProof.Rows L2 Evl MeV MeG
/-! several rules of one construct -/
section
variable {X : Cx}
theorem _root_.L2.PE.or {e : Expr} {t u : TE} (h : PE X e t) (k : PE X e u) : PE X e (fun σ H Q => t σ H Q ∨ u σ H Q) := ⟨fun pins s σ H Q I z => z.elim (h.run pins s σ H Q I) (k.run pins s σ H Q I)⟩
theorem OpR_or {f : Value → Value → Sem Value} {r q : R2} (h : OpR X f r) (k : OpR X f q) : OpR X f (fun x y H Q => r x y H Q ∨ q x y H Q) := fun pins s σ H x y v u Q I rx ry z => z.elim (fun z => h pins s σ H x y v u Q I rx ry z) fun z => k pins s σ H x y v u Q I rx ry z
theorem CallR_or {f : Value} {r q : List V → Hp → VK → Prop} (h : CallR X f r) (k : CallR X f q) : CallR X f (fun xs H Q => r xs H Q ∨ q xs H Q) := fun pins s σ H xs us Q I rx z => z.elim (fun z => h pins s σ H xs us Q I rx z) fun z => k pins s σ H xs us Q I rx z
theorem PI_or {tg e : Expr} {t u : TI} (h : PI X tg e t) (k : PI X tg e u) : PI X tg e (fun σ H R => t σ H R ∨ u σ H R) := ⟨fun pins s σ H R I z => z.elim (h.run pins s σ H R I) (k.run pins s σ H R I)⟩
end
/-! ints -/
def gI (f : Int → Int → D) : D → D → Mem → R D := fun a b m => match a, b with
  | .int i, .int j => .ok (f i j) m
  | _, _ => .no
def gIc (C : Int → Int → Bool) (f : Int → Int → D) : D → D → Mem → R D := fun a b m => match a, b with
  | .int i, .int j => bif C i j then .ok (f i j) m else .no
  | _, _ => .no
section
variable {c : Cc}
theorem sim_I0 {g : Int → Int → V} {f : Int → Int → D} (h : ∀ i j hh ι, Rep c hh ι (g i j) (f i j)) : SimR c (rI0 g) (gI f) := fun E S ι mem H x y d1 d2 Q s r1 r2 p => by
  cases r1 with
  | int i =>
    cases r2 with
    | int j => exact ⟨i, j, rfl, rfl, Post.here (v := g i j) p s (h i j _ _)⟩
    | _ => exact p.elim
  | _ => exact p.elim
theorem sim_Ic {C : Int → Int → Prop} {B : Int → Int → Bool} {g : Int → Int → V} {f : Int → Int → D} (hC : ∀ i j, B i j = true → C i j) (h : ∀ i j hh ι, Rep c hh ι (g i j) (f i j)) : SimR c (rI C g) (gIc B f) := fun E S ι mem H x y d1 d2 Q s r1 r2 p => by
  cases r1 with
  | int i =>
    cases r2 with
    | int j =>
      have p' : Post c E S ι H (rD c) (bif B i j then .ok (f i j) mem else .no) Q := p
      cases hb : B i j with
      | true =>
        rw [hb] at p'
        exact ⟨i, j, rfl, rfl, hC i j hb, Post.here (v := g i j) p' s (h i j _ _)⟩
      | false =>
        rw [hb] at p'
        exact p'.elim
    | _ => exact p.elim
  | _ => exact p.elim
/-! data -/
mutual
def dat : D → Option PyData
  | .non => some .none
  | .bl b => some (.bool b)
  | .int i => some (.int i)
  | .str x => some (.str x)
  | .tup ds => (datA ds).map .tuple
  | .lst ds => (datA ds).map .list
  | .scr ds => (datA ds).map .list
  | _ => none
def datA : List D → Option (List PyData)
  | [] => some []
  | d :: ds => (dat d).bind fun p => (datA ds).map (p :: ·)
end
mutual
theorem Rep.dd {h : Hp} {ι : List Addr} : ∀ {v : V} {d : D} {p : PyData}, Rep c h ι v d → dat d = some p → Dd c.K h v p
  | _, _, _, .non, e => by
    simp only [dat] at e
    cases e
    exact .non
  | _, _, _, .bl b, e => by
    simp only [dat] at e
    cases e
    exact .bl b
  | _, _, _, .int b, e => by
    simp only [dat] at e
    cases e
    exact .int b
  | _, _, _, .str b, e => by
    simp only [dat] at e
    cases e
    exact .str b
  | _, _, _, .ty b, e => by
    simp only [dat] at e
    cases e
  | _, _, _, .ref b, e => by
    simp only [dat] at e
    cases e
  | _, _, _, .scr a b, e => by
    simp only [dat] at e
    obtain ⟨ps, h1, h2⟩ := Option.map_eq_some_iff.mp e
    subst h2
    exact .lst a (RepA.dd b h1)
  | _, _, _, .obj a b, e => by
    simp only [dat] at e
    cases e
  | _, _, _, .tup a b, e => by
    simp only [dat] at e
    obtain ⟨ps, h1, h2⟩ := Option.map_eq_some_iff.mp e
    subst h2
    exact .tup a (RepA.dd b h1)
  | _, _, _, .lst a b, e => by
    simp only [dat] at e
    obtain ⟨ps, h1, h2⟩ := Option.map_eq_some_iff.mp e
    subst h2
    exact .lst (sq_of a) (RepA.dd b h1)
  | _, _, _, .dic a b, e => by
    simp only [dat] at e
    cases e
theorem RepA.dd {h : Hp} {ι : List Addr} : ∀ {v : List V} {d : List D} {p : List PyData}, RepA c h ι v d → datA d = some p → DdAll c.K h v p
  | _, _, _, .nil, e => by
    simp only [datA] at e
    cases e
    exact .nil
  | _, _, _, .cons a b, e => by
    simp only [datA] at e
    obtain ⟨p, h1, h2⟩ := Option.bind_eq_some_iff.mp e
    obtain ⟨ps, h3, h4⟩ := Option.map_eq_some_iff.mp h2
    subst h4
    exact .cons (Rep.dd a h1) (RepA.dd b h3)
end
mutual
theorem dp_dd {K : PySem.W.Frag} {H : Hp} : ∀ {v : V} {d : PyData}, d.canLay0 = true → Dd K H v d → Dp K H v d
  | _, _, _, .non => .non
  | _, _, _, .bl b => .bl b
  | _, _, _, .int i => .int i
  | _, _, _, .str x => .str x
  | _, _, e, .lst s k => .lst s (dp_ddA (by simpa only [PyData.canLay0] using e) k)
  | _, _, e, .tup s k => .tup s (dp_ddA (by simpa only [PyData.canLay0] using e) k)
  | _, _, e, .dic s k => by simp only [PyData.canLay0] at e; cases e
theorem dp_ddA {K : PySem.W.Frag} {H : Hp} : ∀ {vs : List V} {ds : List PyData}, PyData.canLayAll0 ds = true → DdAll K H vs ds → DpAll K H vs ds
  | _, _, _, .nil => .nil
  | _, _, e, .cons a k => by
    have e' := e
    simp only [PyData.canLayAll0, Bool.and_eq_true] at e'
    exact .cons (dp_dd e'.1 a) (dp_ddA e'.2 k)
end
/-- shaped data -/
def shp (d : D) : Option PyData := (dat d).bind fun p => if SeqAt.shaped p = true then some p else none
theorem shp_of {d : D} {p : PyData} {h : Hp} {ι : List Addr} {v : V} (e : shp d = some p) (r : Rep c h ι v d) : Dp c.K h v p ∧ SeqAt.shaped p = true := by
  unfold shp at e
  obtain ⟨q, h1, h2⟩ := Option.bind_eq_some_iff.mp e
  split at h2
  · rename_i hs
    cases h2
    exact ⟨dp_dd (SeqAt.canLay_of_shaped hs) (r.dd h1), hs⟩
  · cases h2
def gEq : D → D → Mem → R D := fun a b m => match shp a, shp b with
  | some p, some q => .ok (.bl (PyData.eqv p q)) m
  | _, _ => .no
def gNe : D → D → Mem → R D := fun a b m => match shp a, shp b with
  | some p, some q => .ok (.bl (!PyData.eqv p q)) m
  | _, _ => .no
theorem dp_up {K : PySem.W.Frag} {h H : Hp} (e : Ex h H) {v : V} {d : PyData} (r : Dp K h v d) : Dp K H v d := MeE.Dp.up e r
theorem sim_eqD : SimR c (rEqD c.K) gEq := fun E S ι mem H x y d1 d2 Q s r1 r2 p => by
  unfold gEq at p
  split at p
  · rename_i a b h1 h2
    obtain ⟨k1, k2⟩ := shp_of h1 r1
    obtain ⟨k3, k4⟩ := shp_of h2 r2
    exact ⟨a, b, dp_up fz_sub k1, dp_up fz_sub k3, k2, k4, Post.here (v := V.bl _) p s (Rep.bl _)⟩
  · exact p.elim
theorem sim_neD : SimR c (rNeD c.K) gNe := fun E S ι mem H x y d1 d2 Q s r1 r2 p => by
  unfold gNe at p
  split at p
  · rename_i a b h1 h2
    obtain ⟨k1, k2⟩ := shp_of h1 r1
    obtain ⟨k3, k4⟩ := shp_of h2 r2
    exact ⟨a, b, dp_up fz_sub k1, dp_up fz_sub k3, k2, k4, Post.here (v := V.bl _) p s (Rep.bl _)⟩
  · exact p.elim
end
end Mi
end
section
set_option Elab.async false
set_option linter.all false
set_option maxRecDepth 100000
set_option maxHeartbeats 4000000
/-! mirrors of what is built in: sums, lengths, kinds, items, walks -/
namespace Mi
open PySem PySem.Spec PyProof.Rows L2 Evl MeV MeG
def gOr (g k : D → D → Mem → R D) : D → D → Mem → R D := fun a b m => match g a b m with
  | .no => k a b m
  | r => r
def gOrB (g k : List D → Mem → R D) : List D → Mem → R D := fun a m => match g a m with
  | .no => k a m
  | r => r
section
variable {c : Cc}
theorem sim_or {r q : R2} {g k : D → D → Mem → R D} (h1 : SimR c r g) (h2 : SimR c q k) : SimR c (fun x y H Q => r x y H Q ∨ q x y H Q) (gOr g k) := fun E S ι mem H x y d1 d2 Q s r1 r2 p => by
  have p' : Post c E S ι H (rD c) (match g d1 d2 mem with | .no => k d1 d2 mem | r => r) Q := p
  cases hg : g d1 d2 mem with
  | no =>
    rw [hg] at p'
    exact .inr (h2 E S ι mem H x y d1 d2 Q s r1 r2 p')
  | ok a m =>
    rw [hg] at p'
    exact .inl (h1 E S ι mem H x y d1 d2 Q s r1 r2 (by rw [hg]; exact p'))
  | exc k0 fs m =>
    rw [hg] at p'
    exact .inl (h1 E S ι mem H x y d1 d2 Q s r1 r2 (by rw [hg]; exact p'))
theorem simB_or {r q : List V → Hp → VK → Prop} {g k : List D → Mem → R D} (h1 : SimB c r g) (h2 : SimB c q k) : SimB c (fun x H Q => r x H Q ∨ q x H Q) (gOrB g k) := fun E S ι mem H x d Q s r1 p => by
  have p' : Post c E S ι H (rD c) (match g d mem with | .no => k d mem | r => r) Q := p
  cases hg : g d mem with
  | no =>
    rw [hg] at p'
    exact .inr (h2 E S ι mem H x d Q s r1 p')
  | ok a m =>
    rw [hg] at p'
    exact .inl (h1 E S ι mem H x d Q s r1 (by rw [hg]; exact p'))
  | exc k0 fs m =>
    rw [hg] at p'
    exact .inl (h1 E S ι mem H x d Q s r1 (by rw [hg]; exact p'))
def gAddS : D → D → Mem → R D := fun a b m => match a, b with
  | .str x, .str y => if x.length + y.length ≤ 100000 then .ok (.str (x ++ y)) m else .no
  | _, _ => .no
theorem sim_addS : SimR c (fun x y H Q => ∃ i j, x = V.str i ∧ y = V.str j ∧ i.length + j.length ≤ sizeLine ∧ Q (.str (i ++ j)) H) gAddS := fun E S ι mem H x y d1 d2 Q s r1 r2 p => by
  cases r1 with
  | str i =>
    cases r2 with
    | str j =>
      have p' : Post c E S ι H (rD c) (if i.length + j.length ≤ 100000 then .ok (.str (i ++ j)) mem else .no) Q := p
      split at p'
      · rename_i hl
        exact ⟨i, j, rfl, rfl, sz_of hl, Post.here (v := V.str _) p' s (Rep.str _)⟩
      · exact p'.elim
    | _ => exact p.elim
  | _ => exact p.elim
def gCat : D → D → Mem → R D := fun a b m => match a, b with
  | .lst x, .lst y => if x.length + y.length ≤ 100000 then .ok (.lst (x ++ y)) m else .no
  | _, _ => .no
theorem sim_cat : SimR c rCat gCat := fun E S ι mem H x y d1 d2 Q s r1 r2 p => by
  cases r1 with
  | @lst a xs ds h1 h2 =>
    cases r2 with
    | @lst b ys es h3 h4 =>
      have p' : Post c E S ι H (rD c) (if ds.length + es.length ≤ 100000 then .ok (.lst (ds ++ es)) mem else .no) Q := p
      split at p'
      · rename_i hl
        refine ⟨a, b, xs, ys, rfl, rfl, fz_sub _ _ h1, fz_sub _ _ h3, by rw [h2.len, h4.len]; exact sz_of hl, fun q hq => ?_⟩
        obtain ⟨s2, f2, h5⟩ := s.new (o := .lst (xs ++ ys)) hq (fun _ z => nomatch z)
        exact p' _ ι _ s2 f2 (Rep.lst h5 ((h2.app h4).up f2.e f2.p))
      · exact p'.elim
    | _ => exact p.elim
  | _ => exact p.elim
def gCatT : D → D → Mem → R D := fun a b m => match a, b with
  | .tup x, .tup y => if x.length + y.length ≤ 100000 then .ok (.tup (x ++ y)) m else .no
  | _, _ => .no
theorem sim_catT : SimR c (rCatA c.K) gCatT := fun E S ι mem H x y d1 d2 Q s r1 r2 p => by
  cases r1 with
  | @tup a xs ds h1 h2 =>
    cases r2 with
    | @tup b ys es h3 h4 =>
      have p' : Post c E S ι H (rD c) (if ds.length + es.length ≤ 100000 then .ok (.tup (ds ++ es)) mem else .no) Q := p
      split at p'
      · rename_i hl
        refine ⟨a, b, xs, ys, rfl, rfl, ex_t fz_sub h1, ex_t fz_sub h3, by rw [h2.len, h4.len]; exact sz_of hl, fun z => ?_, fun _ z => ?_, fun _ _ q hq => ?_⟩
        · subst z
          cases h2
          exact Post.here (v := V.ref b) p' s (Rep.tup h3 h4)
        · subst z
          cases h4
          rw [List.append_nil] at p'
          exact Post.here (v := V.ref a) p' s (Rep.tup h1 h2)
        · obtain ⟨s2, f2, h5⟩ := s.new (o := .tup (xs ++ ys)) hq (fun _ z => nomatch z)
          exact p' _ ι _ s2 f2 (Rep.tup (st_of h5) ((h2.app h4).up f2.e f2.p))
      · exact p'.elim
    | _ => exact p.elim
  | _ => exact p.elim
/-! lengths -/
def gLen : List D → Mem → R D := fun ds m => match ds with
  | [.lst xs] => .ok (.int xs.length) m
  | [.tup xs] => .ok (.int xs.length) m
  | [.scr xs] => .ok (.int xs.length) m
  | _ => .no
def gLenS : List D → Mem → R D := fun ds m => match ds with
  | [.str x] => if x.length ≤ 100000 then .ok (.int x.length) m else .no
  | _ => .no
theorem repA1 {h : Hp} {ι : List Addr} {xs : List V} {d : D} (r : RepA c h ι xs [d]) : ∃ v, xs = [v] ∧ Rep c h ι v d := by
  cases r with
  | cons a b =>
    cases b
    exact ⟨_, rfl, a⟩
theorem repA2 {h : Hp} {ι : List Addr} {xs : List V} {d e : D} (r : RepA c h ι xs [d, e]) : ∃ v w, xs = [v, w] ∧ Rep c h ι v d ∧ Rep c h ι w e := by
  cases r with
  | cons a b =>
    obtain ⟨w, rfl, h2⟩ := repA1 b
    exact ⟨_, _, rfl, a, h2⟩
theorem sim_len : SimB c (fun xs H Q => ∃ p ys, xs = [V.ref p] ∧ (SqL c.K H p ys ∨ SqT c.K H p ys) ∧ Q (.int ys.length) H) gLen := fun E S ι mem H xs ds Q s r p => by
  unfold gLen at p
  split at p
  · obtain ⟨v, rfl, h⟩ := repA1 r
    cases h with
    | lst h1 h2 => exact ⟨_, _, rfl, .inl (sq_of (fz_sub _ _ h1)), by rw [h2.len]; exact Post.here (v := V.int _) p s (Rep.int _)⟩
  · obtain ⟨v, rfl, h⟩ := repA1 r
    cases h with
    | tup h1 h2 => exact ⟨_, _, rfl, .inr (ex_t fz_sub h1), by rw [h2.len]; exact Post.here (v := V.int _) p s (Rep.int _)⟩
  · obtain ⟨v, rfl, h⟩ := repA1 r
    cases h with
    | scr h1 h2 => exact ⟨_, _, rfl, .inl (ex_l fz_sub h1), by rw [h2.len]; exact Post.here (v := V.int _) p s (Rep.int _)⟩
  · exact p.elim
theorem sim_lenS : SimB c (fun xs H Q => ∃ z : Str, xs = [.str z] ∧ z.length ≤ sizeLine ∧ Q (.int z.length) H) gLenS := fun E S ι mem H xs ds Q s r p => by
  unfold gLenS at p
  split at p
  · obtain ⟨v, rfl, h⟩ := repA1 r
    cases h
    split at p
    · rename_i hl
      exact ⟨_, rfl, sz_of hl, Post.here (v := V.int _) p s (Rep.int _)⟩
    · exact p.elim
  · exact p.elim
/-! isinstance(x, T), x data -/
def gIsi : List D → Mem → R D := fun ds m => match ds with
  | [d, .ty T] => match dat d with
    | some p => match kitB (tyD p) T with
      | some b => .ok (.bl b) m
      | none => .no
    | none => .no
  | _ => .no
theorem sim_isi : SimB c (rIsi c.K) gIsi := fun E S ι mem H xs ds Q s r p => by
  unfold gIsi at p
  split at p
  · obtain ⟨v, w, rfl, h1, h2⟩ := repA2 r
    cases h2
    split at p
    · rename_i q hq
      split at p
      · rename_i b hb
        exact ⟨v, .ty _, _, _, b, rfl, .ty _, ty_dd (MeE.Dd.up fz_sub (h1.dd hq)), kit_ty hb, Post.here (v := V.bl _) p s (Rep.bl _)⟩
      · exact p.elim
    · exact p.elim
  · exact p.elim
/-! all, any of a list of bools -/
def bools : List D → Option (List Bool)
  | [] => some []
  | .bl b :: ds => (bools ds).map (b :: ·)
  | _ :: _ => none
theorem bools_of {h : Hp} {ι : List Addr} : ∀ {xs : List V} {ds : List D} {bs : List Bool}, RepA c h ι xs ds → bools ds = some bs → xs = bs.map V.bl
  | _, _, _, .nil, e => by
    cases e
    rfl
  | _, _, bs, .cons a k, e => by
    cases a with
    | bl b =>
      obtain ⟨l, h1, h2⟩ := Option.map_eq_some_iff.mp (show (bools _).map (b :: ·) = some _ from e)
      subst h2
      rw [bools_of k h1] <;> rfl
    | _ => cases e
def gAll : List D → Mem → R D := fun ds m => match ds with
  | [.lst xs] => match bools xs with
    | some bs => .ok (.bl (bs.all id)) m
    | none => .no
  | _ => .no
def gAny : List D → Mem → R D := fun ds m => match ds with
  | [.lst xs] => match bools xs with
    | some bs => .ok (.bl (bs.any id)) m
    | none => .no
  | _ => .no
theorem sim_all : SimB c (rAll c.K) gAll := fun E S ι mem H xs ds Q s r p => by
  unfold gAll at p
  split at p
  · obtain ⟨v, rfl, h⟩ := repA1 r
    cases h with
    | lst h1 h2 =>
      split at p
      · rename_i bs hb
        exact ⟨_, bs, rfl, by rw [← bools_of h2 hb]; exact sq_of (fz_sub _ _ h1), Post.here (v := V.bl _) p s (Rep.bl _)⟩
      · exact p.elim
  · exact p.elim
theorem sim_any : SimB c (rAny c.K) gAny := fun E S ι mem H xs ds Q s r p => by
  unfold gAny at p
  split at p
  · obtain ⟨v, rfl, h⟩ := repA1 r
    cases h with
    | lst h1 h2 =>
      split at p
      · rename_i bs hb
        exact ⟨_, bs, rfl, by rw [← bools_of h2 hb]; exact sq_of (fz_sub _ _ h1), Post.here (v := V.bl _) p s (Rep.bl _)⟩
      · exact p.elim
  · exact p.elim
/-! items -/
theorem atI_rep {h : Hp} {ι : List Addr} {xs : List V} {ds : List D} {i : Int} {d : D} (r : RepA c h ι xs ds) (e : atI ds i = some d) : ∃ v, atI xs i = some v ∧ Rep c h ι v d := by
  unfold atI at e ⊢
  rw [r.len]
  obtain ⟨j, h1, h2⟩ := Option.bind_eq_some_iff.mp e
  obtain ⟨v, h3, h4⟩ := r.get h2
  exact ⟨v, by rw [h1]; exact h3, h4⟩
def gIxL : D → D → Mem → R D := fun a b m => match a, b with
  | .lst ds, .int i => match atI ds i with
    | some d => .ok d m
    | none => .no
  | .scr ds, .int i => match atI ds i with
    | some d => .ok d m
    | none => .no
  | _, _ => .no
theorem sim_ixL : SimR c (rIxL c.K) gIxL := fun E S ι mem H x y d1 d2 Q s r1 r2 p => by
  unfold gIxL at p
  split at p
  · cases r1 with
    | lst h1 h2 =>
      cases r2
      split at p
      · rename_i d hd
        obtain ⟨v, h3, h4⟩ := atI_rep h2 hd
        exact ⟨_, _, _, v, rfl, rfl, sq_of (fz_sub _ _ h1), h3, Post.here p s h4⟩
      · exact p.elim
  · cases r1 with
    | scr h1 h2 =>
      cases r2
      split at p
      · rename_i d hd
        obtain ⟨v, h3, h4⟩ := atI_rep h2 hd
        exact ⟨_, _, _, v, rfl, rfl, ex_l fz_sub h1, h3, Post.here p s h4⟩
      · exact p.elim
  · exact p.elim
def gIxT : D → D → Mem → R D := fun a b m => match a, b with
  | .tup ds, .int i => match atI ds i with
    | some d => .ok d m
    | none => .no
  | _, _ => .no
theorem sim_ixT : SimR c (rIxT c.K) gIxT := fun E S ι mem H x y d1 d2 Q s r1 r2 p => by
  unfold gIxT at p
  split at p
  · cases r1 with
    | tup h1 h2 =>
      cases r2
      split at p
      · rename_i d hd
        obtain ⟨v, h3, h4⟩ := atI_rep h2 hd
        exact ⟨_, _, _, v, rfl, rfl, ex_t fz_sub h1, h3, Post.here p s h4⟩
      · exact p.elim
  · exact p.elim
def gIxS : D → D → Mem → R D := fun a b m => match a, b with
  | .str x, .int i => if x.length ≤ 100000 then (match atI x.cps.toList i with
    | some n => .ok (.str ⟨#[n]⟩) m
    | none => .no) else .no
  | _, _ => .no
theorem sim_ixS : SimR c rIxS gIxS := fun E S ι mem H x y d1 d2 Q s r1 r2 p => by
  unfold gIxS at p
  split at p
  · cases r1
    cases r2
    split at p
    · rename_i hl
      split at p
      · rename_i n hn
        exact ⟨_, _, n, rfl, rfl, sz_of hl, hn, Post.here (v := V.str _) p s (Rep.str _)⟩
      · exact p.elim
    · exact p.elim
  · exact p.elim
/-! a thing of the memory read at an item -/
def gIxM : D → D → Mem → R D := fun a b m => match a, b with
  | .ref n, .int i => match m[n]? with
    | some (.lst ds) => match atI ds i with
      | some d => .ok d m
      | none => .no
    | _ => .no
  | _, _ => .no
theorem sim_ixM : SimR c (rIxL c.K) gIxM := fun E S ι mem H x y d1 d2 Q s r1 r2 p => by
  unfold gIxM at p
  split at p
  · cases r1 with
    | ref h1 =>
      cases r2
      split at p
      · rename_i ds hds
        split at p
        · rename_i d hd
          obtain ⟨O, h3, h4⟩ := s.at_ _ _ _ h1 hds
          cases h4 with
          | lst h5 =>
            obtain ⟨v, h6, h7⟩ := atI_rep h5 hd
            exact ⟨_, _, _, v, rfl, rfl, sq_of (S.sub _ _ _ h3), h6, Post.here p s h7⟩
        · exact p.elim
      · exact p.elim
  · exact p.elim
/-! walks -/
variable {E : SX} {x : ME} {ms : MA}
def iL (x : ME) : MI := fun sl m => (x sl m).bind fun d m1 => match d with
  | .lst ds => .ok ds m1
  | .scr ds => .ok ds m1
  | _ => .no
def iT (x : ME) : MI := fun sl m => (x sl m).bind fun d m1 => match d with
  | .tup ds => .ok ds m1
  | _ => .no
theorem runI {wi : It → Hp → Prop} {S : Wv} {ι : List Addr} {mem : Mem} {H : Hp} {σ : L2.St} {sl : Sl} {f : D → Mem → R (List D)} {K : It → Hp → Prop} {T : VK} (s : SR c S ι mem H) (q : RepSl c (fz S ι H) ι σ sl)
    (p : match (x sl mem).bind f with
      | .ok ds m1 => ∀ J ι1 H1, SR c S ι1 m1 H1 → Fr S ι H ι1 H1 → Gives c (fz S ι1 H1) ι1 J ds → K J H1
      | .exc k fs m1 => ∀ x ws ι' H', SR c S ι' m1 H' → Fr S ι H ι' H' → fz S ι' H' x = some (.xd ws) → RepF c (fz S ι' H') ι' ws fs → E σ (.ref (c.cl k)) (some x) H'
      | .no => False)
    (k : ∀ v d ι1 m1 H1, SR c S ι1 m1 H1 → Fr S ι H ι1 H1 → Rep c (fz S ι1 H1) ι1 v d → (match f d m1 with
      | .ok ds m1 => ∀ J ι1 H1, SR c S ι1 m1 H1 → Fr S ι H ι1 H1 → Gives c (fz S ι1 H1) ι1 J ds → K J H1
      | .exc k fs m1 => ∀ x ws ι' H', SR c S ι' m1 H' → Fr S ι H ι' H' → fz S ι' H' x = some (.xd ws) → RepF c (fz S ι' H') ι' ws fs → E σ (.ref (c.cl k)) (some x) H'
      | .no => False) → T v H1) : tM c E x σ H T := by
  refine ⟨S, ι, mem, sl, s, q, ?_⟩
  cases hm : x sl mem with
  | ok a m1 =>
    rw [hm] at p
    exact fun v ι1 H1 s1 f1 r1 => k v a ι1 m1 H1 s1 f1 r1 p
  | exc k0 fs m1 =>
    rw [hm] at p
    exact p
  | no =>
    rw [hm] at p
    exact p.elim
theorem gives_L {h : Hp} {ι : List Addr} {a : Addr} {xs : List V} {ds : List D} (hs : SqL c.K h a xs) (r : RepA c h ι xs ds) : Gives c h ι (Itl c.K a) ds := fun S2 ι2 mem2 H2 s2 e2 p2 => by
  have sq : SqL c.K H2 a xs := ex_l (e2.trans fz_sub) hs
  have r2 := r.up e2 p2
  refine ⟨fun i hi => ?_, ⟨xs, sq, by rw [r.len]; exact Nat.le_refl _⟩⟩
  have hx : i < xs.length := by rw [r.len]; exact hi
  refine ⟨⟨xs, xs[i], sq, List.getElem?_eq_getElem hx⟩, fun y H3 z => ?_⟩
  obtain ⟨rfl, z2⟩ := z
  obtain ⟨d, h1, h2⟩ := r2.at_ (z2 xs sq)
  exact ⟨Ex.refl _, d, h1, h2⟩
theorem gives_T {h : Hp} {ι : List Addr} {a : Addr} {xs : List V} {ds : List D} (hs : SqT c.K h a xs) (r : RepA c h ι xs ds) : Gives c h ι (Itt c.K a) ds := fun S2 ι2 mem2 H2 s2 e2 p2 => by
  have sq : SqT c.K H2 a xs := ex_t (e2.trans fz_sub) hs
  have r2 := r.up e2 p2
  refine ⟨fun i hi => ?_, ⟨xs, sq, by rw [r.len]; exact Nat.le_refl _⟩⟩
  have hx : i < xs.length := by rw [r.len]; exact hi
  refine ⟨⟨xs, xs[i], sq, List.getElem?_eq_getElem hx⟩, fun y H3 z => ?_⟩
  obtain ⟨rfl, z2⟩ := z
  obtain ⟨d, h1, h2⟩ := r2.at_ (z2 xs sq)
  exact ⟨Ex.refl _, d, h1, h2⟩
theorem sim_iL : SimI c E (iList c.K (tM c E x)) (iL x) := fun S ι mem H σ sl K s q p => runI (wi := K) s q p fun v d ι1 m1 H1 s1 f1 r1 p1 => by
  cases r1 with
  | lst h1 h2 => exact ⟨_, rfl, ⟨_, sq_of (fz_sub _ _ h1)⟩, p1 _ ι1 H1 s1 f1 (gives_L (sq_of h1) h2)⟩
  | scr h1 h2 => exact ⟨_, rfl, ⟨_, ex_l fz_sub h1⟩, p1 _ ι1 H1 s1 f1 (gives_L h1 h2)⟩
  | _ => exact p1.elim
theorem sim_iT : SimI c E (iTup c.K (tM c E x)) (iT x) := fun S ι mem H σ sl K s q p => runI (wi := K) s q p fun v d ι1 m1 H1 s1 f1 r1 p1 => by
  cases r1 with
  | tup h1 h2 => exact ⟨_, rfl, ⟨_, ex_t fz_sub h1⟩, p1 _ ι1 H1 s1 f1 (gives_T h1 h2)⟩
  | _ => exact p1.elim
end
end Mi
end
section
set_option Elab.async false
set_option linter.all false
set_option maxRecDepth 100000
set_option maxHeartbeats 4000000
/-! mirrors of what is built in: texts, truth, lists that change -/
namespace Mi
open PySem PySem.Spec PyProof.Rows L2 Evl MeV MeG
section
variable {X : Cx} {c : Cc} {E : SX} {x y z : ME} {ms : MA} {e a b : Expr} {pos : Pos} {t : MT}
/-! one sign in a text -/
def gInS (neg : Bool) : D → D → Mem → R D := fun a b m => match a, b with
  | .str ⟨⟨[n]⟩⟩, .str z => .ok (.bl (if neg then !decide (n ∈ z.cps.toList) else decide (n ∈ z.cps.toList))) m
  | _, _ => .no
theorem sim_inS : SimR c (fun x y H Q => ∃ (n : Nat) (z : Str), x = V.str ⟨#[n]⟩ ∧ y = .str z ∧ Q (.bl (decide (n ∈ z.cps.toList))) H) (gInS false) := fun E S ι mem H x y d1 d2 Q s r1 r2 p => by
  unfold gInS at p
  split at p
  · cases r1
    cases r2
    exact ⟨_, _, rfl, rfl, Post.here (v := V.bl _) p s (Rep.bl _)⟩
  · exact p.elim
theorem sim_niS : SimR c (fun x y H Q => ∃ (n : Nat) (z : Str), x = V.str ⟨#[n]⟩ ∧ y = .str z ∧ Q (.bl (!decide (n ∈ z.cps.toList))) H) (gInS true) := fun E S ι mem H x y d1 d2 Q s r1 r2 p => by
  unfold gInS at p
  split at p
  · cases r1
    cases r2
    exact ⟨_, _, rfl, rfl, Post.here (v := V.bl _) p s (Rep.bl _)⟩
  · exact p.elim
def gSS (f : Str → Str → Bool) : D → D → Mem → R D := fun a b m => match a, b with
  | .str x, .str y => .ok (.bl (f x y)) m
  | _, _ => .no
theorem sim_SS {f : Str → Str → Bool} : SimR c (fun x y H Q => ∃ i j, x = V.str i ∧ y = V.str j ∧ Q (.bl (f i j)) H) (gSS f) := fun E S ι mem H x y d1 d2 Q s r1 r2 p => by
  unfold gSS at p
  split at p
  · cases r1
    cases r2
    exact ⟨_, _, rfl, rfl, Post.here (v := V.bl _) p s (Rep.bl _)⟩
  · exact p.elim
/-! is None -/
def isNon : D → Bool
  | .non => true
  | _ => false
def gIsN (neg : Bool) : D → D → Mem → R D := fun a b m => match b with
  | .non => .ok (.bl (if neg then !isNon a else isNon a)) m
  | _ => .no
theorem isNon_of {h : Hp} {ι : List Addr} {v : V} {d : D} (r : Rep c h ι v d) : decide (v = .non) = isNon d := by
  cases r <;> rfl
theorem sim_isN : SimR c (fun x y H Q => y = V.non ∧ Q (.bl (decide (x = .non))) H) (gIsN false) := fun E S ι mem H x y d1 d2 Q s r1 r2 p => by
  unfold gIsN at p
  split at p
  · cases r2
    rw [isNon_of r1]
    exact ⟨rfl, Post.here (v := V.bl _) p s (Rep.bl _)⟩
  · exact p.elim
theorem sim_noN : SimR c (fun x y H Q => y = V.non ∧ Q (.bl (!decide (x = .non))) H) (gIsN true) := fun E S ι mem H x y d1 d2 Q s r1 r2 p => by
  unfold gIsN at p
  split at p
  · cases r2
    rw [isNon_of r1]
    exact ⟨rfl, Post.here (v := V.bl _) p s (Rep.bl _)⟩
  · exact p.elim
def gIsB (neg : Bool) : D → D → Mem → R D := fun a b m => match a, b with
  | .bl x, .bl y => .ok (.bl (if neg then !decide (x = y) else decide (x = y))) m
  | _, _ => .no
theorem sim_isB : SimR c (fun x y H Q => ∃ a b, x = V.bl a ∧ y = V.bl b ∧ Q (.bl (decide (a = b))) H) (gIsB false) := fun E S ι mem H x y d1 d2 Q s r1 r2 p => by
  unfold gIsB at p
  split at p
  · cases r1
    cases r2
    exact ⟨_, _, rfl, rfl, Post.here (v := V.bl _) p s (Rep.bl _)⟩
  · exact p.elim
theorem sim_noB : SimR c (fun x y H Q => ∃ a b, x = V.bl a ∧ y = V.bl b ∧ Q (.bl (!decide (a = b))) H) (gIsB true) := fun E S ι mem H x y d1 d2 Q s r1 r2 p => by
  unfold gIsB at p
  split at p
  · cases r1
    cases r2
    exact ⟨_, _, rfl, rfl, Post.here (v := V.bl _) p s (Rep.bl _)⟩
  · exact p.elim
/-! chains -/
def mChain (g k : D → D → Mem → R D) (x y z : ME) : ME := fun sl m => (x sl m).bind fun d1 m1 => (y sl m1).bind fun d2 m2 => (g d1 d2 m2).bind fun b m3 => match b with
  | .bl true => (z sl m3).bind fun d3 m4 => k d2 d3 m4
  | .bl false => .ok (.bl false) m3
  | _ => .no
theorem s_chain {r q : R2} {g k : D → D → Mem → R D} (h1 : SimR c r g) (h2 : SimR c q k) (σ : L2.St) (H : Hp) (Q : VK) : tM c E (mChain g k x y z) σ H Q → tChain r q (tM c E x) (tM c E y) (tM c E z) σ H Q := fun ⟨S, ι, mem, sl, s, w, p⟩ =>
  run1 (RR := rD c) s w p fun v1 d1 ι1 m1 H1 s1 f1 r1 p1 => run1 (RR := rD c) s1 (w.fr f1) p1 fun v2 d2 ι2 m2 H2 s2 f2 r2 p2 => by
    refine h1 (E σ) S ι2 m2 H2 v1 v2 d1 d2 _ s2 (Rep.up f2.e f2.p r1) r2 ?_
    cases hg : g d1 d2 m2 with
    | no =>
      rw [hg] at p2
      exact p2
    | exc k0 fs m3 =>
      rw [hg] at p2
      exact p2
    | ok b m3 =>
      rw [hg] at p2
      intro v3 ι3 H3 s3 f3 r3
      have r3' : Rep c (fz S ι3 H3) ι3 v3 b := r3
      have p3 := Post.from (r := match b with
        | .bl true => (z sl m3).bind fun d3 m4 => k d2 d3 m4
        | .bl false => .ok (.bl false) m3
        | _ => .no) p2 f3
      cases r3' with
      | bl b =>
        refine ⟨b, rfl, ?_⟩
        cases b with
        | true => exact run1 (RR := rD c) s3 ((w.fr f1).fr (f2.trans f3)) p3 fun v4 d4 ι4 m4 H4 s4 f4 r4 p4 => h2 (E σ) S ι4 m4 H4 v2 v4 d2 d4 Q s4 (Rep.up f4.e f4.p (Rep.up f3.e f3.p r2)) r4 p4
        | false => exact Post.here (v := V.bl false) p3 s3 (Rep.bl false)
      | _ => exact p3.elim
theorem m_chain {cc : Expr} {op op' : CmpOp} {r q : R2} {g k : D → D → Mem → R D} (o1 : OpR X (compareOp op) r) (o2 : OpR X (compareOp op') q) (h1 : SimR c r g) (h2 : SimR c q k) (ha : PE X a (tM c E x)) (hb : PE X b (tM c E y)) (hc : PE X cc (tM c E z)) (hm : lastMarks [op, op'] [b, cc] = false := by with_unfolding_all rfl) :
    PE X (.Compare a [op, op'] [b, cc] pos) (tM c E (mChain g k x y z)) := (pe_chain o1 o2 ha hb hc hm).weak (s_chain h1 h2)
theorem mt_chain {cc : Expr} {op op' : CmpOp} {r q : R2} {g k : D → D → Mem → R D} (o1 : OpR X (compareOp op) r) (o2 : OpR X (compareOp op') q) (h1 : SimR c r g) (h2 : SimR c q k) (ha : PE X a (tM c E x)) (hb : PE X b (tM c E y)) (hc : PE X cc (tM c E z)) (hm : lastMarks [op, op'] [b, cc] = false := by with_unfolding_all rfl) :
    PT X (.Compare a [op, op'] [b, cc] pos) (tMT c E (mTest (mChain g k x y z))) := (pt_chain o1 o2 ha hb hc hm).weak fun σ H Q h => by
    obtain ⟨S, ι, mem, sl, s, q, p⟩ := s_test σ H Q h
    exact s_chain h1 h2 σ H _ ⟨S, ι, mem, sl, s, q, p⟩
/-! truth -/
def tru (m : Mem) : D → Option Bool
  | .non => some false
  | .bl b => some b
  | .int i => some (i != 0)
  | .str x => if x.length ≤ 100000 then some ((x.length : Int) != 0) else none
  | .tup ds => some (!ds.isEmpty)
  | .lst ds => some (!ds.isEmpty)
  | .scr ds => some (!ds.isEmpty)
  | .ref n => match m[n]? with
    | some (.lst ds) => some (!ds.isEmpty)
    | _ => none
  | _ => none
theorem repA_emp {h : Hp} {ι : List Addr} {xs : List V} {ds : List D} (r : RepA c h ι xs ds) : ds.isEmpty = xs.isEmpty := by
  cases r <;> rfl
theorem tru_of {S : Wv} {ι : List Addr} {mem : Mem} {H : Hp} {v : V} {d : D} {k : Bool} (s : SR c S ι mem H) (r : Rep c (fz S ι H) ι v d) (e : tru mem d = some k) : TruV c.K v H k := by
  cases r with
  | non =>
    cases e
    exact rfl
  | bl b =>
    cases e
    exact rfl
  | int i =>
    cases e
    exact rfl
  | str x =>
    have e' : (if x.length ≤ 100000 then some ((x.length : Int) != 0) else none) = some k := e
    split at e'
    · rename_i hl
      cases e'
      exact ⟨sz_of hl, rfl⟩
    · cases e'
  | ty x => cases e
  | cls k => cases e
  | err _ _ _ => cases e
  | clo _ _ _ => cases e
  | obj h1 h2 => cases e
  | tup h1 h2 =>
    cases e
    exact .inr (.inl ⟨_, ex_t fz_sub h1, by rw [repA_emp h2]⟩)
  | lst h1 h2 =>
    cases e
    exact .inl ⟨_, sq_of (fz_sub _ _ h1), by rw [repA_emp h2]⟩
  | scr h1 h2 =>
    cases e
    exact .inl ⟨_, ex_l fz_sub h1, by rw [repA_emp h2]⟩
  | dic h1 h2 => cases e
  | ref h1 =>
    rename_i n a
    have e' : (match mem[n]? with
      | some (.lst ds) => some (!ds.isEmpty)
      | _ => none) = some k := e
    split at e'
    · rename_i ds hd
      cases e'
      obtain ⟨O, h3, h4⟩ := s.at_ _ _ _ h1 hd
      cases h4 with
      | lst h5 => exact .inl ⟨_, sq_of (S.sub _ _ _ h3), by rw [repA_emp h5]⟩
    · cases e'
/-- if x: by truth -/
def mTru (x : ME) : MT := fun sl m => (x sl m).bind fun d m1 => match tru m1 d with
  | some b => .ok b m1
  | none => .no
theorem s_tru (σ : L2.St) (H : Hp) (Q : Bool → Hp → Prop) : tMT c E (mTru x) σ H Q → (tM c E x σ H fun v H' => ∃ k, TruV c.K v H' k ∧ Q k H') := fun ⟨S, ι, mem, sl, s, q, p⟩ =>
  run1 (RR := rD c) s q p fun v d ι1 m1 H1 s1 f1 r1 p1 => by
    cases ht : tru m1 d with
    | none =>
      rw [ht] at p1
      exact p1.elim
    | some k =>
      rw [ht] at p1
      exact ⟨k, tru_of s1 r1 ht, Post.here (v := k) p1 s1 rfl⟩
theorem mt_tru {cl : Cl} (h : PE X e (tM ⟨X.w, X.K, cl⟩ E x)) (he : ∀ whole, isTrue e X.env whole = (do let v ← whole; standAt e.pos; holding [v] (truthy v)) := by intro _; rfl) : PT X e (tMT ⟨X.w, X.K, cl⟩ E (mTru x)) := (pt_truth h he).weak s_tru
/-- x or y, x and y by truth -/
def mOrT (x y : ME) : ME := fun sl m => (x sl m).bind fun d m1 => match tru m1 d with
  | some true => .ok d m1
  | some false => y sl m1
  | none => .no
def mAndT (x y : ME) : ME := fun sl m => (x sl m).bind fun d m1 => match tru m1 d with
  | some true => y sl m1
  | some false => .ok d m1
  | none => .no
theorem m_orT {cl : Cl} {rest : List Expr} (ha : PE X a (tM ⟨X.w, X.K, cl⟩ E x)) (hb : PE X (.BoolOp .Or (b :: rest) pos) (tM ⟨X.w, X.K, cl⟩ E y)) : PE X (.BoolOp .Or (a :: b :: rest) pos) (tM ⟨X.w, X.K, cl⟩ E (mOrT x y)) := (pe_orT ha hb).weak fun σ H Q ⟨S, ι, mem, sl, s, q, p⟩ =>
  run1 (RR := rD _) s q p fun v d ι1 m1 H1 s1 f1 r1 p1 => by
    cases ht : tru m1 d with
    | none =>
      rw [ht] at p1
      exact p1.elim
    | some k =>
      rw [ht] at p1
      refine ⟨k, tru_of (c := ⟨X.w, X.K, cl⟩) s1 r1 ht, ?_⟩
      cases k with
      | true => exact Post.here (v := v) p1 s1 r1
      | false => exact ⟨S, ι1, m1, sl, s1, q.fr f1, p1⟩
theorem m_andT {cl : Cl} {rest : List Expr} (ha : PE X a (tM ⟨X.w, X.K, cl⟩ E x)) (hb : PE X (.BoolOp .And (b :: rest) pos) (tM ⟨X.w, X.K, cl⟩ E y)) : PE X (.BoolOp .And (a :: b :: rest) pos) (tM ⟨X.w, X.K, cl⟩ E (mAndT x y)) := (pe_andT ha hb).weak fun σ H Q ⟨S, ι, mem, sl, s, q, p⟩ =>
  run1 (RR := rD _) s q p fun v d ι1 m1 H1 s1 f1 r1 p1 => by
    cases ht : tru m1 d with
    | none =>
      rw [ht] at p1
      exact p1.elim
    | some k =>
      rw [ht] at p1
      refine ⟨k, tru_of (c := ⟨X.w, X.K, cl⟩) s1 r1 ht, ?_⟩
      cases k with
      | true => exact ⟨S, ι1, m1, sl, s1, q.fr f1, p1⟩
      | false => exact Post.here (v := v) p1 s1 r1
/-! walks over texts, ranges -/
def signs (x : Str) : List D := x.cps.toList.map fun n => .str ⟨#[n]⟩
def iS (x : ME) : MI := fun sl m => (x sl m).bind fun d m1 => match d with
  | .str z => .ok (signs z) m1
  | _ => .no
theorem signs_len (z : Str) : (signs z).length = z.cps.size := by
  unfold signs
  rw [List.length_map, Array.length_toList]
theorem gives_S {h : Hp} {ι : List Addr} (z : Str) : Gives c h ι (Its z) (signs z) := fun S2 ι2 mem2 H2 s2 e2 p2 => by
  rw [signs_len]
  refine ⟨fun i hi => ⟨hi, fun y H3 w => ?_⟩, Nat.le_refl _⟩
  obtain ⟨rfl, n, h1, rfl⟩ := w
  refine ⟨Ex.refl _, .str ⟨#[n]⟩, ?_, Rep.str _⟩
  unfold signs
  rw [List.getElem?_map, Array.getElem?_toList, h1]
  rfl
theorem sim_iS : SimI c E (iStr (tM c E x)) (iS x) := fun S ι mem H σ sl K s q p => runI (wi := K) s q p fun v d ι1 m1 H1 s1 f1 r1 p1 => by
  cases r1 with
  | str z => exact ⟨z, rfl, p1 _ ι1 H1 s1 f1 (gives_S z)⟩
  | _ => exact p1.elim
def rngD (n : Nat) : List D := (List.range n).map fun i : Nat => D.int (0 + (i : Int))
def rngOf : List D → Option (List D)
  | [.int j] => if -100000 ≤ j ∧ j ≤ 100000 then some (rngD j.toNat) else none
  | _ => none
theorem rngOf_eq {ds l : List D} (h : rngOf ds = some l) : ∃ j : Int, ds = [.int j] ∧ -100000 ≤ j ∧ j ≤ 100000 ∧ l = rngD j.toNat := by
  unfold rngOf at h
  split at h
  · split at h
    · rename_i j hj
      cases h
      exact ⟨j, rfl, hj.1, hj.2, rfl⟩
    · cases h
  · cases h
def iR (r : MA) : MI := fun sl m => (r sl m).bind fun ds m1 => match rngOf ds with
  | some l => .ok l m1
  | none => .no
theorem gives_R {h : Hp} {ι : List Addr} (n : Nat) : Gives c h ι (Itr 0 n) (rngD n) := fun S2 ι2 mem2 H2 s2 e2 p2 => by
  have hl : (rngD n).length = n := by
    unfold rngD
    rw [List.length_map, List.length_range]
  rw [hl]
  refine ⟨fun i hi => ⟨hi, fun y H3 w => ?_⟩, Nat.le_refl _⟩
  obtain ⟨rfl, rfl⟩ := w
  refine ⟨Ex.refl _, .int (0 + (i : Int)), ?_, Rep.int _⟩
  unfold rngD
  rw [List.getElem?_map, List.getElem?_range hi]
  rfl
theorem sim_iR : SimI c E (iRng1 (tMA c E ms)) (iR ms) := fun S ι mem H σ sl K s q p => by
  refine ⟨S, ι, mem, sl, s, q, ?_⟩
  unfold iR at p
  cases hm : ms sl mem with
  | no =>
    rw [hm] at p
    exact p
  | exc k fs m1 =>
    rw [hm] at p
    exact p
  | ok ds m1 =>
    rw [hm] at p
    intro vs ι1 H1 s1 f1 r1
    dsimp only [R.bind] at p
    cases hr : rngOf ds with
    | none =>
      rw [hr] at p
      exact p.elim
    | some l =>
      rw [hr] at p
      obtain ⟨j, rfl, j0, j1, rfl⟩ := rngOf_eq hr
      obtain ⟨v, rfl, h⟩ := repA1 r1
      cases h
      exact ⟨j, rfl, by omega, by omega, p _ ι1 H1 s1 f1 (gives_R j.toNat)⟩
end
end Mi
end
section
set_option Elab.async false
set_option linter.all false
set_option maxRecDepth 100000
set_option maxHeartbeats 4000000
/-! the rules that serve every kind at once -/
namespace Mi
open PySem PySem.Spec PyProof.Rows L2 Evl MeV MeG
section
variable {X : Cx} {c : Cc} {E : SX} {x y z : ME} {ms : MA} {e a b tg : Expr} {pos : Pos}
def gAdd : D → D → Mem → R D := gOr (gI fun i j => .int (i + j)) (gOr gAddS (gOr gCat gCatT))
theorem m_add {cl : Cl} (ha : PE X a (tM ⟨X.w, X.K, cl⟩ E x)) (hb : PE X b (tM ⟨X.w, X.K, cl⟩ E y)) : PE X (.BinOp a .Add b pos) (tM ⟨X.w, X.K, cl⟩ E (mBin gAdd x y)) :=
  m_op (c := ⟨X.w, X.K, cl⟩) (OpR_or op_add (OpR_or op_add_str (OpR_or op_cat op_catA))) (sim_or (sim_I0 fun i j _ _ => .int (i + j)) (sim_or sim_addS (sim_or sim_cat sim_catT))) ha hb
def iOr (i j : MI) : MI := fun sl m => match i sl m with
  | .no => j sl m
  | r => r
theorem simI_or {t u : TI} {i j : MI} (h : SimI c E t i) (k : SimI c E u j) : SimI c E (fun σ H R => t σ H R ∨ u σ H R) (iOr i j) := fun S ι mem H σ sl K s q p => by
  unfold iOr at p
  cases hi : i sl mem with
  | no =>
    rw [hi] at p
    exact .inr (k S ι mem H σ sl K s q p)
  | ok ds m =>
    rw [hi] at p
    exact .inl (h S ι mem H σ sl K s q (by rw [hi]; exact p))
  | exc k0 fs m =>
    rw [hi] at p
    exact .inl (h S ι mem H σ sl K s q (by rw [hi]; exact p))
def iU (x : ME) : MI := iOr (iL x) (iOr (iT x) (iS x))
theorem pi_U {t : TE} (h : PE X e t) : PI X tg e (fun σ H R => iList X.K t σ H R ∨ (fun σ H R => iTup X.K t σ H R ∨ iStr t σ H R) σ H R) := PI_or (pi_list h) (PI_or (pi_tup h) (pi_str h))
theorem sim_iU : SimI c E (fun σ H R => iList c.K (tM c E x) σ H R ∨ (fun σ H R => iTup c.K (tM c E x) σ H R ∨ iStr (tM c E x) σ H R) σ H R) (iU x) := simI_or sim_iL (simI_or sim_iT sim_iS)
def gIx : D → D → Mem → R D := gOr gIxL (gOr gIxM (gOr gIxT gIxS))
theorem IxR_or {r q : R2} (h : IxR X r) (k : IxR X q) : IxR X (fun x y H Q => r x y H Q ∨ q x y H Q) := fun value slice pins s σ H x y v u Q I rx ry z w => z.elim (fun z => h value slice pins s σ H x y v u Q I rx ry z w) fun z => k value slice pins s σ H x y v u Q I rx ry z w
theorem m_ix {cl : Cl} (ha : PE X a (tM ⟨X.w, X.K, cl⟩ E x)) (hb : PE X b (tM ⟨X.w, X.K, cl⟩ E y)) (hs : PlainIx b) : PE X (.Subscript a b pos) (tM ⟨X.w, X.K, cl⟩ E (mBin gIx x y)) :=
  (pe_ix (IxR_or ix_list (IxR_or ix_list (IxR_or ix_tup ix_str))) ha hb hs).weak (s_op (c := ⟨X.w, X.K, cl⟩) (sim_or sim_ixL (sim_or sim_ixM (sim_or sim_ixT sim_ixS))))
def gLenU : List D → Mem → R D := gOrB gLen gLenS
theorem m_len {cl : Cl} {es : List Expr} {p : Pos} (hg : Gl X "len") (hm : X.mg "len" = none) (ha : PA X (e :: es) (tMA ⟨X.w, X.K, cl⟩ E ms)) (he : starEach (e :: es) X.env = (false, eval e X.env) :: starEach es X.env := by rfl) (hpl : (backTo pos (starEach es X.env)).any (·.1) = false := by rfl) :
    PE X (.Call (.Name "len" p) (e :: es) [] pos) (tM ⟨X.w, X.K, cl⟩ E (mCB gLenU ms)) := m_cb (c := ⟨X.w, X.K, cl⟩) (pe_callB (CallR_or call_len_seq call_len_str) hg hm PySem.boot_len ha (by decide) (by decide) he hpl) (simB_or sim_len sim_lenS)
end
end Mi
end
section
set_option Elab.async false
set_option linter.all false
set_option maxRecDepth 100000
set_option maxHeartbeats 4000000
/-! objects of own classes: fields, methods, makers -/
namespace Mi
open PySem PySem.Spec PyProof.Rows L2 Evl MeV MeG
def look (f : Str) (fs : List (Str × D)) (m : Mem) : R D := match fs.lookup f with
  | some d => .ok d m
  | none => .no
/-- the class and the fields of a thing -/
def insOf (m : Mem) : D → Option (Nat × List (Str × D))
  | .obj k fs => some (k, fs)
  | .ref n => match m[n]? with
    | some (.ins k fs) => some (k, fs)
    | _ => none
  | _ => none
def gFld (ks : List Nat) (f : Str) : D → Mem → R D := fun d m => match insOf m d with
  | some (k, fs) => bif ks.contains k then look f fs m else .no
  | none => .no
def putD (f : Str) (d : D) : List (Str × D) → List (Str × D)
  | [] => [(f, d)]
  | (g, x) :: r => if g = f then (g, d) :: r else (g, x) :: putD f d r
def stF (ks : List Nat) (f : Str) (o d : D) (m : Mem) : Option Mem := match o with
  | .ref n => match m[n]? with
    | some (.ins k fs) => bif ks.contains k && Nat.blt fs.length 1000 then some (m.set n (.ins k (putD f d fs))) else none
    | _ => none
  | _ => none
def nFld (ks : List Nat) (f : Str) (o v : ME) : MS := fun sl m => (v sl m).seq sl fun d m1 => (o sl m1).seq sl fun q m2 => match stF ks f q d m2 with
  | some m3 => .next sl m3
  | none => .no
section
variable {c : Cc} {h : Hp} {ι : List Addr}
theorem RepF.look {f : Str} : ∀ {fs : List (Str × V)} {ds : List (Str × D)} {d : D}, RepF c h ι fs ds → ds.lookup f = some d → ∃ v, fs.lookup f = some v ∧ Rep c h ι v d
  | _, _, _, .nil, e => by cases e
  | _, _, d, .cons (f := g) a r, e => by
    rw [List.lookup_cons] at e ⊢
    split at e
    · cases e
      exact ⟨_, rfl, a⟩
    · exact RepF.look r e
theorem RepF.none {f : Str} : ∀ {fs : List (Str × V)} {ds : List (Str × D)}, RepF c h ι fs ds → ds.lookup f = .none → fs.lookup f = .none
  | _, _, .nil, _ => rfl
  | _, _, .cons (f := g) a r, e => by
    rw [List.lookup_cons] at e ⊢
    split at e
    · cases e
    · exact RepF.none r e
theorem RepF.put {f : Str} {v : V} {d : D} (q : Rep c h ι v d) : ∀ {fs : List (Str × V)} {ds : List (Str × D)}, RepF c h ι fs ds → RepF c h ι (putF f v fs) (putD f d ds)
  | _, _, .nil => .cons q .nil
  | _, _, .cons (f := g) (v := x) (d := y) (vs := vs) (ds := ds) a r => by
    show RepF c h ι (if g = f then (g, v) :: vs else (g, x) :: putF f v vs) (if g = f then (g, d) :: ds else (g, y) :: putD f d ds)
    split
    · exact .cons q r
    · exact .cons a (RepF.put q r)
theorem RepF.len : ∀ {fs : List (Str × V)} {ds : List (Str × D)}, RepF c h ι fs ds → fs.length = ds.length
  | _, _, .nil => rfl
  | _, _, .cons _ r => congrArg (· + 1) (RepF.len r)
end
theorem insOf_ok {c : Cc} {S : Wv} {ι : List Addr} {m : Mem} {H : Hp} {x : V} {d : D} {k : Nat} {fs : List (Str × D)} (s : SR c S ι m H) (r : Rep c (fz S ι H) ι x d) (e : insOf m d = some (k, fs)) :
    ∃ a dx ws, x = .ref a ∧ H a = some (.ins (c.cl k) dx ws) ∧ RepF c (fz S ι H) ι ws fs := by
  cases r <;> try (cases e; done)
  · rename_i n a hn
    unfold insOf at e
    dsimp only at e
    split at e
    · rename_i k' fs' hm
      cases e
      obtain ⟨O, h1, h2⟩ := s.at_ n a _ hn hm
      cases h2 with
      | ins q => exact ⟨a, _, _, rfl, S.sub _ _ _ h1, q⟩
    · cases e
  · rename_i a dx k' ws ds' ha q
    cases e
    exact ⟨a, dx, ws, rfl, fz_sub _ _ ha, q⟩
section
variable {X : Cx} {c : Cc} {E : SX} {e o : Expr} {pos pos' : Pos} {x y : ME} {f : Str} {ks : List Nat}
theorem m_fld (hk : ∀ k ∈ ks, Cls X.K (c.cl k) ∧ NoAttr X.K (c.cl k) f) (he : PE X e (tM c E x)) (hb : attributeBase e f X.env (eval e X.env) = eval e X.env := by rfl) : PE X (.Attribute e f pos) (tM c E (mUn (gFld ks f) x)) :=
  (pe_fld he hb).weak fun σ H Q ⟨S, ι, mem, sl, s, q, p⟩ => run1 (RR := rD c) s q p fun v d ι1 m1 H1 s1 f1 r1 p1 => by
    unfold gFld at p1
    split at p1
    · rename_i k fs hi
      cases hc : ks.contains k with
      | false =>
        rw [hc] at p1
        exact p1.elim
      | true =>
        rw [hc] at p1
        obtain ⟨a, dx, ws, rfl, ha, rf⟩ := insOf_ok s1 r1 hi
        have p2 : Post c (E σ) S ι1 H1 (rD c) (look f fs m1) Q := p1
        unfold look at p2
        split at p2
        · rename_i d' hl
          obtain ⟨v, h1, h2⟩ := rf.look hl
          obtain ⟨g1, g2⟩ := hk k (List.contains_iff_mem.mp hc)
          exact ⟨a, _, dx, ws, v, rfl, ha, g1, g2, h1, Post.here p2 s1 h2⟩
        · exact p2.elim
    · exact p1.elim
theorem n_fld (hk : ∀ k ∈ ks, Cls X.K (c.cl k) ∧ NoAttr X.K (c.cl k) f) (ha : PE X o (tM c E x)) (hv : PE X e (tM c E y)) (hs : swapsWith e (some (.Attribute o f pos')) pos.line X.env = pure false := by rfl) : PS X (.Assign [.Attribute o f pos'] e pos) (tMS c E (nFld ks f x y)) :=
  (ps_fld ha hv hs).weak fun D σ H ⟨S, ι, mem, sl, s, q, p⟩ => runS (RR := rD c) s q p fun v d ι1 m1 H1 s1 f1 r1 p1 => runS (RR := rD c) s1 (q.fr f1) p1 fun u w ι2 m2 H2 s2 f2 r2 p2 => by
    unfold stF at p2
    cases w <;> try exact p2.elim
    rename_i n
    dsimp only at p2
    cases hm : m2[n]? with
    | none =>
      rw [hm] at p2
      exact p2.elim
    | some O =>
      rw [hm] at p2
      cases O <;> try exact p2.elim
      rename_i k fs
      dsimp only at p2
      cases hc : ks.contains k && Nat.blt fs.length 1000 with
      | false =>
        rw [hc] at p2
        exact p2.elim
      | true =>
        rw [hc] at p2
        obtain ⟨hc1, hc2⟩ := Bool.and_eq_true_iff.mp hc
        cases r2 with
        | ref hn =>
          rename_i a
          obtain ⟨OO, h1, h2⟩ := s2.at_ n a _ hn hm
          cases h2 with
          | ins rf =>
            rename_i dx ws
            obtain ⟨g1, g2⟩ := hk k (List.contains_iff_mem.mp hc1)
            have r1' : Rep c (fz S ι2 H2) ι2 v d := r1.up f2.e f2.p
            obtain ⟨s3, f3⟩ := s2.set (o := .ins k (putD f d fs)) (O := .ins (c.cl k) dx (putF f v ws)) hn (.ins (rf.put r1'))
            refine ⟨a, _, dx, ws, rfl, S.sub _ _ _ h1, g1, g2, ?_, ?_⟩
            · rw [rf.len]
              exact Nat.ble_eq.mp hc2
            · exact p2 σ ι2 _ s3 f3 (((q.fr f1).fr f2).fr f3)
end
/-! methods -/
/-- a method of class k -/
def mMeth (k : Nat) (m : Str) (n : Nat) (g : MF) (o : ME) (r : MA) : ME := fun sl mem => (o sl mem).bind fun d m1 => match insOf m1 d with
  | some (k', fs) => bif Nat.beq k' k && (fs.lookup m).isNone then (r sl m1).bind fun ds m2 => if ds.length + 1 = n then g (d :: ds) m2 else .no else .no
  | none => .no
/-- C(..) -/
def mMake (k n : Nat) (g : MF) (r : MA) : ME := fun sl mem => (r sl mem).bind fun ds m1 => if ds.length + 1 = n then (g (.ref m1.length :: ds) (m1 ++ [.ins k []])).bind fun d m2 => match d with
  | .non => .ok (.ref m1.length) m2
  | _ => .no else .no
def tMethS (C : Addr) (m : Str) (sp : Sp) (E : SX) (ta : TE) (t : TA) : TE := fun σ H Q => ta σ H fun x H1 => ∃ a dx fs, x = .ref a ∧ H1 a = some (.ins C dx fs) ∧ fs.lookup m = none ∧ t σ H1 fun vs H2 => sp (x :: vs) H2 Q (E σ)
section
variable {X : Cx} {CX : CXT} {k : Nat} {f C : Addr} {fd : FuncData} {ps : List Str} {sp : Sp} {E : SX} {x m : Str} {p pos apos : Pos} {e o : Expr} {es : List Expr} {ta : TE} {t : TA}
/-- o.m(..), the method promising as a FnG does -/
theorem pe_methS {pl : Sem Bool} (he : PE X o ta) (cls : Cls X.K C) (mth : Meth X.K C m f) (F : FnG X.prog X.w X.K X.mg X.base CX k f fd ps sp) (hgd : X.A.guards = some []) (room : Room k X.A) (bind : L2.Binds X.K fd ps []) (out : PassS CX X E) (ha : PA X (e :: es) t)
    (one : starEach (e :: es) X.env = (false, eval e X.env) :: starEach es X.env := by rfl) (plain : (backTo pos (starEach es X.env)).any (·.1) = false := by rfl)
    (way : eval (.Call (.Attribute o m apos) (e :: es) [] pos) X.env = (eval o X.env >>= fun ov => standAt apos.atName >>= fun _ => holding [ov] (getMethod ov m pl) >>= fun b => callWith pos b.1 b.2 (backTo pos (starEach (e :: es) X.env)) (backToKw pos (keywordEach [] X.env))) := by rfl) :
    PE X (.Call (.Attribute o m apos) (e :: es) [] pos) (tMethS C m sp E ta t) where
  run pins s σ H Q I want := PySem.W.methodCall_KW (pl := pl) (thn (he.run pins s σ H _ I want) fun
    | u, s1, ⟨_, H1, I1, rel, a, _, _, isa, at1, nof, q⟩ => by
      cases isa
      cases (show u = Value.ref a from rel)
      exact getmeth_ok I1 at1 cls mth nof (PySem.W.callWith_K (first := [.ref a]) (h₀ := X.base) I.ok.mod.kin mth.kp
        (thn (ha.run pos pins s1 σ H1 _ I1 q) fun us _ ⟨vs, _, I2, r, q2⟩ => ⟨I2.kIn, run_fnS (us := .ref a :: us) (vs := .ref a :: vs) F hgd room bind out I2 (.cons rfl r) q2⟩) one plain)) way
theorem pe_methS0 {pl : Sem Bool} (he : PE X o ta) (cls : Cls X.K C) (mth : Meth X.K C m f) (F : FnG X.prog X.w X.K X.mg X.base CX k f fd ps sp) (hgd : X.A.guards = some []) (room : Room k X.A) (bind : L2.Binds X.K fd ps []) (out : PassS CX X E)
    (way : eval (.Call (.Attribute o m apos) [] [] pos) X.env = (eval o X.env >>= fun ov => standAt apos.atName >>= fun _ => holding [ov] (getMethod ov m pl) >>= fun b => callWith pos b.1 b.2 (backTo pos (starEach [] X.env)) (backToKw pos (keywordEach [] X.env))) := by rfl) :
    PE X (.Call (.Attribute o m apos) [] [] pos) (tMethS C m sp E ta tNil) where
  run pins s σ H Q I want := PySem.W.methodCall_KW (pl := pl) (thn (he.run pins s σ H _ I want) fun
    | u, s1, ⟨_, H1, I1, rel, a, _, _, isa, at1, nof, q⟩ => by
      cases isa
      cases (show u = Value.ref a from rel)
      exact getmeth_ok I1 at1 cls mth nof (PySem.W.callWith_K0 (first := [.ref a]) I1.kIn mth.kp (run_fnS (us := [.ref a]) (vs := [.ref a]) F hgd room bind out I1 (.cons rfl .nil) q))) way
end
end Mi
end
section
set_option Elab.async false
set_option linter.all false
set_option maxRecDepth 100000
set_option maxHeartbeats 4000000
/-! methods and makers, mirrored -/
namespace Mi
open PySem PySem.Spec PyProof.Rows L2 Evl MeV MeG
theorem gd_make {A : Around} {C : Addr} {us : List Value} (hgd : A.guards = some []) : (A.under (.builtin "type.__call__" ⟨.ref C :: us, []⟩)).guards = some [] := by
  unfold Around.under
  dsimp only
  rw [hgd]
  rfl
def tMakeS (C : Addr) (sp : Sp) (E : SX) (t : TA) : TE := fun σ H Q => t σ H fun vs H1 => ∀ x dx, H1 x = none → H1 dx = none → dx ≠ x → sp (.ref x :: vs) (upd (upd H1 dx (.own x)) x (.ins C dx [])) (fun v H2 => v = .non ∧ Q (.ref x) H2) (E σ)
section
variable {X : Cx} {CX : CXT} {k : Nat} {f C : Addr} {fd : FuncData} {ps : List Str} {sp : Sp} {E : SX} {x m : Str} {p pos apos : Pos} {e o : Expr} {es : List Expr} {ta : TE} {t : TA}
/-- C(..), whose __init__ promises as a FnG does -/
theorem run_makeS {pins : List (Addr × Obj)} {σ : L2.St} {H : Hp} {s : Shared} {Q : VK} {us : List Value} {vs : List V} (M : Mk X.K C f) (F : FnG X.prog X.w X.K X.mg X.base CX k f fd ps sp) (hgd : X.A.guards = some []) (room : Room (k + 1) X.A) (bind : L2.Binds X.K fd ps [])
    (out : PassS CX X E) (I : Inv X pins σ H s) (vals : Vals vs us)
    (want : ∀ x dx, H x = none → H dx = none → dx ≠ x → sp (.ref x :: vs) (upd (upd H dx (.own x)) x (.ins C dx [])) (fun v H2 => v = .non ∧ Q (.ref x) H2) (E σ)) : wpAny (model X.prog X.w) X.A (call (.ref C) us) (EP X pins σ Q) X.xe s := by
  have I' := Inv.made (C := C) I
  have go := want (s.heap.objs.size + 1) s.heap.objs.size (I.hok.fresh (Nat.le_succ _)) (I.hok.fresh (Nat.le_refl _)) (Nat.ne_of_lt (Nat.lt_succ_self _))
  have both : Vals (V.ref (s.heap.objs.size + 1) :: vs) (Value.ref (s.heap.objs.size + 1) :: us) := .cons rfl vals
  have count : ((Value.ref (s.heap.objs.size + 1) :: us) ++ []).length = ps.length := by
    rw [List.append_nil, ← both.length]
    exact F.len _ _ _ _ go
  have bd := bind _ (Value.ref (s.heap.objs.size + 1) :: us) I'.kIn count
  rw [List.append_nil] at bd
  have it := F.run _ X.stack _ _ _ _ _ _ (E σ) (gd_make (C := C) (us := us) hgd) (room.make C us []) (I'.env0.make C us []) bd both go
  refine wpAny_call (make_map I.kIn M.makes M.init (beq_iff_eq.mp M.fn) (codeAny_mono it fun r s' h => ?_))
  match r, h with
  | .error e, h => exact out pins σ _ _ e s' I' h
  | .ok (.ret _), h =>
    obtain ⟨_, H', I3, rv, rfl, q⟩ := I'.after h
    exact ⟨rv, .ref (s.heap.objs.size + 1), H', I3, rfl, q⟩
theorem pe_makeS (M : Mk X.K C f) (F : FnG X.prog X.w X.K X.mg X.base CX k f fd ps sp) (hgd : X.A.guards = some []) (room : Room (k + 1) X.A) (hg : Gl X x) (hm : X.mg x = some (.ref C)) (bind : L2.Binds X.K fd ps []) (out : PassS CX X E)
    (ha : PA X (e :: es) t) (hdb : (x == ("__debug__" : Str)) = false := by decide) (one : starEach (e :: es) X.env = (false, eval e X.env) :: starEach es X.env := by rfl) (plain : (backTo pos (starEach es X.env)).any (·.1) = false := by rfl) :
    PE X (.Call (.Name x p) (e :: es) [] pos) (tMakeS C sp E t) :=
  ⟨fun pins s σ H _ I h => wpAny_Call_Name_kw (ld_glob I hg hm (PySem.W.callWith_K (h₀ := X.base) I.ok.mod.kin M.kp (thn (ha.run pos pins s σ H _ I h) fun _ _ ⟨_, _, I1, r, q⟩ => ⟨I1.kIn, run_makeS M F hgd room bind out I1 r q⟩) one plain) hdb)⟩
theorem pe_makeS0 (M : Mk X.K C f) (F : FnG X.prog X.w X.K X.mg X.base CX k f fd ps sp) (hgd : X.A.guards = some []) (room : Room (k + 1) X.A) (hg : Gl X x) (hm : X.mg x = some (.ref C)) (bind : L2.Binds X.K fd ps []) (out : PassS CX X E) (hdb : (x == ("__debug__" : Str)) = false := by decide) :
    PE X (.Call (.Name x p) [] [] pos) (tMakeS C sp E tNil) :=
  ⟨fun pins s σ H _ I h => wpAny_Call_Name_kw (ld_glob I hg hm (PySem.W.callWith_K0 I.kIn M.kp (run_makeS M F hgd room bind out I .nil h)) hdb)⟩
end
/-- what it takes to call a method -/
structure CalM (X : Cx) (c : Cc) (i : Nat) (m : Str) (k : Nat) (f : Addr) (fd : FuncData) (ps : List Str) (mf : MF) : Prop where
  F : FnG X.prog X.w X.K X.mg X.base (L2.CX X.prog X.w) k f fd ps (spM c ps.length mf)
  cls : Cls X.K (c.cl i)
  mth : Meth X.K (c.cl i) m f
  hb : L2.Binds X.K fd ps []
/-- .. to make an object -/
structure CalC (X : Cx) (c : Cc) (i : Nat) (x : Str) (k : Nat) (f : Addr) (fd : FuncData) (ps : List Str) (mf : MF) : Prop where
  F : FnG X.prog X.w X.K X.mg X.base (L2.CX X.prog X.w) k f fd ps (spM c ps.length mf)
  mak : Mk X.K (c.cl i) f
  hm : X.mg x = some (.ref (c.cl i))
  hb : L2.Binds X.K fd ps []
section
variable {X : Cx} {c : Cc} {E : SX} {e o : Expr} {es : List Expr} {pos p apos : Pos} {ms : MA} {mo : ME} {x m : Str} {k n i : Nat} {f : Addr} {fd : FuncData} {ps : List Str} {mf : MF}
theorem s_meth (σ : L2.St) (H : Hp) (Q : VK) : tM c E (mMeth i m n mf mo ms) σ H Q → tMethS (c.cl i) m (spM c n mf) E (tM c E mo) (tMA c E ms) σ H Q := fun ⟨S, ι, mem, sl, s, q, w⟩ =>
  run1 (RR := rD c) s q w fun v d ι1 m1 H1 s1 f1 r1 p1 => by
    split at p1
    · rename_i k' fs hi
      cases hc : Nat.beq k' i && (fs.lookup m).isNone with
      | false =>
        rw [hc] at p1
        exact p1.elim
      | true =>
        rw [hc] at p1
        obtain ⟨hc1, hc2⟩ := Bool.and_eq_true_iff.mp hc
        cases Nat.eq_of_beq_eq_true hc1
        obtain ⟨a, dx, ws, rfl, ha, rf⟩ := insOf_ok s1 r1 hi
        refine ⟨a, dx, ws, rfl, ha, rf.none (Option.isNone_iff_eq_none.mp hc2), run1 (RR := rA c) s1 (q.fr f1) p1 fun vs ds ι2 m2 H2 s2 f2 r2 p2 => ?_⟩
        split at p2
        · rename_i hn
          exact ⟨S, ι2, m2, d :: ds, s2, .cons (r1.up f2.e f2.p) r2, hn, p2⟩
        · exact p2.elim
    · exact p1.elim
theorem s_make (σ : L2.St) (H : Hp) (Q : VK) : tM c E (mMake i n mf ms) σ H Q → tMakeS (c.cl i) (spM c n mf) E (tMA c E ms) σ H Q := fun ⟨S, ι, mem, sl, s, q, w⟩ =>
  run1 (RR := rA c) s q w fun vs ds ι1 m1 H1 s1 f1 r1 p1 x dx nx ndx ne => by
    split at p1
    · rename_i hn
      obtain ⟨s2, f2, _⟩ := s1.new (o := .own x) ndx (fun _ z => nomatch z)
      have nx2 : (upd H1 dx (.own x)) x = none := by
        rw [upd_ne (Ne.symm ne)]
        exact nx
      obtain ⟨s3, f3⟩ := s2.alloc (o := .ins i []) (O := .ins (c.cl i) dx []) nx2 (.ins .nil)
      have fr := f2.trans f3
      have hx : (ι1 ++ [x])[m1.length]? = some x := by
        rw [← s1.len, List.getElem?_append_right (Nat.le_refl _), Nat.sub_self]
        rfl
      refine ⟨S, ι1 ++ [x], m1 ++ [.ins i []], .ref m1.length :: ds, s3, ?_, hn, ?_⟩
      · exact .cons (.ref hx) (r1.up fr.e fr.p)
      · have p2 := p1.from fr
        cases hg : mf (.ref m1.length :: ds) (m1 ++ [.ins i []]) with
        | no =>
          rw [hg] at p2
          exact p2.elim
        | exc k0 fs m2 =>
          rw [hg] at p2
          exact p2
        | ok d m2 =>
          rw [hg] at p2
          dsimp only [R.bind] at p2
          cases d <;> try exact p2.elim
          intro v ι' H' s' f' r'
          cases r'
          exact ⟨rfl, p2 _ ι' H' s' f' (.ref (pre_get f'.p hx))⟩
    · exact p1.elim
theorem m_meth {pl : Sem Bool} (C : CalM X c i m k f fd ps mf) (hgd : X.A.guards = some []) (hr : Room k X.A) (hx : PassS (L2.CX X.prog X.w) X E) (ho : PE X o (tM c E mo)) (ha : PA X (e :: es) (tMA c E ms))
    (one : starEach (e :: es) X.env = (false, eval e X.env) :: starEach es X.env := by rfl) (plain : (backTo pos (starEach es X.env)).any (·.1) = false := by rfl)
    (way : eval (.Call (.Attribute o m apos) (e :: es) [] pos) X.env = (eval o X.env >>= fun ov => standAt apos.atName >>= fun _ => holding [ov] (getMethod ov m pl) >>= fun b => callWith pos b.1 b.2 (backTo pos (starEach (e :: es) X.env)) (backToKw pos (keywordEach [] X.env))) := by rfl) :
    PE X (.Call (.Attribute o m apos) (e :: es) [] pos) (tM c E (mMeth i m ps.length mf mo ms)) := (pe_methS ho C.cls C.mth C.F hgd hr C.hb hx ha one plain way).weak s_meth
theorem m_meth0 {pl : Sem Bool} (C : CalM X c i m k f fd ps mf) (hgd : X.A.guards = some []) (hr : Room k X.A) (hx : PassS (L2.CX X.prog X.w) X E) (ho : PE X o (tM c E mo))
    (way : eval (.Call (.Attribute o m apos) [] [] pos) X.env = (eval o X.env >>= fun ov => standAt apos.atName >>= fun _ => holding [ov] (getMethod ov m pl) >>= fun b => callWith pos b.1 b.2 (backTo pos (starEach [] X.env)) (backToKw pos (keywordEach [] X.env))) := by rfl) :
    PE X (.Call (.Attribute o m apos) [] [] pos) (tM c E (mMeth i m ps.length mf mo mNil)) := (pe_methS0 ho C.cls C.mth C.F hgd hr C.hb hx way).weak fun σ H Q h => by
  obtain ⟨S, ι, mem, sl, s, q, w⟩ := h
  refine run1 (RR := rD c) s q w fun v d ι1 m1 H1 s1 f1 r1 p1 => ?_
  split at p1
  · rename_i k' fs hi
    cases hc : Nat.beq k' i && (fs.lookup m).isNone with
    | false =>
      rw [hc] at p1
      exact p1.elim
    | true =>
      rw [hc] at p1
      obtain ⟨hc1, hc2⟩ := Bool.and_eq_true_iff.mp hc
      cases Nat.eq_of_beq_eq_true hc1
      obtain ⟨a, dx, ws, rfl, ha, rf⟩ := insOf_ok s1 r1 hi
      refine ⟨a, dx, ws, rfl, ha, rf.none (Option.isNone_iff_eq_none.mp hc2), ?_⟩
      have p2 : Post c (E σ) S ι1 H1 (rD c) (if ([] : List D).length + 1 = ps.length then mf [d] m1 else .no) Q := p1
      split at p2
      · rename_i hn
        exact ⟨S, ι1, m1, [d], s1, .cons r1 .nil, hn, p2⟩
      · exact p2.elim
  · exact p1.elim
theorem m_make (C : CalC X c i x k f fd ps mf) (hgd : X.A.guards = some []) (hr : Room (k + 1) X.A) (hg : Gl X x) (hx : PassS (L2.CX X.prog X.w) X E) (ha : PA X (e :: es) (tMA c E ms))
    (hdb : (x == ("__debug__" : Str)) = false := by decide) (one : starEach (e :: es) X.env = (false, eval e X.env) :: starEach es X.env := by rfl) (plain : (backTo pos (starEach es X.env)).any (·.1) = false := by rfl) :
    PE X (.Call (.Name x p) (e :: es) [] pos) (tM c E (mMake i ps.length mf ms)) := (pe_makeS C.mak C.F hgd hr hg C.hm C.hb hx ha hdb one plain).weak s_make
end
end Mi
end
section
set_option Elab.async false
set_option linter.all false
set_option maxRecDepth 100000
set_option maxHeartbeats 4000000
/-! a def that keeps its memory to itself: it runs in a memory of its own, and what it gives changes no more -/
namespace Mi
open PySem PySem.Spec PyProof.Rows L2 Evl MeV MeG
/-- the caller's things are hidden, and stay as they are -/
def keepW (S : Wv) (ι : List Addr) (H0 : Hp) : Wv where
  vw H a := if a ∈ ι then none else S.vw H a
  I H := S.I H ∧ ∀ a ∈ ι, ∃ O, Pl O ∧ S.vw H0 a = some O ∧ S.vw H a = some O
  sub H a o h := by
    dsimp only at h
    split at h
    · cases h
    · exact S.sub H a o h
  up := fun {H H'} i e => by
    obtain ⟨i1, e1⟩ := S.up i.1 e
    refine ⟨⟨i1, fun a ha => ?_⟩, fun a o h => ?_⟩
    · obtain ⟨O, h0, h1, h2⟩ := i.2 a ha
      exact ⟨O, h0, h1, e1 _ _ h2⟩
    · dsimp only at h ⊢
      split at h
      · cases h
      · rename_i n
        rw [if_neg n]
        exact e1 _ _ h
  see := fun {H H' q o} i n e h k => by
    have nq : q ∉ ι := fun z => by
      obtain ⟨O, _, _, h2⟩ := i.2 q z
      rw [S.sub _ _ _ h2] at n
      cases n
    rw [if_neg nq]
    exact S.see i.1 n e h k
  chg := fun {H q o o'} i h p p' => by
    split at h
    · cases h
    · rename_i nq
      obtain ⟨i1, v1⟩ := S.chg i.1 h p p'
      refine ⟨⟨i1, fun a ha => ?_⟩, ?_⟩
      · obtain ⟨O, h0, h1, h2⟩ := i.2 a ha
        refine ⟨O, h0, h1, ?_⟩
        rw [v1, upd_ne fun z => nq (by rw [← z]; exact ha)]
        exact h2
      · funext a
        by_cases ha : a ∈ ι
        · rw [if_pos ha, upd_ne fun z => nq (by rw [← z]; exact ha), if_pos ha]
        · rw [if_neg ha, v1]
          by_cases hq : a = q
          · rw [hq, upd_same, upd_same]
          · rw [upd_ne hq, upd_ne hq, if_neg ha]
theorem _root_.MeV.HasTab.keep {S : Wv} {ι : List Addr} {H0 : Hp} {T : List (Addr × Str)} (ht : HasTab S T) : HasTab (keepW S ι H0) T where
  tab := fun H i => ht.tab H i.1
  step := fun H H1 i e t => by
    obtain ⟨k1, k2⟩ := ht.step H H1 i.1 e t
    refine ⟨⟨k1, fun a ha => ?_⟩, fun a o h => ?_⟩
    · obtain ⟨O, h0, h1, h2⟩ := i.2 a ha
      exact ⟨O, h0, h1, k2 _ _ h2⟩
    · have h' : (if a ∈ ι then none else S.vw H a) = some o := h
      show (if a ∈ ι then none else S.vw H1 a) = some o
      split at h'
      · cases h'
      · rename_i n
        rw [if_neg n]
        exact k2 _ _ h'
  see := fun H H1 q o i e n h k => by
    have nq : q ∉ ι := fun z => by
      obtain ⟨O, _, _, h2⟩ := i.2 q z
      rw [S.sub _ _ _ h2] at n
      cases n
    show (if q ∈ ι then none else S.vw H1 q) = some o
    rw [if_neg nq]
    exact ht.see H H1 q o i.1 e n h k
  code := fun H c s i h => by
    have nc : c ∉ ι := fun z => by
      obtain ⟨O, h0, _, h2⟩ := i.2 c z
      have := S.sub _ _ _ h2
      rw [h] at this
      exact h0.2 _ _ (Option.some.inj this).symm
    show (if c ∈ ι then none else S.vw H c) = some _
    rw [if_neg nc]
    exact ht.code H c s i.1 h
def optL {α β : Type} (f : α → Option β) : List α → Option (List β)
  | [] => some []
  | a :: r => (f a).bind fun b => (optL f r).map (b :: ·)
def frzK (f : D → Option D) (p : D × D) : Option (D × D) := (f p.1).bind fun k => if key8 k = key8 p.1 then (f p.2).map (k, ·) else none
/-- what changes no more, from what may change; refs are followed -/
def frz (m : Mem) : Nat → D → Option D
  | 0, _ => none
  | n + 1, d => match d with
    | .tup ds => (optL (frz m n) ds).map .tup
    | .lst ds => (optL (frz m n) ds).map .lst
    | .scr ds => (optL (frz m n) ds).map .scr
    | .dic kvs => (optL (frzK (frz m n)) kvs).map .dic
    | .obj k fs => (optL (fun p => (frz m n p.2).map (p.1, ·)) fs).map (.obj k)
    | .ref i => match m[i]? with
      | some (.lst ds) => (optL (frz m n) ds).map .lst
      | some (.dic _ kvs) => (optL (frzK (frz m n)) kvs).map .dic
      | some (.ins k fs) => (optL (fun p => (frz m n p.2).map (p.1, ·)) fs).map (.obj k)
      | none => none
    | .non => some .non
    | .bl b => some (.bl b)
    | .int i => some (.int i)
    | .str x => some (.str x)
    | .ty x => some (.ty x)
    | .cls k => some (.cls k)
    | .err _ _ => none
    | .clo _ => none
section
variable {c : Cc} {h h' : Hp} {ι ι' : List Addr} {m : Mem} {f : D → Option D}
theorem fr_A (k : ∀ v d d', Rep c h ι v d → f d = some d' → Rep c h' ι' v d') : ∀ {vs : List V} {ds ds' : List D}, RepA c h ι vs ds → optL f ds = some ds' → RepA c h' ι' vs ds'
  | _, _, _, .nil, e => by
    cases e
    exact .nil
  | _, _, _, .cons a r, e => by
    obtain ⟨b, h1, h2⟩ := Option.bind_eq_some_iff.mp e
    obtain ⟨bs, h3, h4⟩ := Option.map_eq_some_iff.mp h2
    cases h4
    exact .cons (k _ _ _ a h1) (fr_A k r h3)
theorem fr_K (k : ∀ v d d', Rep c h ι v d → f d = some d' → Rep c h' ι' v d') : ∀ {vs : List MeD.EntV} {ds ds' : List (D × D)}, RepK c h ι vs ds → optL (frzK f) ds = some ds' → RepK c h' ι' vs ds'
  | _, _, _, .nil, e => by
    cases e
    exact .nil
  | _, _, _, .cons z q a r, e => by
    obtain ⟨b, h1, h2⟩ := Option.bind_eq_some_iff.mp e
    obtain ⟨bs, h3, h4⟩ := Option.map_eq_some_iff.mp h2
    obtain ⟨d', h5, h6⟩ := Option.bind_eq_some_iff.mp h1
    cases h4
    split at h6
    · rename_i hz
      obtain ⟨d2, h7, h8⟩ := Option.map_eq_some_iff.mp h6
      cases h8
      exact .cons (hz.trans z) (k _ _ _ q h5) (k _ _ _ a h7) (fr_K k r h3)
    · cases h6
theorem fr_F (k : ∀ v d d', Rep c h ι v d → f d = some d' → Rep c h' ι' v d') : ∀ {vs : List (Str × V)} {ds ds' : List (Str × D)}, RepF c h ι vs ds → optL (fun p => (f p.2).map (p.1, ·)) ds = some ds' → RepF c h' ι' vs ds'
  | _, _, _, .nil, e => by
    cases e
    exact .nil
  | _, _, _, .cons a r, e => by
    obtain ⟨b, h1, h2⟩ := Option.bind_eq_some_iff.mp e
    obtain ⟨bs, h3, h4⟩ := Option.map_eq_some_iff.mp h2
    obtain ⟨d', h5, h6⟩ := Option.map_eq_some_iff.mp h1
    cases h4
    cases h6
    exact .cons (k _ _ _ a h5) (fr_F k r h3)
/-- a frozen thing is shown wherever what it stood on is seen -/
theorem frz_ok (he : Ex h h') (hm : ∀ (n : Nat) (a : Addr) (o : MO), ι[n]? = some a → m[n]? = some o → ∃ O, h' a = some O ∧ RepO c h ι a o O) :
    ∀ (n : Nat) (v : V) (d d' : D), Rep c h ι v d → frz m n d = some d' → Rep c h' ι' v d'
  | 0, _, _, _, _, e => by cases e
  | n + 1, v, d, d', r, e => by
    have ih := frz_ok he hm n
    cases r with
    | non => cases e; exact .non
    | bl b => cases e; exact .bl b
    | int i => cases e; exact .int i
    | str x => cases e; exact .str x
    | ty x => cases e; exact .ty x
    | cls k => cases e; exact .cls k
    | err _ _ _ => cases e
    | clo _ _ _ => cases e
    | tup s q =>
      obtain ⟨ds, h1, h2⟩ := Option.map_eq_some_iff.mp e
      cases h2
      exact .tup (ex_t he s) (fr_A ih q h1)
    | lst s q =>
      obtain ⟨ds, h1, h2⟩ := Option.map_eq_some_iff.mp e
      cases h2
      exact .lst (he _ _ s) (fr_A ih q h1)
    | scr s q =>
      obtain ⟨ds, h1, h2⟩ := Option.map_eq_some_iff.mp e
      cases h2
      exact .scr (ex_l he s) (fr_A ih q h1)
    | dic s q =>
      obtain ⟨ds, h1, h2⟩ := Option.map_eq_some_iff.mp e
      cases h2
      exact .dic (he _ _ s) (fr_K ih q h1)
    | obj s q =>
      obtain ⟨ds, h1, h2⟩ := Option.map_eq_some_iff.mp e
      cases h2
      exact .obj (he _ _ s) (fr_F ih q h1)
    | ref hn =>
      rename_i i a
      have e' : (match m[i]? with
        | some (.lst ds) => (optL (frz m n) ds).map .lst
        | some (.dic _ kvs) => (optL (frzK (frz m n)) kvs).map .dic
        | some (.ins k fs) => (optL (fun p => (frz m n p.2).map (p.1, ·)) fs).map (.obj k)
        | none => none) = some d' := e
      cases hi : m[i]? with
      | none =>
        rw [hi] at e'
        cases e'
      | some o =>
        rw [hi] at e'
        obtain ⟨O, h1, h2⟩ := hm i a o hn hi
        cases h2 with
        | lst q =>
          obtain ⟨ds, h3, h4⟩ := Option.map_eq_some_iff.mp e'
          cases h4
          exact .lst h1 (fr_A ih q h3)
        | dic q =>
          obtain ⟨ds, h3, h4⟩ := Option.map_eq_some_iff.mp e'
          cases h4
          exact .dic h1 (fr_K ih q h3)
        | ins q =>
          obtain ⟨ds, h3, h4⟩ := Option.map_eq_some_iff.mp e'
          cases h4
          exact .obj h1 (fr_F ih q h3)
end
/-- the def, in a memory of its own -/
def pureF (n : Nat) (g : MF) : MF := fun ds mem => match optL (frz [] n) ds with
  | some ds' => match g ds' [] with
    | .ok d m => match frz m n d with
      | some d' => .ok d' mem
      | none => .no
    | .exc k fs m => match optL (fun p => (frz m n p.2).map (p.1, ·)) fs with
      | some fs' => .exc k fs' mem
      | none => .no
    | .no => .no
  | none => .no
section
variable {c : Cc} {n N : Nat} {g : MF} {vs : List V} {H : Hp} {Q : VK} {E : XK}
theorem fz_keep {S : Wv} {ι : List Addr} {H0 H : Hp} : fz (keepW S ι H0) [] H = fz S ι H := by
  funext a
  unfold fz
  rw [if_neg (List.not_mem_nil)]
  rfl
theorem fz_keep2 {S : Wv} {ι ι' : List Addr} {H0 H : Hp} : Ex (fz (keepW S ι H0) ι' H) (fz S ι H) := fun a o h => by
  obtain ⟨_, h2⟩ := of_fz h
  have h3 : (if a ∈ ι then none else S.vw H a) = some o := h2
  unfold fz
  exact h3
theorem optL_len {α β : Type} {f : α → Option β} : ∀ {as : List α} {bs : List β}, optL f as = some bs → bs.length = as.length
  | [], _, e => by
    cases e
    rfl
  | a :: r, _, e => by
    obtain ⟨b, h1, h2⟩ := Option.bind_eq_some_iff.mp e
    obtain ⟨bs, h3, h4⟩ := Option.map_eq_some_iff.mp h2
    cases h4
    exact congrArg (· + 1) (optL_len h3)
theorem spM_pure (hcap : c.L.cap = []) (h : spM c n (pureF N g) vs H Q E) : spM c n g vs H Q E := by
  obtain ⟨S, ι, mem, ds, s, r, l, p⟩ := h
  unfold pureF at p
  split at p
  · rename_i ds' hds
    have i0 : (keepW S ι H).I H := ⟨s.i, fun a ha => let ⟨O, h1, h0⟩ := s.has ha; ⟨O, h0, h1, h1⟩⟩
    have s0 : SR c (keepW S ι H) [] [] H := ⟨i0, List.nodup_nil, rfl, fun k a o e => (by cases e), fun p hp => (by rw [hcap] at hp; cases hp), fun T h => (s.tb T h).keep⟩
    have r0 : RepA c (fz (keepW S ι H) [] H) [] vs ds' := by
      rw [fz_keep]
      exact fr_A (frz_ok (m := []) (Ex.refl _) (fun k a o _ e => by cases e) N) r hds
    refine ⟨keepW S ι H, [], [], ds', s0, r0, (optL_len hds).trans l, ?_⟩
    have back : ∀ {ι' m' H'}, SR c (keepW S ι H) ι' m' H' → Fr (keepW S ι H) [] H ι' H' → SR c S ι mem H' ∧ Fr S ι H ι H' := fun {ι' m' H'} s' f' => by
      have e1 : Ex (fz S ι H) (fz S ι H') := by
        have := f'.e
        rw [fz_keep] at this
        exact this.trans fz_keep2
      refine ⟨⟨s'.i.1, s.nd, s.len, fun k a o h1 h2 => ?_, fun p hp => (s.cap p hp).up e1 (List.prefix_refl _), s.tb⟩, ⟨List.prefix_refl _, e1⟩⟩
      obtain ⟨O, h3, h4⟩ := s.at_ k a o h1 h2
      obtain ⟨O', _, h5, h6⟩ := s'.i.2 a (List.mem_of_getElem? h1)
      rw [h3] at h5
      cases h5
      exact ⟨O, h6, h4.up e1 (List.prefix_refl _)⟩
    have see : ∀ {ι' m' H'}, SR c (keepW S ι H) ι' m' H' → ∀ (n : Nat) (a : Addr) (o : MO), ι'[n]? = some a → m'[n]? = some o → ∃ O, fz S ι H' a = some O ∧ RepO c (fz (keepW S ι H) ι' H') ι' a o O := fun {ι' m' H'} s' k a o h1 h2 => by
      obtain ⟨O, h3, h4⟩ := s'.at_ k a o h1 h2
      exact ⟨O, h3, h4⟩
    cases hg : g ds' [] with
    | no =>
      rw [hg] at p
      exact p.elim
    | ok d m =>
      rw [hg] at p
      dsimp only at p
      split at p
      · rename_i d' hd
        intro v ι' H' s' f' r'
        obtain ⟨s2, f2⟩ := back s' f'
        exact p v ι H' s2 f2 (frz_ok fz_keep2 (see s') N _ _ _ r' hd)
      · exact p.elim
    | exc k fs m =>
      rw [hg] at p
      dsimp only at p
      split at p
      · rename_i fs' hd
        intro x ws ι' H' s' f' hx r'
        obtain ⟨s2, f2⟩ := back s' f'
        exact p x ws ι H' s2 f2 (fz_keep2 _ _ hx) (fr_F (frz_ok fz_keep2 (see s') N) r' hd)
      · exact p.elim
  · exact p.elim
theorem fn_pure {P : Program} {w : World} {K : PySem.W.Frag} {mg : Str → Option Value} {base : Heap} {k : Nat} {f : Addr} {fd : FuncData} {ps : List Str} (N : Nat) (hcap : c.L.cap = []) (F : FnG P w K mg base (L2.CX P w) k f fd ps (spM c n g)) : FnG P w K mg base (L2.CX P w) k f fd ps (spM c n (pureF N g)) :=
  ⟨fun vs H Q E h => F.len vs H Q E (spM_pure hcap h), fun A outer s H args us vs Q E gd r e b v h => F.run A outer s H args us vs Q E gd r e b v (spM_pure hcap h)⟩
end
end Mi
end
section
set_option Elab.async false
set_option linter.all false
set_option maxRecDepth 100000
set_option maxHeartbeats 4000000
/-! an expression that is read in a memory of its own -/
namespace Mi
open PySem PySem.Spec PyProof.Rows L2 Evl MeV MeG
/-- its end, told outside -/
def outR (N : Nat) (mem : Mem) : R D → R D
  | .ok d m => match frz m N d with
    | some d' => .ok d' mem
    | none => .no
  | .exc k fs m => match optL (fun p => (frz m N p.2).map (p.1, ·)) fs with
    | some fs' => .exc k fs' mem
    | none => .no
  | .no => .no
def slF (m : Mem) (N : Nat) (sl : Sl) : Sl := sl.map fun o => o.bind (frz m N)
/-- nothing of the memory goes in -/
def pureE (N : Nat) (x : ME) : ME := fun sl m => outR N m (x (slF [] N sl) [])
/-- what stands on atoms and tuples alone -/
def flat : Nat → D → Bool
  | 0, _ => false
  | n + 1, d => match d with
    | .tup ds => ds.all (flat n)
    | .non => true
    | .bl _ => true
    | .int _ => true
    | .str _ => true
    | .ty _ => true
    | _ => false
def outB (N : Nat) (mem : Mem) : R D → R D
  | .ok d _ => bif flat N d then .ok d mem else .no
  | .exc k fs _ => bif fs.all fun p => flat N p.2 then .exc k fs mem else .no
  | .no => .no
/-- the memory goes in, to be read alone; an atom or a tuple comes out -/
def lendE (N : Nat) (x : ME) : ME := fun sl m => outB N m (x (slF m N sl) [])
section
variable {c : Cc} {E : XK} {S : Wv} {ι : List Addr} {mem : Mem} {H : Hp} {Q : VK} {N : Nat} {σ : L2.St} {sl : Sl}
theorem keep_sr (hcap : c.L.cap = []) (s : SR c S ι mem H) : SR c (keepW S ι H) [] [] H := ⟨⟨s.i, fun a ha => let ⟨O, h1, h0⟩ := s.has ha; ⟨O, h0, h1, h1⟩⟩, List.nodup_nil, rfl, fun k a o e => (by cases e), fun p hp => (by rw [hcap] at hp; cases hp), fun T h => (s.tb T h).keep⟩
theorem keep_back (s : SR c S ι mem H) {ι' : List Addr} {m' : Mem} {H' : Hp} (s' : SR c (keepW S ι H) ι' m' H') (f' : Fr (keepW S ι H) [] H ι' H') : SR c S ι mem H' ∧ Fr S ι H ι H' := by
  have e1 : Ex (fz S ι H) (fz S ι H') := by
    have := f'.e
    rw [fz_keep] at this
    exact this.trans fz_keep2
  refine ⟨⟨s'.i.1, s.nd, s.len, fun k a o h1 h2 => ?_, fun p hp => (s.cap p hp).up e1 (List.prefix_refl _), s.tb⟩, ⟨List.prefix_refl _, e1⟩⟩
  obtain ⟨O, h3, h4⟩ := s.at_ k a o h1 h2
  obtain ⟨O', _, h5, h6⟩ := s'.i.2 a (List.mem_of_getElem? h1)
  rw [h3] at h5
  cases h5
  exact ⟨O, h6, h4.up e1 (List.prefix_refl _)⟩
theorem out_post (s : SR c S ι mem H) {r : R D} (p : Post c E S ι H (rD c) (outR N mem r) Q) : Post c E (keepW S ι H) [] H (rD c) r Q := by
  cases r with
  | no => exact p.elim
  | ok d m =>
    unfold outR at p
    dsimp only at p
    split at p
    · rename_i d' hd
      intro v ι' H' s' f' r'
      obtain ⟨s2, f2⟩ := keep_back s s' f'
      exact p v ι H' s2 f2 (frz_ok fz_keep2 (fun k a o h1 h2 => s'.at_ k a o h1 h2) N _ _ _ r' hd)
    · exact p.elim
  | exc k fs m =>
    unfold outR at p
    dsimp only at p
    split at p
    · rename_i fs' hd
      intro x ws ι' H' s' f' hx r'
      obtain ⟨s2, f2⟩ := keep_back s s' f'
      exact p x ws ι H' s2 f2 (fz_keep2 _ _ hx) (fr_F (frz_ok fz_keep2 (fun k a o h1 h2 => s'.at_ k a o h1 h2) N) r' hd)
    · exact p.elim
theorem slF_ok {m : Mem} {h h' : Hp} {ι' : List Addr} (k : ∀ v d d', Rep c h ι v d → frz m N d = some d' → Rep c h' ι' v d') (q : RepSl c h ι σ sl) : RepSl c h' ι' σ (slF m N sl) := by
  refine ⟨by unfold slF; rw [List.length_map]; exact q.len, fun i d' e => ?_⟩
  unfold slF at e
  rw [List.getElem?_map] at e
  obtain ⟨o, h1, h2⟩ := Option.map_eq_some_iff.mp e
  obtain ⟨d, h3, h4⟩ := Option.bind_eq_some_iff.mp h2
  subst h3
  obtain ⟨v, h5, h6⟩ := q.at_ i d h1
  exact ⟨v, h5, k v d d' h6 h4⟩
theorem s_pure {E : SX} {x : ME} (hcap : c.L.cap = []) (σ : L2.St) (H : Hp) (Q : VK) : tM c E (pureE N x) σ H Q → tM c E x σ H Q := fun ⟨S, ι, mem, sl, s, q, p⟩ => by
  refine ⟨keepW S ι H, [], [], slF [] N sl, keep_sr hcap s, ?_, out_post s p⟩
  rw [fz_keep]
  exact slF_ok (frz_ok (m := []) (Ex.refl _) (fun k a o _ e => by cases e) N) q
theorem flat_ok {h h' : Hp} {ι ι' : List Addr} (ht : ∀ a xs, SqT c.K h a xs → SqT c.K h' a xs) : ∀ (n : Nat) (v : V) (d : D), Rep c h ι v d → flat n d = true → Rep c h' ι' v d
  | 0, _, _, _, e => by cases e
  | n + 1, v, d, r, e => by
    have ih := flat_ok (ι := ι) (ι' := ι') ht n
    have all : ∀ {vs : List V} {ds : List D}, RepA c h ι vs ds → ds.all (flat n) = true → RepA c h' ι' vs ds := fun {vs ds} r => by
      intro e
      induction vs generalizing ds with
      | nil =>
        cases r
        exact .nil
      | cons v vs ihv =>
        cases r with
        | cons a k =>
          obtain ⟨e1, e2⟩ := Bool.and_eq_true_iff.mp (show (flat n _ && List.all _ (flat n)) = true from e)
          exact .cons (ih _ _ a e1) (ihv k e2)
    cases r with
    | non => exact .non
    | bl b => exact .bl b
    | int i => exact .int i
    | str x => exact .str x
    | ty x => exact .ty x
    | tup s q => exact .tup (ht _ _ s) (all q e)
    | lst s q => cases e
    | scr s q => cases e
    | dic s q => cases e
    | obj s q => cases e
    | cls k => cases e
    | err _ _ _ => cases e
    | clo _ _ _ => cases e
    | ref s => cases e
theorem flat_F {h h' : Hp} {ι ι' : List Addr} (ht : ∀ a xs, SqT c.K h a xs → SqT c.K h' a xs) (n : Nat) : ∀ {vs : List (Str × V)} {ds : List (Str × D)}, RepF c h ι vs ds → (ds.all fun p => flat n p.2) = true → RepF c h' ι' vs ds
  | _, _, .nil, _ => .nil
  | _, _, .cons a r, e => by
    obtain ⟨e1, e2⟩ := Bool.and_eq_true_iff.mp (show (flat n _ && List.all _ fun p : Str × D => flat n p.2) = true from e)
    exact .cons (flat_ok ht n _ _ a e1) (flat_F ht n r e2)
theorem lend_back (s : SR c S ι mem H) {ι' : List Addr} {m' : Mem} {H' : Hp} (s' : SR c S ι' m' H') (f' : Fr S [] H ι' H') : SR c S ι mem H' ∧ Fr S ι H ι H' := by
  have e0 : ∀ a o, S.vw H a = some o → S.vw H' a = some o := fun a o h => (of_fz (f'.e a o (fz_of (List.not_mem_nil) h))).2
  have e1 : Ex (fz S ι H) (fz S ι H') := fun a o h => fz_of (of_fz h).1 (e0 _ _ (of_fz h).2)
  refine ⟨⟨s'.i, s.nd, s.len, fun k a o h1 h2 => ?_, fun p hp => (s.cap p hp).up e1 (List.prefix_refl _), s.tb⟩, ⟨List.prefix_refl _, e1⟩⟩
  obtain ⟨O, h3, h4⟩ := s.at_ k a o h1 h2
  exact ⟨O, e0 _ _ h3, h4.up e1 (List.prefix_refl _)⟩
/-- what is no list, dict or object is none of the memory -/
theorem not_mem {ι' : List Addr} {a : Addr} {O : HO} (s : SR c S ι mem H) (h : fz S ι' H a = some O) (n1 : ∀ xs, O ≠ .lst xs) (n2 : ∀ ep xs, O ≠ MeD.DicO c.w a ep xs) (n3 : ∀ C dx fs, O ≠ .ins C dx fs) : fz S ι H a = some O := by
  obtain ⟨_, h2⟩ := of_fz h
  refine fz_of (fun ha => ?_) h2
  obtain ⟨n, hn, e⟩ := List.getElem_of_mem ha
  have hm : n < mem.length := by
    rw [← s.len]
    exact hn
  obtain ⟨O', h3, h4⟩ := s.at_ n a mem[n] (by rw [List.getElem?_eq_getElem hn, e]) (List.getElem?_eq_getElem hm)
  rw [h2] at h3
  cases h3
  generalize mem[n] = o at h4
  cases h4 with
  | lst => exact n1 _ rfl
  | dic => exact n2 _ _ rfl
  | ins => exact n3 _ _ _ rfl
theorem lend_t {ι' : List Addr} (s : SR c S ι mem H) : ∀ a xs, SqT c.K (fz S ι' H) a xs → SqT c.K (fz S ι H) a xs := fun a xs h => by
  rcases h with h | h
  · refine Or.inl ?_
    rcases h with h | ⟨o, h⟩
    · exact Or.inl (not_mem s h (fun _ z => nomatch z) (fun _ _ z => (by unfold MeD.DicO at z; cases z)) (fun _ _ _ z => nomatch z))
    · exact Or.inr ⟨o, not_mem s h (fun _ z => nomatch z) (fun _ _ z => (by unfold MeD.DicO at z; cases z)) (fun _ _ _ z => nomatch z)⟩
  · exact Or.inr h
theorem lend_post (s : SR c S ι mem H) {r : R D} (p : Post c E S ι H (rD c) (outB N mem r) Q) : Post c E S [] H (rD c) r Q := by
  cases r with
  | no => exact p.elim
  | ok d m =>
    unfold outB at p
    dsimp only at p
    cases hf : flat N d with
    | false =>
      rw [hf] at p
      exact p.elim
    | true =>
      rw [hf] at p
      intro v ι' H' s' f' r'
      obtain ⟨s2, f2⟩ := lend_back s s' f'
      exact p v ι H' s2 f2 (flat_ok (lend_t s2) N _ _ r' hf)
  | exc k fs m =>
    unfold outB at p
    dsimp only at p
    cases hf : fs.all fun p => flat N p.2 with
    | false =>
      rw [hf] at p
      exact p.elim
    | true =>
      rw [hf] at p
      intro x ws ι' H' s' f' hx r'
      obtain ⟨s2, f2⟩ := lend_back s s' f'
      exact p x ws ι H' s2 f2 (not_mem s2 hx (fun _ z => nomatch z) (fun _ _ z => (by unfold MeD.DicO at z; cases z)) (fun _ _ _ z => nomatch z)) (flat_F (lend_t s2) N r' hf)
theorem s_lend {E : SX} {x : ME} (hcap : c.L.cap = []) (σ : L2.St) (H : Hp) (Q : VK) : tM c E (lendE N x) σ H Q → tM c E x σ H Q := fun ⟨S, ι, mem, sl, s, q, p⟩ => by
  refine ⟨S, [], [], slF mem N sl, ⟨s.i, List.nodup_nil, rfl, fun k a o e => (by cases e), fun p hp => (by rw [hcap] at hp; cases hp), s.tb⟩, ?_, lend_post s p⟩
  refine slF_ok (frz_ok (fun a o h => fz_of (List.not_mem_nil) (of_fz h).2) (fun k a o h1 h2 => ?_) N) q
  obtain ⟨O, h3, h4⟩ := s.at_ k a o h1 h2
  exact ⟨O, fz_of (List.not_mem_nil) h3, h4⟩
end
section
variable {X : Cx} {c : Cc} {E : SX} {e : Expr} {x : ME}
theorem m_pure (N : Nat) (hcap : c.L.cap = []) (h : PE X e (tM c E x)) : PE X e (tM c E (pureE N x)) := h.weak (s_pure hcap)
theorem m_lend (N : Nat) (hcap : c.L.cap = []) (h : PE X e (tM c E x)) : PE X e (tM c E (lendE N x)) := h.weak (s_lend hcap)
end
end Mi
end
section
set_option Elab.async false
set_option linter.all false
set_option maxRecDepth 100000
set_option maxHeartbeats 4000000
/-! methods of lists -/
namespace Mi
open PySem PySem.Spec PyProof.Rows L2 Evl MeV MeG
/-- is it a list? -/
def isL (m : Mem) : D → Bool
  | .lst _ => true
  | .scr _ => true
  | .ref n => match m[n]? with
    | some (.lst _) => true
    | _ => false
  | _ => false
def SimM (c : Cc) (r : V → List V → Hp → VK → Prop) (g : D → List D → Mem → R D) : Prop := ∀ (E : XK) (S : Wv) (ι : List Addr) (mem : Mem) (H : Hp) (x : V) (xs : List V) (d : D) (ds : List D) (Q : VK),
  SR c S ι mem H → Rep c (fz S ι H) ι x d → RepA c (fz S ι H) ι xs ds → Post c E S ι H (rD c) (g d ds mem) Q → r x xs H Q
def mBM (ok : Mem → D → Bool) (g : D → List D → Mem → R D) (o : ME) (r : MA) : ME := fun sl m => (o sl m).bind fun d m1 => bif ok m1 d then (r sl m1).bind fun ds m2 => g d ds m2 else .no
theorem isL_ok {c : Cc} {S : Wv} {ι : List Addr} {m : Mem} {H : Hp} {x : V} {d : D} (s : SR c S ι m H) (r : Rep c (fz S ι H) ι x d) (e : isL m d = true) : tyV c.K "list" x H := by
  cases r <;> try (cases e; done)
  · rename_i n a hn
    have e' : (match m[n]? with
      | some (.lst _) => true
      | _ => false) = true := e
    split at e'
    · rename_i ds hm
      obtain ⟨O, h1, h2⟩ := s.at_ n a _ hn hm
      cases h2 with
      | lst q => exact Or.inl ⟨rfl, _, Or.inl (Or.inl (S.sub _ _ _ h1))⟩
    · cases e'
  · rename_i h q
    exact Or.inl ⟨rfl, _, Or.inl (Or.inl (fz_sub _ _ h))⟩
  · rename_i h q
    exact Or.inl ⟨rfl, _, ex_l fz_sub h⟩
section
variable {X : Cx} {c : Cc} {E : SX} {e o : Expr} {es : List Expr} {x : ME} {ms : MA} {T : String} {r : V → List V → Hp → VK → Prop} {g : D → List D → Mem → R D} {ok : Mem → D → Bool}
theorem m_bm (h : PE X e (tBM c.K T r (tM c E x) (tMA c E ms))) (hk : ∀ {S ι m H v d}, SR c S ι m H → Rep c (fz S ι H) ι v d → ok m d = true → tyV c.K T v H) (sim : SimM c r g) : PE X e (tM c E (mBM ok g x ms)) :=
  h.weak fun σ H Q ⟨S, ι, mem, sl, s, q, p⟩ => run1 (RR := rD c) s q p fun v d ι1 m1 H1 s1 f1 r1 p1 => by
    cases hc : ok m1 d with
    | false =>
      rw [hc] at p1
      exact p1.elim
    | true =>
      rw [hc] at p1
      exact ⟨hk s1 r1 hc, run1 (RR := rA c) s1 (q.fr f1) p1 fun vs ds ι2 m2 H2 s2 f2 r2 p2 => sim (E σ) S ι2 m2 H2 v vs d ds Q s2 (r1.up f2.e f2.p) r2 p2⟩
theorem m_bm0 (h : PE X e (tBM0 c.K T r (tM c E x))) (hk : ∀ {S ι m H v d}, SR c S ι m H → Rep c (fz S ι H) ι v d → ok m d = true → tyV c.K T v H) (sim : SimM c r g) : PE X e (tM c E (mBM ok g x mNil)) :=
  h.weak fun σ H Q ⟨S, ι, mem, sl, s, q, p⟩ => run1 (RR := rD c) s q p fun v d ι1 m1 H1 s1 f1 r1 p1 => by
    cases hc : ok m1 d with
    | false =>
      rw [hc] at p1
      exact p1.elim
    | true =>
      rw [hc] at p1
      exact ⟨hk s1 r1 hc, sim (E σ) S ι1 m1 H1 v [] d [] Q s1 r1 .nil p1⟩
end
/-- a list of the memory is made anew -/
def onL (d : D) (m : Mem) (k : List D → Option (D × List D)) : R D := match d with
  | .ref n => match m[n]? with
    | some (.lst xs) => match k xs with
      | some (v, ys) => .ok v (m.set n (.lst ys))
      | none => .no
    | _ => .no
  | _ => .no
section
variable {c : Cc} {E : XK} {S : Wv} {ι : List Addr} {mem : Mem} {H : Hp} {x : V} {d : D} {Q : VK} {k : List D → Option (D × List D)}
theorem onL_ok (s : SR c S ι mem H) (r : Rep c (fz S ι H) ι x d) (p : Post c E S ι H (rD c) (onL d mem k) Q) :
    ∃ a xs ds v ys, x = .ref a ∧ H a = some (.lst xs) ∧ RepA c (fz S ι H) ι xs ds ∧ k ds = some (v, ys) ∧ ∀ u us, Rep c (fz S ι H) ι u v → RepA c (fz S ι H) ι us ys → Q u (upd H a (.lst us)) := by
  unfold onL at p
  cases r <;> try exact p.elim
  rename_i n a hn
  dsimp only at p
  cases hm : mem[n]? with
  | none =>
    rw [hm] at p
    exact p.elim
  | some o =>
    rw [hm] at p
    cases o <;> try exact p.elim
    rename_i ds
    dsimp only at p
    cases hk : k ds with
    | none =>
      rw [hk] at p
      exact p.elim
    | some w =>
      rw [hk] at p
      obtain ⟨O, h1, h2⟩ := s.at_ n a _ hn hm
      cases h2 with
      | lst q =>
        refine ⟨a, _, ds, w.1, w.2, rfl, S.sub _ _ _ h1, q, hk, fun u us ru rus => ?_⟩
        obtain ⟨s2, f2⟩ := s.set (o := .lst w.2) (O := .lst us) hn (.lst rus)
        exact p u ι _ s2 f2 (ru.up f2.e f2.p)
end
def gAppend : D → List D → Mem → R D := fun d ds m => match ds with
  | [y] => onL d m fun xs => bif Nat.blt xs.length 100000 then some (.non, xs ++ [y]) else none
  | _ => .no
def gPop : D → List D → Mem → R D := fun d ds m => match ds with
  | [] => onL d m fun xs => match xs[xs.length - 1]? with
    | some y => some (y, xs.dropLast)
    | none => none
  | _ => .no
section
variable {c : Cc}
theorem RepA.dropLast {h : Hp} {ι : List Addr} : ∀ {vs : List V} {ds : List D}, RepA c h ι vs ds → RepA c h ι vs.dropLast ds.dropLast
  | _, _, .nil => .nil
  | _, _, .cons a .nil => .nil
  | _, _, .cons a (.cons b r) => .cons a (RepA.dropLast (.cons b r))
theorem sim_append : SimM c rAppend gAppend := fun E S ι mem H x xs d ds Q s r ra p => by
  unfold gAppend at p
  cases ra with
  | nil => exact p.elim
  | cons a ra =>
    cases ra with
    | cons _ _ => exact p.elim
    | nil =>
      obtain ⟨l, vs, es, v, ys, rfl, hl, q, hk, go⟩ := onL_ok s r p
      cases hb : Nat.blt es.length 100000 with
      | false =>
        rw [hb] at hk
        cases hk
      | true =>
        rw [hb] at hk
        cases hk
        refine ⟨l, vs, _, rfl, rfl, hl, ?_, go _ _ .non (q.app (.cons a .nil))⟩
        rw [q.len]
        exact sz_lt (Nat.ble_eq.mp hb)
theorem sim_pop : SimM c rPop gPop := fun E S ι mem H x xs d ds Q s r ra p => by
  unfold gPop at p
  cases ra with
  | cons _ _ => exact p.elim
  | nil =>
    obtain ⟨l, vs, es, v, ys, rfl, hl, q, hk, go⟩ := onL_ok s r p
    split at hk
    · rename_i y hy
      cases hk
      obtain ⟨u, h1, h2⟩ := q.get hy
      exact ⟨l, vs, u, rfl, rfl, hl, by rw [q.len]; exact h1, go _ _ h2 q.dropLast⟩
    · cases hk
end
end Mi
end
section
set_option Elab.async false
set_option linter.all false
set_option maxRecDepth 100000
set_option maxHeartbeats 4000000
/-! raise -/
namespace Mi
open PySem PySem.Spec PyProof.Rows L2 Evl MeV MeG MeH
open MeE (spI1)
def nRaise (k : Nat) (f : Str) (r : MA) : MS := fun sl m => (r sl m).seq sl fun ds m1 => match ds with
  | [d] => .exc k [(f, d)] sl m1
  | _ => .no
section
variable {X : Cx} {c : Cc} {E : SX} {e : Expr} {pos : Pos} {ms : MA} {k : Nat} {f : Str}
theorem s_raise {D : Ends} {Q : XK} (σ : L2.St) (H : Hp) (hQ : ∀ cls d H', E σ cls d H' → Q cls d H') : tMS c E (nRaise k f ms) D σ H → tMkO (c.cl k) (spI1 (c.cl k) f) [] (tMA c E ms) σ H Q := fun ⟨S, ι, mem, sl, s, q, p⟩ =>
  runS (RR := rA c) s q p fun vs ds ι1 m1 H1 s1 f1 r1 p1 => by
    cases r1 with
    | nil => exact p1.elim
    | cons a r =>
      cases r with
      | cons _ _ => exact p1.elim
      | nil =>
        rename_i v d
        refine ⟨(by show 1 ≤ 1000; omega), fun x nx => ⟨x, v, rfl, upd_same, fun dx ndx ne => ⟨rfl, dx, [(f, v)], upd_same, ?_, ?_, ?_⟩⟩⟩
        · rw [upd_ne ne, upd_same]
        · rw [upd_ne ne] at ndx
          exact ndx
        · have ndx1 : H1 dx = none := by
            rw [upd_ne ne] at ndx
            exact ndx
          have hq : upd (del (upd (upd (upd H1 x (exo x (c.cl k) none)) dx (exd dx [(f, v)])) x (exo x (c.cl k) (some dx))) x) dx (.xd [(f, v)]) = upd H1 dx (.xd [(f, v)]) := by
            funext b
            by_cases hb : b = dx
            · rw [hb, upd_same, upd_same]
            · rw [upd_ne hb, upd_ne hb]
              by_cases hx : b = x
              · rw [hx, del_same, nx]
              · rw [del_ne hx, upd_ne hx, upd_ne hb, upd_ne hx]
          rw [hq]
          obtain ⟨s2, f2, h2⟩ := s1.new (o := .xd [(f, v)]) ndx1 (fun _ z => nomatch z)
          exact hQ _ _ _ (p1 σ dx [(f, v)] ι1 _ s2 f2 ((q.fr f1).fr f2) h2 (.cons (a.up f2.e f2.p) .nil))
theorem n_raise {W : WX} (hc : X.calm = true) (tk : Takes X W) (hW : ∀ cls d σ H, E σ cls d H → W cls d σ H) (h : PMk X e (tMkO (c.cl k) (spI1 (c.cl k) f) [] (tMA c E ms))) : PS X (.Raise (some e) none pos) (tMS c E (nRaise k f ms)) :=
  (ps_raise hc tk h).weak fun D σ H hh => s_raise (D := D) σ H (fun cls d H' z => hW cls d σ H' z) hh
end
end Mi
end
section
set_option Elab.async false
set_option linter.all false
set_option maxRecDepth 100000
set_option maxHeartbeats 4000000
/-! more rules: y = [comprehension], minus, list(..), tuple(..) -/
namespace Mi
open PySem PySem.Spec PyProof.Rows L2 Evl MeV MeG
section
variable {X : Cx} {c : Cc} {E : SX} {e : Expr} {wi : TI} {g : TG} {mi : MI} {mg : MG} {t : MT} {x : ME} {vs : List Nat} {st : Stmt}
theorem s_asg {i : Nat} (D : Ends) (σ : L2.St) (H : Hp) : tMS c E (nAsg i x) D σ H → tM c E x σ H (fun v H1 => gName i v σ H1 D.nx) := fun ⟨S, ι, mem, sl, s, q, p⟩ =>
  runS (RR := rD c) s q p fun v d ι1 m1 H1 s1 f1 r1 p1 => p1 _ ι1 H1 s1 Fr.refl ((q.fr f1).set i r1)
/-- y = [.. for ..] -/
theorem n_lcS {i : Nat} (h : PS X st (tAsg (tLc wi g (tMT c E0 t) (tM c E0 x) vs) (gName i))) (hi : SimI c E wi mi) (hg : SimGW c g mg vs) : PS X st (tMS c E (nAsg i (mLc mi vs mg t x))) :=
  h.weak fun D σ H hh => s_lc hi hg σ H _ (s_asg D σ H hh)
end
def gNeg : D → Mem → R D := fun d m => match d with
  | .int i => .ok (.int (-i)) m
  | _ => .no
/-- the items of a list or a tuple -/
def itemsOf (m : Mem) : D → Option (List D)
  | .lst ds => some ds
  | .scr ds => some ds
  | .tup ds => some ds
  | .ref n => match m[n]? with
    | some (.lst ds) => some ds
    | _ => none
  | _ => none
/-- list(x): a list that changes no more -/
def gList : List D → Mem → R D := fun ds m => match ds with
  | [d] => match itemsOf m d with
    | some xs => .ok (.lst xs) m
    | none => .no
  | _ => .no
/-- .. one that may change -/
def gListN : List D → Mem → R D := fun ds m => match ds with
  | [d] => match itemsOf m d with
    | some xs => .ok (.ref m.length) (m ++ [.lst xs])
    | none => .no
  | _ => .no
def gTuple : List D → Mem → R D := fun ds m => match ds with
  | [d] => match itemsOf m d with
    | some xs => .ok (.tup xs) m
    | none => .no
  | _ => .no
section
variable {c : Cc}
theorem sim_neg : SimU c (rU fun i => .int (-i)) gNeg := fun E S ι mem H x d Q s r p => by
  cases r <;> try exact p.elim
  exact ⟨_, rfl, Post.here p s (Rep.int _)⟩
theorem itemsOf_ok {S : Wv} {ι : List Addr} {m : Mem} {H : Hp} {x : V} {d : D} {ds : List D} (s : SR c S ι m H) (r : Rep c (fz S ι H) ι x d) (e : itemsOf m d = some ds) :
    ∃ a xs, x = .ref a ∧ (SqL c.K H a xs ∨ (SqT c.K H a xs ∧ SqT c.K (fz S ι H) a xs)) ∧ RepA c (fz S ι H) ι xs ds := by
  cases r <;> try (cases e; done)
  · rename_i n a hn
    have e' : (match m[n]? with
      | some (.lst ds) => some ds
      | _ => none) = some ds := e
    split at e'
    · rename_i ds' hm
      cases e'
      obtain ⟨O, h1, h2⟩ := s.at_ n a _ hn hm
      cases h2 with
      | lst q => exact ⟨a, _, rfl, Or.inl (Or.inl (Or.inl (S.sub _ _ _ h1))), q⟩
    · cases e'
  · rename_i a xs ds' h q
    cases e
    exact ⟨a, xs, rfl, Or.inr ⟨ex_t fz_sub h, h⟩, q⟩
  · rename_i a xs ds' h q
    cases e
    exact ⟨a, xs, rfl, Or.inl (Or.inl (Or.inl (fz_sub _ _ h))), q⟩
  · rename_i a xs ds' h q
    cases e
    exact ⟨a, xs, rfl, Or.inl (ex_l fz_sub h), q⟩
theorem sim_list : SimB c (fun xs H Q => ∃ p ys, xs = [.ref p] ∧ (SqL c.K H p ys ∨ SqT c.K H p ys) ∧ ∀ l, H l = none → Q (.ref l) (upd H l (.lst ys))) gList := fun E S ι mem H xs ds Q s r p => by
  unfold gList at p
  cases r with
  | nil => exact p.elim
  | cons a r =>
    cases r with
    | cons _ _ => exact p.elim
    | nil =>
      dsimp only at p
      split at p
      · rename_i ys hi
        obtain ⟨q, zs, rfl, h1, h2⟩ := itemsOf_ok s a hi
        refine ⟨q, zs, rfl, h1.imp id (fun z => z.1), fun l hl => ?_⟩
        obtain ⟨s2, f2, h3⟩ := s.new (o := .lst zs) hl (fun _ z => nomatch z)
        exact p _ ι _ s2 f2 (Rep.lst h3 (h2.up f2.e f2.p))
      · exact p.elim
theorem sim_listN : SimB c (fun xs H Q => ∃ p ys, xs = [.ref p] ∧ (SqL c.K H p ys ∨ SqT c.K H p ys) ∧ ∀ l, H l = none → Q (.ref l) (upd H l (.lst ys))) gListN := fun E S ι mem H xs ds Q s r p => by
  unfold gListN at p
  cases r with
  | nil => exact p.elim
  | cons a r =>
    cases r with
    | cons _ _ => exact p.elim
    | nil =>
      dsimp only at p
      split at p
      · rename_i ys hi
        obtain ⟨q, zs, rfl, h1, h2⟩ := itemsOf_ok s a hi
        refine ⟨q, zs, rfl, h1.imp id (fun z => z.1), fun l hl => ?_⟩
        obtain ⟨s2, f2⟩ := s.alloc (o := .lst ys) (O := .lst zs) hl (.lst h2)
        refine p _ (ι ++ [l]) _ s2 f2 (Rep.ref ?_)
        rw [← s.len, List.getElem?_append_right (Nat.le_refl _), Nat.sub_self]
        rfl
      · exact p.elim
theorem sim_tuple : SimB c (fun xs H Q => ∃ p ys, xs = [.ref p] ∧ ((SqL c.K H p ys ∧ ∀ l, H l = none → Q (.ref l) (upd H l (.tup ys))) ∨ (SqT c.K H p ys ∧ Q (.ref p) H))) gTuple := fun E S ι mem H xs ds Q s r p => by
  unfold gTuple at p
  cases r with
  | nil => exact p.elim
  | cons a r =>
    cases r with
    | cons _ _ => exact p.elim
    | nil =>
      dsimp only at p
      split at p
      · rename_i ys hi
        obtain ⟨q, zs, rfl, h1, h2⟩ := itemsOf_ok s a hi
        refine ⟨q, zs, rfl, ?_⟩
        rcases h1 with h1 | ⟨h1, h3⟩
        · refine Or.inl ⟨h1, fun l hl => ?_⟩
          obtain ⟨s2, f2, h3⟩ := s.new (o := .tup zs) hl (fun _ z => nomatch z)
          exact p _ ι _ s2 f2 (Rep.tup (st_of h3) (h2.up f2.e f2.p))
        · exact Or.inr ⟨h1, Post.here p s (Rep.tup h3 h2)⟩
      · exact p.elim
end
end Mi
end
section
set_option Elab.async false
set_option linter.all false
set_option maxRecDepth 100000
set_option maxHeartbeats 4000000
/-! x in xs, xs.index(x), over data -/
namespace Mi
open PySem PySem.Spec PyProof.Rows L2 Evl MeV MeG
/-- neg: not in -/
def gInD (neg : Bool) : D → D → Mem → R D := fun a b m => match shp a, shp b with
  | some p, some (.list ds) => .ok (.bl (neg.xor (ds.any fun z => PyData.eqv z p))) m
  | _, _ => .no
def idxD (p : PyData) : List PyData → Nat → Option Nat
  | [], _ => none
  | z :: r, i => bif PyData.eqv z p then some i else idxD p r (i + 1)
def gIndex : D → List D → Mem → R D := fun a ds m => match ds with
  | [b] => match shp a, shp b with
    | some (.list xs), some p => match idxD p xs 0 with
      | some j => .ok (.int (j : Nat)) m
      | none => .no
    | _, _ => .no
  | _ => .no
section
variable {c : Cc}
theorem sim_inD : SimR c (rInD c.K) (gInD false) := fun E S ι mem H x y d1 d2 Q s r1 r2 p => by
  unfold gInD at p
  split at p
  · rename_i a ds h1 h2
    obtain ⟨k1, k2⟩ := shp_of h1 r1
    obtain ⟨k3, k4⟩ := shp_of h2 r2
    refine ⟨a, ds, dp_up fz_sub k1, dp_up fz_sub k3, k2, k4, ?_⟩
    have p' := Post.here (v := V.bl _) p s (Rep.bl _)
    rw [Bool.false_xor] at p'
    exact p'
  · exact p.elim
theorem sim_niD : SimR c (rNotInD c.K) (gInD true) := fun E S ι mem H x y d1 d2 Q s r1 r2 p => by
  unfold gInD at p
  split at p
  · rename_i a ds h1 h2
    obtain ⟨k1, k2⟩ := shp_of h1 r1
    obtain ⟨k3, k4⟩ := shp_of h2 r2
    refine ⟨a, ds, dp_up fz_sub k1, dp_up fz_sub k3, k2, k4, ?_⟩
    have p' := Post.here (v := V.bl _) p s (Rep.bl _)
    rw [Bool.true_xor] at p'
    exact p'
  · exact p.elim
theorem idxD_ok {p : PyData} : ∀ {xs : List PyData} {i j : Nat}, idxD p xs i = some j → ∃ k z, j = i + k ∧ xs[k]? = some z ∧ PyData.eqv z p = true ∧ ∀ (m : Nat) (z' : PyData), m < k → xs[m]? = some z' → PyData.eqv z' p = false
  | [], _, _, e => by cases e
  | z :: r, i, j, e => by
    have e' : (bif PyData.eqv z p then some i else idxD p r (i + 1)) = some j := e
    cases hz : PyData.eqv z p with
    | true =>
      rw [hz] at e'
      cases e'
      exact ⟨0, z, rfl, rfl, hz, fun m _ h => absurd h (Nat.not_lt_zero _)⟩
    | false =>
      rw [hz] at e'
      obtain ⟨k, w, h1, h2, h3, h4⟩ := idxD_ok (show idxD p r (i + 1) = some j from e')
      refine ⟨k + 1, w, by omega, h2, h3, fun m z' hm h => ?_⟩
      cases m with
      | zero =>
        cases h
        exact hz
      | succ m => exact h4 m z' (by omega) h
theorem sim_index : SimM c (rIndexD c.K) gIndex := fun E S ι mem H x xs d ds Q s r ra p => by
  unfold gIndex at p
  cases ra with
  | nil => exact p.elim
  | cons a ra =>
    cases ra with
    | cons _ _ => exact p.elim
    | nil =>
      dsimp only at p
      split at p
      · rename_i ys q h1 h2
        obtain ⟨k1, k2⟩ := shp_of h1 r
        obtain ⟨k3, k4⟩ := shp_of h2 a
        split at p
        · rename_i j hj
          obtain ⟨k, z, e1, e2, e3, e4⟩ := idxD_ok hj
          rw [Nat.zero_add] at e1
          subst e1
          have k1' := dp_up (H := H) fz_sub k1
          cases k1' with
          | lst hs ha => exact ⟨_, _, q, ys, j, z, rfl, rfl, .lst hs ha, dp_up fz_sub k3, k2, k4, e2, e3, e4, Post.here (v := V.int _) p s (Rep.int _)⟩
        · exact p.elim
      · exact p.elim
end
end Mi
end
section
set_option Elab.async false
set_option linter.all false
set_option maxRecDepth 100000
set_option maxHeartbeats 4000000
/-! a loop over a list of the memory, which may change meanwhile -/
namespace Mi
open PySem PySem.Spec PyProof.Rows L2 Evl MeV MeG
def RS.turn : RS → (Sl → Mem → RS) → RS
  | .next sl m, f => f sl m
  | .cont sl m, f => f sl m
  | .brk sl m, _ => .next sl m
  | r, _ => r
/-- the first number: fuel; the second: the turn -/
def forM (n : Nat) (g : MG) (body : MS) : Nat → Nat → MS
  | 0, _, _, _ => .no
  | k + 1, i, sl, m => match m[n]? with
    | some (.lst ds) => match ds[i]? with
      | none => .next sl m
      | some d => match g d sl with
        | none => .no
        | some sl1 => (body sl1 m).turn fun sl2 m2 => forM n g body k (i + 1) sl2 m2
    | _ => .no
def nForM (x : ME) (g : MG) (fuel : Nat) (body : MS) : MS := fun sl m => (x sl m).seq sl fun d m1 => match d with
  | .ref n => forM n g body fuel 0 sl m1
  | _ => .no
section
variable {X : Cx} {c : Cc} {E : SX} {st : Stmt} {g : TG} {mg : MG} {body : MS} {x : ME}
theorem forM_lst {S : Wv} {ι : List Addr} {H : Hp} {D : Ends} {n k i : Nat} {sl : Sl} {m : Mem} (p : PostS c E S ι H (forM n mg body k i sl m) D) : ∃ k' ds, k = k' + 1 ∧ m[n]? = some (.lst ds) ∧ PostS c E S ι H (match ds[i]? with
      | none => .next sl m
      | some d => match mg d sl with
        | none => .no
        | some sl1 => (body sl1 m).turn fun sl2 m2 => forM n mg body k' (i + 1) sl2 m2) D := by
  cases k with
  | zero => exact p.elim
  | succ k =>
    unfold forM at p
    cases hm : m[n]? with
    | none =>
      rw [hm] at p
      exact p.elim
    | some o =>
      rw [hm] at p
      cases o <;> try exact p.elim
      exact ⟨k, _, rfl, rfl, p⟩
theorem n_forM {fuel : Nat} (h : PS X st (tFor (iList c.K (tM c E x)) g (tMS c E body))) (hg : SimG c g mg) : PS X st (tMS c E (nForM x mg fuel body)) := h.weak fun Dn σ H ⟨S, ι, mem, sl, s, q, p⟩ =>
  runS (RR := rD c) s q p fun v d ι1 m1 H1 s1 f1 r1 p1 => by
    cases r1 <;> try exact p1.elim
    rename_i n a hn
    have at1 : ∀ {ι2 : List Addr} {mem2 : Mem} {H2 : Hp} {ds : List Mi.D}, SR c S ι2 mem2 H2 → ι1 <+: ι2 → mem2[n]? = some (.lst ds) → ∃ xs, SqL c.K H2 a xs ∧ RepA c (fz S ι2 H2) ι2 xs ds := fun {ι2 mem2 H2 ds} s2 pr hm => by
      obtain ⟨O, h1, h2⟩ := s2.at_ n a _ (pre_get pr hn) hm
      cases h2 with
      | lst ra => exact ⟨_, sq_of (S.sub _ _ _ h1), ra⟩
    obtain ⟨k1, ds1, _, hm1, _⟩ := forM_lst p1
    obtain ⟨xs1, sq1, _⟩ := at1 s1 (List.prefix_refl _) hm1
    refine ⟨a, rfl, ⟨xs1, sq1⟩, fun i k σ' H' => ∃ ι2 mem2 sl2, SR c S ι2 mem2 H' ∧ ι1 <+: ι2 ∧ RepSl c (fz S ι2 H') ι2 σ' sl2 ∧ PostS c E S ι2 H' (forM n mg body k i sl2 mem2) Dn, ⟨fuel, ι1, m1, sl, s1, List.prefix_refl _, q.fr f1, p1⟩, ?_⟩
    rintro i k σ' H' ⟨ι2, mem2, sl2, s2, pr, q2, p2⟩
    obtain ⟨k', ds, rfl, hm, p3⟩ := forM_lst p2
    obtain ⟨xs, sq, ra⟩ := at1 s2 pr hm
    cases hd : ds[i]? with
    | none =>
      rw [hd] at p3
      refine .inl ⟨⟨xs, sq, ?_⟩, p3 σ' ι2 H' s2 Fr.refl q2⟩
      rw [ra.len]
      exact List.getElem?_eq_none_iff.mp hd
    | some d =>
      rw [hd] at p3
      obtain ⟨y, hy, ry⟩ := ra.get hd
      refine .inr ⟨⟨xs, y, sq, hy⟩, fun σ4 H4 => ∃ ι4 m4 sl4, SR c S ι4 m4 H4 ∧ ι1 <+: ι4 ∧ RepSl c (fz S ι4 H4) ι4 σ4 sl4 ∧ PostS c E S ι4 H4 (forM n mg body k' (i + 1) sl4 m4) Dn, fun σ4 H4 hN => ⟨k', Nat.lt_succ_self _, hN⟩, fun z H3 hz => ?_⟩
      obtain ⟨rfl, hz2⟩ := hz
      have ez : z = y := Option.some.inj ((hz2 xs sq).symm.trans hy)
      subst ez
      dsimp only at p3
      cases hgd : mg d sl2 with
      | none =>
        rw [hgd] at p3
        exact p3.elim
      | some sl3 =>
        rw [hgd] at p3
        refine hg S ι2 mem2 _ σ' sl2 sl3 z d _ s2 q2 ry hgd fun σ3 q3 => ⟨S, ι2, mem2, sl3, s2, q3, ?_⟩
        dsimp only at p3
        cases hb : body sl3 mem2 with
        | next sl4 m4 =>
          rw [hb] at p3
          exact fun σ4 ι4 H4 s4 f4 q4 => ⟨ι4, m4, sl4, s4, pr.trans f4.p, q4, PostS.from (r := forM n mg body k' (i + 1) sl4 m4) p3 f4⟩
        | cont sl4 m4 =>
          rw [hb] at p3
          exact fun σ4 ι4 H4 s4 f4 q4 => ⟨ι4, m4, sl4, s4, pr.trans f4.p, q4, PostS.from (r := forM n mg body k' (i + 1) sl4 m4) p3 f4⟩
        | brk sl4 m4 =>
          rw [hb] at p3
          exact p3
        | ret d4 m4 =>
          rw [hb] at p3
          exact p3
        | exc k0 fs sl4 m4 =>
          rw [hb] at p3
          exact p3
        | no =>
          rw [hb] at p3
          exact p3
end
end Mi
end
section
set_option Elab.async false
set_option linter.all false
set_option maxRecDepth 100000
set_option maxHeartbeats 4000000
/-! while loops, by fuel -/
namespace Mi
open PySem PySem.Spec PyProof.Rows L2 Evl MeV MeG
def nWhile (t : MT) (body : MS) : Nat → MS
  | 0, _, _ => .no
  | k + 1, sl, m => (t sl m).seq sl fun b m1 => bif b then (body sl m1).turn fun sl2 m2 => nWhile t body k sl2 m2 else .next sl m1
section
variable {X : Cx} {c : Cc} {E : SX} {st : Stmt} {t : MT} {body : MS}
theorem n_while (fuel : Nat) (h : PS X st (tWhile (tMT c E t) (tMS c E body))) : PS X st (tMS c E (nWhile t body fuel)) := h.weak fun Dn σ H ⟨S, ι, mem, sl, s, q, p⟩ => by
  refine ⟨fun k σ' H' => ∃ ι2 mem2 sl2, SR c S ι2 mem2 H' ∧ RepSl c (fz S ι2 H') ι2 σ' sl2 ∧ PostS c E S ι2 H' (nWhile t body k sl2 mem2) Dn, ⟨fuel, ι, mem, sl, s, q, p⟩, ?_⟩
  rintro k σ' H' ⟨ι2, mem2, sl2, s2, q2, p2⟩
  cases k with
  | zero => exact p2.elim
  | succ k =>
    refine runS (RR := rB) s2 q2 p2 fun b b' ι3 m3 H3 s3 f3 r3 p3 => ?_
    have eb : b = b' := r3
    subst eb
    cases b with
    | false => exact p3 σ' ι3 H3 s3 Fr.refl (q2.fr f3)
    | true =>
      refine ⟨fun σ4 H4 => ∃ ι4 m4 sl4, SR c S ι4 m4 H4 ∧ RepSl c (fz S ι4 H4) ι4 σ4 sl4 ∧ PostS c E S ι4 H4 (nWhile t body k sl4 m4) Dn, fun σ4 H4 hN => ⟨k, Nat.lt_succ_self _, hN⟩, S, ι3, m3, sl2, s3, q2.fr f3, ?_⟩
      have p4 : PostS c E S ι3 H3 ((body sl2 m3).turn fun sl2 m2 => nWhile t body k sl2 m2) Dn := p3
      cases hb : body sl2 m3 with
      | next sl4 m4 =>
        rw [hb] at p4
        exact fun σ4 ι4 H4 s4 f4 q4 => ⟨ι4, m4, sl4, s4, q4, PostS.from (r := nWhile t body k sl4 m4) p4 f4⟩
      | cont sl4 m4 =>
        rw [hb] at p4
        exact fun σ4 ι4 H4 s4 f4 q4 => ⟨ι4, m4, sl4, s4, q4, PostS.from (r := nWhile t body k sl4 m4) p4 f4⟩
      | brk sl4 m4 =>
        rw [hb] at p4
        exact p4
      | ret d4 m4 =>
        rw [hb] at p4
        exact p4
      | exc k0 fs sl4 m4 =>
        rw [hb] at p4
        exact p4
      | no =>
        rw [hb] at p4
        exact p4
end
end Mi
end
section
set_option Elab.async false
set_option linter.all false
set_option maxRecDepth 100000
set_option maxHeartbeats 4000000
/-! o[i] = x for a list of the memory -/
namespace Mi
open PySem PySem.Spec PyProof.Rows L2 Evl MeV MeG
def stI (o i d : D) (m : Mem) : Option Mem := match o with
  | .ref n => match i with
    | .int k => match m[n]? with
      | some (.lst ds) => match ixN ds.length k with
        | some j => some (m.set n (.lst (ds.set j d)))
        | none => none
      | _ => none
    | _ => none
  | _ => none
def nSub (o i x : ME) : MS := fun sl m => (x sl m).seq sl fun d m1 => (o sl m1).seq sl fun q m2 => (i sl m2).seq sl fun k m3 => match stI q k d m3 with
  | some m4 => .next sl m4
  | none => .no
section
variable {X : Cx} {c : Cc} {E : SX} {st : Stmt} {x y z : ME}
theorem RepA.set {h : Hp} {ι : List Addr} {v : V} {d : D} (r : Rep c h ι v d) : ∀ {vs : List V} {ds : List D} (j : Nat), RepA c h ι vs ds → RepA c h ι (vs.set j v) (ds.set j d)
  | _, _, _, .nil => .nil
  | _, _, 0, .cons _ k => .cons r k
  | _, _, j + 1, .cons a k => .cons a (RepA.set r j k)
theorem n_sub (h : PS X st (tAsg (tM c E x) (gSub (tM c E y) (tM c E z) rSetL))) : PS X st (tMS c E (nSub y z x)) := h.weak fun Dn σ H ⟨S, ι, mem, sl, s, q, p⟩ =>
  runS (RR := rD c) s q p fun v d ι1 m1 H1 s1 f1 r1 p1 => runS (RR := rD c) s1 (q.fr f1) p1 fun u w ι2 m2 H2 s2 f2 r2 p2 => runS (RR := rD c) s2 ((q.fr f1).fr f2) p2 fun t k ι3 m3 H3 s3 f3 r3 p3 => by
    have r1' := (Rep.up f2.e f2.p r1).up f3.e f3.p
    have r2' : Rep c (fz S ι3 H3) ι3 u w := Rep.up f3.e f3.p r2
    unfold stI at p3
    cases r2' <;> try exact p3.elim
    rename_i n a hn
    cases r3 <;> try exact p3.elim
    rename_i kk
    dsimp only at p3
    cases hm : m3[n]? with
    | none =>
      rw [hm] at p3
      exact p3.elim
    | some o =>
      rw [hm] at p3
      cases o <;> try exact p3.elim
      rename_i ds
      dsimp only at p3
      cases hj : ixN ds.length kk with
      | none =>
        rw [hj] at p3
        exact p3.elim
      | some j =>
        rw [hj] at p3
        obtain ⟨O, h1, h2⟩ := s3.at_ n a _ hn hm
        cases h2 with
        | lst ra =>
          rename_i xs
          obtain ⟨s4, f4⟩ := s3.set (o := .lst (ds.set j d)) (O := .lst (xs.set j v)) hn (.lst (ra.set r1' j))
          exact ⟨a, xs, kk, j, rfl, rfl, S.sub _ _ _ h1, by rw [ra.len]; exact hj, p3 σ ι3 _ s4 f4 ((((q.fr f1).fr f2).fr f3).fr f4)⟩
end
end Mi
end
section
set_option Elab.async false
set_option linter.all false
set_option maxRecDepth 100000
set_option maxHeartbeats 4000000
/-! y += x -/
namespace Mi
open PySem PySem.Spec PyProof.Rows L2 Evl MeV MeG
def nAug (i : Nat) (g : D → D → Mem → R D) (x : ME) : MS := fun sl m => match sl[i]? with
  | some (some d) => (x sl m).seq sl fun d2 m1 => (g d d2 m1).seq sl fun d3 m2 => .next (sl.set i (some d3)) m2
  | _ => .no
def gAug (f : Int → Int → Int) : D → D → Mem → R D := fun a b m => match a, b with
  | .int i, .int j => .ok (.int (f i j)) m
  | _, _ => .no
section
variable {X : Cx} {c : Cc} {E : SX} {st : Stmt} {x : ME}
theorem sim_ip {f : Int → Int → Int} : SimR c (ipI f) (gAug f) := fun E S ι mem H x y d1 d2 Q s r1 r2 p => by
  cases r1 <;> cases r2 <;> try exact p.elim
  exact ⟨_, _, rfl, rfl, Post.here p s (Rep.int _)⟩
theorem n_aug {i : Nat} {ti : TIp} {g : D → D → Mem → R D} (h : PS X st (tAug i (tM c E x) ti)) (hg : SimR c ti g) : PS X st (tMS c E (nAug i g x)) := h.weak fun Dn σ H ⟨S, ι, mem, sl, s, q, p⟩ => by
  unfold nAug at p
  split at p
  · rename_i d hd
    obtain ⟨v, h1, h2⟩ := q.at_ i d hd
    refine ⟨v, h1, runS (RR := rD c) s q p fun u d2 ι1 m1 H1 s1 f1 r1 p1 => ?_⟩
    refine hg (E σ) S ι1 m1 H1 v u d d2 _ s1 (h2.up f1.e f1.p) r1 ?_
    cases hm : g d d2 m1 with
    | no =>
      rw [hm] at p1
      exact p1
    | exc k fs m2 =>
      rw [hm] at p1
      exact fun x ws ι' H' s' f' a b => p1 σ x ws ι' H' s' f' ((q.fr f1).fr f') a b
    | ok d3 m2 =>
      rw [hm] at p1
      exact fun w ι' H' s' f' r' => p1 _ ι' H' s' f' (((q.fr f1).fr f').set i r')
  · exact p.elim
end
end Mi
end
section
set_option Elab.async false
set_option linter.all false
set_option maxRecDepth 100000
set_option maxHeartbeats 4000000
/-! slices a[lo:hi] -/
namespace Mi
open PySem PySem.Spec PyProof.Rows L2 Evl MeV MeG
abbrev MO1 := Sl → Mem → R (Option Int)
def rO : Hp → List Addr → Option Int → Option Int → Prop := fun _ _ a b => a = b
def mNoP : MO1 := fun _ m => .ok none m
def mPart (x : ME) : MO1 := fun sl m => (x sl m).bind fun d m1 => match d with
  | .int i => .ok (some i) m1
  | _ => .no
def mSl (g : D → Option Int → Option Int → Mem → R D) (x : ME) (l h : MO1) : ME := fun sl m => (x sl m).bind fun d m1 => (l sl m1).bind fun a m2 => (h sl m2).bind fun b m3 => g d a b m3
def cutD (ds : List D) (lo hi : Option Int) : List D := (ds.drop (HT.sIx ds.length 0 lo)).take (HT.sIx ds.length ds.length hi - HT.sIx ds.length 0 lo)
/-- a slice of a list: one that changes no more -/
def gSlL : D → Option Int → Option Int → Mem → R D := fun d a b m => bif isL m d then (match itemsOf m d with
  | some ds => .ok (.lst (cutD ds a b)) m
  | none => .no) else .no
/-- a slice of a text -/
def gSlX : D → Option Int → Option Int → Mem → R D := fun d a b m => match d with
  | .str z => if z.length ≤ 100000 then .ok (.str (Txt.slice z a b)) m else .no
  | _ => .no
def SimS (c : Cc) (r : V → Option Int → Option Int → Hp → VK → Prop) (g : D → Option Int → Option Int → Mem → R D) : Prop := ∀ (E : XK) (S : Wv) (ι : List Addr) (mem : Mem) (H : Hp) (x : V) (d : D) (a b : Option Int) (Q : VK),
  SR c S ι mem H → Rep c (fz S ι H) ι x d → Post c E S ι H (rD c) (g d a b mem) Q → r x a b H Q
section
variable {X : Cx} {c : Cc} {E : SX} {e : Expr} {x : ME} {l h : MO1} {r : V → Option Int → Option Int → Hp → VK → Prop} {g : D → Option Int → Option Int → Mem → R D}
theorem o_none : PO X none (tG c E rO mNoP) := ⟨fun pins s σ H Q I ⟨S, ι, mem, sl, s', q, p⟩ => po_none.run pins s σ H Q I (Post.here (v := (none : Option Int)) p s' rfl)⟩
theorem o_some (hx : PE X e (tM c E x)) : PO X (some e) (tG c E rO (mPart x)) := ⟨fun pins s σ H Q I ⟨S, ι, mem, sl, s', q, p⟩ => (po_some hx).run pins s σ H Q I (run1 (RR := rD c) s' q p fun v d ι1 m1 H1 s1 f1 r1 p1 => by
  cases r1 <;> try exact p1.elim
  exact ⟨_, rfl, Post.here (v := some _) p1 s1 rfl⟩)⟩
theorem m_slice {e' : Expr} (he : PE X e' (tSl r (tM c E x) (tG c E rO l) (tG c E rO h))) (sim : SimS c r g) : PE X e' (tM c E (mSl g x l h)) := he.weak fun σ H Q ⟨S, ι, mem, sl, s, q, p⟩ =>
  run1 (RR := rD c) s q p fun v d ι1 m1 H1 s1 f1 r1 p1 => run1 (RR := rO) s1 (q.fr f1) p1 fun a a' ι2 m2 H2 s2 f2 r2 p2 => run1 (RR := rO) s2 ((q.fr f1).fr f2) p2 fun b b' ι3 m3 H3 s3 f3 r3 p3 => by
    have ea : a = a' := r2
    have eb : b = b' := r3
    subst ea
    subst eb
    exact sim (E σ) S ι3 m3 H3 v d a b Q s3 ((Rep.up f2.e f2.p r1).up f3.e f3.p) p3
theorem sim_slX : SimS c C8.rSlX gSlX := fun E S ι mem H x d a b Q s r p => by
  unfold gSlX at p
  cases r <;> try exact p.elim
  dsimp only at p
  split at p
  · rename_i hz
    exact ⟨_, rfl, sz_of hz, Post.here (v := V.str _) p s (Rep.str _)⟩
  · exact p.elim
theorem RepA.drop {hh : Hp} {ι : List Addr} : ∀ {vs : List V} {ds : List D} (n : Nat), RepA c hh ι vs ds → RepA c hh ι (vs.drop n) (ds.drop n)
  | _, _, 0, k => k
  | _, _, _ + 1, .nil => .nil
  | _, _, n + 1, .cons _ k => RepA.drop n k
theorem RepA.take {hh : Hp} {ι : List Addr} : ∀ {vs : List V} {ds : List D} (n : Nat), RepA c hh ι vs ds → RepA c hh ι (vs.take n) (ds.take n)
  | _, _, 0, _ => .nil
  | _, _, _ + 1, .nil => .nil
  | _, _, n + 1, .cons a k => .cons a (RepA.take n k)
theorem RepA.cut {hh : Hp} {ι : List Addr} {vs : List V} {ds : List D} (k : RepA c hh ι vs ds) (lo hi : Option Int) : RepA c hh ι (cutV vs lo hi) (cutD ds lo hi) := by
  unfold cutV cutD
  rw [k.len]
  exact (k.drop _).take _
end
end Mi
end
section
set_option Elab.async false
set_option linter.all false
set_option maxRecDepth 100000
set_option maxHeartbeats 4000000
/-! slices of lists and tuples -/
namespace Mi
open PySem PySem.Spec PyProof.Rows L2 Evl MeV MeG
def listOf (m : Mem) : D → Option (List D)
  | .lst ds => some ds
  | .scr ds => some ds
  | .ref n => match m[n]? with
    | some (.lst ds) => some ds
    | _ => none
  | _ => none
def gSlF : D → Option Int → Option Int → Mem → R D := fun d a b m => match listOf m d with
  | some ds => .ok (.lst (cutD ds a b)) m
  | none => .no
def gSlT : D → Option Int → Option Int → Mem → R D := fun d a b m => match d with
  | .tup ds => if HT.sIx ds.length 0 a = 0 ∧ HT.sIx ds.length ds.length b = ds.length then .ok (.tup ds) m else .ok (.tup (cutD ds a b)) m
  | _ => .no
section
variable {c : Cc}
theorem listOf_ok {S : Wv} {ι : List Addr} {m : Mem} {H : Hp} {x : V} {d : D} {ds : List D} (s : SR c S ι m H) (r : Rep c (fz S ι H) ι x d) (e : listOf m d = some ds) :
    ∃ a xs, x = .ref a ∧ SqL c.K H a xs ∧ RepA c (fz S ι H) ι xs ds := by
  cases r <;> try (cases e; done)
  · rename_i n a hn
    have e' : (match m[n]? with
      | some (.lst ds) => some ds
      | _ => none) = some ds := e
    split at e'
    · rename_i ds' hm
      cases e'
      obtain ⟨O, h1, h2⟩ := s.at_ n a _ hn hm
      cases h2 with
      | lst q => exact ⟨a, _, rfl, Or.inl (Or.inl (S.sub _ _ _ h1)), q⟩
    · cases e'
  · rename_i a xs ds' h q
    cases e
    exact ⟨a, xs, rfl, Or.inl (Or.inl (fz_sub _ _ h)), q⟩
  · rename_i a xs ds' h q
    cases e
    exact ⟨a, xs, rfl, ex_l fz_sub h, q⟩
theorem sim_slF : SimS c (rSlL c.K) gSlF := fun E S ι mem H x d a b Q s r p => by
  unfold gSlF at p
  split at p
  · rename_i ds hd
    obtain ⟨q, xs, rfl, h1, h2⟩ := listOf_ok s r hd
    refine ⟨q, xs, rfl, h1, fun l hl => ?_⟩
    obtain ⟨s2, f2, h3⟩ := s.new (o := .lst (cutV xs a b)) hl (fun _ z => nomatch z)
    exact p _ ι _ s2 f2 (Rep.lst h3 ((h2.cut a b).up f2.e f2.p))
  · exact p.elim
end
end Mi
end
section
set_option Elab.async false
set_option linter.all false
set_option maxRecDepth 100000
set_option maxHeartbeats 4000000
/-! methods of texts: split, join -/
namespace Mi
open PySem PySem.Spec PyProof.Rows L2 Evl MeV MeG
def mM1 (g : D → List D → Mem → R D) (x y : ME) : ME := fun sl m => (x sl m).bind fun d m1 => match d with
  | .str z => (y sl m1).bind fun e m2 => g (.str z) [e] m2
  | _ => .no
def strsD : List D → Option (List Str)
  | [] => some []
  | .str x :: r => (strsD r).map (x :: ·)
  | _ => none
def gSplit : D → List D → Mem → R D := fun d ds m => match d, ds with
  | .str a, [.str b] => if b.length ≠ 0 ∧ a.length ≤ 99998 then .ok (.lst ((Txt.split a b).map .str)) m else .no
  | _, _ => .no
def gJoin : D → List D → Mem → R D := fun d ds m => match d, ds with
  | .str a, [e] => match itemsOf m e with
    | some xs => match strsD xs with
      | some ys => if (ys.map (·.length)).sum + ys.length * a.length ≤ 1000000 then .ok (.str (Txt.join a ys)) m else .no
      | none => .no
    | none => .no
  | _, _ => .no
section
variable {X : Cx} {c : Cc} {E : SX} {e : Expr} {x y : ME} {r : V → List V → Hp → VK → Prop} {g : D → List D → Mem → R D}
theorem m_m1 (h : PE X e (tM1 r (tM c E x) (tM c E y))) (sim : SimM c r g) : PE X e (tM c E (mM1 g x y)) := h.weak fun σ H Q ⟨S, ι, mem, sl, s, q, p⟩ =>
  run1 (RR := rD c) s q p fun v d ι1 m1 H1 s1 f1 r1 p1 => by
    cases r1 <;> try exact p1.elim
    rename_i z
    exact ⟨⟨z, rfl⟩, run1 (RR := rD c) s1 (q.fr f1) p1 fun u d2 ι2 m2 H2 s2 f2 r2 p2 => sim (E σ) S ι2 m2 H2 (.str z) [u] (.str z) [d2] Q s2 (.str z) (.cons r2 .nil) p2⟩
theorem strsD_ok {h : Hp} {ι : List Addr} : ∀ {vs : List V} {ds : List D} {ys : List Str}, RepA c h ι vs ds → strsD ds = some ys → vs = ys.map V.str
  | _, _, _, .nil, e => by
    cases e
    rfl
  | _, _, _, .cons a r, e => by
    cases a <;> try (cases e; done)
    obtain ⟨zs, h1, h2⟩ := Option.map_eq_some_iff.mp e
    cases h2
    rw [strsD_ok r h1]
    rfl
theorem sim_join : SimM c (fun x xs H Q => ∃ a p, ∃ ys : List Str, x = .str a ∧ xs = [.ref p] ∧ (SqL c.K H p (ys.map V.str) ∨ SqT c.K H p (ys.map V.str)) ∧ (ys.map (·.length)).sum + ys.length * a.length ≤ 16777216 ∧ Q (.str (Txt.join a ys)) H) gJoin :=
  fun E S ι mem H x xs d ds Q s r ra p => by
    unfold gJoin at p
    split at p
    · rename_i a e
      cases r
      cases ra with
      | cons re rn =>
        cases rn
        split at p
        · rename_i zs hz
          split at p
          · rename_i ys hy
            split at p
            · rename_i hl
              obtain ⟨q, us, rfl, h1, h2⟩ := itemsOf_ok s re hz
              cases strsD_ok h2 hy
              exact ⟨a, q, ys, rfl, rfl, h1.imp id (fun z => z.1), by omega, Post.here (v := V.str _) p s (Rep.str _)⟩
            · exact p.elim
          · exact p.elim
        · exact p.elim
    · exact p.elim
theorem repA_strs {h : Hp} {ι : List Addr} : ∀ ys : List Str, RepA c h ι (ys.map V.str) (ys.map D.str)
  | [] => .nil
  | y :: r => .cons (.str y) (repA_strs r)
theorem sim_split : SimM c (fun x xs H Q => ∃ a b, x = .str a ∧ xs = [.str b] ∧ (b.length == 0) = false ∧ a.length + 2 ≤ sizeLine ∧ rNewStrs (Txt.split a b) H Q) gSplit := fun E S ι mem H x xs d ds Q s r ra p => by
  unfold gSplit at p
  split at p
  · rename_i a b
    cases r
    cases ra with
    | cons re rn =>
      cases rn
      cases re
      split at p
      · rename_i hl
        refine ⟨a, b, rfl, rfl, beq_eq_false_iff_ne.mpr hl.1, (by have := sz_of (n := a.length + 2) (by omega); exact this), fun l hn => ?_⟩
        obtain ⟨s2, f2, h3⟩ := s.new (o := .lst ((Txt.split a b).map V.str)) hn (fun _ z => nomatch z)
        exact p _ ι _ s2 f2 (Rep.lst h3 (repA_strs _))
      · exact p.elim
  · exact p.elim
end
end Mi
end
section
set_option Elab.async false
set_option linter.all false
set_option maxRecDepth 100000
set_option maxHeartbeats 4000000
/-! isinstance(x, (T1, T2, ..)), x data -/
namespace Mi
open PySem PySem.Spec PyProof.Rows L2 Evl MeV MeG
def tysD : List D → Option (List String)
  | [] => some []
  | .ty T :: r => (tysD r).map (T :: ·)
  | _ => none
def kitL (t : String) : List String → Option Bool
  | [] => some false
  | T :: r => match kitB t T with
    | some true => some true
    | some false => kitL t r
    | none => none
def gIsiT : List D → Mem → R D := fun ds m => match ds with
  | [d, .tup cs] => match dat d with
    | some p => match tysD cs with
      | some ts => match kitL (tyD p) ts with
        | some b => .ok (.bl b) m
        | none => .no
      | none => .no
    | none => .no
  | _ => .no
section
variable {c : Cc}
theorem tysD_ok {h : Hp} {ι : List Addr} : ∀ {vs : List V} {ds : List D} {ts : List String}, RepA c h ι vs ds → tysD ds = some ts → Paired ClsV vs (ts.map Value.type)
  | _, _, _, .nil, e => by
    cases e
    exact .nil
  | _, _, _, .cons a r, e => by
    cases a <;> try (cases e; done)
    obtain ⟨zs, h1, h2⟩ := Option.map_eq_some_iff.mp e
    cases h2
    exact .cons (.ty _) (tysD_ok r h1)
theorem kitL_ok {K : PySem.W.Frag} {t : String} : ∀ {ts : List String} {b : Bool}, kitL t ts = some b → PySem.W.kitAny K (.type t) (ts.map Value.type) = some b
  | [], _, e => e
  | T :: r, b, e => by
    have e' : (match kitB t T with
      | some true => some true
      | some false => kitL t r
      | none => none) = some b := e
    show (match PySem.W.kitOne K (.type t) (.type T) with | some true => some true | some false => PySem.W.kitAny K (.type t) (r.map Value.type) | none => none) = _
    cases hk : kitB t T with
    | none =>
      rw [hk] at e'
      cases e'
    | some v =>
      rw [hk] at e'
      rw [kit_ty hk]
      cases v with
      | true => exact e'
      | false => exact kitL_ok e'
end
end Mi
end
section
set_option Elab.async false
set_option linter.all false
set_option maxRecDepth 100000
set_option maxHeartbeats 4000000
/-! dicts of mixed keys: in, d[k], d[k] = v, d.get, d.pop, del d[k] -/
namespace MeD
open PySem PySem.Spec PyProof.Rows
section
variable {prog : Program} {w : World} {A : Around} {E : Value → Shared → Prop} {s : Shared} {d : Addr} {ep : Nat} {xs : List Ent} {k : NestedKey} {key : Value}
theorem get_ix : (getK xs k).isSome = (ixK xs k).isSome := by
  unfold getK
  cases e : ixK xs k with
  | none => rfl
  | some j =>
    obtain ⟨p, hp⟩ := ixK_some e
    rw [Option.bind_some, hp]
    rfl
/-- has(d, k) -/
theorem has {Q : Bool → Shared → Prop} (hu : A.units + 9 < cLine) (hk : IsK s.heap k key) (hd : (d == sysModules) = false) (D : Dk w s d ep xs)
    (h : Q (ixK xs k).isSome { s with toks := s.toks + k.draws }) : wpAny (model prog w) A (contains (.ref d) key) Q E s := by
  unfold contains
  refine wpAny_holding (wpAny_bind (wpAny_specialOf D.type slot_dict_contains.lookup ?_))
  refine iteC (fun z => absurd z (by rw [beq_builtin_none]; decide)) fun _ => wpAny_bind (wpAny_callSpecialUnlessNone?_slot (name := Str.ofString "__contains__") D.type slot_dict_contains (wpAny_call_entry slot_dict_contains D.type entry_dict_contains ?_ (args_dict_contains _ _)))
  show wpAny (model prog w) A.in1 (dictGet d key >>= _) _ _ s
  refine wpAny_bind (get (A := A.in1) (by rw [Around.in1_units]; omega) hk D ?_)
  rw [← get_ix] at h
  cases e : getK xs k with
  | some v =>
    rw [e] at h
    exact wpAny_pure ⟨_, rfl, wpAny_truthy_bool h⟩
  | none =>
    rw [e] at h
    exact wpAny_bind (wpAny_pendingKey_other hd (wpAny_pure ⟨_, rfl, wpAny_truthy_bool h⟩))
theorem item {v : Value} {Q : Value → Shared → Prop} (hu : A.units + 9 < cLine) (hk : IsK s.heap k key) (D : Dk w s d ep xs) (hv : getK xs k = some v) (h : Q v { s with toks := s.toks + k.draws }) : wpAny (model prog w) A (getItem (.ref d) key) Q E s := by
  unfold getItem
  refine wpAny_holding (wpAny_bind (wpAny_sequenceKey D.type (by decide) (wpAny_bind (wpAny_callSpecial?_slot (name := Str.ofString "__getitem__") D.type slot_dict_getitem (wpAny_call_entry slot_dict_getitem D.type entry_dict_getitem ?_ (args_dict_getitem _ _))))))
  show wpAny (model prog w) A.in1 (dictGet d key >>= _) _ _ s
  refine wpAny_bind (get (A := A.in1) (by rw [Around.in1_units]; omega) hk D ?_)
  rw [hv]
  exact wpAny_pure ⟨v, rfl, wpAny_pure h⟩
theorem store {v : Value} {Q : Unit → Shared → Prop} (hu : A.units + 9 < cLine) (hk : IsK s.heap k key) (D : Dk w s d ep xs) (hz : xs.length ≤ sizeLine)
    (h : ∀ h', IsD w h' d (putE xs k ep) (putK xs k key v) → Heap.SameBut d s.heap h' → Q () { s with heap := h', toks := s.toks + k.draws }) : wpAny (model prog w) A (setItem (.ref d) key v) Q E s := by
  unfold setItem
  refine wpAny_holding (wpAny_bind (wpAny_sequenceKey D.type (by decide) (wpAny_bind (wpAny_callSpecial?_slot (name := Str.ofString "__setitem__") D.type slot_dict_setitem (wpAny_call_entry slot_dict_setitem D.type entry_dict_setitem ?_ (args_dict_setitem _ _ _))))))
  refine wpAny_bind (wpAny_notOrdered_dict D.type ?_)
  show wpAny (model prog w) A.in1 (dictSet d key v >>= _) _ _ s
  exact wpAny_bind (set (A := A.in1) (by rw [Around.in1_units]; omega) hk D hz fun h' i sb => wpAny_pure ⟨.none, rfl, wpAny_pure (h h' i sb)⟩)
/-- d.get(k), d.get(k, x) -/
theorem getM {more : List Value} {x : Value} {Q : Value → Shared → Prop} (hm : (more = [] ∧ x = .none) ∨ more = [x]) (hu : A.units + 9 < cLine) (hk : IsK s.heap k key) (hd : (d == sysModules) = false) (D : Dk w s d ep xs)
    (h : Q ((getK xs k).getD x) { s with toks := s.toks + k.draws }) : wpAny (model prog w) A (call (.builtin "dict.get") (.ref d :: key :: more)) Q E s := by
  rcases hm with ⟨rfl, rfl⟩ | rfl
  · refine wpAny_call_entry F.slot_dict_get D.type F.entry_dict_get ?_ (F.args_dict_get_2 _ _)
    show wpAny (model prog w) A.in1 (dictGet d key >>= _) _ _ s
    refine wpAny_bind (get (A := A.in1) (by rw [Around.in1_units]; omega) hk D ?_)
    cases e : getK xs k with
    | some v =>
      rw [e] at h
      exact wpAny_pure ⟨v, rfl, h⟩
    | none =>
      rw [e] at h
      exact wpAny_bind (wpAny_missed_other hd (wpAny_pure ⟨_, rfl, h⟩))
  · refine wpAny_call_entry F.slot_dict_get D.type F.entry_dict_get ?_ (F.args_dict_get_3 _ _ _)
    show wpAny (model prog w) A.in1 (dictGet d key >>= _) _ _ s
    refine wpAny_bind (get (A := A.in1) (by rw [Around.in1_units]; omega) hk D ?_)
    cases e : getK xs k with
    | some v =>
      rw [e] at h
      exact wpAny_pure ⟨v, rfl, h⟩
    | none =>
      rw [e] at h
      exact wpAny_bind (wpAny_missed_other hd (wpAny_pure ⟨_, rfl, h⟩))
end
end MeD
end
section
set_option Elab.async false
set_option linter.all false
set_option maxRecDepth 100000
set_option maxHeartbeats 4000000
/-! dicts of mixed keys: many pairs stored, displays -/
namespace MeD
open PySem PySem.Spec PyProof.Rows
def mergeK (acc ps : List Ent) : List Ent := ps.foldl (fun r p => putK r p.1 p.2.1 p.2.2) acc
def mergeE : List Ent → List Ent → Nat → Nat
  | _, [], ep => ep
  | acc, p :: ps, ep => mergeE (putK acc p.1 p.2.1 p.2.2) ps (putE acc p.1 ep)
theorem mergeK_len : ∀ (ps acc : List Ent), (mergeK acc ps).length ≤ acc.length + ps.length
  | [], acc => Nat.le_refl _
  | p :: ps, acc => by
    have h1 := mergeK_len ps (putK acc p.1 p.2.1 p.2.2)
    have h2 := putK_len (xs := acc) (k := p.1) (key := p.2.1) (v := p.2.2)
    have h3 : (p :: ps).length = ps.length + 1 := rfl
    show (mergeK (putK acc p.1 p.2.1 p.2.2) ps).length ≤ _
    omega
theorem mergeK_nodup : ∀ (ps acc : List Ent), (acc.map (·.1)).Nodup → ((mergeK acc ps).map (·.1)).Nodup
  | [], _, h => h
  | p :: ps, acc, h => mergeK_nodup ps _ (putK_nodup h)
section
variable {prog : Program} {w : World} {A : Around} {E : Value → Shared → Prop} {s : Shared} {d : Addr} {ep : Nat} {xs : List Ent} {k : NestedKey} {key : Value} {h h' : Heap}
theorem IsK.but {o : Obj} {es : Array DictEntry} (i : IsK h k key) (ho : h.get? d = some o) (hd : o.data = .dict es ep) (sb : Heap.SameBut d h h') : IsK h' k key := by
  refine ⟨NestedIs.at (fun a ob vs n e1 e2 => ?_) k key i.1, i.2⟩
  refine (sb.2 a fun z => ?_).trans e1
  rw [z, ho] at e1
  cases e1
  rw [hd] at e2
  cases e2
theorem Dk.put {v : Value} (D : Dk w s d ep xs) (hk : IsK s.heap k key) (i : IsD w h' d (putE xs k ep) (putK xs k key v)) (sb : Heap.SameBut d s.heap h') {t : Nat} : Dk w { s with heap := h', toks := t } d (putE xs k ep) (putK xs k key v) := by
  obtain ⟨o, es, ho, _, hd, _⟩ := D.is
  refine ⟨i, fun x hx => ?_, putK_nodup D.hn⟩
  unfold putK at hx
  split at hx
  · rename_i j hj
    obtain ⟨n, hn⟩ := List.mem_iff_getElem?.mp hx
    rw [List.getElem?_modify] at hn
    cases q : xs[n]? with
    | none => rw [q] at hn; cases hn
    | some y =>
      rw [q] at hn
      have hy := (D.his y (List.mem_of_getElem? q)).but ho hd sb
      have e := Option.some.inj hn
      split at e
      · rw [← e]
        exact hy
      · rw [← e]
        exact hy
  · rcases List.mem_append.mp hx with hx | hx
    · exact (D.his x hx).but ho hd sb
    · rw [List.mem_singleton.mp hx]
      exact hk.but ho hd sb
theorem storeAll (hu : A.units + 8 < cLine) : ∀ (ps acc : List Ent) (ep : Nat) (s : Shared) (Q : PUnit → Shared → Prop), (∀ p ∈ ps, IsK s.heap p.1 p.2.1) → Dk w s d ep acc → acc.length + ps.length ≤ sizeLine →
    (∀ h' tk, IsD w h' d (mergeE acc ps ep) (mergeK acc ps) → Heap.SameBut d s.heap h' → Q PUnit.unit { s with heap := h', toks := tk }) →
    wpAny (model prog w) A (forIn (ps.map fun p => p.2) PUnit.unit fun (x : Value × Value) (_ : PUnit) => (dictSet d x.1 x.2 >>= fun _ => pure (ForInStep.yield PUnit.unit) : Sem (ForInStep PUnit))) Q E s
  | [], acc, ep, s, Q, _, D, _, h => wpAny_pure (h s.heap s.toks D.is (Heap.SameBut.refl _ _))
  | p :: ps, acc, ep, s, Q, hp, D, hz, h => by
    have hl : (p :: ps).length = ps.length + 1 := rfl
    rw [List.map_cons, List.forIn_cons]
    have k0 := hp p List.mem_cons_self
    refine wpAny_bind (wpAny_bind (set hu k0 D (by omega) fun h1 i1 b1 => wpAny_pure ?_))
    obtain ⟨o, es, ho, _, hd, _⟩ := D.is
    refine storeAll hu ps _ _ _ Q (fun q hq => (hp q (List.mem_cons_of_mem _ hq)).but ho hd b1) (D.put k0 i1 b1) ?_ fun h2 tk i2 b2 => h h2 tk i2 (b1.trans b2)
    have := putK_len (xs := acc) (k := p.1) (key := p.2.1) (v := p.2.2)
    omega
theorem emptyD (h : Heap) : IsD w (h.push { cls := .type "dict", data := .dict #[] }) h.objs.size 0 [] := ⟨_, #[], Heap.get?_push_size _ rfl, ⟨rfl, rfl, rfl⟩, rfl, rfl⟩
/-- a display -/
theorem display {env : Env} {keys : List (Option Expr)} {values : List Expr} {pos : Pos} {Q : Value → Shared → Prop} (hu : A.units + 8 < cLine) (hall : keys.all (·.isSome) = true) (hl : keys.length = values.length) (h0 : keys ≠ []) (h15 : keys.length ≤ 15)
    (h : wpAny (model prog w) A (evalPairs (pairTrees keys values env pos)) (fun vs s1 => ∃ ps : List Ent, vs = ps.map (fun p => p.2) ∧ (∀ p ∈ ps, IsK s1.heap p.1 p.2.1) ∧ IsD w s1.heap s.heap.objs.size 0 [] ∧
      ∀ h' tk, IsD w h' s.heap.objs.size (mergeE [] ps 0) (mergeK [] ps) → Heap.SameBut s.heap.objs.size s1.heap h' → Q (.ref s.heap.objs.size) { s1 with heap := h', toks := tk }) E { s with heap := s.heap.push { cls := .type "dict", data := .dict #[] } }) :
    wpAny (model prog w) A (eval (.Dict keys values pos) env) Q E s := by
  have hn := pairTrees_length keys values env pos hall hl
  rw [arm_eval_Dict, zip_pairTrees keys values env pos hall hl, dictDisplay_pairs _ (fun z => h0 (List.length_eq_zero_iff.mp (by rw [← hn, z]; rfl))) (by omega)]
  refine wpAny_bind (wpAny_standAt (wpAny_bind ?_))
  unfold subDict
  refine wpAny_bind (wpAny_alloc (wpAny_bind (wpAny_holding ?_)))
  refine iteC (fun _ => ?_) fun z => absurd (by omega) z
  refine wpAny_bind (wpAny_mono (wpAny_evalPairs_len h) (fun vs s1 h1 => ?_) fun _ _ e => e)
  obtain ⟨hv, ps, rfl, hp, i, q⟩ := h1
  rw [List.length_map] at hv
  refine wpAny_holding (wpAny_bind (storeAll hu ps [] 0 s1 _ hp ⟨i, fun x hx => (by cases hx), List.nodup_nil⟩ ?_ fun h' tk i' b' => wpAny_pure (wpAny_pure (wpAny_pure (q h' tk i' b')))))
  rw [sizeLine_eq, List.length_nil]
  omega
end
end MeD
end
section
set_option Elab.async false
set_option linter.all false
set_option maxRecDepth 100000
set_option maxHeartbeats 4000000
/-! dicts: in, d[k], d[k] = v, d.get -/
namespace Mi
open PySem PySem.Spec PyProof.Rows L2 Evl MeV MeG MeD
/-! operations told by what they do to trees -/
def rG2 (c : Cc) (g : D → D → Mem → R D) : R2 := fun x y H Q => ∃ E S ι mem d1 d2, SR c S ι mem H ∧ Rep c (fz S ι H) ι x d1 ∧ Rep c (fz S ι H) ι y d2 ∧ Post c E S ι H (rD c) (g d1 d2 mem) Q
theorem sim_G2 {c : Cc} {g : D → D → Mem → R D} : SimR c (rG2 c g) g := fun E S ι mem H x y d1 d2 Q s r1 r2 p => ⟨E, S, ι, mem, d1, d2, s, r1, r2, p⟩
def rGM (c : Cc) (g : D → List D → Mem → R D) : V → List V → Hp → VK → Prop := fun x xs H Q => ∃ E S ι mem d ds, SR c S ι mem H ∧ Rep c (fz S ι H) ι x d ∧ RepA c (fz S ι H) ι xs ds ∧ Post c E S ι H (rD c) (g d ds mem) Q
theorem sim_GM {c : Cc} {g : D → List D → Mem → R D} : SimM c (rGM c g) g := fun E S ι mem H x xs d ds Q s r1 r2 p => ⟨E, S, ι, mem, d, ds, s, r1, r2, p⟩
def rGB (c : Cc) (g : List D → Mem → R D) : List V → Hp → VK → Prop := fun xs H Q => ∃ E S ι mem ds, SR c S ι mem H ∧ RepA c (fz S ι H) ι xs ds ∧ Post c E S ι H (rD c) (g ds mem) Q
theorem sim_GB {c : Cc} {g : List D → Mem → R D} : SimB c (rGB c g) g := fun E S ι mem H xs ds Q s r p => ⟨E, S, ι, mem, ds, s, r, p⟩
abbrev cX (X : Cx) (cl : Cl) : Cc := ⟨X.w, X.K, cl⟩
section
variable {X : Cx} {pins : List (Addr × Obj)} {σ : L2.St} {H h : Hp} {s : Shared} {cl : Cl} {ι : List Addr}
mutual
theorem key_is (I : Inv X pins σ H s) (e : Ex h H) : ∀ {v : V} {d : D} {k : NestedKey} {u : Value}, Rep (cX X cl) h ι v d → keyD d = some k → RelV v u → NestedIs s.heap k u
  | _, _, _, _, .non, q, r => by
    simp only [keyD] at q
    cases q
    obtain rfl := r
    exact .none
  | _, _, _, _, .bl b, q, r => by
    simp only [keyD] at q
    cases q
    obtain rfl := r
    exact .bool rfl
  | _, _, _, _, .int i, q, r => by
    simp only [keyD] at q
    cases q
    obtain ⟨t, rfl⟩ := r
    exact .int i t
  | _, _, _, _, .str x, q, r => by
    simp only [keyD] at q
    cases q
    obtain ⟨t, rfl⟩ := r
    exact .text x t
  | _, _, _, _, .ty _, q, _ => by simp only [keyD] at q; cases q
  | _, _, _, _, .ref _, q, _ => by simp only [keyD] at q; cases q
  | _, _, _, _, .lst _ _, q, _ => by simp only [keyD] at q; cases q
  | _, _, _, _, .scr _ _, q, _ => by simp only [keyD] at q; cases q
  | _, _, _, _, .dic _ _, q, _ => by simp only [keyD] at q; cases q
  | _, _, _, _, .obj _ _, q, _ => by simp only [keyD] at q; cases q
  | _, _, _, _, .tup h1 h2, q, r => by
    simp only [keyD] at q
    obtain ⟨ks, h3, h4⟩ := Option.map_eq_some_iff.mp q
    subst h4
    obtain rfl := r
    obtain ⟨its, h5, ⟨o, h6, h7, n, h8⟩, _⟩ := I.tuple (ex_t e h1)
    exact .tup h6 h7 h8 (keys_are I e h2 h3 h5)
theorem keys_are (I : Inv X pins σ H s) (e : Ex h H) : ∀ {vs : List V} {ds : List D} {ks : List NestedKey} {us : List Value}, RepA (cX X cl) h ι vs ds → keysD ds = some ks → Vals vs us → NestedAll s.heap ks us
  | _, _, _, _, .nil, q, r => by
    simp only [keysD] at q
    cases q
    cases r
    exact .nil
  | _, _, _, _, .cons a b, q, r => by
    simp only [keysD] at q
    obtain ⟨k, h1, h2⟩ := Option.bind_eq_some_iff.mp q
    obtain ⟨ks, h3, h4⟩ := Option.map_eq_some_iff.mp h2
    subst h4
    cases r with
    | cons r1 r2 => exact .cons (key_is I e a h1 r1) (keys_are I e b h3 r2)
end
theorem key8_is (I : Inv X pins σ H s) (e : Ex h H) {v : V} {d : D} {k : NestedKey} {u : Value} (r : Rep (cX X cl) h ι v d) (q : key8 d = some k) (rv : RelV v u) : IsK s.heap k u := by
  obtain ⟨k', h1, h2⟩ := Option.bind_eq_some_iff.mp q
  cases hb : Nat.ble k'.depth 8 with
  | true =>
    rw [hb] at h2
    cases h2
    exact ⟨key_is I e r h1 rv, Nat.le_of_ble_eq_true hb⟩
  | false =>
    rw [hb] at h2
    cases h2
end
/-- the pairs of a dict -/
def dicOf (m : Mem) : D → Option (List (D × D))
  | .dic ds => some ds
  | .ref n => match m[n]? with
    | some (.dic _ ds) => some ds
    | _ => none
  | _ => none
def keyIs (k : NestedKey) (d : D) : Bool := match key8 d with
  | some x => NestedKey.beq x k
  | none => false
def ixD (ds : List (D × D)) (k : NestedKey) : Option Nat := ds.findIdx? fun p => keyIs k p.1
section
variable {c : Cc} {h : Hp} {ι : List Addr}
theorem ix_ix (k : NestedKey) : ∀ {xs : List EntV} {us : List Ent} {ds : List (D × D)}, RepK c h ι xs ds → PairE xs us → ixK us k = ixD ds k
  | _, _, _, .nil, .nil => rfl
  | _, _, _, .cons (k := kk) (dk := dk) z a b r, .cons p t => by
    unfold ixK ixD
    rw [List.findIdx?_cons, List.findIdx?_cons]
    have ih := ix_ix k r t
    unfold ixK ixD at ih
    rw [ih]
    have e : keyIs k dk = NestedKey.beq kk k := by
      unfold keyIs
      rw [z]
    show (if decide (_ = k) = true then _ else _) = if keyIs k dk = true then _ else _
    rw [e, ← p.1, NestedKey.decide_eq]
theorem RepK.at_ : ∀ {xs : List EntV} {ds : List (D × D)} {i : Nat} {p : D × D}, RepK c h ι xs ds → ds[i]? = some p → ∃ x, xs[i]? = some x ∧ key8 p.1 = some x.1 ∧ Rep c h ι x.2.1 p.1 ∧ Rep c h ι x.2.2 p.2
  | _, _, _, _, .nil, e => by cases e
  | _, _, 0, _, .cons z a b r, e => by
    cases e
    exact ⟨_, rfl, z, a, b⟩
  | _, _, i + 1, _, .cons z a b r, e => RepK.at_ (i := i) r (by simpa using e)
theorem RepK.len : ∀ {xs : List EntV} {ds : List (D × D)}, RepK c h ι xs ds → xs.length = ds.length
  | _, _, .nil => rfl
  | _, _, .cons _ _ _ r => congrArg (· + 1) (RepK.len r)
theorem PairE.get {xs : List EntV} {us : List Ent} {i : Nat} {x : EntV} (p : PairE xs us) (e : xs[i]? = some x) : ∃ u, us[i]? = some u ∧ x.1 = u.1 ∧ RelV x.2.1 u.2.1 ∧ RelV x.2.2 u.2.2 := by
  induction p generalizing i with
  | nil => cases e
  | cons r t ih =>
    cases i with
    | zero =>
      cases e
      exact ⟨_, rfl, r⟩
    | succ i => exact ih (by simpa using e)
end
section
variable {X : Cx} {pins : List (Addr × Obj)} {σ : L2.St} {H : Hp} {s : Shared} {cl : Cl} {S : Wv} {ι : List Addr} {mem : Mem} {x : V} {d : D} {ds : List (D × D)}
theorem dk_of (I : Inv X pins σ H s) {h : Hp} (e : Ex h H) {a : Addr} {ep : Nat} {xs : List EntV} (ha : H a = some (DicO X.w a ep xs)) (r : RepK (cX X cl) h ι xs ds) : Fine a xs ∧ ∃ us, PairE xs us ∧ Dk X.w s a ep us := by
  obtain ⟨f, us, p, i⟩ := ok_dic (I.hok a _ ha)
  refine ⟨f, us, p, i, fun y hy => ?_, by rw [p.keys]; exact f.2.2⟩
  obtain ⟨j, hj⟩ := List.mem_iff_getElem?.mp hy
  obtain ⟨z, h1, h2, h3, _⟩ := p.at_ hj
  obtain ⟨q, hq⟩ : ∃ q, ds[j]? = some q := by
    have hl := (List.getElem?_eq_some_iff.mp h1).1
    exact ⟨ds[j]'(by rw [← r.len]; exact hl), List.getElem?_eq_getElem _⟩
  obtain ⟨z', h4, h5, h6, _⟩ := r.at_ hq
  rw [h1] at h4
  cases h4
  rw [← h2]
  exact key8_is I e h6 h5 h3
theorem dic_at (I : Inv X pins σ H s) (sr : SR (cX X cl) S ι mem H) (r : Rep (cX X cl) (fz S ι H) ι x d) (e : dicOf mem d = some ds) :
    ∃ a ep xs us, x = .ref a ∧ H a = some (DicO X.w a ep xs) ∧ RepK (cX X cl) (fz S ι H) ι xs ds ∧ Fine a xs ∧ PairE xs us ∧ Dk X.w s a ep us := by
  unfold dicOf at e
  cases r with
  | @ref n a hn =>
    dsimp only at e
    cases hm : mem[n]? with
    | none =>
      rw [hm] at e
      cases e
    | some o =>
      rw [hm] at e
      cases o <;> cases e
      obtain ⟨O, h1, h2⟩ := sr.at_ n a _ hn hm
      cases h2 with
      | dic k =>
        have ha := S.sub _ _ _ h1
        obtain ⟨f, us, p, dk⟩ := dk_of I fz_sub ha k
        exact ⟨a, _, _, us, rfl, ha, k, f, p, dk⟩
  | @dic a _ xs _ h1 k =>
    cases e
    have ha := fz_sub _ _ h1
    obtain ⟨f, us, p, dk⟩ := dk_of I fz_sub ha k
    exact ⟨a, _, _, us, rfl, ha, k, f, p, dk⟩
  | _ => cases e
end
/-! k in d, k not in d -/
def gDIn (n : Bool) : D → D → Mem → R D := fun k d m => match key8 k, dicOf m d with
  | some q, some ds => .ok (.bl (n != (ixD ds q).isSome)) m
  | _, _ => .no
def gDGet : D → D → Mem → R D := fun d k m => match key8 k, dicOf m d with
  | some q, some ds => match ixD ds q with
    | some j => match ds[j]? with
      | some p => .ok p.2 m
      | none => .no
    | none => .no
  | _, _ => .no
def lookD (ds : List (D × D)) (k : NestedKey) (x : D) : D := match ixD ds k with
  | some j => match ds[j]? with
    | some p => p.2
    | none => x
  | none => x
def gGet2 (d k x : D) (m : Mem) : R D := match key8 k, dicOf m d with
  | some q, some ds => .ok (lookD ds q x) m
  | _, _ => .no
def gDGetM : D → List D → Mem → R D := fun d as m => match as with
  | [k] => gGet2 d k .non m
  | [k, x] => gGet2 d k x m
  | _ => .no
section
variable {c : Cc} {h : Hp} {ι : List Addr}
theorem look_ok {xs : List EntV} {us : List Ent} {ds : List (D × D)} {k : NestedKey} {zv : V} {z : Value} {zd : D} (r : RepK c h ι xs ds) (p : PairE xs us) (rz : Rep c h ι zv zd) (ez : RelV zv z) : ∃ v, Rep c h ι v (lookD ds k zd) ∧ RelV v ((getK us k).getD z) := by
  have e := ix_ix k r p
  unfold lookD getK
  rw [e]
  cases q : ixD ds k with
  | none => exact ⟨zv, rz, ez⟩
  | some j =>
    obtain ⟨y, hy⟩ := ixK_some (e.trans q)
    obtain ⟨x, h1, _, _, h2⟩ := p.at_ hy
    obtain ⟨pr, hp⟩ : ∃ pr, ds[j]? = some pr := by
      have hl := (List.getElem?_eq_some_iff.mp h1).1
      exact ⟨ds[j]'(by rw [← r.len]; exact hl), List.getElem?_eq_getElem _⟩
    obtain ⟨x', h3, _, _, h4⟩ := r.at_ hp
    rw [h1] at h3
    cases h3
    dsimp only
    rw [hp, Option.bind_some, hy]
    exact ⟨x.2.2, h4, h2⟩
end
section
variable {X : Cx} {cl : Cl}
theorem op_dIn (hu : X.A.units + 9 < cLine) : OpR X (compareOp .In) (rG2 (cX X cl) (gDIn false)) := fun pins s σ H x y v u Q I rx ry ⟨E, S, ι, mem, d1, d2, sr, r1, r2, p⟩ => by
  unfold gDIn at p
  cases hk : key8 d1 with
  | none => rw [hk] at p; exact p.elim
  | some k =>
    cases hd : dicOf mem d2 with
    | none => rw [hk, hd] at p; exact p.elim
    | some ds =>
      rw [hk, hd] at p
      obtain ⟨a, ep, xs, us, rfl, ha, k1, f, pe, dk⟩ := dic_at I sr r2 hd
      obtain rfl := ry
      refine wpAny_bind (has hu (key8_is I fz_sub r1 hk rx) f.2.1 dk (wpAny_pure ⟨.bl (ixK us k).isSome, H, I.tok _, rfl, ?_⟩))
      rw [ix_ix k k1 pe]
      have p' : Post (cX X cl) E S ι H (rD (cX X cl)) (.ok (.bl (false != (ixD ds k).isSome)) mem) Q := p
      rw [Bool.false_bne] at p'
      exact Post.here p' sr (Rep.bl _)
theorem op_dNotIn (hu : X.A.units + 9 < cLine) : OpR X (compareOp .NotIn) (rG2 (cX X cl) (gDIn true)) := fun pins s σ H x y v u Q I rx ry ⟨E, S, ι, mem, d1, d2, sr, r1, r2, p⟩ => by
  unfold gDIn at p
  cases hk : key8 d1 with
  | none => rw [hk] at p; exact p.elim
  | some k =>
    cases hd : dicOf mem d2 with
    | none => rw [hk, hd] at p; exact p.elim
    | some ds =>
      rw [hk, hd] at p
      obtain ⟨a, ep, xs, us, rfl, ha, k1, f, pe, dk⟩ := dic_at I sr r2 hd
      obtain rfl := ry
      refine wpAny_bind (has hu (key8_is I fz_sub r1 hk rx) f.2.1 dk (wpAny_pure ⟨.bl (!(ixK us k).isSome), H, I.tok _, rfl, ?_⟩))
      rw [ix_ix k k1 pe]
      have p' : Post (cX X cl) E S ι H (rD (cX X cl)) (.ok (.bl (true != (ixD ds k).isSome)) mem) Q := p
      rw [Bool.true_bne] at p'
      exact Post.here p' sr (Rep.bl _)
end
end Mi
end
section
set_option Elab.async false
set_option linter.all false
set_option maxRecDepth 100000
set_option maxHeartbeats 4000000
/-! methods of built-in kinds, whichever the receiver is; dicts: d[k], d.get, d[k] = v, displays -/
namespace Mi
open PySem PySem.Spec PyProof.Rows L2 Evl MeV MeG MeD
abbrev GM := D → List D → Mem → R D
/-- the operation is chosen by the receiver -/
def mMt (sel : Mem → D → Option GM) (o : ME) (r : MA) : ME := fun sl m => (o sl m).bind fun d m1 => match sel m1 d with
  | some g => (r sl m1).bind fun ds m2 => g d ds m2
  | none => .no
structure Meth (X : Cx) (cl : Cl) (name : Str) (sel : Mem → D → Option GM) : Prop where
  run : ∀ {pins : List (Addr × Obj)} {s : Shared} {σ : L2.St} {H : Hp} {x : V} {v : Value} {S : Wv} {ι : List Addr} {mem : Mem} {d : D} {g : GM}, Inv X pins σ H s → RelV x v → SR (cX X cl) S ι mem H → Rep (cX X cl) (fz S ι H) ι x d → sel mem d = some g →
    ∃ T id, PlainAttrs T ∧ Slot T name id ∧ typeOf (.builtin id) = pure (.type "method_descriptor") ∧ s.TypeIs v T ∧ (∀ a, v = .ref a → ∃ ob, s.heap.get? a = some ob ∧ ob.dict = none) ∧ MtR X id (rGM (cX X cl) g)
def selOr (f g : Mem → D → Option GM) : Mem → D → Option GM := fun m d => match f m d with
  | some q => some q
  | none => g m d
section
variable {X : Cx} {cl : Cl} {name : Str} {f g : Mem → D → Option GM}
theorem Meth.or (a : Meth X cl name f) (b : Meth X cl name g) : Meth X cl name (selOr f g) := ⟨fun {pins s σ H x v S ι mem d q} I rv sr r e => by
  unfold selOr at e
  cases h : f mem d with
  | some q' =>
    rw [h] at e
    cases e
    exact a.run I rv sr r h
  | none =>
    rw [h] at e
    exact b.run I rv sr r e⟩
theorem mtG {id : String} {r : V → List V → Hp → VK → Prop} {g : GM} (h : MtR X id r) (sm : SimM (cX X cl) r g) : MtR X id (rGM (cX X cl) g) := fun pins s σ H x xs v us Q I rx rs ⟨E, S, ι, mem, d, ds, sr, r1, r2, p⟩ => h pins s σ H x xs v us Q I rx rs (sm E S ι mem H x xs d ds Q sr r1 r2 p)
end
section
variable {X : Cx} {cl : Cl} {E : SX} {o e : Expr} {es : List Expr} {x : ME} {ms : MA} {name : Str} {apos cpos : Pos} {sel : Mem → D → Option GM}
/-- the reading of a call of a method -/
def tMt (c : Cc) (sel : Mem → D → Option GM) (to : TE) (t : TA) : TE := fun σ H Q => to σ H fun v H1 => ∃ S ι mem d g, SR c S ι mem H1 ∧ Rep c (fz S ι H1) ι v d ∧ sel mem d = some g ∧ t σ H1 fun vs H2 => rGM c g v vs H2 Q
theorem s_mt {c : Cc} (σ : L2.St) (H : Hp) (Q : VK) : tM c E (mMt sel x ms) σ H Q → tMt c sel (tM c E x) (tMA c E ms) σ H Q := fun ⟨S, ι, mem, sl, s, q, p⟩ =>
  run1 (RR := rD c) s q p fun v d ι1 m1 H1 s1 f1 r1 p1 => by
    cases h : sel m1 d with
    | none =>
      rw [h] at p1
      exact p1.elim
    | some g =>
      rw [h] at p1
      exact ⟨S, ι1, m1, d, g, s1, r1, h, run1 (RR := rA c) s1 (q.fr f1) p1 fun vs ds ι2 m2 H2 s2 f2 r2 p2 => ⟨E σ, S, ι2, m2, d, ds, s2, r1.up f2.e f2.p, r2, p2⟩⟩
theorem m_mt (M : Meth X cl name sel) (ho : PE X o (tM (cX X cl) E x)) (ha : PA X (e :: es) (tMA (cX X cl) E ms))
    (hbase : attributeBase o name X.env (eval o X.env) = eval o X.env := by rfl)
    (hfew : ((backTo cpos (starEach (e :: es) X.env)).all (fun x => !x.1) && (backToKw cpos (keywordEach [] X.env)).all (fun x => x.1.isSome) && decide ((e :: es).length + ([] : List Keyword).length + (if ([] : List Keyword).isEmpty then 0 else 1) < 30)) = true := by rfl)
    (hline : (apos.endLine == cpos.line) = true := by rfl) (hs : starEach (e :: es) X.env = (false, eval e X.env) :: starEach es X.env := by rfl) (hplain : (backTo cpos (starEach es X.env)).any (·.1) = false := by rfl) :
    PE X (.Call (.Attribute o name apos) (e :: es) [] cpos) (tM (cX X cl) E (mMt sel x ms)) := PE.weak (t := tMt (cX X cl) sel (tM (cX X cl) E x) (tMA (cX X cl) E ms)) ⟨fun pins s σ H Q I h => by
  refine wpAny_Call_method_late hbase hfew hline rfl (thn (ho.run pins s σ H _ I h) fun v s1 ⟨y, H1, I1, r1, S, ι, mem, d, g, sr, r, hsel, q1⟩ => ?_)
  obtain ⟨T, id, pa, slot, hty, h1, h2, hm⟩ := M.run I1 r1 sr r hsel
  have hA := ha.run cpos pins s1 σ H1 _ I1 q1
  rw [hs] at hA
  refine ⟨T, id, pa, slot, hty, h1, h2, ?_⟩
  rw [hs]
  refine Calls.callWith_builtin ?_ (Calls.evalArgs_plain (thn hA fun us s2 ⟨vs, H2, I2, r2, q2⟩ => hm pins s2 σ H2 y vs v us Q I2 r1 r2 q2))
  show (false || (backTo cpos (starEach es X.env)).any (·.1)) = false
  rw [hplain]
  rfl⟩ s_mt
theorem m_mt0 (M : Meth X cl name sel) (ho : PE X o (tM (cX X cl) E x)) (hbase : attributeBase o name X.env (eval o X.env) = eval o X.env := by rfl) (hline : (apos.endLine == cpos.line) = true := by rfl) :
    PE X (.Call (.Attribute o name apos) [] [] cpos) (tM (cX X cl) E (mMt sel x mNil)) := PE.weak (t := tMt (cX X cl) sel (tM (cX X cl) E x) tNil) ⟨fun pins s σ H Q I h => by
  refine wpAny_Call_method0_late hbase hline (thn (ho.run pins s σ H _ I h) fun v s1 ⟨y, H1, I1, r1, S, ι, mem, d, g, sr, r, hsel, q1⟩ => ?_)
  obtain ⟨T, id, pa, slot, hty, h1, h2, hm⟩ := M.run I1 r1 sr r hsel
  exact ⟨T, id, pa, slot, hty, h1, h2, Calls.callWith_builtin rfl (PySem.evalArgs_none (hm pins s1 σ H1 y [] v [] Q I1 r1 .nil q1))⟩⟩ fun σ H Q ⟨S, ι, mem, sl, s, q, p⟩ =>
  run1 (RR := rD (cX X cl)) s q p fun v d ι1 m1 H1 s1 f1 r1 p1 => by
    cases h : sel m1 d with
    | none =>
      rw [h] at p1
      exact p1.elim
    | some g =>
      rw [h] at p1
      exact ⟨S, ι1, m1, d, g, s1, r1, h, E σ, S, ι1, m1, d, [], s1, r1, .nil, p1⟩
end
/-! kinds of receivers -/
def isD (m : Mem) (d : D) : Bool := (dicOf m d).isSome
def selB (ok : Mem → D → Bool) (g : GM) : Mem → D → Option GM := fun m d => bif ok m d then some g else none
section
variable {X : Cx} {cl : Cl} {name : Str} {id : String} {g : GM}
theorem meth_dict (slot : Slot "dict" name id) (hty : typeOf (.builtin id) = pure (.type "method_descriptor")) (h : MtR X id (rGM (cX X cl) g)) : Meth X cl name (selB isD g) := ⟨fun {pins s σ H x v S ι mem d q} I rv sr r e => by
  unfold selB at e
  cases hd : isD mem d with
  | false => rw [hd] at e; cases e
  | true =>
    rw [hd] at e
    cases e
    obtain ⟨ds, hds⟩ := Option.isSome_iff_exists.mp hd
    obtain ⟨a, ep, xs, us, rfl, ha, k1, f, pe, dk⟩ := dic_at I sr r hds
    obtain rfl := rv
    obtain ⟨o, _, ho, hc, _⟩ := dk.is
    exact ⟨"dict", id, PySem.F.plainAttrs_dict, slot, hty, dk.type, fun b e => (by cases e; exact ⟨o, ho, hc.2.1⟩), h⟩⟩
theorem meth_list (slot : Slot "list" name id) (hty : typeOf (.builtin id) = pure (.type "method_descriptor")) (h : MtR X id (rGM (cX X cl) g)) : Meth X cl name (selB isL g) := ⟨fun {pins s σ H x v S ι mem d q} I rv sr r e => by
  unfold selB at e
  cases hd : isL mem d with
  | false => rw [hd] at e; cases e
  | true =>
    rw [hd] at e
    cases e
    obtain ⟨h1, h2⟩ := tyV_is I rv (isL_ok (c := cX X cl) sr r hd)
    exact ⟨"list", id, PySem.F.plainAttrs_list, slot, hty, h1, h2, h⟩⟩
def isS (m : Mem) : D → Bool
  | .str _ => true
  | _ => false
theorem meth_str (slot : Slot "str" name id) (hty : typeOf (.builtin id) = pure (.type "method_descriptor")) (h : MtR X id (rGM (cX X cl) g)) : Meth X cl name (selB isS g) := ⟨fun {pins s σ H x v S ι mem d q} I rv sr r e => by
  unfold selB at e
  cases r <;> try (cases e; done)
  cases e
  obtain ⟨t, rfl⟩ := rv
  exact ⟨"str", id, PySem.F.plainAttrs_str, slot, hty, typeIs_str s _ t, fun _ e => (by cases e), h⟩⟩
end
/-! d.get -/
section
variable {X : Cx} {cl : Cl}
theorem mt_dget (hu : X.A.units + 9 < cLine) : MtR X "dict.get" (rGM (cX X cl) gDGetM) := fun pins s σ H x xs v us Q I rx rs ⟨E, S, ι, mem, d, ds, sr, r1, r2, p⟩ => by
  have go : ∀ {us' : List Value} {u0 z : Value} {y zv : V} {dk zd : D}, ((us' = [] ∧ z = .none) ∨ us' = [z]) → Rep (cX X cl) (fz S ι H) ι y dk → RelV y u0 → Rep (cX X cl) (fz S ι H) ι zv zd → RelV zv z → Post (cX X cl) E S ι H (rD (cX X cl)) (gGet2 d dk zd mem) Q →
      wpAny (model X.prog X.w) X.A (call (.builtin "dict.get") (v :: u0 :: us')) (EP X pins σ Q) X.xe s := fun {us' u0 z y zv dk zd} hm ry r0 rz ez p => by
    unfold gGet2 at p
    cases hk : key8 dk with
    | none => rw [hk] at p; exact p.elim
    | some k =>
      cases hd : dicOf mem d with
      | none => rw [hk, hd] at p; exact p.elim
      | some kvs =>
        rw [hk, hd] at p
        obtain ⟨a, ep, xs, ents, rfl, ha, k1, f, pe, dkk⟩ := dic_at I sr r1 hd
        obtain rfl := rx
        obtain ⟨w, h1, h2⟩ := look_ok (k := k) k1 pe rz ez
        exact getM hm hu (key8_is I fz_sub ry hk r0) f.2.1 dkk ⟨w, H, I.tok _, h2, Post.here p sr h1⟩
  unfold gDGetM at p
  cases r2 with
  | nil => exact p.elim
  | cons ry r3 =>
    cases rs with
    | cons r0 rs' =>
      cases r3 with
      | nil =>
        cases rs'
        exact go (.inl ⟨rfl, rfl⟩) ry r0 Rep.non (show RelV .non .none from rfl) p
      | cons rz r4 =>
        cases rs' with
        | cons ez rs2 =>
          cases r4 with
          | nil =>
            cases rs2
            exact go (.inr rfl) ry r0 rz ez p
          | cons _ _ => exact p.elim
theorem meth_dget (hu : X.A.units + 9 < cLine) : Meth X cl "get" (selB isD gDGetM) := meth_dict PySem.F.slot_dict_get PySem.F.type_dict_get (mt_dget hu)
/-! d[k] -/
theorem ix_dict (hu : X.A.units + 9 < cLine) : IxR X (rG2 (cX X cl) gDGet) := fun value slice pins s σ H x y v u Q I rx ry ⟨E, S, ι, mem, d1, d2, sr, r1, r2, p⟩ hs => by
  unfold gDGet at p
  cases hk : key8 d2 with
  | none => rw [hk] at p; exact p.elim
  | some k =>
    cases hd : dicOf mem d1 with
    | none => rw [hk, hd] at p; exact p.elim
    | some kvs =>
      rw [hk, hd] at p
      dsimp only at p
      obtain ⟨a, ep, xs, ents, rfl, ha, k1, f, pe, dkk⟩ := dic_at I sr r1 hd
      obtain rfl := rx
      have e := ix_ix k k1 pe
      cases hi : ixD kvs k with
      | none => rw [hi] at p; exact p.elim
      | some j =>
        rw [hi] at p
        dsimp only at p
        cases hj : kvs[j]? with
        | none => rw [hj] at p; exact p.elim
        | some pr =>
          rw [hj] at p
          obtain ⟨w, h1, _, _, h2⟩ := k1.at_ hj
          obtain ⟨en, h3, _, _, h4⟩ := PairE.get pe h1
          have hg : getK ents k = some en.2.2 := by
            unfold getK
            rw [e, hi, Option.bind_some, h3]
            rfl
          exact subscriptTail_builtinR (x := en.2.2) dkk.type PySem.F.slot_dict_getitem.lookup (item hu (key8_is I fz_sub r2 hk ry) dkk hg ⟨rfl, w.2.2, H, I.tok _, h4, Post.here p sr h2⟩) hs
end
end Mi
end
section
set_option Elab.async false
set_option linter.all false
set_option maxRecDepth 100000
set_option maxHeartbeats 4000000
/-! dicts: d[k] = v, displays, len(d) -/
namespace Mi
open PySem PySem.Spec PyProof.Rows L2 Evl MeV MeG MeD
def putP (ds : List (D × D)) (k : NestedKey) (dk dv : D) : List (D × D) := match ixD ds k with
  | some j => ds.modify j fun p => (p.1, dv)
  | none => ds ++ [(dk, dv)]
def putN (ds : List (D × D)) (k : NestedKey) (ep : Nat) : Nat := match ixD ds k with
  | some _ => ep
  | none => ep + 1
section
variable {c : Cc} {h : Hp} {ι : List Addr} {k : NestedKey} {kv v : V} {dk dv : D}
theorem RepK.modify (r : Rep c h ι v dv) : ∀ {xs : List EntV} {ds : List (D × D)} (j : Nat), RepK c h ι xs ds → RepK c h ι (xs.modify j fun x => (x.1, x.2.1, v)) (ds.modify j fun p => (p.1, dv))
  | _, _, 0, .nil => .nil
  | _, _, _ + 1, .nil => .nil
  | _, _, 0, .cons z a _ t => .cons z a r t
  | _, _, j + 1, .cons z a b t => .cons z a b (RepK.modify r j t)
theorem RepK.snoc (z : key8 dk = some k) (a : Rep c h ι kv dk) (b : Rep c h ι v dv) : ∀ {xs : List EntV} {ds : List (D × D)}, RepK c h ι xs ds → RepK c h ι (xs ++ [(k, kv, v)]) (ds ++ [(dk, dv)])
  | _, _, .nil => .cons z a b .nil
  | _, _, .cons z' a' b' t => .cons z' a' b' (RepK.snoc z a b t)
theorem PairE.modify {u : Value} (r : RelV v u) : ∀ {xs : List EntV} {us : List Ent} (j : Nat), PairE xs us → PairE (xs.modify j fun x => (x.1, x.2.1, v)) (us.modify j fun x => (x.1, x.2.1, u))
  | _, _, 0, .nil => .nil
  | _, _, _ + 1, .nil => .nil
  | _, _, 0, .cons z t => .cons ⟨z.1, z.2.1, r⟩ t
  | _, _, j + 1, .cons z t => .cons z (PairE.modify r j t)
theorem PairE.snoc {u0 u : Value} (r0 : RelV kv u0) (r : RelV v u) : ∀ {xs : List EntV} {us : List Ent}, PairE xs us → PairE (xs ++ [(k, kv, v)]) (us ++ [(k, u0, u)])
  | _, _, .nil => .cons ⟨rfl, r0, r⟩ .nil
  | _, _, .cons z t => .cons z (PairE.snoc r0 r t)
/-- a pair is stored -/
theorem put_ok {xs : List EntV} {us : List Ent} {ds : List (D × D)} {u0 u : Value} (r : RepK c h ι xs ds) (p : PairE xs us) (z : key8 dk = some k) (a : Rep c h ι kv dk) (b : Rep c h ι v dv) (r0 : RelV kv u0) (r1 : RelV v u) :
    ∃ xs', RepK c h ι xs' (putP ds k dk dv) ∧ PairE xs' (MeD.putK us k u0 u) := by
  have e := ix_ix k r p
  unfold putP MeD.putK
  rw [e]
  cases q : ixD ds k with
  | none => exact ⟨_, r.snoc z a b, PairE.snoc r0 r1 p⟩
  | some j => exact ⟨_, r.modify b j, PairE.modify r1 j p⟩
theorem putN_ok {xs : List EntV} {us : List Ent} {ds : List (D × D)} (r : RepK c h ι xs ds) (p : PairE xs us) (ep : Nat) : putE us k ep = putN ds k ep := by
  unfold putE putN
  rw [ix_ix k r p]
  first | done | (cases ixD ds k <;> rfl)
theorem putP_len (ds : List (D × D)) : (putP ds k dk dv).length ≤ ds.length + 1 := by
  unfold putP
  split
  · rw [List.length_modify]
    omega
  · rw [List.length_append]
    exact Nat.le_refl _
end
section
variable {X : Cx} {pins : List (Addr × Obj)} {σ : L2.St} {H : Hp} {s : Shared} {cl : Cl} {S : Wv} {ι : List Addr} {mem : Mem} {ds : List (D × D)} {n : Nat} {a : Addr} {ep ep' : Nat}
/-- a dict of the memory -/
theorem dic_mem (I : Inv X pins σ H s) (sr : SR (cX X cl) S ι mem H) (hn : ι[n]? = some a) (hm : mem[n]? = some (.dic ep ds)) :
    ∃ xs us, H a = some (DicO X.w a ep xs) ∧ RepK (cX X cl) (fz S ι H) ι xs ds ∧ Fine a xs ∧ PairE xs us ∧ Dk X.w s a ep us := by
  obtain ⟨O, h1, h2⟩ := sr.at_ n a _ hn hm
  cases h2 with
  | dic k =>
    have ha := S.sub _ _ _ h1
    obtain ⟨f, us, p, dk⟩ := dk_of I fz_sub ha k
    exact ⟨_, us, ha, k, f, p, dk⟩
/-- .. is written -/
theorem dic_write {xs xs' : List EntV} {us' : List Ent} {ds' : List (D × D)} {h' : Heap} {t : Nat} (I : Inv X pins σ H s) (sr : SR (cX X cl) S ι mem H) (hn : ι[n]? = some a) (ha : H a = some (DicO X.w a ep xs)) (f : Fine a xs) (r : RepK (cX X cl) (fz S ι H) ι xs' ds') (p : PairE xs' us') (i : MeD.IsD X.w h' a ep' us') (nd : (us'.map (·.1)).Nodup)
    (hz : ds'.length ≤ sizeLine) (sb : Heap.SameBut a s.heap h') : Inv X pins σ (upd H a (DicO X.w a ep' xs')) { s with heap := h', toks := t } ∧ SR (cX X cl) S ι (mem.set n (.dic ep' ds')) (upd H a (DicO X.w a ep' xs')) ∧ Fr S ι H ι (upd H a (DicO X.w a ep' xs')) := by
  obtain ⟨s1, f1⟩ := sr.set (o := .dic ep' ds') (O := DicO X.w a ep' xs') hn (.dic r)
  refine ⟨I.write (x := a) (e := a) (by rw [ha]; exact trivial) (.inl rfl) (fun b u hb q => (sb.2 b hb).trans q) ?_ (dic_ok ⟨by rw [r.len]; exact hz, f.2.1, by rw [← p.keys]; exact nd⟩ p i), s1, f1⟩
  obtain ⟨o, _, ho, _⟩ := i
  exact ⟨o, ho⟩
end
/-- a thing of the memory -/
theorem ref_of {c : Cc} {h : Hp} {ι : List Addr} {v : V} {d : D} (r : Rep c h ι v d) (k : (∀ n, d ≠ .ref n) → False) : ∃ n a, v = .ref a ∧ d = .ref n ∧ ι[n]? = some a := by
  cases r with
  | @ref n a hn => exact ⟨n, a, rfl, rfl, hn⟩
  | _ => exact (k fun _ z => nomatch z).elim
/-! o[i] = v, by a list or a dict -/
def rGS (c : Cc) (g : D → D → D → Mem → Option Mem) : V → V → V → Hp → (Hp → Prop) → Prop := fun o i v H Q => ∃ S ι mem d1 d2 d3 mem', SR c S ι mem H ∧ Rep c (fz S ι H) ι o d1 ∧ Rep c (fz S ι H) ι i d2 ∧ Rep c (fz S ι H) ι v d3 ∧ g d1 d2 d3 mem = some mem' ∧ ∀ ι' H', SR c S ι' mem' H' → Fr S ι H ι' H' → Q H'
def stD (o i d : D) (m : Mem) : Option Mem := match o with
  | .ref n => match m[n]? with
    | some (.dic ep ds) => match key8 i with
      | some k => bif Nat.ble ds.length 100000 then some (m.set n (.dic (putN ds k ep) (putP ds k i d))) else none
      | none => none
    | _ => none
  | _ => none
def stOr (f g : D → D → D → Mem → Option Mem) : D → D → D → Mem → Option Mem := fun o i d m => match f o i d m with
  | some r => some r
  | none => g o i d m
def stU : D → D → D → Mem → Option Mem := stOr stI stD
def nSubU (g : D → D → D → Mem → Option Mem) (o i x : ME) : MS := fun sl m => (x sl m).seq sl fun d m1 => (o sl m1).seq sl fun q m2 => (i sl m2).seq sl fun k m3 => match g q k d m3 with
  | some m4 => .next sl m4
  | none => .no
section
variable {X : Cx} {cl : Cl}
theorem set_dict (hu : X.A.units + 9 < cLine) : PSet X (rGS (cX X cl) stD) := fun pins s σ H o i v ov iv u Q I ro ri rv ⟨S, ι, mem, d1, d2, d3, mem', sr, r1, r2, r3, e, q⟩ => by
  unfold stD at e
  obtain ⟨n, a, rfl, rfl, hn⟩ := ref_of r1 (fun z => by
    cases d1 <;> first | exact (z _ rfl).elim | cases e)
  dsimp only at e
  cases hm : mem[n]? with
  | none => rw [hm] at e; cases e
  | some ob =>
    rw [hm] at e
    cases ob <;> try (cases e; done)
    rename_i ep ds
    dsimp only at e
    cases hk : key8 d2 with
    | none => rw [hk] at e; cases e
    | some k =>
      rw [hk] at e
      dsimp only at e
      cases hl : Nat.ble ds.length 100000 with
      | false => rw [hl] at e; cases e
      | true =>
        rw [hl] at e
        cases e
        obtain rfl := ro
        obtain ⟨xs, us, ha, rk, f, p, dk⟩ := dic_mem I sr hn hm
        have hi := key8_is I fz_sub r2 hk ri
        have hl' := Nat.le_of_ble_eq_true hl
        have hz : ds.length + 1 ≤ sizeLine := by rw [sizeLine_eq]; omega
        obtain ⟨xs', g1, g2⟩ := put_ok rk p hk r2 r3 ri rv
        refine store hu hi dk (by rw [p.len, rk.len]; omega) fun h' i' sb => ?_
        rw [putN_ok rk p] at i'
        obtain ⟨I2, s2, f2⟩ := dic_write (t := s.toks + k.draws) I sr hn ha f g1 g2 i' (putK_nodup dk.hn) (Nat.le_trans (putP_len ds) hz) sb
        exact ⟨_, I2, q ι _ s2 f2⟩
theorem set_listG : PSet X (rGS (cX X cl) stI) := fun pins s σ H o i v ov iv u Q I ro ri rv ⟨S, ι, mem, d1, d2, d3, mem', sr, r1, r2, r3, e, q⟩ => by
  refine set_list pins s σ H o i v ov iv u Q I ro ri rv ?_
  unfold stI at e
  obtain ⟨n, a, rfl, rfl, hn⟩ := ref_of r1 (fun z => by
    cases d1 <;> first | exact (z _ rfl).elim | cases e)
  cases r2 <;> try (cases e; done)
  rename_i kk ri
  dsimp only at e
  cases hm : mem[n]? with
  | none => rw [hm] at e; cases e
  | some ob =>
    rw [hm] at e
    cases ob <;> try (cases e; done)
    rename_i ds
    dsimp only at e
    cases hj : ixN ds.length kk with
    | none => rw [hj] at e; cases e
    | some j =>
      rw [hj] at e
      cases e
      obtain ⟨O, h1, h2⟩ := sr.at_ n a _ hn hm
      cases h2 with
      | @lst xs _ ra =>
        obtain ⟨s4, f4⟩ := sr.set (o := .lst (ds.set j d3)) (O := .lst (xs.set j v)) hn (.lst (ra.set r3 j))
        exact ⟨a, xs, kk, j, rfl, rfl, S.sub _ _ _ h1, by rw [ra.len]; exact hj, q ι _ s4 f4⟩
theorem set_or {f g : D → D → D → Mem → Option Mem} (h1 : PSet X (rGS (cX X cl) f)) (h2 : PSet X (rGS (cX X cl) g)) : PSet X (rGS (cX X cl) (stOr f g)) := fun pins s σ H o i v ov iv u Q I ro ri rv ⟨S, ι, mem, d1, d2, d3, mem', sr, r1, r2, r3, e, q⟩ => by
  unfold stOr at e
  cases hf : f d1 d2 d3 mem with
  | some r =>
    rw [hf] at e
    cases e
    exact h1 pins s σ H o i v ov iv u Q I ro ri rv ⟨S, ι, mem, d1, d2, d3, mem', sr, r1, r2, r3, hf, q⟩
  | none =>
    rw [hf] at e
    exact h2 pins s σ H o i v ov iv u Q I ro ri rv ⟨S, ι, mem, d1, d2, d3, mem', sr, r1, r2, r3, e, q⟩
theorem set_U (hu : X.A.units + 9 < cLine) : PSet X (rGS (cX X cl) stU) := set_or set_listG (set_dict hu)
end
section
variable {X : Cx} {c : Cc} {E : SX} {st : Stmt} {x y z : ME} {g : D → D → D → Mem → Option Mem}
theorem n_subU (h : PS X st (tAsg (tM c E x) (gSub (tM c E y) (tM c E z) (rGS c g)))) : PS X st (tMS c E (nSubU g y z x)) := h.weak fun Dn σ H ⟨S, ι, mem, sl, s, q, p⟩ =>
  runS (RR := rD c) s q p fun v d ι1 m1 H1 s1 f1 r1 p1 => runS (RR := rD c) s1 (q.fr f1) p1 fun u w ι2 m2 H2 s2 f2 r2 p2 => runS (RR := rD c) s2 ((q.fr f1).fr f2) p2 fun t k ι3 m3 H3 s3 f3 r3 p3 => by
    cases hg : g w k d m3 with
    | none =>
      rw [hg] at p3
      exact p3.elim
    | some m4 =>
      rw [hg] at p3
      exact ⟨S, ι3, m3, w, k, d, m4, s3, Rep.up f3.e f3.p r2, r3, (Rep.up f2.e f2.p r1).up f3.e f3.p, hg, fun ι' H' s' f' => p3 σ ι' H' s' f' ((((q.fr f1).fr f2).fr f3).fr f')⟩
end
/-! {k: v, ..} -/
def mDE : ME := fun _ m => .ok (.ref m.length) (m ++ [.dic 0 []])
abbrev MP := Sl → Mem → R (List (D × D))
def mPs : List (ME × ME) → MP
  | [] => fun _ m => .ok [] m
  | (x, y) :: r => fun sl m => (x sl m).bind fun d m1 => (y sl m1).bind fun e m2 => (mPs r sl m2).bind fun ps m3 => .ok ((d, e) :: ps) m3
def putAll : List (D × D) → Nat → List (D × D) → Option (Nat × List (D × D))
  | acc, ep, [] => some (ep, acc)
  | acc, ep, (dk, dv) :: r => match key8 dk with
    | some k => putAll (putP acc k dk dv) (putN acc k ep) r
    | none => none
def mDisp (ps : List (ME × ME)) : ME := fun sl m => (mPs ps sl (m ++ [.dic 0 []])).bind fun qs m1 => match m1[m.length]? with
  | some (.dic 0 []) => match putAll [] 0 qs with
    | some (ep, ds) => bif Nat.ble ds.length 100000 then .ok (.ref m.length) (m1.set m.length (.dic ep ds)) else .no
    | none => .no
  | _ => .no
section
variable {X : Cx} {cl : Cl} {E : SX} {pos : Pos}
theorem new_dic {pins : List (Addr × Obj)} {σ : L2.St} {H : Hp} {s : Shared} {S : Wv} {ι : List Addr} {mem : Mem} (I : Inv X pins σ H s) (sr : SR (cX X cl) S ι mem H) :
    H s.heap.objs.size = none ∧ Inv X pins σ (upd H s.heap.objs.size (DicO X.w s.heap.objs.size 0 [])) { s with heap := s.heap.push { cls := .type "dict", data := .dict #[] } } ∧
    SR (cX X cl) S (ι ++ [s.heap.objs.size]) (mem ++ [.dic 0 []]) (upd H s.heap.objs.size (DicO X.w s.heap.objs.size 0 [])) ∧ Fr S ι H (ι ++ [s.heap.objs.size]) (upd H s.heap.objs.size (DicO X.w s.heap.objs.size 0 [])) := by
  have hn := I.hok.fresh (Nat.le_refl s.heap.objs.size)
  obtain ⟨s1, f1⟩ := sr.alloc (o := .dic 0 []) (O := DicO X.w s.heap.objs.size 0 []) hn (.dic .nil)
  refine ⟨hn, I.laid (a := s.heap.objs.size) (t' := s.toks) (fun _ _ q => Heap.get?_push_of_some _ q) (Nat.le_refl _) (dic_ok ⟨Nat.zero_le _, beq_eq_false_iff_ne.mpr (Ne.symm (Nat.ne_of_lt I.big)), List.nodup_nil⟩ .nil (emptyD s.heap)), s1, f1⟩
theorem last_ix {ι : List Addr} {mem : Mem} {a : Addr} (e : ι.length = mem.length) : (ι ++ [a])[mem.length]? = some a := by
  rw [← e, List.getElem?_append_right (Nat.le_refl _), Nat.sub_self]
  rfl
theorem m_dE : PE X (.Dict [] [] pos) (tM (cX X cl) E mDE) := ⟨fun pins s σ H Q I ⟨S, ι, mem, sl, sr, q, p⟩ => by
  obtain ⟨hn, I1, s1, f1⟩ := new_dic I sr
  exact wpAny_Dict_empty ⟨.ref s.heap.objs.size, _, I1, rfl, p _ _ _ s1 f1 (Rep.ref (last_ix sr.len))⟩⟩
end
abbrev RepP (c : Cc) (h : Hp) (ι : List Addr) : List (V × V) → List (D × D) → Prop := Paired fun v q => Rep c h ι v.1 q.1 ∧ Rep c h ι v.2 q.2
theorem RepP.up {c : Cc} {h h' : Hp} {ι ι' : List Addr} (e : Ex h h') (p : ι <+: ι') : ∀ {vs : List (V × V)} {qs : List (D × D)}, RepP c h ι vs qs → RepP c h' ι' vs qs
  | _, _, .nil => .nil
  | _, _, .cons a t => .cons ⟨a.1.up e p, a.2.up e p⟩ (RepP.up e p t)
theorem run_ps {c : Cc} {E : SX} {S : Wv} {σ : L2.St} {sl : Sl} {α β : Type} {RQ : Hp → List Addr → β → α → Prop} {Q : β → Hp → Prop} : ∀ (ps : List (ME × ME)) {f : List (D × D) → Mem → R α} {ι : List Addr} {mem : Mem} {H : Hp} {K : List (V × V) → Hp → Prop},
    SR c S ι mem H → RepSl c (fz S ι H) ι σ sl → Post c (E σ) S ι H RQ ((mPs ps sl mem).bind f) Q →
    (∀ vs qs ι1 m1 H1, SR c S ι1 m1 H1 → Fr S ι H ι1 H1 → RepP c (fz S ι1 H1) ι1 vs qs → Post c (E σ) S ι1 H1 RQ (f qs m1) Q → K vs H1) → tPairs (ps.map fun p => (tM c E p.1, tM c E p.2)) σ H K
  | [], f, ι, mem, H, K, s, q, p, k => k [] [] ι mem H s Fr.refl .nil p
  | (x, y) :: ps, f, ι, mem, H, K, s, q, p, k => by
    have p0 : Post c (E σ) S ι H RQ ((x sl mem).bind fun d m1 => (y sl m1).bind fun e m2 => (mPs ps sl m2).bind fun r m3 => f ((d, e) :: r) m3) Q := by
      have e : ((mPs ((x, y) :: ps) sl mem).bind f) = ((x sl mem).bind fun d m1 => (y sl m1).bind fun e m2 => (mPs ps sl m2).bind fun r m3 => f ((d, e) :: r) m3) := by
        show (((x sl mem).bind fun d m1 => (y sl m1).bind fun e m2 => (mPs ps sl m2).bind fun ps m3 => .ok ((d, e) :: ps) m3).bind f) = _
        cases x sl mem with
        | ok d m1 =>
          show (((y sl m1).bind _).bind f) = (y sl m1).bind _
          cases y sl m1 with
          | ok e m2 =>
            show (((mPs ps sl m2).bind _).bind f) = (mPs ps sl m2).bind _
            cases mPs ps sl m2 <;> rfl
          | exc _ _ _ => rfl
          | no => rfl
        | exc _ _ _ => rfl
        | no => rfl
      rw [← e]
      exact p
    exact run1 (RR := rD c) s q p0 fun v1 d1 ι1 m1 H1 s1 f1 r1 p1 => run1 (RR := rD c) s1 (q.fr f1) p1 fun v2 d2 ι2 m2 H2 s2 f2 r2 p2 =>
      run_ps ps s2 ((q.fr f1).fr f2) p2 fun vs qs ι3 m3 H3 s3 f3 r3 p3 => k ((v1, v2) :: vs) ((d1, d2) :: qs) ι3 m3 H3 s3 ((f1.trans f2).trans f3) (.cons ⟨(Rep.up f2.e f2.p r1).up f3.e f3.p, Rep.up f3.e f3.p r2⟩ r3) p3
section
variable {X : Cx} {cl : Cl} {E : SX} {pos : Pos}
theorem merge_ok {pins : List (Addr × Obj)} {σ : L2.St} {H h : Hp} {s : Shared} {ι : List Addr} (I : Inv X pins σ H s) (e : Ex h H) : ∀ {vs : List (V × V)} {qs : List (D × D)} {ws : List (Value × Value)} {acc ds : List (D × D)} {xs : List EntV} {us : List Ent} {ep ep' : Nat},
    RepP (cX X cl) h ι vs qs → VV vs ws → putAll acc ep qs = some (ep', ds) → RepK (cX X cl) h ι xs acc → PairE xs us →
    ∃ ps xs', ws = ps.map (fun p : Ent => p.2) ∧ (∀ p ∈ ps, IsK s.heap p.1 p.2.1) ∧ RepK (cX X cl) h ι xs' ds ∧ PairE xs' (MeD.mergeK us ps) ∧ MeD.mergeE us ps ep = ep'
  | _, _, _, acc, ds, xs, us, _, _, .nil, .nil, q, r, p => by
    cases q
    exact ⟨[], xs, rfl, fun _ z => (by cases z), r, p, rfl⟩
  | _, _, _, acc, ds, xs, us, ep, _, .cons (b := (dk, dv)) a t, .cons (b := (u0, u1)) b t', q, r, p => by
    unfold putAll at q
    cases hk : key8 dk with
    | none => rw [hk] at q; cases q
    | some k =>
      rw [hk] at q
      obtain ⟨xs1, g1, g2⟩ := put_ok r p hk a.1 a.2 b.1 b.2
      obtain ⟨ps, xs', h1, h2, h3, h4, h5⟩ := merge_ok I e t t' q g1 g2
      refine ⟨(k, u0, u1) :: ps, xs', by rw [h1]; rfl, fun z hz => ?_, h3, h4, ?_⟩
      rcases List.mem_cons.mp hz with rfl | hz
      · exact key8_is I e a.1 hk b.1
      · exact h2 z hz
      · show MeD.mergeE (MeD.putK us k u0 u1) ps (putE us k ep) = _
        rw [putN_ok r p]
        exact h5
theorem m_disp {keys : List (Option Expr)} {values : List Expr} {ps : List (ME × ME)} (hu : X.A.units + 8 < cLine) (h : PPs X pos keys values (ps.map fun p => (tM (cX X cl) E p.1, tM (cX X cl) E p.2))) (hall : keys.all (·.isSome) = true) (hl : keys.length = values.length) (h0 : keys ≠ [])
    (h15 : keys.length ≤ 15) : PE X (.Dict keys values pos) (tM (cX X cl) E (mDisp ps)) := ⟨fun pins s σ H Q I ⟨S, ι, mem, sl, sr, q, p⟩ => by
  obtain ⟨hn, I1, s1, f1⟩ := new_dic I sr
  refine MeD.display hu hall hl h0 h15 (thn (h.run pins _ σ _ (fun vs H2 => ∃ qs ι2 m2, SR (cX X cl) S ι2 m2 H2 ∧ Fr S (ι ++ [s.heap.objs.size]) (upd H s.heap.objs.size (DicO X.w s.heap.objs.size 0 [])) ι2 H2 ∧ RepP (cX X cl) (fz S ι2 H2) ι2 vs qs ∧
      Post (cX X cl) (E σ) S ι2 H2 (rD (cX X cl)) (match m2[mem.length]? with
        | some (.dic 0 []) => match putAll [] 0 qs with
          | some (ep, ds) => bif Nat.ble ds.length 100000 then .ok (.ref mem.length) (m2.set mem.length (.dic ep ds)) else .no
          | none => .no
        | _ => .no) Q) I1 ?_) fun ws s3 ⟨vs, H2, I2, vv, qs, ι2, m2, s2, f2, r2, p2⟩ => ?_)
  · refine run_ps ps s1 (q.fr f1) (Post.from (r := mDisp ps sl mem) p f1) fun vs qs ι2 m2 H2 s2 f2 r2 p2 => ⟨qs, ι2, m2, s2, f2, r2, p2⟩
  · have hix : ι2[mem.length]? = some s.heap.objs.size := pre_get f2.p (last_ix sr.len)
    split at p2
    · rename_i hm
      cases hp : putAll [] 0 qs with
      | none => rw [hp] at p2; exact p2.elim
      | some eds =>
        obtain ⟨ep, ds⟩ := eds
        rw [hp] at p2
        dsimp only at p2
        cases hl2 : Nat.ble ds.length 100000 with
        | false => rw [hl2] at p2; exact p2.elim
        | true =>
        rw [hl2] at p2
        obtain ⟨xs, us, ha, rk, f, pe, dk⟩ := dic_mem I2 s2 hix hm
        cases rk
        cases pe
        obtain ⟨es, xs', g1, g2, g3, g4, g5⟩ := merge_ok I2 fz_sub r2 vv hp .nil .nil
        refine ⟨es, g1, g2, dk.is, fun h' tk i' sb => ?_⟩
        rw [g5] at i'
        obtain ⟨I3, s4, f4⟩ := dic_write (t := tk) I2 s2 hix ha f g3 g4 i' (mergeK_nodup es [] List.nodup_nil) (by rw [sizeLine_eq]; have := Nat.le_of_ble_eq_true hl2; omega) sb
        exact ⟨.ref s.heap.objs.size, _, I3, rfl, p2 _ _ _ s4 f4 (Rep.ref hix)⟩
    · exact p2.elim⟩
end
end Mi
end
section
set_option Elab.async false
set_option linter.all false
set_option maxRecDepth 100000
set_option maxHeartbeats 4000000
/-! dicts of mixed keys, walked -/
namespace MeD
open PySem PySem.Spec PyProof.Rows L2
section
variable {X : Cx} {pins : List (Addr × Obj)} {σ : L2.St} {H : Hp} {s : Shared} {d : Addr} {ep : Nat} {xs : List EntV}
theorem raw_of (I : Inv X pins σ H s) (hd : H d = some (DicO X.w d ep xs)) : (d == sysModules) = false ∧ ∃ es, s.heap.DictRaw d es ep ∧ es.size = xs.length ∧ ∀ i (hi : i < es.size), ∃ e, xs[i]? = some e ∧ RelV e.2.1 es[i].key ∧ RelV e.2.2 es[i].val := by
  obtain ⟨f, us, p, o, es, ho, hc, hdt, he⟩ := ok_dic (I.hok d _ hd)
  refine ⟨f.2.1, es, ⟨o, ho, hc, hdt⟩, by rw [ents_size he, p.len], fun i hi => ?_⟩
  have hu : i < us.length := by rw [← ents_size he]; exact hi
  obtain ⟨e, h1, _, h2, h3⟩ := p.at_ (List.getElem?_eq_getElem hu)
  have h4 : es[i]? = some (ent X.w us[i]) := by rw [ents_at he, List.getElem?_eq_getElem hu]; rfl
  rw [Array.getElem?_eq_getElem hi] at h4
  rw [Option.some.inj h4]
  exact ⟨e, h1, h2, h3⟩
theorem raw_same {h : Heap} {es es' : Array DictEntry} {ep ep' : Nat} (a : h.DictRaw d es ep) (b : h.DictRaw d es' ep') : es = es' := by
  obtain ⟨o, h1, _, h2⟩ := a
  obtain ⟨o', h3, _, h4⟩ := b
  rw [h1] at h3
  cases h3
  rw [h2] at h4
  cases h4
  rfl
end
/-- what is walked: f tells which part of an entry -/
def ItD (w : World) (d : Addr) (ep n : Nat) (f : EntV → V) : It :=
  ⟨fun i H => ∃ xs, H d = some (DicO w d ep xs) ∧ xs.length = n ∧ i < n, fun i H x H' => H' = H ∧ ∀ xs, H d = some (DicO w d ep xs) → ∃ e, xs[i]? = some e ∧ x = f e, fun i H => ∃ xs, H d = some (DicO w d ep xs) ∧ xs.length = n ∧ n ≤ i⟩
/-- pairs, each a new tuple -/
def ItP (w : World) (d : Addr) (ep n : Nat) : It :=
  ⟨fun i H => ∃ xs, H d = some (DicO w d ep xs) ∧ xs.length = n ∧ i < n, fun i H x H' => ∃ T u v, x = .ref T ∧ H T = none ∧ H' = upd H T (.tup [u, v]) ∧ ∀ xs, H d = some (DicO w d ep xs) → ∃ e, xs[i]? = some e ∧ u = e.2.1 ∧ v = e.2.2, fun i H => ∃ xs, H d = some (DicO w d ep xs) ∧ xs.length = n ∧ n ≤ i⟩
section
variable {P : Program} {w : World} {K : PySem.W.Frag} {tg : Expr} {d : Addr} {ep n : Nat}
theorem turnK (it : Addr) : Turn P w K tg (ItD w d ep n fun e => e.2.1) [it] it (fun i h => h.IsKeyIter it d i n ep) where
  mem := List.mem_singleton.mpr rfl
  obj := fun i h st b hb => by
    rw [List.mem_singleton.mp hb]
    obtain ⟨o, e, _, dd⟩ := st
    exact ⟨o, e, fun v z => (by rw [dd] at z; cases z)⟩
  keep := fun i h h' st k => st.at fun o e => k it (List.mem_singleton.mpr rfl) o e
  item := fun X hP hw hK hc i pins s σ H E I hf st ⟨xs, hd, hl, hi⟩ => by
    subst hP hw hK
    obtain ⟨f0, f1, f2, f3, f4, f5⟩ := hf it (List.mem_singleton.mpr rfl)
    obtain ⟨_, es, raw, hs, en⟩ := raw_of I hd
    have hn : es.size = n := hs.trans hl
    subst hn
    refine wpAny_pyNext_keys_item_raw st raw hi fun h' st' sb => ?_
    obtain ⟨e, h1, h2, _⟩ := en i hi
    obtain ⟨oi, g1, g2, g3⟩ := id st'
    refine ⟨_, rfl, go_of (s := { s with heap := h' }) g1 g2 g3 (by decide) ⟨e.2.1, H, I.turned (t' := s.toks) (fun b ob hb q => (sb.2 b hb).trans q) f0 f1 f3 f4 f5, h2, ⟨rfl, fun xs' hd' => ?_⟩, st', fun b hb => (hf b hb).1⟩⟩
    obtain ⟨_, es', raw', _, en'⟩ := raw_of I hd'
    obtain rfl := raw_same raw raw'
    obtain ⟨e', h3, h4, _⟩ := en' i hi
    exact ⟨e', h3, h2.inj h4⟩
  done := fun X hP hw hK hc i pins s σ H E I hf st ⟨xs, hd, hl, hi⟩ => by
    subst hP hw hK
    obtain ⟨f0, f1, f2, f3, f4, f5⟩ := hf it (List.mem_singleton.mpr rfl)
    obtain ⟨_, es, raw, hs, en⟩ := raw_of I hd
    have hn : es.size = n := hs.trans hl
    subst hn
    exact wpAny_pyNext_keys_end_raw (I.ok.hd hc) st raw hi fun h' eb => ⟨rfl, I.turned (t' := s.toks) (fun b ob hb q => eb b ob hb q) f0 f1 f3 f4 f5⟩
  self := fun A i s Q E st h => wpAny_pyIter_keyiter st h
theorem turnV (it : Addr) : Turn P w K tg (ItD w d ep n fun e => e.2.2) [it] it (fun i h => h.IsValIter it d i n ep) where
  mem := List.mem_singleton.mpr rfl
  obj := fun i h st b hb => by
    rw [List.mem_singleton.mp hb]
    obtain ⟨o, e, _, dd⟩ := st
    exact ⟨o, e, fun v z => (by rw [dd] at z; cases z)⟩
  keep := fun i h h' st k => st.at fun o e => k it (List.mem_singleton.mpr rfl) o e
  item := fun X hP hw hK hc i pins s σ H E I hf st ⟨xs, hd, hl, hi⟩ => by
    subst hP hw hK
    obtain ⟨f0, f1, f2, f3, f4, f5⟩ := hf it (List.mem_singleton.mpr rfl)
    obtain ⟨_, es, raw, hs, en⟩ := raw_of I hd
    have hn : es.size = n := hs.trans hl
    subst hn
    refine wpAny_pyNext_values_item_raw st raw hi fun h' st' sb => ?_
    obtain ⟨e, h1, _, h2⟩ := en i hi
    obtain ⟨oi, g1, g2, g3⟩ := id st'
    refine ⟨_, rfl, go_of (s := { s with heap := h' }) g1 g2 g3 (by decide) ⟨e.2.2, H, I.turned (t' := s.toks) (fun b ob hb q => (sb.2 b hb).trans q) f0 f1 f3 f4 f5, h2, ⟨rfl, fun xs' hd' => ?_⟩, st', fun b hb => (hf b hb).1⟩⟩
    obtain ⟨_, es', raw', _, en'⟩ := raw_of I hd'
    obtain rfl := raw_same raw raw'
    obtain ⟨e', h3, _, h4⟩ := en' i hi
    exact ⟨e', h3, h2.inj h4⟩
  done := fun X hP hw hK hc i pins s σ H E I hf st ⟨xs, hd, hl, hi⟩ => by
    subst hP hw hK
    obtain ⟨f0, f1, f2, f3, f4, f5⟩ := hf it (List.mem_singleton.mpr rfl)
    obtain ⟨_, es, raw, hs, en⟩ := raw_of I hd
    have hn : es.size = n := hs.trans hl
    subst hn
    exact wpAny_pyNext_values_end_raw (I.ok.hd hc) st raw hi fun h' eb => ⟨rfl, I.turned (t' := s.toks) (fun b ob hb q => eb b ob hb q) f0 f1 f3 f4 f5⟩
  self := fun A i s Q E st h => wpAny_pyIter_valiter st h
theorem turnP {elts : List Expr} {kk : Nat} {tpos : Pos} (it : Addr) : Turn P w K (.Tuple elts kk tpos) (ItP w d ep n) [it] it (fun i h => ∃ ok ov, IsItemIter h it d i n ep ok ov) where
  mem := List.mem_singleton.mpr rfl
  obj := fun i h ⟨_, _, e⟩ b hb => by
    rw [List.mem_singleton.mp hb]
    exact ⟨_, e, fun v z => (by cases z)⟩
  keep := fun i h h' ⟨ok, ov, e⟩ k => ⟨ok, ov, k it (List.mem_singleton.mpr rfl) _ e⟩
  item := fun X hP hw hK hc i pins s σ H E I hf st ⟨xs, hd, hl, hi⟩ => by
    subst hP hw hK
    obtain ⟨_, es, raw, hs, en⟩ := raw_of I hd
    have hn : es.size = n := hs.trans hl
    subst hn
    obtain ⟨ok, ov, he⟩ := st
    have hlt : it < s.heap.objs.size := Heap.lt_size he
    refine wpAny_pyNext_items_item_raw he raw hi fun h' out hT _ hk => ⟨_, rfl, wpAny_letOwnedTupleGo_items (s := { s with heap := h' }) out fun h2 he' sb => ?_⟩
    obtain ⟨e, h1, r1, r2⟩ := en i hi
    have hT2 := (sb.2 _ (Nat.ne_of_gt hlt)).trans hT
    have I1 : Inv X pins σ (upd H s.heap.objs.size (.tup [e.2.1, e.2.2])) { s with heap := h2 } := I.turnedNew (t' := s.toks) (ch := [it]) (fun b ob hb q => (sb.2 b (by simpa using hb)).trans (hk b ob (by simpa using hb) q)) hf (Nat.le_refl _)
      ⟨by show 2 ≤ sizeLine; decide, [es[i].key, es[i].val], .cons r1 (.cons r2 .nil), ⟨_, hT2, rfl, _, rfl⟩⟩
    refine ⟨.ref s.heap.objs.size, _, I1, rfl, ⟨_, _, _, rfl, I.hok.fresh (Nat.le_refl _), rfl, fun xs' hd' => ?_⟩, ⟨_, _, he'⟩, fun b hb => ?_⟩
    · obtain ⟨_, es', raw', _, en'⟩ := raw_of I hd'
      obtain rfl := raw_same raw raw'
      obtain ⟨e', h3, h4, h5⟩ := en' i hi
      exact ⟨e', h3, r1.inj h4, r2.inj h5⟩
    · rw [List.mem_singleton.mp hb, upd_ne (Nat.ne_of_lt hlt)]
      exact (hf it (List.mem_singleton.mpr rfl)).1
  done := fun X hP hw hK hc i pins s σ H E I hf st ⟨xs, hd, hl, hi⟩ => by
    subst hP hw hK
    obtain ⟨f0, f1, f2, f3, f4, f5⟩ := hf it (List.mem_singleton.mpr rfl)
    obtain ⟨_, es, raw, hs, en⟩ := raw_of I hd
    have hn : es.size = n := hs.trans hl
    subst hn
    obtain ⟨ok, ov, he⟩ := st
    exact wpAny_pyNext_items_end_raw (I.ok.hd hc) he raw hi fun h' eb => ⟨rfl, I.turned (t' := s.toks) (fun b ob hb q => eb b ob hb q) f0 f1 f3 f4 f5⟩
  self := fun A i s Q E st h => let ⟨_, _, e⟩ := st; wpAny_pyIter_itemiter e h
end
/-- a dict, to be walked -/
def iD (w : World) (J : Addr → Nat → Nat → It) (td : TE) : TI := fun σ H R => td σ H fun x H1 => ∃ d ep xs, x = .ref d ∧ H1 d = some (DicO w d ep xs) ∧ R (J d ep xs.length) H1
section
variable {X : Cx} {tg e : Expr} {td : TE} {apos cpos : Pos}
theorem pi_dK (he : PE X e td) : PI X tg e (iD X.w (fun d ep n => ItD X.w d ep n fun e => e.2.1) td) := ⟨fun pins s σ H R I h => thn (he.run pins s σ H _ I h) fun u s1 ⟨x, H1, I1, rx, d, ep, xs, ex, hd, q⟩ => by
  subst ex
  obtain rfl := rx
  obtain ⟨nm, es, raw, hs, _⟩ := raw_of I1 hd
  refine wpAny_pyIter_dict_raw nm raw (pi_one (tk := s1.toks) I1 _ (turnK _) ⟨_, Heap.get?_push_size _ rfl, rfl, ?_⟩ q)
  rw [hs]
  rfl⟩
theorem pi_dV (he : PE X e td) (hbase : attributeBase e "values" X.env (eval e X.env) = eval e X.env := by rfl) (hline : (apos.endLine == cpos.line) = true := by rfl) : PI X tg (.Call (.Attribute e "values" apos) [] [] cpos) (iD X.w (fun d ep n => ItD X.w d ep n fun e => e.2.2) td) := ⟨fun pins s σ H R I h => by
  refine wpAny_Call_method0_late hbase hline (thn (he.run pins s σ H _ I h) fun u s1 ⟨x, H1, I1, rx, d, ep, xs, ex, hd, q⟩ => ?_)
  subst ex
  obtain rfl := rx
  obtain ⟨nm, es, raw, hs, _⟩ := raw_of I1 hd
  refine ⟨"dict", "dict.values", F.plainAttrs_dict, F.slot_dict_values, F.type_dict_values, raw.typeIs, fun a z => ?_, ?_⟩
  · cases z
    obtain ⟨o, ho, hc, _⟩ := raw
    exact ⟨o, ho, hc.2.1⟩
  · refine method_meetsIn F.slot_dict_values F.entry_dict_values rfl (PySem.evalArgs_none ⟨rfl, raw.typeIs, F.args_dict_values_1 _, _, meets_dict_values_raw d nm, ⟨es, ep, raw⟩, ?_⟩)
    have I2 : Inv X pins σ H1 { s1 with heap := s1.heap.push { cls := .type "dict_values", data := .fields #[.ref d] } } := I1.kept (t' := s1.toks) fun b ob q => Heap.get?_push_of_some _ q
    refine wpAny_pyIter_values_raw (d := d) ⟨_, Heap.get?_push_size _ rfl, rfl, rfl⟩ (raw.at fun o q => Heap.get?_push_of_some _ q) (pi_one (tk := s1.toks) I2 _ (turnV _) ⟨_, Heap.get?_push_size _ rfl, rfl, ?_⟩ q)
    rw [hs]
    rfl⟩
theorem pi_dP {elts : List Expr} {kk : Nat} {tpos : Pos} (he : PE X e td) (hbase : attributeBase e "items" X.env (eval e X.env) = eval e X.env := by rfl) (hline : (apos.endLine == cpos.line) = true := by rfl) :
    PI X (.Tuple elts kk tpos) (.Call (.Attribute e "items" apos) [] [] cpos) (iD X.w (fun d ep n => ItP X.w d ep n) td) := ⟨fun pins s σ H R I h => by
  refine wpAny_Call_method0_late hbase hline (thn (he.run pins s σ H _ I h) fun u s1 ⟨x, H1, I1, rx, d, ep, xs, ex, hd, q⟩ => ?_)
  subst ex
  obtain rfl := rx
  obtain ⟨nm, es, raw, hs, _⟩ := raw_of I1 hd
  refine ⟨"dict", "dict.items", F.plainAttrs_dict, F.slot_dict_items, F.type_dict_items, raw.typeIs, fun a z => ?_, ?_⟩
  · cases z
    obtain ⟨o, ho, hc, _⟩ := raw
    exact ⟨o, ho, hc.2.1⟩
  · refine method_meetsIn F.slot_dict_items F.entry_dict_items rfl (PySem.evalArgs_none ⟨rfl, raw.typeIs, F.args_dict_items_1 _, _, meets_dict_items_raw d nm, ⟨es, ep, raw⟩, ?_⟩)
    have I2 : Inv X pins σ H1 { s1 with heap := s1.heap.push { cls := .type "dict_items", data := .fields #[.ref d] } } := I1.kept (t' := s1.toks) fun b ob q => Heap.get?_push_of_some _ q
    refine wpAny_pyIter_items_raw (d := d) ⟨_, Heap.get?_push_size _ rfl, rfl, rfl⟩ (raw.at fun o q => Heap.get?_push_of_some _ q) (pi_one (tk := s1.toks) I2 _ (turnP _) ⟨.none, .none, ?_⟩ q)
    rw [← hs]
    exact Heap.get?_push_size _ rfl⟩
end
end MeD
end
section
set_option Elab.async false
set_option linter.all false
set_option maxRecDepth 100000
set_option maxHeartbeats 4000000
/-! what is walked, while the memory may change -/
namespace Mi
open PySem PySem.Spec PyProof.Rows L2 Evl MeV MeG MeD
inductive WR where
  | stop | item (d : D) | no
/-- at a turn, in the memory of then -/
abbrev MIt := Nat → Mem → WR
abbrev MW := Sl → Mem → R MIt
def Walks (c : Cc) (h : Hp) (ι : List Addr) (J : It) (it : MIt) : Prop := ∀ (S2 : Wv) (ι2 : List Addr) (mem2 : Mem) (H2 : Hp) (i : Nat), SR c S2 ι2 mem2 H2 → Ex h (fz S2 ι2 H2) → ι <+: ι2 →
  match it i mem2 with
  | .stop => J.stop i H2
  | .item d => J.go i H2 ∧ ∀ x H3, J.yld i H2 x H3 → Ex H2 H3 ∧ Rep c (fz S2 ι2 H3) ι2 x d
  | .no => True
def SimW (c : Cc) (E : SX) (wi : TI) (mw : MW) : Prop := ∀ (S : Wv) (ι : List Addr) (mem : Mem) (H : Hp) (σ : L2.St) (sl : Sl) (K : It → Hp → Prop), SR c S ι mem H → RepSl c (fz S ι H) ι σ sl →
  (match mw sl mem with
    | .ok it m1 => ∀ J ι1 H1, SR c S ι1 m1 H1 → Fr S ι H ι1 H1 → Walks c (fz S ι1 H1) ι1 J it → K J H1
    | .exc k fs m1 => ∀ x ws ι' H', SR c S ι' m1 H' → Fr S ι H ι' H' → fz S ι' H' x = some (.xd ws) → RepF c (fz S ι' H') ι' ws fs → E σ (.ref (c.cl k)) (some x) H'
    | .no => False) → wi σ H K
def itL (ds : List D) : MIt := fun i _ => match ds[i]? with
  | some d => .item d
  | none => bif Nat.beq i ds.length then .stop else .no
def wL (mi : MI) : MW := fun sl m => (mi sl m).bind fun ds m1 => .ok (itL ds) m1
theorem gives_walks {c : Cc} {h : Hp} {ι : List Addr} {J : It} {ds : List D} (g : Gives c h ι J ds) : Walks c h ι J (itL ds) := fun S2 ι2 mem2 H2 i s e p => by
  obtain ⟨g1, g2⟩ := g S2 ι2 mem2 H2 s e p
  unfold itL
  cases hd : ds[i]? with
  | some d =>
    have hi := (List.getElem?_eq_some_iff.mp hd).1
    refine ⟨(g1 i hi).1, fun x H3 y => ?_⟩
    obtain ⟨ex, d', h1, h2⟩ := (g1 i hi).2 x H3 y
    rw [hd] at h1
    cases h1
    exact ⟨ex, h2⟩
  | none =>
    cases hb : Nat.beq i ds.length with
    | true =>
      rw [Nat.eq_of_beq_eq_true hb]
      exact g2
    | false => trivial
theorem sim_wL {c : Cc} {E : SX} {wi : TI} {mi : MI} (h : SimI c E wi mi) : SimW c E wi (wL mi) := fun S ι mem H σ sl K s q p => by
  refine h S ι mem H σ sl K s q ?_
  unfold wL at p
  cases hm : mi sl mem with
  | ok ds m1 =>
    rw [hm] at p
    exact fun J ι1 H1 s1 f1 g => p J ι1 H1 s1 f1 (gives_walks g)
  | exc k fs m1 =>
    rw [hm] at p
    exact p
  | no =>
    rw [hm] at p
    exact p
def forW (it : MIt) (g : MG) (body : MS) : Nat → Nat → MS
  | 0, _, _, _ => .no
  | k + 1, i, sl, m => match it i m with
    | .stop => .next sl m
    | .no => .no
    | .item d => match g d sl with
      | none => .no
      | some sl1 => (body sl1 m).turn fun sl2 m2 => forW it g body k (i + 1) sl2 m2
def nForW (fuel : Nat) (mw : MW) (g : MG) (body : MS) : MS := fun sl m => (mw sl m).seq sl fun it m1 => forW it g body fuel 0 sl m1
section
variable {X : Cx} {c : Cc} {E : SX} {st : Stmt} {wi : TI} {g : TG} {mg : MG} {body : MS} {mw : MW} {fuel : Nat}
theorem n_forW (h : PS X st (tFor wi g (tMS c E body))) (hi : SimW c E wi mw) (hg : SimG c g mg) : PS X st (tMS c E (nForW fuel mw mg body)) := h.weak fun Dn σ H ⟨S, ι, mem, sl, s, q, p⟩ => by
  refine hi S ι mem H σ sl _ s q ?_
  have p' : PostS c E S ι H ((mw sl mem).seq sl fun it m1 => forW it mg body fuel 0 sl m1) Dn := p
  cases hm : mw sl mem with
  | no =>
    rw [hm] at p'
    exact p'
  | exc k fs m1 =>
    rw [hm] at p'
    exact fun x ws ι' H' s' f' a b => p' σ x ws ι' H' s' f' (q.fr f') a b
  | ok it m1 =>
    rw [hm] at p'
    refine fun J ι1 H1 s1 f1 gv => ?_
    refine ⟨fun i k σ' H' => ∃ ι2 mem2 sl2, SR c S ι2 mem2 H' ∧ Fr S ι1 H1 ι2 H' ∧ RepSl c (fz S ι2 H') ι2 σ' sl2 ∧ PostS c E S ι2 H' (forW it mg body k i sl2 mem2) Dn, ⟨fuel, ι1, m1, sl, s1, Fr.refl, q.fr f1, PostS.from (r := forW it mg body fuel 0 sl m1) p' f1⟩, ?_⟩
    rintro i k σ' H' ⟨ι2, mem2, sl2, s2, f2, q2, p2⟩
    cases k with
    | zero => exact p2.elim
    | succ k =>
      have w := gv S ι2 mem2 H' i s2 f2.e f2.p
      unfold forW at p2
      cases hd : it i mem2 with
      | no =>
        rw [hd] at p2
        exact p2.elim
      | stop =>
        rw [hd] at p2 w
        exact .inl ⟨w, p2 σ' ι2 H' s2 Fr.refl q2⟩
      | item d =>
        rw [hd] at p2 w
        refine .inr ⟨w.1, fun σ4 H4 => ∃ ι4 m4 sl4, SR c S ι4 m4 H4 ∧ Fr S ι1 H1 ι4 H4 ∧ RepSl c (fz S ι4 H4) ι4 σ4 sl4 ∧ PostS c E S ι4 H4 (forW it mg body k (i + 1) sl4 m4) Dn, fun σ4 H4 hN => ⟨k, Nat.lt_succ_self _, hN⟩, fun z H3 hz => ?_⟩
        obtain ⟨ex, rz⟩ := w.2 z H3 hz
        obtain ⟨s3, f3⟩ := s2.grow ex
        dsimp only at p2
        cases hgd : mg d sl2 with
        | none =>
          rw [hgd] at p2
          exact p2.elim
        | some sl3 =>
          rw [hgd] at p2
          refine hg S ι2 mem2 H3 σ' sl2 sl3 z d _ s3 (q2.fr f3) rz hgd fun σ3 q3 => ⟨S, ι2, mem2, sl3, s3, q3, ?_⟩
          dsimp only at p2
          have p3 := PostS.from p2 f3
          cases hb : body sl3 mem2 with
          | next sl4 m4 =>
            rw [hb] at p3
            exact fun σ4 ι4 H4 s4 f4 q4 => ⟨ι4, m4, sl4, s4, (f2.trans f3).trans f4, q4, PostS.from (r := forW it mg body k (i + 1) sl4 m4) p3 f4⟩
          | cont sl4 m4 =>
            rw [hb] at p3
            exact fun σ4 ι4 H4 s4 f4 q4 => ⟨ι4, m4, sl4, s4, (f2.trans f3).trans f4, q4, PostS.from (r := forW it mg body k (i + 1) sl4 m4) p3 f4⟩
          | brk sl4 m4 =>
            rw [hb] at p3
            exact p3
          | ret d4 m4 =>
            rw [hb] at p3
            exact p3
          | exc k0 fs sl4 m4 =>
            rw [hb] at p3
            exact p3
          | no =>
            rw [hb] at p3
            exact p3
end
/-! comprehensions -/
def lcW (it : MIt) (g : MG) (t : MT) (x : ME) (sl : Sl) : Nat → Nat → List D → Mem → R (List D)
  | 0, _, _, _ => .no
  | k + 1, i, acc, m => match it i m with
    | .stop => .ok acc m
    | .no => .no
    | .item d => match g d sl with
      | none => .no
      | some sl1 => (t sl1 m).quiet.bind fun b m1 => bif b then (x sl1 m1).quiet.bind fun y m2 => bif Nat.ble acc.length 50000 then lcW it g t x sl k (i + 1) (acc ++ [y]) m2 else .no else lcW it g t x sl k (i + 1) acc m1
def mLcW (fuel : Nat) (mw : MW) (vs : List Nat) (g : MG) (t : MT) (x : ME) : ME := fun sl m => (mw sl m).bind fun it m1 => (lcW it g t x (wipeSl sl vs) fuel 0 [] m1).bind fun acc m2 => .ok (.lst acc) m2
section
variable {X : Cx} {c : Cc} {E : SX} {e : Expr} {wi : TI} {g : TG} {mw : MW} {mg : MG} {t : MT} {x : ME} {vs : List Nat} {fuel : Nat}
theorem s_lcW (hi : SimW c E wi mw) (hg : SimGW c g mg vs) (σ : L2.St) (H : Hp) (Q : VK) : tM c E (mLcW fuel mw vs mg t x) σ H Q → tLc wi g (tMT c E0 t) (tM c E0 x) vs σ H Q := fun ⟨S, ι, mem, sl, s, q, p⟩ => by
  refine hi S ι mem H σ sl _ s q ?_
  have p' : Post c (E σ) S ι H (rD c) ((mw sl mem).bind fun it m1 => (lcW it mg t x (wipeSl sl vs) fuel 0 [] m1).bind fun acc m2 => .ok (.lst acc) m2) Q := p
  cases hm : mw sl mem with
  | no =>
    rw [hm] at p'
    exact p'
  | exc k fs m1 =>
    rw [hm] at p'
    exact p'
  | ok it m1 =>
    rw [hm] at p'
    refine fun J ι1 H1 s1 f1 gv Dl hD => ?_
    refine ⟨fun i k H' => ∃ acc accD ι2 mem2, SR c (S.lst Dl acc) ι2 mem2 H' ∧ Ex (fz S ι1 H1) (fz (S.lst Dl acc) ι2 H') ∧ ι1 <+: ι2 ∧ RepA c (fz (S.lst Dl acc) ι2 H') ι2 acc accD ∧
      Post c (E σ) S ι H (rD c) ((lcW it mg t x (wipeSl sl vs) k i accD mem2).bind fun acc m2 => .ok (.lst acc) m2) Q, ?_, ?_⟩
    · obtain ⟨s2, e2⟩ := s1.tmp (xs := []) hD
      exact ⟨fuel, [], [], ι1, m1, s2, e2, List.prefix_refl _, .nil, p'⟩
    · rintro i k H' ⟨acc, accD, ι2, mem2, s2, e2, pr2, ra, z2⟩
      cases k with
      | zero => exact z2.elim
      | succ k =>
        have w := gv _ ι2 mem2 H' i s2 e2 pr2
        unfold lcW at z2
        cases hd : it i mem2 with
        | no =>
          rw [hd] at z2
          exact z2.elim
        | stop =>
          rw [hd] at z2 w
          obtain ⟨s3, h3⟩ := s2.done s.tb
          have fr : Fr S ι1 H1 ι2 H' := ⟨pr2, e2.trans (fz_lst S ι2 H' Dl acc)⟩
          exact .inl ⟨w, z2 _ ι2 H' s3 (f1.trans fr) (Rep.lst h3 (ra.up (fz_lst S ι2 H' Dl acc) (List.prefix_refl _)))⟩
        | item d =>
          rw [hd] at z2 w
          refine .inr ⟨w.1, fun H4 => ∃ acc accD ι4 m4, SR c (S.lst Dl acc) ι4 m4 H4 ∧ Ex (fz S ι1 H1) (fz (S.lst Dl acc) ι4 H4) ∧ ι1 <+: ι4 ∧ RepA c (fz (S.lst Dl acc) ι4 H4) ι4 acc accD ∧
            Post c (E σ) S ι H (rD c) ((lcW it mg t x (wipeSl sl vs) k (i + 1) accD m4).bind fun acc m2 => .ok (.lst acc) m2) Q, fun H4 hN => ⟨k, Nat.lt_succ_self _, hN⟩, fun z H3 hz => ?_⟩
          obtain ⟨ex, rz⟩ := w.2 z H3 hz
          obtain ⟨s3, f3⟩ := s2.grow ex
          have qw : RepSl c (fz (S.lst Dl acc) ι2 H3) ι2 (wipe σ vs) (wipeSl sl vs) := repSl_wipe (((q.fr f1).up (e2.trans f3.e) pr2)) vs
          dsimp only at z2
          cases hgd : mg d (wipeSl sl vs) with
          | none =>
            rw [hgd] at z2
            exact z2.elim
          | some sl3 =>
            rw [hgd] at z2
            refine hg (S.lst Dl acc) ι2 mem2 H3 (wipe σ vs) (wipeSl sl vs) sl3 z d _ s3 qw rz hgd fun σ3 q3 w3 => ⟨by rw [w3, wipe_wipe], ?_⟩
            refine runQ (RR := rB) (Z := fun r => Post c (E σ) S ι H (rD c) (r.bind fun acc m2 => .ok (.lst acc) m2) Q) s3 q3 z2 (fun z => z) fun b b' ι4 m4 H4 s4 f4 r4 z4 => ?_
            have eb : b = b' := r4
            subst eb
            cases b with
            | false => exact ⟨acc, accD, ι4, m4, s4, e2.trans (f3.e.trans f4.e), pr2.trans f4.p, (ra.up f3.e f3.p).up f4.e f4.p, z4⟩
            | true =>
              show tM c E0 x σ3 H4 _
              refine runQ (RR := rD c) (Z := fun r => Post c (E σ) S ι H (rD c) (r.bind fun acc m2 => .ok (.lst acc) m2) Q) s4 (q3.fr f4) z4 (fun z => z) fun v5 d5 ι5 m5 H5 s5 f5 r5 z5 => ?_
              have ra5 := ((ra.up f3.e f3.p).up f4.e f4.p).up f5.e f5.p
              cases hl : Nat.ble accD.length 50000 with
              | true =>
                rw [hl] at z5
                obtain ⟨s6, e6⟩ := s5.push s.tb v5
                refine ⟨acc, S.sub _ _ _ (lst_at s5.i), ?_, acc ++ [v5], accD ++ [d5], ι5, m5, s6, ?_, ((pr2.trans f4.p).trans f5.p), ?_, z5⟩
                · rw [RepA.len ra]
                  have := Nat.le_of_ble_eq_true hl
                  exact sz_lt (by omega)
                · rw [e6]
                  exact e2.trans (f3.e.trans (f4.e.trans f5.e))
                · rw [e6]
                  exact ra5.app (.cons r5 .nil)
              | false =>
                rw [hl] at z5
                exact z5.elim
theorem m_lcW (h : PE X e (tLc wi g (tMT c E0 t) (tM c E0 x) vs)) (hi : SimW c E wi mw) (hg : SimGW c g mg vs) : PE X e (tM c E (mLcW fuel mw vs mg t x)) := h.weak (s_lcW hi hg)
end
end Mi
end
section
set_option Elab.async false
set_option linter.all false
set_option maxRecDepth 100000
set_option maxHeartbeats 4000000
/-! values that are walked: lists, tuples, texts, dicts and their views -/
namespace Mi
open PySem PySem.Spec PyProof.Rows L2 Evl MeV MeG MeD
/-- a list of the memory, as it stands at each turn -/
def itM (n : Nat) : MIt := fun i m => match m[n]? with
  | some (.lst ds) => match ds[i]? with
    | some d => .item d
    | none => .stop
  | _ => .no
/-- a dict of the memory whose keys may not change -/
def itDM (n ep N : Nat) (f : D × D → D) : MIt := fun i m => match m[n]? with
  | some (.dic ep' ds) => bif Nat.beq ep' ep && Nat.beq ds.length N then match ds[i]? with
      | some p => .item (f p)
      | none => .stop
    else .no
  | _ => .no
def prD (p : D × D) : D := .tup [p.1, p.2]
section
variable {c : Cc} {h : Hp} {ι : List Addr}
theorem walks_M {n : Nat} {a : Addr} (hn : ι[n]? = some a) : Walks c h ι (Itl c.K a) (itM n) := fun S2 ι2 mem2 H2 i s e p => by
  unfold itM
  cases hm : mem2[n]? with
  | none => trivial
  | some o =>
    obtain ⟨O, h1, h2⟩ := s.at_ n a o (pre_get p hn) hm
    cases h2 with
    | @lst xs ds ra =>
      have sq : SqL c.K H2 a xs := sq_of (S2.sub _ _ _ h1)
      dsimp only
      cases hd : ds[i]? with
      | none => exact ⟨xs, sq, by rw [ra.len]; exact List.getElem?_eq_none_iff.mp hd⟩
      | some d =>
        obtain ⟨y, hy, ry⟩ := ra.get hd
        refine ⟨⟨xs, y, sq, hy⟩, fun x H3 z => ?_⟩
        obtain ⟨rfl, z2⟩ := z
        rw [Option.some.inj ((z2 xs sq).symm.trans hy)]
        exact ⟨Ex.refl _, ry⟩
    | dic _ => trivial
    | ins _ => trivial
theorem dm_at {n ep N i : Nat} {a : Addr} {f : D × D → D} {S2 : Wv} {ι2 : List Addr} {mem2 : Mem} {H2 : Hp} (hn : ι[n]? = some a) (s : SR c S2 ι2 mem2 H2) (p : ι <+: ι2) {C : WR → Prop} (h0 : C .no)
    (h1 : ∀ xs ds, H2 a = some (DicO c.w a ep xs) → RepK c (fz S2 ι2 H2) ι2 xs ds → xs.length = N → C (match ds[i]? with
      | some p => .item (f p)
      | none => .stop)) : C (itDM n ep N f i mem2) := by
  unfold itDM
  cases hm : mem2[n]? with
  | none => exact h0
  | some o =>
    obtain ⟨O, g1, g2⟩ := s.at_ n a o (pre_get p hn) hm
    cases g2 with
    | @dic ep' xs ds ra =>
      dsimp only
      cases hb : (Nat.beq ep' ep && Nat.beq ds.length N) with
      | false => exact h0
      | true =>
        obtain ⟨b1, b2⟩ := Bool.and_eq_true_iff.mp hb
        have e1 := Nat.eq_of_beq_eq_true b1
        subst e1
        exact h1 xs ds (S2.sub _ _ _ g1) ra (by rw [ra.len]; exact Nat.eq_of_beq_eq_true b2)
    | lst _ => exact h0
    | ins _ => exact h0
theorem walks_DK {n ep N : Nat} {a : Addr} (hn : ι[n]? = some a) : Walks c h ι (ItD c.w a ep N fun e => e.2.1) (itDM n ep N fun p => p.1) := fun S2 ι2 mem2 H2 i s e p => by
  refine dm_at (C := fun r => match r with
    | .stop => (ItD c.w a ep N fun e => e.2.1).stop i H2
    | .item d => (ItD c.w a ep N fun e => e.2.1).go i H2 ∧ ∀ x H3, (ItD c.w a ep N fun e => e.2.1).yld i H2 x H3 → Ex H2 H3 ∧ Rep c (fz S2 ι2 H3) ι2 x d
    | .no => True) hn s p trivial fun xs ds hd ra hl => ?_
  cases q : ds[i]? with
  | none => exact ⟨xs, hd, hl, by rw [← hl, ra.len]; exact List.getElem?_eq_none_iff.mp q⟩
  | some pr =>
    obtain ⟨y, h1, _, h2, _⟩ := ra.at_ q
    refine ⟨⟨xs, hd, hl, by rw [← hl]; exact (List.getElem?_eq_some_iff.mp h1).1⟩, fun x H3 z => ?_⟩
    obtain ⟨rfl, z2⟩ := z
    obtain ⟨e', h3, rfl⟩ := z2 xs hd
    rw [h1] at h3
    cases h3
    exact ⟨Ex.refl _, h2⟩
theorem walks_DV {n ep N : Nat} {a : Addr} (hn : ι[n]? = some a) : Walks c h ι (ItD c.w a ep N fun e => e.2.2) (itDM n ep N fun p => p.2) := fun S2 ι2 mem2 H2 i s e p => by
  refine dm_at (C := fun r => match r with
    | .stop => (ItD c.w a ep N fun e => e.2.2).stop i H2
    | .item d => (ItD c.w a ep N fun e => e.2.2).go i H2 ∧ ∀ x H3, (ItD c.w a ep N fun e => e.2.2).yld i H2 x H3 → Ex H2 H3 ∧ Rep c (fz S2 ι2 H3) ι2 x d
    | .no => True) hn s p trivial fun xs ds hd ra hl => ?_
  cases q : ds[i]? with
  | none => exact ⟨xs, hd, hl, by rw [← hl, ra.len]; exact List.getElem?_eq_none_iff.mp q⟩
  | some pr =>
    obtain ⟨y, h1, _, _, h2⟩ := ra.at_ q
    refine ⟨⟨xs, hd, hl, by rw [← hl]; exact (List.getElem?_eq_some_iff.mp h1).1⟩, fun x H3 z => ?_⟩
    obtain ⟨rfl, z2⟩ := z
    obtain ⟨e', h3, rfl⟩ := z2 xs hd
    rw [h1] at h3
    cases h3
    exact ⟨Ex.refl _, h2⟩
theorem walks_DP {n ep N : Nat} {a : Addr} (hn : ι[n]? = some a) : Walks c h ι (ItP c.w a ep N) (itDM n ep N prD) := fun S2 ι2 mem2 H2 i s e p => by
  refine dm_at (C := fun r => match r with
    | .stop => (ItP c.w a ep N).stop i H2
    | .item d => (ItP c.w a ep N).go i H2 ∧ ∀ x H3, (ItP c.w a ep N).yld i H2 x H3 → Ex H2 H3 ∧ Rep c (fz S2 ι2 H3) ι2 x d
    | .no => True) hn s p trivial fun xs ds hd ra hl => ?_
  cases q : ds[i]? with
  | none => exact ⟨xs, hd, hl, by rw [← hl, ra.len]; exact List.getElem?_eq_none_iff.mp q⟩
  | some pr =>
    obtain ⟨y, h1, _, h2, h2'⟩ := ra.at_ q
    refine ⟨⟨xs, hd, hl, by rw [← hl]; exact (List.getElem?_eq_some_iff.mp h1).1⟩, fun x H3 z => ?_⟩
    obtain ⟨T, u, v, rfl, hT, rfl, z2⟩ := z
    obtain ⟨e', h3, rfl, rfl⟩ := z2 xs hd
    rw [h1] at h3
    cases h3
    obtain ⟨s3, f3, h4⟩ := s.new (o := .tup [y.2.1, y.2.2]) hT (fun _ z => nomatch z)
    exact ⟨Ex.new hT, Rep.tup (st_of h4) (.cons (h2.up f3.e f3.p) (.cons (h2'.up f3.e f3.p) .nil))⟩
/-! dicts that change no more -/
theorem frz_D {a : Addr} {ep : Nat} {xs : List EntV} {ds : List (D × D)} (hd : h a = some (DicO c.w a ep xs)) (r : RepK c h ι xs ds) {S2 : Wv} {ι2 : List Addr} {H2 : Hp} (e : Ex h (fz S2 ι2 H2)) (p : ι <+: ι2) : H2 a = some (DicO c.w a ep xs) ∧ RepK c (fz S2 ι2 H2) ι2 xs ds := ⟨fz_sub _ _ (e _ _ hd), r.up e p⟩
theorem walks_FK {a : Addr} {ep : Nat} {xs : List EntV} {ds : List (D × D)} (hd : h a = some (DicO c.w a ep xs)) (r : RepK c h ι xs ds) : Walks c h ι (ItD c.w a ep xs.length fun e => e.2.1) (itL (ds.map fun p => p.1)) := fun S2 ι2 mem2 H2 i s e p => by
  obtain ⟨hd2, r2⟩ := frz_D hd r e p
  unfold itL
  rw [List.getElem?_map]
  cases q : ds[i]? with
  | none =>
    dsimp only [Option.map_none]
    cases Nat.beq i (ds.map fun p => p.1).length with
    | false => trivial
    | true => exact ⟨xs, hd2, rfl, by rw [r.len]; exact List.getElem?_eq_none_iff.mp q⟩
  | some pr =>
    obtain ⟨y, h1, _, h2, _⟩ := r2.at_ q
    refine ⟨⟨xs, hd2, rfl, (List.getElem?_eq_some_iff.mp h1).1⟩, fun x H3 z => ?_⟩
    obtain ⟨rfl, z2⟩ := z
    obtain ⟨e', h3, rfl⟩ := z2 xs hd2
    rw [h1] at h3
    cases h3
    exact ⟨Ex.refl _, h2⟩
end
/-- what walks a value -/
def iterOf (m : Mem) : D → Option MIt
  | .tup ds => some (itL ds)
  | .lst ds => some (itL ds)
  | .scr ds => some (itL ds)
  | .str x => some (itL (signs x))
  | .dic kvs => some (itL (kvs.map fun p => p.1))
  | .ref n => match m[n]? with
    | some (.lst _) => some (itM n)
    | some (.dic ep ds) => some (itDM n ep ds.length fun p => p.1)
    | _ => none
  | _ => none
def wV (x : ME) : MW := fun sl m => (x sl m).bind fun d m1 => match iterOf m1 d with
  | some it => .ok it m1
  | none => .no
abbrev iAny (w : World) (K : PySem.W.Frag) (t : TE) : TI := fun σ H R => iList K t σ H R ∨ (fun σ H R => iTup K t σ H R ∨ (fun σ H R => iStr t σ H R ∨ iD w (fun d ep n => ItD w d ep n fun e => e.2.1) t σ H R) σ H R) σ H R
section
variable {X : Cx} {c : Cc} {E : SX} {x : ME} {tg e : Expr} {t : TE}
theorem pi_any (h : PE X e t) : PI X tg e (iAny X.w X.K t) := PI_or (pi_list h) (PI_or (pi_tup h) (PI_or (pi_str h) (pi_dK h)))
theorem sim_wV : SimW c E (iAny c.w c.K (tM c E x)) (wV x) := fun S ι mem H σ sl K s q p => by
  unfold wV at p
  cases hx : x sl mem with
  | no =>
    rw [hx] at p
    exact p.elim
  | exc k fs m1 =>
    rw [hx] at p
    exact .inl ⟨S, ι, mem, sl, s, q, by rw [hx]; exact p⟩
  | ok d m1 =>
    rw [hx] at p
    have p' : (match (match iterOf m1 d with
      | some it => R.ok it m1
      | none => R.no) with
      | .ok it m1 => ∀ J ι1 H1, SR c S ι1 m1 H1 → Fr S ι H ι1 H1 → Walks c (fz S ι1 H1) ι1 J it → K J H1
      | .exc k fs m1 => ∀ x ws ι' H', SR c S ι' m1 H' → Fr S ι H ι' H' → fz S ι' H' x = some (.xd ws) → RepF c (fz S ι' H') ι' ws fs → E σ (.ref (c.cl k)) (some x) H'
      | .no => False) := p
    have go : ∀ {Q : VK}, (∀ v ι1 H1, SR c S ι1 m1 H1 → Fr S ι H ι1 H1 → Rep c (fz S ι1 H1) ι1 v d → Q v H1) → tM c E x σ H Q := fun {Q} k => ⟨S, ι, mem, sl, s, q, by rw [hx]; exact k⟩
    cases d with
    | non => exact p'.elim
    | bl b => exact p'.elim
    | int i => exact p'.elim
    | obj k fs => exact p'.elim
    | ty z => exact p'.elim
    | cls k => exact p'.elim
    | err k fs => exact p'.elim
    | clo j => exact p'.elim
    | str z =>
      refine .inr (.inr (.inl (go fun v ι1 H1 s1 f1 r1 => ?_)))
      cases r1
      exact ⟨z, rfl, p' _ ι1 H1 s1 f1 (gives_walks (gives_S z))⟩
    | tup ds =>
      refine .inr (.inl (go fun v ι1 H1 s1 f1 r1 => ?_))
      cases r1 with
      | tup h1 h2 => exact ⟨_, rfl, ⟨_, ex_t fz_sub h1⟩, p' _ ι1 H1 s1 f1 (gives_walks (gives_T h1 h2))⟩
    | lst ds =>
      refine .inl (go fun v ι1 H1 s1 f1 r1 => ?_)
      cases r1 with
      | lst h1 h2 => exact ⟨_, rfl, ⟨_, sq_of (fz_sub _ _ h1)⟩, p' _ ι1 H1 s1 f1 (gives_walks (gives_L (sq_of h1) h2))⟩
    | scr ds =>
      refine .inl (go fun v ι1 H1 s1 f1 r1 => ?_)
      cases r1 with
      | scr h1 h2 => exact ⟨_, rfl, ⟨_, ex_l fz_sub h1⟩, p' _ ι1 H1 s1 f1 (gives_walks (gives_L h1 h2))⟩
    | dic kvs =>
      refine .inr (.inr (.inr (go fun v ι1 H1 s1 f1 r1 => ?_)))
      cases r1 with
      | dic h1 h2 => exact ⟨_, _, _, rfl, fz_sub _ _ h1, p' _ ι1 H1 s1 f1 (walks_FK h1 h2)⟩
    | ref n =>
      unfold iterOf at p'
      dsimp only at p'
      cases hm : m1[n]? with
      | none =>
        rw [hm] at p'
        exact p'.elim
      | some o =>
        rw [hm] at p'
        cases o with
        | ins k fs => exact p'.elim
        | lst ds =>
          refine .inl (go fun v ι1 H1 s1 f1 r1 => ?_)
          cases r1 with
          | ref hn =>
            obtain ⟨O, h1, h2⟩ := s1.at_ n _ _ hn hm
            cases h2 with
            | lst ra => exact ⟨_, rfl, ⟨_, sq_of (S.sub _ _ _ h1)⟩, p' _ ι1 H1 s1 f1 (walks_M hn)⟩
        | dic ep ds =>
          refine .inr (.inr (.inr (go fun v ι1 H1 s1 f1 r1 => ?_)))
          cases r1 with
          | ref hn =>
            obtain ⟨O, h1, h2⟩ := s1.at_ n _ _ hn hm
            cases h2 with
            | dic ra => exact ⟨_, _, _, rfl, S.sub _ _ _ h1, p' _ ι1 H1 s1 f1 (by rw [ra.len]; exact walks_DK hn)⟩
end
/-! d.values(), d.items() -/
def wDM (f : D × D → D) (x : ME) : MW := fun sl m => (x sl m).bind fun d m1 => match d with
  | .ref n => match m1[n]? with
    | some (.dic ep ds) => .ok (itDM n ep ds.length f) m1
    | _ => .no
  | _ => .no
section
variable {c : Cc} {E : SX} {x : ME}
theorem sim_wDM {f : D × D → D} {J : Addr → Nat → Nat → It} (hw : ∀ {h : Hp} {ι : List Addr} {n ep N : Nat} {a : Addr}, ι[n]? = some a → Walks c h ι (J a ep N) (itDM n ep N f)) : SimW c E (iD c.w J (tM c E x)) (wDM f x) := fun S ι mem H σ sl K s q p => by
  refine ⟨S, ι, mem, sl, s, q, ?_⟩
  unfold wDM at p
  cases hx : x sl mem with
  | no =>
    rw [hx] at p
    exact p.elim
  | exc k fs m1 =>
    rw [hx] at p
    exact p
  | ok d m1 =>
    rw [hx] at p
    intro v ι1 H1 s1 f1 r1
    cases r1 <;> try exact (show False from p).elim
    rename_i n a hn
    have p' : (match (match m1[n]? with
      | some (.dic ep ds) => R.ok (itDM n ep ds.length f) m1
      | _ => R.no) with
      | .ok it m1 => ∀ J ι1 H1, SR c S ι1 m1 H1 → Fr S ι H ι1 H1 → Walks c (fz S ι1 H1) ι1 J it → K J H1
      | .exc k fs m1 => ∀ x ws ι' H', SR c S ι' m1 H' → Fr S ι H ι' H' → fz S ι' H' x = some (.xd ws) → RepF c (fz S ι' H') ι' ws fs → E σ (.ref (c.cl k)) (some x) H'
      | .no => False) := p
    cases hm : m1[n]? with
    | none =>
      rw [hm] at p'
      exact p'.elim
    | some o =>
      rw [hm] at p'
      cases o with
      | ins k fs => exact p'.elim
      | lst ds => exact p'.elim
      | dic ep ds =>
        obtain ⟨O, h1, h2⟩ := s1.at_ n _ _ hn hm
        cases h2 with
        | dic ra => exact ⟨a, _, _, rfl, S.sub _ _ _ h1, p' _ ι1 H1 s1 f1 (by rw [ra.len]; exact hw hn)⟩
theorem sim_wDV : SimW c E (iD c.w (fun d ep n => ItD c.w d ep n fun e => e.2.2) (tM c E x)) (wDM (fun p => p.2) x) := sim_wDM fun hn => walks_DV hn
theorem sim_wDP : SimW c E (iD c.w (fun d ep n => ItP c.w d ep n) (tM c E x)) (wDM prD x) := sim_wDM fun hn => walks_DP hn
end
end Mi
end
section
set_option Elab.async false
set_option linter.all false
set_option maxRecDepth 100000
set_option maxHeartbeats 4000000
/-! isinstance, whatever is asked -/
namespace Mi
open PySem PySem.Spec PyProof.Rows L2 Evl MeV MeG MeD MeH
inductive TyD where
  | ty (T : String) | own (k : Nat)
def TyD.val (L : Cl) : TyD → Value
  | .ty T => .type T
  | .own k => .ref (L.cls k)
def tyOfD (m : Mem) : D → Option TyD
  | .non => some (.ty "NoneType")
  | .bl _ => some (.ty "bool")
  | .int _ => some (.ty "int")
  | .str _ => some (.ty "str")
  | .tup _ => some (.ty "tuple")
  | .lst _ => some (.ty "list")
  | .scr _ => some (.ty "list")
  | .dic _ => some (.ty "dict")
  | .obj k _ => some (.own k)
  | .err k _ => some (.own k)
  | .ref n => match m[n]? with
    | some (.lst _) => some (.ty "list")
    | some (.dic _ _) => some (.ty "dict")
    | some (.ins k _) => some (.own k)
    | none => none
  | _ => none
def clsD : D → Option TyD
  | .ty T => some (.ty T)
  | .cls k => some (.own k)
  | _ => none
/-- a class of plain objects -/
structure OwnC (K : PySem.W.Frag) (C : Addr) : Prop where
  cl : Cls K C
  ha : PySem.W.findIn K (.ref C) "__class__" = some (some (.builtin "object.__class__"))
  hn : PySem.W.specialIn K (.builtin "object.__class__") "__get__" = some (some (.builtin "getset_descriptor.__get__"))
  ht : PySem.W.takesIn K (.builtin "object.__class__") = some true
  hm : PySem.W.mroIn K C (.type "object") = some true
/-- what isinstance leans on: the classes, the answers, the error that was caught -/
structure Isi (X : Cx) (L : Cl) (tab : TyD → TyD → Option Bool) : Prop where
  own : ∀ k b u, tab (.own k) u = some b → OwnC X.K (L.cls k) ∨ ∃ ini, XCls X.K (L.cls k) ini
  tab : ∀ t u b, tab t u = some b → PySem.W.kitOne X.K (t.val L) (u.val L) = some b
  err : ∀ a dd k, L.ex = some (a, dd, k) → (∃ ini, XCls X.K (L.cls k) ini) ∧ ∃ oe, (a, oe) ∈ X.pn ∧ Zc (.ref (L.cls k)) (some dd) oe ∧ ∃ vs, oe.data = .fields vs
def anyT (tab : TyD → TyD → Option Bool) (t : TyD) : List D → Option Bool
  | [] => some false
  | c :: r => match clsD c with
    | some u => match tab t u with
      | some true => some true
      | some false => anyT tab t r
      | none => none
    | none => none
def oneT (tab : TyD → TyD → Option Bool) (t : TyD) (c : D) : Option Bool := match c with
  | .tup [] => none
  | .tup (d :: cs) => anyT tab t (d :: cs)
  | _ => match clsD c with
    | some u => tab t u
    | none => none
def gIsU (tab : TyD → TyD → Option Bool) : List D → Mem → R D := fun ds m => match ds with
  | [d, c] => match tyOfD m d with
    | some t => match oneT tab t c with
      | some b => .ok (.bl b) m
      | none => .no
    | none => .no
  | _ => .no
section
variable {X : Cx} {L : Cl} {pins : List (Addr × Obj)} {σ : L2.St} {H : Hp} {s : Shared} {S : Wv} {ι : List Addr} {mem : Mem} {tab : TyD → TyD → Option Bool}
theorem kit_D {v : V} {d : D} {u : Value} {t : TyD} (Z : ∀ k, t = .own k → OwnC X.K (L.cls k) ∨ ∃ ini, XCls X.K (L.cls k) ini) (hE : ∀ a dd k, L.ex = some (a, dd, k) → (∃ ini, XCls X.K (L.cls k) ini) ∧ ∃ oe, (a, oe) ∈ X.pn ∧ Zc (.ref (L.cls k)) (some dd) oe ∧ ∃ vs, oe.data = .fields vs)
    (I : Inv X pins σ H s) (sr : SR (cX X L) S ι mem H) (r : Rep (cX X L) (fz S ι H) ι v d) (rv : RelV v u) (ht : tyOfD mem d = some t) : ∃ P : Heap → Prop, PySem.W.KitX X.K u (t.val L) P ∧ P s.heap ∧ u ≠ .builtin "__main__.__loader__#opaque" := by
  have ins : ∀ {a dx : Addr} {k : Nat} {fs : List (Str × V)}, H a = some (.ins (L.cls k) dx fs) → (OwnC X.K (L.cls k) ∨ ∃ ini, XCls X.K (L.cls k) ini) → ∃ P : Heap → Prop, PySem.W.KitX X.K (.ref a) (.ref (L.cls k)) P ∧ P s.heap ∧ Value.ref a ≠ .builtin "__main__.__loader__#opaque" := fun {a dx k fs} ea z => by
    obtain ⟨mA, O, _⟩ := ins_get I.hok ea
    obtain ⟨od, J, _⟩ := O.look
    rcases z with z | ⟨ini, z⟩
    · exact ⟨_, PySem.W.kitx_own (z.cl.get _) z.cl.hd z.ha z.hn z.ht z.hm, J, fun z => nomatch z⟩
    · obtain ⟨cd, hcd, _⟩ := PySem.W.any_some z.hd
      exact ⟨_, PySem.W.kitx_exc (by rw [hcd]; rfl) z.ga z.gt z.su z.ca z.sp z.tk z.mo, J, fun z => nomatch z⟩
  cases r with
  | non => cases ht; exact kit_of I rv (.base .non)
  | bl b => cases ht; exact kit_of I rv (.base (.bl b))
  | int i => cases ht; exact kit_of I rv (.base (.int i))
  | str x => cases ht; exact kit_of I rv (.base (.str x))
  | ty x => cases ht
  | cls k => cases ht
  | clo _ _ _ => cases ht
  | tup h1 h2 =>
    cases ht
    obtain rfl := rv
    obtain ⟨its, _, ⟨o, ho, hc, _⟩, _⟩ := I.tuple (ex_t fz_sub h1)
    exact ⟨_, PySem.W.kitx_tuple, ⟨o, ho, hc⟩, fun z => nomatch z⟩
  | lst h1 h2 => cases ht; exact kit_of I rv (.base (.lst (fz_sub _ _ h1)))
  | scr h1 h2 =>
    cases ht
    obtain rfl := rv
    obtain ⟨its, _, ⟨o, n, ho, hc, _⟩, _⟩ := I.list (ex_l fz_sub h1)
    exact ⟨_, PySem.W.kitx_list, ⟨o, ho, hc⟩, fun z => nomatch z⟩
  | dic h1 h2 =>
    cases ht
    obtain rfl := rv
    obtain ⟨_, _, raw, _⟩ := raw_of I (fz_sub _ _ h1)
    obtain ⟨o, ho, hc, _⟩ := raw
    exact ⟨_, PySem.W.kitx_dict, ⟨o, ho, hc.1⟩, fun z => nomatch z⟩
  | obj h1 h2 =>
    cases ht
    obtain rfl := rv
    exact ins (fz_sub _ _ h1) (Z _ rfl)
  | @err a dd k ws fs h1 h2 h3 =>
    cases ht
    obtain rfl := rv
    obtain ⟨⟨ini, z⟩, oe, hp, hz, vs, hv⟩ := hE a dd k h1
    obtain ⟨ha, _⟩ := I.pin (a, oe) (List.mem_append_left _ hp)
    obtain ⟨mA, hns, _⟩ := (show ObjOk X.prog X.w H s.heap dd (.xd ws) from I.hok dd _ (fz_sub _ _ h2))
    obtain ⟨od, hod, _⟩ := lookIn_ns hns
    have J : PySem.W.InstAt s.heap a oe (L.cls k) (some od) := ⟨ha, hz.1, by unfold PySem.W.notCls; rw [hv] <;> rfl, by rw [hz.2]; exact hod⟩
    obtain ⟨cd, hcd, _⟩ := PySem.W.any_some z.hd
    exact ⟨_, PySem.W.kitx_exc (by rw [hcd]; rfl) z.ga z.gt z.su z.ca z.sp z.tk z.mo, J, fun z => nomatch z⟩
  | @ref n a hn =>
    obtain rfl := rv
    unfold tyOfD at ht
    dsimp only at ht
    cases hm : mem[n]? with
    | none => rw [hm] at ht; cases ht
    | some o =>
      rw [hm] at ht
      obtain ⟨O, h1, h2⟩ := sr.at_ n a o hn hm
      cases h2 with
      | lst k => cases ht; exact kit_of I (show RelV (.ref a) (.ref a) from rfl) (.base (.lst (S.sub _ _ _ h1)))
      | dic k =>
        cases ht
        obtain ⟨_, _, raw, _⟩ := raw_of I (S.sub _ _ _ h1)
        obtain ⟨o, ho, hc, _⟩ := raw
        exact ⟨_, PySem.W.kitx_dict, ⟨o, ho, hc.1⟩, fun z => nomatch z⟩
      | ins k =>
        cases ht
        exact ins (S.sub _ _ _ h1) (Z _ rfl)
theorem cls_val {h : Hp} {v : V} {d : D} {u : Value} {t : TyD} (r : Rep (cX X L) h ι v d) (rv : RelV v u) (e : clsD d = some t) : u = t.val L := by
  cases r <;> cases e <;> exact rv
theorem any_val {h : Hp} {t : TyD} {b : Bool} (Z : ∀ t u b, tab t u = some b → PySem.W.kitOne X.K (t.val L) (u.val L) = some b) : ∀ {vs : List V} {ds : List D} {us : List Value}, RepA (cX X L) h ι vs ds → Vals vs us → anyT tab t ds = some b → PySem.W.kitAny X.K (t.val L) us = some b
  | _, _, _, .nil, .nil, e => by
    cases e
    rfl
  | _, _, _, .cons (d := d) a r, .cons (b := u0) p q, e => by
    unfold anyT at e
    cases hc : clsD d with
    | none => rw [hc] at e; cases e
    | some y =>
      rw [hc] at e
      dsimp only at e
      have eu := cls_val a p hc
      subst eu
      cases ht : tab t y with
      | none => rw [ht] at e; cases e
      | some k =>
        rw [ht] at e
        unfold PySem.W.kitAny
        rw [Z _ _ _ ht]
        cases k with
        | true =>
          cases e
          rfl
        | false => exact any_val Z r q e
theorem isi_own (Z : Isi X L tab) {t : TyD} {c : D} {b : Bool} (e : oneT tab t c = some b) (hne : c ≠ .tup []) : ∀ k, t = .own k → OwnC X.K (L.cls k) ∨ ∃ ini, XCls X.K (L.cls k) ini := fun k hk => by
  subst hk
  have one : ∀ {d : D} {y : TyD} {q : Bool}, tab (.own k) y = some q → OwnC X.K (L.cls k) ∨ ∃ ini, XCls X.K (L.cls k) ini := fun {d y q} h => Z.own k q y h
  unfold oneT at e
  split at e
  · cases e
  · rename_i d r
    unfold anyT at e
    cases hc : clsD d with
    | none => rw [hc] at e; cases e
    | some y =>
      rw [hc] at e
      dsimp only at e
      cases ht : tab (.own k) y with
      | none => rw [ht] at e; cases e
      | some q => exact one (d := d) ht
  · cases hc : clsD c with
    | none => rw [hc] at e; cases e
    | some y =>
      rw [hc] at e
      exact one (d := c) e
theorem call_isU (Z : Isi X L tab) : CallR X (.builtin "isinstance") (rGB (cX X L) (gIsU tab)) := fun pins s σ H xs us Q I rs ⟨E, S, ι, mem, ds, sr, r, p⟩ => by
  unfold gIsU at p
  cases r with
  | nil => exact p.elim
  | @cons v d vs ds r1 r2 =>
    cases r2 with
    | nil => exact p.elim
    | @cons v2 c vs ds r2 r3 =>
      cases r3 with
      | cons _ _ => exact p.elim
      | nil =>
        dsimp only at p
        cases rs with
        | cons e1 rs =>
          cases rs with
          | cons e2 rs =>
            cases rs
            cases ht : tyOfD mem d with
            | none => rw [ht] at p; exact p.elim
            | some t =>
              rw [ht] at p
              dsimp only at p
              cases hb : oneT tab t c with
              | none => rw [hb] at p; exact p.elim
              | some b =>
                rw [hb] at p
                have nonil : c ≠ .tup [] := fun z => by
                  rw [z] at hb
                  cases hb
                have fin : ∀ tk, EP X pins σ Q (.bool b) { s with toks := tk } := fun tk => ⟨.bl b, H, I.tok tk, rfl, Post.here p sr (Rep.bl b)⟩
                by_cases hne : c = .tup []
                · exact (nonil hne).elim
                · obtain ⟨P, KZ, hp, ho⟩ := kit_D (isi_own Z hb hne) Z.err I sr r1 e1 ht
                  unfold oneT at hb
                  split at hb
                  · cases hb
                  · rename_i d' cs
                    cases r2 with
                    | tup h1 h2 =>
                      obtain rfl := e2
                      obtain ⟨its, hv, ⟨o, g1, g2, n, g3⟩, _⟩ := I.tuple (ex_t fz_sub h1)
                      obtain ⟨oc, od, odt, os⟩ := o
                      dsimp only at g2 g3
                      subst g2 g3
                      exact PySem.W.kia_tup KZ I.kIn hp g1 (any_val Z.tab h2 hv hb) ho fin
                  · cases hc : clsD c with
                    | none => rw [hc] at hb; cases hb
                    | some y =>
                      rw [hc] at hb
                      rw [cls_val r2 e2 hc]
                      exact PySem.W.kia_one KZ I.kIn hp (Z.tab _ _ _ hb) ho fin
end
end Mi
end
section
set_option Elab.async false
set_option linter.all false
set_option maxRecDepth 100000
set_option maxHeartbeats 4000000
/-! try .. except C as e: return .. -/
namespace Mi
open PySem PySem.Spec PyProof.Rows L2 Evl MeV MeG MeD MeH
/-- the same, but for the caught error -/
abbrev withEx (c : Cc) (o : Option (Addr × Addr × Nat)) : Cc := ⟨c.w, c.K, ⟨c.L.cls, o, c.L.lam, c.L.cap, c.L.tabs⟩⟩
mutual
def noErr : D → Bool
  | .err _ _ => false
  | .tup ds => noErrA ds
  | .lst ds => noErrA ds
  | .scr ds => noErrA ds
  | .dic kvs => noErrK kvs
  | .obj _ fs => noErrF fs
  | .non => true
  | .bl _ => true
  | .int _ => true
  | .str _ => true
  | .ty _ => true
  | .ref _ => true
  | .cls _ => true
  | .clo _ => true
def noErrA : List D → Bool
  | [] => true
  | d :: ds => noErr d && noErrA ds
def noErrK : List (D × D) → Bool
  | [] => true
  | (k, d) :: ds => noErr k && (noErr d && noErrK ds)
def noErrF : List (Str × D) → Bool
  | [] => true
  | (_, d) :: ds => noErr d && noErrF ds
end
section
variable {c : Cc} {h : Hp} {ι : List Addr} {o : Option (Addr × Addr × Nat)}
mutual
theorem Rep.toEx (e : c.L.ex = none) : ∀ {v : V} {d : D}, Rep c h ι v d → Rep (withEx c o) h ι v d
  | _, _, .non => .non
  | _, _, .bl b => .bl b
  | _, _, .int i => .int i
  | _, _, .str x => .str x
  | _, _, .ty x => .ty x
  | _, _, .ref q => .ref q
  | _, _, .tup s k => .tup s (RepA.toEx e k)
  | _, _, .lst s k => .lst s (RepA.toEx e k)
  | _, _, .scr s k => .scr s (RepA.toEx e k)
  | _, _, .dic s k => .dic s (RepK.toEx e k)
  | _, _, .obj s k => .obj s (RepF.toEx e k)
  | _, _, .cls k => Rep.cls (c := withEx c o) k
  | _, _, .err a _ _ => by rw [e] at a; cases a
  | _, _, .clo a b k => .clo a b k
theorem RepA.toEx (e : c.L.ex = none) : ∀ {vs : List V} {ds : List D}, RepA c h ι vs ds → RepA (withEx c o) h ι vs ds
  | _, _, .nil => .nil
  | _, _, .cons a k => .cons (Rep.toEx e a) (RepA.toEx e k)
theorem RepK.toEx (e : c.L.ex = none) : ∀ {vs : List EntV} {ds : List (D × D)}, RepK c h ι vs ds → RepK (withEx c o) h ι vs ds
  | _, _, .nil => .nil
  | _, _, .cons z b a k => .cons z (Rep.toEx e b) (Rep.toEx e a) (RepK.toEx e k)
theorem RepF.toEx (e : c.L.ex = none) : ∀ {vs : List (Str × V)} {ds : List (Str × D)}, RepF c h ι vs ds → RepF (withEx c o) h ι vs ds
  | _, _, .nil => .nil
  | _, _, .cons a k => .cons (Rep.toEx e a) (RepF.toEx e k)
end
mutual
theorem Rep.ofEx : ∀ {v : V} {d : D}, Rep (withEx c o) h ι v d → noErr d = true → Rep c h ι v d
  | _, _, .non, _ => .non
  | _, _, .bl b, _ => .bl b
  | _, _, .int i, _ => .int i
  | _, _, .str x, _ => .str x
  | _, _, .ty x, _ => .ty x
  | _, _, .ref q, _ => .ref q
  | _, _, .tup s k, n => .tup s (RepA.ofEx k (by simpa only [noErr] using n))
  | _, _, .lst s k, n => .lst s (RepA.ofEx k (by simpa only [noErr] using n))
  | _, _, .scr s k, n => .scr s (RepA.ofEx k (by simpa only [noErr] using n))
  | _, _, .dic s k, n => .dic s (RepK.ofEx k (by simpa only [noErr] using n))
  | _, _, .obj s k, n => .obj s (RepF.ofEx k (by simpa only [noErr] using n))
  | _, _, .cls k, _ => Rep.cls (c := c) k
  | _, _, .err a _ _, n => by simp only [noErr] at n; cases n
  | _, _, .clo a b k, _ => .clo a b k
theorem RepA.ofEx : ∀ {vs : List V} {ds : List D}, RepA (withEx c o) h ι vs ds → noErrA ds = true → RepA c h ι vs ds
  | _, _, .nil, _ => .nil
  | _, _, .cons a k, n => by
    simp only [noErrA, Bool.and_eq_true] at n
    exact .cons (Rep.ofEx a n.1) (RepA.ofEx k n.2)
theorem RepK.ofEx : ∀ {vs : List EntV} {ds : List (D × D)}, RepK (withEx c o) h ι vs ds → noErrK ds = true → RepK c h ι vs ds
  | _, _, .nil, _ => .nil
  | _, _, .cons z b a k, n => by
    simp only [noErrK, Bool.and_eq_true] at n
    exact .cons z (Rep.ofEx b n.1) (Rep.ofEx a n.2.1) (RepK.ofEx k n.2.2)
theorem RepF.ofEx : ∀ {vs : List (Str × V)} {ds : List (Str × D)}, RepF (withEx c o) h ι vs ds → noErrF ds = true → RepF c h ι vs ds
  | _, _, .nil, _ => .nil
  | _, _, .cons a k, n => by
    simp only [noErrF, Bool.and_eq_true] at n
    exact .cons (Rep.ofEx a n.1) (RepF.ofEx k n.2)
end
mutual
theorem Rep.noE (e : c.L.ex = none) : ∀ {v : V} {d : D}, Rep c h ι v d → noErr d = true
  | _, _, .non => by simp only [noErr]
  | _, _, .bl b => by simp only [noErr]
  | _, _, .int i => by simp only [noErr]
  | _, _, .str x => by simp only [noErr]
  | _, _, .ty x => by simp only [noErr]
  | _, _, .ref q => by simp only [noErr]
  | _, _, .tup s k => by simp only [noErr]; exact RepA.noE e k
  | _, _, .lst s k => by simp only [noErr]; exact RepA.noE e k
  | _, _, .scr s k => by simp only [noErr]; exact RepA.noE e k
  | _, _, .dic s k => by simp only [noErr]; exact RepK.noE e k
  | _, _, .obj s k => by simp only [noErr]; exact RepF.noE e k
  | _, _, .cls k => by simp only [noErr]
  | _, _, .err a _ _ => by rw [e] at a; cases a
  | _, _, .clo a b k => by simp only [noErr]
theorem RepA.noE (e : c.L.ex = none) : ∀ {vs : List V} {ds : List D}, RepA c h ι vs ds → noErrA ds = true
  | _, _, .nil => by simp only [noErrA]
  | _, _, .cons a k => by simp only [noErrA, Bool.and_eq_true]; exact ⟨Rep.noE e a, RepA.noE e k⟩
theorem RepK.noE (e : c.L.ex = none) : ∀ {vs : List EntV} {ds : List (D × D)}, RepK c h ι vs ds → noErrK ds = true
  | _, _, .nil => by simp only [noErrK]
  | _, _, .cons z b a k => by simp only [noErrK, Bool.and_eq_true]; exact ⟨Rep.noE e b, Rep.noE e a, RepK.noE e k⟩
theorem RepF.noE (e : c.L.ex = none) : ∀ {vs : List (Str × V)} {ds : List (Str × D)}, RepF c h ι vs ds → noErrF ds = true
  | _, _, .nil => by simp only [noErrF]
  | _, _, .cons a k => by simp only [noErrF, Bool.and_eq_true]; exact ⟨Rep.noE e a, RepF.noE e k⟩
end
theorem SR.toEx {S : Wv} {m : Mem} {H : Hp} (e : c.L.ex = none) (s : SR c S ι m H) : SR (withEx c o) S ι m H := ⟨s.i, s.nd, s.len, fun n a ob h1 h2 => by
  obtain ⟨O, h3, h4⟩ := s.at_ n a ob h1 h2
  cases h4 with
  | lst k => exact ⟨_, h3, .lst (k.toEx e)⟩
  | dic k => exact ⟨_, h3, .dic (k.toEx e)⟩
  | ins k => exact ⟨_, h3, .ins (k.toEx e)⟩, fun p hp => (s.cap p hp).toEx e, s.tb⟩
theorem SR.ofEx {S : Wv} {m : Mem} {H H' : Hp} {ι' : List Addr} (e : c.L.ex = none) (s : SR c S ι m H) (s' : SR (withEx c o) S ι' m H') : SR c S ι' m H' := ⟨s'.i, s'.nd, s'.len, fun n a ob h1 h2 => by
  obtain ⟨O, h3, h4⟩ := s'.at_ n a ob h1 h2
  have hl : n < ι.length := by
    rw [s.len, ← s'.len]
    exact (List.getElem?_eq_some_iff.mp h1).1
  obtain ⟨O2, _, h5⟩ := s.at_ n ι[n] ob (List.getElem?_eq_getElem hl) h2
  cases h4 with
  | lst k =>
    cases h5 with
    | lst k2 => exact ⟨_, h3, .lst (k.ofEx (k2.noE e))⟩
  | dic k =>
    cases h5 with
    | dic k2 => exact ⟨_, h3, .dic (k.ofEx (k2.noE e))⟩
  | ins k =>
    cases h5 with
    | ins k2 => exact ⟨_, h3, .ins (k.ofEx (k2.noE e))⟩, fun p hp => (s'.cap p hp).ofEx ((s.cap p hp).noE e), s.tb⟩
theorem RepSl.toEx {σ : L2.St} {sl : Sl} (e : c.L.ex = none) (r : RepSl c h ι σ sl) : RepSl (withEx c o) h ι σ sl := ⟨r.len, fun i d q => let ⟨v, h1, h2⟩ := r.at_ i d q; ⟨v, h1, h2.toEx e⟩⟩
end
/-- nothing of the memory is changed -/
def Still (x : ME) : Prop := ∀ sl m d m1, x sl m = .ok d m1 → m1 = m
def StillA (x : MA) : Prop := ∀ sl m d m1, x sl m = .ok d m1 → m1 = m
/-- ks k: does the clause take an error of class k? -/
def nTryR (ks : Nat → Option Bool) (i : Nat) (body : MS) (x : ME) : MS := fun sl m => match body sl m with
  | .exc k fs sl1 m1 => match ks k with
    | some true => match x (sl1.set i (some (.err k fs))) m1 with
      | .ok d _ => bif noErr d then .ret d m1 else .no
      | _ => .no
    | some false => .exc k fs sl1 m1
    | none => .no
  | r => r
section
variable {X : Cx} {L : Cl} {E : SX} {x n : Str} {i kc : Nat} {body : List Stmt} {e : Expr} {np pos pos' rpos : Pos} {b : MS} {me : ME} {ks : Nat → Option Bool} {Wout : WX}
theorem n_tryR (hs : X.stack = X.env :: X.outer) (hf : X.env.frame = some X.env.locals) (hN : X.N.Nodup) (hi : X.N[i]? = some n) (hln : X.env.kindOf n = some .local) (hc : Names X x (.ref (L.cls kc))) (tk : Takes X Wout) (hW : ∀ cls d σ H, E σ cls d H → Wout cls d σ H) (hex : L.ex = none) (st : Still me)
    (hks : ∀ k b, ks k = some b → PySem.W.exmOne X.K (.ref (L.cls k)) (.ref (L.cls kc)) = some b)
    (hb : ∀ (W : WX) (pn : List (Addr × Obj)) (xe : Value → Shared → Prop), Takes (X.tr pn xe) W → PassesOwn (model X.prog X.w) X.A X.env xe → PSs (X.tr pn xe) body (tMS (cX X L) (fun σ cls d H => W cls d σ H) b))
    (hsu : ∀ (a : Addr) (oe : Obj) (k : Nat) (dd : Addr) (pn : List (Addr × Obj)), Zc (.ref (L.cls k)) (some dd) oe → (∃ vs, oe.data = .fields vs) → ks k = some true → PE (X.suite a ((a, oe) :: pn)) e (tM (withEx (cX X L) (some (a, dd, k))) E0 me)) :
    PS X (.Try body [.ExceptHandler (some (.Name x np)) (some n) [.Return (some e) rpos] pos'] [] [] pos) (tMS (cX X L) E (nTryR ks i b me)) := by
  refine (ps_try_as (tb := fun W => tMS (cX X L) (fun σ cls d H => W cls d σ H) b) (ts := fun a cls d D σ H => ∃ k dd, cls = .ref (L.cls k) ∧ d = some dd ∧ ks k = some true ∧ tRet (tM (withEx (cX X L) (some (a, dd, k))) E0 me) D σ H) hs hf hN hi hln hc tk hb ?_).weak ?_
  · refine fun a oe cls d pn hz hv => ⟨fun pins s σ H D I ⟨k, dd, e1, e2, hk, hh⟩ => ?_⟩
    subst e1 e2
    exact (pss_one (ps_ret (hsu a oe k dd pn hz hv hk))).run pins s σ H D I hh
  · rintro D σ H ⟨S, ι, mem, sl, s, q, p⟩
    refine ⟨S, ι, mem, sl, s, q, ?_⟩
    unfold nTryR at p
    cases hbm : b sl mem with
    | next a1 a2 => rw [hbm] at p; exact p
    | ret a1 a2 => rw [hbm] at p; exact p
    | brk a1 a2 => rw [hbm] at p; exact p
    | cont a1 a2 => rw [hbm] at p; exact p
    | no => rw [hbm] at p; exact p
    | exc k fs sl1 m1 =>
      rw [hbm] at p
      dsimp only at p
      intro σ1 dd ws ι1 H1 s1 f1 q1 hx rf
      show wAs X.K (.ref (L.cls kc)) i _ Wout D (.ref (L.cls k)) (some dd) σ1 H1
      cases hk : ks k with
      | none => rw [hk] at p; exact p.elim
      | some bb =>
        rw [hk] at p
        refine ⟨bb, hks k bb hk, fun hb1 a ha => ?_, fun hb1 => ?_⟩
        · subst hb1
          dsimp only at p
          refine ⟨k, dd, rfl, rfl, hk, S, ι1, m1, sl1.set i (some (.err k fs)), s1.toEx hex, (q1.toEx hex).set i (Rep.err rfl hx (rf.toEx hex)), ?_⟩
          cases hm : me (sl1.set i (some (.err k fs))) m1 with
          | no => rw [hm] at p; exact p
          | exc a1 a2 a3 => rw [hm] at p; exact p.elim
          | ok d m2 =>
            rw [hm] at p
            have e2 := st _ _ _ _ hm
            subst e2
            dsimp only at p
            cases hn : noErr d with
            | false => rw [hn] at p; exact p.elim
            | true =>
              rw [hn] at p
              intro v ι2 H2 s2 f2 r2
              exact p v ι2 H2 (SR.ofEx hex s1 s2) (f1.trans f2) (Rep.ofEx r2 hn)
        · subst hb1
          exact hW _ _ _ _ (p σ1 dd ws ι1 H1 s1 f1 q1 hx rf)
end
end Mi
end
section
set_option Elab.async false
set_option linter.all false
set_option maxRecDepth 100000
set_option maxHeartbeats 4000000
/-! the caught error: its fields; what leaves the memory as it is -/
namespace Mi
open PySem PySem.Spec PyProof.Rows L2 Evl MeV MeG MeD MeH
def mXf (f : Str) (x : ME) : ME := fun sl m => (x sl m).bind fun d m1 => match d with
  | .err _ fs => match fs.lookup f with
    | some v => .ok v m1
    | none => .no
  | _ => .no
section
variable {X : Cx} {L : Cl} {E : SX} {a dd : Addr} {oe : Obj} {k : Nat} {pn : List (Addr × Obj)} {e : Expr} {pos : Pos} {f : Str} {x : ME}
theorem repF_look {c : Cc} {h : Hp} {ι : List Addr} {d : D} : ∀ {ws : List (Str × V)} {fs : List (Str × D)}, RepF c h ι ws fs → fs.lookup f = some d → ∃ v, ws.lookup f = some v ∧ Rep c h ι v d
  | _, _, .nil, e => by cases e
  | _, _, .cons (f := g) a k, e => by
    rw [List.lookup_cons] at e ⊢
    cases hb : f == g with
    | true =>
      rw [hb] at e
      cases e
      exact ⟨_, rfl, a⟩
    | false =>
      rw [hb] at e
      exact repF_look k e
theorem m_xf {ini : String} (T : XCls X.K (L.cls k) ini) (hno : PySem.W.findIn X.K (.ref (L.cls k)) f = some none) (hz : Zc (.ref (L.cls k)) (some dd) oe) (hf : ∃ vs, oe.data = .fields vs)
    (he : PE (X.suite a ((a, oe) :: pn)) e (tM (withEx (cX X L) (some (a, dd, k))) E x)) (hb : attributeBase e f X.env (eval e X.env) = eval e X.env := by rfl) :
    PE (X.suite a ((a, oe) :: pn)) (.Attribute e f pos) (tM (withEx (cX X L) (some (a, dd, k))) E (mXf f x)) := (pe_xf (X := X) ⟨T.ga, T.gt, T.su, T.hd⟩ hno hz hf he hb).weak fun σ H Q ⟨S, ι, mem, sl, s, q, p⟩ =>
  run1 (RR := rD _) s q p fun v d ι1 m1 H1 s1 f1 r1 p1 => by
    cases r1 with
    | @err a' dd' k' ws fs h1 h2 h3 =>
      cases h1
      dsimp only at p1
      cases hl : fs.lookup f with
      | none => rw [hl] at p1; exact p1.elim
      | some y =>
        rw [hl] at p1
        obtain ⟨w, g1, g2⟩ := repF_look h3 hl
        exact ⟨rfl, rfl, _, ws, w, rfl, fz_sub _ _ h2, g1, Post.here p1 s1 g2⟩
    | _ => exact p1.elim
end
section
variable {x y : ME} {r : MA}
theorem still_var {i : Nat} : Still (mVar i) := fun sl m d m1 e => by
  unfold mVar at e
  split at e
  · cases e; rfl
  · cases e
theorem still_c {d : D} : Still (mC d) := fun sl m d m1 e => by cases e; rfl
theorem still_bind {α β : Type} {p : R α} {f : α → Mem → R β} {d : β} {m1 : Mem} (e : p.bind f = .ok d m1) : ∃ a m, p = .ok a m ∧ f a m = .ok d m1 := by
  cases p with
  | ok a m => exact ⟨a, m, rfl, e⟩
  | exc _ _ _ => cases e
  | no => cases e
theorem still_xf {f : Str} (h : Still x) : Still (mXf f x) := fun sl m d m1 e => by
  obtain ⟨a, m2, h1, h2⟩ := still_bind e
  rw [← h _ _ _ _ h1]
  split at h2
  · split at h2
    · cases h2; rfl
    · cases h2
  · cases h2
theorem still_nil : StillA mNil := fun sl m d m1 e => by cases e; rfl
theorem still_cons (h : Still x) (k : StillA r) : StillA (mCons x r) := fun sl m d m1 e => by
  obtain ⟨a, m2, h1, h2⟩ := still_bind e
  obtain ⟨b, m3, h3, h4⟩ := still_bind h2
  cases h4
  rw [k _ _ _ _ h3]
  exact h _ _ _ _ h1
theorem still_tup (k : StillA r) : Still (mTup r) := fun sl m d m1 e => by
  obtain ⟨a, m2, h1, h2⟩ := still_bind e
  split at h2
  · cases h2
    exact k _ _ _ _ h1
  · cases h2
theorem still_lst (k : StillA r) : Still (mLst r) := fun sl m d m1 e => by
  obtain ⟨a, m2, h1, h2⟩ := still_bind e
  split at h2
  · cases h2
    exact k _ _ _ _ h1
  · cases h2
theorem still_cb {g : List D → Mem → R D} (hg : ∀ ds m d m1, g ds m = .ok d m1 → m1 = m) (k : StillA r) : Still (mCB g r) := fun sl m d m1 e => by
  obtain ⟨a, m2, h1, h2⟩ := still_bind e
  rw [← k _ _ _ _ h1]
  exact hg _ _ _ _ h2
theorem still_isU {tab : TyD → TyD → Option Bool} (ds : List D) (m : Mem) (d : D) (m1 : Mem) (e : gIsU tab ds m = .ok d m1) : m1 = m := by
  unfold gIsU at e
  split at e
  · split at e
    · split at e
      · cases e; rfl
      · cases e
    · cases e
  · cases e
end
end Mi
end
section
set_option Elab.async false
set_option linter.all false
set_option maxRecDepth 100000
set_option maxHeartbeats 4000000
/-! lambdas, and defs that are handed one -/
namespace Mi
open PySem PySem.Spec PyProof.Rows L2 Evl MeV MeG MeD MeH MeL LamX
/-- what is known in c is known in c' -/
structure Knows (c c' : Cc) : Prop where
  w : c.w = c'.w
  K : c.K = c'.K
  cls : c.L.cls = c'.L.cls
  ex : ∀ x, c.L.ex = some x → c'.L.ex = some x
  lam : ∀ j l, c.L.lam j = some l → c'.L.lam j = some l
section
variable {c c' : Cc} {h : Hp} {ι : List Addr}
mutual
theorem Rep.cong (k : Knows c c') : ∀ {v : V} {d : D}, Rep c h ι v d → Rep c' h ι v d
  | _, _, .non => .non
  | _, _, .bl b => .bl b
  | _, _, .int i => .int i
  | _, _, .str x => .str x
  | _, _, .ty x => .ty x
  | _, _, .ref q => .ref q
  | _, _, .tup s r => .tup (by rw [← k.K]; exact s) (RepA.cong k r)
  | _, _, .lst s r => .lst s (RepA.cong k r)
  | _, _, .scr s r => .scr (by rw [← k.K]; exact s) (RepA.cong k r)
  | _, _, .dic s r => .dic (by rw [← k.w]; exact s) (RepK.cong k r)
  | _, _, .obj (k := n) s r => .obj (by have e : c'.cl n = c.cl n := by { show c'.L.cls n = c.L.cls n; rw [k.cls] }; rw [e]; exact s) (RepF.cong k r)
  | _, _, .cls n => by
    have e : c.cl n = c'.cl n := by
      show c.L.cls n = c'.L.cls n
      rw [k.cls]
    rw [e]
    exact .cls n
  | _, _, .err a b r => .err (k.ex _ a) b (RepF.cong k r)
  | _, _, .clo a b r => .clo (k.lam _ _ a) b r
theorem RepA.cong (k : Knows c c') : ∀ {vs : List V} {ds : List D}, RepA c h ι vs ds → RepA c' h ι vs ds
  | _, _, .nil => .nil
  | _, _, .cons a r => .cons (Rep.cong k a) (RepA.cong k r)
theorem RepK.cong (k : Knows c c') : ∀ {vs : List EntV} {ds : List (D × D)}, RepK c h ι vs ds → RepK c' h ι vs ds
  | _, _, .nil => .nil
  | _, _, .cons z b a r => .cons z (Rep.cong k b) (Rep.cong k a) (RepK.cong k r)
theorem RepF.cong (k : Knows c c') : ∀ {vs : List (Str × V)} {ds : List (Str × D)}, RepF c h ι vs ds → RepF c' h ι vs ds
  | _, _, .nil => .nil
  | _, _, .cons a r => .cons (Rep.cong k a) (RepF.cong k r)
end
theorem RepO.cong (k : Knows c c') {a : Addr} {o : MO} {O : HO} (r : RepO c h ι a o O) : RepO c' h ι a o O := by
  cases r with
  | lst r => exact .lst (r.cong k)
  | dic r => rw [k.w]; exact .dic (r.cong k)
  | @ins n dx fs ds r =>
    have e : c.cl n = c'.cl n := by
      show c.L.cls n = c'.L.cls n
      rw [k.cls]
    rw [e]
    exact .ins (r.cong k)
theorem RepSl.cong (k : Knows c c') {σ : L2.St} {sl : Sl} (r : RepSl c h ι σ sl) : RepSl c' h ι σ sl := ⟨r.len, fun i d q => let ⟨v, h1, h2⟩ := r.at_ i d q; ⟨v, h1, h2.cong k⟩⟩
theorem SR.cong (k : Knows c c') {S : Wv} {m : Mem} {H : Hp} (s : SR c S ι m H) (hc : ∀ p ∈ c'.L.cap, Rep c' (fz S ι H) ι p.1 p.2) (ht : c'.L.tabs = c.L.tabs) : SR c' S ι m H :=
  ⟨s.i, s.nd, s.len, fun n a o h1 h2 => let ⟨O, h3, h4⟩ := s.at_ n a o h1 h2; ⟨O, h3, h4.cong k⟩, hc, fun T h => s.tb T (ht ▸ h)⟩
end
/-! the caller's slots, kept while a lambda of the caller may be called -/
def capOf : L2.St → Sl → List (V × D)
  | some v :: σ, some d :: sl => (v, d) :: capOf σ sl
  | _ :: σ, _ :: sl => capOf σ sl
  | _, _ => []
theorem capOf_mem : ∀ {σ : L2.St} {sl : Sl} {i : Nat} {v : V} {d : D}, σ[i]? = some (some v) → sl[i]? = some (some d) → (v, d) ∈ capOf σ sl
  | [], _, _, _, _, e, _ => by cases e
  | _ :: _, [], _, _, _, _, e => by cases e
  | o :: σ, q :: sl, 0, v, d, e1, e2 => by
    cases e1
    cases e2
    exact List.mem_cons_self
  | o :: σ, q :: sl, i + 1, v, d, e1, e2 => by
    have h := capOf_mem (σ := σ) (sl := sl) (i := i) (by simpa using e1) (by simpa using e2)
    unfold capOf
    split
    · rename_i a1 a2 a3 a4 b1 b2
      cases b1
      cases b2
      exact List.mem_cons_of_mem _ h
    · rename_i a1 a2 a3 a4 a5 b1 b2
      cases b1
      cases b2
      exact h
    · rename_i b
      exact (b _ _ _ _ rfl rfl).elim
theorem capOf_rep {c : Cc} {h : Hp} {ι : List Addr} {σ : L2.St} {sl : Sl} (r : RepSl c h ι σ sl) : ∀ p ∈ capOf σ sl, Rep c h ι p.1 p.2 := by
  have go : ∀ (σ : L2.St) (sl : Sl), (∀ (i : Nat) (d : D), sl[i]? = some (some d) → ∃ v, σ[i]? = some (some v) ∧ Rep c h ι v d) → ∀ p ∈ capOf σ sl, Rep c h ι p.1 p.2 := by
    intro σ
    induction σ with
    | nil =>
      intro sl _ p hp
      cases sl <;> cases hp
    | cons o σ ih =>
      intro sl k p hp
      cases sl with
      | nil => cases o <;> cases hp
      | cons q sl =>
        have k' : ∀ (i : Nat) (d : D), sl[i]? = some (some d) → ∃ v, σ[i]? = some (some v) ∧ Rep c h ι v d := fun i d e => by
          obtain ⟨v, h1, h2⟩ := k (i + 1) d (by simpa using e)
          exact ⟨v, by simpa using h1, h2⟩
        cases o with
        | none => exact ih sl k' p hp
        | some v =>
          cases q with
          | none => exact ih sl k' p hp
          | some d =>
            rcases List.mem_cons.mp hp with rfl | hp
            · obtain ⟨v', h1, h2⟩ := k 0 d rfl
              cases h1
              exact h2
            · exact ih sl k' p hp
  exact go σ sl r.at_
abbrev withCap (c : Cc) (cap : List (V × D)) : Cc := ⟨c.w, c.K, ⟨c.L.cls, c.L.ex, c.L.lam, cap, c.L.tabs⟩⟩
theorem knows_cap {c : Cc} {cap : List (V × D)} : Knows c (withCap c cap) := ⟨rfl, rfl, rfl, fun _ h => h, fun _ _ h => h⟩
theorem knows_cap' {c : Cc} {cap : List (V × D)} : Knows (withCap c cap) c := ⟨rfl, rfl, rfl, fun _ h => h, fun _ _ h => h⟩
/-! lambda: .. -/
def mLam (j : Nat) : ME := fun _ m => .ok (.clo j) m
theorem SR.step {c : Cc} {S : Wv} {ι : List Addr} {m : Mem} {H H1 : Hp} (s : SR c S ι m H) (i1 : S.I H1) (e1 : Ex (S.vw H) (S.vw H1)) : SR c S ι m H1 ∧ Fr S ι H ι H1 := by
  have f : Ex (fz S ι H) (fz S ι H1) := fun a o h => fz_of (of_fz h).1 (e1 _ _ (of_fz h).2)
  refine ⟨⟨i1, s.nd, s.len, fun n a o h1 h2 => ?_, fun p hp => (s.cap p hp).up f (List.prefix_refl _), s.tb⟩, ⟨List.prefix_refl _, f⟩⟩
  obtain ⟨O, h3, h4⟩ := s.at_ n a o h1 h2
  exact ⟨O, e1 _ _ h3, h4.up f (List.prefix_refl _)⟩
theorem m_lam {X : Cx} {c : Cc} {E : SX} {T : List (Addr × Str)} {q : Str} {params : Arguments} {body : Expr} {scope : Scope} {cl : List (Str × Addr)} {j : Nat} {e : Expr} (h : PE X e (tLamV T q params body scope cl)) (hT : c.L.tabs = some T) (hj : c.L.lam j = some ⟨q, params, body, scope, cl⟩) : PE X e (tM c E (mLam j)) :=
  h.weak fun σ H Q ⟨S, ι, mem, sl, s, r, p⟩ => by
    have ht := s.tb T hT
    refine ⟨ht.tab H s.i, fun f c' H1 hf ext tabs hF hC => ?_⟩
    obtain ⟨i1, e1⟩ := ht.step H H1 s.i ext tabs
    obtain ⟨s1, f1⟩ := s.step i1 e1
    refine p (.ref f) ι H1 s1 f1 (Rep.clo hj (fz_of (s.ne hf) (ht.see H H1 f _ s.i ext hf hF lamO_tbl)) (fz_of (fun z => ?_) (ht.code H1 c' q i1 hC)))
    obtain ⟨O, h1, h2⟩ := s1.has z
    have := S.sub _ _ _ h1
    rw [hC] at this
    exact h2.2 _ _ (Option.some.inj this).symm
/-! the lambda is called in the def that got it -/
def mAct (i : Nat) (tbl : List (Nat × ME)) (sl : Sl) : ME := fun slZ m => match slZ[i]? with
  | some (some (.clo j)) => match tbl.lookup j with
    | some x => x sl m
    | none => .no
  | _ => .no
section
variable {Y : Cx} {e : Expr} {c : Cc} {i j : Nat} {tbl : List (Nat × ME)} {sl : Sl} {x : ME} {σ : L2.St} {W : WX} {l : LamD}
theorem act_nil {t : TE} (h : PE Y e t) : PE Y e (tM c (fun σ cls d H => W cls d σ H) (mAct i [] sl)) := h.weak fun σ H Q ⟨S, ι, mem, slZ, s, q, p⟩ => by
  unfold mAct at p
  split at p <;> exact p.elim
theorem act_cons (hcap : c.L.cap = capOf σ sl) (hlen : σ.length = sl.length) (hj : c.L.lam j = some l) (hsl : ∀ (i : Nat) (d : D), sl[i]? = some (some d) → ∃ v, σ[i]? = some (some v))
    (h1 : PE Y e (tActK i l.q l.params l.body l.scope l.cells σ W (fun E => tM c (fun _ => E) x))) (h2 : PE Y e (tM c (fun σ cls d H => W cls d σ H) (mAct i tbl sl))) : PE Y e (tM c (fun σ cls d H => W cls d σ H) (mAct i ((j, x) :: tbl) sl)) :=
  (h1.or h2).weak fun σZ H Q ⟨S, ι, mem, slZ, s, q, p⟩ => by
    unfold mAct at p
    split at p
    · rename_i j' hj'
      rw [List.lookup_cons] at p
      cases hb : j' == j with
      | true =>
        rw [hb] at p
        dsimp only at p
        have ej : j' = j := beq_iff_eq.mp hb
        subst ej
        obtain ⟨v, g1, g2⟩ := q.at_ i _ hj'
        cases g2 with
        | @clo f c' _ l' a b r =>
          rw [hj] at a
          cases a
          refine .inl ⟨f, c', g1, fz_sub _ _ b, fz_sub _ _ r, S, ι, mem, sl, s, ⟨hlen, fun n d en => ?_⟩, p⟩
          obtain ⟨v, hv⟩ := hsl n d en
          exact ⟨v, hv, s.cap (v, d) (by rw [hcap]; exact capOf_mem hv en)⟩
      | false =>
        rw [hb] at p
        refine .inr ⟨S, ι, mem, slZ, s, q, ?_⟩
        unfold mAct
        rw [hj']
        exact p
    · exact p.elim
end
end Mi
end
section
set_option Elab.async false
set_option linter.all false
set_option maxRecDepth 100000
set_option maxHeartbeats 4000000
/-! a def read at the place of its call, while it may call the caller's lambdas -/
namespace Mi
open PySem PySem.Spec PyProof.Rows L2 Evl MeV MeG MeD MeH MeL LamX
/-- b: the body, by the caller's slots -/
def mIn (Ng : List Str) (n : Nat) (b : Sl → MS) (r : MA) : ME := fun sl m => (r sl m).bind fun ds m1 => if ds.length = n then (b sl (slStart Ng ds) m1).back.quiet else .no
theorem post_q2 {c : Cc} {S : Wv} {ι : List Addr} {H : Hp} {α β : Type} {RR : Hp → List Addr → β → α → Prop} {r : R α} {Q : β → Hp → Prop} {E E' : XK} (p : Post c E S ι H RR r.quiet Q) : Post c E' S ι H RR r.quiet Q := by
  cases r with
  | ok a m => exact p
  | exc k fs m => exact (show False from p).elim
  | no => exact p
section
variable {X : Cx} {L : Cl} {E : SX} {x : Str} {g : Addr} {k : Nat} {pg : Arguments} {bg : List Stmt} {sg : Scope} {fd : FuncData} {Ng ps : List Str} {e : Expr} {es : List Expr} {ms : MA} {p pos : Pos} {b : Sl → MS}
theorem m_in (F : FunD X.K x x pg bg sg [] [] g fd) (hg : Gl X x) (hm : X.mg x = some (.ref g)) (hk : PySem.W.keepIn X.K (.ref g) = true) (hb : L2.Binds X.K fd ps []) (Sg : FnScope Ng ps sg) (hr : Room (k + 1) X.A)
    (hG : ∀ (cdv : Value) (pins : List (Addr × Obj)) (s : Shared) (σ : L2.St) (H : Hp) (sl : Sl), Inv X pins σ H s → Room k (X.A.deeper (envOfC x sg s.heap.objs.size g cdv)) → σ.length = sl.length → (∀ (i : Nat) (d : D), sl[i]? = some (some d) → ∃ v, σ[i]? = some (some v)) →
      PSs (cxOf L2.CX0 X.prog X.w X.K X.mg X.base Ng x sg g cdv X.A X.stack s H L2.E0) bg (tMS (withCap (cX X L) (capOf σ sl)) E0 (b sl)))
    (ha : PA X (e :: es) (tMA (cX X L) E ms)) (hdb : (x == ("__debug__" : Str)) = false := by decide) (he : starEach (e :: es) X.env = (false, eval e X.env) :: starEach es X.env := by rfl) (hpl : (backTo pos (starEach es X.env)).any (·.1) = false := by rfl) :
    PE X (.Call (.Name x p) (e :: es) [] pos) (tM (cX X L) E (mIn Ng ps.length b ms)) := by
  refine (pe_callIn (TT := fun σ vs H Q => ∃ S ι mem ds sl, SR (cX X L) S ι mem H ∧ RepA (cX X L) (fz S ι H) ι vs ds ∧ RepSl (cX X L) (fz S ι H) ι σ sl ∧ ds.length = ps.length ∧ Post (cX X L) (fun _ _ _ => False) S ι H (rD (cX X L)) (b sl (slStart Ng ds) mem).back.quiet Q) F hg hm hk hb Sg hr ?_ ha hdb he hpl).weak ?_
  · rintro cdv pins s σ H vs Q I room hl ⟨S, ι, mem, ds, sl, sr, ra, q, hd, hp⟩
    refine ⟨_, hG cdv pins s σ H sl I room q.len (fun i d h => let ⟨v, h1, _⟩ := q.at_ i d h; ⟨v, h1⟩), S, ι, mem, slStart Ng ds, sr.cong knows_cap (fun z hz => (capOf_rep q z hz).cong knows_cap) rfl, (repSl_start Ng ra).cong knows_cap, ?_⟩
    cases hbm : b sl (slStart Ng ds) mem with
    | next sl1 m1 =>
      rw [hbm] at hp
      exact fun σ1 ι1 H1 s1 f1 _ => hp V.non ι1 H1 (s1.cong knows_cap' (fun z hz => (sr.cap z hz).up f1.e f1.p) rfl) f1 Rep.non
    | ret d m1 =>
      rw [hbm] at hp
      exact fun v ι1 H1 s1 f1 r1 => hp v ι1 H1 (s1.cong knows_cap' (fun z hz => (sr.cap z hz).up f1.e f1.p) rfl) f1 (Rep.cong knows_cap' r1)
    | exc k0 fs sl1 m1 =>
      rw [hbm] at hp
      exact (show False from hp).elim
    | brk sl1 m1 =>
      rw [hbm] at hp
      exact (show False from hp).elim
    | cont sl1 m1 =>
      rw [hbm] at hp
      exact (show False from hp).elim
    | no =>
      rw [hbm] at hp
      exact (show False from hp).elim
  · rintro σ H Q ⟨S, ι, mem, sl, s, q, w⟩
    refine run1 (RR := rA (cX X L)) s q w fun vs ds ι1 m1 H1 s1 f1 r1 p1 => ?_
    split at p1
    · rename_i hn
      exact ⟨r1.len.trans hn, S, ι1, m1, ds, sl, s1, r1, q.fr f1, hn, post_q2 p1⟩
    · exact p1.elim
end
end Mi
end
section
set_option Elab.async false
set_option linter.all false
set_option maxRecDepth 100000
set_option maxHeartbeats 4000000
/-! x != y by an own __eq__ and object's __ne__ -/
namespace MeD
open PySem PySem.Spec PyProof.Rows PySem.W
section
variable {prog : Program} {w : World} {A : Around} {E : Value → Shared → Prop} {s : Shared} {K : Frag} {x C L f : Addr} {h₀ : Heap} {m : Str → Option Value} {ox : Obj} {od : Option Obj} {b tb : Value}
/-- the check ahead of a slot of object's, for an instance of an own class -/
theorem slot_own {M : Model} {id n : String} {rest : List Value} {Q : Unit → Shared → Prop} (hk : builtinKind id = some .slot) (hs : splitId id = some ("object", n)) (ha : argsOk id ⟨.ref x :: rest, []⟩) (X : K.In s.heap) (I : InstAt s.heap x ox C od) (hm : mroIn K C (.type "object") = some true) (hq : Q () s) :
    wpAny M A (checkBuiltinCall id ⟨.ref x :: rest, []⟩) Q E s := by
  simp only [checkBuiltinCall, hk, hs]
  unfold isInstance
  refine wpAny_bind (wpAny_bind (I.type.here ((looks_mroIn X hm).here ?_)))
  simp only [Bool.not_true, Bool.false_eq_true, if_false]
  unfold argsOk at ha
  cases hg : Manifest.signature? id with
  | none => exact wpAny_pure hq
  | some sig =>
    rw [hg] at ha
    exact (show wpAny M A (Bind.checkArgs id sig ⟨.ref x :: rest, []⟩) Q E s from (show Bind.checkArgs id sig ⟨.ref x :: rest, []⟩ = pure () from ha) ▸ wpAny_pure hq)
theorem ifBound_obj {M : Model} {name : Str} {id : String} {args : List Value} {Q : Option Value → Shared → Prop} (X : K.In s.heap) (I : InstAt s.heap x ox C od) (hs : findIn K (.ref C) name = some (some (.builtin id))) (hb : ∀ self, bindSpecial (.builtin id) self = pure (.builtin id, [self]))
    (h : wpAny M A (call (.builtin id) (.ref x :: args)) (fun v => Q (some v)) E s) : wpAny M A (callSpecialIfBound? (.ref x) name args) Q E s := by
  simp only [callSpecialIfBound?, bindSpecialIfBound?]
  refine wpAny_holding (wpAny_bind (wpAny_bind (wpAny_bind (I.type.here ((looks_findIn X hs).here ?_)))))
  have fin : wpAny M A (call (.builtin id) ([.ref x] ++ args) >>= fun v => pure (some v)) Q E s := wpAny_bind (wpAny_mono h (fun v s' h' => wpAny_pure h') fun _ _ z => z)
  refine wpAny_bind (wpAny_askSetting (wpAny_ite ?_))
  split
  · exact wpAny_bind (hb _ ▸ wpAny_pure (wpAny_pure fin))
  · exact wpAny_tryCatch (wpAny_bind (hb _ ▸ wpAny_pure (wpAny_pure fin)))
/-- x != b: what __eq__ says, turned -/
theorem ne_own {Q : Value → Shared → Prop} (hu : A.units + 1 < cLine) (X : K.In s.heap) (I : InstAt s.heap x ox C od) (hb : Looks (model prog w) s.heap (typeOf b) tb) (hn : notFirst K C tb = true)
    (hs : findIn K (.ref C) "__eq__" = some (some (.ref f))) (hf : isFn K (.ref f) = true) (hne : findIn K (.ref C) "__ne__" = some (some (.builtin "object.__ne__"))) (hm : mroIn K C (.type "object") = some true)
    (h : wpAny (model prog w) A.in1 (call (.ref f) [.ref x, b]) (fun v s' => ∃ r, v = .bool r ∧ Q (.bool (!r)) s') E s) : wpAny (model prog w) A (richCompare .NotEq (.ref x) b) Q E s := by
  have one : wpAny (model prog w) A (tryCompare (.ref x) (cmpInfo .NotEq).2.1 b) (fun r s' => ∃ v, r = some v ∧ Q v s') E s := by
    unfold tryCompare
    refine wpAny_bind (ifBound_obj X I hne F.cmp_object.ne.bind (wpAny_call (codeAny_call_builtin F.cmp_object.ne.plain F.cmpEntry_ne (slot_own F.cmpKind_ne F.cmpSplit_ne (F.cmpArgs_ne _ _) X I hm ?_))))
    unfold Builtin.«object.__ne__»
    refine wpAny_bind (wpAny_pure ?_)
    refine wpAny_bind (wpAny_cRoomFor (by rw [Around.in1_units]; omega) ?_)
    refine wpAny_bind (ifBound_K X I hs hf (wpAny_mono h (fun v s' hv => ?_) fun _ _ e => e))
    obtain ⟨r, rfl, hq⟩ := hv
    exact wpAny_bind (wpAny_truthy_bool (wpAny_pure (wpAny_pure ⟨_, rfl, hq⟩)))
  unfold richCompare
  simp only [oneThing_ref]
  refine wpAny_holding (wpAny_bind (wpAny_cRoomFor (by omega) ?_))
  refine wpAny_bind (I.type.here (wpAny_bind (hb.here ?_)))
  by_cases hq : (Value.ref C != tb) = true
  · rw [if_pos hq]
    have e : subIn K tb (.ref C) = some false := by
      rcases Bool.or_eq_true_iff.mp hn with e | e
      · rw [beq_iff_eq.mp e] at hq
        simp at hq
      · exact beq_iff_eq.mp e
    refine wpAny_bind ((looks_subIn X e).here ?_)
    simp only [Bool.false_eq_true, if_false]
    refine wpAny_bind (wpAny_mono one (fun r s' z => ?_) fun _ _ z => z)
    obtain ⟨v, rfl, hv⟩ := z
    exact wpAny_pure hv
  · rw [if_neg hq]
    refine wpAny_bind (wpAny_pure ?_)
    simp only [Bool.false_eq_true, if_false]
    refine wpAny_bind (wpAny_mono one (fun r s' z => ?_) fun _ _ z => z)
    obtain ⟨v, rfl, hv⟩ := z
    exact wpAny_pure hv
end
end MeD
end
section
set_option Elab.async false
set_option linter.all false
set_option maxRecDepth 100000
set_option maxHeartbeats 4000000
/-! == and != by an own __eq__ -/
namespace Mi
open PySem PySem.Spec PyProof.Rows L2 Evl MeV MeG MeD MeH MeL LamX
section
variable {X : Cx} {L : Cl} {k n : Nat} {f : Addr} {fd : FuncData} {ps : List Str} {mf : MF} {A : Around}
/-- a def is called, from anywhere below the frame -/
theorem run_at {pins : List (Addr × Obj)} {σ : L2.St} {H : Hp} {s : Shared} {Q : VK} {us : List Value} {vs : List V} {ds : List D} {S : Wv} {ι : List Addr} {mem : Mem} (F : FnG X.prog X.w X.K X.mg X.base (L2.CX X.prog X.w) k f fd ps (spM (cX X L) ps.length mf)) (hgd : A.guards = some []) (room : Room k A) (hfr : A.frames = X.A.frames) (bind : L2.Binds X.K fd ps [])
    (I : Inv X pins σ H s) (vals : Vals vs us) (sr : SR (cX X L) S ι mem H) (r : RepA (cX X L) (fz S ι H) ι vs ds) (hl : ds.length = ps.length) {E : XK} (p : Post (cX X L) E S ι H (rD (cX X L)) (mf ds mem).quiet Q) :
    wpAny (model X.prog X.w) A (call (.ref f) us) (EP X pins σ Q) X.xe s := by
  have want : spM (cX X L) ps.length mf vs H Q (fun _ _ _ => False) := ⟨S, ι, mem, ds, sr, r, hl, post_quiet (σ := []) p⟩
  have count : (us ++ []).length = ps.length := by
    rw [List.append_nil, ← vals.length, r.len, hl]
  have bd := bind s us I.kIn count
  rw [List.append_nil] at bd
  have e0 : Env0 X.prog X.w X.K X.mg X.base A X.stack s H := by
    have e := I.env0
    exact ⟨by rw [hfr]; exact e.frames, e.mod, e.bs, e.bsz, e.funs, e.frf, e.hok, e.bare⟩
  refine wpAny_call (codeAny_mono (F.run A X.stack s H ⟨us, []⟩ us vs Q (fun _ _ _ => False) hgd room e0 bd vals want) fun r s' h => ?_)
  match r, h with
  | .ok (.ret _), h => exact I.after h
  | .error e, h => exact passS (X := X) (E := fun _ _ _ _ => False) LamX.takes0 (fun _ _ _ _ h => h) pins σ H s e s' I h
end
/-- the own == of a class -/
structure EqC (X : Cx) (L : Cl) (tab : TyD → TyD → Option Bool) (k n : Nat) (f : Addr) (fd : FuncData) (ps : List Str) (mf : MF) : Prop where
  F : FnG X.prog X.w X.K X.mg X.base (L2.CX X.prog X.w) n f fd ps (spM (cX X L) ps.length mf)
  two : ps.length = 2
  hb : L2.Binds X.K fd ps []
  eq : PySem.W.findIn X.K (.ref (L.cls k)) "__eq__" = some (some (.ref f))
  fn : PySem.W.isFn X.K (.ref f) = true
  ne : PySem.W.findIn X.K (.ref (L.cls k)) "__ne__" = some (some (.builtin "object.__ne__"))
  ow : OwnC X.K (L.cls k)
  sub : ∀ t b, tab t (.own k) = some b → PySem.W.notFirst X.K (L.cls k) (t.val L) = true
def gEqO (tab : TyD → TyD → Option Bool) (k : Nat) (mf : MF) (neg : Bool) : D → D → Mem → R D := fun a b m => match insOf m a with
  | some (k', _) => bif Nat.beq k' k then match tyOfD m b with
      | some t => match tab t (.own k) with
        | some _ => (mf [a, b] m).quiet.bind fun d m1 => match d with
          | .bl r => .ok (.bl (neg != r)) m1
          | _ => .no
        | none => .no
      | none => .no
    else .no
  | none => .no
section
variable {X : Cx} {L : Cl} {tab : TyD → TyD → Option Bool} {k n : Nat} {f : Addr} {fd : FuncData} {ps : List Str} {mf : MF}
theorem own_at (Z : Isi X L tab) (C : EqC X L tab k n f fd ps mf) {neg : Bool} {pins : List (Addr × Obj)} {s : Shared} {σ : L2.St} {H : Hp} {x y : V} {v u : Value} {Q : VK} {E : XK} {S : Wv} {ι : List Addr} {mem : Mem} {d1 d2 : D} (I : Inv X pins σ H s) (rx : RelV x v) (ry : RelV y u)
    (sr : SR (cX X L) S ι mem H) (r1 : Rep (cX X L) (fz S ι H) ι x d1) (r2 : Rep (cX X L) (fz S ι H) ι y d2) (p : Post (cX X L) E S ι H (rD (cX X L)) (gEqO tab k mf neg d1 d2 mem) Q) :
    ∃ (a : Addr) (ox od : Obj) (t : TyD), v = .ref a ∧ PySem.W.InstAt s.heap a ox (L.cls k) (some od) ∧ PySem.W.Looks (model X.prog X.w) s.heap (typeOf u) (t.val L) ∧ PySem.W.notFirst X.K (L.cls k) (t.val L) = true ∧ RepA (cX X L) (fz S ι H) ι [x, y] [d1, d2] ∧
      Post (cX X L) E S ι H (rD (cX X L)) (mf [d1, d2] mem).quiet (fun w H' => ∃ r, w = .bl r ∧ Q (.bl (neg != r)) H') := by
  unfold gEqO at p
  cases hi : insOf mem d1 with
  | none => rw [hi] at p; exact p.elim
  | some kf =>
    obtain ⟨k', fs⟩ := kf
    rw [hi] at p
    dsimp only at p
    cases hk : Nat.beq k' k with
    | false => rw [hk] at p; exact p.elim
    | true =>
      rw [hk] at p
      have ek := Nat.eq_of_beq_eq_true hk
      subst ek
      dsimp only [cond_true] at p
      cases ht : tyOfD mem d2 with
      | none => rw [ht] at p; exact p.elim
      | some t =>
        rw [ht] at p
        dsimp only at p
        cases hb : tab t (.own k') with
        | none => rw [hb] at p; exact p.elim
        | some b =>
          rw [hb] at p
          dsimp only at p
          obtain ⟨a, dx, ws, rfl, ha, _⟩ := insOf_ok sr r1 hi
          obtain rfl := rx
          obtain ⟨mA, O, _⟩ := ins_get I.hok ha
          obtain ⟨od, J, _⟩ := O.look
          obtain ⟨P, KZ, hp, _⟩ := kit_D (fun k e => Z.own k b (.own k') (by rw [← e]; exact hb)) Z.err I sr r2 ry ht
          refine ⟨a, _, od, t, rfl, J, KZ.ty _ _ I.kIn hp, C.sub t b hb, .cons r1 (.cons r2 .nil), ?_⟩
          cases hm : mf [d1, d2] mem with
          | no => rw [hm] at p; exact p
          | exc _ _ _ => rw [hm] at p; exact (show False from p).elim
          | ok d m1 =>
            rw [hm] at p
            intro w ι1 H1 s1 f1 rw1
            cases rw1 <;> try exact (show False from p).elim
            rename_i r
            exact ⟨r, rfl, p _ ι1 H1 s1 f1 (Rep.bl _)⟩
theorem op_eqO (Z : Isi X L tab) (C : EqC X L tab k n f fd ps mf) (hgd : X.A.guards = some []) (hr : Room n X.A) : OpR X (compareOp .Eq) (rG2 (cX X L) (gEqO tab k mf false)) := fun pins s σ H x y v u Q I rx ry ⟨E, S, ι, mem, d1, d2, sr, r1, r2, p⟩ => by
  obtain ⟨a, ox, od, t, rfl, J, lk, nf, ra, p1⟩ := own_at Z C I rx ry sr r1 r2 p
  obtain ⟨m, hF⟩ := I.fr
  refine PySem.W.cmp_K (op := .Eq) hr.units0 hF I.ok.mod.kin J lk nf C.eq C.fn (wpAny_mono (run_at C.F hgd hr rfl C.hb I (.cons rx (.cons ry .nil)) sr ra C.two.symm p1) (fun w s' hw => ?_) fun _ _ e => e)
  obtain ⟨z, H', I', rz, r, rfl, hq⟩ := hw
  obtain rfl := rz
  rw [Bool.false_bne] at hq
  exact ⟨.bl r, H', I', rfl, hq⟩
theorem op_neO (Z : Isi X L tab) (C : EqC X L tab k n f fd ps mf) (hgd : X.A.guards = some []) (hr : Room (n + 1) X.A) : OpR X (compareOp .NotEq) (rG2 (cX X L) (gEqO tab k mf true)) := fun pins s σ H x y v u Q I rx ry ⟨E, S, ι, mem, d1, d2, sr, r1, r2, p⟩ => by
  obtain ⟨a, ox, od, t, rfl, J, lk, nf, ra, p1⟩ := own_at Z C I rx ry sr r1 r2 p
  refine ne_own (by have := hr.in1.units0; rw [Around.in1_units] at this; omega) I.kIn J lk nf C.eq C.fn C.ne C.ow.hm (wpAny_mono (run_at (A := X.A.in1) C.F hgd hr.in1 rfl C.hb I (.cons rx (.cons ry .nil)) sr ra C.two.symm p1) (fun w s' hw => ?_) fun _ _ e => e)
  obtain ⟨z, H', I', rz, r, rfl, hq⟩ := hw
  obtain rfl := rz
  rw [Bool.true_bne] at hq
  exact ⟨r, rfl, .bl (!r), H', I', rfl, hq⟩
end
end Mi
end
section
set_option Elab.async false
set_option linter.all false
set_option maxRecDepth 100000
set_option maxHeartbeats 4000000
/-! a lambda of one parameter, called from below its maker's frame -/
namespace MeL
open PySem PySem.Spec PyProof.Rows L2 LamX MeG
/-- the lambda's names: its parameter, captured ones, globals -/
structure LamP (sc scope : Scope) (p : Str) : Prop where
  kind : scope.kind = .function
  co : scope.isCoroutine = false
  gen : scope.isGenerator = false
  nocell : ∀ y ∈ scope.names, y.2 ≠ .cell
  loc : scope.names.lookup p = some .local
  one : ∀ y, scope.names.lookup y = some .local → y = p
  free : ∀ y ∈ scope.names, y.2 = .free → sc.names.lookup y.1 = some .cell ∨ sc.names.lookup y.1 = some .free
def lamPB (sc scope : Scope) (p : Str) : Bool :=
  decide (scope.kind = .function) && !scope.isCoroutine && !scope.isGenerator && decide (scope.names.lookup p = some .local) && scope.names.all fun y => !decide (y.2 = .cell) && (!decide (y.2 = .local) || decide (y.1 = p)) && (!decide (y.2 = .free) || decide (sc.names.lookup y.1 = some .cell) || decide (sc.names.lookup y.1 = some .free))
theorem lamP_by {sc scope : Scope} {p : Str} (h : lamPB sc scope p = true) : LamP sc scope p := by
  unfold lamPB at h
  simp only [Bool.and_eq_true, Bool.or_eq_true, Bool.not_eq_true', decide_eq_true_eq, decide_eq_false_iff_not, List.all_eq_true] at h
  obtain ⟨⟨⟨⟨h1, h2⟩, h3⟩, h4⟩, h5⟩ := h
  refine ⟨h1, h2, h3, fun y hy => (h5 y hy).1.1, h4, fun y hy => ?_, fun y hy e => ?_⟩
  · exact ((h5 _ (PySem.mem_of_lookup hy)).1.2).elim (fun z => absurd rfl z) fun z => z
  · exact (h5 y hy).2.elim (fun z => z.elim (fun z => absurd e z) .inl) .inr
/-- the slots that the lambda sees -/
def maskS {α : Type} (scope : Scope) : List Str → List (Option α) → List (Option α)
  | x :: N, o :: σ => (if scope.names.lookup x = some .free then o else none) :: maskS scope N σ
  | _, _ => []
theorem maskS_len {α : Type} {scope : Scope} : ∀ {N : List Str} {σ : List (Option α)}, σ.length = N.length → (maskS scope N σ).length = N.length
  | [], [], _ => rfl
  | [], _ :: _, h => nomatch h
  | _ :: _, [], h => nomatch h
  | _ :: N, _ :: σ, h => congrArg (· + 1) (maskS_len (Nat.succ.inj h))
theorem maskS_at {α : Type} {scope : Scope} : ∀ {N : List Str} {σ : List (Option α)} {i : Nat} {x : Str} {v : α}, N[i]? = some x → (maskS scope N σ)[i]? = some (some v) → scope.names.lookup x = some .free ∧ σ[i]? = some (some v)
  | [], _, _, _, _, e, _ => nomatch e
  | _ :: _, [], _, _, _, _, e => nomatch e
  | y :: N, o :: σ, 0, x, v, e1, e2 => by
    cases e1
    have e3 : (if scope.names.lookup y = some .free then o else none) = some v := Option.some.inj e2
    split at e3
    · rename_i h
      exact ⟨h, congrArg some e3⟩
    · cases e3
  | y :: N, o :: σ, i + 1, x, v, e1, e2 => maskS_at (N := N) (σ := σ) (i := i) e1 e2
/-- the frame of the lambda's body -/
abbrev lamCx1 (X : Cx) (p : Str) (A : Around) (outer : List Env) (s : Shared) (H : Hp) (E : XK) (scope : Scope) (f c' : Addr) : Cx := { lamCx X A outer s H E scope f c' with N := p :: X.N }
section
variable {X : Cx} {pins : List (Addr × Obj)} {σ : L2.St} {H : Hp} {s : Shared}
theorem clo_is {scope : Scope} {p : Str} (ok : X.Ok) (L : LamP X.env.scope scope p) : (∀ y c, (cloFrom X.env.cells scope.names []).lookup y = some c → X.env.cells.lookup y = some c ∧ scope.names.lookup y ≠ none) ∧ (∀ y, scope.names.lookup y = some .free → ∃ c, (cloFrom X.env.cells scope.names []).lookup y = some c) := by
  refine ⟨fun y c e => ?_, fun y h => mem_lookup (cloFrom_has (cells := X.env.cells) (acc := []) (PySem.mem_of_lookup h))⟩
  rcases cloFrom_mem (PySem.mem_of_lookup e) with z | ⟨h1, h2⟩
  · exact nomatch z
  · obtain ⟨c1, hc⟩ : ∃ c1, X.env.cells.lookup y = some c1 := ok.has y (L.free _ h1 rfl)
    refine ⟨?_, fun z => ?_⟩
    · rw [hc, h2]
      exact congrArg some (by rw [hc]; rfl)
    · exact absurd h1 fun hm => by
        obtain ⟨q, hq⟩ := mem_lookup hm
        rw [z] at hq
        cases hq
/-- the call's state, at the first step of the body -/
theorem lam1_start {A : Around} {E : XK} {scope : Scope} {p : Str} {f c' : Addr} {h1 : Heap} {tk : Nat} {v : V} {u : Value} (I : Inv X pins σ H s) (L : LamP X.env.scope scope p) (fr : A.frames = X.A.frames) (hd : A.handled = none) (rv : RelV v u)
    (ns : h1.Ns s.heap.objs.size fun y => ([(p, u)] : List (Str × Value)).reverse.lookup y) (kp : ∀ b o, s.heap.get? b = some o → h1.get? b = some o) :
    Inv (lamCx1 X p A X.stack s H E scope f c') [] (some v :: maskS scope X.N σ) H { s with heap := h1, toks := tk } := by
  obtain ⟨cm, look⟩ := clo_is I.ok L
  have e0 := I.env0
  have cells : ∀ {c : Addr} {o : Option Value}, s.heap.IsCell c o → h1.IsCell c o := fun {c o} ⟨ob, ho, hd⟩ => ⟨ob, kp _ _ ho, hd⟩
  constructor
  · constructor
    case mod => exact e0.mod
    case kind => exact L.kind
    case glob => rfl
    case blt => rfl
    case above => exact Nat.le_refl _
    case inj => exact fun y z c a b => I.ok.inj y z c (cm y c a).1 (cm z c b).1
    case has =>
      intro y hy
      have hy : scope.names.lookup y = some .cell ∨ scope.names.lookup y = some .free := hy
      exact hy.elim (fun k => absurd rfl (L.nocell _ (PySem.mem_of_lookup k))) (look y)
    case cab => exact fun _ _ z => nomatch (show false = true from z)
    case hd => exact fun _ => hd
    case frames => exact Around.frames_deeper (by rw [fr]; exact e0.frames)
    case stk => exact .inr ⟨rfl, rfl⟩
    case exf => exact fun b z => nomatch (show b ∈ ([] : List Addr) from z)
    case bs => exact e0.bs
    case bsz => exact e0.bsz
    case noex => exact fun b _ _ z => nomatch (show b ∈ ([] : List Addr) from z)
    case exfs => exact fun b z => nomatch (show b ∈ ([] : List Addr) from z)
    case funs => exact e0.funs
    case frf => exact e0.frf
  case os => rfl
  case bare => exact e0.bare
  case base => exact Un.kept kp
  case loc =>
    refine ⟨_, ns, fun i x w e1 e2 e3 => ?_⟩
    cases i with
    | zero =>
      cases e1
      cases e2
      refine ⟨u, rv, .inl ⟨L.loc, ?_⟩⟩
      show ([(p, u)] : List (Str × Value)).reverse.lookup p = some u
      simp
    | succ i =>
      obtain ⟨h2, h3⟩ := maskS_at (N := X.N) (σ := σ) (i := i) e1 e2
      obtain ⟨m, _, at_⟩ := I.loc
      have hv := L.free _ (PySem.mem_of_lookup h2) rfl
      obtain ⟨u', r', q⟩ := at_ i x w e1 h3 (.inr hv)
      obtain ⟨c2, h4⟩ := look x h2
      refine ⟨u', r', .inr ⟨.inr h2, c2, h4, ?_⟩⟩
      rcases q with ⟨k, _⟩ | ⟨_, c3, h5, z⟩
      · have k' : X.env.scope.names.lookup x = some .local := k
        exact hv.elim (fun z => nomatch z.symm.trans k') fun z => nomatch z.symm.trans k'
      · rw [(cm _ _ h4).1] at h5
        cases h5
        exact cells z
  case cell =>
    intro x c e
    obtain ⟨o, z⟩ := I.cell x c (cm x c e).1
    exact ⟨o, cells z⟩
  case free => exact e0.hok.fresh (Nat.le_refl _)
  case freeC => exact fun x c e => I.freeC x c (cm x c e).1
  case pin => exact fun q hq => nomatch (show q ∈ ([] : List (Addr × Obj)) from hq)
  case hok => exact e0.hok.kept kp
  case len => exact congrArg (· + 1) (maskS_len I.len)
/-- the call -/
theorem lam1_run {A : Around} {params : Arguments} {body : Expr} {scope : Scope} {p : Str} {k : Nat} {f c' : Addr} {E : XK} {te : TE} {Q : VK} {v : V} {u : Value} (I : Inv X pins σ H s) (L : LamP X.env.scope scope p) (fr : A.frames = X.A.frames) (rv : RelV v u)
    (bind : ∀ (q : Str) (cl : List (Str × Addr)) (pm cv ctv : Value), bindArgs (PySem.W.kla_fn "<lambda>" q params body scope cl pm cv ctv) ⟨[u], []⟩ = pure [(p, u)]) (room : Room (k + 1) A)
    (inF : H f = some (LamO f c' (X.env.qual ++ "<lambda>") params body scope (cloFrom X.env.cells scope.names []))) (inC : H c' = some (CodeO c' (X.env.qual ++ "<lambda>")))
    (read : Room k (A.deeper (lamEnv X scope s.heap.objs.size f c')) → PE (lamCx1 X p A X.stack s H E scope f c') body te) (want : te (some v :: maskS scope X.N σ) H Q) :
    codeAny (model X.prog X.w) A (.call (.ref f) ⟨[u], []⟩) (CR (L2.CX X.prog X.w) X.stack X.prog X.w H s Q E) s := by
  obtain ⟨⟨pm, ctv, obF⟩, _⟩ := I.hok f _ inF
  obtain ⟨⟨oc, fs, tq, obC, dat, nm⟩, _⟩ := I.hok c' _ inC
  apply PySem.W.kla_callFunE room.depth obF rfl L.co L.gen rfl ⟨c', oc, fs, tq, rfl, obC, dat, nm⟩
  rw [bind]
  refine wpAny_pure (wpAny_newFunctionEnv L.nocell (fun y hy => ?_) (fun h1 ns but => ⟨I.nolimit.fresh _ but, ?_⟩) L.kind)
  · cases List.mem_singleton.mp hy
    exact L.loc
  have st := lam1_start (A := A) (E := E) (f := f) (c' := c') (tk := s.toks + ([(p, u)] : List (Str × Value)).length) I L fr room.hd rv ns fun b o h => but.extBut b o (Nat.ne_of_lt (Heap.lt_size h)) (Heap.get?_push_of_some _ h)
  exact PySem.W.kla_codeExpr (wpAny_mono ((read (room.deeper _)).run [] _ _ H Q st want) (fun _ _ ⟨v, H2, J, rel, h⟩ => ⟨v, H2, J.os, J.bare, J.base, J.hok, rel, h⟩) fun _ _ h => h)
end
end MeL
end
section
set_option Elab.async false
set_option linter.all false
set_option maxRecDepth 100000
set_option maxHeartbeats 4000000
/-! sorted(xs, key=f): f may be any call that the frame knows -/
namespace MeO
open PySem PySem.Spec PyProof.Rows L2
open PySem.W (AllAlike Sortable KeyedOut KeepsBut dataLe copyHeap EachIs)
/-- the heap without the object at a -/
def gone (h : Heap) (a : Addr) : Heap := ⟨h.objs.setIfInBounds a { cls := .none, data := .freed }, h.life⟩
theorem gone_at {h : Heap} {a : Addr} : (gone h a).get? a = none := by
  unfold gone Heap.get?
  dsimp only
  rw [Array.getElem?_setIfInBounds]
  by_cases hl : a < h.objs.size
  · simp [hl]
  · simp [hl]
theorem gone_ne {h : Heap} {a b : Addr} (n : b ≠ a) : (gone h a).get? b = h.get? b := by
  unfold gone Heap.get?
  dsimp only
  rw [Array.getElem?_setIfInBounds, if_neg (Ne.symm n)]
section
variable {X : Cx} {pins : List (Addr × Obj)} {σ : L2.St} {H : Hp} {s : Shared} {A : Around} {E : Value → Shared → Prop} {a kS : Addr} {f : Value} {vs : List Value} {e1 : Nat} {kz : List PyData} {P : PySem.Fin → Shared → Prop}
theorem fp_pin {b : Addr} {o : Obj} (I : Inv X pins σ H s) (fp : FpOk X pins H b) (ho : s.heap.get? b = some o) (hd : ∀ v, o.data ≠ .cell v) : ∀ p ∈ (b, o) :: pins, s.heap.get? p.1 = some p.2 ∧ H p.1 = none ∧ p.1 ≠ X.env.locals ∧ p.1 ∉ X.fs ∧ ∀ v, p.2.data ≠ .cell v := fun p hp => by
  rcases List.mem_cons.mp hp with rfl | hp
  · exact ⟨ho, fp.1, fp.2.1, fp.2.2.1, hd⟩
  · exact I.pin p (List.mem_append_right _ hp)
/-- b is no pin, whatever H becomes -/
def Off (X : Cx) (pins : List (Addr × Obj)) (b : Addr) : Prop := b ≠ X.env.locals ∧ b ∉ X.fs ∧ (b ∈ X.ex ∨ X.s_0.heap.objs.size ≤ b) ∧ (∀ x c, X.env.cells.lookup x = some c → c ≠ b) ∧ ∀ p ∈ X.pn ++ pins, p.1 ≠ b
/-- the keys are asked, one by one; then the items are laid in their order -/
theorem rest (G : List V → Hp → Prop) (I : Inv X pins σ H s) (ok : Off X pins kS) (oa : Off X pins a) (hk : H kS = none) (ha : H a = none) (nk : s.heap.get? kS = some (seqObj "list" #[] 0)) (na : s.heap.get? a = some (seqObj "list" #[] e1)) (hka : kS ≠ a)
    (hlen : kz.length = vs.length) (hZ : vs.length ≤ sizeLine) (hal : AllAlike kz) (hsk : Sortable kz) (hu : ∀ d, d ∈ kz → A.units + d.depth < cLine) (g0 : G [] H)
    (turn : ∀ (u : Value) (ks : List V) (pins' : List (Addr × Obj)) (s' : Shared) (H' : Hp), vs[ks.length]? = some u → G ks H' → Inv X pins' σ H' s' → wpAny (model X.prog X.w) A (call f [u]) (EP X pins' σ fun v H'' => G (ks ++ [v]) H'') (fun _ _ => False) s')
    (fin : ∀ (ks : List V) (us : List Value) (pins' : List (Addr × Obj)) (s' : Shared) (H' : Hp), ks.length = vs.length → G ks H' → Inv X pins' σ H' s' → Vals ks us → EachIs (fun v k => ∃ as, Reads s'.heap v k as) us kz)
    (h : ∀ (ks : List V) (H' : Hp) (s' : Shared) (out : List Value), ks.length = vs.length → G ks H' → H' a = none → KeyedOut false kz vs out → (∀ zs : List V, Vals zs out → Inv X pins σ (upd H' a (.lst zs)) s') → P (.done (.ret .none)) s') :
    wpAny (model X.prog X.w) A (ksk_rest a f false vs.toArray e1 (.ref kS)) P E s := by
  unfold ksk_rest
  refine wpAny_bind (wpAny_rule ?_)
  rw [List.forIn_toArray]
  have mk : ∀ {H' : Hp} {s' : Shared} {kA : Array Value} {e : Nat}, Inv X pins σ H' s' → H' kS = none → H' a = none → s'.heap.get? kS = some (seqObj "list" kA e) → s'.heap.get? a = some (seqObj "list" #[] e1) → Inv X ((kS, seqObj "list" kA e) :: (a, seqObj "list" #[] e1) :: pins) σ H' s' := fun {H' s' kA e} I' h1 h2 h3 h4 => by
    refine I'.pins_of fun p hp => ?_
    rcases List.mem_cons.mp hp with rfl | hp
    · exact ⟨h3, h1, ok.1, ok.2.1, fun v z => nomatch z⟩
    · rcases List.mem_cons.mp hp with rfl | hp
      · exact ⟨h4, h2, oa.1, oa.2.1, fun v z => nomatch z⟩
      · exact I'.pin p (List.mem_append_right _ hp)
  refine wpAny_bind (ksk_fold (fun i s' => ∃ ks H' kA e, ks.length = i ∧ G ks H' ∧ Vals ks kA.toList ∧ Inv X ((kS, seqObj "list" kA e) :: (a, seqObj "list" #[] e1) :: pins) σ H' s') vs 0 s ⟨[], H, #[], 0, rfl, g0, .nil, mk I hk ha nk na⟩ ?step ?done)
  case step =>
    rintro j x s' hx ⟨ks, H', kA, e, el, g, vals, I'⟩
    rw [Nat.zero_add] at el
    subst el
    have hj : ks.length < vs.length := (List.getElem?_eq_some_iff.mp hx).1
    refine wpAny_bind (wpAny_attempt (wpAny_mono (turn x ks _ s' H' hx g I') (fun u s'' hq => ?_) fun _ _ z => z.elim))
    obtain ⟨v, H'', I'', rv, g''⟩ := hq
    obtain ⟨nk2, hk2, _⟩ := I''.pin (kS, seqObj "list" kA e) (List.mem_append_right _ (.head _))
    obtain ⟨na2, ha2, _⟩ := I''.pin (a, seqObj "list" #[] e1) (List.mem_append_right _ (.tail _ (.head _)))
    have hz : kA.size = ks.length := by
      rw [vals.length, Array.length_toList]
    dsimp only at nk2 hk2 na2 ha2 ⊢
    have sb := Heap.SameBut.update s''.heap kS (Obj.mapSeq (·.push u))
    refine wpAny_bind (listUpdate_at nk2 rfl ?_ (by omega) (by show (kA.push u).size ≤ _; rw [Array.size_push]; omega))
    obtain ⟨c2, hc2⟩ : ∃ c2, (s''.heap.update kS (Obj.mapSeq (·.push u))).get? kS = some (seqObj "list" (kA.push u) c2) := ⟨_, get?_update_seq nk2 (·.push u)⟩
    have I3 : Inv X pins σ H'' { s'' with heap := s''.heap.update kS (Obj.mapSeq (·.push u)), toks := s''.toks } :=
      (I''.pins_of (pins' := pins) fun p hp => I''.pin p (List.mem_append_right _ (.tail _ (.tail _ hp)))).turned (it := kS) (fun b o n q => (sb.2 b n).trans q) hk2 ok.1 ok.2.2.1 ok.2.2.2.1 ok.2.2.2.2
    refine wpAny_pure ⟨rfl, ks ++ [v], H'', kA.push u, c2, by rw [List.length_append]; simp, g'', ?_, mk I3 hk2 ha2 hc2 ((sb.2 a hka.symm).trans na2)⟩
    rw [Array.toList_push]
    exact Paired.snoc vals rv
  case done =>
    rintro s' ⟨ks, H', kA, e, el, g, vals, I'⟩
    rw [Nat.zero_add] at el
    obtain ⟨nk', hk', _⟩ := I'.pin (kS, seqObj "list" kA e) (List.mem_append_right _ (.head _))
    obtain ⟨na', ha', _⟩ := I'.pin (a, seqObj "list" #[] e1) (List.mem_append_right _ (.tail _ (.head _)))
    dsimp only at nk' hk' na' ha' ⊢
    have hr := fin ks kA.toList _ s' H' el g I' vals
    have hsz : kA.size = vs.length := by
      rw [← el, vals.length, Array.length_toList]
    refine wpAny_bind (listItems_at nk' rfl ?_)
    refine PySem.W.keyH_end (κ := PySem.W.dataKind s'.heap kz) (h₁ := gone s'.heap kS) (fun b o n q => ?_) gone_at nk' na' hka (PySem.W.SortsAt.data (s := s') hr hal hsk hu) hsz hZ fun h3 tk3 c k3 n3 => ?_
    · by_cases z : b = kS
      · rw [z, gone_at] at q
        cases q
      · rw [gone_ne z] at q
        exact q
    · refine h ks H' _ _ el g ha' ⟨s'.heap, kA.toList, hal, rfl, hr⟩ fun zs vz => ?_
      have I0 : Inv X pins σ H' s' := I'.pins_of fun p hp => I'.pin p (List.mem_append_right _ (.tail _ (.tail _ hp)))
      have keep : ∀ b o, b ≠ a → b ≠ kS → s'.heap.get? b = some o → h3.get? b = some o := fun b o n1 n2 q => k3 b o n1 ((gone_ne n2).trans q)
      have na : ∀ b u, H' b = some u → b ≠ a := fun b u q z => by rw [z, ha'] at q; cases q
      have nk : ∀ b u, H' b = some u → b ≠ kS := fun b u q z => by rw [z, hk'] at q; cases q
      have at_ : ∀ b u, H' b = some u → upd H' a (.lst zs) b = some u := fun b u q => (upd_ne (na b u q)).trans q
      refine I0.step (g' := s'.gens) (d' := s'.drawn) (ch := [kS, a]) (fun b hb => ?_) (fun b o _ _ hc q _ => keep b o (fun z => hc (by simp [z])) (fun z => hc (by simp [z])) q) (fun b o _ _ hc q _ => ⟨o.slots, keep b o (fun z => hc (by simp [z])) (fun z => hc (by simp [z])) q⟩)
        (fun b o hc q n => (upd_ne (fun z => hc (by simp [z]))).trans n) (fun b o hc q => ⟨o, keep b o (fun z => hc (by simp [z])) (fun z => hc (by simp [z])) q⟩) (fun b xs q => at_ _ _ q) (fun b o u q => at_ _ _ q) (fun b ps q => ⟨#[], by rw [at_ _ _ q]; simp⟩) (fun m hm => ?_) (fun b u q => ?_) I0.bare
      · rcases List.mem_cons.mp hb with rfl | hb
        · exact ⟨ok.2.2.1, ok.1, ok.2.2.2.1, ok.2.2.2.2⟩
        · cases List.mem_singleton.mp hb
          exact ⟨oa.2.2.1, oa.1, oa.2.2.2.1, oa.2.2.2.2⟩
      · obtain ⟨o, es, ep, ho, r⟩ := hm
        exact ⟨o, es, ep, keep _ o oa.1.symm ok.1.symm ho, r⟩
      · by_cases hb : b = a
        · subst hb
          rw [upd_same] at q
          cases q
          refine ⟨?_, _, c, vz, n3⟩
          have hl := PySem.W.sortVals_length (κ := PySem.W.dataKind s'.heap kz) false (ks := kA.toList) (vs := vs) (by rw [Array.length_toList]; exact hsz)
          rw [vz.length, hl]
          exact hZ
        · rw [upd_ne hb] at q
          refine (I0.hok b u q).stay (fun c' v hc q' => keep c' v ?_ ?_ q') (fun c' q' => at_ _ _ q') fun c' xs q' => at_ _ _ q'
          · rcases hc with z | z
            · rw [z]; exact hb
            · exact na _ _ z
          · rcases hc with z | z
            · rw [z]; exact nk _ _ q
            · exact nk _ _ z
theorem off_new {b : Addr} (I : Inv X pins σ H s) (hb : s.heap.objs.size ≤ b) : Off X pins b ∧ H b = none := by
  have fp := I.fpOk hb (I.hok.fresh hb)
  exact ⟨fp.2, fp.1⟩
/-- the items in the order of their keys -/
def byKey {α : Type} (xs : List α) (kz : List PyData) : List α := ((xs.zip kz).mergeSort (dataLe false Prod.snd)).map Prod.fst
theorem each_zip : ∀ {xs : List V} {us : List Value} {kz : List PyData}, Vals xs us → kz.length = us.length → EachIs (fun (u : Value) (b : V × PyData) => RelV b.1 u) us (xs.zip kz)
  | _, _, [], .nil, _ => .nil
  | _, _, _ :: _, .nil, h => nomatch h
  | _, _, [], .cons _ _, h => nomatch h
  | _, _, k :: kz, .cons r t, h => .cons r (each_zip t (Nat.succ.inj h))
theorem zip_snd : ∀ {xs : List V} {kz : List PyData}, kz.length = xs.length → (xs.zip kz).map Prod.snd = kz
  | [], [], _ => rfl
  | [], _ :: _, h => nomatch h
  | _ :: _, [], h => nomatch h
  | _ :: xs, k :: kz, h => congrArg (k :: ·) (zip_snd (Nat.succ.inj h))
theorem vals_map : ∀ {out : List Value} {bs : List (V × PyData)}, EachIs (fun (u : Value) (b : V × PyData) => RelV b.1 u) out bs → Vals (bs.map Prod.fst) out
  | _, _, .nil => .nil
  | _, _, .cons h t => .cons h (vals_map t)
theorem sorted_G {l q : Addr} {xs : List V} {Q : VK} (G : List V → Hp → Prop) (I : Inv X pins σ H s) (hl : SqL X.K H l xs) (hlen : kz.length = xs.length) (hal : AllAlike kz) (hsk : Sortable kz) (hu : ∀ d, d ∈ kz → X.A.units + 2 + d.depth < cLine) (g0 : G [] H)
    (turn : ∀ (x : V) (u : Value) (ks : List V) (pins' : List (Addr × Obj)) (s' : Shared) (H' : Hp), xs[ks.length]? = some x → RelV x u → G ks H' → Inv X pins' σ H' s' → wpAny (model X.prog X.w) X.A.in1.in1 (call (.ref q) [u]) (EP X pins' σ fun v H'' => G (ks ++ [v]) H'') (fun _ _ => False) s')
    (fin : ∀ (ks : List V) (us : List Value) (pins' : List (Addr × Obj)) (s' : Shared) (H' : Hp), ks.length = xs.length → G ks H' → Inv X pins' σ H' s' → Vals ks us → EachIs (fun v k => ∃ as, Reads s'.heap v k as) us kz)
    (h : ∀ (ks : List V) (H' : Hp) (p : Addr), ks.length = xs.length → G ks H' → H' p = none → Q (.ref p) (upd H' p (.lst (byKey xs kz)))) :
    wpAny (model X.prog X.w) X.A (call (.builtin "sorted") [.ref l] [(Str.ofString "key", .ref q)]) (EP X pins σ Q) X.xe s := by
  obtain ⟨us, vals, pl, hz⟩ := I.list hl
  have lu : us.length = xs.length := vals.length.symm
  refine PySem.W.sorted_of_sort (vs := us) pl.isList (by rw [lu]; exact hz) (ksk_s1 _ _) (fun _ => ksk_l1 _ _) fun E' => ?_
  rw [ksk_t1]
  have kept : ∀ b o, s.heap.get? b = some o → (PySem.W.sortingHeap (copyHeap s.heap us) (s.heap.objs.size + 1) us).get? b = some o := fun b o e => PySem.W.sortingHeap_old (Nat.ne_of_lt (Nat.lt_succ_of_lt (Heap.lt_size e))) (PySem.W.copyHeap_old e)
  have at0 := PySem.W.copyHeap_at s.heap us
  obtain ⟨e1, at1⟩ : ∃ e1, ((copyHeap s.heap us).update (s.heap.objs.size + 1) (Obj.mapSeq fun _ => (#[] : Array Value))).get? (s.heap.objs.size + 1) = some (seqObj "list" #[] e1) := ⟨_, get?_update_seq at0 fun _ => #[]⟩
  have lt0 : s.heap.objs.size + 1 < (copyHeap s.heap us).objs.size := Heap.lt_size at0
  have sz : (((copyHeap s.heap us).update (s.heap.objs.size + 1) (Obj.mapSeq fun _ => (#[] : Array Value))).push (seqObj "tuple" us.toArray 0)).objs.size = (copyHeap s.heap us).objs.size + 1 := by rw [size_push', Heap.size_update]
  unfold ksk_tree
  refine wpAny_bind (listItems_at at0 rfl ?_)
  refine wpAny_bind (listUpdate_at at0 rfl ?_ (by rw [List.size_toArray, lu]; exact hz) (Nat.zero_le _))
  refine wpAny_bind (seqEpoch_at at1 rfl ?_)
  refine wpAny_bind (wpAny_newTuple ?_ (by show us.length ≤ _; rw [lu]; exact hz))
  refine wpAny_bind (wpAny_newList ?_ (Nat.zero_le _))
  refine wpAny_holding ?_
  have I1 : Inv X pins σ H { s with heap := PySem.W.sortingHeap (copyHeap s.heap us) (s.heap.objs.size + 1) us, toks := s.toks } := I.kept kept
  obtain ⟨oa, ha⟩ := off_new (b := s.heap.objs.size + 1) I (Nat.le_succ _)
  obtain ⟨ok, hk⟩ := off_new (b := (((copyHeap s.heap us).update (s.heap.objs.size + 1) (Obj.mapSeq fun _ => (#[] : Array Value))).push (seqObj "tuple" us.toArray 0)).objs.size) I (by rw [sz]; omega)
  have hne : (((copyHeap s.heap us).update (s.heap.objs.size + 1) (Obj.mapSeq fun _ => (#[] : Array Value))).push (seqObj "tuple" us.toArray 0)).objs.size ≠ s.heap.objs.size + 1 := by omega
  refine rest (kz := kz) G I1 ok oa hk ha (Heap.get?_push_size _ rfl) (Heap.get?_push_of_some _ (Heap.get?_push_of_some _ at1)) hne (hlen.trans lu.symm) (by rw [lu]; exact hz) hal hsk (fun d hd => ?_) g0 (fun u ks pins' s' H' hx g I' => ?_) (fun ks us' pins' s' H' hl' g I' v' => fin ks us' pins' s' H' (hl'.trans lu) g I' v') fun ks H' s' out hl' g ha' ko inv => ⟨rfl, ?_⟩
  · have := hu d hd
    rw [Around.in1_units, Around.in1_units]
    omega
  · obtain ⟨hi, he⟩ := List.getElem?_eq_some_iff.mp hx
    have hx' : xs[ks.length]? = some (xs[ks.length]'(by rw [← lu]; exact hi)) := List.getElem?_eq_getElem _
    obtain ⟨u', h1, h2⟩ := vals.get hx'
    rw [hx] at h1
    cases h1
    exact turn _ u ks pins' s' H' hx' h2 g I'
  · have ko' : KeyedOut false ((xs.zip kz).map Prod.snd) us out := by
      rw [zip_snd hlen]
      exact ko
    exact ⟨.ref _, _, inv _ (vals_map (PySem.W.keyedOut_each Prod.snd ko' (each_zip vals (hlen.trans lu.symm)))), rfl, h ks H' _ (hl'.trans lu) g ha'⟩
end
end MeO
end
section
set_option Elab.async false
set_option linter.all false
set_option maxRecDepth 100000
set_option maxHeartbeats 4000000
/-! sorted(xs, key=lambda x: ..) -/
namespace Mi
open PySem PySem.Spec PyProof.Rows L2 Evl MeV MeG MeD MeH MeL LamX MeO
open PySem.W (EachIs AllAlike Sortable alike)
mutual
/-- a tree as plain data -/
def pyD : D → Option PyData
  | .non => some .none
  | .bl b => some (.bool b)
  | .int i => some (.int i)
  | .str x => some (.str x)
  | .tup ds => (pysD ds).map .tuple
  | .lst _ => none
  | .scr _ => none
  | .dic _ => none
  | .obj _ _ => none
  | .ref _ => none
  | .ty _ => none
  | .cls _ => none
  | .err _ _ => none
  | .clo _ => none
def pysD : List D → Option (List PyData)
  | [] => some []
  | d :: ds => (pyD d).bind fun k => (pysD ds).map (k :: ·)
end
section
variable {X : Cx} {pins : List (Addr × Obj)} {σ : L2.St} {H h : Hp} {s : Shared} {cl : Cl} {ι : List Addr}
mutual
theorem read_is (I : Inv X pins σ H s) (e : Ex h H) : ∀ {v : V} {d : D} {k : PyData} {u : Value}, Rep (cX X cl) h ι v d → pyD d = some k → RelV v u → Reads s.heap u k []
  | _, _, _, _, .non, q, r => by
    simp only [pyD] at q
    cases q
    obtain rfl := r
    exact .none
  | _, _, _, _, .bl b, q, r => by
    simp only [pyD] at q
    cases q
    obtain rfl := r
    exact .bool b
  | _, _, _, _, .int i, q, r => by
    simp only [pyD] at q
    cases q
    obtain ⟨t, rfl⟩ := r
    exact .int i t
  | _, _, _, _, .str x, q, r => by
    simp only [pyD] at q
    cases q
    obtain ⟨t, rfl⟩ := r
    exact .str x t
  | _, _, _, _, .ty _, q, _ => by simp only [pyD] at q; cases q
  | _, _, _, _, .ref _, q, _ => by simp only [pyD] at q; cases q
  | _, _, _, _, .lst _ _, q, _ => by simp only [pyD] at q; cases q
  | _, _, _, _, .scr _ _, q, _ => by simp only [pyD] at q; cases q
  | _, _, _, _, .dic _ _, q, _ => by simp only [pyD] at q; cases q
  | _, _, _, _, .obj _ _, q, _ => by simp only [pyD] at q; cases q
  | _, _, _, _, .cls _, q, _ => by simp only [pyD] at q; cases q
  | _, _, _, _, .err _ _ _, q, _ => by simp only [pyD] at q; cases q
  | _, _, _, _, .clo _ _ _, q, _ => by simp only [pyD] at q; cases q
  | _, _, _, _, .tup h1 h2, q, r => by
    simp only [pyD] at q
    obtain ⟨ks, h3, h4⟩ := Option.map_eq_some_iff.mp q
    subst h4
    obtain rfl := r
    obtain ⟨its, h5, ⟨o, h6, h7, n, h8⟩, _⟩ := I.tuple (ex_t e h1)
    exact .tuple h6 h7 h8 (reads_are I e h2 h3 h5)
theorem reads_are (I : Inv X pins σ H s) (e : Ex h H) : ∀ {vs : List V} {ds : List D} {ks : List PyData} {us : List Value}, RepA (cX X cl) h ι vs ds → pysD ds = some ks → Vals vs us → ReadsAll s.heap us ks []
  | _, _, _, _, .nil, q, r => by
    simp only [pysD] at q
    cases q
    cases r
    exact .nil
  | _, _, _, _, .cons a k, q, r => by
    simp only [pysD] at q
    obtain ⟨k1, h1, h2⟩ := Option.bind_eq_some_iff.mp q
    obtain ⟨ks, h3, h4⟩ := Option.map_eq_some_iff.mp h2
    subst h4
    cases r with
    | cons r1 r2 => exact ReadsAll.cons (as := []) (bs := []) (read_is I e a h1 r1) (reads_are I e k h3 r2)
end
theorem each_read (I : Inv X pins σ H s) (e : Ex h H) : ∀ {vs : List V} {ds : List D} {ks : List PyData} {us : List Value}, RepA (cX X cl) h ι vs ds → optL pyD ds = some ks → Vals vs us → EachIs (fun v k => ∃ as, Reads s.heap v k as) us ks
  | _, _, _, _, .nil, q, r => by
    cases q
    cases r
    exact .nil
  | _, _, _, _, .cons a k, q, r => by
    obtain ⟨k1, h1, h2⟩ := Option.bind_eq_some_iff.mp q
    obtain ⟨ks, h3, h4⟩ := Option.map_eq_some_iff.mp h2
    subst h4
    cases r with
    | cons r1 r2 => exact .cons ⟨[], read_is I e a h1 r1⟩ (each_read I e k h3 r2)
end
/-- what the sorting asks of the keys -/
def goodK (kz : List PyData) : Bool := (kz.all fun a => kz.all fun b => alike a b) && ((kz.all fun d => match d with | .tuple (_ :: _) => true | _ => false) || kz.all fun d => match d with | .none => false | .tuple _ => false | _ => true) && kz.all fun d => Nat.ble d.depth 8
theorem goodK_ok {kz : List PyData} (h : goodK kz = true) : AllAlike kz ∧ Sortable kz ∧ ∀ d ∈ kz, d.depth ≤ 8 := by
  unfold goodK at h
  simp only [Bool.and_eq_true, Bool.or_eq_true, List.all_eq_true] at h
  obtain ⟨⟨h1, h2⟩, h3⟩ := h
  refine ⟨fun a ha b hb => h1 a ha b hb, ?_, fun d hd => Nat.le_of_ble_eq_true (h3 d hd)⟩
  rcases h2 with h2 | h2
  · refine .inl fun d hd => ?_
    have := h2 d hd
    split at this
    · exact ⟨_, _, rfl⟩
    · cases this
  · refine .inr fun d hd => ?_
    have := h2 d hd
    split at this
    · cases this
    · cases this
    · rename_i a b
      exact ⟨a, b⟩
/-- one key -/
def keyAt (N : Nat) (scope : Scope) (Nm : List Str) (kx : ME) (sl : Sl) (m : Mem) (d : D) : Option D := match lendE N kx (some d :: maskS scope Nm sl) m with
  | .ok k _ => some k
  | _ => none
def gSortK (N : Nat) (scope : Scope) (Nm : List Str) (kx : ME) (sl : Sl) : D → Mem → R D := fun d m => match listOf m d with
  | some ds => match optL (keyAt N scope Nm kx sl m) ds with
    | some kd => match optL pyD kd with
      | some kz => bif goodK kz then .ok (.ref m.length) (m ++ [.lst (byKey ds kz)]) else .no
      | none => .no
    | none => .no
  | none => .no
def mSortK (N : Nat) (scope : Scope) (Nm : List Str) (kx x : ME) : ME := fun sl m => (x sl m).bind fun d m1 => gSortK N scope Nm kx sl d m1
theorem optL_get {α β : Type} {f : α → Option β} : ∀ {as : List α} {bs : List β} {i : Nat} {a : α}, optL f as = some bs → as[i]? = some a → ∃ b, f a = some b ∧ bs[i]? = some b
  | [], _, _, _, _, e => nomatch e
  | x :: as, _, 0, a, q, e => by
    cases e
    obtain ⟨b, h1, h2⟩ := Option.bind_eq_some_iff.mp q
    obtain ⟨bs, h3, h4⟩ := Option.map_eq_some_iff.mp h2
    subst h4
    exact ⟨b, h1, rfl⟩
  | x :: as, _, i + 1, a, q, e => by
    obtain ⟨b, h1, h2⟩ := Option.bind_eq_some_iff.mp q
    obtain ⟨bs, h3, h4⟩ := Option.map_eq_some_iff.mp h2
    subst h4
    obtain ⟨b', h5, h6⟩ := optL_get (i := i) h3 e
    exact ⟨b', h5, h6⟩
theorem repSl_mask {c : Cc} {h : Hp} {ι : List Addr} {scope : Scope} : ∀ {Nm : List Str} {σ : L2.St} {sl : Sl}, σ.length = Nm.length → RepSl c h ι σ sl → RepSl c h ι (maskS scope Nm σ) (maskS scope Nm sl)
  | [], [], sl, _, r => by
    obtain rfl : sl = [] := List.length_eq_zero_iff.mp r.len.symm
    exact r
  | [], _ :: _, _, e, _ => nomatch e
  | _ :: _, [], _, e, _ => nomatch e
  | x :: Nm, o :: σ, [], _, r => nomatch r.len
  | x :: Nm, o :: σ, q :: sl, e, r => by
    have ih := repSl_mask (scope := scope) (Nm := Nm) (σ := σ) (sl := sl) (Nat.succ.inj e) ⟨Nat.succ.inj r.len, fun i d h => r.at_ (i + 1) d h⟩
    refine ⟨congrArg (· + 1) ih.len, fun i d h => ?_⟩
    cases i with
    | zero =>
      have h' : (if scope.names.lookup x = some .free then q else none) = some d := Option.some.inj h
      split at h'
      · rename_i hx
        subst h'
        obtain ⟨v, h1, h2⟩ := r.at_ 0 d rfl
        cases h1
        refine ⟨v, ?_, h2⟩
        show some (if scope.names.lookup x = some .free then some v else none) = some (some v)
        rw [if_pos hx]
      · cases h'
    | succ i => exact ih.at_ i d h
theorem repSl_cons {c : Cc} {h : Hp} {ι : List Addr} {σ : L2.St} {sl : Sl} {v : V} {d : D} (r : Rep c h ι v d) (q : RepSl c h ι σ sl) : RepSl c h ι (some v :: σ) (some d :: sl) := ⟨congrArg (· + 1) q.len, fun i e he => by
  cases i with
  | zero =>
    cases he
    exact ⟨v, rfl, r⟩
  | succ i => exact q.at_ i e he⟩
theorem pre_eq {ι ι' : List Addr} (p : ι <+: ι') (l : ι'.length = ι.length) : ι' = ι := (p.eq_of_length l.symm).symm
theorem zip_map {α β γ : Type} (f : α → β) : ∀ (xs : List α) (ks : List γ), (xs.map f).zip ks = (xs.zip ks).map fun p => (f p.1, p.2)
  | [], _ => rfl
  | _ :: _, [] => rfl
  | x :: xs, k :: ks => congrArg ((f x, k) :: ·) (zip_map f xs ks)
theorem byKey_map {α β : Type} (f : α → β) (xs : List α) (kz : List PyData) : byKey (xs.map f) kz = (byKey xs kz).map f := by
  unfold byKey
  rw [zip_map, ← List.map_mergeSort (r := PySem.W.dataLe false Prod.snd) (s := PySem.W.dataLe false Prod.snd) (f := fun p : α × PyData => (f p.1, p.2)) (fun a _ b _ => rfl), List.map_map, List.map_map]
  rfl
theorem byKey_len {α : Type} {xs : List α} {kz : List PyData} (h : kz.length = xs.length) : (byKey xs kz).length = xs.length := by
  unfold byKey
  rw [List.length_map, List.length_mergeSort, List.length_zip, h, Nat.min_self]
theorem repA_pairs {c : Cc} {h : Hp} {ι : List Addr} : ∀ {xs : List V} {ds : List D}, RepA c h ι xs ds → ∃ ps : List (V × D), ps.map Prod.fst = xs ∧ ps.map Prod.snd = ds ∧ ∀ p ∈ ps, Rep c h ι p.1 p.2
  | _, _, .nil => ⟨[], rfl, rfl, fun _ z => nomatch z⟩
  | _, _, .cons a r => by
    obtain ⟨ps, h1, h2, h3⟩ := repA_pairs r
    refine ⟨(_, _) :: ps, congrArg _ h1, congrArg _ h2, fun p hp => ?_⟩
    rcases List.mem_cons.mp hp with rfl | hp
    · exact a
    · exact h3 p hp
theorem repA_of {c : Cc} {h : Hp} {ι : List Addr} : ∀ {ps : List (V × D)}, (∀ p ∈ ps, Rep c h ι p.1 p.2) → RepA c h ι (ps.map Prod.fst) (ps.map Prod.snd)
  | [], _ => .nil
  | p :: ps, k => .cons (k p List.mem_cons_self) (repA_of fun q hq => k q (List.mem_cons_of_mem _ hq))
theorem repA_byKey {c : Cc} {h : Hp} {ι : List Addr} {xs : List V} {ds : List D} {kz : List PyData} (r : RepA c h ι xs ds) : RepA c h ι (byKey xs kz) (byKey ds kz) := by
  obtain ⟨ps, rfl, rfl, h3⟩ := repA_pairs r
  rw [byKey_map, byKey_map]
  refine repA_of fun p hp => h3 p ?_
  unfold byKey at hp
  obtain ⟨q, h1, rfl⟩ := List.mem_map.mp hp
  exact (List.of_mem_zip (List.mem_mergeSort.mp h1)).1
section
variable {X : Cx} {L : Cl} {pins : List (Addr × Obj)} {σ : L2.St} {H : Hp} {s : Shared} {E : XK} {S : Wv} {ι : List Addr} {mem : Mem} {d : D} {sl : Sl} {Q : VK} {v z : V} {j k N : Nat} {params : Arguments} {body : Expr} {scope : Scope} {p : Str} {kx : ME} {u w : Value}
theorem sort_at (hcap : L.cap = []) (I : Inv X pins σ H s) (LP : LamP X.env.scope scope p) (hj : L.lam j = some ⟨X.env.qual ++ "<lambda>", params, body, scope, cloFrom X.env.cells scope.names []⟩) (room : Room (k + 3) X.A)
    (bind : ∀ (u : Value) (q : Str) (cl : List (Str × Addr)) (pm cv ctv : Value), bindArgs (PySem.W.kla_fn "<lambda>" q params body scope cl pm cv ctv) ⟨[u], []⟩ = pure [(p, u)])
    (read : ∀ (A : Around) (s : Shared) (H : Hp) (f c' : Addr), A.guards = X.A.guards → Room k (A.deeper (lamEnv X scope s.heap.objs.size f c')) → PE (lamCx1 X p A X.stack s H (fun _ _ _ => False) scope f c') body (tM (cX X L) (fun _ _ _ _ => False) kx))
    (hu : X.A.units + 2 + 8 < cLine) (sr : SR (cX X L) S ι mem H) (rs : RepSl (cX X L) (fz S ι H) ι σ sl) (rv : Rep (cX X L) (fz S ι H) ι v d) (rz : Rep (cX X L) (fz S ι H) ι z (.clo j)) (ev : RelV v u) (ez : RelV z w) (post : Post (cX X L) E S ι H (rD (cX X L)) (gSortK N scope X.N kx sl d mem) Q) :
    wpAny (model X.prog X.w) X.A (call (.builtin "sorted") [u] [(Str.ofString "key", w)]) (EP X pins σ Q) X.xe s := by
  unfold gSortK at post
  cases hl : listOf mem d with
  | none => rw [hl] at post; exact post.elim
  | some ds =>
    rw [hl] at post
    dsimp only at post
    cases hkd : optL (keyAt N scope X.N kx sl mem) ds with
    | none => rw [hkd] at post; exact post.elim
    | some kd =>
      rw [hkd] at post
      dsimp only at post
      cases hkz : optL pyD kd with
      | none => rw [hkz] at post; exact post.elim
      | some kz =>
        rw [hkz] at post
        dsimp only at post
        cases hg : goodK kz with
        | false => rw [hg] at post; exact post.elim
        | true =>
          rw [hg] at post
          obtain ⟨al, so, dp⟩ := goodK_ok hg
          obtain ⟨l, xs, rfl, hL, rx⟩ := listOf_ok sr rv hl
          obtain rfl := ev
          have lx : xs.length = ds.length := rx.len
          have lk : kd.length = ds.length := optL_len hkd
          have lz : kz.length = xs.length := (optL_len hkz).trans (lk.trans lx.symm)
          cases rz with
          | @clo f c' _ lam hlam hF hC =>
            rw [hj] at hlam
            cases hlam
            obtain rfl := ez
            refine sorted_G (fun ks H' => SR (cX X L) S ι mem H' ∧ Fr S ι H ι H' ∧ RepA (cX X L) (fz S ι H') ι ks (kd.take ks.length)) I hL lz al so (fun d hd => ?_) ⟨sr, Fr.refl, .nil⟩ (fun x u ks pins' s' H' hx hr ⟨s1, f1, rk⟩ I' => ?_) (fun ks us pins' s' H' hl' ⟨s1, f1, rk⟩ I' vals => ?_) fun ks H' q hl' ⟨s1, f1, rk⟩ hq => ?_
            · have := dp d hd
              omega
            · obtain ⟨dx, hdx, rd⟩ := rx.at_ hx
              obtain ⟨kx', hk1, hk2⟩ := optL_get hkd hdx
              unfold keyAt at hk1
              have hle : ∃ m1, lendE N kx (some dx :: maskS scope X.N sl) mem = .ok kx' m1 := by
                split at hk1
                · rename_i k0 m0 h0
                  cases hk1
                  exact ⟨m0, h0⟩
                · cases hk1
              obtain ⟨m1, hle⟩ := hle
              have em : m1 = mem := by
                unfold lendE outB at hle
                split at hle
                · rename_i d0 m0 h0
                  cases hf : flat N d0 with
                  | true => rw [hf] at hle; cases hle; rfl
                  | false => rw [hf] at hle; cases hle
                · rename_i k0 fs m0 h0
                  revert hle
                  cases fs.all fun p => flat N p.2 <;> exact fun z => nomatch z
                · cases hle
              subst em
              have go := lam1_run (A := X.A.in1.in1) (k := k) (E := fun _ _ _ => False) (Q := fun v H'' => SR (cX X L) S ι m1 H'' ∧ Fr S ι H ι H'' ∧ RepA (cX X L) (fz S ι H'') ι (ks ++ [v]) (kd.take (ks ++ [v]).length)) I' LP rfl hr (bind u) (room.in1.in1) (f1.e _ _ hF |> fz_sub _ _) (f1.e _ _ hC |> fz_sub _ _) (read _ _ _ _ _ rfl)
                (s_lend (N := N) hcap _ _ _ ⟨S, ι, m1, some dx :: maskS scope X.N sl, s1, repSl_cons (rd.up f1.e f1.p) (repSl_mask I.len (rs.fr f1)), by
                  rw [hle]
                  intro v2 ι2 H2 s2 f2 r2
                  obtain rfl := pre_eq f2.p (s2.len.trans s1.len.symm)
                  refine ⟨s2, f1.trans f2, ?_⟩
                  rw [List.length_append]
                  show RepA _ _ _ _ (kd.take (ks.length + 1))
                  rw [List.take_add_one, hk2]
                  exact (RepA.up f2.e f2.p rk).app (.cons r2 .nil)⟩)
              refine wpAny_call (codeAny_mono go fun r s2 hh => ?_)
              match r, hh with
              | .ok (.ret _), hh => exact I'.after hh
              | .error e, hh =>
                obtain ⟨_, _, _, _, _, _, _, _, _, _, _, _, z⟩ := hh
                exact z
            · rw [List.take_of_length_le (by omega)] at rk
              exact each_read I' fz_sub rk hkz vals
            · obtain ⟨s2, f2⟩ := s1.alloc (o := .lst (byKey ds kz)) (O := .lst (byKey xs kz)) hq (.lst (repA_byKey (rx.up f1.e f1.p)))
              refine post _ (ι ++ [q]) _ s2 (f1.trans f2) (Rep.ref ?_)
              rw [← s1.len, List.getElem?_append_right (Nat.le_refl _), Nat.sub_self]
              rfl
end
section
variable {X : Cx} {L : Cl} {E : SX} {j k N : Nat} {params : Arguments} {body : Expr} {scope : Scope} {p : Str} {kx x : ME} {e : Expr} {T : List (Addr × Str)} {p0 lpos kpos pos : Pos}
/-- sorted(e, key=lambda p: body) -/
theorem m_sortK (N : Nat) (hcap : L.cap = []) (LP : LamP X.env.scope scope p) (hT : L.tabs = some T) (hj : L.lam j = some ⟨X.env.qual ++ "<lambda>", params, body, scope, cloFrom X.env.cells scope.names []⟩) (room : Room (k + 3) X.A)
    (bind : ∀ (u : Value) (q : Str) (cl : List (Str × Addr)) (pm cv ctv : Value), bindArgs (PySem.W.kla_fn "<lambda>" q params body scope cl pm cv ctv) ⟨[u], []⟩ = pure [(p, u)])
    (read : ∀ (A : Around) (s : Shared) (H : Hp) (f c' : Addr), A.guards = X.A.guards → Room k (A.deeper (lamEnv X scope s.heap.objs.size f c')) → PE (lamCx1 X p A X.stack s H (fun _ _ _ => False) scope f c') body (tM (cX X L) (fun _ _ _ _ => False) kx))
    (hu : X.A.units + 2 + 8 < cLine) (hg : Gl X "sorted") (hm : X.mg "sorted" = none) (hl : PE X (.Lambda params body scope lpos) (tLamV T (X.env.qual ++ "<lambda>") params body scope (cloFrom X.env.cells scope.names []))) (he : PE X e (tM (cX X L) E x))
    (hs : backTo pos (starEach [e] X.env) = (false, eval e X.env) :: backTo pos (starEach [] X.env) := by rfl) (hpl : (backTo pos (starEach [e] X.env)).any (·.1) = false := by rfl) (hss : starEach [e] X.env = (false, eval e X.env) :: starEach [] X.env := by rfl) :
    PE X (.Call (.Name "sorted" p0) [e] [⟨some "key", .Lambda params body scope lpos, kpos⟩] pos) (tM (cX X L) E (mSortK N scope X.N kx x)) := by
  have ml : PE X (.Lambda params body scope lpos) (tM (cX X L) E (mLam j)) := m_lam hl hT hj
  have pa : PA X [e] (tMA (cX X L) E (mCons x mNil)) := m_cons he m_nil hss
  have pk := pk_cons (kpos := kpos) (nm := some "key") ml pk_nil
  refine ⟨fun pins s σ H Q I ⟨S, ι, mem, sl, sr, rs, post⟩ => ?_⟩
  refine wpAny_Call_Name_kw (ld_blt (u := .builtin "sorted") I hg hm rfl ?_)
  have p1 : Post (cX X L) (E σ) S ι H (rD (cX X L)) ((x sl mem).bind fun d m1 => gSortK N scope X.N kx sl d m1) Q := post
  have go : tMA (cX X L) E (mCons x mNil) σ H fun vs H1 => tCons (tM (cX X L) E (mLam j)) tNil σ H1 fun zs H2 => ∃ v z S ι mem d, vs = [v] ∧ zs = [z] ∧ SR (cX X L) S ι mem H2 ∧ RepSl (cX X L) (fz S ι H2) ι σ sl ∧ Rep (cX X L) (fz S ι H2) ι v d ∧ Rep (cX X L) (fz S ι H2) ι z (.clo j) ∧ Post (cX X L) (E σ) S ι H2 (rD (cX X L)) (gSortK N scope X.N kx sl d mem) Q := by
    refine ⟨S, ι, mem, sl, sr, rs, ?_⟩
    cases hx : x sl mem with
    | no => rw [hx] at p1; exact p1.elim
    | exc k0 fs m1 =>
      rw [hx] at p1
      have e1 : mCons x mNil sl mem = .exc k0 fs m1 := by
        show (x sl mem).bind _ = _
        rw [hx]
        rfl
      rw [e1]
      exact p1
    | ok d m1 =>
      rw [hx] at p1
      have e1 : mCons x mNil sl mem = .ok [d] m1 := by
        show (x sl mem).bind _ = _
        rw [hx]
        rfl
      rw [e1]
      intro vs ι1 H1 s1 f1 r1
      cases r1 with
      | cons rv r2 =>
        cases r2
        refine ⟨S, ι1, m1, sl, s1, rs.fr f1, ?_⟩
        intro z ι2 H2 s2 f2 rz
        exact ⟨_, z, S, ι2, m1, d, rfl, rfl, s2, (rs.fr f1).fr f2, rv.up f2.e f2.p, rz, (Post.from (r := gSortK N scope X.N kx sl d m1) p1 f1).from f2⟩
  refine PyProof.Rows.callWith_kw (thn (pa.run pos pins s σ H _ I go) fun us s1 ⟨vs, H1, I1, r1, q1⟩ => thn (pk.run pos pins s1 σ H1 _ I1 q1) fun ws s2 ⟨zs, H2, I2, r2, q2⟩ => ?_) hs hpl rfl rfl
  obtain ⟨v, z, S', ι', mem', d, rfl, rfl, s', rs', rv, rz, p'⟩ := q2
  obtain ⟨u, rfl, e1⟩ := vals1 r1
  obtain ⟨w, rfl, e2⟩ := vals1 r2
  exact sort_at hcap I2 LP hj room bind read hu s' rs' rv rz e1 e2 p'
end
end Mi
end
section
set_option Elab.async false
set_option linter.all false
set_option maxRecDepth 100000
set_option maxHeartbeats 4000000
/-! d.update(d2) -/
namespace MeD
open PySem PySem.Spec PyProof.Rows
section
variable {prog : Program} {w : World} {A : Around} {E : Value → Shared → Prop} {s : Shared} {d o : Addr} {ep : Nat} {xs : List Ent} {k : NestedKey} {key : Value} {h h' : Heap} {nm : String}
/-- a row of turns f, each of which stores a pair of ys in d -/
theorem mgLoop {oo : Obj} {ys : List Ent} {f : Nat → PUnit → Sem (ForInStep PUnit)} (hu : A.units + 8 < cLine) (ne : d ≠ o)
    (turn : ∀ (i : Nat) (p : Ent) (s : Shared) (Q : ForInStep PUnit → Shared → Prop), ys[i]? = some p → s.heap.get? o = some oo → wpAny (model prog w) A (dictSetHashed d (ent w p).key (ent w p).hash (ent w p).val) (fun _ s1 => s1.heap.get? o = some oo ∧ Q (.yield .unit) s1) E s → wpAny (model prog w) A (f i .unit) Q E s) :
    ∀ (rest acc : List Ent) (ep i : Nat) (s : Shared) (Q : PUnit → Shared → Prop), ys.drop i = rest → s.heap.get? o = some oo → (∀ p ∈ rest, IsK s.heap p.1 p.2.1) → Dk w s d ep acc → acc.length + rest.length ≤ sizeLine →
    (∀ h', IsD w h' d (mergeE acc rest ep) (mergeK acc rest) → Heap.SameBut d s.heap h' → Q PUnit.unit { s with heap := h' }) →
    wpAny (model prog w) A (forIn (List.range' i rest.length) PUnit.unit f) Q E s
  | [], acc, ep, i, s, Q, _, _, _, D, _, h => wpAny_pure (h s.heap D.is (Heap.SameBut.refl _ _))
  | p :: rest, acc, ep, i, s, Q, hd, ho, hk, D, hz, h => by
    have hl : (p :: rest).length = rest.length + 1 := rfl
    have hi : ys[i]? = some p := by
      have e := congrArg List.head? hd
      rw [List.head?_drop] at e
      exact e
    have hd' : ys.drop (i + 1) = rest := by
      rw [← List.tail_drop, hd]
      rfl
    rw [hl, List.range'_succ, List.forIn_cons]
    have k0 := hk p List.mem_cons_self
    refine wpAny_bind (turn i p s _ hi ho (put hu k0 D (by omega) fun h1 i1 b1 => ?_))
    have ho1 : h1.get? o = some oo := (b1.2 o (Ne.symm ne)).trans ho
    obtain ⟨od, esd, hod, _, hdd, _⟩ := D.is
    have hp := putK_len (xs := acc) (k := p.1) (key := p.2.1) (v := p.2.2)
    exact ⟨ho1, mgLoop hu ne turn rest _ _ (i + 1) { s with heap := h1 } Q hd' ho1 (fun q hq => (hk q (List.mem_cons_of_mem _ hq)).but hod hdd b1) (D.put k0 i1 b1) (by have hp' := putK_len (xs := acc) (k := p.1) (key := p.2.1) (v := (ent w p).val); omega) fun h2 i2 b2 => h h2 i2 (b1.trans b2)⟩
/-- the entries of o are stored in d, where d is not empty -/
theorem mergeD {ys : List Ent} {epo : Nat} {Q : Unit → Shared → Prop} (hu : A.units + 8 < cLine) (ne : d ≠ o) (hS : (o == sysModules) = false) (D : Dk w s d ep xs) (O : Dk w s o epo ys) (h0 : xs ≠ []) (hz : xs.length + ys.length ≤ sizeLine)
    (h : ∀ h', IsD w h' d (mergeE xs ys ep) (mergeK xs ys) → Heap.SameBut d s.heap h' → Q () { s with heap := h' }) : wpAny (model prog w) A (Builtin.Dict.mergeDict nm d o) Q E s := by
  obtain ⟨oo, es, ho, _, hdo, he⟩ := O.is
  obtain ⟨od, esd, hod, _, hdd, hed⟩ := D.is
  have hsz : es.size = ys.length := ents_size he
  have nonempty : esd.isEmpty = false := by
    have := ents_size hed
    rw [Array.isEmpty_eq_false_iff]
    rintro rfl
    exact h0 (List.length_eq_zero_iff.mp this.symm)
  have er : Std.Legacy.Range.size [:es.size] = ys.length := by
    simp [Std.Legacy.Range.size, hsz]
  unfold Builtin.Dict.mergeDict
  rw [if_neg (by simpa using ne)]
  unfold Builtin.Dict.showsAll
  rw [if_neg (by rw [hS]; exact Bool.false_ne_true)]
  refine wpAny_bind (wpAny_pure (wpAny_bind (wpAny_dictEntries ho hdo ?_)))
  dsimp only
  split
  · refine wpAny_bind (wpAny_dictEntries hod hdd ?_)
    rw [nonempty]
    refine wpAny_bind (wpAny_dictEpoch ho hdo (wpAny_bind (wpAny_dictEntries ho hdo (wpAny_bind ?_))))
    rw [Std.Legacy.Range.forIn_eq_forIn_range', er]
    exact mgLoop hu ne (fun i p s' Q' hi ho' hw => by
      refine wpAny_bind (wpAny_dictEntries ho' hdo ?_)
      rw [ents_at he, hi]
      refine wpAny_bind (wpAny_holding (wpAny_mono hw (fun _ s1 hq => ?_) fun _ _ z => z))
      refine wpAny_bind (wpAny_dictEpoch hq.1 hdo (iteC (fun z => ?_) fun _ => wpAny_pure hq.2))
      rw [bne_self_eq_false] at z
      cases z) ys xs ep 0 s _ rfl ho O.his D hz fun h' i b => wpAny_pure (h h' i b)
  · refine wpAny_bind (wpAny_dictEpoch ho hdo (wpAny_bind (wpAny_dictEntries ho hdo (wpAny_bind ?_))))
    rw [Std.Legacy.Range.forIn_eq_forIn_range', er]
    exact mgLoop hu ne (fun i p s' Q' hi ho' hw => by
      refine wpAny_bind (wpAny_dictEntries ho' hdo ?_)
      rw [ents_at he, hi]
      refine wpAny_bind (wpAny_holding (wpAny_mono hw (fun _ s1 hq => ?_) fun _ _ z => z))
      refine wpAny_bind (wpAny_dictEpoch hq.1 hdo (iteC (fun z => ?_) fun _ => wpAny_pure hq.2))
      rw [bne_self_eq_false] at z
      cases z) ys xs ep 0 s _ rfl ho O.his D hz fun h' i b => wpAny_pure (h h' i b)
/-- d.update(o) -/
theorem updateM {ys : List Ent} {epo : Nat} {Q : Value → Shared → Prop} (hu : A.units + 9 < cLine) (ne : d ≠ o) (hS : (o == sysModules) = false) (D : Dk w s d ep xs) (O : Dk w s o epo ys) (h0 : xs ≠ []) (hz : xs.length + ys.length ≤ sizeLine)
    (h : ∀ h', IsD w h' d (mergeE xs ys ep) (mergeK xs ys) → Heap.SameBut d s.heap h' → Q .none { s with heap := h' }) : wpAny (model prog w) A (call (.builtin "dict.update") [.ref d, .ref o]) Q E s := by
  refine call_meetsIn F.slot_dict_update D.type F.entry_dict_update (F.args_dict_update_2 _ _) (S := fun A' R s' => A' = A ∧ s' = s ∧ ∀ h', IsD w h' d (mergeE xs ys ep) (mergeK xs ys) → Heap.SameBut d s.heap h' → R (.ok (.ret .none)) { s with heap := h' }) (fun A' R s' hS' => ?_) ⟨rfl, rfl, h⟩
  obtain ⟨rfl, rfl, q⟩ := hS'
  refine meets_dict_update_arg D.type ?_
  unfold Builtin.Dict.updateFrom
  refine wpAny_bind (wpAny_typeOf O.type ?_)
  rw [if_neg (by decide)]
  refine wpAny_bind ?_
  unfold Builtin.Dict.merge Builtin.Dict.readDirectly
  refine wpAny_bind (wpAny_bind (wpAny_isInstance O.type isSubtype_dict_dict ?_))
  simp only [Bool.not_true, Bool.false_eq_true, if_false]
  refine wpAny_bind (wpAny_specialOf O.type F.slot_dict_iter.lookup (wpAny_pure ?_))
  simp only [beq_self_eq_true, if_true]
  refine wpAny_bind (wpAny_pure ?_)
  refine mergeD (by rw [Around.in1_units]; omega) ne hS D O h0 hz fun h' i b => ?_
  show wpAny _ _ (Builtin.Dict.addKeywords d [] >>= _) _ _ _
  exact wpAny_bind (wpAny_pure (wpAny_pure (q h' i b)))
end
end MeD
end
section
set_option Elab.async false
set_option linter.all false
set_option maxRecDepth 100000
set_option maxHeartbeats 4000000
/-! xs.extend(ys), xs.pop(i), d.update(d2), xs[::-1], a, b, c = .. -/
namespace Mi
open PySem PySem.Spec PyProof.Rows L2 Evl MeV MeG MeD MeH MeL LamX MeO
/-- a list that the program has made -/
def ownL (m : Mem) : D → Option (List D)
  | .lst ds => some ds
  | .ref n => match m[n]? with
    | some (.lst ds) => some ds
    | _ => none
  | _ => none
theorem ownL_ok {c : Cc} {S : Wv} {ι : List Addr} {m : Mem} {H : Hp} {x : V} {d : D} {ds : List D} (s : SR c S ι m H) (r : Rep c (fz S ι H) ι x d) (e : ownL m d = some ds) : ∃ a xs, x = .ref a ∧ H a = some (.lst xs) ∧ RepA c (fz S ι H) ι xs ds := by
  cases r <;> try (cases e; done)
  · rename_i n a hn
    have e' : (match m[n]? with
      | some (.lst ds) => some ds
      | _ => none) = some ds := e
    split at e'
    · rename_i ds' hm
      cases e'
      obtain ⟨O, h1, h2⟩ := s.at_ n a _ hn hm
      cases h2 with
      | lst q => exact ⟨a, _, rfl, S.sub _ _ _ h1, q⟩
    · cases e'
  · rename_i a xs ds' h q
    cases e
    exact ⟨a, xs, rfl, fz_sub _ _ h, q⟩
def gExtend : GM := fun d ds m => match ds with
  | [y] => match ownL m y with
    | some zs => onL d m fun xs => bif Nat.ble (xs.length + zs.length) 100000 then some (.non, xs ++ zs) else none
    | none => .no
  | _ => .no
def gPopAt : GM := fun d ds m => match ds with
  | [.int i] => onL d m fun xs => match ixN xs.length i with
    | some k => match xs[k]? with
      | some y => bif Nat.ble xs.length 100000 then some (y, xs.eraseIdx k) else none
      | none => none
    | none => none
  | _ => .no
theorem RepA.erase {c : Cc} {h : Hp} {ι : List Addr} : ∀ {vs : List V} {ds : List D} (k : Nat), RepA c h ι vs ds → RepA c h ι (vs.eraseIdx k) (ds.eraseIdx k)
  | _, _, _, .nil => .nil
  | _, _, 0, .cons _ r => r
  | _, _, k + 1, .cons a r => .cons a (RepA.erase k r)
section
variable {X : Cx} {cl : Cl}
theorem sim_extend {c : Cc} : SimM c rExtend gExtend := fun E S ι mem H x xs d ds Q s r ra p => by
  unfold gExtend at p
  cases ra with
  | nil => exact p.elim
  | cons a ra =>
    cases ra with
    | cons _ _ => exact p.elim
    | nil =>
      dsimp only at p
      cases hy : ownL mem _ with
      | none => rw [hy] at p; exact p.elim
      | some zs =>
        rw [hy] at p
        obtain ⟨b, us, rfl, hb, rz⟩ := ownL_ok s a hy
        obtain ⟨l, vs, es, v, ys, rfl, hl, q, hk, go⟩ := onL_ok s r p
        cases hz : Nat.ble (es.length + zs.length) 100000 with
        | false => rw [hz] at hk; cases hk
        | true =>
          rw [hz] at hk
          cases hk
          refine ⟨l, b, vs, us, rfl, rfl, hl, hb, ?_, go _ _ .non (q.app rz)⟩
          rw [q.len, rz.len, sizeLine_eq]
          have := Nat.le_of_ble_eq_true hz
          omega
theorem sim_popAt {c : Cc} : SimM c rPopAt gPopAt := fun E S ι mem H x xs d ds Q s r ra p => by
  unfold gPopAt at p
  split at p
  · rename_i i
    cases ra with
    | cons a ra =>
      cases ra
      cases a
      obtain ⟨l, vs, es, v, ys, rfl, hl, q, hk, go⟩ := onL_ok s r p
      cases hi : ixN es.length i with
      | none => rw [hi] at hk; cases hk
      | some k =>
        rw [hi] at hk
        dsimp only at hk
        cases hy : es[k]? with
        | none => rw [hy] at hk; cases hk
        | some y =>
          rw [hy] at hk
          dsimp only at hk
          cases hz : Nat.ble es.length 100000 with
          | false => rw [hz] at hk; cases hk
          | true =>
            rw [hz] at hk
            cases hk
            have hz' := Nat.le_of_ble_eq_true hz
            obtain ⟨u, h1, h2⟩ := q.get hy
            obtain ⟨h3, _, h4, h5⟩ := ixN_seq hi
            exact ⟨l, vs, i, k, u, rfl, rfl, hl, by omega, by omega, by rw [q.len]; exact h3, h1, go _ _ h2 (q.erase k)⟩
  · exact p.elim
theorem meth_extend : Meth X cl "extend" (selB isL gExtend) := meth_list PySem.F.slot_list_extend PySem.F.type_list_extend (mtG mt_extend sim_extend)
/-- pop() or pop(i) -/
def gPopU : GM := fun d ds m => match ds with
  | [] => gPop d [] m
  | _ => gPopAt d ds m
theorem mt_popU : MtR X "list.pop" (rGM (cX X cl) gPopU) := fun pins s σ H x xs v us Q I rx rs ⟨E, S, ι, mem, d, ds, sr, r1, r2, p⟩ => by
  cases r2 with
  | nil => exact mtG mt_pop sim_pop pins s σ H x [] v us Q I rx rs ⟨E, S, ι, mem, d, [], sr, r1, .nil, p⟩
  | cons a r => exact mtG mt_popAt sim_popAt pins s σ H x _ v us Q I rx rs ⟨E, S, ι, mem, d, _, sr, r1, .cons a r, p⟩
theorem meth_pop : Meth X cl "pop" (selB isL gPopU) := meth_list PySem.F.slot_list_pop PySem.F.type_list_pop mt_popU
end
/-! d.update(d2) -/
def mergeP : List (D × D) → List (D × D) → Nat → Option (Nat × List (D × D))
  | acc, [], ep => some (ep, acc)
  | acc, p :: r, ep => match key8 p.1 with
    | some k => mergeP (putP acc k p.1 p.2) r (putN acc k ep)
    | none => none
theorem mergeP_ok {c : Cc} {h : Hp} {ι : List Addr} : ∀ {ys : List EntV} {es : List (D × D)} {vs : List Ent}, RepK c h ι ys es → PairE ys vs → ∀ {xs : List EntV} {us : List Ent} {ds ds' : List (D × D)} {ep ep' : Nat}, RepK c h ι xs ds → PairE xs us → mergeP ds es ep = some (ep', ds') →
    ∃ xs', RepK c h ι xs' ds' ∧ PairE xs' (MeD.mergeK us vs) ∧ MeD.mergeE us vs ep = ep' ∧ ds'.length ≤ ds.length + es.length
  | _, _, _, .nil, .nil, xs, us, ds, ds', ep, ep', r, p, e => by
    cases e
    exact ⟨xs, r, p, rfl, Nat.le_refl _⟩
  | _, _, _, .cons (k := k) (dk := dk) (d := dv) z a b t, .cons q pt, xs, us, ds, ds', ep, ep', r, p, e => by
    obtain ⟨q1, q2, q3⟩ := q
    unfold mergeP at e
    rw [z] at e
    dsimp only at e q1 q2 q3
    obtain ⟨xs1, h1, h2⟩ := put_ok r p z a b q2 q3
    obtain ⟨xs2, h3, h4, h5, h6⟩ := mergeP_ok t pt h1 h2 e
    refine ⟨xs2, h3, ?_, ?_, ?_⟩
    · unfold MeD.mergeK at h4 ⊢
      rw [List.foldl_cons, ← q1]
      exact h4
    · unfold MeD.mergeE
      rw [← q1, putN_ok r p]
      exact h5
    · have := putP_len (k := k) (dk := dk) (dv := dv) ds
      rw [List.length_cons]
      omega
/-- not the n-th thing -/
def notRef (n : Nat) : D → Bool
  | .ref k => !Nat.beq k n
  | _ => true
def gUpdate : GM := fun d as m => match d, as with
  | .ref n, [o] => match m[n]? with
    | some (.dic ep (p :: ds)) => match dicOf m o with
      | some es => bif notRef n o && Nat.ble (ds.length + es.length) 10000 then (match mergeP (p :: ds) es ep with
          | some r => .ok .non (m.set n (.dic r.1 r.2))
          | none => .no) else .no
      | none => .no
    | _ => .no
  | _, _ => .no
section
variable {X : Cx} {cl : Cl}
theorem mt_update (hu : X.A.units + 9 < cLine) : MtR X "dict.update" (rGM (cX X cl) gUpdate) := fun pins s σ H x xs v us Q I rx rs ⟨E, S, ι, mem, d, as, sr, r1, r2, p⟩ => by
  unfold gUpdate at p
  split at p
  · rename_i n o
    cases r1 with
    | @ref _ a hn =>
      obtain rfl := rx
      cases hm : mem[n]? with
      | none => rw [hm] at p; exact p.elim
      | some ob =>
        rw [hm] at p
        split at p
        · rename_i ep pr ds heq
          cases heq
          cases hd : dicOf mem o with
          | none => rw [hd] at p; exact p.elim
          | some es =>
            rw [hd] at p
            dsimp only at p
            cases hb : (notRef n o && Nat.ble (ds.length + es.length) 10000) with
            | false => rw [hb] at p; exact p.elim
            | true =>
              rw [hb] at p
              dsimp only [cond_true] at p
              obtain ⟨hb1, hb2⟩ := Bool.and_eq_true_iff.mp hb
              have hb3 := Nat.le_of_ble_eq_true hb2
              cases hp : mergeP (pr :: ds) es ep with
              | none => rw [hp] at p; exact p.elim
              | some r =>
                rw [hp] at p
                cases r2 with
                | cons ra rn =>
                  cases rn
                  cases rs with
                  | cons r0 rs' =>
                    cases rs'
                    obtain ⟨xs1, us1, ha, rk, f, pe, dk⟩ := dic_mem I sr hn hm
                    obtain ⟨b, epo, ys, vs, rfl, hb4, k1, f2, pe2, dk2⟩ := dic_at I sr ra hd
                    obtain rfl := r0
                    have ne : a ≠ b := fun z => by
                      subst z
                      cases ra with
                      | @ref k _ hk =>
                        have : k = n := (List.getElem?_inj (List.getElem?_eq_some_iff.mp hk).1 sr.nd).mp (hk.trans hn.symm)
                        subst this
                        simp [notRef] at hb1
                      | dic h _ => exact (of_fz h).1 (List.mem_of_getElem? hn)
                      | _ => cases hd
                    obtain ⟨xs', h1, h2, h3, h4⟩ := mergeP_ok k1 pe2 rk pe hp
                    have l1 : us1.length = (pr :: ds).length := by rw [← rk.len, pe.len]
                    have l2 : vs.length = es.length := by rw [← k1.len, pe2.len]
                    have l3 : (pr :: ds).length = ds.length + 1 := rfl
                    have hz : (pr :: ds).length + es.length ≤ sizeLine := by
                      rw [sizeLine_eq]
                      omega
                    refine updateM hu ne f2.2.1 dk dk2 (fun z => by rw [z] at l1; cases l1) (by rw [l1, l2]; exact hz) fun h' i sb => ?_
                    rw [h3] at i
                    obtain ⟨I2, s2, f3⟩ := dic_write (t := s.toks) I sr hn ha f h1 h2 i (mergeK_nodup _ _ dk.hn) (Nat.le_trans h4 hz) sb
                    exact ⟨.non, _, I2, rfl, p V.non ι _ s2 f3 Rep.non⟩
        · exact p.elim
  · exact p.elim
theorem meth_update (hu : X.A.units + 9 < cLine) : Meth X cl "update" (selB isD gUpdate) := meth_dict PySem.F.slot_dict_update PySem.F.type_dict_update (mt_update hu)
end
/-! xs[::-1] -/
def gRev : D → Mem → R D := fun d m => match listOf m d with
  | some ds => .ok (.lst ds.reverse) m
  | none => .no
theorem RepA.rev {c : Cc} {h : Hp} {ι : List Addr} : ∀ {vs : List V} {ds : List D}, RepA c h ι vs ds → RepA c h ι vs.reverse ds.reverse
  | _, _, .nil => .nil
  | _, _, .cons a r => by
    rw [List.reverse_cons, List.reverse_cons]
    exact (RepA.rev r).app (.cons a .nil)
section
variable {X : Cx} {L : Cl} {E : SX} {e : Expr} {x : ME} {k : Nat} {p1 p2 p3 pos : Pos}
theorem m_rev (he : PE X e (tM (cX X L) E x)) : PE X (.Subscript e (.Slice none none (some (.UnaryOp .USub (.Constant (.int 1) k p1) p2)) p3) pos) (tM (cX X L) E (mUn gRev x)) := (pe_revL he).weak fun σ H Q ⟨S, ι, mem, sl, s, q, p⟩ =>
  run1 (RR := rD (cX X L)) s q p fun v d ι1 m1 H1 s1 f1 r1 w => by
    unfold gRev at w
    cases hd : listOf m1 d with
    | none => rw [hd] at w; exact w.elim
    | some ds =>
      rw [hd] at w
      obtain ⟨a, xs, rfl, h1, h2⟩ := listOf_ok s1 r1 hd
      refine ⟨a, xs, rfl, h1, fun b hb => ?_⟩
      obtain ⟨s2, f2, h3⟩ := s1.new (o := .lst xs.reverse) hb (fun _ z => nomatch z)
      exact w _ ι1 _ s2 f2 (Rep.lst h3 (RepA.up f2.e f2.p h2.rev))
end
/-! three names at once -/
def nPar3 (i j l : Nat) (x : MA) : MS := fun sl m => (x sl m).seq sl fun ds m1 => match ds with
  | [d1, d2, d3] => .next (((sl.set i (some d1)).set j (some d2)).set l (some d3)) m1
  | _ => .no
theorem n_par3 {X : Cx} {c : Cc} {E : SX} {st : Stmt} {ms : MA} {i j l : Nat} (h : PS X st (tPar3 i j l (tMA c E ms))) : PS X st (tMS c E (nPar3 i j l ms)) := h.weak fun D σ H ⟨S, ι, mem, sl, s, q, p⟩ =>
  runS (RR := rA c) s q p fun vs ds ι1 m1 H1 s1 f1 r1 p1 => by
    have r1' : RepA c (fz S ι1 H1) ι1 vs ds := r1
    cases r1' with
    | nil => exact p1.elim
    | @cons v1 d1 vs1 ds1 k1 r2 =>
      cases r2 with
      | nil => exact p1.elim
      | @cons v2 d2 vs2 ds2 k2 r3 =>
        cases r3 with
        | nil => exact p1.elim
        | @cons v3 d3 vs3 ds3 k3 r4 =>
          cases r4 with
          | nil => exact ⟨v1, v2, v3, rfl, p1 _ ι1 H1 s1 Fr.refl ((((q.fr f1).set i k1).set j k2).set l k3)⟩
          | cons k4 r5 => exact p1.elim
/-! int(b) -/
def gIntB : List D → Mem → R D := fun ds m => match ds with
  | [.int i] => .ok (.int i) m
  | [.bl b] => .ok (.int (if b then 1 else 0)) m
  | _ => .no
theorem sim_intB {c : Cc} : SimB c (fun xs H Q => (∃ i, xs = [.int i] ∧ Q (.int i) H) ∨ ∃ k, xs = [.bl k] ∧ Q (.int (if k then 1 else 0)) H) gIntB := fun E S ι mem H xs ds Q s r p => by
  unfold gIntB at p
  split at p
  · cases r with
    | cons a r =>
      cases r
      cases a
      exact .inl ⟨_, rfl, Post.here p s (Rep.int _)⟩
  · cases r with
    | cons a r =>
      cases r
      cases a
      exact .inr ⟨_, rfl, Post.here p s (Rep.int _)⟩
  · exact p.elim
end Mi
end
section
set_option Elab.async false
set_option linter.all false
set_option maxRecDepth 100000
set_option maxHeartbeats 4000000
/-! set(xs) for texts: how many there are (the library's call_set_list is for ints, its call_set_listS for one text; the way through the calls is theirs) -/
namespace MeT
open PySem PySem.Spec PyProof.Rows
/-- a text is met -/
def meet (acc : List Str) (x : Str) : List Str := if acc.any (· == x) then acc else acc ++ [x]
/-- the texts, each once -/
def once (xs : List Str) : List Str := xs.foldl meet []
theorem once_snoc {xs : List Str} {x : Str} : once (xs ++ [x]) = meet (once xs) x := by
  unfold once
  rw [List.foldl_append]
  rfl
theorem meet_any {acc : List Str} {x y : Str} : (meet acc x).any (· == y) = (acc.any (· == y) || decide (y = x)) := by
  unfold meet
  by_cases h : acc.any (· == x) = true
  · rw [if_pos h]
    by_cases e : y = x
    · rw [e, h, Bool.true_or]
    · rw [decide_eq_false e, Bool.or_false]
  · rw [if_neg h, List.any_append]
    by_cases e : y = x
    · simp [e]
    · have : (x == y) = false := beq_eq_false_iff_ne.mpr fun z => e z.symm
      simp [e, this]
theorem meet_len {acc : List Str} {x : Str} : (meet acc x).length = if acc.any (· == x) = true then acc.length else acc.length + 1 := by
  unfold meet
  split
  · rfl
  · rw [List.length_append]
    rfl
theorem once_len : ∀ (n : Nat) (xs : List Str), xs.length = n → (once xs).length ≤ n
  | 0, xs, h => by
    rw [List.length_eq_zero_iff.mp h]
    exact Nat.le_refl _
  | n + 1, xs, h => by
    obtain ⟨ys, y, rfl⟩ : ∃ ys y, xs = ys ++ [y] := ⟨xs.dropLast, xs.getLast (fun z => by rw [z] at h; cases h), (List.dropLast_concat_getLast _).symm⟩
    rw [List.length_append] at h
    have ih := once_len n ys (Nat.succ.inj h)
    rw [once_snoc, meet_len]
    split <;> omega
section
variable {prog : Program} {w : World} {A : Around} {R : Result → Shared → Prop} {I : Addr} {fp wr : List Addr} {G : Array GenState → Array GenState → Prop} {n : Nat} {P : Nat → Value → Prop} {St : Nat → Shared → Prop}
abbrev Met (prog : Program) (w : World) (h : Heap) (S : Addr) (xs : List Str) : Prop := h.SetOf (PySem.strKind prog w) S (fun k => (once xs).any (· == k)) (once xs).length
theorem meetAll (W : WalksS prog w A.in1 I fp wr G n P St) {S : Addr} (hS : S ∉ fp) {xs : List Str} (hn : xs.length = n) (hb : n + 1 < scanBound) (hv : ∀ i v, P i v → ∃ x t, xs[i]? = some x ∧ v = .str x t) :
    ∀ (k i : Nat) (s : Shared), n - i = k → i ≤ n → St i s → Met prog w s.heap S (xs.take i) → (∀ s', Moved (S :: wr) G s s' → Met prog w s'.heap S xs → R (.ok (.ret .none)) s') →
      codeAny (model prog w) A (.builtin "set.update.loop" ⟨[.ref S, .ref I], []⟩) R s := by
  have nw : S ∉ wr := fun h => hS (W.sub _ h)
  have up : ∀ b ∈ wr, b ∈ S :: wr := fun b h => List.mem_cons_of_mem _ h
  have carry : ∀ {s s' : Shared} {ys : List Str}, Moved wr G s s' → Met prog w s.heap S ys → Met prog w s'.heap S ys := fun {s s' ys} m ⟨o, es, ep, t, ho, r⟩ => ⟨o, es, ep, t, m.heap S _ nw ho, r⟩
  intro k
  induction k with
  | zero =>
    intro i s hk hi hst hm hR
    have e : i = n := by omega
    refine codeAny_builtin PyProof.Rows.F.entry_set_update_loop ?_
    rw [Around.under_plainId PyProof.Rows.F.plain_set_update_loop _]
    refine wpAny_bind (m := pyNext (.ref I)) (W.done s _ _ (e ▸ hst) fun s' mv => wpAny_pure (hR s' (mv.mono up) ?_))
    rw [List.take_of_length_le (by omega)] at hm
    exact carry mv hm
  | succ k ih =>
    intro i s hk hi hst hm hR
    have lt : i < n := by omega
    refine codeAny_builtin PyProof.Rows.F.entry_set_update_loop ?_
    rw [Around.under_plainId PyProof.Rows.F.plain_set_update_loop _]
    refine wpAny_bind (m := pyNext (.ref I)) (W.item i s _ _ lt hst fun v s' hP hst' mv => ?_)
    obtain ⟨x, t, hx, rfl⟩ := hv i v hP
    have room : (once (xs.take i)).length + 1 < scanBound := by
      have := once_len _ (xs.take i) rfl
      rw [List.length_take] at this
      omega
    refine wpAny_bind (m := holding [Value.str x t] (setAdd S (.str x t))) (wpAny_holding ?_)
    unfold setAdd
    refine wpAny_holding (wpAny_bind ((PySem.strKind prog w).pyHash (k := x) (strKind_is _ _ _ _) ?_))
    refine wpAny_setAddHashed_of (knd := PySem.strKind prog w) (s := { s' with toks := s'.toks + 1 }) (strKind_is _ _ _ _) rfl (show Met prog w s'.heap S (xs.take i) from carry mv hm) room fun h1 sb hm1 => ?_
    have tk : xs.take (i + 1) = xs.take i ++ [x] := by
      rw [List.take_add_one, hx]
      rfl
    have hm2 : Met prog w h1 S (xs.take (i + 1)) := by
      rw [tk]
      refine SetOf_congr hm1 (fun y => ?_) ?_
      · rw [once_snoc, meet_any]
      · rw [once_snoc, meet_len]
    refine wpAny_pure ⟨plainId_quiet PyProof.Rows.F.plain_set_update_loop _, ih (i + 1) _ (by omega) lt (W.frame _ s' _ _ hst' (Nat.le_succ _) fun b hb o q => (sb.2 b fun z => hS (z ▸ hb)).trans q) hm2 fun s2 mv2 hm3 => hR s2 (Moved.trans W.gtrans ((mv.mono up).then_heap (Nat.le_succ _) fun b o hb q => (sb.2 b fun z => hb (z ▸ List.mem_cons_self)).trans q) mv2) hm3⟩
end
section
variable {prog : Program} {w : World} {A : Around} {E : Value → Shared → Prop} {s : Shared}
abbrev newSet (led : Bool) : Obj := { cls := .type "set", dict := none, data := .set #[] 0 (.fresh 0 0 led) }
theorem set_list {l : Addr} {items : Array Value} {xs : List Str} {Q : Value → Shared → Prop} (hh : A.handled = none) (hl : s.heap.IsList l items) (hv : ∀ (i : Nat) (v : Value), items[i]? = some v → ∃ x t, xs[i]? = some x ∧ v = Value.str x t) (hn : xs.length = items.size) (hb : items.size + 1 < scanBound)
    (h : ∀ (h' : Heap) (tk : Nat), Met prog w h' s.heap.objs.size xs → (∀ b o, s.heap.get? b = some o → h'.get? b = some o) → Q (.ref s.heap.objs.size) { s with heap := h', toks := tk }) : wpAny (model prog w) A (call (.type "set") [.ref l]) Q E s := by
  have C := PySem.F.called_set
  obtain ⟨⟨c, tl, hmro⟩, hmade, hsub, h1, h2, hct⟩ := And.intro C.mro (And.intro C.made (And.intro C.sub (And.intro C.notType (And.intro C.canCreate (PySem.F.typeCall_set_1 (.ref l))))))
  refine wpAny_call (codeAny_of_tree (show wpAny _ _ (callAny (.type "set") _) _ _ _ from wpAny_pure ⟨Code.quiet_builtin _ (by decide +kernel), codeAny_builtin PySem.F.entry_type_call ?_⟩))
  rw [Around.under_plain (weight_type_call_type "set" [Value.ref l] []) rfl]
  repeat (any_goals (first | wp_step | assumption))
  refine codeAny_mono (code_set_new_1 (.ref l) (E := E) (Q₁ := fun obj s1 => ∃ led : Bool, obj = .ref s.heap.objs.size ∧ s1 = { s with heap := s.heap.push (newSet led) }) fun led => ⟨led, rfl, rfl⟩) fun r s1 hr => ?_
  match r, hr with
  | .error e, hr => exact hr
  | .ok (.ret obj), hr =>
    obtain ⟨led, rfl, rfl⟩ := hr
    have hS : (s.heap.push (newSet led)).get? s.heap.objs.size = some (newSet led) := Heap.get?_push_size _ rfl
    have hT : Shared.TypeIs { s with heap := s.heap.push (newSet led) } (.ref s.heap.objs.size) "set" := ⟨_, hS, rfl⟩
    obtain ⟨hli, hbi⟩ := And.intro C.init.lookup (C.init.bind (.ref s.heap.objs.size))
    repeat (any_goals (first | wp_step | assumption))
    refine codeAny_mono (codeAny_call_builtin (R := wants (fun r s2 => r = .none ∧ ∃ h' tk, s2 = { s with heap := h', toks := tk } ∧ Met prog w h' s.heap.objs.size xs ∧ ∀ b o, s.heap.get? b = some o → h'.get? b = some o) E) PySem.F.called_set.init.plain PySem.F.entry_set_init (check_set_init_1 hT ?_)) fun r2 s2 hr2 => ?_
    · obtain ⟨⟨oc, od, oda, os⟩, hol, hcl, nl, hdl⟩ := hl
      simp only at hcl hdl
      subst hcl hdl
      have hol' : (s.heap.push (newSet led)).get? l = some { cls := .type "list", dict := od, data := .seq items nl, slots := os } := Heap.get?_push_of_some _ hol
      obtain ⟨hsls, hslf, hne⟩ := And.intro PySem.F.sub_list_set (And.intro PySem.F.sub_list_frozenset (show (Value.type "list" == Value.type "dict") = false by decide))
      have hl1 : (s.heap.push (newSet led)).IsList l items := ⟨_, hol', rfl, nl, rfl⟩
      unfold Builtin.«set.__init__» Builtin.Frozenset.updateFrom noKeywords
      generalize hPI : pyIter = PI
      wp_walk
      subst hPI
      refine wpAny_pyIter_list hl1 (wpAny_bind (wpAny_runValue ?_))
      have hlS := Heap.lt_size hol
      have sz : (s.heap.push (newSet led)).objs.size = s.heap.objs.size + 1 := Heap.size_push ..
      refine meetAll ((Walks.list (A := A.in1.in1.in1) (by simp [hh]) _ l (by rw [sz]; exact Nat.ne_of_lt (Nat.lt_succ_of_lt hlS)) items).toS) (S := s.heap.objs.size) (by rw [sz]; simp only [List.mem_cons, List.not_mem_nil, or_false, not_or]; exact ⟨Nat.ne_of_lt (Nat.lt_succ_self _), Nat.ne_of_gt hlS⟩) hn hb hv (items.size - 0) 0 _ (by omega) (Nat.zero_le _) ⟨⟨_, Heap.get?_push_size _ rfl, rfl, rfl⟩, (hl1.push _)⟩ ?_ fun s' mv hm => ?_
      · exact SetOf_congr ((setObjOf_fresh (knd := PySem.strKind prog w) led).setOf (Heap.get?_push_of_some _ hS) (by unfold scanBound; omega)) (fun _ => rfl) rfl
      · rcases s' with ⟨h', g', d', tk', os'⟩
        obtain ⟨rfl, rfl, rfl⟩ := And.intro (show g' = s.gens from mv.gens) (And.intro (show d' = s.drawn from mv.drawn) (show os' = s.os from mv.os))
        refine wpAny_pure (wpAny_pure ⟨rfl, h', tk', rfl, hm, fun b o e => ?_⟩)
        have hlt := Heap.lt_size e
        exact mv.heap b o (by rw [sz]; simp only [List.mem_cons, List.not_mem_nil, or_false, not_or]; exact ⟨Nat.ne_of_lt hlt, Nat.ne_of_lt (Nat.lt_succ_of_lt hlt)⟩) (Heap.get?_push_of_some _ (Heap.get?_push_of_some _ e))
    · match r2, hr2 with
      | .error e, hr2 => exact hr2
      | .ok (.ret r), hr2 =>
        obtain ⟨rfl, h', tk, rfl, hm, hk⟩ := hr2
        repeat (any_goals (first | wp_step | assumption))
        exact h _ _ hm hk
theorem set_tuple {l : Addr} {items : Array Value} {xs : List Str} {Q : Value → Shared → Prop} (hh : A.handled = none) (hl : s.heap.IsTuple l items) (hv : ∀ (i : Nat) (v : Value), items[i]? = some v → ∃ x t, xs[i]? = some x ∧ v = Value.str x t) (hn : xs.length = items.size) (hb : items.size + 1 < scanBound)
    (h : ∀ (h' : Heap) (tk : Nat), Met prog w h' s.heap.objs.size xs → (∀ b o, s.heap.get? b = some o → h'.get? b = some o) → Q (.ref s.heap.objs.size) { s with heap := h', toks := tk }) : wpAny (model prog w) A (call (.type "set") [.ref l]) Q E s := by
  have C := PySem.F.called_set
  obtain ⟨⟨c, tl, hmro⟩, hmade, hsub, h1, h2, hct⟩ := And.intro C.mro (And.intro C.made (And.intro C.sub (And.intro C.notType (And.intro C.canCreate (PySem.F.typeCall_set_1 (.ref l))))))
  refine wpAny_call (codeAny_of_tree (show wpAny _ _ (callAny (.type "set") _) _ _ _ from wpAny_pure ⟨Code.quiet_builtin _ (by decide +kernel), codeAny_builtin PySem.F.entry_type_call ?_⟩))
  rw [Around.under_plain (weight_type_call_type "set" [Value.ref l] []) rfl]
  repeat (any_goals (first | wp_step | assumption))
  refine codeAny_mono (code_set_new_1 (.ref l) (E := E) (Q₁ := fun obj s1 => ∃ led : Bool, obj = .ref s.heap.objs.size ∧ s1 = { s with heap := s.heap.push (newSet led) }) fun led => ⟨led, rfl, rfl⟩) fun r s1 hr => ?_
  match r, hr with
  | .error e, hr => exact hr
  | .ok (.ret obj), hr =>
    obtain ⟨led, rfl, rfl⟩ := hr
    have hS : (s.heap.push (newSet led)).get? s.heap.objs.size = some (newSet led) := Heap.get?_push_size _ rfl
    have hT : Shared.TypeIs { s with heap := s.heap.push (newSet led) } (.ref s.heap.objs.size) "set" := ⟨_, hS, rfl⟩
    obtain ⟨hli, hbi⟩ := And.intro C.init.lookup (C.init.bind (.ref s.heap.objs.size))
    repeat (any_goals (first | wp_step | assumption))
    refine codeAny_mono (codeAny_call_builtin (R := wants (fun r s2 => r = .none ∧ ∃ h' tk, s2 = { s with heap := h', toks := tk } ∧ Met prog w h' s.heap.objs.size xs ∧ ∀ b o, s.heap.get? b = some o → h'.get? b = some o) E) PySem.F.called_set.init.plain PySem.F.entry_set_init (check_set_init_1 hT ?_)) fun r2 s2 hr2 => ?_
    · obtain ⟨⟨oc, od, oda, os⟩, hol, hcl, nl, hdl⟩ := hl
      simp only at hcl hdl
      subst hcl hdl
      have hol' : (s.heap.push (newSet led)).get? l = some { cls := .type "tuple", dict := od, data := .seq items nl, slots := os } := Heap.get?_push_of_some _ hol
      obtain ⟨hsls, hslf, hne⟩ := And.intro PySem.F.sub_tuple_set (And.intro PySem.F.sub_tuple_frozenset (show (Value.type "tuple" == Value.type "dict") = false by decide))
      have hl1 : (s.heap.push (newSet led)).IsTuple l items := ⟨_, hol', rfl, nl, rfl⟩
      unfold Builtin.«set.__init__» Builtin.Frozenset.updateFrom noKeywords
      generalize hPI : pyIter = PI
      wp_walk
      subst hPI
      refine wpAny_pyIter_tuple hl1 (wpAny_bind (wpAny_runValue ?_))
      have hlS := Heap.lt_size hol
      have sz : (s.heap.push (newSet led)).objs.size = s.heap.objs.size + 1 := Heap.size_push ..
      refine meetAll ((Walks.tuple (A := A.in1.in1.in1) (by simp [hh]) _ l (by rw [sz]; exact Nat.ne_of_lt (Nat.lt_succ_of_lt hlS)) items).toS) (S := s.heap.objs.size) (by rw [sz]; simp only [List.mem_cons, List.not_mem_nil, or_false, not_or]; exact ⟨Nat.ne_of_lt (Nat.lt_succ_self _), Nat.ne_of_gt hlS⟩) hn hb hv (items.size - 0) 0 _ (by omega) (Nat.zero_le _) ⟨⟨_, Heap.get?_push_size _ rfl, rfl, rfl⟩, (hl1.push _)⟩ ?_ fun s' mv hm => ?_
      · exact SetOf_congr ((setObjOf_fresh (knd := PySem.strKind prog w) led).setOf (Heap.get?_push_of_some _ hS) (by unfold scanBound; omega)) (fun _ => rfl) rfl
      · rcases s' with ⟨h', g', d', tk', os'⟩
        obtain ⟨rfl, rfl, rfl⟩ := And.intro (show g' = s.gens from mv.gens) (And.intro (show d' = s.drawn from mv.drawn) (show os' = s.os from mv.os))
        refine wpAny_pure (wpAny_pure ⟨rfl, h', tk', rfl, hm, fun b o e => ?_⟩)
        have hlt := Heap.lt_size e
        exact mv.heap b o (by rw [sz]; simp only [List.mem_cons, List.not_mem_nil, or_false, not_or]; exact ⟨Nat.ne_of_lt hlt, Nat.ne_of_lt (Nat.lt_succ_of_lt hlt)⟩) (Heap.get?_push_of_some _ (Heap.get?_push_of_some _ e))
    · match r2, hr2 with
      | .error e, hr2 => exact hr2
      | .ok (.ret r), hr2 =>
        obtain ⟨rfl, h', tk, rfl, hm, hk⟩ := hr2
        repeat (any_goals (first | wp_step | assumption))
        exact h _ _ hm hk
end
end MeT
end
section
set_option Elab.async false
set_option linter.all false
set_option maxRecDepth 100000
set_option maxHeartbeats 4000000
/-! len(set(texts)), == and != of lists of the very same things -/
namespace Mi
open PySem PySem.Spec PyProof.Rows L2 Evl MeV MeG MeD MeH MeL LamX MeO
def strD : D → Option Str
  | .str x => some x
  | _ => none
/-- the items of a list or a tuple -/
def seqD (m : Mem) (d : D) : Option (List D) := match d with
  | .tup ds => some ds
  | _ => listOf m d
def gLenSet : D → Mem → R D := fun d m => match seqD m d with
  | some ds => match optL strD ds with
    | some xs => bif Nat.ble xs.length 1000 then .ok (.int (MeT.once xs).length) m else .no
    | none => .no
  | none => .no
theorem seqD_ok {c : Cc} {S : Wv} {ι : List Addr} {m : Mem} {H : Hp} {x : V} {d : D} {ds : List D} (s : SR c S ι m H) (r : Rep c (fz S ι H) ι x d) (e : seqD m d = some ds) : ∃ a xs, x = .ref a ∧ (SqL c.K H a xs ∨ SqT c.K H a xs) ∧ RepA c (fz S ι H) ι xs ds := by
  cases d with
  | tup es =>
    cases e
    cases r with
    | tup h1 h2 => exact ⟨_, _, rfl, .inr (ex_t fz_sub h1), h2⟩
  | _ =>
    obtain ⟨a, xs, h1, h2, h3⟩ := listOf_ok s r e
    exact ⟨a, xs, h1, .inl h2, h3⟩
theorem strs_at {c : Cc} {h : Hp} {ι : List Addr} {vs : List V} {ds : List D} {xs : List Str} {us : List Value} (r : RepA c h ι vs ds) (e : optL strD ds = some xs) (v : Vals vs us) : ∀ (i : Nat) (u : Value), us.toArray[i]? = some u → ∃ x t, xs[i]? = some x ∧ u = Value.str x t := fun i u hu => by
  rw [List.getElem?_toArray] at hu
  have hl : i < ds.length := by
    rw [← r.len, v.length]
    exact (List.getElem?_eq_some_iff.mp hu).1
  obtain ⟨y, h1, h2⟩ := r.get (List.getElem?_eq_getElem hl)
  obtain ⟨u', h3, h4⟩ := v.get h1
  rw [hu] at h3
  cases h3
  obtain ⟨x, h5, h6⟩ := optL_get e (List.getElem?_eq_getElem hl)
  generalize hq : ds[i] = q at h2 h5
  cases h2 <;> try (cases h5; done)
  cases h5
  obtain ⟨t, rfl⟩ := h4
  exact ⟨x, t, h6, rfl⟩
section
variable {X : Cx} {L : Cl} {E : SX} {a : Expr} {x : ME} {p p2 q pos : Pos}
theorem m_lenSet (hc : X.calm = true) (hg : Gl X "len") (hm : X.mg "len" = none) (hg2 : Gl X "set") (hm2 : X.mg "set" = none) (ha : PE X a (tM (cX X L) E x)) (na : starEach [a] X.env = (false, eval a X.env) :: starEach [] X.env := by rfl) :
    PE X (.Call (.Name "len" p) [.Call (.Name "set" p2) [a] [] q] [] pos) (tM (cX X L) E (mUn gLenSet x)) := by
  refine PE.weak (t := fun σ H Q => tM (cX X L) E x σ H fun v H1 => ∃ S ι mem d, SR (cX X L) S ι mem H1 ∧ Rep (cX X L) (fz S ι H1) ι v d ∧ Post (cX X L) (E σ) S ι H1 (rD (cX X L)) (gLenSet d mem) Q) ⟨fun pins s σ H Q I h => ?_⟩ fun σ H Q ⟨S, ι, mem, sl, s, q, p⟩ => run1 (RR := rD (cX X L)) s q p fun v d ι1 m1 H1 s1 f1 r1 w => ⟨S, ι1, m1, d, s1, r1, w⟩
  refine Call_ (ld_blt I hg hm boot_len (PyProof.Rows.callWith_builtin1 (PyProof.Rows.args_cons (Call_ (ld_blt I hg2 hm2 boot_set ?_)) rfl) rfl rfl))
  refine PyProof.Rows.callWith_type1 (PyProof.Rows.args_cons (thn (ha.run pins s σ H _ I h) fun v s1 ⟨y, H1, I1, r1, q1⟩ => PyProof.Rows.args_nil ?_) na) na rfl
  obtain ⟨S, ι, mem, d, sr, rd, post⟩ := q1
  unfold gLenSet at post
  cases hd : seqD mem d with
  | none => rw [hd] at post; exact post.elim
  | some ds =>
    rw [hd] at post
    dsimp only at post
    cases hx : optL strD ds with
    | none => rw [hx] at post; exact post.elim
    | some xs =>
      rw [hx] at post
      dsimp only at post
      cases hb : Nat.ble xs.length 1000 with
      | false => rw [hb] at post; exact post.elim
      | true =>
        rw [hb] at post
        have hb' := Nat.le_of_ble_eq_true hb
        obtain ⟨l, vs, rfl, hq, rv⟩ := seqD_ok sr rd hd
        obtain rfl := r1
        have hl : xs.length = vs.length := (optL_len hx).trans rv.len.symm
        have fin : ∀ (h' : Heap) (tk : Nat), MeT.Met X.prog X.w h' s1.heap.objs.size xs → (∀ b o, s1.heap.get? b = some o → h'.get? b = some o) →
            wpAny (model X.prog X.w) X.A (spliced (backTo pos (starEach [] X.env))) (fun vs s₂ => wpAny (model X.prog X.w) X.A (call (.builtin "len") (Value.ref s1.heap.objs.size :: vs)) (EP X pins σ Q) X.xe s₂) X.xe { s1 with heap := h', toks := tk } := fun h' tk hS hk => by
          refine PyProof.Rows.args_nil ?_
          obtain ⟨o, es, ep, t, ho, hex, hd, _, _, hsz, hf, hn⟩ := hS
          have I2 : Inv X pins σ H1 { s1 with heap := h', toks := tk } := I1.kept hk
          have hol := MeT.once_len _ xs rfl
          exact call_len_set ho hex hd hf (by rw [hn]; omega) ⟨.int (MeT.once xs).length, H1, I2.tok _, ⟨_, by rw [hn]⟩, Post.here post sr (Rep.int _)⟩
        rcases hq with hq | hq
        · obtain ⟨its, r, pl, hz⟩ := I1.list hq
          have hz' : xs.length = its.toArray.size := by rw [hl, List.size_toArray, r.length]
          exact MeT.set_list (I1.ok.hd hc) pl.isList (strs_at rv hx r) hz' (by rw [← hz']; unfold scanBound; omega) fin
        · obtain ⟨its, r, pl, hz⟩ := I1.tuple hq
          have hz' : xs.length = its.toArray.size := by rw [hl, List.size_toArray, r.length]
          exact MeT.set_tuple (I1.ok.hd hc) pl (strs_at rv hx r) hz' (by rw [← hz']; unfold scanBound; omega) fin
end
/-! two lists of the very same things -/
def sameR : List D → List D → Bool
  | [], [] => true
  | .ref i :: ds, .ref j :: es => Nat.beq i j && sameR ds es
  | _, _ => false
def gSame (neg : Bool) : D → D → Mem → R D := fun a b m => match listOf m a, listOf m b with
  | some ds, some es => bif sameR ds es then .ok (.bl (!neg)) m else .no
  | _, _ => .no
theorem same_vals {c : Cc} {h : Hp} {ι : List Addr} : ∀ {ds es : List D} {xs ys : List V} {us ws : List Value}, RepA c h ι xs ds → RepA c h ι ys es → sameR ds es = true → Vals xs us → Vals ys ws → us = ws
  | _, _, _, _, _, _, .nil, .nil, _, .nil, .nil => rfl
  | _, _, _, _, _, _, .nil, .cons _ _, e, _, _ => by cases e
  | _, _, _, _, _, _, .cons a _, .nil, e, _, _ => by
    cases a <;> cases e
  | _, _, _, _, _, _, .cons a r, .cons b t, e, .cons p v, .cons q w => by
    cases a <;> try (cases e; done)
    cases b <;> try (cases e; done)
    rename_i i a1 h1 j a2 h2
    obtain ⟨e1, e2⟩ := Bool.and_eq_true_iff.mp (show (Nat.beq i j && sameR _ _) = true from e)
    have ij := Nat.eq_of_beq_eq_true e1
    subst ij
    rw [h1] at h2
    cases h2
    obtain rfl := p
    obtain rfl := q
    rw [same_vals r t e2 v w]
section
variable {prog : Program} {w : World} {A : Around} {E : Value → Shared → Prop} {s : Shared}
/-- != of two lists whose items are the same -/
theorem ne_lists {l b : Addr} {its : Array Value} {Q : Value → Shared → Prop} (hl : s.heap.IsList l its) (hb : s.heap.IsList b its) (hu : A.units < cLine) (h : Q (.bool false) s) : wpAny (model prog w) A (richCompare .NotEq (.ref l) (.ref b)) Q E s := by
  obtain ⟨⟨c1, d1, da1, sl1⟩, ho1, hc1, n1, hd1⟩ := hl
  obtain ⟨⟨c2, d2, da2, sl2⟩, ho2, hc2, n2, hd2⟩ := hb
  simp only at hc1 hd1 hc2 hd2
  subst hc1 hd1 hc2 hd2
  refine wpAny_richCompare_same_room (op := .NotEq) ⟨_, ho1, rfl⟩ ⟨_, ho2, rfl⟩ F.slot_list_ne (call_meets F.slot_list_ne ⟨_, ho1, rfl⟩ F.entry_list_ne (F.args_list_ne_2 _ _) (SeqAt.list_neAt l b its its n1 n2 d1 d2 sl1 sl2 rfl fun _ => true) ⟨ho1, ho2, fun j h1 h2 => SeqAt.EqAt.same _, ?_⟩) hu
  have e : ((List.range its.size).all fun _ => true) = true := List.all_eq_true.mpr fun _ _ => rfl
  rw [e]
  exact ⟨(fun z => nomatch z), h⟩
end
section
variable {X : Cx} {L : Cl}
theorem same_at {neg : Bool} {pins : List (Addr × Obj)} {s : Shared} {σ : L2.St} {H : Hp} {x y : V} {v u : Value} {Q : VK} {E : XK} {S : Wv} {ι : List Addr} {mem : Mem} {d1 d2 : D} (I : Inv X pins σ H s) (rx : RelV x v) (ry : RelV y u) (sr : SR (cX X L) S ι mem H) (r1 : Rep (cX X L) (fz S ι H) ι x d1) (r2 : Rep (cX X L) (fz S ι H) ι y d2)
    (p : Post (cX X L) E S ι H (rD (cX X L)) (gSame neg d1 d2 mem) Q) : ∃ a b its, v = .ref a ∧ u = .ref b ∧ s.heap.IsList a its ∧ s.heap.IsList b its ∧ Q (.bl (!neg)) H := by
  unfold gSame at p
  cases h1 : listOf mem d1 with
  | none => rw [h1] at p; exact p.elim
  | some ds =>
    cases h2 : listOf mem d2 with
    | none => rw [h1, h2] at p; exact p.elim
    | some es =>
      rw [h1, h2] at p
      dsimp only at p
      cases hs : sameR ds es with
      | false => rw [hs] at p; exact p.elim
      | true =>
        rw [hs] at p
        obtain ⟨a, xs, rfl, q1, k1⟩ := listOf_ok sr r1 h1
        obtain ⟨b, ys, rfl, q2, k2⟩ := listOf_ok sr r2 h2
        obtain rfl := rx
        obtain rfl := ry
        obtain ⟨us, v1, p1, _⟩ := I.list q1
        obtain ⟨ws, v2, p2, _⟩ := I.list q2
        obtain rfl := same_vals k1 k2 hs v1 v2
        exact ⟨a, b, _, rfl, rfl, p1.isList, p2.isList, Post.here p sr (Rep.bl _)⟩
theorem op_sameNe (hu : X.A.units < cLine) : OpR X (compareOp .NotEq) (rG2 (cX X L) (gSame true)) := fun pins s σ H x y v u Q I rx ry ⟨E, S, ι, mem, d1, d2, sr, r1, r2, p⟩ => by
  obtain ⟨a, b, its, rfl, rfl, h1, h2, q⟩ := same_at I rx ry sr r1 r2 p
  exact ne_lists h1 h2 hu ⟨.bl false, H, I, rfl, q⟩
theorem op_sameEq (hu : X.A.units < cLine) : OpR X (compareOp .Eq) (rG2 (cX X L) (gSame false)) := fun pins s σ H x y v u Q I rx ry ⟨E, S, ι, mem, d1, d2, sr, r1, r2, p⟩ => by
  obtain ⟨a, b, its, rfl, rfl, h1, h2, q⟩ := same_at I rx ry sr r1 r2 p
  refine SeqAt.rcP_lists (e := fun _ => true) h1 h2 rfl hu (fun j _ _ => (SeqAt.EqAt.same _).eqP) _ _ ⟨.bl true, H, I, ?_, q⟩
  have e : ((List.range its.size).all fun _ => true) = true := List.all_eq_true.mpr fun _ _ => rfl
  rw [e]
  rfl
end
end Mi
end
section
set_option Elab.async false
set_option linter.all false
set_option maxRecDepth 100000
set_option maxHeartbeats 4000000
/-! defs that know other lambdas than their callers; the law's own call -/
namespace Mi
open PySem PySem.Spec PyProof.Rows L2 Evl MeV MeG MeD MeH MeL LamX MeO
/-- the same world, classes and tables -/
structure Kin (c c2 : Cc) : Prop where
  w : c.w = c2.w
  K : c.K = c2.K
  cls : c.L.cls = c2.L.cls
  tabs : c.L.tabs = c2.L.tabs
section
variable {c c2 : Cc} {h h' : Hp} {ι ι' : List Addr} {m : Mem} {f : D → Option D}
theorem fr_A2 (k : ∀ v d d', Rep c h ι v d → f d = some d' → Rep c2 h' ι' v d') : ∀ {vs : List V} {ds ds' : List D}, RepA c h ι vs ds → optL f ds = some ds' → RepA c2 h' ι' vs ds'
  | _, _, _, .nil, e => by
    cases e
    exact .nil
  | _, _, _, .cons a r, e => by
    obtain ⟨b, h1, h2⟩ := Option.bind_eq_some_iff.mp e
    obtain ⟨bs, h3, h4⟩ := Option.map_eq_some_iff.mp h2
    cases h4
    exact .cons (k _ _ _ a h1) (fr_A2 k r h3)
theorem fr_K2 (k : ∀ v d d', Rep c h ι v d → f d = some d' → Rep c2 h' ι' v d') : ∀ {vs : List MeD.EntV} {ds ds' : List (D × D)}, RepK c h ι vs ds → optL (frzK f) ds = some ds' → RepK c2 h' ι' vs ds'
  | _, _, _, .nil, e => by
    cases e
    exact .nil
  | _, _, _, .cons z q a r, e => by
    obtain ⟨b, h1, h2⟩ := Option.bind_eq_some_iff.mp e
    obtain ⟨bs, h3, h4⟩ := Option.map_eq_some_iff.mp h2
    obtain ⟨d', h5, h6⟩ := Option.bind_eq_some_iff.mp h1
    cases h4
    split at h6
    · rename_i hz
      obtain ⟨d2, h7, h8⟩ := Option.map_eq_some_iff.mp h6
      cases h8
      exact .cons (hz.trans z) (k _ _ _ q h5) (k _ _ _ a h7) (fr_K2 k r h3)
    · cases h6
theorem fr_F2 (k : ∀ v d d', Rep c h ι v d → f d = some d' → Rep c2 h' ι' v d') : ∀ {vs : List (Str × V)} {ds ds' : List (Str × D)}, RepF c h ι vs ds → optL (fun p => (f p.2).map (p.1, ·)) ds = some ds' → RepF c2 h' ι' vs ds'
  | _, _, _, .nil, e => by
    cases e
    exact .nil
  | _, _, _, .cons a r, e => by
    obtain ⟨b, h1, h2⟩ := Option.bind_eq_some_iff.mp e
    obtain ⟨bs, h3, h4⟩ := Option.map_eq_some_iff.mp h2
    obtain ⟨d', h5, h6⟩ := Option.map_eq_some_iff.mp h1
    cases h4
    cases h6
    exact .cons (k _ _ _ a h5) (fr_F2 k r h3)
theorem Kin.cl (k : Kin c c2) (n : Nat) : c2.cl n = c.cl n := by
  show c2.L.cls n = c.L.cls n
  rw [k.cls]
/-- a frozen thing holds no lambda and no error: another def knows it as well -/
theorem frz_ok2 (kn : Kin c c2) (he : Ex h h') (hm : ∀ (n : Nat) (a : Addr) (o : MO), ι[n]? = some a → m[n]? = some o → ∃ O, h' a = some O ∧ RepO c h ι a o O) :
    ∀ (n : Nat) (v : V) (d d' : D), Rep c h ι v d → frz m n d = some d' → Rep c2 h' ι' v d'
  | 0, _, _, _, _, e => by cases e
  | n + 1, v, d, d', r, e => by
    have ih := frz_ok2 kn he hm n
    have dicK : ∀ {a : Addr} {ep : Nat} {xs : List EntV} {ds : List (D × D)}, h' a = some (DicO c.w a ep xs) → RepK c2 h' ι' xs ds → Rep c2 h' ι' (.ref a) (.dic ds) := fun {a ep xs ds} h1 h2 => .dic (by rw [← kn.w]; exact h1) h2
    have objK : ∀ {a dx : Addr} {k : Nat} {fs : List (Str × V)} {ds : List (Str × D)}, h' a = some (.ins (c.cl k) dx fs) → RepF c2 h' ι' fs ds → Rep c2 h' ι' (.ref a) (.obj k ds) := fun {a dx k fs ds} h1 h2 => .obj (by rw [kn.cl]; exact h1) h2
    cases r with
    | non => cases e; exact .non
    | bl b => cases e; exact .bl b
    | int i => cases e; exact .int i
    | str x => cases e; exact .str x
    | ty x => cases e; exact .ty x
    | cls k =>
      cases e
      rw [← kn.cl]
      exact .cls k
    | err _ _ _ => cases e
    | clo _ _ _ => cases e
    | tup s q =>
      obtain ⟨ds, h1, h2⟩ := Option.map_eq_some_iff.mp e
      cases h2
      exact .tup (by rw [← kn.K]; exact ex_t he s) (fr_A2 ih q h1)
    | lst s q =>
      obtain ⟨ds, h1, h2⟩ := Option.map_eq_some_iff.mp e
      cases h2
      exact .lst (he _ _ s) (fr_A2 ih q h1)
    | scr s q =>
      obtain ⟨ds, h1, h2⟩ := Option.map_eq_some_iff.mp e
      cases h2
      exact .scr (by rw [← kn.K]; exact ex_l he s) (fr_A2 ih q h1)
    | dic s q =>
      obtain ⟨ds, h1, h2⟩ := Option.map_eq_some_iff.mp e
      cases h2
      exact dicK (he _ _ s) (fr_K2 ih q h1)
    | obj s q =>
      obtain ⟨ds, h1, h2⟩ := Option.map_eq_some_iff.mp e
      cases h2
      exact objK (he _ _ s) (fr_F2 ih q h1)
    | ref hn =>
      rename_i i a
      have e' : (match m[i]? with
        | some (.lst ds) => (optL (frz m n) ds).map .lst
        | some (.dic _ kvs) => (optL (frzK (frz m n)) kvs).map .dic
        | some (.ins k fs) => (optL (fun p => (frz m n p.2).map (p.1, ·)) fs).map (.obj k)
        | none => none) = some d' := e
      cases hi : m[i]? with
      | none =>
        rw [hi] at e'
        cases e'
      | some o =>
        rw [hi] at e'
        obtain ⟨O, h1, h2⟩ := hm i a o hn hi
        cases h2 with
        | lst q =>
          obtain ⟨ds, h3, h4⟩ := Option.map_eq_some_iff.mp e'
          cases h4
          exact .lst h1 (fr_A2 ih q h3)
        | dic q =>
          obtain ⟨ds, h3, h4⟩ := Option.map_eq_some_iff.mp e'
          cases h4
          exact dicK h1 (fr_K2 ih q h3)
        | ins q =>
          obtain ⟨ds, h3, h4⟩ := Option.map_eq_some_iff.mp e'
          cases h4
          exact objK h1 (fr_F2 ih q h3)
end
section
variable {c c2 : Cc} {n N : Nat} {g : MF} {vs : List V} {H : Hp} {Q : VK} {E : XK}
theorem Kin.symm (k : Kin c c2) : Kin c2 c := ⟨k.w.symm, k.K.symm, k.cls.symm, k.tabs.symm⟩
theorem spM_pure2 (kn : Kin c c2) (hcap : c2.L.cap = []) (h : spM c n (pureF N g) vs H Q E) : spM c2 n g vs H Q E := by
  obtain ⟨S, ι, mem, ds, s, r, l, p⟩ := h
  unfold pureF at p
  split at p
  · rename_i ds' hds
    have s0 : SR c2 (keepW S ι H) [] [] H := ⟨⟨s.i, fun a ha => let ⟨O, h1, h0⟩ := s.has ha; ⟨O, h0, h1, h1⟩⟩, List.nodup_nil, rfl, fun k a o e => (by cases e), fun p hp => (by rw [hcap] at hp; cases hp), fun T h => (s.tb T (by rw [kn.tabs]; exact h)).keep⟩
    have r0 : RepA c2 (fz (keepW S ι H) [] H) [] vs ds' := by
      rw [fz_keep]
      exact fr_A2 (frz_ok2 (m := []) kn (Ex.refl _) (fun k a o _ e => by cases e) N) r hds
    refine ⟨keepW S ι H, [], [], ds', s0, r0, (optL_len hds).trans l, ?_⟩
    have back : ∀ {ι' m' H'}, SR c2 (keepW S ι H) ι' m' H' → Fr (keepW S ι H) [] H ι' H' → SR c S ι mem H' ∧ Fr S ι H ι H' := fun {ι' m' H'} s' f' => by
      have e1 : Ex (fz S ι H) (fz S ι H') := by
        have := f'.e
        rw [fz_keep] at this
        exact this.trans fz_keep2
      refine ⟨⟨s'.i.1, s.nd, s.len, fun k a o h1 h2 => ?_, fun p hp => (s.cap p hp).up e1 (List.prefix_refl _), s.tb⟩, ⟨List.prefix_refl _, e1⟩⟩
      obtain ⟨O, h3, h4⟩ := s.at_ k a o h1 h2
      obtain ⟨O', _, h5, h6⟩ := s'.i.2 a (List.mem_of_getElem? h1)
      rw [h3] at h5
      cases h5
      exact ⟨O, h6, h4.up e1 (List.prefix_refl _)⟩
    have see : ∀ {ι' m' H'}, SR c2 (keepW S ι H) ι' m' H' → ∀ (n : Nat) (a : Addr) (o : MO), ι'[n]? = some a → m'[n]? = some o → ∃ O, fz S ι H' a = some O ∧ RepO c2 (fz (keepW S ι H) ι' H') ι' a o O := fun {ι' m' H'} s' k a o h1 h2 => s'.at_ k a o h1 h2
    cases hg : g ds' [] with
    | no =>
      rw [hg] at p
      exact p.elim
    | ok d m =>
      rw [hg] at p
      dsimp only at p
      split at p
      · rename_i d' hd
        intro v ι' H' s' f' r'
        obtain ⟨s2, f2⟩ := back s' f'
        exact p v ι H' s2 f2 (frz_ok2 kn.symm fz_keep2 (see s') N _ _ _ r' hd)
      · exact p.elim
    | exc k fs m =>
      rw [hg] at p
      dsimp only at p
      split at p
      · rename_i fs' hd
        intro x ws ι' H' s' f' hx r'
        obtain ⟨s2, f2⟩ := back s' f'
        have := p x ws ι H' s2 f2 (fz_keep2 _ _ hx) (fr_F2 (frz_ok2 kn.symm fz_keep2 (see s') N) r' hd)
        rw [kn.cl]
        exact this
      · exact p.elim
  · exact p.elim
theorem fn_pure2 {P : Program} {w : World} {K : PySem.W.Frag} {mg : Str → Option Value} {base : Heap} {k : Nat} {f : Addr} {fd : FuncData} {ps : List Str} (N : Nat) (kn : Kin c c2) (hcap : c2.L.cap = []) (F : FnG P w K mg base (L2.CX P w) k f fd ps (spM c2 n g)) : FnG P w K mg base (L2.CX P w) k f fd ps (spM c n (pureF N g)) :=
  ⟨fun vs H Q E h => F.len vs H Q E (spM_pure2 kn hcap h), fun A outer s H args us vs Q E gd r e b v h => F.run A outer s H args us vs Q E gd r e b v (spM_pure2 kn hcap h)⟩
end
/-! the end of a law -/
section
variable {K : PySem.W.Frag}
theorem sq_noT {H : Hp} {a : Addr} {xs : List V} (h : SqL K H a xs) : SqL K (noT H) a xs := by
  rcases h with (h | ⟨o, h⟩) | h
  · exact .inl (.inl (noT_of h pl_lst.1))
  · exact .inl (.inr ⟨o, noT_of h (fun _ z => nomatch z)⟩)
  · exact .inr h
end
theorem end_M {c : Cc} {T : List (Addr × Str)} {mf : MF} {H : Hp} {a : Addr} {ns : List Int} {E : XK} (hT : c.L.tabs = some T) (hcap : c.L.cap = []) (h0 : ∀ p ∈ T, H p.1 = some (.tbl #[])) (hs : SqL c.K H a (ns.map V.int)) (h : ∃ m, mf [.scr (ns.map .int)] [] = .ok (.bl true) m) :
    spM c 1 mf [.ref a] H (fun v _ => v = .bl true) E := by
  have i0 : (tabW T).I H := fun p hp => ⟨#[], h0 p hp, trivial, fun _ _ z => nomatch z⟩
  have s0 : SR c (tabW T) [] [] H := ⟨i0, List.nodup_nil, rfl, fun k a o e => (by cases e), fun p hp => (by rw [hcap] at hp; cases hp), fun T' h => (by rw [hT] at h; cases h; exact tab_tab T)⟩
  have numb : ∀ (ns : List Int) {h : Hp} {ι : List Addr}, RepA c h ι (ns.map V.int) (ns.map D.int) := fun ns {h ι} => by
    induction ns with
    | nil => exact .nil
    | cons n ns ih => exact .cons (.int n) ih
  have hs1 : SqL c.K (fz (tabW T) [] H) a (ns.map V.int) := ex_l (fun b o q => fz_of (List.not_mem_nil) q) (sq_noT hs)
  obtain ⟨m, hm⟩ := h
  refine ⟨tabW T, [], [], [.scr (ns.map .int)], s0, .cons (.scr hs1 (numb ns)) .nil, rfl, ?_⟩
  rw [hm]
  intro v ι' H' s' f' r'
  cases r'
  rfl
end Mi
end
section
set_option Elab.async false
set_option linter.all false
set_option maxRecDepth 100000
set_option maxHeartbeats 4000000
/-! o[k] and k in o, whatever o is -/
namespace Mi
open PySem PySem.Spec PyProof.Rows L2 Evl MeV MeG MeD MeH MeL LamX MeO
section
variable {X : Cx} {L : Cl} {E : SX} {x y : ME} {a b : Expr} {pos : Pos}
def gIxU : D → D → Mem → R D := gOr gIxL (gOr gIxM (gOr gIxT (gOr gIxS gDGet)))
theorem m_ixU (hu : X.A.units + 9 < cLine) (ha : PE X a (tM (cX X L) E x)) (hb : PE X b (tM (cX X L) E y)) (hs : PlainIx b) : PE X (.Subscript a b pos) (tM (cX X L) E (mBin gIxU x y)) :=
  (pe_ix (IxR_or ix_list (IxR_or ix_list (IxR_or ix_tup (IxR_or ix_str (ix_dict (cl := L) hu))))) ha hb hs).weak (s_op (c := cX X L) (sim_or sim_ixL (sim_or sim_ixM (sim_or sim_ixT (sim_or sim_ixS sim_G2)))))
end
def gMax2 : List D → Mem → R D := fun ds m => match ds with
  | [.int i, .int j] => .ok (.int (if j > i then j else i)) m
  | _ => .no
def gMin2 : List D → Mem → R D := fun ds m => match ds with
  | [.int i, .int j] => .ok (.int (if j < i then j else i)) m
  | _ => .no
theorem two_ints {c : Cc} {h : Hp} {ι : List Addr} {xs : List V} {i j : Int} (r : RepA c h ι xs [.int i, .int j]) : xs = [.int i, .int j] := by
  cases r with
  | cons a r =>
    cases r with
    | cons b r =>
      cases r
      cases a
      cases b
      rfl
theorem sim_max2 {c : Cc} : SimB c (fun xs H Q => ∃ i j, xs = [.int i, .int j] ∧ Q (.int (if j > i then j else i)) H) gMax2 := fun E S ι mem H xs ds Q s r p => by
  unfold gMax2 at p
  split at p
  · exact ⟨_, _, two_ints r, Post.here p s (Rep.int _)⟩
  · exact p.elim
theorem sim_min2 {c : Cc} : SimB c (fun xs H Q => ∃ i j, xs = [.int i, .int j] ∧ Q (.int (if j < i then j else i)) H) gMin2 := fun E S ι mem H xs ds Q s r p => by
  unfold gMin2 at p
  split at p
  · exact ⟨_, _, two_ints r, Post.here p s (Rep.int _)⟩
  · exact p.elim
end Mi
end
section
set_option Elab.async false
set_option linter.all false
set_option maxRecDepth 100000
set_option maxHeartbeats 4000000
/-! a table of isinstance, by a list -/
namespace Mi
open PySem PySem.Spec PyProof.Rows L2 Evl MeV MeG MeD MeH MeL LamX MeO
def TyD.eqb : TyD → TyD → Bool
  | .ty a, .ty b => a == b
  | .own i, .own j => Nat.beq i j
  | _, _ => false
theorem TyD.eqb_ok : ∀ {t u : TyD}, TyD.eqb t u = true → t = u
  | .ty a, .ty b, h => congrArg _ (beq_iff_eq.mp h)
  | .own i, .own j, h => congrArg _ (Nat.eq_of_beq_eq_true h)
  | .ty _, .own _, h => nomatch h
  | .own _, .ty _, h => nomatch h
def tabOf : List (TyD × TyD × Bool) → TyD → TyD → Option Bool
  | [], _, _ => none
  | p :: l, t, u => bif TyD.eqb p.1 t && TyD.eqb p.2.1 u then some p.2.2 else tabOf l t u
theorem tabOf_mem : ∀ {l : List (TyD × TyD × Bool)} {t u : TyD} {b : Bool}, tabOf l t u = some b → (t, u, b) ∈ l
  | p :: l, t, u, b, h => by
    unfold tabOf at h
    cases hc : TyD.eqb p.1 t && TyD.eqb p.2.1 u with
    | true =>
      rw [hc] at h
      obtain ⟨h1, h2⟩ := Bool.and_eq_true_iff.mp hc
      obtain ⟨a, b', r⟩ := p
      cases TyD.eqb_ok h1
      cases TyD.eqb_ok h2
      cases h
      exact List.mem_cons_self
    | false =>
      rw [hc] at h
      exact List.mem_cons_of_mem _ (tabOf_mem h)
theorem isi_of {X : Cx} {L : Cl} {l : List (TyD × TyD × Bool)} (hex : L.ex = none) (own : ∀ p ∈ l, ∀ k, p.1 = .own k → OwnC X.K (L.cls k) ∨ ∃ ini, XCls X.K (L.cls k) ini) (tab : ∀ p ∈ l, PySem.W.kitOne X.K (p.1.val L) (p.2.1.val L) = some p.2.2) : Isi X L (tabOf l) :=
  ⟨fun k b u h => own _ (tabOf_mem h) k rfl, fun t u b h => tab _ (tabOf_mem h), fun a dd k h => (by rw [hex] at h; cases h)⟩
end Mi
end
section
set_option Elab.async false
set_option linter.all false
set_option maxRecDepth 100000
set_option maxHeartbeats 0
namespace K54
open PySem PySem.Spec PyProof.Rows L2 He MeH MeG MeK
def top (i : Nat) : Stmt := PySem.Challenge.pw_maskededits_k54_records_in_order.main.body.getD i (.Pass ⟨0, 0, 0, 0⟩)
abbrev s_is_word : Stmt := top 10
def d_is_word : DefD := ⟨("is_word", none), "is_word", "is_word", defArgs s_is_word, defBody s_is_word, defScope s_is_word, [], []⟩
abbrev s_are_names : Stmt := top 11
def d_are_names : DefD := ⟨("are_names", none), "are_names", "are_names", defArgs s_are_names, defBody s_are_names, defScope s_are_names, [], []⟩
abbrev s_are_pairs : Stmt := top 12
def d_are_pairs : DefD := ⟨("are_pairs", none), "are_pairs", "are_pairs", defArgs s_are_pairs, defBody s_are_pairs, defScope s_are_pairs, [], []⟩
abbrev s_record_marks : Stmt := top 16
def d_record_marks : DefD := ⟨("record_marks", none), "record_marks", "record_marks", defArgs s_record_marks, defBody s_record_marks, defScope s_record_marks, [], []⟩
abbrev s_sibling_key : Stmt := top 17
def d_sibling_key : DefD := ⟨("sibling_key", none), "sibling_key", "sibling_key", defArgs s_sibling_key, defBody s_sibling_key, defScope s_sibling_key, [], []⟩
abbrev s_records_in_order : Stmt := top 18
def d_records_in_order : DefD := ⟨("records_in_order", none), "records_in_order", "records_in_order", defArgs s_records_in_order, defBody s_records_in_order, defScope s_records_in_order, [], []⟩
abbrev s__law_draws : Stmt := top 20
def d__law_draws : DefD := ⟨("_law_draws", none), "_law_draws", "_law_draws", defArgs s__law_draws, defBody s__law_draws, defScope s__law_draws, [], []⟩
abbrev s__law_draw : Stmt := top 21
def d__law_draw : DefD := ⟨("_law_draw", none), "_law_draw", "_law_draw", defArgs s__law_draw, defBody s__law_draw, defScope s__law_draw, [], []⟩
abbrev s__law_rows : Stmt := top 22
def d__law_rows : DefD := ⟨("_law_rows", none), "_law_rows", "_law_rows", defArgs s__law_rows, defBody s__law_rows, defScope s__law_rows, [], []⟩
abbrev s__law_due : Stmt := top 23
def d__law_due : DefD := ⟨("_law_due", none), "_law_due", "_law_due", defArgs s__law_due, defBody s__law_due, defScope s__law_due, [], []⟩
abbrev s_law : Stmt := top 24
def d_law : DefD := ⟨("law", none), "law", "law", defArgs s_law, defBody s_law, defScope s_law, [], []⟩
abbrev i_InvalidLevels : Stmt := inClass (top 3) 0
def e_InvalidLevels : DefD := ⟨("InvalidLevels", some "__init__"), "__init__", "InvalidLevels.__init__", defArgs i_InvalidLevels, defBody i_InvalidLevels, defScope i_InvalidLevels, [], []⟩
abbrev i_InvalidLevel : Stmt := inClass (top 4) 0
def e_InvalidLevel : DefD := ⟨("InvalidLevel", some "__init__"), "__init__", "InvalidLevel.__init__", defArgs i_InvalidLevel, defBody i_InvalidLevel, defScope i_InvalidLevel, [], []⟩
abbrev i_BadRecords : Stmt := inClass (top 5) 0
def e_BadRecords : DefD := ⟨("BadRecords", some "__init__"), "__init__", "BadRecords.__init__", defArgs i_BadRecords, defBody i_BadRecords, defScope i_BadRecords, [], []⟩
abbrev m_Levels___init__ : Stmt := inClass (top 13) 0
def f_Levels___init__ : DefD := ⟨("Levels", some "__init__"), "__init__", "Levels.__init__", defArgs m_Levels___init__, defBody m_Levels___init__, defScope m_Levels___init__, [.adr (dflAt ("Levels", some "__init__") 0)], []⟩
abbrev m_Levels_names : Stmt := inClass (top 13) 2
def f_Levels_names : DefD := ⟨("Levels", some "names"), "names", "Levels.names", defArgs m_Levels_names, defBody m_Levels_names, defScope m_Levels_names, [], []⟩
abbrev m_Levels_check : Stmt := inClass (top 13) 3
def f_Levels_check : DefD := ⟨("Levels", some "check"), "check", "Levels.check", defArgs m_Levels_check, defBody m_Levels_check, defScope m_Levels_check, [], []⟩
abbrev m_Levels_above : Stmt := inClass (top 13) 5
def f_Levels_above : DefD := ⟨("Levels", some "above"), "above", "Levels.above", defArgs m_Levels_above, defBody m_Levels_above, defScope m_Levels_above, [], []⟩
abbrev m_Record___init__ : Stmt := inClass (top 15) 0
def f_Record___init__ : DefD := ⟨("Record", some "__init__"), "__init__", "Record.__init__", defArgs m_Record___init__, defBody m_Record___init__, defScope m_Record___init__, [], []⟩
abbrev m_Record___eq__ : Stmt := inClass (top 15) 2
def f_Record___eq__ : DefD := ⟨("Record", some "__eq__"), "__eq__", "Record.__eq__", defArgs m_Record___eq__, defBody m_Record___eq__, defScope m_Record___eq__, [], []⟩
def fn : List DefD := [d_is_word, d_are_names, d_are_pairs, d_record_marks, d_sibling_key, d_records_in_order, d__law_draws, d__law_draw, d__law_rows, d__law_due, d_law, e_InvalidLevels, e_InvalidLevel, e_BadRecords, f_Levels___init__, f_Levels_names, f_Levels_check, f_Levels_above, f_Record___init__, f_Record___eq__]
def fb : List Fb := [.sys,
  .fa (.glo "MaskError"),
  .iniC "MaskError" .ve,
  .fa (.free "ValueError"),
  .fa (.free "isinstance"),
  .fa (.free "range"),
  .fa (.free "max"),
  .fa (.free "min"),
  .fa (.free "len"),
  .fa (.free "str"),
  .fa (.free "int"),
  .fa (.free "tuple"),
  .fa (.free "list"),
  .fa (.free "all"),
  .fa (.free "set"),
  .fa (.free "sorted"),
  .fa (.glo "is_word"),
  .fa (.glo "are_names"),
  .fa (.glo "are_pairs"),
  .fa (.glo "record_marks"),
  .fa (.glo "sibling_key"),
  .fa (.glo "records_in_order"),
  .fa (.glo "_law_draws"),
  .fa (.glo "_law_draw"),
  .fa (.glo "_law_rows"),
  .fa (.glo "_law_due"),
  .fa (.glo "law"),
  .fa (.str "LETTERS" "abcdefghijklmnopqrstuvwxyz"),
  .fa (.int "MOST_LETTERS" 8),
  .fa (.int "MOST_LEVELS" 8),
  .fa (.glo "InvalidLevels"),
  .xcls "InvalidLevels" .ve,
  .xinit "InvalidLevels",
  .fa (.noat "InvalidLevels" "value"),
  .fa (.glo "InvalidLevel"),
  .xcls "InvalidLevel" .ve,
  .xinit "InvalidLevel",
  .fa (.noat "InvalidLevel" "value"),
  .fa (.glo "BadRecords"),
  .xcls "BadRecords" .ve,
  .xinit "BadRecords",
  .fa (.noat "BadRecords" "value"),
  .fa (.glo "Levels"),
  .fa (.cls "Levels"),
  .fa (.noat "Levels" "own_names"),
  .fa (.noat "Levels" "lower"),
  .fa (.meth "Levels" "names"),
  .fa (.meth "Levels" "check"),
  .fa (.meth "Levels" "above"),
  .fa (.mkr "Levels"),
  .fa (.glo "Record"),
  .fa (.cls "Record"),
  .fa (.noat "Record" "mark"),
  .fa (.noat "Record" "stamp"),
  .fa (.noat "Record" "after"),
  .fa (.noat "Record" "act"),
  .fa (.noat "Record" "first"),
  .fa (.noat "Record" "key"),
  .fa (.meth "Record" "__eq__"),
  .fa (.mkr "Record"),
  .any fun K => eqO (PySem.W.findIn K (.ref (ga K "Record")) "__class__") (some (some (.builtin "object.__class__"))),
  .any fun K => decide (PySem.W.mroIn K (ga K "Record") (.type "object") = some true),
  .any fun K => eqO (PySem.W.specialIn K (.builtin "object.__class__") "__get__") (some (some (.builtin "getset_descriptor.__get__"))),
  .any fun K => decide (PySem.W.takesIn K (.builtin "object.__class__") = some true),
  .any fun K => eqO (PySem.W.findIn K (.ref (ga K "Record")) "__ne__") (some (some (.builtin "object.__ne__"))),
  .any fun K => PySem.W.notFirst K (ga K "Record") (.ref (ga K "Record")),
  .any fun K => PySem.W.notFirst K (ga K "Record") (.type "tuple"),
  .any fun K => decide (PySem.W.kitOne K (.type "str") (.type "str") = some true),
  .any fun K => decide (PySem.W.kitOne K (.type "list") (.type "list") = some true),
  .any fun K => decide (PySem.W.kitOne K (.type "tuple") (.type "tuple") = some true),
  .any fun K => decide (PySem.W.kitOne K (.type "tuple") (.type "list") = some false),
  .any fun K => decide (PySem.W.kitOne K (.ref (ga K "Record")) (.ref (ga K "Record")) = some true),
  .any fun K => decide (PySem.W.kitOne K (.type "tuple") (.ref (ga K "Record")) = some false)]
def tf : List Defn := [("records_in_order", none)]
section
variable {K : PySem.W.Frag} {h : Heap} {mg : Str → Option Value}
theorem fat (c : SaysY fb fn tf h K) (i : Nat) {f : Fb} (e : fb[i]? = some f := by rfl) : f.ok K = true := c.x.fact (List.mem_of_getElem? e)
theorem fatA (c : SaysY fb fn tf h K) (i : Nat) {f : Fa} (e : fb[i]? = some (.fa f) := by rfl) : f.ok K = true := c.x.fact (List.mem_of_getElem? e)
theorem fatN (c : SaysY fb fn tf h K) (i : Nat) {f : PySem.W.Frag → Bool} (e : fb[i]? = some (.any f) := by rfl) : f K = true := c.x.fact (f := .any f) (List.mem_of_getElem? e)
structure Txt (K : PySem.W.Frag) (mg : Str → Option Value) : Prop where
  sys : SysK K
  mgM : mg "MaskError" = some (.ref (ga K "MaskError"))
  iM : PySem.W.readsIn K (ga K "MaskError") (.type "type") = true ∧ PySem.W.specialIn K (.ref (ga K "MaskError")) "__getattribute__" = some (some (.builtin "type.__getattribute__")) ∧ PySem.W.findCls K (.ref (ga K "MaskError")) (.type "type") "__init__" = some (.val (.builtin "ValueError.__init__"))
  f_ValueError : mg "ValueError" = none
  f_isinstance : mg "isinstance" = none
  f_range : mg "range" = none
  f_max : mg "max" = none
  f_min : mg "min" = none
  f_len : mg "len" = none
  f_str : mg "str" = none
  f_int : mg "int" = none
  f_tuple : mg "tuple" = none
  f_list : mg "list" = none
  f_all : mg "all" = none
  f_set : mg "set" = none
  f_sorted : mg "sorted" = none
  g_is_word : mg "is_word" = some (.ref (ga K "is_word"))
  g_are_names : mg "are_names" = some (.ref (ga K "are_names"))
  g_are_pairs : mg "are_pairs" = some (.ref (ga K "are_pairs"))
  g_record_marks : mg "record_marks" = some (.ref (ga K "record_marks"))
  g_sibling_key : mg "sibling_key" = some (.ref (ga K "sibling_key"))
  g_records_in_order : mg "records_in_order" = some (.ref (ga K "records_in_order"))
  g__law_draws : mg "_law_draws" = some (.ref (ga K "_law_draws"))
  g__law_draw : mg "_law_draw" = some (.ref (ga K "_law_draw"))
  g__law_rows : mg "_law_rows" = some (.ref (ga K "_law_rows"))
  g__law_due : mg "_law_due" = some (.ref (ga K "_law_due"))
  g_law : mg "law" = some (.ref (ga K "law"))
  c_LETTERS : ∃ t, mg "LETTERS" = some (.str "abcdefghijklmnopqrstuvwxyz" t)
  c_MOST_LETTERS : ∃ t, mg "MOST_LETTERS" = some (.int 8 t)
  c_MOST_LEVELS : ∃ t, mg "MOST_LEVELS" = some (.int 8 t)
  g_InvalidLevels : mg "InvalidLevels" = some (.ref (ga K "InvalidLevels"))
  x_InvalidLevels : XCls K (ga K "InvalidLevels") "ValueError.__init__"
  o_InvalidLevels : OexC K (ga K "InvalidLevels")
  i_InvalidLevels : PySem.W.findIn K (.ref (ga K "InvalidLevels")) "__init__" = some (some (.ref (ma K (ga K "InvalidLevels") "__init__"))) ∧ PySem.W.typeIn K (.ref (ma K (ga K "InvalidLevels") "__init__")) = some (.type "function")
  n_InvalidLevels_value : PySem.W.findIn K (.ref (ga K "InvalidLevels")) "value" = some none
  g_InvalidLevel : mg "InvalidLevel" = some (.ref (ga K "InvalidLevel"))
  x_InvalidLevel : XCls K (ga K "InvalidLevel") "ValueError.__init__"
  o_InvalidLevel : OexC K (ga K "InvalidLevel")
  i_InvalidLevel : PySem.W.findIn K (.ref (ga K "InvalidLevel")) "__init__" = some (some (.ref (ma K (ga K "InvalidLevel") "__init__"))) ∧ PySem.W.typeIn K (.ref (ma K (ga K "InvalidLevel") "__init__")) = some (.type "function")
  n_InvalidLevel_value : PySem.W.findIn K (.ref (ga K "InvalidLevel")) "value" = some none
  g_BadRecords : mg "BadRecords" = some (.ref (ga K "BadRecords"))
  x_BadRecords : XCls K (ga K "BadRecords") "ValueError.__init__"
  o_BadRecords : OexC K (ga K "BadRecords")
  i_BadRecords : PySem.W.findIn K (.ref (ga K "BadRecords")) "__init__" = some (some (.ref (ma K (ga K "BadRecords") "__init__"))) ∧ PySem.W.typeIn K (.ref (ma K (ga K "BadRecords") "__init__")) = some (.type "function")
  n_BadRecords_value : PySem.W.findIn K (.ref (ga K "BadRecords")) "value" = some none
  g_Levels : mg "Levels" = some (.ref (ga K "Levels"))
  cl_Levels : Cls K (ga K "Levels")
  n_Levels_own_names : NoAttr K (ga K "Levels") "own_names"
  n_Levels_lower : NoAttr K (ga K "Levels") "lower"
  mt_Levels_names : L2.Meth K (ga K "Levels") "names" (ma K (ga K "Levels") "names")
  mt_Levels_check : L2.Meth K (ga K "Levels") "check" (ma K (ga K "Levels") "check")
  mt_Levels_above : L2.Meth K (ga K "Levels") "above" (ma K (ga K "Levels") "above")
  mk_Levels : Mk K (ga K "Levels") (ma K (ga K "Levels") "__init__")
  g_Record : mg "Record" = some (.ref (ga K "Record"))
  cl_Record : Cls K (ga K "Record")
  n_Record_mark : NoAttr K (ga K "Record") "mark"
  n_Record_stamp : NoAttr K (ga K "Record") "stamp"
  n_Record_after : NoAttr K (ga K "Record") "after"
  n_Record_act : NoAttr K (ga K "Record") "act"
  n_Record_first : NoAttr K (ga K "Record") "first"
  n_Record_key : NoAttr K (ga K "Record") "key"
  mt_Record___eq__ : L2.Meth K (ga K "Record") "__eq__" (ma K (ga K "Record") "__eq__")
  mk_Record : Mk K (ga K "Record") (ma K (ga K "Record") "__init__")
  ha_Record : PySem.W.findIn K (.ref (ga K "Record")) "__class__" = some (some (.builtin "object.__class__"))
  hm_Record : PySem.W.mroIn K (ga K "Record") (.type "object") = some true
  ne_Record : PySem.W.findIn K (.ref (ga K "Record")) "__ne__" = some (some (.builtin "object.__ne__"))
  nf_Record_Record : PySem.W.notFirst K (ga K "Record") (.ref (ga K "Record")) = true
  nf_Record_tuple : PySem.W.notFirst K (ga K "Record") (.type "tuple") = true
  hn_ : PySem.W.specialIn K (.builtin "object.__class__") "__get__" = some (some (.builtin "getset_descriptor.__get__"))
  ht_ : PySem.W.takesIn K (.builtin "object.__class__") = some true
  is_str_str : PySem.W.kitOne K (.type "str") (.type "str") = some true
  is_list_list : PySem.W.kitOne K (.type "list") (.type "list") = some true
  is_tuple_tuple : PySem.W.kitOne K (.type "tuple") (.type "tuple") = some true
  is_tuple_list : PySem.W.kitOne K (.type "tuple") (.type "list") = some false
  is_Record_Record : PySem.W.kitOne K (.ref (ga K "Record")) (.ref (ga K "Record")) = some true
  is_tuple_Record : PySem.W.kitOne K (.type "tuple") (.ref (ga K "Record")) = some false
theorem txt_of (X : K.In h) (G : h.Ns mainGlobals mg) (c : SaysY fb fn tf h K) : Txt K mg where
  sys := sys_ok (fat c 0)
  mgM := glo_ok X G (fatA c 1)
  iM := iniC_ok (b := .ve) (fat c 2)
  f_ValueError := free_ok X G (fatA c 3)
  f_isinstance := free_ok X G (fatA c 4)
  f_range := free_ok X G (fatA c 5)
  f_max := free_ok X G (fatA c 6)
  f_min := free_ok X G (fatA c 7)
  f_len := free_ok X G (fatA c 8)
  f_str := free_ok X G (fatA c 9)
  f_int := free_ok X G (fatA c 10)
  f_tuple := free_ok X G (fatA c 11)
  f_list := free_ok X G (fatA c 12)
  f_all := free_ok X G (fatA c 13)
  f_set := free_ok X G (fatA c 14)
  f_sorted := free_ok X G (fatA c 15)
  g_is_word := glo_ok X G (fatA c 16)
  g_are_names := glo_ok X G (fatA c 17)
  g_are_pairs := glo_ok X G (fatA c 18)
  g_record_marks := glo_ok X G (fatA c 19)
  g_sibling_key := glo_ok X G (fatA c 20)
  g_records_in_order := glo_ok X G (fatA c 21)
  g__law_draws := glo_ok X G (fatA c 22)
  g__law_draw := glo_ok X G (fatA c 23)
  g__law_rows := glo_ok X G (fatA c 24)
  g__law_due := glo_ok X G (fatA c 25)
  g_law := glo_ok X G (fatA c 26)
  c_LETTERS := str_ok X G (fatA c 27)
  c_MOST_LETTERS := int_ok X G (fatA c 28)
  c_MOST_LEVELS := int_ok X G (fatA c 29)
  g_InvalidLevels := glo_ok X G (fatA c 30)
  x_InvalidLevels := xcls_ok (b := .ve) (fat c 31)
  o_InvalidLevels := oex_ok (fat c 31)
  i_InvalidLevels := xinit_ok (fat c 32)
  n_InvalidLevels_value := noat_ok (fatA c 33)
  g_InvalidLevel := glo_ok X G (fatA c 34)
  x_InvalidLevel := xcls_ok (b := .ve) (fat c 35)
  o_InvalidLevel := oex_ok (fat c 35)
  i_InvalidLevel := xinit_ok (fat c 36)
  n_InvalidLevel_value := noat_ok (fatA c 37)
  g_BadRecords := glo_ok X G (fatA c 38)
  x_BadRecords := xcls_ok (b := .ve) (fat c 39)
  o_BadRecords := oex_ok (fat c 39)
  i_BadRecords := xinit_ok (fat c 40)
  n_BadRecords_value := noat_ok (fatA c 41)
  g_Levels := glo_ok X G (fatA c 42)
  cl_Levels := cls_ok (fatA c 43)
  n_Levels_own_names := noat_ok (fatA c 44)
  n_Levels_lower := noat_ok (fatA c 45)
  mt_Levels_names := meth_ok (fatA c 46)
  mt_Levels_check := meth_ok (fatA c 47)
  mt_Levels_above := meth_ok (fatA c 48)
  mk_Levels := mkr_ok (fatA c 49)
  g_Record := glo_ok X G (fatA c 50)
  cl_Record := cls_ok (fatA c 51)
  n_Record_mark := noat_ok (fatA c 52)
  n_Record_stamp := noat_ok (fatA c 53)
  n_Record_after := noat_ok (fatA c 54)
  n_Record_act := noat_ok (fatA c 55)
  n_Record_first := noat_ok (fatA c 56)
  n_Record_key := noat_ok (fatA c 57)
  mt_Record___eq__ := meth_ok (fatA c 58)
  mk_Record := mkr_ok (fatA c 59)
  ha_Record := eqO_ok (fatN c 60)
  hm_Record := of_decide_eq_true (fatN c 61)
  ne_Record := eqO_ok (fatN c 64)
  nf_Record_Record := fatN c 65
  nf_Record_tuple := fatN c 66
  hn_ := eqO_ok (fatN c 62)
  ht_ := of_decide_eq_true (fatN c 63)
  is_str_str := of_decide_eq_true (fatN c 67)
  is_list_list := of_decide_eq_true (fatN c 68)
  is_tuple_tuple := of_decide_eq_true (fatN c 69)
  is_tuple_list := of_decide_eq_true (fatN c 70)
  is_Record_Record := of_decide_eq_true (fatN c 71)
  is_tuple_Record := of_decide_eq_true (fatN c 72)
end
abbrev R : PySem.W.OpenRow := PySem.W.OpenLaw.row PySem.Challenge.rw_maskededits_k54_records_in_order
abbrev hk : PySem.W.Hook := hookY 5 fb fn tf
def ob (s : PySem.W.SharedT) : AlY := obsY 5 fb fn tf (HandSHeadRun.getT s)
theorem ob_eq (s : PySem.W.SharedT) : ob s = hk.obs s.abs := obsY_eq (HandSHeadRun.getT_eq s)
theorem run (w : World) : HandSHeadRun.RunEq R (PySem.W.view R.prog [24]) hk ob 12000 ["_wall", "MaskError", "InvalidLevels", "InvalidLevel", "BadRecords", "LETTERS", "MOST_LETTERS", "MOST_LEVELS", "is_word", "are_names", "are_pairs", "Levels", "Record", "record_marks", "sibling_key", "records_in_order", "_law_draws", "_law_draw", "_law_rows", "_law_due"] w := by
  intro os
  kernel_rfl
end K54
end
section
set_option Elab.async false
set_option linter.all false
set_option maxRecDepth 100000
set_option maxHeartbeats 4000000
set_option pp.maxSteps 600
namespace K54
open PySem PySem.Spec PyProof.Rows L2 He MeH MeG MeK Evl MeV MeL MeD MeO Mi

theorem u9 {k : Nat} {A : Around} (r : Room k A) : A.units + 9 < cLine := by have := r.un; omega
theorem u65 {k : Nat} {A : Around} (r : Room k A) : A.units + 65 < cLine := by have := r.un; omega
theorem bo_isi : bootBuiltins "isinstance" = some (.builtin "isinstance") := by decide +kernel
theorem bo_str : bootBuiltins "str" = some (.type "str") := by decide +kernel
theorem bo_int : bootBuiltins "int" = some (.type "int") := by decide +kernel
theorem bo_list : bootBuiltins "list" = some (.type "list") := by decide +kernel
theorem bo_tuple : bootBuiltins "tuple" = some (.type "tuple") := by decide +kernel
theorem bo_all : bootBuiltins "all" = some (.builtin "all") := by decide +kernel
abbrev FD (K : PySem.W.Frag) (d : DefD) (f : Addr) (fd : FuncData) : Prop := FunD K d.name d.qual d.params d.body d.scope (d.dvs K) [] f fd
abbrev LET : Str := "abcdefghijklmnopqrstuvwxyz"
def clsA (K : PySem.W.Frag) : Nat → Addr
  | 0 => ga K "InvalidLevels"
  | 1 => ga K "InvalidLevel"
  | 2 => ga K "BadRecords"
  | 3 => ga K "Levels"
  | _ => ga K "Record"
abbrev q0 : Str := "records_in_order.<locals>.<lambda>"
def T0 (K : PySem.W.Frag) : List (Addr × Str) := [((cT K ("records_in_order", none)).2, q0)]
abbrev L0 (K : PySem.W.Frag) : Cl := ⟨clsA K, none, fun _ => none, [], some (T0 K)⟩
def tl : List (TyD × TyD × Bool) := [(.ty "str", .ty "str", true), (.ty "list", .ty "list", true), (.ty "tuple", .ty "tuple", true), (.ty "tuple", .ty "list", false), (.own 4, .own 4, true), (.ty "tuple", .own 4, false)]
theorem own4 {K : PySem.W.Frag} {mg : Str → Option Value} (T : Txt K mg) : OwnC K (ga K "Record") := ⟨T.cl_Record, T.ha_Record, T.hn_, T.ht_, T.hm_Record⟩
theorem Z0 {X : Cx} {K : PySem.W.Frag} {mg : Str → Option Value} (T : Txt K mg) (e : X.K = K) : Isi X (L0 K) (tabOf tl) := by
  subst e
  refine isi_of rfl (fun p hp k hk => ?_) fun p hp => ?_
  · refine .inl ?_
    simp only [tl, List.mem_cons, List.not_mem_nil, or_false] at hp
    rcases hp with rfl | rfl | rfl | rfl | rfl | rfl <;> first | (cases hk; exact own4 T) | cases hk
  · simp only [tl, List.mem_cons, List.not_mem_nil, or_false] at hp
    rcases hp with rfl | rfl | rfl | rfl | rfl | rfl
    · exact T.is_str_str
    · exact T.is_list_list
    · exact T.is_tuple_tuple
    · exact T.is_tuple_list
    · exact T.is_Record_Record
    · exact T.is_tuple_Record

section
variable {P : Program} {w : World} {K : PySem.W.Frag} {mg : Str → Option Value} {base : Heap} {f : Addr} {fd : FuncData}
theorem sc_is_word : FnScope ["thing", "sign"] ["thing"] (defScope s_is_word) := ⟨rfl, rfl, rfl, by decide +kernel, rfl, by decide +kernel, by decide +kernel⟩
def r_is_word : MF := mDef ["thing", "sign"] (nSeq (nIf (mOr (mNot (mTest (mCB (gIsU (tabOf tl)) (mCons (mVar 0) (mCons (mC (.ty "str")) mNil))))) (mNot (mTest (mChain (gI fun i j => .bl (decide (i ≤ j))) (gI fun i j => .bl (decide (i ≤ j))) (mC (.int 1)) (mCB gLenU (mCons (mVar 0) mNil)) (mC (.int 8)))))) (nRet (mC (.bl false))) nNil) (nRet (mCB gAll (mCons (mLc (iU (mVar 0)) [1] (gSet 1) mYes (mBin (gOr (gInS false) (gOr (gInD false) (gDIn false))) (mVar 1) (mC (.str LET)))) mNil))))
theorem k_is_word  (F : FD K d_is_word f fd) (T : Txt K mg)  : FnG P w K mg base (L2.CX P w) 1 f fd ["thing"] (spM ⟨w, K, L0 K⟩ 1 r_is_word) := by
  obtain ⟨_, h_MOST_LETTERS⟩ := T.c_MOST_LETTERS
  obtain ⟨_, h_MOST_LEVELS⟩ := T.c_MOST_LEVELS
  obtain ⟨_, h_LETTERS⟩ := T.c_LETTERS
  exact fn_M F sc_is_word fun cdv A outer s H E hgd hr => (n_cons (n_if (PW.pt (mw_or (mt_not (mt_val (m_cb (pe_callB (call_isU (Z0 T rfl)) (by rfl) T.f_isinstance bo_isi (m_cons (m_var (pv 0)) (m_cons (m_c (pe_bltn (v := .ty "str") (by rfl) T.f_str bo_str rfl) fun _ _ => .ty _) m_nil))) sim_GB))) (pw_or1 (mt_not (mt_chain op_le op_le (sim_I0 fun i j _ _ => .bl _) (sim_I0 fun i j _ _ => .bl _) m_int (m_len (by rfl) T.f_len (m_cons (m_var (pv 0)) m_nil)) (m_c (pe_glob (v := .int 8) rfl h_MOST_LETTERS ⟨_, rfl⟩) fun _ _ => .int _)))))) (n_one (n_ret (ps_ret m_bl))) n_nil) (n_one (n_ret (ps_ret (m_cb (pe_callB (cr_all rfl) (by rfl) T.f_all bo_all (m_cons (m_lc (pe_lc (own := [("sign", 1)]) (g := (gName 1)) (by rfl) sc_is_word.nd (pi_U (m_var (pv 0))) (blkOk_by (own := [("sign", 1)]) (N := ["thing", "sign"]) (sc := defScope s_is_word) (by decide +kernel)) (fun _ _ _ _ _ => (pg_name (i := 1) sc_is_word.nd rfl (Or.inl rfl))) (fun _ _ _ _ _ => mts_nil) (fun _ _ _ _ _ => (m_cmp (OpR_or op_in_sign (OpR_or (op_inD (u65 hr)) (op_dIn (cl := L0 K) (u9 hr)))) (sim_or sim_inS (sim_or sim_inD sim_G2)) (m_var (pv 1)) (m_c (pe_glob (v := .str LET) rfl h_LETTERS ⟨_, rfl⟩) fun _ _ => .str _) rfl))) sim_iU (gw_set (by decide))) m_nil)) sim_all)))))
theorem sc_are_names : FnScope ["names", "name"] ["names"] (defScope s_are_names) := ⟨rfl, rfl, rfl, by decide +kernel, rfl, by decide +kernel, by decide +kernel⟩
def r_are_names : MF := mDef ["names", "name"] (nSeq (nIf (mOr (mNot (mTest (mCB (gIsU (tabOf tl)) (mCons (mVar 0) (mCons (mTup (mCons (mC (.ty "list")) (mCons (mC (.ty "tuple")) mNil))) mNil))))) (mNot (mTest (mChain (gI fun i j => .bl (decide (i ≤ j))) (gI fun i j => .bl (decide (i ≤ j))) (mC (.int 1)) (mCB gLenU (mCons (mVar 0) mNil)) (mC (.int 8)))))) (nRet (mC (.bl false))) nNil) (nRet (mAndV (mCB gAll (mCons (mLc (iU (mVar 0)) [1] (gSet 1) mYes (mCall 1 r_is_word (mCons (mVar 1) mNil))) mNil)) (mBin gEq (mUn gLenSet (mVar 0)) (mCB gLenU (mCons (mVar 0) mNil))))))
theorem k_are_names {f_is_word : Addr} {fd_is_word : FuncData} (F : FD K d_are_names f fd) (T : Txt K mg) (C_is_word : ∀ {X : Cx}, X.prog = P → X.w = w → X.K = K → X.mg = mg → X.base = base → Cal X ⟨w, K, L0 K⟩ "is_word" 1 f_is_word fd_is_word ["thing"] r_is_word) : FnG P w K mg base (L2.CX P w) 2 f fd ["names"] (spM ⟨w, K, L0 K⟩ 1 r_are_names) := by
  obtain ⟨_, h_MOST_LETTERS⟩ := T.c_MOST_LETTERS
  obtain ⟨_, h_MOST_LEVELS⟩ := T.c_MOST_LEVELS
  obtain ⟨_, h_LETTERS⟩ := T.c_LETTERS
  exact fn_M F sc_are_names fun cdv A outer s H E hgd hr => (n_cons (n_if (PW.pt (mw_or (mt_not (mt_val (m_cb (pe_callB (call_isU (Z0 T rfl)) (by rfl) T.f_isinstance bo_isi (m_cons (m_var (pv 0)) (m_cons (m_tup (m_cons (m_c (pe_bltn (v := .ty "list") (by rfl) T.f_list bo_list rfl) fun _ _ => .ty _) (m_cons (m_c (pe_bltn (v := .ty "tuple") (by rfl) T.f_tuple bo_tuple rfl) fun _ _ => .ty _) m_nil))) m_nil))) sim_GB))) (pw_or1 (mt_not (mt_chain op_le op_le (sim_I0 fun i j _ _ => .bl _) (sim_I0 fun i j _ _ => .bl _) m_int (m_len (by rfl) T.f_len (m_cons (m_var (pv 0)) m_nil)) (m_c (pe_glob (v := .int 8) rfl h_MOST_LEVELS ⟨_, rfl⟩) fun _ _ => .int _)))))) (n_one (n_ret (ps_ret m_bl))) n_nil) (n_one (n_ret (ps_ret (m_and (m_cb (pe_callB (cr_all rfl) (by rfl) T.f_all bo_all (m_cons (m_lc (pe_lc (own := [("name", 1)]) (g := (gName 1)) (by rfl) sc_are_names.nd (pi_U (m_var (pv 0))) (blkOk_by (own := [("name", 1)]) (N := ["names", "name"]) (sc := defScope s_are_names) (by decide +kernel)) (fun _ _ _ _ _ => (pg_name (i := 1) sc_are_names.nd rfl (Or.inl rfl))) (fun _ _ _ _ _ => mts_nil) (fun _ _ _ _ _ => (m_call (C_is_word rfl rfl rfl rfl rfl) hgd (hr.mono (by decide)) rfl (passS LamX.takes0 (fun _ _ _ _ h => h)) (m_cons (m_var (pv 1)) m_nil)))) sim_iU (gw_set (by decide))) m_nil)) sim_all) (pe_one (m_cmp (op_eqD hr.units) sim_eqD (m_lenSet rfl (by rfl) T.f_len (by rfl) T.f_set (m_var (pv 0))) (m_len (by rfl) T.f_len (m_cons (m_var (pv 0)) m_nil)) (nomark _))))))))
theorem sc_are_pairs : FnScope ["names", "pairs", "pair"] ["names", "pairs"] (defScope s_are_pairs) := ⟨rfl, rfl, rfl, by decide +kernel, rfl, by decide +kernel, by decide +kernel⟩
def r_are_pairs : MF := mDef ["names", "pairs", "pair"] (nSeq (nIf (mNot (mTest (mCB (gIsU (tabOf tl)) (mCons (mVar 1) (mCons (mTup (mCons (mC (.ty "list")) (mCons (mC (.ty "tuple")) mNil))) mNil))))) (nRet (mC (.bl false))) nNil) (nSeq (nFor (iU (mVar 1)) (gSet 2) (nSeq (nIf (mOr (mNot (mTest (mCB (gIsU (tabOf tl)) (mCons (mVar 2) (mCons (mC (.ty "tuple")) mNil))))) (mOr (mTest (mBin gNe (mCB gLenU (mCons (mVar 2) mNil)) (mC (.int 2)))) (mOr (mTest (mBin (gOr (gInS true) (gOr (gInD true) (gDIn true))) (mBin gIx (mVar 2) (mC (.int 0))) (mVar 0))) (mTest (mBin (gOr (gInS true) (gOr (gInD true) (gDIn true))) (mBin gIx (mVar 2) (mC (.int 1))) (mVar 0)))))) (nRet (mC (.bl false))) nNil) (nIf (mTest (mBin (gI fun i j => .bl (decide (j ≤ i))) (mMt (selB isL gIndex) (mVar 0) (mCons (mBin gIx (mVar 2) (mC (.int 0))) mNil)) (mMt (selB isL gIndex) (mVar 0) (mCons (mBin gIx (mVar 2) (mC (.int 1))) mNil)))) (nRet (mC (.bl false))) nNil))) (nRet (mC (.bl true)))))
theorem k_are_pairs  (F : FD K d_are_pairs f fd) (T : Txt K mg)  : FnG P w K mg base (L2.CX P w) 1 f fd ["names", "pairs"] (spM ⟨w, K, L0 K⟩ 2 r_are_pairs) := by
  obtain ⟨_, h_MOST_LETTERS⟩ := T.c_MOST_LETTERS
  obtain ⟨_, h_MOST_LEVELS⟩ := T.c_MOST_LEVELS
  obtain ⟨_, h_LETTERS⟩ := T.c_LETTERS
  exact fn_M F sc_are_pairs fun cdv A outer s H E hgd hr => (n_cons (n_if (mt_not (mt_val (m_cb (pe_callB (call_isU (Z0 T rfl)) (by rfl) T.f_isinstance bo_isi (m_cons (m_var (pv 1)) (m_cons (m_tup (m_cons (m_c (pe_bltn (v := .ty "list") (by rfl) T.f_list bo_list rfl) fun _ _ => .ty _) (m_cons (m_c (pe_bltn (v := .ty "tuple") (by rfl) T.f_tuple bo_tuple rfl) fun _ _ => .ty _) m_nil))) m_nil))) sim_GB))) (n_one (n_ret (ps_ret m_bl))) n_nil) (n_cons (n_for (ps_for (passes_of rfl) rfl (pi_U (m_var (pv 1))) (pg_name (i := 2) sc_are_pairs.nd rfl (Or.inl rfl)) (n_cons (n_if (PW.pt (mw_or (mt_not (mt_val (m_cb (pe_callB (call_isU (Z0 T rfl)) (by rfl) T.f_isinstance bo_isi (m_cons (m_var (pv 2)) (m_cons (m_c (pe_bltn (v := .ty "tuple") (by rfl) T.f_tuple bo_tuple rfl) fun _ _ => .ty _) m_nil))) sim_GB))) (mw_or (mt_cmp (op_neD hr.units) sim_neD (m_len (by rfl) T.f_len (m_cons (m_var (pv 2)) m_nil)) m_int (nomark _)) (mw_or (mt_cmp (OpR_or op_notIn_sign (OpR_or (op_notInD (u65 hr)) (op_dNotIn (cl := L0 K) (u9 hr)))) (sim_or sim_niS (sim_or sim_niD sim_G2)) (m_ix (m_var (pv 2)) m_int (fun _ _ => rfl)) (m_var (pv 0)) rfl) (pw_or1 (mt_cmp (OpR_or op_notIn_sign (OpR_or (op_notInD (u65 hr)) (op_dNotIn (cl := L0 K) (u9 hr)))) (sim_or sim_niS (sim_or sim_niD sim_G2)) (m_ix (m_var (pv 2)) m_int (fun _ _ => rfl)) (m_var (pv 0)) rfl)))))) (n_one (n_ret (ps_ret m_bl))) n_nil) (n_one (n_if (mt_cmp op_ge (sim_I0 fun i j _ _ => .bl _) (m_mt (meth_list PySem.F.slot_list_index PySem.F.type_list_index (mtG (mt_indexD (u65 hr)) sim_index)) (m_var (pv 0)) (m_cons (m_ix (m_var (pv 2)) m_int (fun _ _ => rfl)) m_nil)) (m_mt (meth_list PySem.F.slot_list_index PySem.F.type_list_index (mtG (mt_indexD (u65 hr)) sim_index)) (m_var (pv 0)) (m_cons (m_ix (m_var (pv 2)) m_int (fun _ _ => rfl)) m_nil)) (nomark _)) (n_one (n_ret (ps_ret m_bl))) n_nil)))) sim_iU (g_set 2)) (n_one (n_ret (ps_ret m_bl)))))
end
end K54
end
section
set_option Elab.async false
set_option linter.all false
set_option maxRecDepth 100000
set_option maxHeartbeats 4000000
set_option pp.maxSteps 600
namespace K54
open PySem PySem.Spec PyProof.Rows L2 He MeH MeG MeK Evl MeV MeL MeD MeO Mi

theorem fk_own_names {X : Cx} {K : PySem.W.Frag} {mg : Str → Option Value} (T : Txt K mg) (e : X.K = K) : ∀ k ∈ [3], Cls X.K ((cX X (L0 K)).cl k) ∧ NoAttr X.K ((cX X (L0 K)).cl k) "own_names" := by
  subst e
  intro k hk
  cases List.mem_singleton.mp hk
  exact ⟨T.cl_Levels, T.n_Levels_own_names⟩
theorem fk_lower {X : Cx} {K : PySem.W.Frag} {mg : Str → Option Value} (T : Txt K mg) (e : X.K = K) : ∀ k ∈ [3], Cls X.K ((cX X (L0 K)).cl k) ∧ NoAttr X.K ((cX X (L0 K)).cl k) "lower" := by
  subst e
  intro k hk
  cases List.mem_singleton.mp hk
  exact ⟨T.cl_Levels, T.n_Levels_lower⟩
theorem fk_mark {X : Cx} {K : PySem.W.Frag} {mg : Str → Option Value} (T : Txt K mg) (e : X.K = K) : ∀ k ∈ [4], Cls X.K ((cX X (L0 K)).cl k) ∧ NoAttr X.K ((cX X (L0 K)).cl k) "mark" := by
  subst e
  intro k hk
  cases List.mem_singleton.mp hk
  exact ⟨T.cl_Record, T.n_Record_mark⟩
theorem fk_stamp {X : Cx} {K : PySem.W.Frag} {mg : Str → Option Value} (T : Txt K mg) (e : X.K = K) : ∀ k ∈ [4], Cls X.K ((cX X (L0 K)).cl k) ∧ NoAttr X.K ((cX X (L0 K)).cl k) "stamp" := by
  subst e
  intro k hk
  cases List.mem_singleton.mp hk
  exact ⟨T.cl_Record, T.n_Record_stamp⟩
theorem fk_after {X : Cx} {K : PySem.W.Frag} {mg : Str → Option Value} (T : Txt K mg) (e : X.K = K) : ∀ k ∈ [4], Cls X.K ((cX X (L0 K)).cl k) ∧ NoAttr X.K ((cX X (L0 K)).cl k) "after" := by
  subst e
  intro k hk
  cases List.mem_singleton.mp hk
  exact ⟨T.cl_Record, T.n_Record_after⟩
theorem fk_act {X : Cx} {K : PySem.W.Frag} {mg : Str → Option Value} (T : Txt K mg) (e : X.K = K) : ∀ k ∈ [4], Cls X.K ((cX X (L0 K)).cl k) ∧ NoAttr X.K ((cX X (L0 K)).cl k) "act" := by
  subst e
  intro k hk
  cases List.mem_singleton.mp hk
  exact ⟨T.cl_Record, T.n_Record_act⟩
theorem fk_first {X : Cx} {K : PySem.W.Frag} {mg : Str → Option Value} (T : Txt K mg) (e : X.K = K) : ∀ k ∈ [4], Cls X.K ((cX X (L0 K)).cl k) ∧ NoAttr X.K ((cX X (L0 K)).cl k) "first" := by
  subst e
  intro k hk
  cases List.mem_singleton.mp hk
  exact ⟨T.cl_Record, T.n_Record_first⟩
theorem fk_key {X : Cx} {K : PySem.W.Frag} {mg : Str → Option Value} (T : Txt K mg) (e : X.K = K) : ∀ k ∈ [4], Cls X.K ((cX X (L0 K)).cl k) ∧ NoAttr X.K ((cX X (L0 K)).cl k) "key" := by
  subst e
  intro k hk
  cases List.mem_singleton.mp hk
  exact ⟨T.cl_Record, T.n_Record_key⟩
theorem ha_VE : PySem.W.handedIn (.builtin "ValueError.__init__") = true := by decide +kernel
section
variable {P : Program} {w : World} {K : PySem.W.Frag} {mg : Str → Option Value} {base : Heap} {f : Addr} {fd : FuncData}
theorem sc_InvalidLevels : FnScope ["self", "value"] ["self", "value"] (defScope i_InvalidLevels) := ⟨rfl, rfl, rfl, by decide +kernel, rfl, by decide +kernel, by decide +kernel⟩
theorem ok_InvalidLevels (F : FD K e_InvalidLevels f fd) (T : Txt K mg) : FnOk P w K mg base CX0 1 f fd ["self", "value"] (MeE.spI1 (ga K "InvalidLevels") "value") := by
  refine F.ok sc_InvalidLevels (fun vs H Q E h => ?_) (fun cdv A outer s H vs Q E hr h => ?_)
  · obtain ⟨a, v, rfl, _⟩ := h
    rfl
  · obtain ⟨a, v, rfl, ha, k⟩ := h
    refine ⟨_, PSs.nox (pss_cons (ps_expr (pe_xiniC rfl T.mgM T.iM.1 T.iM.2.1 T.iM.2.2 ha_VE (pa_cons (pv 0) (pa_cons (pv 1) pa_nil)))) (pss_one (ps_xst (pv 0) (pv 1)))), ?_⟩
    exact ⟨_, rfl, _, rfl, a, ga K "InvalidLevels", _, rfl, by simp, T.x_InvalidLevels, ha, _, rfl, _, rfl, a, ga K "InvalidLevels", _, rfl, T.x_InvalidLevels, T.n_InvalidLevels_value, .inl ⟨ha, fun dx hd hne => k dx hd hne⟩⟩
theorem sc_InvalidLevel : FnScope ["self", "value"] ["self", "value"] (defScope i_InvalidLevel) := ⟨rfl, rfl, rfl, by decide +kernel, rfl, by decide +kernel, by decide +kernel⟩
theorem ok_InvalidLevel (F : FD K e_InvalidLevel f fd) (T : Txt K mg) : FnOk P w K mg base CX0 1 f fd ["self", "value"] (MeE.spI1 (ga K "InvalidLevel") "value") := by
  refine F.ok sc_InvalidLevel (fun vs H Q E h => ?_) (fun cdv A outer s H vs Q E hr h => ?_)
  · obtain ⟨a, v, rfl, _⟩ := h
    rfl
  · obtain ⟨a, v, rfl, ha, k⟩ := h
    refine ⟨_, PSs.nox (pss_cons (ps_expr (pe_xiniC rfl T.mgM T.iM.1 T.iM.2.1 T.iM.2.2 ha_VE (pa_cons (pv 0) (pa_cons (pv 1) pa_nil)))) (pss_one (ps_xst (pv 0) (pv 1)))), ?_⟩
    exact ⟨_, rfl, _, rfl, a, ga K "InvalidLevel", _, rfl, by simp, T.x_InvalidLevel, ha, _, rfl, _, rfl, a, ga K "InvalidLevel", _, rfl, T.x_InvalidLevel, T.n_InvalidLevel_value, .inl ⟨ha, fun dx hd hne => k dx hd hne⟩⟩
theorem sc_BadRecords : FnScope ["self", "value"] ["self", "value"] (defScope i_BadRecords) := ⟨rfl, rfl, rfl, by decide +kernel, rfl, by decide +kernel, by decide +kernel⟩
theorem ok_BadRecords (F : FD K e_BadRecords f fd) (T : Txt K mg) : FnOk P w K mg base CX0 1 f fd ["self", "value"] (MeE.spI1 (ga K "BadRecords") "value") := by
  refine F.ok sc_BadRecords (fun vs H Q E h => ?_) (fun cdv A outer s H vs Q E hr h => ?_)
  · obtain ⟨a, v, rfl, _⟩ := h
    rfl
  · obtain ⟨a, v, rfl, ha, k⟩ := h
    refine ⟨_, PSs.nox (pss_cons (ps_expr (pe_xiniC rfl T.mgM T.iM.1 T.iM.2.1 T.iM.2.2 ha_VE (pa_cons (pv 0) (pa_cons (pv 1) pa_nil)))) (pss_one (ps_xst (pv 0) (pv 1)))), ?_⟩
    exact ⟨_, rfl, _, rfl, a, ga K "BadRecords", _, rfl, by simp, T.x_BadRecords, ha, _, rfl, _, rfl, a, ga K "BadRecords", _, rfl, T.x_BadRecords, T.n_BadRecords_value, .inl ⟨ha, fun dx hd hne => k dx hd hne⟩⟩
end
section
variable {P : Program} {w : World} {K : PySem.W.Frag} {mg : Str → Option Value} {base : Heap} {f : Addr} {fd : FuncData}
theorem sc_Levels_names : FnScope ["self"] ["self"] (defScope m_Levels_names) := ⟨rfl, rfl, rfl, by decide +kernel, rfl, by decide +kernel, by decide +kernel⟩
def r_Levels_names : MF := mDef ["self"] (nRet (mCB gList (mCons (mUn (gFld [3] "own_names") (mVar 0)) mNil)))
theorem k_Levels_names  (F : FD K f_Levels_names f fd) (T : Txt K mg)  : FnG P w K mg base (L2.CX P w) 1 f fd ["self"] (spM ⟨w, K, L0 K⟩ 1 r_Levels_names) := by
  obtain ⟨_, h_MOST_LETTERS⟩ := T.c_MOST_LETTERS
  obtain ⟨_, h_MOST_LEVELS⟩ := T.c_MOST_LEVELS
  obtain ⟨_, h_LETTERS⟩ := T.c_LETTERS
  exact fn_M F sc_Levels_names fun cdv A outer s H E hgd hr => (n_one (n_ret (ps_ret (m_cb (pe_callTy call_list_of (by rfl) T.f_list bo_list (m_cons (m_fld (fk_own_names T rfl) (m_var (pv 0))) m_nil)) sim_list))))
theorem sc_Levels_check : FnScope ["self", "level"] ["self", "level"] (defScope m_Levels_check) := ⟨rfl, rfl, rfl, by decide +kernel, rfl, by decide +kernel, by decide +kernel⟩
def r_Levels_check : MF := mDef ["self", "level"] (nIf (mOr (mNot (mTest (mCB (gIsU (tabOf tl)) (mCons (mVar 1) (mCons (mC (.ty "str")) mNil))))) (mTest (mBin (gOr (gInS true) (gOr (gInD true) (gDIn true))) (mVar 1) (mUn (gFld [3] "lower") (mVar 0))))) (nRaise 1 "value" (mCons (mVar 1) mNil)) nNil)
theorem k_Levels_check {fe_InvalidLevel : FuncData} (F : FD K f_Levels_check f fd) (T : Txt K mg) (G_InvalidLevel : ∀ {X : Cx}, X.prog = P → X.w = w → X.K = K → X.mg = mg → X.base = base → FnOk X.prog X.w X.K X.mg X.base CX0 1 (ma K (ga K "InvalidLevel") "__init__") fe_InvalidLevel ["self", "value"] (MeE.spI1 (ga K "InvalidLevel") "value")) (B_InvalidLevel : ∀ {X : Cx}, X.K = K → L2.Binds X.K fe_InvalidLevel ["self", "value"] []) : FnG P w K mg base (L2.CX P w) 3 f fd ["self", "level"] (spM ⟨w, K, L0 K⟩ 2 r_Levels_check) := by
  obtain ⟨_, h_MOST_LETTERS⟩ := T.c_MOST_LETTERS
  obtain ⟨_, h_MOST_LEVELS⟩ := T.c_MOST_LEVELS
  obtain ⟨_, h_LETTERS⟩ := T.c_LETTERS
  exact fn_M F sc_Levels_check fun cdv A outer s H E hgd hr => (n_one (n_if (PW.pt (mw_or (mt_not (mt_val (m_cb (pe_callB (call_isU (Z0 T rfl)) (by rfl) T.f_isinstance bo_isi (m_cons (m_var (pv 1)) (m_cons (m_c (pe_bltn (v := .ty "str") (by rfl) T.f_str bo_str rfl) fun _ _ => .ty _) m_nil))) sim_GB))) (pw_or1 (mt_cmp (OpR_or op_notIn_sign (OpR_or (op_notInD (u65 hr)) (op_dNotIn (cl := L0 K) (u9 hr)))) (sim_or sim_niS (sim_or sim_niD sim_G2)) (m_var (pv 1)) (m_fld (fk_lower T rfl) (m_var (pv 0))) rfl)))) (n_one (n_raise rfl (takes_of rfl rfl rfl rfl) (fun _ _ _ _ h => h) (pmk_oex T.o_InvalidLevel T.i_InvalidLevel.1 T.i_InvalidLevel.2 (G_InvalidLevel rfl rfl rfl rfl rfl) (hr.mono (by decide)) (B_InvalidLevel rfl) .nil pass0 rfl T.g_InvalidLevel (m_cons (m_var (pv 1)) m_nil)))) n_nil))
theorem sc_Levels_above : FnScope ["self", "one", "other"] ["self", "one", "other"] (defScope m_Levels_above) := ⟨rfl, rfl, rfl, by decide +kernel, rfl, by decide +kernel, by decide +kernel⟩
def r_Levels_above : MF := mDef ["self", "one", "other"] (nSeq (nDrop (mMeth 3 "check" 2 r_Levels_check (mVar 0) (mCons (mVar 1) mNil))) (nSeq (nDrop (mMeth 3 "check" 2 r_Levels_check (mVar 0) (mCons (mVar 2) mNil))) (nRet (mAndV (mBin gNe (mVar 1) (mVar 2)) (mBin (gOr (gInS false) (gOr (gInD false) (gDIn false))) (mVar 2) (mBin gIxU (mUn (gFld [3] "lower") (mVar 0)) (mVar 1)))))))
theorem k_Levels_above {fd_Levels_check : FuncData} (F : FD K f_Levels_above f fd) (T : Txt K mg) (C_Levels_check : ∀ {X : Cx}, X.prog = P → X.w = w → X.K = K → X.mg = mg → X.base = base → CalM X ⟨w, K, L0 K⟩ 3 "check" 3 (ma K (ga K "Levels") "check") fd_Levels_check ["self", "level"] r_Levels_check) : FnG P w K mg base (L2.CX P w) 4 f fd ["self", "one", "other"] (spM ⟨w, K, L0 K⟩ 3 r_Levels_above) := by
  obtain ⟨_, h_MOST_LETTERS⟩ := T.c_MOST_LETTERS
  obtain ⟨_, h_MOST_LEVELS⟩ := T.c_MOST_LEVELS
  obtain ⟨_, h_LETTERS⟩ := T.c_LETTERS
  exact fn_M F sc_Levels_above fun cdv A outer s H E hgd hr => (n_cons (n_drop (ps_expr (m_meth (C_Levels_check rfl rfl rfl rfl rfl) hgd (hr.mono (by decide)) (passS (takes_of rfl rfl rfl rfl) (fun _ _ _ _ h => h)) (m_var (pv 0)) (m_cons (m_var (pv 1)) m_nil)))) (n_cons (n_drop (ps_expr (m_meth (C_Levels_check rfl rfl rfl rfl rfl) hgd (hr.mono (by decide)) (passS (takes_of rfl rfl rfl rfl) (fun _ _ _ _ h => h)) (m_var (pv 0)) (m_cons (m_var (pv 2)) m_nil)))) (n_one (n_ret (ps_ret (m_and (m_cmp (op_neD hr.units) sim_neD (m_var (pv 1)) (m_var (pv 2)) (nomark _)) (pe_one (m_cmp (OpR_or op_in_sign (OpR_or (op_inD (u65 hr)) (op_dIn (cl := L0 K) (u9 hr)))) (sim_or sim_inS (sim_or sim_inD sim_G2)) (m_var (pv 2)) (m_ixU (u9 hr) (m_fld (fk_lower T rfl) (m_var (pv 0))) (m_var (pv 1)) (fun _ _ => rfl)) rfl))))))))
theorem sc_Record___init__ : FnScope ["self", "mark", "stamp", "after", "act", "first"] ["self", "mark", "stamp", "after", "act", "first"] (defScope m_Record___init__) := ⟨rfl, rfl, rfl, by decide +kernel, rfl, by decide +kernel, by decide +kernel⟩
def r_Record___init__ : MF := mDef ["self", "mark", "stamp", "after", "act", "first"] (nSeq (nFld [4] "mark" (mVar 0) (mVar 1)) (nSeq (nFld [4] "stamp" (mVar 0) (mVar 2)) (nSeq (nFld [4] "after" (mVar 0) (mVar 3)) (nSeq (nFld [4] "act" (mVar 0) (mVar 4)) (nSeq (nFld [4] "first" (mVar 0) (mVar 5)) (nFld [4] "key" (mVar 0) (mTup (mCons (mVar 1) (mCons (mVar 2) (mCons (mVar 3) (mCons (mVar 4) (mCons (mVar 5) mNil))))))))))))
theorem k_Record___init__  (F : FD K f_Record___init__ f fd) (T : Txt K mg)  : FnG P w K mg base (L2.CX P w) 1 f fd ["self", "mark", "stamp", "after", "act", "first"] (spM ⟨w, K, L0 K⟩ 6 r_Record___init__) := by
  obtain ⟨_, h_MOST_LETTERS⟩ := T.c_MOST_LETTERS
  obtain ⟨_, h_MOST_LEVELS⟩ := T.c_MOST_LEVELS
  obtain ⟨_, h_LETTERS⟩ := T.c_LETTERS
  exact fn_M F sc_Record___init__ fun cdv A outer s H E hgd hr => (n_cons (n_fld (fk_mark T rfl) (m_var (pv 0)) (m_var (pv 1))) (n_cons (n_fld (fk_stamp T rfl) (m_var (pv 0)) (m_var (pv 2))) (n_cons (n_fld (fk_after T rfl) (m_var (pv 0)) (m_var (pv 3))) (n_cons (n_fld (fk_act T rfl) (m_var (pv 0)) (m_var (pv 4))) (n_cons (n_fld (fk_first T rfl) (m_var (pv 0)) (m_var (pv 5))) (n_one (n_fld (fk_key T rfl) (m_var (pv 0)) (m_tup (m_cons (m_var (pv 1)) (m_cons (m_var (pv 2)) (m_cons (m_var (pv 3)) (m_cons (m_var (pv 4)) (m_cons (m_var (pv 5)) m_nil)))))))))))))
theorem sc_Record___eq__ : FnScope ["self", "other"] ["self", "other"] (defScope m_Record___eq__) := ⟨rfl, rfl, rfl, by decide +kernel, rfl, by decide +kernel, by decide +kernel⟩
def r_Record___eq__ : MF := mDef ["self", "other"] (nRet (mAndV (mCB (gIsU (tabOf tl)) (mCons (mVar 1) (mCons (mC (.cls 4)) mNil))) (mBin gEq (mUn (gFld [4] "key") (mVar 0)) (mUn (gFld [4] "key") (mVar 1)))))
theorem k_Record___eq__  (F : FD K f_Record___eq__ f fd) (T : Txt K mg)  : FnG P w K mg base (L2.CX P w) 1 f fd ["self", "other"] (spM ⟨w, K, L0 K⟩ 2 r_Record___eq__) := by
  obtain ⟨_, h_MOST_LETTERS⟩ := T.c_MOST_LETTERS
  obtain ⟨_, h_MOST_LEVELS⟩ := T.c_MOST_LEVELS
  obtain ⟨_, h_LETTERS⟩ := T.c_LETTERS
  exact fn_M F sc_Record___eq__ fun cdv A outer s H E hgd hr => (n_one (n_ret (ps_ret (m_and (m_cb (pe_callB (call_isU (Z0 T rfl)) (by rfl) T.f_isinstance bo_isi (m_cons (m_var (pv 1)) (m_cons (m_c (pe_glob (v := .ref (ga K "Record")) rfl T.g_Record rfl) fun _ _ => .cls 4) m_nil))) sim_GB) (pe_one (m_cmp (op_eqD hr.units) sim_eqD (m_fld (fk_key T rfl) (m_var (pv 0))) (m_fld (fk_key T rfl) (m_var (pv 1))) (nomark _)))))))
theorem sc_sibling_key : FnScope ["levels", "record"] ["levels", "record"] (defScope s_sibling_key) := ⟨rfl, rfl, rfl, by decide +kernel, rfl, by decide +kernel, by decide +kernel⟩
def r_sibling_key : MF := mDef ["levels", "record"] (nRet (mTup (mCons (mBin (gI fun i j => .int (i - j)) (mC (.int 0)) (mMt (selB isL gIndex) (mMeth 3 "names" 1 r_Levels_names (mVar 0) mNil) (mCons (mBin gIxU (mUn (gFld [4] "mark") (mVar 1)) (mC (.int 0))) mNil))) (mCons (mUn (gFld [4] "stamp") (mVar 1)) (mCons (mBin gIxU (mUn (gFld [4] "mark") (mVar 1)) (mC (.int 1))) (mCons (mBin gIxU (mUn (gFld [4] "mark") (mVar 1)) (mC (.int 2))) mNil))))))
theorem k_sibling_key {fd_Levels_names : FuncData} (F : FD K d_sibling_key f fd) (T : Txt K mg) (C_Levels_names : ∀ {X : Cx}, X.prog = P → X.w = w → X.K = K → X.mg = mg → X.base = base → CalM X ⟨w, K, L0 K⟩ 3 "names" 1 (ma K (ga K "Levels") "names") fd_Levels_names ["self"] r_Levels_names) : FnG P w K mg base (L2.CX P w) 2 f fd ["levels", "record"] (spM ⟨w, K, L0 K⟩ 2 r_sibling_key) := by
  obtain ⟨_, h_MOST_LETTERS⟩ := T.c_MOST_LETTERS
  obtain ⟨_, h_MOST_LEVELS⟩ := T.c_MOST_LEVELS
  obtain ⟨_, h_LETTERS⟩ := T.c_LETTERS
  exact fn_M F sc_sibling_key fun cdv A outer s H E hgd hr => (n_one (n_ret (ps_ret (m_tup (m_cons (m_op op_sub (sim_I0 fun i j _ _ => .int _) m_int (m_mt (meth_list PySem.F.slot_list_index PySem.F.type_list_index (mtG (mt_indexD (u65 hr)) sim_index)) (m_meth0 (C_Levels_names rfl rfl rfl rfl rfl) hgd (hr.mono (by decide)) (passS (takes_of rfl rfl rfl rfl) (fun _ _ _ _ h => h)) (m_var (pv 0))) (m_cons (m_ixU (u9 hr) (m_fld (fk_mark T rfl) (m_var (pv 1))) m_int (fun _ _ => rfl)) m_nil))) (m_cons (m_fld (fk_stamp T rfl) (m_var (pv 1))) (m_cons (m_ixU (u9 hr) (m_fld (fk_mark T rfl) (m_var (pv 1))) m_int (fun _ _ => rfl)) (m_cons (m_ixU (u9 hr) (m_fld (fk_mark T rfl) (m_var (pv 1))) m_int (fun _ _ => rfl)) m_nil))))))))
end
end K54
end
section
set_option Elab.async false
set_option linter.all false
set_option maxRecDepth 100000
set_option maxHeartbeats 4000000
/-! ints: times, remainder, quotient, power; values() and items() of any dict; a def with a lambda of its own; callees known in another context -/
namespace Mi
open PySem PySem.Spec PyProof.Rows L2 Evl MeV MeD MeG MeL He MeK LamX
def lowB (i : Int) : Bool := decide (-18446744073709551616 < i ∧ i < 18446744073709551616)
def gMul : D → D → Mem → R D := gIc (fun i j => lowB i || lowB j) fun i j => .int (i * j)
def gMod : D → D → Mem → R D := gIc (fun _ j => decide (0 < j)) fun i j => .int (i % j)
def gFdiv : D → D → Mem → R D := gIc (fun _ j => decide (0 < j ∧ j < 1073741824)) fun i j => .int (i / j)
def gPow : D → D → Mem → R D := gIc (fun i j => decide (0 ≤ j ∧ j ≤ 1000 ∧ i.natAbs < 18446744073709551616)) fun i j => .int (i ^ j.toNat)
section
variable {c : Cc}
theorem sim_mul : SimR c (rI CMul fun i j => .int (i * j)) gMul := sim_Ic (fun i j h => by
  unfold lowB at h
  rcases Bool.or_eq_true_iff.mp h with z | z
  · exact .inl (by have := of_decide_eq_true z; exact ⟨by omega, by omega⟩)
  · exact .inr (by have := of_decide_eq_true z; exact ⟨by omega, by omega⟩)) fun i j _ _ => .int _
theorem sim_mod : SimR c (rI (fun _ j => 0 < j) fun i j => .int (i % j)) gMod := sim_Ic (fun i j h => of_decide_eq_true h) fun i j _ _ => .int _
theorem sim_fdiv : SimR c (rI CDiv fun i j => .int (i / j)) gFdiv := sim_Ic (fun i j h => show 0 < j ∧ j < 1073741824 from of_decide_eq_true h) fun i j _ _ => .int _
theorem sim_pow : SimR c (rI CPow fun i j => .int (i ^ j.toNat)) gPow := sim_Ic (fun i j h => by
  have z := of_decide_eq_true h
  exact ⟨z.1, by omega, by omega⟩) fun i j _ _ => .int _
end
/-! values(), items(), whichever dict it is -/
section
variable {c : Cc} {h : Hp} {ι : List Addr}
theorem walks_FV {a : Addr} {ep : Nat} {xs : List EntV} {ds : List (D × D)} (hd : h a = some (DicO c.w a ep xs)) (r : RepK c h ι xs ds) : Walks c h ι (ItD c.w a ep xs.length fun e => e.2.2) (itL (ds.map fun p => p.2)) := fun S2 ι2 mem2 H2 i s e p => by
  obtain ⟨hd2, r2⟩ := frz_D hd r e p
  unfold itL
  rw [List.getElem?_map]
  cases q : ds[i]? with
  | none =>
    dsimp only [Option.map_none]
    cases Nat.beq i (ds.map fun p => p.2).length with
    | false => trivial
    | true => exact ⟨xs, hd2, rfl, by rw [r.len]; exact List.getElem?_eq_none_iff.mp q⟩
  | some pr =>
    obtain ⟨y, h1, _, _, h2⟩ := r2.at_ q
    refine ⟨⟨xs, hd2, rfl, (List.getElem?_eq_some_iff.mp h1).1⟩, fun x H3 z => ?_⟩
    obtain ⟨rfl, z2⟩ := z
    obtain ⟨e', h3, rfl⟩ := z2 xs hd2
    rw [h1] at h3
    cases h3
    exact ⟨Ex.refl _, h2⟩
theorem walks_FP {a : Addr} {ep : Nat} {xs : List EntV} {ds : List (D × D)} (hd : h a = some (DicO c.w a ep xs)) (r : RepK c h ι xs ds) : Walks c h ι (ItP c.w a ep xs.length) (itL (ds.map prD)) := fun S2 ι2 mem2 H2 i s e p => by
  obtain ⟨hd2, r2⟩ := frz_D hd r e p
  unfold itL
  rw [List.getElem?_map]
  cases q : ds[i]? with
  | none =>
    dsimp only [Option.map_none]
    cases Nat.beq i (ds.map prD).length with
    | false => trivial
    | true => exact ⟨xs, hd2, rfl, by rw [r.len]; exact List.getElem?_eq_none_iff.mp q⟩
  | some pr =>
    obtain ⟨y, h1, _, h2, h2'⟩ := r2.at_ q
    refine ⟨⟨xs, hd2, rfl, (List.getElem?_eq_some_iff.mp h1).1⟩, fun x H3 z => ?_⟩
    obtain ⟨T, u, v, rfl, hT, rfl, z2⟩ := z
    obtain ⟨e', h3, rfl, rfl⟩ := z2 xs hd2
    rw [h1] at h3
    cases h3
    obtain ⟨s3, f3, h4⟩ := s.new (o := .tup [y.2.1, y.2.2]) hT (fun _ z => nomatch z)
    exact ⟨Ex.new hT, Rep.tup (st_of h4) (.cons (h2.up f3.e f3.p) (.cons (h2'.up f3.e f3.p) .nil))⟩
end
def dItO (f : D × D → D) (m : Mem) : D → Option MIt
  | .dic ds => some (itL (ds.map f))
  | .ref n => match m[n]? with
    | some (.dic ep ds) => some (itDM n ep ds.length f)
    | _ => none
  | _ => none
def wDU (f : D × D → D) (x : ME) : MW := fun sl m => (x sl m).bind fun d m1 => match dItO f m1 d with
  | some it => .ok it m1
  | none => .no
section
variable {c : Cc} {E : SX} {x : ME}
theorem sim_wDU {f : D × D → D} {J : Addr → Nat → Nat → It} (hw : ∀ {h : Hp} {ι : List Addr} {n ep N : Nat} {a : Addr}, ι[n]? = some a → Walks c h ι (J a ep N) (itDM n ep N f)) (hz : ∀ {h : Hp} {ι : List Addr} {a : Addr} {ep : Nat} {xs : List EntV} {ds : List (D × D)}, h a = some (DicO c.w a ep xs) → RepK c h ι xs ds → Walks c h ι (J a ep xs.length) (itL (ds.map f))) : SimW c E (iD c.w J (tM c E x)) (wDU f x) := fun S ι mem H σ sl K s q p => by
  refine ⟨S, ι, mem, sl, s, q, ?_⟩
  unfold wDU at p
  cases hx : x sl mem with
  | no =>
    rw [hx] at p
    exact p.elim
  | exc k fs m1 =>
    rw [hx] at p
    exact p
  | ok d m1 =>
    rw [hx] at p
    intro v ι1 H1 s1 f1 r1
    have p' : (match (match dItO f m1 d with
      | some it => R.ok it m1
      | none => R.no) with
      | .ok it m1 => ∀ J ι1 H1, SR c S ι1 m1 H1 → Fr S ι H ι1 H1 → Walks c (fz S ι1 H1) ι1 J it → K J H1
      | .exc k fs m1 => ∀ x ws ι' H', SR c S ι' m1 H' → Fr S ι H ι' H' → fz S ι' H' x = some (.xd ws) → RepF c (fz S ι' H') ι' ws fs → E σ (.ref (c.cl k)) (some x) H'
      | .no => False) := p
    cases r1 <;> try exact (show False from p').elim
    · rename_i n a hn
      unfold dItO at p'
      dsimp only at p'
      cases hm : m1[n]? with
      | none =>
        rw [hm] at p'
        exact p'.elim
      | some o =>
        rw [hm] at p'
        cases o with
        | ins k fs => exact p'.elim
        | lst ds => exact p'.elim
        | dic ep ds =>
          obtain ⟨O, h1, h2⟩ := s1.at_ n _ _ hn hm
          cases h2 with
          | dic ra => exact ⟨a, _, _, rfl, S.sub _ _ _ h1, p' _ ι1 H1 s1 f1 (by rw [ra.len]; exact hw hn)⟩
    · rename_i a ep xs ds h1 h2
      exact ⟨a, _, _, rfl, fz_sub _ _ h1, p' _ ι1 H1 s1 f1 (hz h1 h2)⟩
theorem sim_wUV : SimW c E (iD c.w (fun d ep n => ItD c.w d ep n fun e => e.2.2) (tM c E x)) (wDU (fun p => p.2) x) := sim_wDU (fun hn => walks_DV hn) fun a b => walks_FV a b
theorem sim_wUP : SimW c E (iD c.w (fun d ep n => ItP c.w d ep n) (tM c E x)) (wDU prD x) := sim_wDU (fun hn => walks_DP hn) fun a b => walks_FP a b
end
/-- a lambda of one parameter is made -/
theorem pe_lam1 {X : Cx} {T : List (Addr × Str)} {c P : Addr} {params : Arguments} {body : Expr} {scope : Scope} {pos : Pos} {p : Str} (TB : TabB X.base X.mg c P) (hcode : X.env.code = .ref c)
    (hm : (P, X.env.qual ++ "<lambda>") ∈ T) (hu : ∀ p ∈ T, p.1 = P → p.2 = X.env.qual ++ "<lambda>") (hdef : defaultsOf params X.env = ([], [])) (L : LamP X.env.scope scope p) :
    PE X (.Lambda params body scope pos) (tLamV T (X.env.qual ++ "<lambda>") params body scope (cloFrom X.env.cells scope.names [])) := pe_lamF TB hcode hm hu hdef fun ok y h e => ok.has _ (L.free _ h e)
/-! lengths of lists of the memory -/
def gLenM : List D → Mem → R D := fun ds m => match ds with
  | [d] => match listOf m d with
    | some xs => .ok (.int xs.length) m
    | none => .no
  | _ => .no
def gLenW : List D → Mem → R D := gOrB gLenU gLenM
theorem sim_lenM {c : Cc} : SimB c (fun xs H Q => ∃ p ys, xs = [V.ref p] ∧ (SqL c.K H p ys ∨ SqT c.K H p ys) ∧ Q (.int ys.length) H) gLenM := fun E S ι mem H xs ds Q s r p => by
  unfold gLenM at p
  split at p
  · obtain ⟨v, rfl, h⟩ := repA1 r
    rename_i d
    cases e : Mi.listOf mem d with
    | none =>
      rw [e] at p
      exact p.elim
    | some ys =>
      rw [e] at p
      obtain ⟨a, xs, rfl, h1, h2⟩ := listOf_ok s h e
      exact ⟨_, _, rfl, .inl h1, by rw [h2.len]; exact Post.here (v := V.int _) p s (Rep.int _)⟩
  · exact p.elim
section
variable {X : Cx} {E : SX} {e : Expr} {ms : MA} {pos : Pos}
theorem m_lenW {cl : Cl} {es : List Expr} {p : Pos} (hg : Gl X "len") (hm : X.mg "len" = none) (ha : PA X (e :: es) (tMA ⟨X.w, X.K, cl⟩ E ms)) (he : starEach (e :: es) X.env = (false, eval e X.env) :: starEach es X.env := by rfl) (hpl : (backTo pos (starEach es X.env)).any (·.1) = false := by rfl) :
    PE X (.Call (.Name "len" p) (e :: es) [] pos) (tM ⟨X.w, X.K, cl⟩ E (mCB gLenW ms)) := m_cb (c := ⟨X.w, X.K, cl⟩) (pe_callB (CallR_or (CallR_or call_len_seq call_len_str) call_len_seq) hg hm PySem.boot_len ha (by decide) (by decide) he hpl) (simB_or (simB_or sim_len sim_lenS) sim_lenM)
end
/-! a test whose memory is lent -/
section
variable {X : Cx} {c : Cc} {E : SX} {e : Expr} {x : ME} {N : Nat}
theorem s_lendT (hcap : c.L.cap = []) (σ : L2.St) (H : Hp) (Q : Bool → Hp → Prop) : tMT c E (mTest (lendE N x)) σ H Q → tMT c E (mTest x) σ H Q := fun ⟨S, ι, mem, sl, s, q, p⟩ => by
  refine ⟨S, [], [], slF mem N sl, ⟨s.i, List.nodup_nil, rfl, fun k a o e => (by cases e), fun p hp => (by rw [hcap] at hp; cases hp), s.tb⟩, ?_, ?_⟩
  · refine slF_ok (frz_ok (fun a o h => fz_of (List.not_mem_nil) (of_fz h).2) (fun k a o h1 h2 => ?_) N) q
    obtain ⟨O, h3, h4⟩ := s.at_ k a o h1 h2
    exact ⟨O, fz_of (List.not_mem_nil) h3, h4⟩
  · unfold mTest lendE at p
    unfold mTest
    cases hx : x (slF mem N sl) [] with
    | no =>
      rw [hx] at p
      exact p.elim
    | exc k fs m =>
      rw [hx] at p
      have p2 : Post c (E σ) S ι H (rD c) (outB N mem (.exc k fs m)) (fun _ _ => False) := by
        unfold outB at p ⊢
        dsimp only at p ⊢
        cases hf : fs.all fun p => flat N p.2 with
        | false =>
          rw [hf] at p
          exact p.elim
        | true =>
          rw [hf] at p
          exact p
      exact lend_post s p2
    | ok d m =>
      rw [hx] at p
      unfold outB at p
      dsimp only at p
      cases hf : flat N d with
      | false =>
        rw [hf] at p
        exact p.elim
      | true =>
        rw [hf] at p
        cases d <;> try exact (show False from p).elim
        exact fun v ι' H' s' f' r' => p v ι H' (lend_back s s' f').1 (lend_back s s' f').2 r'
theorem mt_lend (N : Nat) (hcap : c.L.cap = []) (h : PT X e (tMT c E (mTest x))) : PT X e (tMT c E (mTest (lendE N x))) := h.weak (s_lendT hcap)
end
/-! a callee's promise, in a context with other lambdas -/
section
variable {X : Cx} {c c2 : Cc} {x m : Str} {k i : Nat} {f : Addr} {fd : FuncData} {ps : List Str} {mf : MF}
theorem Cal.lend (N : Nat) (kn : Kin c2 c) (hcap : c.L.cap = []) (C : Cal X c x k f fd ps mf) : Cal X c2 x k f fd ps (pureF N mf) := ⟨fn_pure2 N kn hcap C.F, C.hm, C.hk, C.hb⟩
theorem CalM.lend (N : Nat) (kn : Kin c2 c) (hcap : c.L.cap = []) (C : CalM X c i m k f fd ps mf) : CalM X c2 i m k f fd ps (pureF N mf) := ⟨fn_pure2 N kn hcap C.F, by rw [← kn.cl i]; exact C.cls, by rw [← kn.cl i]; exact C.mth, C.hb⟩
end
section
variable {X : Cx} {w : World} {K : PySem.W.Frag} {cls : Nat → Addr} {lam : Nat → Option LamD} {tabs : Option (List (Addr × Str))} {x m : Str} {k i : Nat} {f : Addr} {fd : FuncData} {ps : List Str} {mf : MF}
theorem Cal.lendL (N : Nat) (C : Cal X ⟨w, K, ⟨cls, none, fun _ => none, [], tabs⟩⟩ x k f fd ps mf) : Cal X ⟨w, K, ⟨cls, none, lam, [], tabs⟩⟩ x k f fd ps (pureF N mf) := C.lend N (c := ⟨w, K, ⟨cls, none, fun _ => none, [], tabs⟩⟩) ⟨rfl, rfl, rfl, rfl⟩ rfl
theorem CalM.lendL (N : Nat) (C : CalM X ⟨w, K, ⟨cls, none, fun _ => none, [], tabs⟩⟩ i m k f fd ps mf) : CalM X ⟨w, K, ⟨cls, none, lam, [], tabs⟩⟩ i m k f fd ps (pureF N mf) := C.lend N (c := ⟨w, K, ⟨cls, none, fun _ => none, [], tabs⟩⟩) ⟨rfl, rfl, rfl, rfl⟩ rfl
end
/-! a def whose body makes lambdas -/
section
variable {P : Program} {w : World} {K : PySem.W.Frag} {mg : Str → Option Value} {base : Heap} {x qual : Str} {params : Arguments} {body : List Stmt} {scope : Scope} {dvs : List V} {kws : List (Str × V)} {fd : FuncData} {p : Str × Option Str}
theorem okGd {CX : CXT} {N ps : List Str} {k : Nat} {sp : Sp} (F : FunD K x qual params body scope dvs kws (fAd K p) fd) (S : FnScope N ps scope) (len : ∀ vs H Q E, sp vs H Q E → vs.length = ps.length)
    (hbody : ∀ (A : Around) (outer : List Env) (s : Shared) (H : Hp) (vs : List V) (Q : VK) (E : XK), (A.deeper (envOfC qual scope s.heap.objs.size (fAd K p) (.ref (codeOf K p)))).guards = some [] → Room k (A.deeper (envOfC qual scope s.heap.objs.size (fAd K p) (.ref (codeOf K p)))) → sp vs H Q E →
      ∃ t, PSs (cxOf CX P w K mg base N qual scope (fAd K p) (.ref (codeOf K p)) A outer s H E) body t ∧ t { nx := fun _ H' => Q .non H', rt := Q } (L2.start N vs) H) : FnG P w K mg base CX (k + 1) (fAd K p) fd ps sp := by
  obtain ⟨_, _, _, _, _, _, _, cdv, _, _, e, lk, hcd, _⟩ := F.ex
  subst e
  obtain ⟨c, hc⟩ := codeIn_ref hcd
  subst hc
  have e := codeOf_eq (p := p) lk rfl
  refine ⟨len, fun A outer s H args us vs Q E g room env bind vals want => LamX.run_ofS lk hcd S room env bind vals (len _ _ _ _ want) fun room' => ?_⟩
  have go := hbody A outer s H vs Q E g
  rw [e] at go
  exact go room' want
/-- lam: the lambdas of the body, by its frame -/
theorem fn_ML {N ps : List Str} {k Nf : Nat} {b : MS} {cls : Nat → Addr} {tabs : Option (List (Addr × Str))} (lam : Cx → Nat → Option LamD) (F : FunD K x qual params body scope dvs kws (fAd K p) fd) (Sg : FnScope N ps scope)
    (hb : ∀ (A : Around) (outer : List Env) (s : Shared) (H : Hp) (E : XK), (A.deeper (envOfC qual scope s.heap.objs.size (fAd K p) (.ref (codeOf K p)))).guards = some [] → Room k (A.deeper (envOfC qual scope s.heap.objs.size (fAd K p) (.ref (codeOf K p)))) →
      PSs (cxOf (L2.CX P w) P w K mg base N qual scope (fAd K p) (.ref (codeOf K p)) A outer s H E) body (tMS ⟨w, K, ⟨cls, none, lam (cxOf (L2.CX P w) P w K mg base N qual scope (fAd K p) (.ref (codeOf K p)) A outer s H E), [], tabs⟩⟩ (fun _ => E) b)) :
    FnG P w K mg base (L2.CX P w) (k + 1) (fAd K p) fd ps (spM ⟨w, K, ⟨cls, none, fun _ => none, [], tabs⟩⟩ ps.length (pureF Nf (mDef N b))) := by
  refine okGd F Sg (fun vs H Q E h => ?_) fun A outer s H vs Q E hgd hr h => ?_
  · obtain ⟨S, ι, mem, ds, _, h2, h3, _⟩ := h
    rw [h2.len]
    exact h3
  · have h := spM_pure2 (c := ⟨w, K, ⟨cls, none, fun _ => none, [], tabs⟩⟩) (c2 := ⟨w, K, ⟨cls, none, lam (cxOf (L2.CX P w) P w K mg base N qual scope (fAd K p) (.ref (codeOf K p)) A outer s H E), [], tabs⟩⟩) ⟨rfl, rfl, rfl, rfl⟩ rfl h
    obtain ⟨S, ι, mem, ds, h1, h2, h3, p⟩ := h
    refine ⟨_, hb A outer s H E hgd hr, S, ι, mem, slStart N ds, h1, repSl_start N h2, ?_⟩
    have p' := p
    unfold mDef at p'
    cases hm : b (slStart N ds) mem with
    | next sl m =>
      rw [hm] at p'
      exact fun σ ι' H' s' f' _ => p' V.non ι' H' s' f' Rep.non
    | ret d m =>
      rw [hm] at p'
      exact p'
    | exc k fs sl m =>
      rw [hm] at p'
      exact fun σ x ws ι' H' s' f' _ a b => p' x ws ι' H' s' f' a b
    | brk sl m =>
      rw [hm] at p'
      exact p'.elim
    | cont sl m =>
      rw [hm] at p'
      exact p'.elim
    | no =>
      rw [hm] at p'
      exact p'.elim
end
end Mi
end
section
set_option Elab.async false
set_option linter.all false
set_option maxRecDepth 100000
set_option maxHeartbeats 4000000
set_option pp.maxSteps 600
namespace K54
open PySem PySem.Spec PyProof.Rows L2 He MeH MeG MeK Evl MeV MeL MeD MeO Mi LamX

theorem u8 {k : Nat} {A : Around} (r : Room k A) : A.units + 8 < cLine := by have := r.un; omega
theorem u0 {k : Nat} {A : Around} (r : Room k A) : A.units < cLine := by have := r.un; omega
theorem u10 {k : Nat} {A : Around} (r : Room k A) : A.units + 2 + 8 < cLine := by have := r.un; omega
theorem bo_max : bootBuiltins "max" = some (.builtin "max") := by decide +kernel
theorem bo_min : bootBuiltins "min" = some (.builtin "min") := by decide +kernel
def bodyW : Stmt → List Stmt
  | .While _ b _ _ => b
  | _ => []
def sortLam : Stmt → Option (Arguments × Expr × Scope)
  | .Assign _ (.Call _ _ [⟨_, .Lambda p b s _, _⟩] _) _ => some (p, b, s)
  | _ => none
def noS : Stmt := .Pass ⟨0, 0, 0, 0⟩
def lamZ : Option (Arguments × Expr × Scope) := sortLam ((bodyW ((defBody s_records_in_order).getD 6 noS)).getD 2 noS)
def lsc : Scope := match lamZ with
  | some z => z.2.2
  | none => defScope s_records_in_order
def lamR (X : Cx) : Nat → Option LamD := fun j => match j with
  | 0 => lamZ.map fun z => ⟨X.env.qual ++ "<lambda>", z.1, z.2.1, z.2.2, cloFrom X.env.cells z.2.2.names []⟩
  | _ => none
theorem lp1 : lamPB (defScope s_records_in_order) lsc "record" = true := by decide +kernel
theorem tab1 {K : PySem.W.Frag} : ∀ p ∈ T0 K, p.1 = (cT K ("records_in_order", none)).2 → p.2 = q0 := fun p hp _ => by rw [List.mem_singleton.mp hp]

section
variable {P : Program} {w : World} {K : PySem.W.Frag} {mg : Str → Option Value} {base : Heap} {f : Addr} {fd : FuncData}
theorem sc_Levels___init__ : FnScope ["self", "names", "pairs", "name", "found", "low", "high"] ["self", "names", "pairs"] (defScope m_Levels___init__) := ⟨rfl, rfl, rfl, by decide +kernel, rfl, by decide +kernel, by decide +kernel⟩
def r_Levels___init__ : MF := mDef ["self", "names", "pairs", "name", "found", "low", "high"] (nSeq (nIf (mNot (mTest (mCall 1 r_are_names (mCons (mVar 1) mNil)))) (nRaise 0 "value" (mCons (mVar 1) mNil)) nNil) (nSeq (nIf (mNot (mTest (mCall 2 r_are_pairs (mCons (mCB gList (mCons (mVar 1) mNil)) (mCons (mVar 2) mNil))))) (nRaise 0 "value" (mCons (mVar 2) mNil)) nNil) (nSeq (nFld [3] "own_names" (mVar 0) (mCB gListN (mCons (mVar 1) mNil))) (nSeq (nFld [3] "lower" (mVar 0) mDE) (nForW 12 (wV (mUn (gFld [3] "own_names") (mVar 0))) (gSet 3) (nSeq (nAsg 4 (mDisp [((mVar 3), (mC (.bl true))), ((mBin gIxU (mUn (gFld [3] "own_names") (mVar 0)) (mC (.int 0))), (mC (.bl true)))])) (nSeq (nFor (iU (mVar 2)) (Mi.gTup [(gSet 5), (gSet 6)]) (nIf (mTest (mBin gEq (mVar 6) (mVar 3))) (nDrop (mMt (selB isD gUpdate) (mVar 4) (mCons (mBin gIxU (mUn (gFld [3] "lower") (mVar 0)) (mVar 5)) mNil))) nNil)) (nSubU stU (mUn (gFld [3] "lower") (mVar 0)) (mVar 3) (mVar 4)))))))))
theorem k_Levels___init__ {f_are_names : Addr} {fd_are_names : FuncData} {f_are_pairs : Addr} {fd_are_pairs : FuncData} {fe_InvalidLevels : FuncData} (F : FD K f_Levels___init__ f fd) (T : Txt K mg) (C_are_names : ∀ {X : Cx}, X.prog = P → X.w = w → X.K = K → X.mg = mg → X.base = base → Cal X ⟨w, K, L0 K⟩ "are_names" 2 f_are_names fd_are_names ["names"] r_are_names) (C_are_pairs : ∀ {X : Cx}, X.prog = P → X.w = w → X.K = K → X.mg = mg → X.base = base → Cal X ⟨w, K, L0 K⟩ "are_pairs" 1 f_are_pairs fd_are_pairs ["names", "pairs"] r_are_pairs) (G_InvalidLevels : ∀ {X : Cx}, X.prog = P → X.w = w → X.K = K → X.mg = mg → X.base = base → FnOk X.prog X.w X.K X.mg X.base CX0 1 (ma K (ga K "InvalidLevels") "__init__") fe_InvalidLevels ["self", "value"] (MeE.spI1 (ga K "InvalidLevels") "value")) (B_InvalidLevels : ∀ {X : Cx}, X.K = K → L2.Binds X.K fe_InvalidLevels ["self", "value"] []) : FnG P w K mg base (L2.CX P w) 4 f fd ["self", "names", "pairs"] (spM ⟨w, K, L0 K⟩ 3 r_Levels___init__) := by
  obtain ⟨_, h_MOST_LETTERS⟩ := T.c_MOST_LETTERS
  obtain ⟨_, h_MOST_LEVELS⟩ := T.c_MOST_LEVELS
  obtain ⟨_, h_LETTERS⟩ := T.c_LETTERS
  exact fn_M F sc_Levels___init__ fun cdv A outer s H E hgd hr => (n_cons (n_if (mt_not (mt_val (m_call (C_are_names rfl rfl rfl rfl rfl) hgd (hr.mono (by decide)) rfl (passS (takes_of rfl rfl rfl rfl) (fun _ _ _ _ h => h)) (m_cons (m_var (pv 1)) m_nil)))) (n_one (n_raise rfl (takes_of rfl rfl rfl rfl) (fun _ _ _ _ h => h) (pmk_oex T.o_InvalidLevels T.i_InvalidLevels.1 T.i_InvalidLevels.2 (G_InvalidLevels rfl rfl rfl rfl rfl) (hr.mono (by decide)) (B_InvalidLevels rfl) .nil pass0 rfl T.g_InvalidLevels (m_cons (m_var (pv 1)) m_nil)))) n_nil) (n_cons (n_if (mt_not (mt_val (m_call (C_are_pairs rfl rfl rfl rfl rfl) hgd (hr.mono (by decide)) rfl (passS (takes_of rfl rfl rfl rfl) (fun _ _ _ _ h => h)) (m_cons (m_cb (pe_callTy call_list_of (by rfl) T.f_list bo_list (m_cons (m_var (pv 1)) m_nil)) sim_list) (m_cons (m_var (pv 2)) m_nil))))) (n_one (n_raise rfl (takes_of rfl rfl rfl rfl) (fun _ _ _ _ h => h) (pmk_oex T.o_InvalidLevels T.i_InvalidLevels.1 T.i_InvalidLevels.2 (G_InvalidLevels rfl rfl rfl rfl rfl) (hr.mono (by decide)) (B_InvalidLevels rfl) .nil pass0 rfl T.g_InvalidLevels (m_cons (m_var (pv 2)) m_nil)))) n_nil) (n_cons (n_fld (fk_own_names T rfl) (m_var (pv 0)) (m_cb (pe_callTy call_list_of (by rfl) T.f_list bo_list (m_cons (m_var (pv 1)) m_nil)) sim_listN)) (n_cons (n_fld (fk_lower T rfl) (m_var (pv 0)) m_dE) (n_one (n_forW (ps_for (passes_of rfl) rfl (pi_any (m_fld (fk_own_names T rfl) (m_var (pv 0)))) (pg_name (i := 3) sc_Levels___init__.nd rfl (Or.inl rfl)) (n_cons (n_asg (ps_set (i := 4) sc_Levels___init__.nd rfl (Or.inl rfl) (m_disp (ps := [((mVar 3), (mC (.bl true))), ((mBin gIxU (mUn (gFld [3] "own_names") (mVar 0)) (mC (.int 0))), (mC (.bl true)))]) (u8 hr) (pps_cons (m_var (pv 3)) m_bl (pps_cons (m_ixU (u9 hr) (m_fld (fk_own_names T rfl) (m_var (pv 0))) m_int (fun _ _ => rfl)) m_bl pps_nil)) rfl rfl (by simp) (by decide)))) (n_cons (n_for (ps_for (passes_of rfl) rfl (pi_U (m_var (pv 2))) (pg_tup rfl (pgs_cons (pg_name (i := 5) sc_Levels___init__.nd rfl (Or.inl rfl)) (pgs_cons (pg_name (i := 6) sc_Levels___init__.nd rfl (Or.inl rfl)) pgs_nil))) (n_one (n_if (mt_cmp (op_eqD hr.units) sim_eqD (m_var (pv 6)) (m_var (pv 3)) (nomark _)) (n_one (n_drop (ps_expr (m_mt (meth_update (u9 hr)) (m_var (pv 4)) (m_cons (m_ixU (u9 hr) (m_fld (fk_lower T rfl) (m_var (pv 0))) (m_var (pv 5)) (fun _ _ => rfl)) m_nil))))) n_nil))) sim_iU (g_tup (gs_cons (g_set 5) (gs_cons (g_set 6) gs_nil)) rfl)) (n_one (n_subU (ps_asg (m_var (pv 4)) (pg_sub (m_fld (fk_lower T rfl) (m_var (pv 0))) (m_var (pv 3)) (set_U (u9 hr))))))))) sim_wV (g_set 3)))))))
theorem sc_record_marks : FnScope ["levels", "records", "found", "record"] ["levels", "records"] (defScope s_record_marks) := ⟨rfl, rfl, rfl, by decide +kernel, rfl, by decide +kernel, by decide +kernel⟩
def r_record_marks : MF := mDef ["levels", "records", "found", "record"] (nSeq (nAsg 2 mDE) (nSeq (nFor (iU (mVar 1)) (gSet 3) (nSeq (nIf (mAnd (mTest (mBin (gOr (gInS false) (gOr (gInD false) (gDIn false))) (mUn (gFld [4] "mark") (mVar 3)) (mVar 2))) (mTest (mBin (gOr gNe (gOr (gEqO (tabOf tl) 4 r_Record___eq__ true) (gSame true))) (mBin gIxU (mVar 2) (mUn (gFld [4] "mark") (mVar 3))) (mVar 3)))) (nRaise 2 "value" (mCons (mUn (gFld [4] "mark") (mVar 3)) mNil)) nNil) (nSubU stU (mVar 2) (mUn (gFld [4] "mark") (mVar 3)) (mVar 3)))) (nSeq (nForW 100 (wDU (fun p => p.2) (mVar 2)) (gSet 3) (nIf (mTest (mBin (gIsN true) (mUn (gFld [4] "after") (mVar 3)) (mC .non))) (nIf (mOr (mTest (mBin (gOr (gInS true) (gOr (gInD true) (gDIn true))) (mUn (gFld [4] "after") (mVar 3)) (mVar 2))) (mNot (mTru (mMeth 3 "above" 3 r_Levels_above (mVar 0) (mCons (mBin gIxU (mUn (gFld [4] "mark") (mVar 3)) (mC (.int 0))) (mCons (mBin gIxU (mUn (gFld [4] "after") (mVar 3)) (mC (.int 0))) mNil)))))) (nRaise 2 "value" (mCons (mUn (gFld [4] "mark") (mVar 3)) mNil)) nNil) nNil)) (nRet (mVar 2)))))
theorem k_record_marks {fd_Levels_above : FuncData} {fe_BadRecords : FuncData} {fd_eq : FuncData} (F : FD K d_record_marks f fd) (T : Txt K mg) (C_Levels_above : ∀ {X : Cx}, X.prog = P → X.w = w → X.K = K → X.mg = mg → X.base = base → CalM X ⟨w, K, L0 K⟩ 3 "above" 4 (ma K (ga K "Levels") "above") fd_Levels_above ["self", "one", "other"] r_Levels_above) (G_BadRecords : ∀ {X : Cx}, X.prog = P → X.w = w → X.K = K → X.mg = mg → X.base = base → FnOk X.prog X.w X.K X.mg X.base CX0 1 (ma K (ga K "BadRecords") "__init__") fe_BadRecords ["self", "value"] (MeE.spI1 (ga K "BadRecords") "value")) (B_BadRecords : ∀ {X : Cx}, X.K = K → L2.Binds X.K fe_BadRecords ["self", "value"] []) (EQ : ∀ {X : Cx}, X.prog = P → X.w = w → X.K = K → X.mg = mg → X.base = base → EqC X (L0 K) (tabOf tl) 4 1 (ma K (ga K "Record") "__eq__") fd_eq ["self", "other"] r_Record___eq__) : FnG P w K mg base (L2.CX P w) 5 f fd ["levels", "records"] (spM ⟨w, K, L0 K⟩ 2 r_record_marks) := by
  obtain ⟨_, h_MOST_LETTERS⟩ := T.c_MOST_LETTERS
  obtain ⟨_, h_MOST_LEVELS⟩ := T.c_MOST_LEVELS
  obtain ⟨_, h_LETTERS⟩ := T.c_LETTERS
  exact fn_M F sc_record_marks fun cdv A outer s H E hgd hr => (n_cons (n_asg (ps_set (i := 2) sc_record_marks.nd rfl (Or.inl rfl) m_dE)) (n_cons (n_for (ps_for (passes_of rfl) rfl (pi_U (m_var (pv 1))) (pg_name (i := 3) sc_record_marks.nd rfl (Or.inl rfl)) (n_cons (n_if (PW.pt (mw_and (mt_cmp (OpR_or op_in_sign (OpR_or (op_inD (u65 hr)) (op_dIn (cl := L0 K) (u9 hr)))) (sim_or sim_inS (sim_or sim_inD sim_G2)) (m_fld (fk_mark T rfl) (m_var (pv 3))) (m_var (pv 2)) rfl) (pw_and1 (mt_cmp (OpR_or (op_neD hr.units) (OpR_or (op_neO (Z0 T rfl) (EQ rfl rfl rfl rfl rfl) hgd (hr.mono (by decide))) (op_sameNe (L := L0 K) (u0 hr)))) (sim_or sim_neD (sim_or sim_G2 sim_G2)) (m_ixU (u9 hr) (m_var (pv 2)) (m_fld (fk_mark T rfl) (m_var (pv 3))) (fun _ _ => rfl)) (m_var (pv 3)) (nomark _))))) (n_one (n_raise rfl (takes_of rfl rfl rfl rfl) (fun _ _ _ _ h => h) (pmk_oex T.o_BadRecords T.i_BadRecords.1 T.i_BadRecords.2 (G_BadRecords rfl rfl rfl rfl rfl) (hr.mono (by decide)) (B_BadRecords rfl) .nil pass0 rfl T.g_BadRecords (m_cons (m_fld (fk_mark T rfl) (m_var (pv 3))) m_nil)))) n_nil) (n_one (n_subU (ps_asg (m_var (pv 3)) (pg_sub (m_var (pv 2)) (m_fld (fk_mark T rfl) (m_var (pv 3))) (set_U (u9 hr)))))))) sim_iU (g_set 3)) (n_cons (n_forW (ps_for (passes_of rfl) rfl (pi_dV (m_var (pv 2))) (pg_name (i := 3) sc_record_marks.nd rfl (Or.inl rfl)) (n_one (n_if (mt_cmp op_notN sim_noN (m_fld (fk_after T rfl) (m_var (pv 3))) m_non (nomark _)) (n_one (n_if (PW.pt (mw_or (mt_cmp (OpR_or op_notIn_sign (OpR_or (op_notInD (u65 hr)) (op_dNotIn (cl := L0 K) (u9 hr)))) (sim_or sim_niS (sim_or sim_niD sim_G2)) (m_fld (fk_after T rfl) (m_var (pv 3))) (m_var (pv 2)) rfl) (pw_or1 (mt_not (mt_tru (m_meth (C_Levels_above rfl rfl rfl rfl rfl) hgd (hr.mono (by decide)) (passS (takes_of rfl rfl rfl rfl) (fun _ _ _ _ h => h)) (m_var (pv 0)) (m_cons (m_ixU (u9 hr) (m_fld (fk_mark T rfl) (m_var (pv 3))) m_int (fun _ _ => rfl)) (m_cons (m_ixU (u9 hr) (m_fld (fk_after T rfl) (m_var (pv 3))) m_int (fun _ _ => rfl)) m_nil)))))))) (n_one (n_raise rfl (takes_of rfl rfl rfl rfl) (fun _ _ _ _ h => h) (pmk_oex T.o_BadRecords T.i_BadRecords.1 T.i_BadRecords.2 (G_BadRecords rfl rfl rfl rfl rfl) (hr.mono (by decide)) (B_BadRecords rfl) .nil pass0 rfl T.g_BadRecords (m_cons (m_fld (fk_mark T rfl) (m_var (pv 3))) m_nil)))) n_nil)) n_nil))) sim_wUV (g_set 3)) (n_one (n_ret (ps_ret (m_var (pv 2))))))))
end
end K54
end
section
set_option Elab.async false
set_option linter.all false
set_option maxRecDepth 100000
set_option maxHeartbeats 4000000
set_option pp.maxSteps 600
namespace K54
open PySem PySem.Spec PyProof.Rows L2 He MeH MeG MeK Evl MeV MeL MeD MeO Mi LamX


section
variable {P : Program} {w : World} {K : PySem.W.Frag} {mg : Str → Option Value} {base : Heap} {f : Addr} {fd : FuncData}
theorem sc_records_in_order : FnScope ["levels", "records", "found", "behind", "mark", "record", "result", "waiting", "rows"] ["levels", "records"] (defScope s_records_in_order) := ⟨rfl, rfl, rfl, by decide +kernel, rfl, by decide +kernel, by decide +kernel⟩
def b_records_in_order : MS := (nSeq (nAsg 2 (mCall 2 (pureF 12 r_record_marks) (mCons (mVar 0) (mCons (mVar 1) mNil)))) (nSeq (nAsg 3 (mDisp [((mC .non), (mLstN mNil))])) (nSeq (nForW 100 (wV (mVar 2)) (gSet 4) (nSubU stU (mVar 3) (mVar 4) (mLstN mNil))) (nSeq (nForW 100 (wDU (fun p => p.2) (mVar 2)) (gSet 5) (nDrop (mMt (selB isL gAppend) (mBin gIxU (mVar 3) (mUn (gFld [4] "after") (mVar 5))) (mCons (mVar 5) mNil)))) (nSeq (nAsg 6 (mLstN mNil)) (nSeq (nAsg 7 (mLstN (mCons (mC .non) mNil))) (nSeq (nWhile (mTru (mVar 7)) (nSeq (nAsg 4 (mMt (selB isL gPopU) (mVar 7) mNil)) (nSeq (nIf (mTest (mBin (gIsN true) (mVar 4) (mC .non))) (nDrop (mMt (selB isL gAppend) (mVar 6) (mCons (mBin gIxU (mVar 2) (mVar 4)) mNil))) nNil) (nSeq (nAsg 8 (mSortK 12 lsc ["levels", "records", "found", "behind", "mark", "record", "result", "waiting", "rows"] (mCall 2 (pureF 12 r_sibling_key) (mCons (mVar 1) (mCons (mVar 0) mNil))) (mBin gIxU (mVar 3) (mVar 4)))) (nDrop (mMt (selB isL gExtend) (mVar 7) (mCons (mLc (iU (mUn gRev (mVar 8))) [5] (gSet 5) mYes (mUn (gFld [4] "mark") (mVar 5))) mNil)))))) 100) (nRet (mVar 6)))))))))
def r_records_in_order : MF := pureF 12 (mDef ["levels", "records", "found", "behind", "mark", "record", "result", "waiting", "rows"] b_records_in_order)
theorem k_records_in_order {f_record_marks : Addr} {fd_record_marks : FuncData} {f_sibling_key : Addr} {fd_sibling_key : FuncData} (F : FD K d_records_in_order (fAd K ("records_in_order", none)) fd) (T : Txt K mg) (TB : TabB base mg (cT K ("records_in_order", none)).1 (cT K ("records_in_order", none)).2) (C_record_marks : ∀ {X : Cx}, X.prog = P → X.w = w → X.K = K → X.mg = mg → X.base = base → Cal X ⟨w, K, L0 K⟩ "record_marks" 5 f_record_marks fd_record_marks ["levels", "records"] r_record_marks) (C_sibling_key : ∀ {X : Cx}, X.prog = P → X.w = w → X.K = K → X.mg = mg → X.base = base → Cal X ⟨w, K, L0 K⟩ "sibling_key" 2 f_sibling_key fd_sibling_key ["levels", "record"] r_sibling_key) : FnG P w K mg base (L2.CX P w) 7 (fAd K ("records_in_order", none)) fd ["levels", "records"] (spM ⟨w, K, L0 K⟩ 2 r_records_in_order) := by
  obtain ⟨_, h_MOST_LETTERS⟩ := T.c_MOST_LETTERS
  obtain ⟨_, h_MOST_LEVELS⟩ := T.c_MOST_LEVELS
  obtain ⟨_, h_LETTERS⟩ := T.c_LETTERS
  exact fn_ML lamR F sc_records_in_order fun A outer s H E hgd hr => (n_cons (n_asg (ps_set (i := 2) sc_records_in_order.nd rfl (Or.inl rfl) (m_call ((C_record_marks rfl rfl rfl rfl rfl).lendL 12) hgd (hr.mono (by decide)) rfl (passS (takes_of rfl rfl rfl rfl) (fun _ _ _ _ h => h)) (m_cons (m_var (pv 0)) (m_cons (m_var (pv 1)) m_nil))))) (n_cons (n_asg (ps_set (i := 3) sc_records_in_order.nd rfl (Or.inl rfl) (m_disp (ps := [((mC .non), (mLstN mNil))]) (u8 hr) (pps_cons m_non (m_lstN m_nil) pps_nil) rfl rfl (by simp) (by decide)))) (n_cons (n_forW (ps_for (passes_of rfl) rfl (pi_any (m_var (pv 2))) (pg_name (i := 4) sc_records_in_order.nd rfl (Or.inl rfl)) (n_one (n_subU (ps_asg (m_lstN m_nil) (pg_sub (m_var (pv 3)) (m_var (pv 4)) (set_U (u9 hr))))))) sim_wV (g_set 4)) (n_cons (n_forW (ps_for (passes_of rfl) rfl (pi_dV (m_var (pv 2))) (pg_name (i := 5) sc_records_in_order.nd rfl (Or.inl rfl)) (n_one (n_drop (ps_expr (m_mt (meth_list PySem.F.slot_list_append PySem.F.type_list_append (mtG mt_append sim_append)) (m_ixU (u9 hr) (m_var (pv 3)) (m_fld (fk_after T rfl) (m_var (pv 5))) (fun _ _ => rfl)) (m_cons (m_var (pv 5)) m_nil)))))) sim_wUV (g_set 5)) (n_cons (n_asg (ps_set (i := 6) sc_records_in_order.nd rfl (Or.inl rfl) (m_lstN m_nil))) (n_cons (n_asg (ps_set (i := 7) sc_records_in_order.nd rfl (Or.inl rfl) (m_lstN (m_cons m_non m_nil)))) (n_cons (n_while 100 (ps_while (passes_of rfl) (mt_tru (m_var (pv 7))) (n_cons (n_asg (ps_set (i := 4) sc_records_in_order.nd rfl (Or.inl rfl) (m_mt0 meth_pop (m_var (pv 7))))) (n_cons (n_if (mt_cmp op_notN sim_noN (m_var (pv 4)) m_non (nomark _)) (n_one (n_drop (ps_expr (m_mt (meth_list PySem.F.slot_list_append PySem.F.type_list_append (mtG mt_append sim_append)) (m_var (pv 6)) (m_cons (m_ixU (u9 hr) (m_var (pv 2)) (m_var (pv 4)) (fun _ _ => rfl)) m_nil))))) n_nil) (n_cons (n_asg (ps_set (i := 8) sc_records_in_order.nd rfl (Or.inl rfl) (m_sortK (j := 0) (k := 3) (p := "record") 12 rfl (lamP_by lp1) rfl rfl (hr.mono (by decide)) (fun _ _ _ _ _ _ => rfl) (fun A1 s1 H1 f1 c1 hA hroom => m_call ((C_sibling_key rfl rfl rfl rfl rfl).lendL 12) (hA.trans hgd) (hroom.mono (by decide)) rfl (passS LamX.takes0 (fun _ _ _ _ h => h)) (m_cons (m_var (pv 1)) (m_cons (m_var (pv 0)) m_nil))) (u10 hr) (by rfl) T.f_sorted (pe_lam1 (p := "record") TB rfl (List.mem_singleton.mpr rfl) tab1 rfl (lamP_by lp1)) (m_ixU (u9 hr) (m_var (pv 3)) (m_var (pv 4)) (fun _ _ => rfl))))) (n_one (n_drop (ps_expr (m_mt meth_extend (m_var (pv 7)) (m_cons (m_lc (pe_lc (own := [("record", 5)]) (g := (gName 5)) (by rfl) sc_records_in_order.nd (pi_U (m_rev (m_var (pv 8)))) (blkOk_by (own := [("record", 5)]) (N := ["levels", "records", "found", "behind", "mark", "record", "result", "waiting", "rows"]) (sc := defScope s_records_in_order) (by decide +kernel)) (fun _ _ _ _ _ => (pg_name (i := 5) sc_records_in_order.nd rfl (Or.inl rfl))) (fun _ _ _ _ _ => mts_nil) (fun _ _ _ _ _ => (m_fld (fk_mark T rfl) (m_var (pv 5))))) sim_iU (gw_set (by decide))) m_nil)))))))))) (n_one (n_ret (ps_ret (m_var (pv 6))))))))))))
end
end K54
end
section
set_option Elab.async false
set_option linter.all false
set_option maxRecDepth 100000
set_option maxHeartbeats 4000000
/-! the order by keys, as an insertion that the kernel can run -/
namespace MeO
open PySem PySem.W PySem.Spec PyProof.Rows L2
def insB {α : Type} (le : α → α → Bool) (a : α) : List α → List α
  | [] => [a]
  | b :: r => bif le a b then a :: b :: r else b :: insB le a r
theorem insB_split {α : Type} {le : α → α → Bool} {a : α} {l2 : List α} (h2 : ∀ b r, l2 = b :: r → le a b = true) : ∀ {l1 : List α}, (∀ b ∈ l1, le a b = false) → insB le a (l1 ++ l2) = l1 ++ a :: l2
  | [], _ => by
    cases l2 with
    | nil => rfl
    | cons b r =>
      show (bif le a b then a :: b :: r else b :: insB le a r) = _
      rw [h2 b r rfl]
      rfl
  | c :: l1, h1 => by
    show (bif le a c then a :: c :: (l1 ++ l2) else c :: insB le a (l1 ++ l2)) = _
    rw [h1 c List.mem_cons_self, insB_split h2 fun b hb => h1 b (List.mem_cons_of_mem _ hb)]
    rfl
theorem mergeSort_ins {α : Type} {le : α → α → Bool} (tr : ∀ a b c, le a b = true → le b c = true → le a c = true) (tt : ∀ a b, (le a b || le b a) = true) : ∀ l : List α, l.mergeSort le = l.foldr (insB le) []
  | [] => by simp
  | a :: l => by
    obtain ⟨l1, l2, e1, e2, e3⟩ := List.mergeSort_cons tr tt a l
    have pw := List.pairwise_mergeSort tr tt (a :: l)
    rw [e1] at pw
    rw [List.foldr_cons, ← mergeSort_ins tr tt l, e1, e2]
    refine (insB_split (fun b r h => ?_) fun b hb => ?_).symm
    · subst h
      exact (List.pairwise_cons.mp (List.pairwise_append.mp pw).2.1).1 b List.mem_cons_self
    · have := e3 b hb
      simpa using this
theorem keyLe_tot {β : Type} (k : β → PyData) : TotalLe (dataLe false k) := sortLe_total (listOrd itemOrd) false fun b => keyToks (k b)
theorem byKey_ins {α : Type} (xs : List α) (kz : List PyData) : byKey xs kz = ((xs.zip kz).foldr (insB (dataLe false Prod.snd)) []).map Prod.fst :=
  congrArg (List.map Prod.fst) (mergeSort_ins (keyLe_tot Prod.snd).trans (fun a b => Bool.or_eq_true_iff.mpr ((keyLe_tot Prod.snd).total a b)) (xs.zip kz))
end MeO
end
section
set_option Elab.async false
set_option linter.all false
set_option maxRecDepth 100000
set_option maxHeartbeats 4000000
set_option pp.maxSteps 600
namespace K54
open PySem PySem.Spec PyProof.Rows L2 He MeH MeG MeK Evl MeV MeL MeD MeO Mi LamX


section
variable {P : Program} {w : World} {K : PySem.W.Frag} {mg : Str → Option Value} {base : Heap} {f : Addr} {fd : FuncData}
theorem sc__law_draws : FnScope ["_law_script", "_law_k", "_law_cell", "_law_seed"] ["_law_script", "_law_k"] (defScope s__law_draws) := ⟨rfl, rfl, rfl, by decide +kernel, rfl, by decide +kernel, by decide +kernel⟩
def r__law_draws : MF := mDef ["_law_script", "_law_k", "_law_cell", "_law_seed"] (nSeq (nAsg 2 (mC (.int 0))) (nSeq (nIf (mTest (mBin gNe (mVar 0) (mLst mNil))) (nAsg 2 (mBin gIxU (mVar 0) (mBin gMod (mVar 1) (mCB gLenW (mCons (mVar 0) mNil))))) nNil) (nSeq (nIf (mTest (mBin (gI fun i j => .bl (decide (j ≤ i))) (mVar 1) (mCB gLenW (mCons (mVar 0) mNil)))) (nAsg 2 (mBin gMod (mVar 2) (mC (.int 1000003)))) nNil) (nSeq (nAsg 3 (mBin gMod (mBin gMul (mBin gAdd (mBin gAdd (mBin gMod (mVar 2) (mC (.int 2147483629))) (mBin gMul (mC (.int 104729)) (mVar 1))) (mC (.int 11))) (mC (.int 48271))) (mC (.int 2147483647)))) (nRet (mLstN (mCons (mBin gMul (mVar 2) (mCB gIntB (mCons (mBin (gI fun i j => .bl (decide (j ≤ i))) (mVar 2) (mBin gPow (mC (.int 10)) (mC (.int 18)))) mNil))) (mCons (mVar 3) mNil))))))))
theorem k__law_draws  (F : FD K d__law_draws f fd) (T : Txt K mg)  : FnG P w K mg base (L2.CX P w) 1 f fd ["_law_script", "_law_k"] (spM ⟨w, K, L0 K⟩ 2 r__law_draws) := by
  obtain ⟨_, h_MOST_LETTERS⟩ := T.c_MOST_LETTERS
  obtain ⟨_, h_MOST_LEVELS⟩ := T.c_MOST_LEVELS
  obtain ⟨_, h_LETTERS⟩ := T.c_LETTERS
  exact fn_M F sc__law_draws fun cdv A outer s H E hgd hr => (n_cons (n_asg (ps_set (i := 2) sc__law_draws.nd rfl (Or.inl rfl) m_int)) (n_cons (n_if (mt_cmp (op_neD hr.units) sim_neD (m_var (pv 0)) (m_lst m_nil) (nomark _)) (n_one (n_asg (ps_set (i := 2) sc__law_draws.nd rfl (Or.inl rfl) (m_ixU (u9 hr) (m_var (pv 0)) (m_op op_mod sim_mod (m_var (pv 1)) (m_lenW (by rfl) T.f_len (m_cons (m_var (pv 0)) m_nil))) (fun _ _ => rfl))))) n_nil) (n_cons (n_if (mt_cmp op_ge (sim_I0 fun i j _ _ => .bl _) (m_var (pv 1)) (m_lenW (by rfl) T.f_len (m_cons (m_var (pv 0)) m_nil)) (nomark _)) (n_one (n_asg (ps_set (i := 2) sc__law_draws.nd rfl (Or.inl rfl) (m_op op_mod sim_mod (m_var (pv 2)) m_int)))) n_nil) (n_cons (n_asg (ps_set (i := 3) sc__law_draws.nd rfl (Or.inl rfl) (m_op op_mod sim_mod (m_op op_mul sim_mul (m_add (m_add (m_op op_mod sim_mod (m_var (pv 2)) m_int) (m_op op_mul sim_mul m_int (m_var (pv 1)))) m_int) m_int) m_int))) (n_one (n_ret (ps_ret (m_lstN (m_cons (m_op op_mul sim_mul (m_var (pv 2)) (m_cb (pe_callTy call_int1 (by rfl) T.f_int bo_int (m_cons (m_cmp op_ge (sim_I0 fun i j _ _ => .bl _) (m_var (pv 2)) (m_op op_pow sim_pow m_int m_int) (nomark _)) m_nil)) sim_intB)) (m_cons (m_var (pv 3)) m_nil))))))))))
theorem sc__law_draw : FnScope ["_law_draws_here", "_law_upto", "_law_digit"] ["_law_draws_here", "_law_upto"] (defScope s__law_draw) := ⟨rfl, rfl, rfl, by decide +kernel, rfl, by decide +kernel, by decide +kernel⟩
def r__law_draw : MF := mDef ["_law_draws_here", "_law_upto", "_law_digit"] (nSeq (nIf (mTest (mBin (gI fun i j => .bl (decide (j < i))) (mBin gIxU (mVar 0) (mC (.int 0))) (mC (.int 0)))) (nSeq (nAsg 2 (mBin gMod (mBin gIxU (mVar 0) (mC (.int 0))) (mVar 1))) (nSeq (nSubU stU (mVar 0) (mC (.int 0)) (mBin gFdiv (mBin gIxU (mVar 0) (mC (.int 0))) (mVar 1))) (nRet (mVar 2)))) nNil) (nSeq (nSubU stU (mVar 0) (mC (.int 1)) (mBin gMod (mBin gAdd (mBin gMul (mBin gIxU (mVar 0) (mC (.int 1))) (mC (.int 48271))) (mC (.int 11))) (mC (.int 2147483647)))) (nRet (mBin gMod (mBin gFdiv (mBin gMod (mBin gMul (mBin gIxU (mVar 0) (mC (.int 1))) (mBin gIxU (mVar 0) (mC (.int 1)))) (mC (.int 2147483629))) (mC (.int 64))) (mVar 1)))))
theorem k__law_draw  (F : FD K d__law_draw f fd) (T : Txt K mg)  : FnG P w K mg base (L2.CX P w) 1 f fd ["_law_draws_here", "_law_upto"] (spM ⟨w, K, L0 K⟩ 2 r__law_draw) := by
  obtain ⟨_, h_MOST_LETTERS⟩ := T.c_MOST_LETTERS
  obtain ⟨_, h_MOST_LEVELS⟩ := T.c_MOST_LEVELS
  obtain ⟨_, h_LETTERS⟩ := T.c_LETTERS
  exact fn_M F sc__law_draw fun cdv A outer s H E hgd hr => (n_cons (n_if (mt_cmp op_gt (sim_I0 fun i j _ _ => .bl _) (m_ixU (u9 hr) (m_var (pv 0)) m_int (fun _ _ => rfl)) m_int (nomark _)) (n_cons (n_asg (ps_set (i := 2) sc__law_draw.nd rfl (Or.inl rfl) (m_op op_mod sim_mod (m_ixU (u9 hr) (m_var (pv 0)) m_int (fun _ _ => rfl)) (m_var (pv 1))))) (n_cons (n_subU (ps_asg (m_op op_fdiv sim_fdiv (m_ixU (u9 hr) (m_var (pv 0)) m_int (fun _ _ => rfl)) (m_var (pv 1))) (pg_sub (m_var (pv 0)) m_int (set_U (u9 hr))))) (n_one (n_ret (ps_ret (m_var (pv 2))))))) n_nil) (n_cons (n_subU (ps_asg (m_op op_mod sim_mod (m_add (m_op op_mul sim_mul (m_ixU (u9 hr) (m_var (pv 0)) m_int (fun _ _ => rfl)) m_int) m_int) m_int) (pg_sub (m_var (pv 0)) m_int (set_U (u9 hr))))) (n_one (n_ret (ps_ret (m_op op_mod sim_mod (m_op op_fdiv sim_fdiv (m_op op_mod sim_mod (m_op op_mul sim_mul (m_ixU (u9 hr) (m_var (pv 0)) m_int (fun _ _ => rfl)) (m_ixU (u9 hr) (m_var (pv 0)) m_int (fun _ _ => rfl))) m_int) m_int) (m_var (pv 1))))))))
theorem sc__law_rows : FnScope ["_law_one", "_law_two", "_law_three", "_law_red", "_law_far", "_law_blue", "_law_top", "_law_rows_here"] [] (defScope s__law_rows) := ⟨rfl, rfl, rfl, by decide +kernel, rfl, by decide +kernel, by decide +kernel⟩
def r__law_rows : MF := mDef ["_law_one", "_law_two", "_law_three", "_law_red", "_law_far", "_law_blue", "_law_top", "_law_rows_here"] (nSeq (nAsgG (Mi.gTup [(gSet 0), (gSet 1), (gSet 2)]) (mTup (mCons (mTup (mCons (mC (.str "open")) (mCons (mC (.str "")) (mCons (mC (.int 1)) mNil)))) (mCons (mTup (mCons (mC (.str "open")) (mCons (mC (.str "")) (mCons (mC (.int 2)) mNil)))) (mCons (mTup (mCons (mC (.str "open")) (mCons (mC (.str "pad")) (mCons (mC (.int 1)) mNil)))) mNil))))) (nSeq (nAsgG (Mi.gTup [(gSet 3), (gSet 4), (gSet 5), (gSet 6)]) (mTup (mCons (mTup (mCons (mC (.str "red")) (mCons (mC (.str "")) (mCons (mC (.int 1)) mNil)))) (mCons (mTup (mCons (mC (.str "red")) (mCons (mC (.str "pad")) (mCons (mC (.int 1)) mNil)))) (mCons (mTup (mCons (mC (.str "blue")) (mCons (mC (.str "")) (mCons (mC (.int 1)) mNil)))) (mCons (mTup (mCons (mC (.str "top")) (mCons (mC (.str "")) (mCons (mC (.int 1)) mNil)))) mNil)))))) (nSeq (nAsg 7 (mLst (mCons (mTup (mCons (mVar 0) (mCons (mC (.int 1)) (mCons (mC .non) mNil)))) (mCons (mTup (mCons (mVar 6) (mCons (mC (.int 3)) (mCons (mVar 4) mNil)))) (mCons (mTup (mCons (mVar 4) (mCons (mC (.int 2)) (mCons (mVar 0) mNil)))) (mCons (mTup (mCons (mVar 3) (mCons (mC (.int 4)) (mCons (mVar 0) mNil)))) (mCons (mTup (mCons (mVar 5) (mCons (mC (.int 2)) (mCons (mVar 0) mNil)))) (mCons (mTup (mCons (mVar 2) (mCons (mC (.int 2)) (mCons (mC .non) mNil)))) mNil)))))))) (nSeq (nAsg 7 (mBin gAdd (mVar 7) (mLst (mCons (mTup (mCons (mTup (mCons (mC (.str "blue")) (mCons (mC (.str "")) (mCons (mC (.int 10)) mNil)))) (mCons (mC (.int 5)) (mCons (mVar 0) mNil)))) (mCons (mTup (mCons (mTup (mCons (mC (.str "blue")) (mCons (mC (.str "")) (mCons (mC (.int 9)) mNil)))) (mCons (mC (.int 5)) (mCons (mVar 0) mNil)))) mNil))))) (nRet (mBin gAdd (mVar 7) (mLst (mCons (mTup (mCons (mTup (mCons (mC (.str "red")) (mCons (mC (.str "")) (mCons (mC (.int 2)) mNil)))) (mCons (mC (.int 5)) (mCons (mVar 2) mNil)))) (mCons (mTup (mCons (mVar 1) (mCons (mC (.int 2)) (mCons (mC .non) mNil)))) (mCons (mTup (mCons (mTup (mCons (mC (.str "top")) (mCons (mC (.str "")) (mCons (mC (.int 2)) mNil)))) (mCons (mC (.int 6)) (mCons (mVar 1) mNil)))) mNil))))))))))
theorem k__law_rows  (F : FD K d__law_rows f fd) (T : Txt K mg)  : FnG P w K mg base (L2.CX P w) 1 f fd [] (spM ⟨w, K, L0 K⟩ 0 r__law_rows) := by
  obtain ⟨_, h_MOST_LETTERS⟩ := T.c_MOST_LETTERS
  obtain ⟨_, h_MOST_LEVELS⟩ := T.c_MOST_LEVELS
  obtain ⟨_, h_LETTERS⟩ := T.c_LETTERS
  exact fn_M F sc__law_rows fun cdv A outer s H E hgd hr => (n_cons (n_asgG (ps_asg (m_tup (m_cons (m_tup (m_cons m_str (m_cons m_str (m_cons m_int m_nil)))) (m_cons (m_tup (m_cons m_str (m_cons m_str (m_cons m_int m_nil)))) (m_cons (m_tup (m_cons m_str (m_cons m_str (m_cons m_int m_nil)))) m_nil)))) (pg_tup rfl (pgs_cons (pg_name (i := 0) sc__law_rows.nd rfl (Or.inl rfl)) (pgs_cons (pg_name (i := 1) sc__law_rows.nd rfl (Or.inl rfl)) (pgs_cons (pg_name (i := 2) sc__law_rows.nd rfl (Or.inl rfl)) pgs_nil))))) (g_tup (gs_cons (g_set 0) (gs_cons (g_set 1) (gs_cons (g_set 2) gs_nil))) rfl)) (n_cons (n_asgG (ps_asg (m_tup (m_cons (m_tup (m_cons m_str (m_cons m_str (m_cons m_int m_nil)))) (m_cons (m_tup (m_cons m_str (m_cons m_str (m_cons m_int m_nil)))) (m_cons (m_tup (m_cons m_str (m_cons m_str (m_cons m_int m_nil)))) (m_cons (m_tup (m_cons m_str (m_cons m_str (m_cons m_int m_nil)))) m_nil))))) (pg_tup rfl (pgs_cons (pg_name (i := 3) sc__law_rows.nd rfl (Or.inl rfl)) (pgs_cons (pg_name (i := 4) sc__law_rows.nd rfl (Or.inl rfl)) (pgs_cons (pg_name (i := 5) sc__law_rows.nd rfl (Or.inl rfl)) (pgs_cons (pg_name (i := 6) sc__law_rows.nd rfl (Or.inl rfl)) pgs_nil)))))) (g_tup (gs_cons (g_set 3) (gs_cons (g_set 4) (gs_cons (g_set 5) (gs_cons (g_set 6) gs_nil)))) rfl)) (n_cons (n_asg (ps_set (i := 7) sc__law_rows.nd rfl (Or.inl rfl) (m_lst (m_cons (m_tup (m_cons (m_var (pv 0)) (m_cons m_int (m_cons m_non m_nil)))) (m_cons (m_tup (m_cons (m_var (pv 6)) (m_cons m_int (m_cons (m_var (pv 4)) m_nil)))) (m_cons (m_tup (m_cons (m_var (pv 4)) (m_cons m_int (m_cons (m_var (pv 0)) m_nil)))) (m_cons (m_tup (m_cons (m_var (pv 3)) (m_cons m_int (m_cons (m_var (pv 0)) m_nil)))) (m_cons (m_tup (m_cons (m_var (pv 5)) (m_cons m_int (m_cons (m_var (pv 0)) m_nil)))) (m_cons (m_tup (m_cons (m_var (pv 2)) (m_cons m_int (m_cons m_non m_nil)))) m_nil))))))))) (n_cons (n_asg (ps_set (i := 7) sc__law_rows.nd rfl (Or.inl rfl) (m_add (m_var (pv 7)) (m_lst (m_cons (m_tup (m_cons (m_tup (m_cons m_str (m_cons m_str (m_cons m_int m_nil)))) (m_cons m_int (m_cons (m_var (pv 0)) m_nil)))) (m_cons (m_tup (m_cons (m_tup (m_cons m_str (m_cons m_str (m_cons m_int m_nil)))) (m_cons m_int (m_cons (m_var (pv 0)) m_nil)))) m_nil)))))) (n_one (n_ret (ps_ret (m_add (m_var (pv 7)) (m_lst (m_cons (m_tup (m_cons (m_tup (m_cons m_str (m_cons m_str (m_cons m_int m_nil)))) (m_cons m_int (m_cons (m_var (pv 2)) m_nil)))) (m_cons (m_tup (m_cons (m_var (pv 1)) (m_cons m_int (m_cons m_non m_nil)))) (m_cons (m_tup (m_cons (m_tup (m_cons m_str (m_cons m_str (m_cons m_int m_nil)))) (m_cons m_int (m_cons (m_var (pv 1)) m_nil)))) m_nil))))))))))))
theorem sc__law_due : FnScope ["_law_one", "_law_two", "_law_three", "_law_red", "_law_far", "_law_blue", "_law_top"] [] (defScope s__law_due) := ⟨rfl, rfl, rfl, by decide +kernel, rfl, by decide +kernel, by decide +kernel⟩
def r__law_due : MF := mDef ["_law_one", "_law_two", "_law_three", "_law_red", "_law_far", "_law_blue", "_law_top"] (nSeq (nAsgG (Mi.gTup [(gSet 0), (gSet 1), (gSet 2)]) (mTup (mCons (mTup (mCons (mC (.str "open")) (mCons (mC (.str "")) (mCons (mC (.int 1)) mNil)))) (mCons (mTup (mCons (mC (.str "open")) (mCons (mC (.str "")) (mCons (mC (.int 2)) mNil)))) (mCons (mTup (mCons (mC (.str "open")) (mCons (mC (.str "pad")) (mCons (mC (.int 1)) mNil)))) mNil))))) (nSeq (nAsgG (Mi.gTup [(gSet 3), (gSet 4), (gSet 5), (gSet 6)]) (mTup (mCons (mTup (mCons (mC (.str "red")) (mCons (mC (.str "")) (mCons (mC (.int 1)) mNil)))) (mCons (mTup (mCons (mC (.str "red")) (mCons (mC (.str "pad")) (mCons (mC (.int 1)) mNil)))) (mCons (mTup (mCons (mC (.str "blue")) (mCons (mC (.str "")) (mCons (mC (.int 1)) mNil)))) (mCons (mTup (mCons (mC (.str "top")) (mCons (mC (.str "")) (mCons (mC (.int 1)) mNil)))) mNil)))))) (nRet (mLst (mCons (mVar 0) (mCons (mVar 5) (mCons (mTup (mCons (mC (.str "blue")) (mCons (mC (.str "")) (mCons (mC (.int 9)) mNil)))) (mCons (mTup (mCons (mC (.str "blue")) (mCons (mC (.str "")) (mCons (mC (.int 10)) mNil)))) (mCons (mVar 4) (mCons (mVar 6) (mCons (mVar 3) (mCons (mVar 1) (mCons (mTup (mCons (mC (.str "top")) (mCons (mC (.str "")) (mCons (mC (.int 2)) mNil)))) (mCons (mVar 2) (mCons (mTup (mCons (mC (.str "red")) (mCons (mC (.str "")) (mCons (mC (.int 2)) mNil)))) mNil)))))))))))))))
theorem k__law_due  (F : FD K d__law_due f fd) (T : Txt K mg)  : FnG P w K mg base (L2.CX P w) 1 f fd [] (spM ⟨w, K, L0 K⟩ 0 r__law_due) := by
  obtain ⟨_, h_MOST_LETTERS⟩ := T.c_MOST_LETTERS
  obtain ⟨_, h_MOST_LEVELS⟩ := T.c_MOST_LEVELS
  obtain ⟨_, h_LETTERS⟩ := T.c_LETTERS
  exact fn_M F sc__law_due fun cdv A outer s H E hgd hr => (n_cons (n_asgG (ps_asg (m_tup (m_cons (m_tup (m_cons m_str (m_cons m_str (m_cons m_int m_nil)))) (m_cons (m_tup (m_cons m_str (m_cons m_str (m_cons m_int m_nil)))) (m_cons (m_tup (m_cons m_str (m_cons m_str (m_cons m_int m_nil)))) m_nil)))) (pg_tup rfl (pgs_cons (pg_name (i := 0) sc__law_due.nd rfl (Or.inl rfl)) (pgs_cons (pg_name (i := 1) sc__law_due.nd rfl (Or.inl rfl)) (pgs_cons (pg_name (i := 2) sc__law_due.nd rfl (Or.inl rfl)) pgs_nil))))) (g_tup (gs_cons (g_set 0) (gs_cons (g_set 1) (gs_cons (g_set 2) gs_nil))) rfl)) (n_cons (n_asgG (ps_asg (m_tup (m_cons (m_tup (m_cons m_str (m_cons m_str (m_cons m_int m_nil)))) (m_cons (m_tup (m_cons m_str (m_cons m_str (m_cons m_int m_nil)))) (m_cons (m_tup (m_cons m_str (m_cons m_str (m_cons m_int m_nil)))) (m_cons (m_tup (m_cons m_str (m_cons m_str (m_cons m_int m_nil)))) m_nil))))) (pg_tup rfl (pgs_cons (pg_name (i := 3) sc__law_due.nd rfl (Or.inl rfl)) (pgs_cons (pg_name (i := 4) sc__law_due.nd rfl (Or.inl rfl)) (pgs_cons (pg_name (i := 5) sc__law_due.nd rfl (Or.inl rfl)) (pgs_cons (pg_name (i := 6) sc__law_due.nd rfl (Or.inl rfl)) pgs_nil)))))) (g_tup (gs_cons (g_set 3) (gs_cons (g_set 4) (gs_cons (g_set 5) (gs_cons (g_set 6) gs_nil)))) rfl)) (n_one (n_ret (ps_ret (m_lst (m_cons (m_var (pv 0)) (m_cons (m_var (pv 5)) (m_cons (m_tup (m_cons m_str (m_cons m_str (m_cons m_int m_nil)))) (m_cons (m_tup (m_cons m_str (m_cons m_str (m_cons m_int m_nil)))) (m_cons (m_var (pv 4)) (m_cons (m_var (pv 6)) (m_cons (m_var (pv 3)) (m_cons (m_var (pv 1)) (m_cons (m_tup (m_cons m_str (m_cons m_str (m_cons m_int m_nil)))) (m_cons (m_var (pv 2)) (m_cons (m_tup (m_cons m_str (m_cons m_str (m_cons m_int m_nil)))) m_nil)))))))))))))))))
theorem sc_law : FnScope ["_law_script", "_law_levels", "_law_rows_here", "_law_records", "_law_k", "_law_draws_here", "_law_left", "_law_some", "_law_turn", "_law_saved", "_law_record", "_law_parts", "_law_same", "_law_other", "_law_mark", "_law_stamp", "_law_after"] ["_law_script"] (defScope s_law) := ⟨rfl, rfl, rfl, by decide +kernel, rfl, by decide +kernel, by decide +kernel⟩
def r_law : MF := mDef ["_law_script", "_law_levels", "_law_rows_here", "_law_records", "_law_k", "_law_draws_here", "_law_left", "_law_some", "_law_turn", "_law_saved", "_law_record", "_law_parts", "_law_same", "_law_other", "_law_mark", "_law_stamp", "_law_after"] (nSeq (nAsg 1 (mMake 3 3 r_Levels___init__ (mCons (mLst (mCons (mC (.str "open")) (mCons (mC (.str "red")) (mCons (mC (.str "blue")) (mCons (mC (.str "top")) mNil))))) (mCons (mLst (mCons (mTup (mCons (mC (.str "red")) (mCons (mC (.str "top")) mNil))) (mCons (mTup (mCons (mC (.str "blue")) (mCons (mC (.str "top")) mNil))) mNil))) mNil)))) (nSeq (nAsg 2 (mCall 0 r__law_rows mNil)) (nSeq (nAsg 3 (mLc (iU (mVar 2)) [14, 15, 16] (Mi.gTup [(gSet 14), (gSet 15), (gSet 16)]) mYes (mMake 4 6 r_Record___init__ (mCons (mVar 14) (mCons (mVar 15) (mCons (mVar 16) (mCons (mTup (mCons (mC (.str "undo")) mNil)) (mCons (mC .non) mNil)))))))) (nSeq (nFor (iR (mCons (mCB gMax2 (mCons (mC (.int 1)) (mCons (mCB gMin2 (mCons (mC (.int 40)) (mCons (mCB gLenW (mCons (mVar 0) mNil)) mNil))) mNil))) mNil)) (gSet 4) (nSeq (nAsg 5 (mCall 2 r__law_draws (mCons (mVar 0) (mCons (mVar 4) mNil)))) (nSeq (nPar 6 7 (mCons (mCB gListN (mCons (mVar 3) mNil)) (mCons (mLstN mNil) mNil))) (nSeq (nFor (iR (mCons (mCB gLenW (mCons (mVar 3) mNil)) mNil)) (gSet 8) (nSeq (nDrop (mMt (selB isL gAppend) (mVar 7) (mCons (mMt (selB isL gPopU) (mVar 6) (mCons (mCall 2 r__law_draw (mCons (mVar 5) (mCons (mCB gLenW (mCons (mVar 6) mNil)) mNil))) mNil)) mNil))) (nIf (mTest (mBin (gOr gEq (gOr (gEqO (tabOf tl) 4 r_Record___eq__ false) (gSame false))) (mCall 2 r__law_draw (mCons (mVar 5) (mCons (mC (.int 3)) mNil))) (mC (.int 0)))) (nDrop (mMt (selB isL gAppend) (mVar 7) (mCons (mBin gIxU (mVar 7) (mC (.int 0))) mNil))) nNil))) (nSeq (nAsg 9 (mCB gListN (mCons (mVar 7) mNil))) (nSeq (nIf (mOr (mTest (lendE 12 (mBin (gOr gNe (gOr (gEqO (tabOf tl) 4 r_Record___eq__ true) (gSame true))) (mLc (iU (mCall 2 r_records_in_order (mCons (mVar 1) (mCons (mVar 7) mNil)))) [10] (gSet 10) mYes (mUn (gFld [4] "mark") (mVar 10))) (mCall 0 r__law_due mNil)))) (mTest (mBin (gOr gNe (gOr (gEqO (tabOf tl) 4 r_Record___eq__ true) (gSame true))) (mVar 7) (mVar 9)))) (nRet (mC (.bl false))) nNil) (nSeq (nAsg 10 (mBin gIxU (mVar 7) (mCall 2 r__law_draw (mCons (mVar 5) (mCons (mCB gLenW (mCons (mVar 7) mNil)) mNil))))) (nSeq (nAsg 11 (mLst (mCons (mUn (gFld [4] "mark") (mVar 10)) (mCons (mUn (gFld [4] "stamp") (mVar 10)) (mCons (mUn (gFld [4] "after") (mVar 10)) (mCons (mUn (gFld [4] "act") (mVar 10)) (mCons (mUn (gFld [4] "first") (mVar 10)) mNil))))))) (nSeq (nAsg 12 (mMake 4 6 r_Record___init__ (mCons (mBin gIxU (mVar 11) (mC (.int 0))) (mCons (mBin gIxU (mVar 11) (mC (.int 1))) (mCons (mBin gIxU (mVar 11) (mC (.int 2))) (mCons (mBin gIxU (mVar 11) (mC (.int 3))) (mCons (mBin gIxU (mVar 11) (mC (.int 4))) mNil))))))) (nSeq (nAsg 13 (mMake 4 6 r_Record___init__ (mCons (mBin gIxU (mVar 11) (mC (.int 0))) (mCons (mBin gAdd (mBin gIxU (mVar 11) (mC (.int 1))) (mC (.int 1))) (mCons (mBin gIxU (mVar 11) (mC (.int 2))) (mCons (mBin gIxU (mVar 11) (mC (.int 3))) (mCons (mBin gIxU (mVar 11) (mC (.int 4))) mNil))))))) (nSeq (nIf (mOr (mTest (mBin (gOr gNe (gOr (gEqO (tabOf tl) 4 r_Record___eq__ true) (gSame true))) (mVar 10) (mVar 12))) (mTest (mBin (gOr gEq (gOr (gEqO (tabOf tl) 4 r_Record___eq__ false) (gSame false))) (mVar 10) (mVar 13)))) (nRet (mC (.bl false))) nNil) (nIf (mOr (mTest (mBin (gOr gEq (gOr (gEqO (tabOf tl) 4 r_Record___eq__ false) (gSame false))) (mVar 10) (mMake 4 6 r_Record___init__ (mCons (mBin gIxU (mVar 11) (mC (.int 0))) (mCons (mBin gIxU (mVar 11) (mC (.int 1))) (mCons (mBin gIxU (mVar 11) (mC (.int 2))) (mCons (mTup (mCons (mC (.str "redo")) mNil)) (mCons (mC .non) mNil)))))))) (mTest (mBin (gOr gEq (gOr (gEqO (tabOf tl) 4 r_Record___eq__ false) (gSame false))) (mVar 10) (mCB gTuple (mCons (mVar 11) mNil))))) (nRet (mC (.bl false))) nNil)))))))))))) (nRet (lendE 12 (mBin (gOr gEq (gOr (gEqO (tabOf tl) 4 r_Record___eq__ false) (gSame false))) (mCall 2 r_records_in_order (mCons (mVar 1) (mCons (mLst mNil) mNil))) (mLst mNil))))))))
theorem k_law {f__law_draws : Addr} {fd__law_draws : FuncData} {f__law_draw : Addr} {fd__law_draw : FuncData} {f__law_rows : Addr} {fd__law_rows : FuncData} {f__law_due : Addr} {fd__law_due : FuncData} {f_records_in_order : Addr} {fd_records_in_order : FuncData} {fd_Levels___init__ : FuncData} {fd_Record___init__ : FuncData} {fd_eq : FuncData} (F : FD K d_law f fd) (T : Txt K mg) (C__law_draws : ∀ {X : Cx}, X.prog = P → X.w = w → X.K = K → X.mg = mg → X.base = base → Cal X ⟨w, K, L0 K⟩ "_law_draws" 1 f__law_draws fd__law_draws ["_law_script", "_law_k"] r__law_draws) (C__law_draw : ∀ {X : Cx}, X.prog = P → X.w = w → X.K = K → X.mg = mg → X.base = base → Cal X ⟨w, K, L0 K⟩ "_law_draw" 1 f__law_draw fd__law_draw ["_law_draws_here", "_law_upto"] r__law_draw) (C__law_rows : ∀ {X : Cx}, X.prog = P → X.w = w → X.K = K → X.mg = mg → X.base = base → Cal X ⟨w, K, L0 K⟩ "_law_rows" 1 f__law_rows fd__law_rows [] r__law_rows) (C__law_due : ∀ {X : Cx}, X.prog = P → X.w = w → X.K = K → X.mg = mg → X.base = base → Cal X ⟨w, K, L0 K⟩ "_law_due" 1 f__law_due fd__law_due [] r__law_due) (C_records_in_order : ∀ {X : Cx}, X.prog = P → X.w = w → X.K = K → X.mg = mg → X.base = base → Cal X ⟨w, K, L0 K⟩ "records_in_order" 7 f_records_in_order fd_records_in_order ["levels", "records"] r_records_in_order) (C_mk_Levels : ∀ {X : Cx}, X.prog = P → X.w = w → X.K = K → X.mg = mg → X.base = base → CalC X ⟨w, K, L0 K⟩ 3 "Levels" 4 (ma K (ga K "Levels") "__init__") fd_Levels___init__ ["self", "names", "pairs"] r_Levels___init__) (C_mk_Record : ∀ {X : Cx}, X.prog = P → X.w = w → X.K = K → X.mg = mg → X.base = base → CalC X ⟨w, K, L0 K⟩ 4 "Record" 1 (ma K (ga K "Record") "__init__") fd_Record___init__ ["self", "mark", "stamp", "after", "act", "first"] r_Record___init__) (EQ : ∀ {X : Cx}, X.prog = P → X.w = w → X.K = K → X.mg = mg → X.base = base → EqC X (L0 K) (tabOf tl) 4 1 (ma K (ga K "Record") "__eq__") fd_eq ["self", "other"] r_Record___eq__) : FnG P w K mg base (L2.CX P w) 9 f fd ["_law_script"] (spM ⟨w, K, L0 K⟩ 1 r_law) := by
  obtain ⟨_, h_MOST_LETTERS⟩ := T.c_MOST_LETTERS
  obtain ⟨_, h_MOST_LEVELS⟩ := T.c_MOST_LEVELS
  obtain ⟨_, h_LETTERS⟩ := T.c_LETTERS
  exact fn_M F sc_law fun cdv A outer s H E hgd hr => (n_cons (n_asg (ps_set (i := 1) sc_law.nd rfl (Or.inl rfl) (m_make (C_mk_Levels rfl rfl rfl rfl rfl) hgd (hr.mono (by decide)) rfl (passS (takes_of rfl rfl rfl rfl) (fun _ _ _ _ h => h)) (m_cons (m_lst (m_cons m_str (m_cons m_str (m_cons m_str (m_cons m_str m_nil))))) (m_cons (m_lst (m_cons (m_tup (m_cons m_str (m_cons m_str m_nil))) (m_cons (m_tup (m_cons m_str (m_cons m_str m_nil))) m_nil))) m_nil))))) (n_cons (n_asg (ps_set (i := 2) sc_law.nd rfl (Or.inl rfl) (m_call0 (C__law_rows rfl rfl rfl rfl rfl) hgd (hr.mono (by decide)) rfl (passS (takes_of rfl rfl rfl rfl) (fun _ _ _ _ h => h))))) (n_cons (n_lcS (ps_setLc (i := 3) (own := [("_law_mark", 14), ("_law_stamp", 15), ("_law_after", 16)]) (g := _) (by rfl) sc_law.nd rfl rfl (sw_true rfl rfl rfl (by decide +kernel)) (pi_U (m_var (pv 2))) (blkOk_by (own := [("_law_mark", 14), ("_law_stamp", 15), ("_law_after", 16)]) (N := ["_law_script", "_law_levels", "_law_rows_here", "_law_records", "_law_k", "_law_draws_here", "_law_left", "_law_some", "_law_turn", "_law_saved", "_law_record", "_law_parts", "_law_same", "_law_other", "_law_mark", "_law_stamp", "_law_after"]) (sc := defScope s_law) (by decide +kernel)) (fun _ _ _ _ _ => (pg_tup rfl (pgs_cons (pg_name (i := 14) sc_law.nd rfl (Or.inl rfl)) (pgs_cons (pg_name (i := 15) sc_law.nd rfl (Or.inl rfl)) (pgs_cons (pg_name (i := 16) sc_law.nd rfl (Or.inl rfl)) pgs_nil))))) (fun _ _ _ _ _ => mts_nil) (fun _ _ _ _ _ => (m_make (C_mk_Record rfl rfl rfl rfl rfl) hgd (hr.mono (by decide)) rfl (passS LamX.takes0 (fun _ _ _ _ h => h)) (m_cons (m_var (pv 14)) (m_cons (m_var (pv 15)) (m_cons (m_var (pv 16)) (m_cons (m_tup (m_cons m_str m_nil)) (m_cons m_non m_nil)))))))) sim_iU (gw_tup (gsw_cons (gw_set (by decide)) (gsw_cons (gw_set (by decide)) (gsw_cons (gw_set (by decide)) gsw_nil))) rfl)) (n_cons (n_for (ps_for (passes_of rfl) rfl (pi_range1 (by rfl) T.f_range (m_cons (m_cb (pe_callB (call_max2 rfl) (by rfl) T.f_max bo_max (m_cons m_int (m_cons (m_cb (pe_callB (call_min2 rfl) (by rfl) T.f_min bo_min (m_cons m_int (m_cons (m_lenW (by rfl) T.f_len (m_cons (m_var (pv 0)) m_nil)) m_nil))) sim_min2) m_nil))) sim_max2) m_nil)) (pg_name (i := 4) sc_law.nd rfl (Or.inl rfl)) (n_cons (n_asg (ps_set (i := 5) sc_law.nd rfl (Or.inl rfl) (m_call (C__law_draws rfl rfl rfl rfl rfl) hgd (hr.mono (by decide)) rfl (passS (takes_of rfl rfl rfl rfl) (fun _ _ _ _ h => h)) (m_cons (m_var (pv 0)) (m_cons (m_var (pv 4)) m_nil))))) (n_cons (n_par (ps_par (i := 6) (j := 7) (by rfl) sc_law.nd rfl rfl (by decide) rfl rfl (m_cons (m_cb (pe_callTy call_list_of (by rfl) T.f_list bo_list (m_cons (m_var (pv 3)) m_nil)) sim_listN) (m_cons (m_lstN m_nil) m_nil)) (by rfl))) (n_cons (n_for (ps_for (passes_of rfl) rfl (pi_range1 (by rfl) T.f_range (m_cons (m_lenW (by rfl) T.f_len (m_cons (m_var (pv 3)) m_nil)) m_nil)) (pg_name (i := 8) sc_law.nd rfl (Or.inl rfl)) (n_cons (n_drop (ps_expr (m_mt (meth_list PySem.F.slot_list_append PySem.F.type_list_append (mtG mt_append sim_append)) (m_var (pv 7)) (m_cons (m_mt meth_pop (m_var (pv 6)) (m_cons (m_call (C__law_draw rfl rfl rfl rfl rfl) hgd (hr.mono (by decide)) rfl (passS (takes_of rfl rfl rfl rfl) (fun _ _ _ _ h => h)) (m_cons (m_var (pv 5)) (m_cons (m_lenW (by rfl) T.f_len (m_cons (m_var (pv 6)) m_nil)) m_nil))) m_nil)) m_nil)))) (n_one (n_if (mt_cmp (OpR_or (op_eqD hr.units) (OpR_or (op_eqO (Z0 T rfl) (EQ rfl rfl rfl rfl rfl) hgd (hr.mono (by decide))) (op_sameEq (L := L0 K) (u0 hr)))) (sim_or sim_eqD (sim_or sim_G2 sim_G2)) (m_call (C__law_draw rfl rfl rfl rfl rfl) hgd (hr.mono (by decide)) rfl (passS (takes_of rfl rfl rfl rfl) (fun _ _ _ _ h => h)) (m_cons (m_var (pv 5)) (m_cons m_int m_nil))) m_int (nomark _)) (n_one (n_drop (ps_expr (m_mt (meth_list PySem.F.slot_list_append PySem.F.type_list_append (mtG mt_append sim_append)) (m_var (pv 7)) (m_cons (m_ixU (u9 hr) (m_var (pv 7)) m_int (fun _ _ => rfl)) m_nil))))) n_nil)))) sim_iR (g_set 8)) (n_cons (n_asg (ps_set (i := 9) sc_law.nd rfl (Or.inl rfl) (m_cb (pe_callTy call_list_of (by rfl) T.f_list bo_list (m_cons (m_var (pv 7)) m_nil)) sim_listN))) (n_cons (n_if (PW.pt (mw_or (mt_lend 12 rfl (mt_cmp (OpR_or (op_neD hr.units) (OpR_or (op_neO (Z0 T rfl) (EQ rfl rfl rfl rfl rfl) hgd (hr.mono (by decide))) (op_sameNe (L := L0 K) (u0 hr)))) (sim_or sim_neD (sim_or sim_G2 sim_G2)) (m_lc (pe_lc (own := [("_law_record", 10)]) (g := (gName 10)) (by rfl) sc_law.nd (pi_U (m_call (C_records_in_order rfl rfl rfl rfl rfl) hgd (hr.mono (by decide)) rfl (passS (takes_of rfl rfl rfl rfl) (fun _ _ _ _ h => h)) (m_cons (m_var (pv 1)) (m_cons (m_var (pv 7)) m_nil)))) (blkOk_by (own := [("_law_record", 10)]) (N := ["_law_script", "_law_levels", "_law_rows_here", "_law_records", "_law_k", "_law_draws_here", "_law_left", "_law_some", "_law_turn", "_law_saved", "_law_record", "_law_parts", "_law_same", "_law_other", "_law_mark", "_law_stamp", "_law_after"]) (sc := defScope s_law) (by decide +kernel)) (fun _ _ _ _ _ => (pg_name (i := 10) sc_law.nd rfl (Or.inl rfl))) (fun _ _ _ _ _ => mts_nil) (fun _ _ _ _ _ => (m_fld (fk_mark T rfl) (m_var (pv 10))))) sim_iU (gw_set (by decide))) (m_call0 (C__law_due rfl rfl rfl rfl rfl) hgd (hr.mono (by decide)) rfl (passS (takes_of rfl rfl rfl rfl) (fun _ _ _ _ h => h))) (nomark _))) (pw_or1 (mt_cmp (OpR_or (op_neD hr.units) (OpR_or (op_neO (Z0 T rfl) (EQ rfl rfl rfl rfl rfl) hgd (hr.mono (by decide))) (op_sameNe (L := L0 K) (u0 hr)))) (sim_or sim_neD (sim_or sim_G2 sim_G2)) (m_var (pv 7)) (m_var (pv 9)) (nomark _))))) (n_one (n_ret (ps_ret m_bl))) n_nil) (n_cons (n_asg (ps_set (i := 10) sc_law.nd rfl (Or.inl rfl) (m_ixU (u9 hr) (m_var (pv 7)) (m_call (C__law_draw rfl rfl rfl rfl rfl) hgd (hr.mono (by decide)) rfl (passS (takes_of rfl rfl rfl rfl) (fun _ _ _ _ h => h)) (m_cons (m_var (pv 5)) (m_cons (m_lenW (by rfl) T.f_len (m_cons (m_var (pv 7)) m_nil)) m_nil))) (fun _ _ => rfl)))) (n_cons (n_asg (ps_set (i := 11) sc_law.nd rfl (Or.inl rfl) (m_lst (m_cons (m_fld (fk_mark T rfl) (m_var (pv 10))) (m_cons (m_fld (fk_stamp T rfl) (m_var (pv 10))) (m_cons (m_fld (fk_after T rfl) (m_var (pv 10))) (m_cons (m_fld (fk_act T rfl) (m_var (pv 10))) (m_cons (m_fld (fk_first T rfl) (m_var (pv 10))) m_nil)))))))) (n_cons (n_asg (ps_set (i := 12) sc_law.nd rfl (Or.inl rfl) (m_make (C_mk_Record rfl rfl rfl rfl rfl) hgd (hr.mono (by decide)) rfl (passS (takes_of rfl rfl rfl rfl) (fun _ _ _ _ h => h)) (m_cons (m_ixU (u9 hr) (m_var (pv 11)) m_int (fun _ _ => rfl)) (m_cons (m_ixU (u9 hr) (m_var (pv 11)) m_int (fun _ _ => rfl)) (m_cons (m_ixU (u9 hr) (m_var (pv 11)) m_int (fun _ _ => rfl)) (m_cons (m_ixU (u9 hr) (m_var (pv 11)) m_int (fun _ _ => rfl)) (m_cons (m_ixU (u9 hr) (m_var (pv 11)) m_int (fun _ _ => rfl)) m_nil)))))))) (n_cons (n_asg (ps_set (i := 13) sc_law.nd rfl (Or.inl rfl) (m_make (C_mk_Record rfl rfl rfl rfl rfl) hgd (hr.mono (by decide)) rfl (passS (takes_of rfl rfl rfl rfl) (fun _ _ _ _ h => h)) (m_cons (m_ixU (u9 hr) (m_var (pv 11)) m_int (fun _ _ => rfl)) (m_cons (m_add (m_ixU (u9 hr) (m_var (pv 11)) m_int (fun _ _ => rfl)) m_int) (m_cons (m_ixU (u9 hr) (m_var (pv 11)) m_int (fun _ _ => rfl)) (m_cons (m_ixU (u9 hr) (m_var (pv 11)) m_int (fun _ _ => rfl)) (m_cons (m_ixU (u9 hr) (m_var (pv 11)) m_int (fun _ _ => rfl)) m_nil)))))))) (n_cons (n_if (PW.pt (mw_or (mt_cmp (OpR_or (op_neD hr.units) (OpR_or (op_neO (Z0 T rfl) (EQ rfl rfl rfl rfl rfl) hgd (hr.mono (by decide))) (op_sameNe (L := L0 K) (u0 hr)))) (sim_or sim_neD (sim_or sim_G2 sim_G2)) (m_var (pv 10)) (m_var (pv 12)) (nomark _)) (pw_or1 (mt_cmp (OpR_or (op_eqD hr.units) (OpR_or (op_eqO (Z0 T rfl) (EQ rfl rfl rfl rfl rfl) hgd (hr.mono (by decide))) (op_sameEq (L := L0 K) (u0 hr)))) (sim_or sim_eqD (sim_or sim_G2 sim_G2)) (m_var (pv 10)) (m_var (pv 13)) (nomark _))))) (n_one (n_ret (ps_ret m_bl))) n_nil) (n_one (n_if (PW.pt (mw_or (mt_cmp (OpR_or (op_eqD hr.units) (OpR_or (op_eqO (Z0 T rfl) (EQ rfl rfl rfl rfl rfl) hgd (hr.mono (by decide))) (op_sameEq (L := L0 K) (u0 hr)))) (sim_or sim_eqD (sim_or sim_G2 sim_G2)) (m_var (pv 10)) (m_make (C_mk_Record rfl rfl rfl rfl rfl) hgd (hr.mono (by decide)) rfl (passS (takes_of rfl rfl rfl rfl) (fun _ _ _ _ h => h)) (m_cons (m_ixU (u9 hr) (m_var (pv 11)) m_int (fun _ _ => rfl)) (m_cons (m_ixU (u9 hr) (m_var (pv 11)) m_int (fun _ _ => rfl)) (m_cons (m_ixU (u9 hr) (m_var (pv 11)) m_int (fun _ _ => rfl)) (m_cons (m_tup (m_cons m_str m_nil)) (m_cons m_non m_nil)))))) (nomark _)) (pw_or1 (mt_cmp (OpR_or (op_eqD hr.units) (OpR_or (op_eqO (Z0 T rfl) (EQ rfl rfl rfl rfl rfl) hgd (hr.mono (by decide))) (op_sameEq (L := L0 K) (u0 hr)))) (sim_or sim_eqD (sim_or sim_G2 sim_G2)) (m_var (pv 10)) (m_cb (pe_callTy call_tuple_of (by rfl) T.f_tuple bo_tuple (m_cons (m_var (pv 11)) m_nil)) sim_tuple) (nomark _))))) (n_one (n_ret (ps_ret m_bl))) n_nil))))))))))))) sim_iR (g_set 4)) (n_one (n_ret (ps_ret (m_lend 12 rfl (m_cmp (OpR_or (op_eqD hr.units) (OpR_or (op_eqO (Z0 T rfl) (EQ rfl rfl rfl rfl rfl) hgd (hr.mono (by decide))) (op_sameEq (L := L0 K) (u0 hr)))) (sim_or sim_eqD (sim_or sim_G2 sim_G2)) (m_call (C_records_in_order rfl rfl rfl rfl rfl) hgd (hr.mono (by decide)) rfl (passS (takes_of rfl rfl rfl rfl) (fun _ _ _ _ h => h)) (m_cons (m_var (pv 1)) (m_cons (m_lst m_nil) m_nil))) (m_lst m_nil) (nomark _))))))))))
end
end K54
end
section
set_option Elab.async false
set_option linter.all false
set_option maxRecDepth 100000
set_option maxHeartbeats 4000000
set_option pp.maxSteps 2000
namespace K54
open PySem PySem.Spec PyProof.Rows L2 Mi MeO
theorem mul_ok {i j : Int} (m : Mem) (h : lowB i = true ∨ lowB j = true) : gMul (.int i) (.int j) m = .ok (.int (i * j)) m := by
  have e : (lowB i || lowB j) = true := Bool.or_eq_true_iff.mpr h
  show (bif (lowB i || lowB j) then _ else _) = _
  rw [e]
  rfl
theorem mod_ok {i j : Int} (m : Mem) (h : 0 < j) : gMod (.int i) (.int j) m = .ok (.int (i % j)) m := by
  show (bif decide (0 < j) then _ else _) = _
  rw [decide_eq_true h]
  rfl
theorem fdiv_ok {i j : Int} (m : Mem) (h : 0 < j ∧ j < 1073741824) : gFdiv (.int i) (.int j) m = .ok (.int (i / j)) m := by
  show (bif decide (0 < j ∧ j < 1073741824) then _ else _) = _
  rw [decide_eq_true h]
  rfl
theorem add_ok {i j : Int} (m : Mem) : gAdd (.int i) (.int j) m = .ok (.int (i + j)) m := rfl
theorem low_of {i : Int} (h : 0 ≤ i) (h2 : i < 4294967296) : lowB i = true := decide_eq_true ⟨by omega, by omega⟩
def UR (d : D) : Prop := True
theorem ix_ref {n : Nat} {ds : List D} {i : Int} {d : D} {m : Mem} (h : m[n]? = some (.lst ds)) (e : atI ds i = some d) : gIxU (.ref n) (.int i) m = .ok d m := by
  show (gOr gIxL (gOr gIxM (gOr gIxT (gOr gIxS gDGet)))) _ _ _ = _
  have h1 : gIxM (.ref n) (.int i) m = .ok d m := by
    unfold gIxM
    dsimp only
    rw [h]
    dsimp only
    rw [e]
  unfold gOr
  have h0 : gIxL (.ref n) (.int i) m = .no := rfl
  rw [h0]
  dsimp only
  rw [h1]
theorem st_ref {n : Nat} {ds : List D} {i : Int} {j : Nat} {d : D} {m : Mem} (h : m[n]? = some (.lst ds)) (e : ixN ds.length i = some j) : stU (.ref n) (.int i) d m = some (m.set n (.lst (ds.set j d))) := by
  have h1 : Mi.stI (.ref n) (.int i) d m = some (m.set n (.lst (ds.set j d))) := by
    unfold Mi.stI
    dsimp only
    rw [h]
    dsimp only
    rw [e]
  unfold stU stOr
  rw [h1]
theorem draw_ok {m : Mem} {n : Nat} {a b u : Int} (h : m[n]? = some (.lst [.int a, .int b])) (hb : 0 ≤ b) (hb2 : b < 2147483647) (hu : 0 < u) (hu2 : u < 1073741824) :
    ∃ d a' b', r__law_draw [.ref n, .int u] m = .ok (.int d) (m.set n (.lst [.int a', .int b'])) ∧ 0 ≤ d ∧ d < u ∧ 0 ≤ b' ∧ b' < 2147483647 := by
  have i0 : gIxU (.ref n) (.int 0) m = .ok (.int a) m := ix_ref h rfl
  have i1 : gIxU (.ref n) (.int 1) m = .ok (.int b) m := ix_ref h rfl
  have hn : n < m.length := (List.getElem?_eq_some_iff.mp h).1
  by_cases ha : 0 < a
  · refine ⟨a % u, a / u, b, ?_, Int.emod_nonneg _ (by omega), Int.emod_lt_of_pos _ hu, hb, hb2⟩
    have s0 : stU (.ref n) (.int 0) (.int (a / u)) m = some (m.set n (.lst [.int (a / u), .int b])) := st_ref (j := 0) h rfl
    simp [r__law_draw, mDef, slStart, nSeq, nIf, mTest, mBin, mVar, mC, i0, i1, R.bind, R.seq, gI, nAsg, nSubU, RS.then, RS.back, nRet, mod_ok _ hu, fdiv_ok _ ⟨hu, hu2⟩, s0, ha]
  · have hb3 := Int.emod_nonneg (b * 48271 + 11) (show (2147483647 : Int) ≠ 0 by decide)
    have hb4 := Int.emod_lt_of_pos (b * 48271 + 11) (show (0 : Int) < 2147483647 by decide)
    generalize hc : (b * 48271 + 11) % 2147483647 = c at hb3 hb4
    refine ⟨c * c % 2147483629 / 64 % u, a, c, ?_, Int.emod_nonneg _ (by omega), Int.emod_lt_of_pos _ hu, hb3, hb4⟩
    have s1 : stU (.ref n) (.int 1) (.int c) m = some (m.set n (.lst [.int a, .int c])) := st_ref (j := 1) h rfl
    have h2 : (m.set n (.lst [.int a, .int c]))[n]? = some (.lst [.int a, .int c]) := by rw [List.getElem?_set_self hn]
    have j1 : gIxU (.ref n) (.int 1) (m.set n (.lst [.int a, .int c])) = .ok (.int c) (m.set n (.lst [.int a, .int c])) := ix_ref h2 rfl
    have q1 : ∀ m, gMul (.int b) (.int 48271) m = .ok (.int (b * 48271)) m := fun m => mul_ok m (.inr (by decide))
    have q2 : ∀ m, gMul (.int c) (.int c) m = .ok (.int (c * c)) m := fun m => mul_ok m (.inl (low_of hb3 (by omega)))
    simp [r__law_draw, mDef, slStart, nSeq, nIf, mTest, mBin, mVar, mC, i0, i1, R.bind, R.seq, gI, nAsg, nSubU, RS.then, RS.back, nRet, nNil, mod_ok, fdiv_ok, s1, j1, q1, q2, add_ok, ha, hc, hu]
end K54
end
section
set_option Elab.async false
set_option linter.all false
set_option maxRecDepth 100000
set_option maxHeartbeats 4000000
set_option pp.maxSteps 2000
namespace K54
open PySem PySem.Spec PyProof.Rows L2 Mi MeO
theorem ints_dat : ∀ ns : List Int, datA (ns.map D.int) = some (ns.map PyData.int)
  | [] => rfl
  | n :: ns => by
    show (dat (.int n)).bind (fun p => (datA (ns.map D.int)).map (p :: ·)) = _
    rw [ints_dat ns]
    rfl
theorem ints_lay : ∀ ns : List Int, PyData.canLayAll0 (ns.map PyData.int) = true
  | [] => rfl
  | n :: ns => by
    show (PyData.canLay0 (.int n) && PyData.canLayAll0 (ns.map PyData.int)) = true
    rw [ints_lay ns]
    rfl
theorem ints_depth : ∀ ns : List Int, PyData.depthAll (ns.map PyData.int) = 0
  | [] => rfl
  | n :: ns => by
    show max (PyData.depth (.int n)) (PyData.depthAll (ns.map PyData.int)) = 0
    rw [ints_depth ns]
    rfl
theorem shp_scr (ns : List Int) : shp (.scr (ns.map .int)) = some (.list (ns.map .int)) := by
  have e : dat (.scr (ns.map .int)) = some (.list (ns.map .int)) := by
    show (datA (ns.map D.int)).map PyData.list = _
    rw [ints_dat]
    rfl
  unfold shp
  rw [e]
  have s : SeqAt.shaped (.list (ns.map .int)) = true := by
    show (PyData.canLayAll0 (ns.map PyData.int) && decide (PyData.depthAll (ns.map PyData.int) + 1 ≤ 64)) = true
    rw [ints_lay, ints_depth]
    rfl
  show (if _ then _ else _) = _
  rw [if_pos s]
theorem ne_nil (ns : List Int) (m : Mem) : gNe (.scr (ns.map .int)) (.lst []) m = .ok (.bl (!ns.isEmpty)) m := by
  unfold gNe
  rw [shp_scr]
  have e : shp (.lst []) = some (.list []) := rfl
  rw [e]
  cases ns <;> rfl
theorem len_scr (ds : List D) (m : Mem) : gLenW [.scr ds] m = .ok (.int ds.length) m := rfl
theorem ix_scr {ds : List D} {i : Int} {d : D} {m : Mem} (e : atI ds i = some d) : gIxU (.scr ds) (.int i) m = .ok d m := by
  unfold gIxU gOr
  have h : gIxL (.scr ds) (.int i) m = .ok d m := by
    unfold gIxL
    dsimp only
    rw [e]
  rw [h]
theorem at_ints {ns : List Int} {i : Int} (h0 : 0 ≤ i) (h1 : i < ns.length) : ∃ x : Int, atI (ns.map D.int) i = some (.int x) := by
  have hl : i.toNat < (ns.map D.int).length := by rw [List.length_map]; omega
  refine ⟨ns[i.toNat]'(by omega), ?_⟩
  unfold atI ixN
  rw [List.length_map, if_pos h0, if_pos h1]
  show (ns.map D.int)[i.toNat]? = _
  rw [List.getElem?_map, List.getElem?_eq_getElem (by omega)]
  rfl
theorem draws_ok {ns : List Int} {k : Int} {m : Mem} (hk : 0 ≤ k) (hk2 : k < 100) (hn : ns.length ≤ 63) : ∃ a b, r__law_draws [.scr (ns.map .int), .int k] m = .ok (.ref m.length) (m ++ [.lst [.int a, .int b]]) ∧ 0 ≤ b ∧ b < 2147483647 := by
  have key : ∀ cell : Int, ∃ a b, (nSeq (nIf (mTest (mBin (gI fun i j => .bl (decide (j ≤ i))) (mVar 1) (mCB gLenW (mCons (mVar 0) mNil)))) (nAsg 2 (mBin gMod (mVar 2) (mC (.int 1000003)))) nNil) (nSeq (nAsg 3 (mBin gMod (mBin gMul (mBin gAdd (mBin gAdd (mBin gMod (mVar 2) (mC (.int 2147483629))) (mBin gMul (mC (.int 104729)) (mVar 1))) (mC (.int 11))) (mC (.int 48271))) (mC (.int 2147483647)))) (nRet (mLstN (mCons (mBin gMul (mVar 2) (mCB gIntB (mCons (mBin (gI fun i j => .bl (decide (j ≤ i))) (mVar 2) (mBin gPow (mC (.int 10)) (mC (.int 18)))) mNil))) (mCons (mVar 3) mNil)))))) [some (.scr (ns.map .int)), some (.int k), some (.int cell), none] m = .ret (.ref m.length) (m ++ [.lst [.int a, .int b]]) ∧ 0 ≤ b ∧ b < 2147483647 := by
    intro cell
    have fin : ∀ c2 : Int, ∃ a b, (nSeq (nAsg 3 (mBin gMod (mBin gMul (mBin gAdd (mBin gAdd (mBin gMod (mVar 2) (mC (.int 2147483629))) (mBin gMul (mC (.int 104729)) (mVar 1))) (mC (.int 11))) (mC (.int 48271))) (mC (.int 2147483647)))) (nRet (mLstN (mCons (mBin gMul (mVar 2) (mCB gIntB (mCons (mBin (gI fun i j => .bl (decide (j ≤ i))) (mVar 2) (mBin gPow (mC (.int 10)) (mC (.int 18)))) mNil))) (mCons (mVar 3) mNil))))) [some (.scr (ns.map .int)), some (.int k), some (.int c2), none] m = .ret (.ref m.length) (m ++ [.lst [.int a, .int b]]) ∧ 0 ≤ b ∧ b < 2147483647 := by
      intro c2
      refine ⟨c2 * (if (1000000000000000000 : Int) ≤ c2 then 1 else 0), (c2 % 2147483629 + 104729 * k + 11) * 48271 % 2147483647, ?_, Int.emod_nonneg _ (by decide), Int.emod_lt_of_pos _ (by decide)⟩
      have q1 : ∀ m, gMul (.int 104729) (.int k) m = .ok (.int (104729 * k)) m := fun m => mul_ok m (.inl (by decide))
      have q2 : ∀ x m, gMul (.int x) (.int 48271) m = .ok (.int (x * 48271)) m := fun x m => mul_ok m (.inr (by decide))
      have q3 : ∀ m, gPow (.int 10) (.int 18) m = .ok (.int 1000000000000000000) m := fun m => rfl
      by_cases h : (1000000000000000000 : Int) ≤ c2
      · have q4 : ∀ m, gMul (.int c2) (.int 1) m = .ok (.int (c2 * 1)) m := fun m => mul_ok m (.inr (by decide))
        simp [nSeq, mBin, mVar, mC, R.bind, R.seq, gI, nAsg, RS.then, nRet, mod_ok, q1, q2, q3, q4, add_ok, mLstN, mCons, mNil, mCB, gIntB, h]
      · have q4 : ∀ m, gMul (.int c2) (.int 0) m = .ok (.int (c2 * 0)) m := fun m => mul_ok m (.inr (by decide))
        simp [nSeq, mBin, mVar, mC, R.bind, R.seq, gI, nAsg, RS.then, nRet, mod_ok, q1, q2, q3, q4, add_ok, mLstN, mCons, mNil, mCB, gIntB, h]
    by_cases h : (ns.length : Int) ≤ k
    · obtain ⟨a, b, e, h1, h2⟩ := fin (cell % 1000003)
      refine ⟨a, b, ?_, h1, h2⟩
      rw [← e]
      simp [nSeq, nIf, mTest, mBin, mVar, mC, R.bind, R.seq, gI, nAsg, RS.then, mod_ok, mCB, mCons, mNil, len_scr, h]
    · obtain ⟨a, b, e, h1, h2⟩ := fin cell
      refine ⟨a, b, ?_, h1, h2⟩
      rw [← e]
      simp [nSeq, nIf, mTest, mBin, mVar, mC, R.bind, R.seq, gI, nAsg, RS.then, mod_ok, mCB, mCons, mNil, len_scr, h, nNil]
  cases hns : ns.isEmpty with
  | true =>
    obtain ⟨a, b, e, h1, h2⟩ := key 0
    refine ⟨a, b, ?_, h1, h2⟩
    have e0 : gNe (.scr (ns.map .int)) (.ref m.length) m = .no := by
      unfold gNe
      rw [shp_scr]
      rfl
    unfold r__law_draws mDef
    have e1 : ∀ s : MS, (nSeq (nAsg 2 (mC (.int 0))) (nSeq (nIf (mTest (mBin gNe (mVar 0) (mLst mNil))) (nAsg 2 (mBin gIxU (mVar 0) (mBin gMod (mVar 1) (mCB gLenW (mCons (mVar 0) mNil))))) nNil) s)) (slStart ["_law_script", "_law_k", "_law_cell", "_law_seed"] [.scr (ns.map .int), .int k]) m = s [some (.scr (ns.map .int)), some (.int k), some (.int 0), none] m := fun s => by
      simp [slStart, nSeq, nIf, mTest, mBin, mVar, mC, R.bind, R.seq, nAsg, RS.then, mLst, mNil, ne_nil, hns, nNil]
    rw [e1, e]
    rfl
  | false =>
    have hl : 0 < ns.length := by
      cases ns with
      | nil => cases hns
      | cons => simp
    have hl' : (0 : Int) < (ns.map D.int).length := by rw [List.length_map]; omega
    obtain ⟨x, hx⟩ := at_ints (ns := ns) (i := k % (ns.map D.int).length) (Int.emod_nonneg _ (by omega)) (by have := Int.emod_lt_of_pos k hl'; rw [List.length_map] at this; simpa using this)
    obtain ⟨a, b, e, h1, h2⟩ := key x
    refine ⟨a, b, ?_, h1, h2⟩
    unfold r__law_draws mDef
    have e1 : ∀ s : MS, (nSeq (nAsg 2 (mC (.int 0))) (nSeq (nIf (mTest (mBin gNe (mVar 0) (mLst mNil))) (nAsg 2 (mBin gIxU (mVar 0) (mBin gMod (mVar 1) (mCB gLenW (mCons (mVar 0) mNil))))) nNil) s)) (slStart ["_law_script", "_law_k", "_law_cell", "_law_seed"] [.scr (ns.map .int), .int k]) m = s [some (.scr (ns.map .int)), some (.int k), some (.int x), none] m := fun s => by
      have z := mod_ok (i := k) m hl'
      simp [slStart, nSeq, nIf, mTest, mBin, mVar, mC, R.bind, R.seq, nAsg, RS.then, mLst, mNil, ne_nil, hns, nNil, mCB, mCons, len_scr, z, ix_scr hx, -List.length_map]
    rw [e1, e]
    rfl
end K54
end
section
set_option Elab.async false
set_option linter.all false
set_option maxRecDepth 100000
set_option maxHeartbeats 4000000
set_option pp.maxSteps 2000
namespace K54
open PySem PySem.Spec PyProof.Rows L2 Mi MeO
/-! the eleven records -/
def rows : List (Str × Str × Int × Int × Option Nat) := [("open", "", 1, 1, none), ("top", "", 1, 3, some 2), ("red", "pad", 1, 2, some 0), ("red", "", 1, 4, some 0), ("blue", "", 1, 2, some 0), ("open", "pad", 1, 2, none), ("blue", "", 10, 5, some 0), ("blue", "", 9, 5, some 0), ("red", "", 2, 5, some 5), ("open", "", 2, 2, none), ("top", "", 2, 6, some 9)]
def row (i : Nat) : Str × Str × Int × Int × Option Nat := rows.getD i ("", "", 0, 0, none)
def markD (i : Nat) : D := .tup [.str (row i).1, .str (row i).2.1, .int (row i).2.2.1]
def aft (i : Nat) : Option Nat := (row i).2.2.2.2
def markO : Option Nat → D
  | some i => markD i
  | none => .non
def kk (i : Nat) : NestedKey := .tup [.text (row i).1, .text (row i).2.1, .num (row i).2.2.1]
def kkO : Option Nat → NestedKey
  | some i => kk i
  | none => .none
def recF (i : Nat) : List (Str × D) := [("mark", markD i), ("stamp", .int (row i).2.2.2.1), ("after", markO (aft i)), ("act", .tup [.str "undo"]), ("first", .non), ("key", .tup [markD i, .int (row i).2.2.2.1, markO (aft i), .tup [.str "undo"], .non])]
def recO (i : Nat) : D := .obj 4 (recF i)
theorem all11 {P : Nat → Prop} (h : P 0 ∧ P 1 ∧ P 2 ∧ P 3 ∧ P 4 ∧ P 5 ∧ P 6 ∧ P 7 ∧ P 8 ∧ P 9 ∧ P 10) : ∀ i, i < 11 → P i := fun i hi => by
  obtain ⟨h0, h1, h2, h3, h4, h5, h6, h7, h8, h9, h10⟩ := h
  rcases i with _ | _ | _ | _ | _ | _ | _ | _ | _ | _ | _ | i
  all_goals first | assumption | omega
theorem key_mark : ∀ i, key8 (markD i) = some (kk i) := fun i => rfl
theorem key_markO : ∀ i, key8 (markO i) = some (kkO i)
  | some i => key_mark i
  | none => rfl
theorem kk_eq : ∀ i, i < 11 → ∀ j, j < 11 → NestedKey.beq (kk i) (kk j) = decide (i = j) := by decide +kernel
theorem kkO_eq {i j : Option Nat} (hi : ∀ k, i = some k → k < 11) (hj : ∀ k, j = some k → k < 11) : NestedKey.beq (kkO i) (kkO j) = decide (i = j) := by
  cases i with
  | none =>
    cases j with
    | none => rfl
    | some j => rfl
  | some i =>
    cases j with
    | none => rfl
    | some j =>
      show NestedKey.beq (kk i) (kk j) = _
      rw [kk_eq i (hi i rfl) j (hj j rfl)]
      by_cases h : i = j
      · rw [h]; simp
      · rw [decide_eq_false h, decide_eq_false (fun z => h (Option.some.inj z))]
theorem aft_lt : ∀ i, i < 11 → ∀ k, aft i = some k → k < 11 := by decide +kernel
theorem keyIs_mark {i j : Nat} (hi : i < 11) (hj : j < 11) : keyIs (kk i) (markD j) = decide (j = i) := by
  show NestedKey.beq (kk j) (kk i) = _
  exact kk_eq j hj i hi
/-! the dict of the marks -/
def pr (i : Nat) : D × D := (markD i, recO i)
theorem ix_pr {i : Nat} (hi : i < 11) : ∀ {o : List Nat}, (∀ j ∈ o, j < 11) → ixD (o.map pr) (kk i) = o.findIdx? (fun j => decide (j = i)) := fun {o} ho => by
  unfold ixD
  rw [List.findIdx?_map]
  induction o with
  | nil => rfl
  | cons a o ih =>
    rw [List.findIdx?_cons, List.findIdx?_cons, ih fun j hj => ho j (List.mem_cons_of_mem _ hj)]
    have e : ((fun p : D × D => keyIs (kk i) p.1) ∘ pr) a = decide (a = i) := keyIs_mark hi (ho a List.mem_cons_self)
    rw [e]
theorem find_of {i : Nat} {o : List Nat} (h : i ∈ o) : ∃ k, o.findIdx? (fun j => decide (j = i)) = some k ∧ o[k]? = some i := by
  have h2 : (o.findIdx? fun j => decide (j = i)).isSome = true := by
    rw [List.findIdx?_isSome]
    exact List.any_eq_true.mpr ⟨i, h, by simp⟩
  obtain ⟨k, hk⟩ := Option.isSome_iff_exists.mp h2
  refine ⟨k, hk, ?_⟩
  obtain ⟨hl, hp, _⟩ := List.findIdx?_eq_some_iff_getElem.mp hk
  rw [List.getElem?_eq_getElem hl]
  exact congrArg some (of_decide_eq_true hp)
theorem find_not {i : Nat} {o : List Nat} (h : i ∉ o) : o.findIdx? (fun j => decide (j = i)) = none := by
  rw [List.findIdx?_eq_none_iff]
  intro j hj
  exact decide_eq_false fun z => h (z ▸ hj)
def addO (o : List Nat) (i : Nat) : List Nat := if i ∈ o then o else o ++ [i]
/-- the very same record -/
theorem eq_self : ∀ i, i < 11 → ∀ m : Mem, gOr gNe (gOr (gEqO (tabOf tl) 4 r_Record___eq__ true) (gSame true)) (recO i) (recO i) m = .ok (.bl false) m :=
  all11 (P := fun i => ∀ m : Mem, gOr gNe (gOr (gEqO (tabOf tl) 4 r_Record___eq__ true) (gSame true)) (recO i) (recO i) m = .ok (.bl false) m) ⟨by intro m; kernel_rfl, by intro m; kernel_rfl, by intro m; kernel_rfl, by intro m; kernel_rfl, by intro m; kernel_rfl, by intro m; kernel_rfl, by intro m; kernel_rfl, by intro m; kernel_rfl, by intro m; kernel_rfl, by intro m; kernel_rfl, by intro m; kernel_rfl⟩
/-- the levels, as they stand -/
def LVF : List (Str × D) := [("own_names", .lst [.str "open", .str "red", .str "blue", .str "top"]), ("lower", .dic [(.str "open", .dic [(.str "open", .bl true)]), (.str "red", .dic [(.str "red", .bl true), (.str "open", .bl true)]), (.str "blue", .dic [(.str "blue", .bl true), (.str "open", .bl true)]), (.str "top", .dic [(.str "top", .bl true), (.str "open", .bl true), (.str "red", .bl true), (.str "blue", .bl true)])])]
def LV : D := .obj 3 LVF
theorem above_ok : ∀ i, i < 11 → ∀ m : Mem, ∀ k, aft i = some k → r_Levels_above [LV, .str (row i).1, .str (row k).1] m = .ok (.bl true) m :=
  all11 (P := fun i => ∀ m : Mem, ∀ k, aft i = some k → r_Levels_above [LV, .str (row i).1, .str (row k).1] m = .ok (.bl true) m) ⟨(fun m k e => nomatch (show (none : Option Nat) = some k from e)),
   fun m k e => by
    have e2 : some 2 = some k := e
    cases e2
    kernel_rfl,
   fun m k e => by
    have e2 : some 0 = some k := e
    cases e2
    kernel_rfl,
   fun m k e => by
    have e2 : some 0 = some k := e
    cases e2
    kernel_rfl,
   fun m k e => by
    have e2 : some 0 = some k := e
    cases e2
    kernel_rfl,
   (fun m k e => nomatch (show (none : Option Nat) = some k from e)),
   fun m k e => by
    have e2 : some 0 = some k := e
    cases e2
    kernel_rfl,
   fun m k e => by
    have e2 : some 0 = some k := e
    cases e2
    kernel_rfl,
   fun m k e => by
    have e2 : some 5 = some k := e
    cases e2
    kernel_rfl,
   (fun m k e => nomatch (show (none : Option Nat) = some k from e)),
   fun m k e => by
    have e2 : some 9 = some k := e
    cases e2
    kernel_rfl⟩
end K54
end
section
set_option Elab.async false
set_option linter.all false
set_option maxRecDepth 100000
set_option maxHeartbeats 4000000
set_option pp.maxSteps 2000
namespace K54
open PySem PySem.Spec PyProof.Rows L2 Mi MeO
def mkA : MS := (nSeq (nIf (mAnd (mTest (mBin (gOr (gInS false) (gOr (gInD false) (gDIn false))) (mUn (gFld [4] "mark") (mVar 3)) (mVar 2))) (mTest (mBin (gOr gNe (gOr (gEqO (tabOf tl) 4 r_Record___eq__ true) (gSame true))) (mBin gIxU (mVar 2) (mUn (gFld [4] "mark") (mVar 3))) (mVar 3)))) (nRaise 2 "value" (mCons (mUn (gFld [4] "mark") (mVar 3)) mNil)) nNil) (nSubU stU (mVar 2) (mUn (gFld [4] "mark") (mVar 3)) (mVar 3)))
def mkB : MS := (nIf (mTest (mBin (gIsN true) (mUn (gFld [4] "after") (mVar 3)) (mC .non))) (nIf (mOr (mTest (mBin (gOr (gInS true) (gOr (gInD true) (gDIn true))) (mUn (gFld [4] "after") (mVar 3)) (mVar 2))) (mNot (mTru (mMeth 3 "above" 3 r_Levels_above (mVar 0) (mCons (mBin gIxU (mUn (gFld [4] "mark") (mVar 3)) (mC (.int 0))) (mCons (mBin gIxU (mUn (gFld [4] "after") (mVar 3)) (mC (.int 0))) mNil)))))) (nRaise 2 "value" (mCons (mUn (gFld [4] "mark") (mVar 3)) mNil)) nNil) nNil)
theorem r_marks : r_record_marks = mDef ["levels", "records", "found", "record"] (nSeq (nAsg 2 mDE) (nSeq (nFor (iU (mVar 1)) (gSet 3) mkA) (nSeq (nForW 100 (wDU (fun p => p.2) (mVar 2)) (gSet 3) mkB) (nRet (mVar 2))))) := rfl
theorem f_mark (i : Nat) (m : Mem) : gFld [4] "mark" (recO i) m = .ok (markD i) m := by kernel_rfl
theorem f_after (i : Nat) (m : Mem) : gFld [4] "after" (recO i) m = .ok (markO (aft i)) m := by kernel_rfl
theorem f_stamp (i : Nat) (m : Mem) : gFld [4] "stamp" (recO i) m = .ok (.int (row i).2.2.2.1) m := by kernel_rfl
abbrev DO (o : List Nat) : MO := .dic o.length (o.map pr)
theorem in_dic {o : List Nat} (ho : ∀ j ∈ o, j < 11) {i : Nat} (hi : i < 11) (t : Mem) (n : Bool) : gOr (gInS n) (gOr (gInD n) (gDIn n)) (markD i) (.ref 0) (DO o :: t) = .ok (.bl (n != decide (i ∈ o))) (DO o :: t) := by
  have h1 : gInS n (markD i) (.ref 0) (DO o :: t) = .no := rfl
  have h2 : gInD n (markD i) (.ref 0) (DO o :: t) = .no := by
    unfold gInD
    have e : shp (.ref 0) = none := rfl
    rw [e]
    cases shp (markD i) <;> rfl
  have h3 : gDIn n (markD i) (.ref 0) (DO o :: t) = .ok (.bl (n != (ixD (o.map pr) (kk i)).isSome)) (DO o :: t) := rfl
  unfold gOr
  rw [h1]
  dsimp only
  rw [h2]
  dsimp only
  rw [h3, ix_pr hi ho]
  by_cases h : i ∈ o
  · obtain ⟨k, hk, _⟩ := find_of h
    rw [hk, decide_eq_true h]
    rfl
  · rw [find_not h, decide_eq_false h]
    rfl
theorem get_dic {o : List Nat} (ho : ∀ j ∈ o, j < 11) {i : Nat} (hi : i < 11) (h : i ∈ o) (t : Mem) : gIxU (.ref 0) (markD i) (DO o :: t) = .ok (recO i) (DO o :: t) := by
  have h5 : gDGet (.ref 0) (markD i) (DO o :: t) = .ok (recO i) (DO o :: t) := by
    show (match ixD (o.map pr) (kk i) with
      | some j => match (o.map pr)[j]? with
        | some p => R.ok p.2 (DO o :: t)
        | none => .no
      | none => .no) = _
    rw [ix_pr hi ho]
    obtain ⟨k, hk, hg⟩ := find_of h
    rw [hk]
    dsimp only
    rw [List.getElem?_map, hg]
    rfl
  unfold gIxU gOr
  rw [show gIxL (.ref 0) (markD i) (DO o :: t) = .no from rfl]
  dsimp only
  rw [show gIxM (.ref 0) (markD i) (DO o :: t) = .no from rfl]
  dsimp only
  rw [show gIxT (.ref 0) (markD i) (DO o :: t) = .no from rfl]
  dsimp only
  rw [show gIxS (.ref 0) (markD i) (DO o :: t) = .no from rfl]
  exact h5
theorem set_dic {o : List Nat} (ho : ∀ j ∈ o, j < 11) (hl : o.length ≤ 100000) {i : Nat} (hi : i < 11) (t : Mem) : stU (.ref 0) (markD i) (recO i) (DO o :: t) = some (DO (addO o i) :: t) := by
  have h : stD (.ref 0) (markD i) (recO i) (DO o :: t) = some (DO (addO o i) :: t) := by
    show (bif Nat.ble (o.map pr).length 100000 then some ((DO o :: t).set 0 (.dic (putN (o.map pr) (kk i) o.length) (putP (o.map pr) (kk i) (markD i) (recO i)))) else none) = _
    rw [List.length_map, (by simpa using hl : Nat.ble o.length 100000 = true)]
    show some ((MO.dic (putN (o.map pr) (kk i) o.length) (putP (o.map pr) (kk i) (markD i) (recO i))) :: t) = _
    unfold putN putP addO
    rw [ix_pr hi ho]
    by_cases h : i ∈ o
    · obtain ⟨k, hk, hg⟩ := find_of h
      rw [hk, if_pos h]
      dsimp only
      have e : (o.map pr).modify k (fun p => (p.1, recO i)) = o.map pr := by
        apply List.ext_getElem?
        intro j
        rw [List.getElem?_modify]
        by_cases hj : k = j
        · subst hj
          rw [List.getElem?_map, hg]
          simp [pr]
        · simp [hj]
      rw [e]
    · rw [find_not h, if_neg h]
      dsimp only
      simp [DO, pr]
  unfold stU stOr
  rw [show Mi.stI (.ref 0) (markD i) (recO i) (DO o :: t) = none from rfl]
  exact h
theorem mkA_ok {o : List Nat} (ho : ∀ j ∈ o, j < 11) (hl : o.length ≤ 100000) {i : Nat} (hi : i < 11) (L : D) (t : Mem) : mkA [some LV, some L, some (.ref 0), some (recO i)] (DO o :: t) = .next [some LV, some L, some (.ref 0), some (recO i)] (DO (addO o i) :: t) := by
  have s := set_dic ho hl hi t
  have g := in_dic ho hi t false
  by_cases h : i ∈ o
  · have k := get_dic ho hi h t
    rw [decide_eq_true h] at g
    have ee := eq_self i hi (DO o :: t)
    simp [mkA, nSeq, nIf, mAnd, mTest, mBin, mUn, mVar, R.bind, R.seq, RS.then, nSubU, nNil, f_mark, g, k, ee, s]
  · rw [decide_eq_false h] at g
    simp [mkA, nSeq, nIf, mAnd, mTest, mBin, mUn, mVar, R.bind, R.seq, RS.then, nSubU, nNil, f_mark, g, s]
theorem addO_lt {o : List Nat} (ho : ∀ j ∈ o, j < 11) {i : Nat} (hi : i < 11) : ∀ j ∈ addO o i, j < 11 := fun j hj => by
  unfold addO at hj
  split at hj
  · exact ho j hj
  · rcases List.mem_append.mp hj with z | z
    · exact ho j z
    · rw [List.mem_singleton.mp z]
      exact hi
theorem addO_len {o : List Nat} {i : Nat} : (addO o i).length ≤ o.length + 1 := by
  unfold addO
  split <;> simp
theorem loopA (L : D) (t : Mem) : ∀ (rs o : List Nat) (x : Option D), (∀ j ∈ rs, j < 11) → (∀ j ∈ o, j < 11) → o.length + rs.length ≤ 1000 → ∃ y, forL (gSet 3) mkA (rs.map recO) [some LV, some L, some (.ref 0), x] (DO o :: t) = .next [some LV, some L, some (.ref 0), y] (DO (rs.foldl addO o) :: t)
  | [], o, x, _, _, _ => ⟨x, rfl⟩
  | i :: rs, o, x, hr, ho, hl => by
    have hi := hr i List.mem_cons_self
    have h1 : o.length + (rs.length + 1) ≤ 1000 := hl
    obtain ⟨y, hy⟩ := loopA L t rs (addO o i) (some (recO i)) (fun j hj => hr j (List.mem_cons_of_mem _ hj)) (addO_lt ho hi) (by have := addO_len (o := o) (i := i); omega)
    refine ⟨y, ?_⟩
    rw [List.foldl_cons, ← hy, List.map_cons]
    show (match gSet 3 (recO i) [some LV, some L, some (.ref 0), x] with
      | none => RS.no
      | some sl1 => match mkA sl1 (DO o :: t) with
        | .next sl2 m2 => forL (gSet 3) mkA (rs.map recO) sl2 m2
        | .cont sl2 m2 => forL (gSet 3) mkA (rs.map recO) sl2 m2
        | .brk sl2 m2 => .next sl2 m2
        | r => r) = _
    rw [show gSet 3 (recO i) [some LV, some L, some (.ref 0), x] = some [some LV, some L, some (.ref 0), some (recO i)] from rfl]
    dsimp only
    rw [mkA_ok ho (by omega) hi]
end K54
end
section
set_option Elab.async false
set_option linter.all false
set_option maxRecDepth 100000
set_option maxHeartbeats 4000000
set_option pp.maxSteps 2000
namespace K54
open PySem PySem.Spec PyProof.Rows L2 Mi MeO
theorem ix_mark (i : Nat) (m : Mem) : gIxU (markD i) (.int 0) m = .ok (.str (row i).1) m := by kernel_rfl
theorem meth_above {i k : Nat} (hi : i < 11) (e : aft i = some k) (m : Mem) (sl : Sl) (h0 : sl[0]? = some (some LV)) (a b : ME) (ha : a sl m = .ok (.str (row i).1) m) (hb : b sl m = .ok (.str (row k).1) m) : mMeth 3 "above" 3 r_Levels_above (mVar 0) (mCons a (mCons b mNil)) sl m = .ok (.bl true) m := by
  have z := above_ok i hi m k e
  have h1 : mVar 0 sl m = .ok LV m := by
    unfold mVar
    rw [h0]
  unfold mMeth
  rw [h1]
  have h2 : insOf m LV = some (3, LVF) := rfl
  show (match insOf m LV with
    | some (k', fs) => bif Nat.beq k' 3 && (fs.lookup ("above" : Str)).isNone then ((mCons a (mCons b mNil)) sl m).bind fun ds m2 => if ds.length + 1 = 3 then r_Levels_above (LV :: ds) m2 else .no else .no
    | none => .no) = _
  rw [h2]
  have h3 : (mCons a (mCons b mNil)) sl m = .ok [.str (row i).1, .str (row k).1] m := by
    unfold mCons mNil
    rw [ha]
    show ((b sl m).bind _).bind _ = _
    rw [hb]
    rfl
  rw [h3]
  exact z
theorem or_ff {a b : MT} {sl : Sl} {m : Mem} (h : a sl m = .ok false m) (k : b sl m = .ok false m) : mOr a b sl m = .ok false m := by
  unfold mOr
  rw [h]
  exact k
theorem not_t {a : MT} {sl : Sl} {m : Mem} (h : a sl m = .ok true m) : mNot a sl m = .ok false m := by
  unfold mNot
  rw [h]
  rfl
theorem if_t {a : MT} {x y : MS} {sl : Sl} {m m1 : Mem} (h : a sl m = .ok true m1) : nIf a x y sl m = x sl m1 := by
  unfold nIf
  rw [h]
  rfl
theorem if_f {a : MT} {x y : MS} {sl : Sl} {m m1 : Mem} (h : a sl m = .ok false m1) : nIf a x y sl m = y sl m1 := by
  unfold nIf
  rw [h]
  rfl
theorem seq_n {a b : MS} {sl sl1 : Sl} {m m1 : Mem} (h : a sl m = .next sl1 m1) : nSeq a b sl m = b sl1 m1 := by
  unfold nSeq
  rw [h]
  rfl
theorem mkB_ok {o : List Nat} (ho : ∀ j ∈ o, j < 11) (hc : ∀ j ∈ o, ∀ k, aft j = some k → k ∈ o) {i : Nat} (hi : i ∈ o) (L : D) (t : Mem) : mkB [some LV, some L, some (.ref 0), some (recO i)] (DO o :: t) = .next [some LV, some L, some (.ref 0), some (recO i)] (DO o :: t) := by
  have h11 := ho i hi
  cases e : aft i with
  | none =>
    have z : gIsN true (markO (aft i)) .non (DO o :: t) = .ok (.bl false) (DO o :: t) := by rw [e]; rfl
    simp [mkB, nIf, mTest, mBin, mUn, mVar, mC, R.bind, R.seq, nNil, f_after, z]
  | some k =>
    have hk := hc i hi k e
    have k11 := ho k hk
    have z : gIsN true (markD k) .non (DO o :: t) = .ok (.bl true) (DO o :: t) := rfl
    have g := in_dic ho k11 t true
    rw [decide_eq_true hk] at g
    have fa : ∀ m, gFld [4] "after" (recO i) m = .ok (markD k) m := fun m => by rw [f_after, e]; rfl
    have m1 := meth_above h11 e (DO o :: t) [some LV, some L, some (.ref 0), some (recO i)] rfl (mBin gIxU (mUn (gFld [4] "mark") (mVar 3)) (mC (.int 0))) (mBin gIxU (mUn (gFld [4] "after") (mVar 3)) (mC (.int 0))) (by
      simp [mBin, mUn, mVar, mC, R.bind, f_mark, ix_mark]) (by
      simp [mBin, mUn, mVar, mC, R.bind, fa, ix_mark])
    have tt : ∀ m, tru m (.bl true) = some true := fun m => rfl
    have mt : mTru (mMeth 3 "above" 3 r_Levels_above (mVar 0) (mCons (mBin gIxU (mUn (gFld [4] "mark") (mVar 3)) (mC (.int 0))) (mCons (mBin gIxU (mUn (gFld [4] "after") (mVar 3)) (mC (.int 0))) mNil))) [some LV, some L, some (.ref 0), some (recO i)] (DO o :: t) = .ok true (DO o :: t) := by
      unfold mTru
      rw [m1]
      rfl
    have A : mTest (mBin (gOr (gInS true) (gOr (gInD true) (gDIn true))) (mUn (gFld [4] "after") (mVar 3)) (mVar 2)) [some LV, some L, some (.ref 0), some (recO i)] (DO o :: t) = .ok false (DO o :: t) := by
      simp [mTest, mBin, mUn, mVar, R.bind, fa, g]
    have C := or_ff A (not_t mt)
    have T : mTest (mBin (gIsN true) (mUn (gFld [4] "after") (mVar 3)) (mC .non)) [some LV, some L, some (.ref 0), some (recO i)] (DO o :: t) = .ok true (DO o :: t) := by
      simp [mTest, mBin, mUn, mVar, mC, R.bind, fa, z]
    exact (if_t T).trans (if_f C)
theorem it_dic {o : List Nat} (t : Mem) (f : D × D → D) (i : Nat) : itDM 0 o.length (o.map pr).length f i (DO o :: t) = match (o.map pr)[i]? with
      | some p => .item (f p)
      | none => .stop := by
  show (bif Nat.beq o.length o.length && Nat.beq (o.map pr).length (o.map pr).length then _ else _) = _
  rw [Nat.beq_refl, Nat.beq_refl]
  rfl
theorem loopB {o : List Nat} (ho : ∀ j ∈ o, j < 11) (hc : ∀ j ∈ o, ∀ k, aft j = some k → k ∈ o) (L : D) (t : Mem) : ∀ (n fuel i : Nat) (x : Option D), i + n = o.length → n < fuel → ∃ y, forW (itDM 0 o.length (o.map pr).length (fun p => p.2)) (gSet 3) mkB fuel i [some LV, some L, some (.ref 0), x] (DO o :: t) = .next [some LV, some L, some (.ref 0), y] (DO o :: t)
  | n, 0, i, x, _, h2 => by omega
  | 0, fuel + 1, i, x, h1, _ => ⟨x, by
    show (match itDM 0 o.length (o.map pr).length (fun p => p.2) i (DO o :: t) with
      | .stop => RS.next [some LV, some L, some (.ref 0), x] (DO o :: t)
      | .no => .no
      | .item d => _) = _
    rw [it_dic, List.getElem?_eq_none (by rw [List.length_map]; omega)]⟩
  | n + 1, fuel + 1, i, x, h1, h2 => by
    have hl : i < o.length := by omega
    obtain ⟨y, hy⟩ := loopB ho hc L t n fuel (i + 1) (some (recO o[i])) (by omega) (by omega)
    refine ⟨y, ?_⟩
    show (match itDM 0 o.length (o.map pr).length (fun p => p.2) i (DO o :: t) with
      | .stop => RS.next [some LV, some L, some (.ref 0), x] (DO o :: t)
      | .no => .no
      | .item d => match gSet 3 d [some LV, some L, some (.ref 0), x] with
        | none => .no
        | some sl1 => (mkB sl1 (DO o :: t)).turn fun sl2 m2 => forW (itDM 0 o.length (o.map pr).length (fun p => p.2)) (gSet 3) mkB fuel (i + 1) sl2 m2) = _
    rw [it_dic, List.getElem?_map, List.getElem?_eq_getElem hl]
    show ((mkB [some LV, some L, some (.ref 0), some (recO o[i])] (DO o :: t)).turn fun sl2 m2 => forW (itDM 0 o.length (o.map pr).length (fun p => p.2)) (gSet 3) mkB fuel (i + 1) sl2 m2) = _
    rw [mkB_ok ho hc (List.getElem_mem hl)]
    exact hy
theorem foldA : ∀ (rs o : List Nat), (∀ j ∈ rs, j < 11) → (∀ j ∈ o, j < 11) → (∀ j ∈ rs.foldl addO o, j < 11) ∧ (rs.foldl addO o).length ≤ o.length + rs.length
  | [], o, _, h => ⟨h, Nat.le_refl _⟩
  | i :: rs, o, hr, ho => by
    obtain ⟨h1, h2⟩ := foldA rs (addO o i) (fun j hj => hr j (List.mem_cons_of_mem _ hj)) (addO_lt ho (hr i List.mem_cons_self))
    refine ⟨h1, ?_⟩
    have := addO_len (o := o) (i := i)
    show (rs.foldl addO (addO o i)).length ≤ o.length + (rs.length + 1)
    omega
theorem marks_ok {rs : List Nat} (hr : ∀ j ∈ rs, j < 11) (hl : rs.length ≤ 60) (hc : ∀ j ∈ rs.foldl addO [], ∀ k, aft j = some k → k ∈ rs.foldl addO []) : r_record_marks [LV, .lst (rs.map recO)] [] = .ok (.ref 0) [DO (rs.foldl addO [])] := by
  obtain ⟨ho, hl2⟩ := foldA rs [] hr (fun j hj => by cases hj)
  have hl3 : (rs.foldl addO []).length ≤ 0 + rs.length := hl2
  obtain ⟨y, hy⟩ := loopA (.lst (rs.map recO)) [] rs [] none hr (fun j hj => by cases hj) (by show 0 + rs.length ≤ 1000; omega)
  obtain ⟨z, hz⟩ := loopB ho hc (.lst (rs.map recO)) [] (rs.foldl addO []).length 100 0 y (by omega) (by omega)
  rw [r_marks]
  unfold mDef
  have e0 : slStart ["levels", "records", "found", "record"] [LV, .lst (rs.map recO)] = [some LV, some (.lst (rs.map recO)), none, none] := rfl
  rw [e0]
  have e1 : nAsg 2 mDE [some LV, some (.lst (rs.map recO)), none, none] [] = .next [some LV, some (.lst (rs.map recO)), some (.ref 0), none] [DO []] := rfl
  have e2 : nFor (iU (mVar 1)) (gSet 3) mkA [some LV, some (.lst (rs.map recO)), some (.ref 0), none] [DO []] = .next [some LV, some (.lst (rs.map recO)), some (.ref 0), y] [DO (rs.foldl addO [])] := hy
  have e3 : nForW 100 (wDU (fun p => p.2) (mVar 2)) (gSet 3) mkB [some LV, some (.lst (rs.map recO)), some (.ref 0), y] [DO (rs.foldl addO [])] = .next [some LV, some (.lst (rs.map recO)), some (.ref 0), z] [DO (rs.foldl addO [])] := hz
  rw [seq_n e1, seq_n e2, seq_n e3]
  rfl
end K54
end
section
set_option Elab.async false
set_option linter.all false
set_option maxRecDepth 100000
set_option maxHeartbeats 4000000
set_option pp.maxSteps 2000
namespace K54
open PySem PySem.Spec PyProof.Rows L2 Mi MeO MeL
open PySem.W (dataLe)
theorem optL_id {α : Type} {f : α → Option α} : ∀ {xs : List α}, (∀ x ∈ xs, f x = some x) → optL f xs = some xs
  | [], _ => rfl
  | x :: xs, h => by
    show (f x).bind (fun b => (optL f xs).map (b :: ·)) = _
    rw [h x List.mem_cons_self, optL_id fun y hy => h y (List.mem_cons_of_mem _ hy)]
    rfl
theorem optL_map {α β γ : Type} {f : β → Option γ} {g : α → β} {k : α → γ} : ∀ {xs : List α}, (∀ x ∈ xs, f (g x) = some (k x)) → optL f (xs.map g) = some (xs.map k)
  | [], _ => rfl
  | x :: xs, h => by
    show (f (g x)).bind (fun b => (optL f (xs.map g)).map (b :: ·)) = _
    rw [h x List.mem_cons_self, optL_map fun y hy => h y (List.mem_cons_of_mem _ hy)]
    rfl
theorem frz_rec (m : Mem) : ∀ i, i < 11 → frz m 11 (recO i) = some (recO i) ∧ frz m 12 (recO i) = some (recO i) ∧ frz m 11 (markD i) = some (markD i) :=
  all11 (P := fun i => frz m 11 (recO i) = some (recO i) ∧ frz m 12 (recO i) = some (recO i) ∧ frz m 11 (markD i) = some (markD i)) ⟨⟨by kernel_rfl, by kernel_rfl, by kernel_rfl⟩, ⟨by kernel_rfl, by kernel_rfl, by kernel_rfl⟩, ⟨by kernel_rfl, by kernel_rfl, by kernel_rfl⟩, ⟨by kernel_rfl, by kernel_rfl, by kernel_rfl⟩, ⟨by kernel_rfl, by kernel_rfl, by kernel_rfl⟩, ⟨by kernel_rfl, by kernel_rfl, by kernel_rfl⟩, ⟨by kernel_rfl, by kernel_rfl, by kernel_rfl⟩, ⟨by kernel_rfl, by kernel_rfl, by kernel_rfl⟩, ⟨by kernel_rfl, by kernel_rfl, by kernel_rfl⟩, ⟨by kernel_rfl, by kernel_rfl, by kernel_rfl⟩, ⟨by kernel_rfl, by kernel_rfl, by kernel_rfl⟩⟩
theorem frz_LV (m : Mem) : frz m 12 LV = some LV := by kernel_rfl
theorem frz_recs (m : Mem) {rs : List Nat} (h : ∀ j ∈ rs, j < 11) : frz m 12 (.lst (rs.map recO)) = some (.lst (rs.map recO)) := by
  show (optL (frz m 11) (rs.map recO)).map D.lst = _
  rw [optL_map (k := recO) fun i hi => (frz_rec m i (h i hi)).1]
  rfl
theorem pmarks {rs : List Nat} (hr : ∀ j ∈ rs, j < 11) (hl : rs.length ≤ 60) (hc : ∀ j ∈ rs.foldl addO [], ∀ k, aft j = some k → k ∈ rs.foldl addO []) (m : Mem) : pureF 12 r_record_marks [LV, .lst (rs.map recO)] m = .ok (.dic ((rs.foldl addO []).map pr)) m := by
  have e1 : optL (frz [] 12) [LV, .lst (rs.map recO)] = some [LV, .lst (rs.map recO)] := optL_id fun x hx => by
    rcases List.mem_cons.mp hx with z | z
    · rw [z]
      exact frz_LV []
    · rw [List.mem_singleton.mp z]
      exact frz_recs [] hr
  have ho := (foldA rs [] hr (fun j hj => by cases hj)).1
  have e2 : frz [DO (rs.foldl addO [])] 12 (.ref 0) = some (.dic ((rs.foldl addO []).map pr)) := by
    show (optL (frzK (frz [DO (rs.foldl addO [])] 11)) ((rs.foldl addO []).map pr)).map D.dic = _
    rw [optL_map (k := pr) fun i hi => ?_]
    · rfl
    · obtain ⟨h1, _, h3⟩ := frz_rec [DO (rs.foldl addO [])] i (ho i hi)
      show (frz _ 11 (markD i)).bind (fun k => if key8 k = key8 (markD i) then (frz _ 11 (recO i)).map (k, ·) else none) = _
      rw [h3, Option.bind_some, if_pos rfl, h1]
      rfl
  unfold pureF
  rw [e1]
  dsimp only
  rw [marks_ok hr hl hc]
  dsimp only
  rw [e2]
/-! the keys -/
def lev (x : Str) : Int := if x = "open" then 0 else if x = "red" then 1 else if x = "blue" then 2 else 3
def keyD (i : Nat) : D := .tup [.int (0 - lev (row i).1), .int (row i).2.2.2.1, .str (row i).2.1, .int (row i).2.2.1]
def keyP (i : Nat) : PyData := .tuple [.int (0 - lev (row i).1), .int (row i).2.2.2.1, .str (row i).2.1, .int (row i).2.2.1]
abbrev kx0 : ME := mCall 2 (pureF 12 r_sibling_key) (mCons (mVar 1) (mCons (mVar 0) mNil))
theorem kx_ok : ∀ i, i < 11 → kx0 [some (recO i), some LV, none, none, none, none, none, none, none, none] [] = .ok (keyD i) [] :=
  all11 (P := fun i => kx0 [some (recO i), some LV, none, none, none, none, none, none, none, none] [] = .ok (keyD i) []) ⟨by kernel_rfl, by kernel_rfl, by kernel_rfl, by kernel_rfl, by kernel_rfl, by kernel_rfl, by kernel_rfl, by kernel_rfl, by kernel_rfl, by kernel_rfl, by kernel_rfl⟩
abbrev Nm : List Str := ["levels", "records", "found", "behind", "mark", "record", "result", "waiting", "rows"]
theorem mask_ok (a b c d e f g h i : Option D) : maskS lsc Nm [a, b, c, d, e, f, g, h, i] = [a, none, none, none, none, none, none, none, none] := by kernel_rfl
theorem keyAt_ok {i : Nat} (hi : i < 11) (m : Mem) (b c d e f g h k : Option D) : keyAt 12 lsc Nm kx0 [some LV, b, c, d, e, f, g, h, k] m (recO i) = some (keyD i) := by
  unfold keyAt
  rw [mask_ok]
  have e1 : slF m 12 [some (recO i), some LV, none, none, none, none, none, none, none, none] = [some (recO i), some LV, none, none, none, none, none, none, none, none] := by
    unfold slF
    show [(frz m 12 (recO i)), (frz m 12 LV), none, none, none, none, none, none, none, none] = _
    rw [(frz_rec m i hi).2.1, frz_LV]
  unfold lendE
  rw [e1, kx_ok i hi]
  rfl
theorem py_key (i : Nat) : pyD (keyD i) = some (keyP i) := rfl
theorem good_keys (ks : List Nat) : goodK (ks.map keyP) = true := by
  unfold goodK
  have al : ∀ i j, PySem.W.alike (keyP i) (keyP j) = true := fun i j => by kernel_rfl
  have dp : ∀ i, Nat.ble (keyP i).depth 8 = true := fun i => by kernel_rfl
  refine Bool.and_eq_true_iff.mpr ⟨Bool.and_eq_true_iff.mpr ⟨List.all_eq_true.mpr fun a ha => List.all_eq_true.mpr fun b hb => ?_, Bool.or_eq_true_iff.mpr (.inl (List.all_eq_true.mpr fun a ha => ?_))⟩, List.all_eq_true.mpr fun a ha => ?_⟩
  · obtain ⟨i, _, rfl⟩ := List.mem_map.mp ha
    obtain ⟨j, _, rfl⟩ := List.mem_map.mp hb
    exact al i j
  · obtain ⟨i, _, rfl⟩ := List.mem_map.mp ha
    rfl
  · obtain ⟨i, _, rfl⟩ := List.mem_map.mp ha
    exact dp i
/-- the children, in their order -/
def kidS : Option Nat → List Nat
  | none => [0, 9, 5]
  | some 0 => [4, 7, 6, 2, 3]
  | some 2 => [1]
  | some 5 => [8]
  | some 9 => [10]
  | _ => []
abbrev ky (i : Nat) : Nat × PyData := (i, keyP i)
theorem kid_perm {o : List Nat} (hp : o.Perm (List.range 11)) (x : Option Nat) (hx : ∀ k, x = some k → k < 11) : (o.filter fun i => decide (aft i = x)).Perm (kidS x) := by
  refine (hp.filter _).trans ?_
  have f : ∀ x : Option Nat, (∀ k, x = some k → k < 11) → ((List.range 11).filter fun i => decide (aft i = x)).isPerm (kidS x) = true := by
    intro x hx
    cases x with
    | none => decide +kernel
    | some k =>
      revert hx
      intro hx
      have hk := hx k rfl
      revert hk
      revert k
      intro k _ hk
      exact all11 (P := fun k => ((List.range 11).filter fun i => decide (aft i = some k)).isPerm (kidS (some k)) = true) (by decide +kernel) k hk
  exact List.isPerm_iff.mp (f x hx)
theorem kid_sort {ks : List Nat} {x : Option Nat} (hx : ∀ k, x = some k → k < 11) (hp : ks.Perm (kidS x)) : byKey ks (ks.map keyP) = kidS x := by
  have zp : ks.zip (ks.map keyP) = ks.map ky := by
    clear hp
    induction ks with
    | nil => rfl
    | cons k ks ih =>
      show (k, keyP k) :: ks.zip (ks.map keyP) = _
      rw [ih]
      rfl
  have pw : ∀ x : Option Nat, (∀ k, x = some k → k < 11) → ((kidS x).map ky).Pairwise (fun a b => dataLe false Prod.snd a b = true) := by
    intro x hx
    cases x with
    | none => decide +kernel
    | some k => exact all11 (P := fun k => ((kidS (some k)).map ky).Pairwise (fun a b => dataLe false Prod.snd a b = true)) (by decide +kernel) k (hx k rfl)
  have lt : ∀ x : Option Nat, (∀ k, x = some k → k < 11) → ∀ i ∈ kidS x, i < 11 := by
    intro x hx
    cases x with
    | none => decide +kernel
    | some k => exact all11 (P := fun k => ∀ i ∈ kidS (some k), i < 11) (by decide +kernel) k (hx k rfl)
  have anti : ∀ i, i < 11 → ∀ j, j < 11 → dataLe false Prod.snd (ky i) (ky j) = true → dataLe false Prod.snd (ky j) (ky i) = true → i = j := by decide +kernel
  have p2 : ((ks.map ky).mergeSort (dataLe false Prod.snd)).Perm ((kidS x).map ky) := (List.mergeSort_perm _ _).trans (hp.map ky)
  have e : (ks.map ky).mergeSort (dataLe false Prod.snd) = (kidS x).map ky := by
    refine p2.eq_of_pairwise (fun a b ha hb h1 h2 => ?_) (List.pairwise_mergeSort (keyLe_tot Prod.snd).trans (fun a b => Bool.or_eq_true_iff.mpr ((keyLe_tot Prod.snd).total a b)) _) (pw x hx)
    obtain ⟨i, hi, rfl⟩ := List.mem_map.mp (p2.mem_iff.mp ha)
    obtain ⟨j, hj, rfl⟩ := List.mem_map.mp hb
    rw [anti i (lt x hx i hi) j (lt x hx j hj) h1 h2]
  unfold byKey
  rw [zp, e, List.map_map]
  exact List.map_id _
theorem sortK_ok {ks : List Nat} {x : Option Nat} (hk : ∀ j ∈ ks, j < 11) (hx : ∀ k, x = some k → k < 11) (hp : ks.Perm (kidS x)) {a : Nat} {m : Mem} (ha : m[a]? = some (.lst (ks.map recO))) (b c d e f g h k : Option D) :
    gSortK 12 lsc Nm kx0 [some LV, b, c, d, e, f, g, h, k] (.ref a) m = .ok (.ref m.length) (m ++ [.lst ((kidS x).map recO)]) := by
  unfold gSortK
  have e1 : Mi.listOf m (.ref a) = some (ks.map recO) := by
    unfold Mi.listOf
    dsimp only
    rw [ha]
  rw [e1]
  dsimp only
  rw [optL_map (k := keyD) fun i hi => keyAt_ok (hk i hi) m b c d e f g h k]
  dsimp only
  rw [optL_map (k := keyP) fun i _ => py_key i]
  dsimp only
  rw [good_keys, byKey_map, kid_sort hx hp]
  rfl
end K54
end
section
set_option Elab.async false
set_option linter.all false
set_option maxRecDepth 100000
set_option maxHeartbeats 4000000
set_option pp.maxSteps 2000
namespace K54
open PySem PySem.Spec PyProof.Rows L2 Mi MeO MeL
/-! the dict of those behind -/
def bd : Nat → List Nat → List (D × D)
  | _, [] => []
  | n, j :: o => (markD j, .ref n) :: bd (n + 1) o
abbrev BD (o : List Nat) : List (D × D) := (.non, .ref 1) :: bd 2 o
theorem bd_len : ∀ (n : Nat) (o : List Nat), (bd n o).length = o.length
  | _, [] => rfl
  | n, j :: o => congrArg (· + 1) (bd_len (n + 1) o)
theorem bd_snoc (j : Nat) : ∀ (n : Nat) (o : List Nat), bd n (o ++ [j]) = bd n o ++ [(markD j, .ref (n + o.length))]
  | _, [] => rfl
  | n, i :: o => by
    show (markD i, .ref n) :: bd (n + 1) (o ++ [j]) = _
    rw [bd_snoc j (n + 1) o, List.length_cons, show n + 1 + o.length = n + (o.length + 1) by omega]
    rfl
theorem bd_at : ∀ (n : Nat) (o : List Nat) (q i : Nat), o[q]? = some i → (bd n o)[q]? = some (markD i, .ref (n + q))
  | _, [], _, _, h => by cases h
  | n, j :: o, 0, i, h => by
    cases h
    rfl
  | n, j :: o, q + 1, i, h => by
    have := bd_at (n + 1) o q i (by simpa using h)
    show (bd (n + 1) o)[q]? = _
    rw [this, show n + 1 + q = n + (q + 1) by omega]
theorem bd_ix {i : Nat} (hi : i < 11) : ∀ (n : Nat) (o : List Nat), (∀ j ∈ o, j < 11) → ixD (bd n o) (kk i) = o.findIdx? (fun j => decide (j = i))
  | _, [], _ => rfl
  | n, j :: o, h => by
    have ih := bd_ix hi (n + 1) o fun a ha => h a (List.mem_cons_of_mem _ ha)
    unfold ixD at ih ⊢
    rw [show bd n (j :: o) = (markD j, .ref n) :: bd (n + 1) o from rfl, List.findIdx?_cons, List.findIdx?_cons, ih]
    have e : keyIs (kk i) (markD j) = decide (j = i) := keyIs_mark hi (h j List.mem_cons_self)
    dsimp only
    rw [e]
theorem BD_non (o : List Nat) : ixD (BD o) (kkO none) = some 0 := rfl
theorem BD_some {i : Nat} (hi : i < 11) {o : List Nat} (ho : ∀ j ∈ o, j < 11) : ixD (BD o) (kkO (some i)) = (o.findIdx? (fun j => decide (j = i))).map (· + 1) := by
  rw [← bd_ix hi 2 o ho]
  unfold ixD
  rw [List.findIdx?_cons]
  rfl
/-- the memory: the dict, and a list for each key -/
def SM (o : List Nat) (kids : Option Nat → List Nat) : Mem := .dic (1 + o.length) (BD o) :: .lst ((kids none).map recO) :: o.map fun j => .lst ((kids (some j)).map recO)
theorem SM_len (o : List Nat) (kids : Option Nat → List Nat) : (SM o kids).length = 2 + o.length := by
  unfold SM
  rw [List.length_cons, List.length_cons, List.length_map]
  omega
/-- a key's list -/
theorem SM_at {o : List Nat} (ho : ∀ j ∈ o, j < 11) (nd : o.Nodup) {x : Option Nat} (hx : ∀ k, x = some k → k ∈ o) : ∃ a, a < 2 + o.length ∧ (∀ kids t, gIxU (.ref 0) (markO x) (SM o kids ++ t) = .ok (.ref a) (SM o kids ++ t)) ∧
    (∀ kids, (SM o kids)[a]? = some (.lst ((kids x).map recO))) ∧ ∀ kids v, (SM o kids).set a (.lst (v.map recO)) = SM o fun y => if y = x then v else kids y := by
  have go : ∀ (a q : Nat), ixD (BD o) (kkO x) = some q → (BD o)[q]? = some (markO x, .ref a) → ∀ kids t, gIxU (.ref 0) (markO x) (SM o kids ++ t) = .ok (.ref a) (SM o kids ++ t) := fun a q h1 h2 kids t => by
    have h5 : gDGet (.ref 0) (markO x) (SM o kids ++ t) = .ok (.ref a) (SM o kids ++ t) := by
      unfold gDGet
      rw [key_markO, show dicOf (SM o kids ++ t) (.ref 0) = some (BD o) from rfl]
      dsimp only
      rw [h1]
      dsimp only
      rw [h2]
    unfold gIxU gOr
    rw [show gIxL (.ref 0) (markO x) (SM o kids ++ t) = .no by cases x <;> rfl]
    dsimp only
    rw [show gIxM (.ref 0) (markO x) (SM o kids ++ t) = .no by cases x <;> rfl]
    dsimp only
    rw [show gIxT (.ref 0) (markO x) (SM o kids ++ t) = .no by cases x <;> rfl]
    dsimp only
    rw [show gIxS (.ref 0) (markO x) (SM o kids ++ t) = .no by cases x <;> rfl]
    exact h5
  cases x with
  | none =>
    refine ⟨1, by omega, go 1 0 (BD_non o) rfl, fun kids => rfl, fun kids v => ?_⟩
    show MO.dic (1 + o.length) (BD o) :: .lst (v.map recO) :: (o.map fun j => MO.lst ((kids (some j)).map recO)) = _
    unfold SM
    dsimp only
    rw [if_pos rfl]
    simp
  | some i =>
    have hi := hx i rfl
    obtain ⟨q, h1, h2⟩ := find_of hi
    have hq : q < o.length := (List.getElem?_eq_some_iff.mp h2).1
    refine ⟨2 + q, by omega, go (2 + q) (q + 1) (by rw [BD_some (ho i hi) ho, h1]; rfl) (bd_at 2 o q i h2), fun kids => ?_, fun kids v => ?_⟩
    · unfold SM
      rw [show 2 + q = (q + 1) + 1 by omega, List.getElem?_cons_succ, List.getElem?_cons_succ, List.getElem?_map, h2]
      rfl
    · unfold SM
      rw [show 2 + q = (q + 1) + 1 by omega, List.set_cons_succ, List.set_cons_succ]
      have n1 : ¬ (none : Option Nat) = some i := fun z => nomatch z
      dsimp only
      rw [if_neg n1]
      congr 2
      apply List.ext_getElem?
      intro j
      rw [List.getElem?_set, List.getElem?_map, List.getElem?_map]
      by_cases hj : q = j
      · subst hj
        rw [if_pos rfl, List.length_map, if_pos hq, h2]
        simp
      · rw [if_neg hj]
        cases e : o[j]? with
        | none => rfl
        | some k =>
          have : k ≠ i := fun z => by
            subst z
            exact hj ((List.getElem?_inj hq nd).mp (h2.trans e.symm))
          simp [this]
def bA : MS := (nSubU stU (mVar 3) (mVar 4) (mLstN mNil))
def bB : MS := (nDrop (mMt (selB isL gAppend) (mBin gIxU (mVar 3) (mUn (gFld [4] "after") (mVar 5))) (mCons (mVar 5) mNil)))
def bW : MS := (nSeq (nAsg 4 (mMt (selB isL gPopU) (mVar 7) mNil)) (nSeq (nIf (mTest (mBin (gIsN true) (mVar 4) (mC .non))) (nDrop (mMt (selB isL gAppend) (mVar 6) (mCons (mBin gIxU (mVar 2) (mVar 4)) mNil))) nNil) (nSeq (nAsg 8 (mSortK 12 lsc ["levels", "records", "found", "behind", "mark", "record", "result", "waiting", "rows"] (mCall 2 (pureF 12 r_sibling_key) (mCons (mVar 1) (mCons (mVar 0) mNil))) (mBin gIxU (mVar 3) (mVar 4)))) (nDrop (mMt (selB isL gExtend) (mVar 7) (mCons (mLc (iU (mUn gRev (mVar 8))) [5] (gSet 5) mYes (mUn (gFld [4] "mark") (mVar 5))) mNil))))))
theorem r_rio : b_records_in_order = nSeq (nAsg 2 (mCall 2 (pureF 12 r_record_marks) (mCons (mVar 0) (mCons (mVar 1) mNil)))) (nSeq (nAsg 3 (mDisp [((mC .non), (mLstN mNil))])) (nSeq (nForW 100 (wV (mVar 2)) (gSet 4) bA) (nSeq (nForW 100 (wDU (fun p => p.2) (mVar 2)) (gSet 5) bB) (nSeq (nAsg 6 (mLstN mNil)) (nSeq (nAsg 7 (mLstN (mCons (mC .non) mNil))) (nSeq (nWhile (mTru (mVar 7)) bW 100) (nRet (mVar 6)))))))) := rfl
abbrev K0 : Option Nat → List Nat := fun _ => []
theorem bA_ok {o : List Nat} (ho : ∀ j ∈ o, j < 11) (hl : o.length ≤ 1000) {i : Nat} (hi : i < 11) (h : i ∉ o) (a b c e f g k l : Option D) : bA [a, b, c, some (.ref 0), some (markD i), e, f, g, k] (SM o K0) = .next [a, b, c, some (.ref 0), some (markD i), e, f, g, k] (SM (o ++ [i]) K0) := by
  have s : stU (.ref 0) (markD i) (.ref (SM o K0).length) (SM o K0 ++ [MO.lst []]) = some (SM (o ++ [i]) K0) := by
    have h1 : stD (.ref 0) (markD i) (.ref (SM o K0).length) (SM o K0 ++ [MO.lst []]) = some (SM (o ++ [i]) K0) := by
      show (bif Nat.ble (BD o).length 100000 then some ((SM o K0 ++ [MO.lst []]).set 0 (.dic (putN (BD o) (kkO (some i)) (1 + o.length)) (putP (BD o) (kkO (some i)) (markD i) (.ref (SM o K0).length)))) else none) = _
      have e1 : Nat.ble (BD o).length 100000 = true := by
        rw [List.length_cons, bd_len]
        simp
        omega
      have e2 : ixD (BD o) (kkO (some i)) = none := by
        rw [BD_some hi ho, find_not h]
        rfl
      rw [e1]
      unfold putN putP
      rw [e2, SM_len]
      show some (MO.dic (1 + o.length + 1) (BD o ++ [(markD i, .ref (2 + o.length))]) :: (MO.lst [] :: ((o.map fun j => MO.lst []) ++ [.lst []]))) = _
      unfold SM BD
      rw [bd_snoc, List.length_append, List.map_append]
      rfl
    unfold stU stOr
    rw [show Mi.stI (.ref 0) (markD i) (.ref (SM o K0).length) (SM o K0 ++ [MO.lst []]) = none from rfl]
    exact h1
  have e1 : mLstN mNil [a, b, c, some (.ref 0), some (markD i), e, f, g, k] (SM o K0) = .ok (.ref (SM o K0).length) (SM o K0 ++ [MO.lst []]) := rfl
  unfold bA nSubU
  rw [e1]
  show (match stU (.ref 0) (markD i) (.ref (SM o K0).length) (SM o K0 ++ [MO.lst []]) with
    | some m4 => RS.next [a, b, c, some (.ref 0), some (markD i), e, f, g, k] m4
    | none => .no) = _
  rw [s]
end K54
end
section
set_option Elab.async false
set_option linter.all false
set_option maxRecDepth 100000
set_option maxHeartbeats 4000000
set_option pp.maxSteps 2000
namespace K54
open PySem PySem.Spec PyProof.Rows L2 Mi MeO MeL
theorem mt_eq {sel : Mem → D → Option GM} {x : ME} {r : MA} {sl : Sl} {m m1 : Mem} {d : D} {g : GM} (ho : x sl m = .ok d m1) (hs : sel m1 d = some g) : mMt sel x r sl m = (r sl m1).bind fun ds m2 => g d ds m2 := by
  unfold mMt
  rw [ho]
  show (match sel m1 d with
    | some g => (r sl m1).bind fun ds m2 => g d ds m2
    | none => .no) = _
  rw [hs]
theorem sel_lst {g : GM} {a : Nat} {m : Mem} {ds : List D} (h : m[a]? = some (.lst ds)) : selB isL g m (.ref a) = some g := by
  unfold selB isL
  dsimp only
  rw [h]
  rfl
theorem app_ok {a : Nat} {m : Mem} {ds : List D} (h : m[a]? = some (.lst ds)) (hl : ds.length < 100000) (d : D) : gAppend (.ref a) [d] m = .ok .non (m.set a (.lst (ds ++ [d]))) := by
  unfold gAppend onL
  dsimp only
  rw [h]
  dsimp only
  rw [show Nat.blt ds.length 100000 = true by simpa [Nat.blt_eq] using hl]
  rfl
theorem pop_ok {a : Nat} {m : Mem} {ds : List D} {d : D} (h : m[a]? = some (.lst (ds ++ [d]))) : gPopU (.ref a) [] m = .ok d (m.set a (.lst ds)) := by
  unfold gPopU gPop onL
  dsimp only
  rw [h]
  dsimp only
  rw [show (ds ++ [d])[(ds ++ [d]).length - 1]? = some d by simp]
  dsimp only
  rw [List.dropLast_concat]
theorem ext_ok {a : Nat} {m : Mem} {ds es : List D} (h : m[a]? = some (.lst ds)) (hl : ds.length + es.length ≤ 100000) : gExtend (.ref a) [.lst es] m = .ok .non (m.set a (.lst (ds ++ es))) := by
  unfold gExtend onL
  dsimp only
  rw [h]
  rw [show ownL m (.lst es) = some es from rfl]
  dsimp only
  rw [show Nat.ble (ds.length + es.length) 100000 = true by simpa using hl]
  rfl
/-! first loop: a list for each -/
theorem loopK {o : List Nat} (ho : ∀ j ∈ o, j < 11) (nd : o.Nodup) (hl : o.length ≤ 1000) (L : D) : ∀ (n fuel i : Nat) (x : Option D), i + n = o.length → n < fuel → ∃ y, forW (itL ((o.map pr).map fun p => p.1)) (gSet 4) bA fuel i [some LV, some L, some (.dic (o.map pr)), some (.ref 0), x, none, none, none, none] (SM (o.take i) K0) = .next [some LV, some L, some (.dic (o.map pr)), some (.ref 0), y, none, none, none, none] (SM o K0)
  | n, 0, i, x, _, h2 => by omega
  | 0, fuel + 1, i, x, h1, _ => ⟨x, by
    show (match itL ((o.map pr).map fun p : D × D => p.1) i (SM (o.take i) K0) with
      | .stop => RS.next [some LV, some L, some (.dic (o.map pr)), some (.ref 0), x, none, none, none, none] (SM (o.take i) K0)
      | .no => .no
      | .item d => _) = _
    have e : itL ((o.map pr).map fun p => p.1) i (SM (o.take i) K0) = .stop := by
      unfold itL
      rw [List.getElem?_eq_none (by rw [List.length_map, List.length_map]; omega)]
      dsimp only
      rw [show Nat.beq i ((o.map pr).map fun p : D × D => p.1).length = true by simp; omega]
      rfl
    rw [e, List.take_of_length_le (by omega)]⟩
  | n + 1, fuel + 1, i, x, h1, h2 => by
    have hi : i < o.length := by omega
    obtain ⟨y, hy⟩ := loopK ho nd hl L n fuel (i + 1) (some (markD o[i])) (by omega) (by omega)
    refine ⟨y, ?_⟩
    have e : itL ((o.map pr).map fun p => p.1) i (SM (o.take i) K0) = .item (markD o[i]) := by
      unfold itL
      rw [List.getElem?_map, List.getElem?_map, List.getElem?_eq_getElem hi]
      rfl
    show (match itL ((o.map pr).map fun p : D × D => p.1) i (SM (o.take i) K0) with
      | .stop => RS.next [some LV, some L, some (.dic (o.map pr)), some (.ref 0), x, none, none, none, none] (SM (o.take i) K0)
      | .no => .no
      | .item d => match gSet 4 d [some LV, some L, some (.dic (o.map pr)), some (.ref 0), x, none, none, none, none] with
        | none => .no
        | some sl1 => (bA sl1 (SM (o.take i) K0)).turn fun sl2 m2 => forW (itL ((o.map pr).map fun p : D × D => p.1)) (gSet 4) bA fuel (i + 1) sl2 m2) = _
    rw [e]
    show ((bA [some LV, some L, some (.dic (o.map pr)), some (.ref 0), some (markD o[i]), none, none, none, none] (SM (o.take i) K0)).turn fun sl2 m2 => forW (itL ((o.map pr).map fun p : D × D => p.1)) (gSet 4) bA fuel (i + 1) sl2 m2) = _
    have hm : o[i] ∈ o := List.getElem_mem hi
    have hn : o[i] ∉ o.take i := fun z => by
      have h3 : (o.take (i + 1)).Nodup := nd.sublist (List.take_sublist _ _)
      rw [List.take_succ_eq_append_getElem hi] at h3
      exact (List.nodup_append.mp h3).2.2 _ z _ List.mem_cons_self rfl
    rw [bA_ok (fun j hj => ho j (List.mem_of_mem_take hj)) (by rw [List.length_take]; omega) (ho _ hm) hn _ _ _ _ _ _ _ none, ← List.take_succ_eq_append_getElem hi]
    exact hy
/-! second loop: each behind its own -/
abbrev KO (p : List Nat) : Option Nat → List Nat := fun x => p.filter fun i => decide (aft i = x)
theorem bB_ok {o : List Nat} (ho : ∀ j ∈ o, j < 11) (nd : o.Nodup) {kids : Option Nat → List Nat} {i : Nat} (ha : ∀ k, aft i = some k → k ∈ o) (hl : (kids (aft i)).length < 1000) (a b c e f g k : Option D) : bB [a, b, c, some (.ref 0), e, some (recO i), f, g, k] (SM o kids) = .next [a, b, c, some (.ref 0), e, some (recO i), f, g, k] (SM o fun y => if y = aft i then kids (aft i) ++ [i] else kids y) := by
  obtain ⟨q, _, h1, h2, h3⟩ := SM_at ho nd ha
  have g1 := h1 kids []
  rw [List.append_nil] at g1
  have x1 : mBin gIxU (mVar 3) (mUn (gFld [4] "after") (mVar 5)) [a, b, c, some (.ref 0), e, some (recO i), f, g, k] (SM o kids) = .ok (.ref q) (SM o kids) := by
    simp [mBin, mUn, mVar, R.bind, f_after, g1]
  unfold bB nDrop
  rw [mt_eq x1 (sel_lst (h2 kids))]
  show (gAppend (.ref q) [recO i] (SM o kids)).seq _ _ = _
  rw [app_ok (h2 kids) (by rw [List.length_map]; omega), ← h3 kids (kids (aft i) ++ [i]), List.map_append]
  rfl
theorem take_filter {o : List Nat} {i : Nat} (hi : i < o.length) : (fun y => if y = aft o[i] then KO (o.take i) (aft o[i]) ++ [o[i]] else KO (o.take i) y) = KO (o.take (i + 1)) := by
  funext y
  rw [List.take_succ_eq_append_getElem hi]
  show _ = ((o.take i) ++ [o[i]]).filter _
  rw [List.filter_append]
  by_cases h : y = aft o[i]
  · subst h
    simp
  · rw [if_neg h]
    have : ¬ aft o[i] = y := fun z => h z.symm
    simp [this]
theorem loopV {o : List Nat} (ho : ∀ j ∈ o, j < 11) (nd : o.Nodup) (hc : ∀ j ∈ o, ∀ k, aft j = some k → k ∈ o) (hl : o.length ≤ 900) (L : D) (z : Option D) : ∀ (n fuel i : Nat) (x : Option D), i + n = o.length → n < fuel → ∃ y, forW (itL ((o.map pr).map fun p => p.2)) (gSet 5) bB fuel i [some LV, some L, some (.dic (o.map pr)), some (.ref 0), z, x, none, none, none] (SM o (KO (o.take i))) = .next [some LV, some L, some (.dic (o.map pr)), some (.ref 0), z, y, none, none, none] (SM o (KO o))
  | n, 0, i, x, _, h2 => by omega
  | 0, fuel + 1, i, x, h1, _ => ⟨x, by
    show (match itL ((o.map pr).map fun p : D × D => p.2) i (SM o (KO (o.take i))) with
      | .stop => RS.next [some LV, some L, some (.dic (o.map pr)), some (.ref 0), z, x, none, none, none] (SM o (KO (o.take i)))
      | .no => .no
      | .item d => _) = _
    have e : itL ((o.map pr).map fun p => p.2) i (SM o (KO (o.take i))) = .stop := by
      unfold itL
      rw [List.getElem?_eq_none (by rw [List.length_map, List.length_map]; omega)]
      dsimp only
      rw [show Nat.beq i ((o.map pr).map fun p : D × D => p.2).length = true by simp; omega]
      rfl
    rw [e, List.take_of_length_le (by omega)]⟩
  | n + 1, fuel + 1, i, x, h1, h2 => by
    have hi : i < o.length := by omega
    obtain ⟨y, hy⟩ := loopV ho nd hc hl L z n fuel (i + 1) (some (recO o[i])) (by omega) (by omega)
    refine ⟨y, ?_⟩
    have e : itL ((o.map pr).map fun p => p.2) i (SM o (KO (o.take i))) = .item (recO o[i]) := by
      unfold itL
      rw [List.getElem?_map, List.getElem?_map, List.getElem?_eq_getElem hi]
      rfl
    show (match itL ((o.map pr).map fun p : D × D => p.2) i (SM o (KO (o.take i))) with
      | .stop => RS.next [some LV, some L, some (.dic (o.map pr)), some (.ref 0), z, x, none, none, none] (SM o (KO (o.take i)))
      | .no => .no
      | .item d => match gSet 5 d [some LV, some L, some (.dic (o.map pr)), some (.ref 0), z, x, none, none, none] with
        | none => .no
        | some sl1 => (bB sl1 (SM o (KO (o.take i)))).turn fun sl2 m2 => forW (itL ((o.map pr).map fun p : D × D => p.2)) (gSet 5) bB fuel (i + 1) sl2 m2) = _
    rw [e]
    show ((bB [some LV, some L, some (.dic (o.map pr)), some (.ref 0), z, some (recO o[i]), none, none, none] (SM o (KO (o.take i)))).turn fun sl2 m2 => forW (itL ((o.map pr).map fun p : D × D => p.2)) (gSet 5) bB fuel (i + 1) sl2 m2) = _
    have hm : o[i] ∈ o := List.getElem_mem hi
    rw [bB_ok ho nd (hc _ hm) (by have := List.length_filter_le (fun j => decide (aft j = aft o[i])) (o.take i); rw [List.length_take] at this; show ((o.take i).filter _).length < 1000; omega), take_filter hi]
    exact hy
/-! the loop that puts them in order -/
theorem get_fd {o : List Nat} (ho : ∀ j ∈ o, j < 11) {i : Nat} (h : i ∈ o) (m : Mem) : gIxU (.dic (o.map pr)) (markD i) m = .ok (recO i) m := by
  have h5 : gDGet (.dic (o.map pr)) (markD i) m = .ok (recO i) m := by
    show (match ixD (o.map pr) (kk i) with
      | some j => match (o.map pr)[j]? with
        | some p => R.ok p.2 m
        | none => .no
      | none => .no) = _
    rw [ix_pr (ho i h) ho]
    obtain ⟨k, hk, hg⟩ := find_of h
    rw [hk]
    dsimp only
    rw [List.getElem?_map, hg]
    rfl
  unfold gIxU gOr
  rw [show gIxL (.dic (o.map pr)) (markD i) m = .no from rfl]
  dsimp only
  rw [show gIxM (.dic (o.map pr)) (markD i) m = .no from rfl]
  dsimp only
  rw [show gIxT (.dic (o.map pr)) (markD i) m = .no from rfl]
  dsimp only
  rw [show gIxS (.dic (o.map pr)) (markD i) m = .no from rfl]
  exact h5
theorem lc_marks : ∀ (ks : List Nat) (acc : List D) (sl : Sl) (m : Mem), 5 < sl.length → acc.length + ks.length < 1000 → lcL (gSet 5) mYes (mUn (gFld [4] "mark") (mVar 5)) sl (ks.map recO) acc m = .ok (acc ++ ks.map markD) m
  | [], acc, sl, m, _, _ => by simp [lcL]
  | k :: ks, acc, sl, m, h5, hl => by
    have ih := lc_marks ks (acc ++ [markD k]) sl m h5 (by rw [List.length_append]; simp at hl ⊢; omega)
    have hx : mUn (gFld [4] "mark") (mVar 5) (sl.set 5 (some (recO k))) m = .ok (markD k) m := by
      unfold mUn mVar
      rw [List.getElem?_set_self h5]
      exact f_mark k m
    show (match gSet 5 (recO k) sl with
      | none => R.no
      | some sl1 => (mYes sl1 m).quiet.bind fun b m1 => bif b then (mUn (gFld [4] "mark") (mVar 5) sl1 m1).quiet.bind fun y m2 => if acc.length < 50000 then lcL (gSet 5) mYes (mUn (gFld [4] "mark") (mVar 5)) sl (ks.map recO) (acc ++ [y]) m2 else .no else lcL (gSet 5) mYes (mUn (gFld [4] "mark") (mVar 5)) sl (ks.map recO) acc m1) = _
    show ((mUn (gFld [4] "mark") (mVar 5) (sl.set 5 (some (recO k))) m).quiet.bind fun y m2 => if acc.length < 50000 then lcL (gSet 5) mYes (mUn (gFld [4] "mark") (mVar 5)) sl (ks.map recO) (acc ++ [y]) m2 else .no) = _
    rw [hx]
    show (if acc.length < 50000 then lcL (gSet 5) mYes (mUn (gFld [4] "mark") (mVar 5)) sl (ks.map recO) (acc ++ [markD k]) m else .no) = _
    rw [if_pos (by omega), ih, List.append_assoc]
    rfl
end K54
end
section
set_option Elab.async false
set_option linter.all false
set_option maxRecDepth 100000
set_option maxHeartbeats 4000000
set_option pp.maxSteps 2000
namespace K54
open PySem PySem.Spec PyProof.Rows L2 Mi MeO MeL
section
variable {b : Mem} {x y v : MO} {t : Mem}
theorem at0 : (b ++ x :: t)[b.length]? = some x := by simp
theorem at1 : (b ++ x :: y :: t)[b.length + 1]? = some y := by simp
theorem st0 : (b ++ x :: t).set b.length v = b ++ v :: t := by simp
theorem st1 : (b ++ x :: y :: t).set (b.length + 1) v = b ++ x :: v :: t := by
  rw [List.set_append_right _ _ (by omega), Nat.add_sub_cancel_left]
  rfl
theorem at_b {a : Nat} {z : MO} (h : b[a]? = some z) : (b ++ t)[a]? = some z := by
  rw [List.getElem?_append_left (List.getElem?_eq_some_iff.mp h).1]
  exact h
end
abbrev MSt (o res : List Nat) (wait : List (Option Nat)) (ext : Mem) : Mem := SM o (KO o) ++ .lst (res.map recO) :: .lst (wait.map markO) :: ext
abbrev SLt (o : List Nat) (L : D) (a4 a5 a8 : Option D) : Sl := [some LV, some L, some (.dic (o.map pr)), some (.ref 0), a4, a5, some (.ref (SM o (KO o)).length), some (.ref ((SM o (KO o)).length + 1)), a8]
structure Ord (o : List Nat) : Prop where
  lt : ∀ j ∈ o, j < 11
  nd : o.Nodup
  all : ∀ j, j < 11 → j ∈ o
  pm : o.Perm (List.range 11)
def okx (x : Option Nat) : Prop := ∀ k, x = some k → k < 11
theorem kid_len : ∀ x : Option Nat, okx x → (kidS x).length ≤ 5 ∧ ∀ i ∈ kidS x, i < 11 := by
  intro x hx
  cases x with
  | none => decide +kernel
  | some k => exact all11 (P := fun k => (kidS (some k)).length ≤ 5 ∧ ∀ i ∈ kidS (some k), i < 11) (by decide +kernel) k (hx k rfl)
theorem step {o : List Nat} (O : Ord o) (L : D) (a4 a5 a8 : Option D) (res : List Nat) (ws : List (Option Nat)) (x : Option Nat) (ext : Mem) (hx : okx x) (h1 : res.length ≤ 500) (h2 : ws.length ≤ 1000) :
    ∃ b4 b8 ext', bW (SLt o L a4 a5 a8) (MSt o res (ws ++ [x]) ext) = .next (SLt o L b4 a5 b8) (MSt o (res ++ x.toList) (ws ++ (kidS x).reverse.map some) ext') := by
  obtain ⟨q, _, g1, g2, _⟩ := SM_at O.lt O.nd (x := x) fun k e => O.all k (hx k e)
  have kp := kid_perm O.pm x hx
  have kl := kid_len x hx
  -- pop
  have w1 : (MSt o res (ws ++ [x]) ext)[(SM o (KO o)).length + 1]? = some (.lst (ws.map markO ++ [markO x])) := by
    rw [at1, List.map_append]
    rfl
  have s1 : nAsg 4 (mMt (selB isL gPopU) (mVar 7) mNil) (SLt o L a4 a5 a8) (MSt o res (ws ++ [x]) ext) = .next (SLt o L (some (markO x)) a5 a8) (MSt o res ws ext) := by
    unfold nAsg
    rw [mt_eq (d := .ref ((SM o (KO o)).length + 1)) (m1 := MSt o res (ws ++ [x]) ext) rfl (sel_lst w1)]
    show (gPopU (.ref ((SM o (KO o)).length + 1)) [] (MSt o res (ws ++ [x]) ext)).seq _ _ = _
    rw [pop_ok w1, st1]
    rfl
  -- result
  have s2 : nIf (mTest (mBin (gIsN true) (mVar 4) (mC .non))) (nDrop (mMt (selB isL gAppend) (mVar 6) (mCons (mBin gIxU (mVar 2) (mVar 4)) mNil))) nNil (SLt o L (some (markO x)) a5 a8) (MSt o res ws ext) = .next (SLt o L (some (markO x)) a5 a8) (MSt o (res ++ x.toList) ws ext) := by
    cases x with
    | none =>
      rw [if_f (m1 := MSt o res ws ext) rfl, show res ++ Option.toList (none : Option Nat) = res by simp]
      rfl
    | some i =>
      have r1 : (MSt o res ws ext)[(SM o (KO o)).length]? = some (.lst (res.map recO)) := at0
      rw [if_t (m1 := MSt o res ws ext) rfl]
      unfold nDrop
      rw [mt_eq (d := .ref (SM o (KO o)).length) (m1 := MSt o res ws ext) rfl (sel_lst r1)]
      have gf := get_fd O.lt (O.all i (hx i rfl)) (MSt o res ws ext)
      have ar : (mCons (mBin gIxU (mVar 2) (mVar 4)) mNil) (SLt o L (some (markO (some i))) a5 a8) (MSt o res ws ext) = .ok [recO i] (MSt o res ws ext) := by
        show (R.bind (gIxU (.dic (o.map pr)) (markD i) (MSt o res ws ext)) _) = _
        rw [gf]
        rfl
      rw [ar]
      show (gAppend (.ref (SM o (KO o)).length) [recO i] (MSt o res ws ext)).seq _ _ = _
      rw [app_ok r1 (by rw [List.length_map]; omega), st0]
      show RS.next _ _ = _
      unfold MSt
      rw [List.map_append]
      rfl
  -- rows
  have ql : (MSt o (res ++ x.toList) ws ext)[q]? = some (.lst ((KO o x).map recO)) := at_b (g2 (KO o))
  have s3 : nAsg 8 (mSortK 12 lsc ["levels", "records", "found", "behind", "mark", "record", "result", "waiting", "rows"] (mCall 2 (pureF 12 r_sibling_key) (mCons (mVar 1) (mCons (mVar 0) mNil))) (mBin gIxU (mVar 3) (mVar 4))) (SLt o L (some (markO x)) a5 a8) (MSt o (res ++ x.toList) ws ext) = .next (SLt o L (some (markO x)) a5 (some (.ref (MSt o (res ++ x.toList) ws ext).length))) (MSt o (res ++ x.toList) ws (ext ++ [.lst ((kidS x).map recO)])) := by
    have e : mBin gIxU (mVar 3) (mVar 4) (SLt o L (some (markO x)) a5 a8) (MSt o (res ++ x.toList) ws ext) = .ok (.ref q) (MSt o (res ++ x.toList) ws ext) := g1 (KO o) _
    unfold nAsg mSortK
    rw [e]
    show (gSortK 12 lsc Nm kx0 (SLt o L (some (markO x)) a5 a8) (.ref q) (MSt o (res ++ x.toList) ws ext)).seq _ _ = _
    rw [sortK_ok (fun j hj => O.lt j (List.mem_filter.mp hj).1) hx kp ql]
    show RS.next _ _ = _
    unfold MSt
    rw [List.append_assoc]
    rfl
  -- waiting
  have w2 : (MSt o (res ++ x.toList) ws (ext ++ [.lst ((kidS x).map recO)]))[(SM o (KO o)).length + 1]? = some (.lst (ws.map markO)) := at1
  have b1 : (MSt o (res ++ x.toList) ws (ext ++ [.lst ((kidS x).map recO)]))[(MSt o (res ++ x.toList) ws ext).length]? = some (.lst ((kidS x).map recO)) := by
    have : MSt o (res ++ x.toList) ws (ext ++ [.lst ((kidS x).map recO)]) = MSt o (res ++ x.toList) ws ext ++ [.lst ((kidS x).map recO)] := by
      unfold MSt
      rw [List.append_assoc]
      rfl
    rw [this, at0]
  generalize hM : MSt o (res ++ x.toList) ws (ext ++ [.lst ((kidS x).map recO)]) = M at *
  generalize hB : (MSt o (res ++ x.toList) ws ext).length = B at *
  have lc : mLc (iU (mUn gRev (mVar 8))) [5] (gSet 5) mYes (mUn (gFld [4] "mark") (mVar 5)) (SLt o L (some (markO x)) a5 (some (.ref B))) M = .ok (.lst ((kidS x).reverse.map markD)) M := by
    have r1 : mUn gRev (mVar 8) (SLt o L (some (markO x)) a5 (some (.ref B))) M = .ok (.lst ((kidS x).reverse.map recO)) M := by
      show gRev (.ref B) M = _
      unfold gRev Mi.listOf
      dsimp only
      rw [b1, List.map_reverse]
    have i1 : iU (mUn gRev (mVar 8)) (SLt o L (some (markO x)) a5 (some (.ref B))) M = .ok ((kidS x).reverse.map recO) M := by
      unfold iU iOr iL
      rw [r1]
      rfl
    unfold mLc
    rw [i1]
    show R.bind (lcL (gSet 5) mYes (mUn (gFld [4] "mark") (mVar 5)) _ ((kidS x).reverse.map recO) [] M) _ = _
    rw [lc_marks ((kidS x).reverse) [] (wipeSl (SLt o L (some (markO x)) a5 (some (D.ref B))) [5]) M (show 5 < (SLt o L none none none).length from (by decide : 5 < 9)) (by rw [List.length_reverse]; have := kl.1; show 0 + _ < 1000; omega)]
    rfl
  have s4 : nDrop (mMt (selB isL gExtend) (mVar 7) (mCons (mLc (iU (mUn gRev (mVar 8))) [5] (gSet 5) mYes (mUn (gFld [4] "mark") (mVar 5))) mNil)) (SLt o L (some (markO x)) a5 (some (.ref B))) M = .next (SLt o L (some (markO x)) a5 (some (.ref B))) (M.set ((SM o (KO o)).length + 1) (.lst (ws.map markO ++ (kidS x).reverse.map markD))) := by
    unfold nDrop
    rw [mt_eq (d := .ref ((SM o (KO o)).length + 1)) (m1 := M) rfl (sel_lst w2)]
    have ar : (mCons (mLc (iU (mUn gRev (mVar 8))) [5] (gSet 5) mYes (mUn (gFld [4] "mark") (mVar 5))) mNil) (SLt o L (some (markO x)) a5 (some (.ref B))) M = .ok [.lst ((kidS x).reverse.map markD)] M := by
      unfold mCons
      rw [lc]
      rfl
    rw [ar]
    show (gExtend (.ref ((SM o (KO o)).length + 1)) [.lst ((kidS x).reverse.map markD)] M).seq _ _ = _
    rw [ext_ok w2 (by rw [List.length_map, List.length_map, List.length_reverse]; have := kl.1; omega)]
    rfl
  refine ⟨some (markO x), some (.ref B), ext ++ [.lst ((kidS x).map recO)], ?_⟩
  unfold bW
  rw [seq_n s1, seq_n s2, seq_n s3, s4, ← hM, st1]
  unfold MSt
  simp only [List.map_append, List.map_map]
  rfl
def runW : Nat → List Nat → List (Option Nat) → Option (List Nat)
  | 0, _, _ => none
  | f + 1, res, wait => match wait.getLast? with
    | none => some res
    | some x => runW f (res ++ x.toList) (wait.dropLast ++ (kidS x).reverse.map some)
theorem while_ok {o : List Nat} (O : Ord o) (L : D) (a5 : Option D) : ∀ (f : Nat) (res : List Nat) (wait : List (Option Nat)) (ext : Mem) (a4 a8 : Option D) (R : List Nat), runW f res wait = some R → (∀ x ∈ wait, okx x) → res.length + f ≤ 200 → wait.length + 5 * f ≤ 900 →
    ∃ b4 b8 ext', nWhile (mTru (mVar 7)) bW f (SLt o L a4 a5 a8) (MSt o res wait ext) = .next (SLt o L b4 a5 b8) (MSt o R [] ext')
  | 0, _, _, _, _, _, _, h, _, _, _ => by cases h
  | f + 1, res, wait, ext, a4, a8, R, h, hw, h1, h2 => by
    have tr : mTru (mVar 7) (SLt o L a4 a5 a8) (MSt o res wait ext) = .ok (!wait.isEmpty) (MSt o res wait ext) := by
      have e : tru (MSt o res wait ext) (.ref ((SM o (KO o)).length + 1)) = some (!wait.isEmpty) := by
        unfold tru
        dsimp only
        rw [at1]
        show some (!(wait.map markO).isEmpty) = _
        cases wait <;> rfl
      show (match tru (MSt o res wait ext) (.ref ((SM o (KO o)).length + 1)) with
        | some b => Mi.R.ok b (MSt o res wait ext)
        | none => .no) = _
      rw [e]
    rcases List.eq_nil_or_concat wait with z | ⟨ws, x, z⟩
    · subst z
      refine ⟨a4, a8, ext, ?_⟩
      have e : some res = some R := h
      cases e
      unfold nWhile
      rw [tr]
      rfl
    · rw [List.concat_eq_append] at z
      subst z
      have hx := hw x (List.mem_append_right _ List.mem_cons_self)
      have kl := kid_len x hx
      obtain ⟨b4, b8, ext', hs⟩ := step O L a4 a5 a8 res ws x ext hx (by omega) (by rw [List.length_append] at h2; simp at h2; omega)
      have h' : runW f (res ++ x.toList) (ws ++ (kidS x).reverse.map some) = some R := by
        have : runW (f + 1) res (ws ++ [x]) = runW f (res ++ x.toList) (ws ++ (kidS x).reverse.map some) := by
          show (match (ws ++ [x]).getLast? with
            | none => some res
            | some x' => runW f (res ++ x'.toList) ((ws ++ [x]).dropLast ++ (kidS x').reverse.map some)) = _
          rw [List.getLast?_concat, List.dropLast_concat]
        rw [← this]
        exact h
      obtain ⟨c4, c8, e2, hr⟩ := while_ok O L a5 f (res ++ x.toList) (ws ++ (kidS x).reverse.map some) ext' b4 b8 R h' (fun y hy => by
        rcases List.mem_append.mp hy with z | z
        · exact hw y (List.mem_append_left _ z)
        · obtain ⟨i, hi, rfl⟩ := List.mem_map.mp z
          intro k e
          cases e
          exact kl.2 i (List.mem_reverse.mp hi)) (by rw [List.length_append]; cases x <;> simp at * <;> omega) (by
        rw [List.length_append] at h2 ⊢
        rw [List.length_map, List.length_reverse]
        have := kl.1
        simp at h2
        omega)
      refine ⟨c4, c8, e2, ?_⟩
      unfold nWhile
      rw [tr]
      show (bif !(ws ++ [x]).isEmpty then (bW (SLt o L a4 a5 a8) (MSt o res (ws ++ [x]) ext)).turn fun sl2 m2 => nWhile (mTru (mVar 7)) bW f sl2 m2 else .next (SLt o L a4 a5 a8) (MSt o res (ws ++ [x]) ext)) = _
      rw [show (!(ws ++ [x]).isEmpty) = true by cases ws <;> rfl, hs]
      exact hr
def dueI : List Nat := [0, 4, 7, 6, 2, 1, 3, 9, 10, 5, 8]
theorem run_due : runW 100 [] [none] = some dueI := by decide +kernel
end K54
end
section
set_option Elab.async false
set_option linter.all false
set_option maxRecDepth 100000
set_option maxHeartbeats 4000000
set_option pp.maxSteps 2000
namespace K54
open PySem PySem.Spec PyProof.Rows L2 Mi MeO MeL
theorem addO_mem {o : List Nat} {i j : Nat} : j ∈ addO o i ↔ j ∈ o ∨ j = i := by
  unfold addO
  split
  · rename_i h
    refine ⟨.inl, fun z => z.elim id fun e => e ▸ h⟩
  · simp
theorem addO_nd {o : List Nat} (h : o.Nodup) (i : Nat) : (addO o i).Nodup := by
  unfold addO
  split
  · exact h
  · rename_i n
    exact List.nodup_append.mpr ⟨h, by simp, fun a ha b hb z => n (by rw [← List.mem_singleton.mp hb, ← z]; exact ha)⟩
theorem fold_mem : ∀ (rs o : List Nat) (j : Nat), j ∈ rs.foldl addO o ↔ j ∈ o ∨ j ∈ rs
  | [], o, j => by simp
  | i :: rs, o, j => by
    rw [List.foldl_cons, fold_mem rs, addO_mem, List.mem_cons, or_assoc]
theorem fold_nd : ∀ (rs o : List Nat), o.Nodup → (rs.foldl addO o).Nodup
  | [], _, h => h
  | i :: rs, o, h => fold_nd rs (addO o i) (addO_nd h i)
theorem ord_of {rs : List Nat} (hr : ∀ j ∈ rs, j < 11) (ha : ∀ j, j < 11 → j ∈ rs) : Ord (rs.foldl addO []) := by
  have h1 := (foldA rs [] hr fun j hj => by cases hj).1
  have h2 := fold_nd rs [] List.nodup_nil
  have h3 : ∀ j, j < 11 → j ∈ rs.foldl addO [] := fun j hj => (fold_mem rs [] j).mpr (.inr (ha j hj))
  exact ⟨h1, h2, h3, (List.perm_ext_iff_of_nodup h2 List.nodup_range).mpr fun j => ⟨fun z => List.mem_range.mpr (h1 j z), fun z => h3 j (List.mem_range.mp z)⟩⟩
theorem rio_ok {rs : List Nat} (hr : ∀ j ∈ rs, j < 11) (hl : rs.length ≤ 60) (ha : ∀ j, j < 11 → j ∈ rs) (m : Mem) : r_records_in_order [LV, .lst (rs.map recO)] m = .ok (.lst (dueI.map recO)) m := by
  have O := ord_of hr ha
  have hc : ∀ j ∈ rs.foldl addO [], ∀ k, aft j = some k → k ∈ rs.foldl addO [] := fun j hj k e => O.all k (aft_lt j (O.lt j hj) k e)
  have pm := pmarks hr hl hc
  have lo : (rs.foldl addO []).length ≤ 60 := by
    have := (foldA rs [] hr fun j hj => by cases hj).2
    simp at this
    omega
  generalize rs.foldl addO [] = o at *
  obtain ⟨y1, k1⟩ := loopK O.lt O.nd (by omega) (.lst (rs.map recO)) o.length 100 0 none (by omega) (by omega)
  obtain ⟨y2, k2⟩ := loopV O.lt O.nd hc (by omega) (.lst (rs.map recO)) y1 o.length 100 0 none (by omega) (by omega)
  obtain ⟨c4, c8, e2, k3⟩ := while_ok O (.lst (rs.map recO)) y2 100 [] [none] [] y1 none dueI run_due (fun x hx => by rw [List.mem_singleton.mp hx]; intro k e; cases e) (by decide) (by decide)
  have st : slStart ["levels", "records", "found", "behind", "mark", "record", "result", "waiting", "rows"] [LV, .lst (rs.map recO)] = [some LV, some (.lst (rs.map recO)), none, none, none, none, none, none, none] := rfl
  have s0 : nAsg 2 (mCall 2 (pureF 12 r_record_marks) (mCons (mVar 0) (mCons (mVar 1) mNil))) [some LV, some (.lst (rs.map recO)), none, none, none, none, none, none, none] [] = .next [some LV, some (.lst (rs.map recO)), some (.dic (o.map pr)), none, none, none, none, none, none] [] := by
    show (pureF 12 r_record_marks [LV, .lst (rs.map recO)] []).seq _ _ = _
    rw [pm]
    rfl
  have s1 : nAsg 3 (mDisp [((mC .non), (mLstN mNil))]) [some LV, some (.lst (rs.map recO)), some (.dic (o.map pr)), none, none, none, none, none, none] [] = .next [some LV, some (.lst (rs.map recO)), some (.dic (o.map pr)), some (.ref 0), none, none, none, none, none] (SM [] K0) := rfl
  have s2 : nForW 100 (wV (mVar 2)) (gSet 4) bA [some LV, some (.lst (rs.map recO)), some (.dic (o.map pr)), some (.ref 0), none, none, none, none, none] (SM [] K0) = .next [some LV, some (.lst (rs.map recO)), some (.dic (o.map pr)), some (.ref 0), y1, none, none, none, none] (SM o K0) := k1
  have s3 : nForW 100 (wDU (fun p => p.2) (mVar 2)) (gSet 5) bB [some LV, some (.lst (rs.map recO)), some (.dic (o.map pr)), some (.ref 0), y1, none, none, none, none] (SM o K0) = .next [some LV, some (.lst (rs.map recO)), some (.dic (o.map pr)), some (.ref 0), y1, y2, none, none, none] (SM o (KO o)) := k2
  have s4 : nAsg 6 (mLstN mNil) [some LV, some (.lst (rs.map recO)), some (.dic (o.map pr)), some (.ref 0), y1, y2, none, none, none] (SM o (KO o)) = .next [some LV, some (.lst (rs.map recO)), some (.dic (o.map pr)), some (.ref 0), y1, y2, some (.ref (SM o (KO o)).length), none, none] (SM o (KO o) ++ [.lst []]) := rfl
  have s5 : nAsg 7 (mLstN (mCons (mC .non) mNil)) [some LV, some (.lst (rs.map recO)), some (.dic (o.map pr)), some (.ref 0), y1, y2, some (.ref (SM o (KO o)).length), none, none] (SM o (KO o) ++ [.lst []]) = .next (SLt o (.lst (rs.map recO)) y1 y2 none) (MSt o [] [none] []) := by
    show RS.next [some LV, some (.lst (rs.map recO)), some (.dic (o.map pr)), some (.ref 0), y1, y2, some (.ref (SM o (KO o)).length), some (.ref (SM o (KO o) ++ [MO.lst []]).length), none] ((SM o (KO o) ++ [MO.lst []]) ++ [MO.lst [.non]]) = _
    rw [List.length_append, List.append_assoc]
    rfl
  have body : mDef ["levels", "records", "found", "behind", "mark", "record", "result", "waiting", "rows"] b_records_in_order [LV, .lst (rs.map recO)] [] = .ok (.ref (SM o (KO o)).length) (MSt o dueI [] e2) := by
    unfold mDef
    rw [st, r_rio, seq_n s0, seq_n s1, seq_n s2, seq_n s3, seq_n s4, seq_n s5, seq_n k3]
    rfl
  have e1 : optL (frz [] 12) [LV, .lst (rs.map recO)] = some [LV, .lst (rs.map recO)] := optL_id fun x hx => by
    rcases List.mem_cons.mp hx with z | z
    · rw [z]
      exact frz_LV []
    · rw [List.mem_singleton.mp z]
      exact frz_recs [] hr
  have e3 : frz (MSt o dueI [] e2) 12 (.ref (SM o (KO o)).length) = some (.lst (dueI.map recO)) := by
    unfold frz
    dsimp only
    rw [at0]
    dsimp only
    rw [optL_map (k := recO) fun i hi => (frz_rec _ i ((by decide : ∀ i ∈ dueI, i < 11) i hi)).1]
    rfl
  unfold r_records_in_order pureF
  rw [e1]
  dsimp only
  rw [body]
  dsimp only
  rw [e3]
theorem byKey_nil : byKey ([] : List D) [] = [] := by
  unfold byKey
  simp
theorem rio_nil (m : Mem) : r_records_in_order [LV, .lst []] m = .ok (.lst []) m := by
  have s0 : nAsg 2 (mCall 2 (pureF 12 r_record_marks) (mCons (mVar 0) (mCons (mVar 1) mNil))) [some LV, some (.lst []), none, none, none, none, none, none, none] [] = .next [some LV, some (.lst []), some (.dic []), none, none, none, none, none, none] [] := by kernel_rfl
  have w : nWhile (mTru (mVar 7)) bW 100 [some LV, some (.lst []), some (.dic []), some (.ref 0), none, none, some (.ref 2), some (.ref 3), none] [.dic 1 [(.non, .ref 1)], .lst [], .lst [], .lst [.non]] = .next [some LV, some (.lst []), some (.dic []), some (.ref 0), some .non, none, some (.ref 2), some (.ref 3), some (.ref 4)] [.dic 1 [(.non, .ref 1)], .lst [], .lst [], .lst [], .lst []] := by
    have b : bW [some LV, some (.lst []), some (.dic []), some (.ref 0), none, none, some (.ref 2), some (.ref 3), none] [.dic 1 [(.non, .ref 1)], .lst [], .lst [], .lst [.non]] = .next [some LV, some (.lst []), some (.dic []), some (.ref 0), some .non, none, some (.ref 2), some (.ref 3), some (.ref 4)] [.dic 1 [(.non, .ref 1)], .lst [], .lst [], .lst [], .lst []] := by
      unfold bW
      have t1 : nAsg 4 (mMt (selB isL gPopU) (mVar 7) mNil) [some LV, some (.lst []), some (.dic []), some (.ref 0), none, none, some (.ref 2), some (.ref 3), none] [.dic 1 [(.non, .ref 1)], .lst [], .lst [], .lst [.non]] = .next [some LV, some (.lst []), some (.dic []), some (.ref 0), some .non, none, some (.ref 2), some (.ref 3), none] [.dic 1 [(.non, .ref 1)], .lst [], .lst [], .lst []] := rfl
      have t2 : nIf (mTest (mBin (gIsN true) (mVar 4) (mC .non))) (nDrop (mMt (selB isL gAppend) (mVar 6) (mCons (mBin gIxU (mVar 2) (mVar 4)) mNil))) nNil [some LV, some (.lst []), some (.dic []), some (.ref 0), some .non, none, some (.ref 2), some (.ref 3), none] [.dic 1 [(.non, .ref 1)], .lst [], .lst [], .lst []] = .next [some LV, some (.lst []), some (.dic []), some (.ref 0), some .non, none, some (.ref 2), some (.ref 3), none] [.dic 1 [(.non, .ref 1)], .lst [], .lst [], .lst []] := rfl
      have t3 : nAsg 8 (mSortK 12 lsc ["levels", "records", "found", "behind", "mark", "record", "result", "waiting", "rows"] (mCall 2 (pureF 12 r_sibling_key) (mCons (mVar 1) (mCons (mVar 0) mNil))) (mBin gIxU (mVar 3) (mVar 4))) [some LV, some (.lst []), some (.dic []), some (.ref 0), some .non, none, some (.ref 2), some (.ref 3), none] [.dic 1 [(.non, .ref 1)], .lst [], .lst [], .lst []] = .next [some LV, some (.lst []), some (.dic []), some (.ref 0), some .non, none, some (.ref 2), some (.ref 3), some (.ref 4)] [.dic 1 [(.non, .ref 1)], .lst [], .lst [], .lst [], .lst (byKey [] [])] := by kernel_rfl
      rw [byKey_nil] at t3
      rw [seq_n t1, seq_n t2, seq_n t3]
      kernel_rfl
    unfold nWhile
    show (bW [some LV, some (.lst []), some (.dic []), some (.ref 0), none, none, some (.ref 2), some (.ref 3), none] [.dic 1 [(.non, .ref 1)], .lst [], .lst [], .lst [.non]]).turn _ = _
    rw [b]
    rfl
  have body : mDef ["levels", "records", "found", "behind", "mark", "record", "result", "waiting", "rows"] b_records_in_order [LV, .lst []] [] = .ok (.ref 2) [.dic 1 [(.non, .ref 1)], .lst [], .lst [], .lst [], .lst []] := by
    unfold mDef
    have s1 : nSeq (nAsg 3 (mDisp [((mC .non), (mLstN mNil))])) (nSeq (nForW 100 (wV (mVar 2)) (gSet 4) bA) (nSeq (nForW 100 (wDU (fun p => p.2) (mVar 2)) (gSet 5) bB) (nSeq (nAsg 6 (mLstN mNil)) (nAsg 7 (mLstN (mCons (mC .non) mNil)))))) [some LV, some (.lst []), some (.dic []), none, none, none, none, none, none] [] = .next [some LV, some (.lst []), some (.dic []), some (.ref 0), none, none, some (.ref 2), some (.ref 3), none] [.dic 1 [(.non, .ref 1)], .lst [], .lst [], .lst [.non]] := by kernel_rfl
    have a1 : nAsg 3 (mDisp [((mC .non), (mLstN mNil))]) [some LV, some (.lst []), some (.dic []), none, none, none, none, none, none] [] = .next [some LV, some (.lst []), some (.dic []), some (.ref 0), none, none, none, none, none] [.dic 1 [(.non, .ref 1)], .lst []] := by kernel_rfl
    have a2 : nForW 100 (wV (mVar 2)) (gSet 4) bA [some LV, some (.lst []), some (.dic []), some (.ref 0), none, none, none, none, none] [.dic 1 [(.non, .ref 1)], .lst []] = .next [some LV, some (.lst []), some (.dic []), some (.ref 0), none, none, none, none, none] [.dic 1 [(.non, .ref 1)], .lst []] := by kernel_rfl
    have a3 : nForW 100 (wDU (fun p => p.2) (mVar 2)) (gSet 5) bB [some LV, some (.lst []), some (.dic []), some (.ref 0), none, none, none, none, none] [.dic 1 [(.non, .ref 1)], .lst []] = .next [some LV, some (.lst []), some (.dic []), some (.ref 0), none, none, none, none, none] [.dic 1 [(.non, .ref 1)], .lst []] := by kernel_rfl
    have a4 : nAsg 6 (mLstN mNil) [some LV, some (.lst []), some (.dic []), some (.ref 0), none, none, none, none, none] [.dic 1 [(.non, .ref 1)], .lst []] = .next [some LV, some (.lst []), some (.dic []), some (.ref 0), none, none, some (.ref 2), none, none] [.dic 1 [(.non, .ref 1)], .lst [], .lst []] := by kernel_rfl
    have a5 : nAsg 7 (mLstN (mCons (mC .non) mNil)) [some LV, some (.lst []), some (.dic []), some (.ref 0), none, none, some (.ref 2), none, none] [.dic 1 [(.non, .ref 1)], .lst [], .lst []] = .next [some LV, some (.lst []), some (.dic []), some (.ref 0), none, none, some (.ref 2), some (.ref 3), none] [.dic 1 [(.non, .ref 1)], .lst [], .lst [], .lst [.non]] := by kernel_rfl
    have st : slStart ["levels", "records", "found", "behind", "mark", "record", "result", "waiting", "rows"] [LV, .lst []] = [some LV, some (.lst []), none, none, none, none, none, none, none] := rfl
    rw [st, r_rio, seq_n s0, seq_n a1, seq_n a2, seq_n a3, seq_n a4, seq_n a5, seq_n w]
    rfl
  have e1 : optL (frz [] 12) [LV, .lst []] = some [LV, .lst []] := by kernel_rfl
  unfold r_records_in_order pureF
  rw [e1]
  dsimp only
  rw [body]
  rfl
end K54
end
section
set_option Elab.async false
set_option linter.all false
set_option maxRecDepth 100000
set_option maxHeartbeats 4000000
set_option pp.maxSteps 2000
namespace K54
open PySem PySem.Spec PyProof.Rows L2 Mi MeO MeL

def lvP : MS := nSeq (nAsg 1 (mMake 3 3 r_Levels___init__ (mCons (mLst (mCons (mC (.str "open")) (mCons (mC (.str "red")) (mCons (mC (.str "blue")) (mCons (mC (.str "top")) mNil))))) (mCons (mLst (mCons (mTup (mCons (mC (.str "red")) (mCons (mC (.str "top")) mNil))) (mCons (mTup (mCons (mC (.str "blue")) (mCons (mC (.str "top")) mNil))) mNil))) mNil)))) (nSeq (nAsg 2 (mCall 0 r__law_rows mNil)) (nAsg 3 (mLc (iU (mVar 2)) [14, 15, 16] (Mi.gTup [(gSet 14), (gSet 15), (gSet 16)]) mYes (mMake 4 6 r_Record___init__ (mCons (mVar 14) (mCons (mVar 15) (mCons (mVar 16) (mCons (mTup (mCons (mC (.str "undo")) mNil)) (mCons (mC .non) mNil)))))))))
def inB : MS := (nSeq (nDrop (mMt (selB isL gAppend) (mVar 7) (mCons (mMt (selB isL gPopU) (mVar 6) (mCons (mCall 2 r__law_draw (mCons (mVar 5) (mCons (mCB gLenW (mCons (mVar 6) mNil)) mNil))) mNil)) mNil))) (nIf (mTest (mBin (gOr gEq (gOr (gEqO (tabOf tl) 4 r_Record___eq__ false) (gSame false))) (mCall 2 r__law_draw (mCons (mVar 5) (mCons (mC (.int 3)) mNil))) (mC (.int 0)))) (nDrop (mMt (selB isL gAppend) (mVar 7) (mCons (mBin gIxU (mVar 7) (mC (.int 0))) mNil))) nNil))
def rdB : MS := (nSeq (nAsg 5 (mCall 2 r__law_draws (mCons (mVar 0) (mCons (mVar 4) mNil)))) (nSeq (nPar 6 7 (mCons (mCB gListN (mCons (mVar 3) mNil)) (mCons (mLstN mNil) mNil))) (nSeq (nFor (iR (mCons (mCB gLenW (mCons (mVar 3) mNil)) mNil)) (gSet 8) (nSeq (nDrop (mMt (selB isL gAppend) (mVar 7) (mCons (mMt (selB isL gPopU) (mVar 6) (mCons (mCall 2 r__law_draw (mCons (mVar 5) (mCons (mCB gLenW (mCons (mVar 6) mNil)) mNil))) mNil)) mNil))) (nIf (mTest (mBin (gOr gEq (gOr (gEqO (tabOf tl) 4 r_Record___eq__ false) (gSame false))) (mCall 2 r__law_draw (mCons (mVar 5) (mCons (mC (.int 3)) mNil))) (mC (.int 0)))) (nDrop (mMt (selB isL gAppend) (mVar 7) (mCons (mBin gIxU (mVar 7) (mC (.int 0))) mNil))) nNil))) (nSeq (nAsg 9 (mCB gListN (mCons (mVar 7) mNil))) (nSeq (nIf (mOr (mTest (lendE 12 (mBin (gOr gNe (gOr (gEqO (tabOf tl) 4 r_Record___eq__ true) (gSame true))) (mLc (iU (mCall 2 r_records_in_order (mCons (mVar 1) (mCons (mVar 7) mNil)))) [10] (gSet 10) mYes (mUn (gFld [4] "mark") (mVar 10))) (mCall 0 r__law_due mNil)))) (mTest (mBin (gOr gNe (gOr (gEqO (tabOf tl) 4 r_Record___eq__ true) (gSame true))) (mVar 7) (mVar 9)))) (nRet (mC (.bl false))) nNil) (nSeq (nAsg 10 (mBin gIxU (mVar 7) (mCall 2 r__law_draw (mCons (mVar 5) (mCons (mCB gLenW (mCons (mVar 7) mNil)) mNil))))) (nSeq (nAsg 11 (mLst (mCons (mUn (gFld [4] "mark") (mVar 10)) (mCons (mUn (gFld [4] "stamp") (mVar 10)) (mCons (mUn (gFld [4] "after") (mVar 10)) (mCons (mUn (gFld [4] "act") (mVar 10)) (mCons (mUn (gFld [4] "first") (mVar 10)) mNil))))))) (nSeq (nAsg 12 (mMake 4 6 r_Record___init__ (mCons (mBin gIxU (mVar 11) (mC (.int 0))) (mCons (mBin gIxU (mVar 11) (mC (.int 1))) (mCons (mBin gIxU (mVar 11) (mC (.int 2))) (mCons (mBin gIxU (mVar 11) (mC (.int 3))) (mCons (mBin gIxU (mVar 11) (mC (.int 4))) mNil))))))) (nSeq (nAsg 13 (mMake 4 6 r_Record___init__ (mCons (mBin gIxU (mVar 11) (mC (.int 0))) (mCons (mBin gAdd (mBin gIxU (mVar 11) (mC (.int 1))) (mC (.int 1))) (mCons (mBin gIxU (mVar 11) (mC (.int 2))) (mCons (mBin gIxU (mVar 11) (mC (.int 3))) (mCons (mBin gIxU (mVar 11) (mC (.int 4))) mNil))))))) (nSeq (nIf (mOr (mTest (mBin (gOr gNe (gOr (gEqO (tabOf tl) 4 r_Record___eq__ true) (gSame true))) (mVar 10) (mVar 12))) (mTest (mBin (gOr gEq (gOr (gEqO (tabOf tl) 4 r_Record___eq__ false) (gSame false))) (mVar 10) (mVar 13)))) (nRet (mC (.bl false))) nNil) (nIf (mOr (mTest (mBin (gOr gEq (gOr (gEqO (tabOf tl) 4 r_Record___eq__ false) (gSame false))) (mVar 10) (mMake 4 6 r_Record___init__ (mCons (mBin gIxU (mVar 11) (mC (.int 0))) (mCons (mBin gIxU (mVar 11) (mC (.int 1))) (mCons (mBin gIxU (mVar 11) (mC (.int 2))) (mCons (mTup (mCons (mC (.str "redo")) mNil)) (mCons (mC .non) mNil)))))))) (mTest (mBin (gOr gEq (gOr (gEqO (tabOf tl) 4 r_Record___eq__ false) (gSame false))) (mVar 10) (mCB gTuple (mCons (mVar 11) mNil))))) (nRet (mC (.bl false))) nNil)))))))))))
theorem r_lw : r_law = mDef ["_law_script", "_law_levels", "_law_rows_here", "_law_records", "_law_k", "_law_draws_here", "_law_left", "_law_some", "_law_turn", "_law_saved", "_law_record", "_law_parts", "_law_same", "_law_other", "_law_mark", "_law_stamp", "_law_after"] (nSeq (nAsg 1 (mMake 3 3 r_Levels___init__ (mCons (mLst (mCons (mC (.str "open")) (mCons (mC (.str "red")) (mCons (mC (.str "blue")) (mCons (mC (.str "top")) mNil))))) (mCons (mLst (mCons (mTup (mCons (mC (.str "red")) (mCons (mC (.str "top")) mNil))) (mCons (mTup (mCons (mC (.str "blue")) (mCons (mC (.str "top")) mNil))) mNil))) mNil)))) (nSeq (nAsg 2 (mCall 0 r__law_rows mNil)) (nSeq (nAsg 3 (mLc (iU (mVar 2)) [14, 15, 16] (Mi.gTup [(gSet 14), (gSet 15), (gSet 16)]) mYes (mMake 4 6 r_Record___init__ (mCons (mVar 14) (mCons (mVar 15) (mCons (mVar 16) (mCons (mTup (mCons (mC (.str "undo")) mNil)) (mCons (mC .non) mNil)))))))) (nSeq (nFor (iR (mCons (mCB gMax2 (mCons (mC (.int 1)) (mCons (mCB gMin2 (mCons (mC (.int 40)) (mCons (mCB gLenW (mCons (mVar 0) mNil)) mNil))) mNil))) mNil)) (gSet 4) rdB) (nRet (lendE 12 (mBin (gOr gEq (gOr (gEqO (tabOf tl) 4 r_Record___eq__ false) (gSame false))) (mCall 2 r_records_in_order (mCons (mVar 1) (mCons (mLst mNil) mNil))) (mLst mNil)))))))) := rfl
/-! the memory behind the records -/
def rf (i : Nat) : D := .ref (7 + i)
def M0 : Mem := [.ins 3 [("own_names", .ref 1), ("lower", .ref 2)], .lst [.str "open", .str "red", .str "blue", .str "top"], .dic 4 [(.str "open", .ref 3), (.str "red", .ref 4), (.str "blue", .ref 5), (.str "top", .ref 6)], .dic 1 [(.str "open", .bl true)], .dic 2 [(.str "red", .bl true), (.str "open", .bl true)], .dic 2 [(.str "blue", .bl true), (.str "open", .bl true)], .dic 4 [(.str "top", .bl true), (.str "open", .bl true), (.str "red", .bl true), (.str "blue", .bl true)]] ++ (List.range 11).map fun i => .ins 4 (recF i)
def RR : List D := (List.range 11).map rf
def RW : D := .lst ((List.range 11).map fun i => .tup [markD i, .int (row i).2.2.2.1, markO (aft i)])
theorem pre_ok (s : D) : lvP [some s, none, none, none, none, none, none, none, none, none, none, none, none, none, none, none, none] [] = .next [some s, some (.ref 0), some RW, some (.lst RR), none, none, none, none, none, none, none, none, none, none, none, none, none] M0 := by kernel_rfl
theorem optL_mono {α β : Type} {f g : α → Option β} (h : ∀ a b, f a = some b → g a = some b) : ∀ {xs : List α} {ys : List β}, optL f xs = some ys → optL g xs = some ys
  | [], _, e => e
  | x :: xs, ys, e => by
    obtain ⟨b, h1, h2⟩ := Option.bind_eq_some_iff.mp (show (f x).bind (fun b => (optL f xs).map (b :: ·)) = some ys from e)
    obtain ⟨bs, h3, h4⟩ := Option.map_eq_some_iff.mp h2
    show (g x).bind (fun b => (optL g xs).map (b :: ·)) = some ys
    rw [h x b h1, Option.bind_some, optL_mono h h3, ← h4]
    rfl
theorem frz_app (m t : Mem) : ∀ (n : Nat) (d d' : D), frz m n d = some d' → frz (m ++ t) n d = some d'
  | 0, _, _, e => by cases e
  | n + 1, d, d', e => by
    have ih := frz_app m t n
    have fk : ∀ (a : D × D) b, frzK (frz m n) a = some b → frzK (frz (m ++ t) n) a = some b := fun a b h => by
      obtain ⟨k, h1, h2⟩ := Option.bind_eq_some_iff.mp (show (frz m n a.1).bind _ = some b from h)
      show (frz (m ++ t) n a.1).bind (fun k => if key8 k = key8 a.1 then (frz (m ++ t) n a.2).map (k, ·) else none) = some b
      rw [ih _ _ h1, Option.bind_some]
      have h2 : (if key8 k = key8 a.1 then (frz m n a.2).map (k, ·) else none) = some b := h2
      show (if key8 k = key8 a.1 then (frz (m ++ t) n a.2).map (k, ·) else none) = some b
      split at h2
      · rename_i hk
        obtain ⟨v, h3, h4⟩ := Option.map_eq_some_iff.mp h2
        rw [if_pos hk, ih _ _ h3, ← h4]
        rfl
      · cases h2
    have ff : ∀ (a : Str × D) b, (frz m n a.2).map (a.1, ·) = some b → (frz (m ++ t) n a.2).map (a.1, ·) = some b := fun a b h => by
      obtain ⟨v, h3, h4⟩ := Option.map_eq_some_iff.mp h
      rw [ih _ _ h3, ← h4]
      rfl
    have go : ∀ {α β : Type} {f g : α → Option β} {xs : List α} {C : List β → D}, (∀ a b, f a = some b → g a = some b) → (optL f xs).map C = some d' → (optL g xs).map C = some d' := fun {α β f g xs C} h z => by
      obtain ⟨v, h3, h4⟩ := Option.map_eq_some_iff.mp z
      rw [optL_mono h h3, ← h4]
      rfl
    cases d with
    | tup ds => exact go ih e
    | lst ds => exact go ih e
    | scr ds => exact go ih e
    | dic kvs => exact go fk e
    | obj k fs => exact go ff e
    | ref i =>
      unfold frz at e ⊢
      dsimp only at e ⊢
      cases hm : m[i]? with
      | none =>
        rw [hm] at e
        cases e
      | some o =>
        rw [at_b hm]
        rw [hm] at e
        cases o with
        | lst ds => exact go ih e
        | dic ep kvs => exact go fk e
        | ins k fs => exact go ff e
    | non => exact e
    | bl b => exact e
    | int i => exact e
    | str x => exact e
    | ty x => exact e
    | cls k => exact e
    | err k fs => exact e
    | clo j => exact e
theorem frz_lv (t : Mem) : frz (M0 ++ t) 12 (.ref 0) = some LV := frz_app M0 t 12 _ _ (by kernel_rfl)
theorem frz_rf : ∀ i, i < 11 → frz M0 11 (rf i) = some (recO i) :=
  all11 (P := fun i => frz M0 11 (rf i) = some (recO i)) ⟨by kernel_rfl, by kernel_rfl, by kernel_rfl, by kernel_rfl, by kernel_rfl, by kernel_rfl, by kernel_rfl, by kernel_rfl, by kernel_rfl, by kernel_rfl, by kernel_rfl⟩
theorem ins_rf (t : Mem) {i : Nat} (hi : i < 11) : (M0 ++ t)[7 + i]? = some (.ins 4 (recF i)) := at_b (all11 (P := fun i => M0[7 + i]? = some (.ins 4 (recF i))) ⟨by kernel_rfl, by kernel_rfl, by kernel_rfl, by kernel_rfl, by kernel_rfl, by kernel_rfl, by kernel_rfl, by kernel_rfl, by kernel_rfl, by kernel_rfl, by kernel_rfl⟩ i hi)
theorem frz_some {t : Mem} {a : Nat} {so : List Nat} (h : (M0 ++ t)[a]? = some (.lst (so.map rf))) (hs : ∀ j ∈ so, j < 11) : frz (M0 ++ t) 12 (.ref a) = some (.lst (so.map recO)) := by
  unfold frz
  dsimp only
  rw [h]
  dsimp only
  rw [optL_map (k := recO) fun i hi => frz_app M0 t 11 _ _ (frz_rf i (hs i hi))]
  rfl
theorem cons_ok {x : ME} {r : MA} {sl : Sl} {m m1 m2 : Mem} {d : D} {ds : List D} (h : x sl m = .ok d m1) (k : r sl m1 = .ok ds m2) : mCons x r sl m = .ok (d :: ds) m2 := by
  unfold mCons
  rw [h]
  show R.bind (r sl m1) _ = _
  rw [k]
  rfl
theorem one_ok {x : ME} {sl : Sl} {m m1 : Mem} {d : D} (h : x sl m = .ok d m1) : mCons x mNil sl m = .ok [d] m1 := cons_ok h rfl
theorem cb_ok {g : List D → Mem → Mi.R D} {r : MA} {sl : Sl} {m m1 : Mem} {ds : List D} (h : r sl m = .ok ds m1) : mCB g r sl m = g ds m1 := by
  unfold mCB
  rw [h]
  rfl
theorem call_ok {n : Nat} {f : MF} {r : MA} {sl : Sl} {m m1 : Mem} {ds : List D} (h : r sl m = .ok ds m1) (hn : ds.length = n) : mCall n f r sl m = f ds m1 := by
  unfold mCall
  rw [h]
  show (if ds.length = n then f ds m1 else .no) = _
  rw [if_pos hn]
theorem bin_ok {g : D → D → Mem → Mi.R D} {x y : ME} {sl : Sl} {m m1 m2 : Mem} {d e : D} (h : x sl m = .ok d m1) (k : y sl m1 = .ok e m2) : mBin g x y sl m = g d e m2 := by
  unfold mBin
  rw [h]
  show R.bind (y sl m1) _ = _
  rw [k]
  rfl
theorem asg_ok {i : Nat} {x : ME} {sl : Sl} {m m1 : Mem} {d : D} (h : x sl m = .ok d m1) : nAsg i x sl m = .next (sl.set i (some d)) m1 := by
  unfold nAsg
  rw [h]
  rfl
theorem drop_ok {x : ME} {sl : Sl} {m m1 : Mem} {d : D} (h : x sl m = .ok d m1) : nDrop x sl m = .next sl m1 := by
  unfold nDrop
  rw [h]
  rfl
theorem test_ok {x : ME} {sl : Sl} {m m1 : Mem} {b : Bool} (h : x sl m = .ok (.bl b) m1) : mTest x sl m = .ok b m1 := by
  unfold mTest
  rw [h]
  rfl
theorem mtv_ok {sel : Mem → D → Option GM} {x : ME} {r : MA} {sl : Sl} {m m1 m2 : Mem} {d : D} {ds : List D} {g : GM} (ho : x sl m = .ok d m1) (hs : sel m1 d = some g) (hr : r sl m1 = .ok ds m2) : mMt sel x r sl m = g d ds m2 := by
  rw [mt_eq ho hs, hr]
  rfl
theorem map_erase {α β : Type} (f : α → β) : ∀ (xs : List α) (k : Nat), (xs.map f).eraseIdx k = (xs.eraseIdx k).map f
  | [], _ => rfl
  | _ :: _, 0 => rfl
  | x :: xs, k + 1 => congrArg (f x :: ·) (map_erase f xs k)
/-! the turn of the inner loop -/
theorem popAt_ok {a k : Nat} {m : Mem} {ds : List D} {y : D} (h : m[a]? = some (.lst ds)) (hk : ds[k]? = some y) (hl : ds.length ≤ 100000) : gPopU (.ref a) [.int k] m = .ok y (m.set a (.lst (ds.eraseIdx k))) := by
  have hlt := (List.getElem?_eq_some_iff.mp hk).1
  unfold gPopU gPopAt onL
  dsimp only
  rw [h]
  dsimp only
  rw [show ixN ds.length (k : Int) = some k by unfold ixN; rw [if_pos (by omega), if_pos (by omega)]; rfl]
  dsimp only
  rw [hk]
  dsimp only
  rw [show Nat.ble ds.length 100000 = true by simpa using hl]
  rfl
abbrev IS (a b : Int) (left so : List Nat) : Mem := [.lst [.int a, .int b], .lst (left.map rf), .lst (so.map rf)]
section
variable {b : Mem} {x y z v : MO} {t : Mem}
theorem at2 : (b ++ x :: y :: z :: t)[b.length + 2]? = some z := by simp
theorem st2 : (b ++ x :: y :: z :: t).set (b.length + 2) v = b ++ x :: y :: v :: t := by
  rw [List.set_append_right _ _ (by omega), Nat.add_sub_cancel_left]
  rfl
end
structure Half (left so : List Nat) : Prop where
  ll : ∀ j ∈ left, j < 11
  ls : ∀ j ∈ so, j < 11
  all : ∀ j, j < 11 → j ∈ left ∨ j ∈ so
theorem turn_ok {m : Mem} {a b : Int} {left so : List Nat} (hb : 0 ≤ b) (hb2 : b < 2147483647) (Hf : Half left so) (h0 : left ≠ []) (hl : left.length ≤ 100) (hs : so.length ≤ 100) (s0 s1 s2 s3 s4 s8 s9 s10 s11 s12 s13 s14 s15 s16 : Option D) :
    ∃ a' b' left' so', inB [s0, s1, s2, s3, s4, some (.ref m.length), some (.ref (m.length + 1)), some (.ref (m.length + 2)), s8, s9, s10, s11, s12, s13, s14, s15, s16] (m ++ IS a b left so) = .next [s0, s1, s2, s3, s4, some (.ref m.length), some (.ref (m.length + 1)), some (.ref (m.length + 2)), s8, s9, s10, s11, s12, s13, s14, s15, s16] (m ++ IS a' b' left' so') ∧ 0 ≤ b' ∧ b' < 2147483647 ∧ Half left' so' ∧ left'.length + 1 = left.length ∧ so'.length ≤ so.length + 2 ∧ so' ≠ [] := by
  generalize hsl : [s0, s1, s2, s3, s4, some (D.ref m.length), some (.ref (m.length + 1)), some (.ref (m.length + 2)), s8, s9, s10, s11, s12, s13, s14, s15, s16] = sl
  have v5 : ∀ M, mVar 5 sl M = .ok (.ref m.length) M := fun M => by rw [← hsl]; rfl
  have v6 : ∀ M, mVar 6 sl M = .ok (.ref (m.length + 1)) M := fun M => by rw [← hsl]; rfl
  have v7 : ∀ M, mVar 7 sl M = .ok (.ref (m.length + 2)) M := fun M => by rw [← hsl]; rfl
  have hpos : 0 < left.length := List.length_pos_iff.mpr h0
  obtain ⟨d, a1, b1, e1, d0, d1, c0, c1⟩ := draw_ok (m := m ++ IS a b left so) (n := m.length) (u := left.length) at0 hb hb2 (by omega) (by omega)
  rw [st0] at e1
  have hd : d.toNat < left.length := by omega
  obtain ⟨i, hi⟩ : ∃ i, left[d.toNat]? = some i := ⟨left[d.toNat], List.getElem?_eq_getElem hd⟩
  have i11 : i < 11 := Hf.ll i (List.mem_of_getElem? hi)
  have lenE : ∀ M : Mem, M[m.length + 1]? = some (.lst (left.map rf)) → gLenW [.ref (m.length + 1)] M = .ok (.int left.length) M := fun M h => by
    show gLenM [.ref (m.length + 1)] M = _
    unfold gLenM Mi.listOf
    dsimp only
    rw [h]
    show Mi.R.ok (D.int (left.map rf).length) M = _
    rw [List.length_map]
  have x1 : mCall 2 r__law_draw (mCons (mVar 5) (mCons (mCB gLenW (mCons (mVar 6) mNil)) mNil)) sl (m ++ IS a b left so) = .ok (.int d) (m ++ IS a1 b1 left so) := by
    rw [call_ok (n := 2) (cons_ok (v5 _) (one_ok ((cb_ok (one_ok (v6 _))).trans (lenE _ at1)))) rfl]
    exact e1
  have x2 : mMt (selB isL gPopU) (mVar 6) (mCons (mCall 2 r__law_draw (mCons (mVar 5) (mCons (mCB gLenW (mCons (mVar 6) mNil)) mNil))) mNil) sl (m ++ IS a b left so) = .ok (rf i) (m ++ IS a1 b1 (left.eraseIdx d.toNat) so) := by
    rw [mtv_ok (v6 _) (sel_lst at1) (one_ok x1), show (d : Int) = ((d.toNat : Nat) : Int) by omega, popAt_ok (y := rf i) at1 (by rw [List.getElem?_map, hi]; rfl) (by rw [List.length_map]; omega), st1]
    show Mi.R.ok (rf i) (m ++ [.lst [.int a1, .int b1], .lst ((left.map rf).eraseIdx d.toNat), .lst (so.map rf)]) = _
    rw [map_erase]
    rfl
  have y1 : (nDrop (mMt (selB isL gAppend) (mVar 7) (mCons (mMt (selB isL gPopU) (mVar 6) (mCons (mCall 2 r__law_draw (mCons (mVar 5) (mCons (mCB gLenW (mCons (mVar 6) mNil)) mNil))) mNil)) mNil))) sl (m ++ IS a b left so) = .next sl (m ++ IS a1 b1 (left.eraseIdx d.toNat) (so ++ [i])) := by
    refine drop_ok (d := .non) ?_
    rw [mtv_ok (v7 _) (sel_lst at2) (one_ok x2), app_ok at2 (by rw [List.length_map]; omega), st2]
    show Mi.R.ok D.non (m ++ [.lst [.int a1, .int b1], .lst ((left.eraseIdx d.toNat).map rf), .lst (so.map rf ++ [rf i])]) = _
    have : so.map rf ++ [rf i] = (so ++ [i]).map rf := by rw [List.map_append]; rfl
    rw [this]
  obtain ⟨d2, a2, b2, e2, _, _, c2, c3⟩ := draw_ok (m := m ++ IS a1 b1 (left.eraseIdx d.toNat) (so ++ [i])) (n := m.length) (u := 3) at0 c0 c1 (by decide) (by decide)
  rw [st0] at e2
  have x3 : mTest (mBin (gOr gEq (gOr (gEqO (tabOf tl) 4 r_Record___eq__ false) (gSame false))) (mCall 2 r__law_draw (mCons (mVar 5) (mCons (mC (.int 3)) mNil))) (mC (.int 0))) sl (m ++ IS a1 b1 (left.eraseIdx d.toNat) (so ++ [i])) = .ok (d2 == 0) (m ++ IS a2 b2 (left.eraseIdx d.toNat) (so ++ [i])) := by
    refine test_ok ?_
    rw [bin_ok ((call_ok (n := 2) (cons_ok (v5 _) (one_ok rfl)) rfl).trans e2) rfl]
    rfl
  have k1 : Half (left.eraseIdx d.toNat) (so ++ [i]) := by
    refine ⟨fun j hj => Hf.ll j (List.mem_of_mem_eraseIdx hj), fun j hj => ?_, fun j hj => ?_⟩
    · rcases List.mem_append.mp hj with z | z
      · exact Hf.ls j z
      · rw [List.mem_singleton.mp z]
        exact i11
    · rcases Hf.all j hj with z | z
      · by_cases e : j = i
        · exact .inr (List.mem_append_right _ (by rw [e]; exact List.mem_cons_self))
        · refine .inl ?_
          obtain ⟨q, hq⟩ := List.getElem?_of_mem z
          have hne : q ≠ d.toNat := fun w => by
            rw [w, hi] at hq
            exact e (Option.some.inj hq).symm
          rw [List.mem_eraseIdx_iff_getElem?]
          exact ⟨q, hne, hq⟩
      · exact .inr (List.mem_append_left _ z)
  have l1 : (left.eraseIdx d.toNat).length + 1 = left.length := by
    rw [List.length_eraseIdx_of_lt hd]
    omega
  by_cases h3 : d2 = 0
  · obtain ⟨f0, hf0⟩ : ∃ f0, (so ++ [i])[0]? = some f0 := by
      cases so with
      | nil => exact ⟨i, rfl⟩
      | cons c so => exact ⟨c, rfl⟩
    have f11 := k1.ls f0 (List.mem_of_getElem? hf0)
    refine ⟨a2, b2, left.eraseIdx d.toNat, so ++ [i] ++ [f0], ?_, c2, c3, ⟨k1.ll, fun j hj => ?_, fun j hj => (k1.all j hj).imp id (List.mem_append_left _)⟩, l1, by simp, by simp⟩
    · have g0 : gIxU (.ref (m.length + 2)) (.int 0) (m ++ IS a2 b2 (left.eraseIdx d.toNat) (so ++ [i])) = .ok (rf f0) (m ++ IS a2 b2 (left.eraseIdx d.toNat) (so ++ [i])) := by
        refine ix_ref at2 ?_
        show (ixN ((so ++ [i]).map rf).length 0).bind (fun j => ((so ++ [i]).map rf)[j]?) = _
        rw [show ixN ((so ++ [i]).map rf).length 0 = some 0 by unfold ixN; rw [if_pos (by decide), if_pos (by rw [List.length_map, List.length_append]; simp)]; rfl, Option.bind_some, List.getElem?_map, hf0]
        rfl
      unfold inB
      rw [seq_n y1, if_t (by rw [x3, h3]; rfl)]
      refine drop_ok (d := .non) ?_
      rw [mtv_ok (v7 _) (sel_lst at2) (one_ok ((bin_ok (v7 _) rfl).trans g0)), app_ok at2 (by rw [List.length_map, List.length_append]; simp; omega), st2]
      show Mi.R.ok D.non (m ++ [.lst [.int a2, .int b2], .lst ((left.eraseIdx d.toNat).map rf), .lst ((so ++ [i]).map rf ++ [rf f0])]) = _
      have : (so ++ [i]).map rf ++ [rf f0] = (so ++ [i] ++ [f0]).map rf := by rw [List.map_append (l₂ := [f0])]; rfl
      rw [this]
    · rcases List.mem_append.mp hj with z | z
      · exact k1.ls j z
      · rw [List.mem_singleton.mp z]
        exact f11
  · refine ⟨a2, b2, left.eraseIdx d.toNat, so ++ [i], ?_, c2, c3, k1, l1, by simp, by simp⟩
    unfold inB
    rw [seq_n y1, if_f (by rw [x3, show (d2 == 0) = false by simpa using h3])]
    rfl
end K54
end
section
set_option Elab.async false
set_option linter.all false
set_option maxRecDepth 100000
set_option maxHeartbeats 4000000
set_option pp.maxSteps 2000
namespace K54
open PySem PySem.Spec PyProof.Rows L2 Mi MeO MeL
theorem inner_ok {m : Mem} (s0 s1 s2 s3 s4 s9 s10 s11 s12 s13 s14 s15 s16 : Option D) : ∀ (ds : List D) (left so : List Nat) (a b : Int) (s8 : Option D), left.length = ds.length → 0 ≤ b → b < 2147483647 → Half left so → so.length + 2 * left.length ≤ 100 → (left = [] → so ≠ []) →
    ∃ a' b' so' x8, forL (gSet 8) inB ds [s0, s1, s2, s3, s4, some (.ref m.length), some (.ref (m.length + 1)), some (.ref (m.length + 2)), s8, s9, s10, s11, s12, s13, s14, s15, s16] (m ++ IS a b left so) = .next [s0, s1, s2, s3, s4, some (.ref m.length), some (.ref (m.length + 1)), some (.ref (m.length + 2)), x8, s9, s10, s11, s12, s13, s14, s15, s16] (m ++ IS a' b' [] so') ∧ 0 ≤ b' ∧ b' < 2147483647 ∧ Half [] so' ∧ so'.length ≤ so.length + 2 * left.length ∧ so' ≠ []
  | [], left, so, a, b, s8, hl, hb, hb2, Hf, h1, h2 => by
    have hn : left = [] := List.length_eq_zero_iff.mp hl
    subst hn
    exact ⟨a, b, so, s8, rfl, hb, hb2, Hf, by omega, h2 rfl⟩
  | d :: ds, left, so, a, b, s8, hl, hb, hb2, Hf, h1, h2 => by
    have h0 : left ≠ [] := fun z => by
      rw [z] at hl
      cases hl
    obtain ⟨a1, b1, left1, so1, e, c0, c1, H1, l1, l2, l3⟩ := turn_ok hb hb2 Hf h0 (by omega) (by omega) s0 s1 s2 s3 s4 (some d) s9 s10 s11 s12 s13 s14 s15 s16 (m := m) (a := a)
    obtain ⟨a', b', so', x8, e2, r⟩ := inner_ok s0 s1 s2 s3 s4 s9 s10 s11 s12 s13 s14 s15 s16 ds left1 so1 a1 b1 (some d) (by rw [List.length_cons] at hl; omega) c0 c1 H1 (by omega) (fun _ => l3) (m := m)
    refine ⟨a', b', so', x8, ?_, r.1, r.2.1, r.2.2.1, by have := r.2.2.2.1; omega, r.2.2.2.2⟩
    rw [← e2]
    show (match inB [s0, s1, s2, s3, s4, some (.ref m.length), some (.ref (m.length + 1)), some (.ref (m.length + 2)), some d, s9, s10, s11, s12, s13, s14, s15, s16] (m ++ IS a b left so) with
      | .next sl2 m2 => forL (gSet 8) inB ds sl2 m2
      | .cont sl2 m2 => forL (gSet 8) inB ds sl2 m2
      | .brk sl2 m2 => .next sl2 m2
      | r => r) = _
    rw [e]
/-! the order is asked -/
theorem lc_marksJ (j : Nat) : ∀ (ks : List Nat) (acc : List D) (sl : Sl) (m : Mem), j < sl.length → acc.length + ks.length < 1000 → lcL (gSet j) mYes (mUn (gFld [4] "mark") (mVar j)) sl (ks.map recO) acc m = .ok (acc ++ ks.map markD) m
  | [], acc, sl, m, _, _ => by simp [lcL]
  | k :: ks, acc, sl, m, h5, hl => by
    have ih := lc_marksJ j ks (acc ++ [markD k]) sl m h5 (by rw [List.length_append]; simp at hl ⊢; omega)
    have hx : mUn (gFld [4] "mark") (mVar j) (sl.set j (some (recO k))) m = .ok (markD k) m := by
      unfold mUn mVar
      rw [List.getElem?_set_self h5]
      exact f_mark k m
    show ((mUn (gFld [4] "mark") (mVar j) (sl.set j (some (recO k))) m).quiet.bind fun y m2 => if acc.length < 50000 then lcL (gSet j) mYes (mUn (gFld [4] "mark") (mVar j)) sl (ks.map recO) (acc ++ [y]) m2 else .no) = _
    rw [hx]
    show (if acc.length < 50000 then lcL (gSet j) mYes (mUn (gFld [4] "mark") (mVar j)) sl (ks.map recO) (acc ++ [markD k]) m else .no) = _
    rw [if_pos (by omega), ih, List.append_assoc]
    rfl
theorem set_len (sl : Sl) (j : Nat) : (wipeSl sl [j]).length = sl.length := by
  show (sl.set j none).length = _
  rw [List.length_set]
theorem ask_ok {t : Mem} {sl : Sl} {a : Nat} {so : List Nat} (hl : sl.length = 17) (h1 : sl[1]? = some (some (.ref 0))) (h7 : sl[7]? = some (some (.ref a))) (ha : (M0 ++ t)[a]? = some (.lst (so.map rf))) (Hf : Half [] so) (h3 : so.length ≤ 60) :
    lendE 12 (mBin (gOr gNe (gOr (gEqO (tabOf tl) 4 r_Record___eq__ true) (gSame true))) (mLc (iU (mCall 2 r_records_in_order (mCons (mVar 1) (mCons (mVar 7) mNil)))) [10] (gSet 10) mYes (mUn (gFld [4] "mark") (mVar 10))) (mCall 0 r__law_due mNil)) sl (M0 ++ t) = .ok (.bl false) (M0 ++ t) := by
  have f1 : (slF (M0 ++ t) 12 sl)[1]? = some (some LV) := by
    unfold slF
    rw [List.getElem?_map, h1]
    show some (frz (M0 ++ t) 12 (.ref 0)) = _
    rw [frz_lv]
  have f7 : (slF (M0 ++ t) 12 sl)[7]? = some (some (.lst (so.map recO))) := by
    unfold slF
    rw [List.getElem?_map, h7]
    show some (frz (M0 ++ t) 12 (.ref a)) = _
    rw [frz_some ha Hf.ls]
  have fl : (slF (M0 ++ t) 12 sl).length = 17 := by
    unfold slF
    rw [List.length_map, hl]
  unfold lendE
  generalize slF (M0 ++ t) 12 sl = F at *
  have v1 : mVar 1 F [] = .ok LV [] := by
    unfold mVar
    rw [f1]
  have v7 : mVar 7 F [] = .ok (.lst (so.map recO)) [] := by
    unfold mVar
    rw [f7]
  have c1 : mCall 2 r_records_in_order (mCons (mVar 1) (mCons (mVar 7) mNil)) F [] = .ok (.lst (dueI.map recO)) [] := by
    rw [call_ok (n := 2) (cons_ok v1 (one_ok v7)) rfl]
    exact rio_ok Hf.ls h3 (fun j hj => (Hf.all j hj).elim (fun z => by cases z) id) []
  have c2 : mLc (iU (mCall 2 r_records_in_order (mCons (mVar 1) (mCons (mVar 7) mNil)))) [10] (gSet 10) mYes (mUn (gFld [4] "mark") (mVar 10)) F [] = .ok (.lst (dueI.map markD)) [] := by
    have i1 : iU (mCall 2 r_records_in_order (mCons (mVar 1) (mCons (mVar 7) mNil))) F [] = .ok (dueI.map recO) [] := by
      unfold iU iOr iL
      rw [c1]
      rfl
    unfold mLc
    rw [i1]
    show R.bind (lcL (gSet 10) mYes (mUn (gFld [4] "mark") (mVar 10)) (wipeSl F [10]) (dueI.map recO) [] []) _ = _
    rw [lc_marksJ 10 dueI [] (wipeSl F [10]) [] (by rw [set_len, fl]; decide) (by decide)]
    rfl
  have c3 : mCall 0 r__law_due mNil F [] = .ok (.lst (dueI.map markD)) [] := by
    show r__law_due [] [] = _
    kernel_rfl
  rw [bin_ok c2 c3]
  kernel_rfl
/-! the records alike -/
theorem fld_at {M : Mem} {n k : Nat} {fs : List (Str × D)} (h : M[n]? = some (.ins k fs)) (ks : List Nat) (hk : ks.contains k = true) (f : Str) : gFld ks f (.ref n) M = look f fs M := by
  have e : insOf M (.ref n) = some (k, fs) := by
    unfold insOf
    dsimp only
    rw [h]
  unfold gFld
  rw [e]
  dsimp only
  rw [hk]
  rfl
theorem st_at {M : Mem} {n : Nat} {fs : List (Str × D)} (h : M[n]? = some (.ins 4 fs)) (hl : fs.length < 1000) (f : Str) (d : D) : stF [4] f (.ref n) d M = some (M.set n (.ins 4 (putD f d fs))) := by
  unfold stF
  dsimp only
  rw [h]
  dsimp only
  rw [show ([4].contains 4 && Nat.blt fs.length 1000) = true by rw [show Nat.blt fs.length 1000 = true by simpa [Nat.blt_eq] using hl]; rfl]
  rfl
theorem fldS_ok {f : Str} {o v : ME} {sl : Sl} {m m1 m2 : Mem} {d q : D} {r : Mem} (hv : v sl m = .ok d m1) (ho : o sl m1 = .ok q m2) (hs : stF [4] f q d m2 = some r) : nFld [4] f o v sl m = .next sl r := by
  unfold nFld
  rw [hv]
  show (o sl m1).seq sl _ = _
  rw [ho]
  show (match stF [4] f q d m2 with
    | some m3 => RS.next sl m3
    | none => .no) = _
  rw [hs]
abbrev keyT (d1 d2 d3 d4 d5 : D) : D := .tup [d1, d2, d3, d4, d5]
abbrev insR (d1 d2 d3 d4 d5 : D) : MO := .ins 4 [("mark", d1), ("stamp", d2), ("after", d3), ("act", d4), ("first", d5), ("key", keyT d1 d2 d3 d4 d5)]
theorem init_ok (m : Mem) (d1 d2 d3 d4 d5 : D) : r_Record___init__ [.ref m.length, d1, d2, d3, d4, d5] (m ++ [.ins 4 []]) = .ok .non (m ++ [insR d1 d2 d3 d4 d5]) := by
  have st : slStart ["self", "mark", "stamp", "after", "act", "first"] [.ref m.length, d1, d2, d3, d4, d5] = [some (.ref m.length), some d1, some d2, some d3, some d4, some d5] := rfl
  have stp : ∀ (fs : List (Str × D)) (f : Str) (v : ME) (d : D), fs.length < 1000 → v [some (.ref m.length), some d1, some d2, some d3, some d4, some d5] (m ++ [.ins 4 fs]) = .ok d (m ++ [.ins 4 fs]) → nFld [4] f (mVar 0) v [some (.ref m.length), some d1, some d2, some d3, some d4, some d5] (m ++ [.ins 4 fs]) = .next [some (.ref m.length), some d1, some d2, some d3, some d4, some d5] (m ++ [.ins 4 (putD f d fs)]) := fun fs f v d hl hv => by
    refine fldS_ok hv rfl ?_
    rw [st_at at0 hl, st0]
  unfold r_Record___init__ mDef
  have t1 : nFld [4] "mark" (mVar 0) (mVar 1) [some (.ref m.length), some d1, some d2, some d3, some d4, some d5] (m ++ [.ins 4 []]) = .next [some (.ref m.length), some d1, some d2, some d3, some d4, some d5] (m ++ [.ins 4 [("mark", d1)]]) := (stp [] "mark" (mVar 1) d1 (by simp) rfl).trans (by kernel_rfl)
  have t2 : nFld [4] "stamp" (mVar 0) (mVar 2) [some (.ref m.length), some d1, some d2, some d3, some d4, some d5] (m ++ [.ins 4 [("mark", d1)]]) = .next [some (.ref m.length), some d1, some d2, some d3, some d4, some d5] (m ++ [.ins 4 [("mark", d1), ("stamp", d2)]]) := (stp [("mark", d1)] "stamp" (mVar 2) d2 (by simp) rfl).trans (by kernel_rfl)
  have t3 : nFld [4] "after" (mVar 0) (mVar 3) [some (.ref m.length), some d1, some d2, some d3, some d4, some d5] (m ++ [.ins 4 [("mark", d1), ("stamp", d2)]]) = .next [some (.ref m.length), some d1, some d2, some d3, some d4, some d5] (m ++ [.ins 4 [("mark", d1), ("stamp", d2), ("after", d3)]]) := (stp [("mark", d1), ("stamp", d2)] "after" (mVar 3) d3 (by simp) rfl).trans (by kernel_rfl)
  have t4 : nFld [4] "act" (mVar 0) (mVar 4) [some (.ref m.length), some d1, some d2, some d3, some d4, some d5] (m ++ [.ins 4 [("mark", d1), ("stamp", d2), ("after", d3)]]) = .next [some (.ref m.length), some d1, some d2, some d3, some d4, some d5] (m ++ [.ins 4 [("mark", d1), ("stamp", d2), ("after", d3), ("act", d4)]]) := (stp [("mark", d1), ("stamp", d2), ("after", d3)] "act" (mVar 4) d4 (by simp) rfl).trans (by kernel_rfl)
  have t5 : nFld [4] "first" (mVar 0) (mVar 5) [some (.ref m.length), some d1, some d2, some d3, some d4, some d5] (m ++ [.ins 4 [("mark", d1), ("stamp", d2), ("after", d3), ("act", d4)]]) = .next [some (.ref m.length), some d1, some d2, some d3, some d4, some d5] (m ++ [.ins 4 [("mark", d1), ("stamp", d2), ("after", d3), ("act", d4), ("first", d5)]]) := (stp [("mark", d1), ("stamp", d2), ("after", d3), ("act", d4)] "first" (mVar 5) d5 (by simp) rfl).trans (by kernel_rfl)
  have t6 : nFld [4] "key" (mVar 0) (mTup (mCons (mVar 1) (mCons (mVar 2) (mCons (mVar 3) (mCons (mVar 4) (mCons (mVar 5) mNil)))))) [some (.ref m.length), some d1, some d2, some d3, some d4, some d5] (m ++ [.ins 4 [("mark", d1), ("stamp", d2), ("after", d3), ("act", d4), ("first", d5)]]) = .next [some (.ref m.length), some d1, some d2, some d3, some d4, some d5] (m ++ [insR d1 d2 d3 d4 d5]) := (stp [("mark", d1), ("stamp", d2), ("after", d3), ("act", d4), ("first", d5)] "key" _ (keyT d1 d2 d3 d4 d5) (by simp) rfl).trans (by kernel_rfl)
  rw [st, seq_n t1, seq_n t2, seq_n t3, seq_n t4, seq_n t5, t6]
  rfl
theorem make_ok {r : MA} {sl : Sl} {m m1 : Mem} {d1 d2 d3 d4 d5 : D} (h : r sl m = .ok [d1, d2, d3, d4, d5] m1) : mMake 4 6 r_Record___init__ r sl m = .ok (.ref m1.length) (m1 ++ [insR d1 d2 d3 d4 d5]) := by
  unfold mMake
  rw [h]
  show (R.bind (r_Record___init__ [.ref m1.length, d1, d2, d3, d4, d5] (m1 ++ [.ins 4 []])) _) = _
  rw [init_ok]
  rfl
theorem eqO_ok {M : Mem} {x y : Nat} {F1 F2 : List (Str × D)} {k1 k2 : D} {p q : PyData} (hx : M[x]? = some (.ins 4 F1)) (hy : M[y]? = some (.ins 4 F2)) (h1 : F1.lookup ("key" : Str) = some k1) (h2 : F2.lookup ("key" : Str) = some k2) (e1 : shp k1 = some p) (e2 : shp k2 = some q) (neg : Bool) :
    gEqO (tabOf tl) 4 r_Record___eq__ neg (.ref x) (.ref y) M = .ok (.bl (neg != PyData.eqv p q)) M := by
  have i1 : insOf M (.ref x) = some (4, F1) := by
    unfold insOf
    dsimp only
    rw [hx]
  have t2 : tyOfD M (.ref y) = some (.own 4) := by
    unfold tyOfD
    dsimp only
    rw [hy]
  have f1 : gFld [4] "key" (.ref x) M = .ok k1 M := by
    rw [fld_at hx [4] rfl]
    unfold look
    rw [h1]
  have f2 : gFld [4] "key" (.ref y) M = .ok k2 M := by
    rw [fld_at hy [4] rfl]
    unfold look
    rw [h2]
  have ge : gEq k1 k2 M = .ok (.bl (PyData.eqv p q)) M := by
    unfold gEq
    rw [e1, e2]
  have r1 : r_Record___eq__ [.ref x, .ref y] M = .ok (.bl (PyData.eqv p q)) M := by
    unfold r_Record___eq__ mDef
    have st : slStart ["self", "other"] [.ref x, .ref y] = [some (.ref x), some (.ref y)] := rfl
    have a1 : mCB (gIsU (tabOf tl)) (mCons (mVar 1) (mCons (mC (.cls 4)) mNil)) [some (.ref x), some (.ref y)] M = .ok (.bl true) M := by
      show gIsU (tabOf tl) [.ref y, .cls 4] M = _
      unfold gIsU
      dsimp only
      rw [t2]
      rfl
    have a2 : mBin gEq (mUn (gFld [4] "key") (mVar 0)) (mUn (gFld [4] "key") (mVar 1)) [some (.ref x), some (.ref y)] M = .ok (.bl (PyData.eqv p q)) M := by
      rw [bin_ok (m1 := M) (m2 := M) (d := k1) (e := k2) f1 f2, ge]
    rw [st]
    unfold nRet mAndV
    rw [a1]
    show RS.back ((mBin gEq (mUn (gFld [4] "key") (mVar 0)) (mUn (gFld [4] "key") (mVar 1)) [some (.ref x), some (.ref y)] M).seq _ _) = _
    rw [a2]
    rfl
  unfold gEqO
  rw [i1]
  dsimp only
  rw [t2]
  show (match tabOf tl (.own 4) (.own 4) with
    | some _ => (r_Record___eq__ [.ref x, .ref y] M).quiet.bind fun d m1 => match d with
      | .bl r => R.ok (D.bl (neg != r)) m1
      | _ => .no
    | none => .no) = _
  rw [r1]
  rfl
theorem ne_refs {M : Mem} {x y : Nat} (g : D → D → Mem → Mi.R D) : gOr gNe g (.ref x) (.ref y) M = g (.ref x) (.ref y) M := rfl
theorem eq_refs {M : Mem} {x y : Nat} (g : D → D → Mem → Mi.R D) : gOr gEq g (.ref x) (.ref y) M = g (.ref x) (.ref y) M := rfl
theorem or_ok {g k : D → D → Mem → Mi.R D} {a b d : D} {M M1 : Mem} (h : g a b M = .ok d M1) : gOr g k a b M = .ok d M1 := by
  unfold gOr
  rw [h]
theorem eq_tup {M : Mem} {x : Nat} {F1 : List (Str × D)} {ds : List D} (hx : M[x]? = some (.ins 4 F1)) : gOr gEq (gOr (gEqO (tabOf tl) 4 r_Record___eq__ false) (gSame false)) (.ref x) (.tup ds) M = .ok (.bl false) M := by
  have i1 : insOf M (.ref x) = some (4, F1) := by
    unfold insOf
    dsimp only
    rw [hx]
  have e0 : gEq (.ref x) (.tup ds) M = .no := by
    unfold gEq
    rw [show shp (.ref x) = none from rfl]
  have e1 : gEqO (tabOf tl) 4 r_Record___eq__ false (.ref x) (.tup ds) M = .ok (.bl false) M := by
    unfold gEqO
    rw [i1]
    rfl
  unfold gOr
  rw [e0]
  dsimp only
  rw [e1]
theorem ne_same {M : Mem} {x y : Nat} {so : List Nat} (hx : M[x]? = some (.lst (so.map rf))) (hy : M[y]? = some (.lst (so.map rf))) : gOr gNe (gOr (gEqO (tabOf tl) 4 r_Record___eq__ true) (gSame true)) (.ref x) (.ref y) M = .ok (.bl false) M := by
  rw [ne_refs]
  have i1 : insOf M (.ref x) = none := by
    unfold insOf
    dsimp only
    rw [hx]
  have e1 : gEqO (tabOf tl) 4 r_Record___eq__ true (.ref x) (.ref y) M = .no := by
    unfold gEqO
    rw [i1]
  have l1 : Mi.listOf M (.ref x) = some (so.map rf) := by
    unfold Mi.listOf
    dsimp only
    rw [hx]
  have l2 : Mi.listOf M (.ref y) = some (so.map rf) := by
    unfold Mi.listOf
    dsimp only
    rw [hy]
  have sm : ∀ so : List Nat, sameR (so.map rf) (so.map rf) = true := fun so => by
    induction so with
    | nil => rfl
    | cons i so ih =>
      show (Nat.beq (7 + i) (7 + i) && sameR (so.map rf) (so.map rf)) = true
      rw [ih, Nat.beq_refl]
      rfl
  unfold gOr
  rw [e1]
  dsimp only
  unfold gSame
  rw [l1, l2]
  dsimp only
  rw [sm]
  rfl
end K54
end
section
set_option Elab.async false
set_option linter.all false
set_option maxRecDepth 100000
set_option maxHeartbeats 4000000
set_option pp.maxSteps 2000
namespace K54
open PySem PySem.Spec PyProof.Rows L2 Mi MeO MeL
abbrev kD (i : Nat) : D := keyT (markD i) (.int (row i).2.2.2.1) (markO (aft i)) (.tup [.str "undo"]) .non
abbrev kD2 (i : Nat) : D := keyT (markD i) (.int ((row i).2.2.2.1 + 1)) (markO (aft i)) (.tup [.str "undo"]) .non
abbrev kD3 (i : Nat) : D := keyT (markD i) (.int (row i).2.2.2.1) (markO (aft i)) (.tup [.str "redo"]) .non
def mkP (i : Nat) : PyData := .tuple [.str (row i).1, .str (row i).2.1, .int (row i).2.2.1]
def moP : Option Nat → PyData
  | some i => mkP i
  | none => .none
abbrev kP (i : Nat) : PyData := .tuple [mkP i, .int (row i).2.2.2.1, moP (aft i), .tuple [.str "undo"], .none]
abbrev kP2 (i : Nat) : PyData := .tuple [mkP i, .int ((row i).2.2.2.1 + 1), moP (aft i), .tuple [.str "undo"], .none]
abbrev kP3 (i : Nat) : PyData := .tuple [mkP i, .int (row i).2.2.2.1, moP (aft i), .tuple [.str "redo"], .none]
theorem k_shp : ∀ i, i < 11 → shp (kD i) = some (kP i) ∧ shp (kD2 i) = some (kP2 i) ∧ shp (kD3 i) = some (kP3 i) ∧ PyData.eqv (kP i) (kP i) = true ∧ PyData.eqv (kP i) (kP2 i) = false ∧ PyData.eqv (kP i) (kP3 i) = false :=
  all11 (P := fun i => shp (kD i) = some (kP i) ∧ shp (kD2 i) = some (kP2 i) ∧ shp (kD3 i) = some (kP3 i) ∧ PyData.eqv (kP i) (kP i) = true ∧ PyData.eqv (kP i) (kP2 i) = false ∧ PyData.eqv (kP i) (kP3 i) = false) ⟨⟨by kernel_rfl, by kernel_rfl, by kernel_rfl, by decide +kernel, by decide +kernel, by decide +kernel⟩, ⟨by kernel_rfl, by kernel_rfl, by kernel_rfl, by decide +kernel, by decide +kernel, by decide +kernel⟩, ⟨by kernel_rfl, by kernel_rfl, by kernel_rfl, by decide +kernel, by decide +kernel, by decide +kernel⟩, ⟨by kernel_rfl, by kernel_rfl, by kernel_rfl, by decide +kernel, by decide +kernel, by decide +kernel⟩, ⟨by kernel_rfl, by kernel_rfl, by kernel_rfl, by decide +kernel, by decide +kernel, by decide +kernel⟩, ⟨by kernel_rfl, by kernel_rfl, by kernel_rfl, by decide +kernel, by decide +kernel, by decide +kernel⟩, ⟨by kernel_rfl, by kernel_rfl, by kernel_rfl, by decide +kernel, by decide +kernel, by decide +kernel⟩, ⟨by kernel_rfl, by kernel_rfl, by kernel_rfl, by decide +kernel, by decide +kernel, by decide +kernel⟩, ⟨by kernel_rfl, by kernel_rfl, by kernel_rfl, by decide +kernel, by decide +kernel, by decide +kernel⟩, ⟨by kernel_rfl, by kernel_rfl, by kernel_rfl, by decide +kernel, by decide +kernel, by decide +kernel⟩, ⟨by kernel_rfl, by kernel_rfl, by kernel_rfl, by decide +kernel, by decide +kernel, by decide +kernel⟩⟩
theorem key_rec (i : Nat) : (recF i).lookup ("key" : Str) = some (kD i) := by kernel_rfl
theorem key_ins (d1 d2 d3 d4 d5 : D) : ([("mark", d1), ("stamp", d2), ("after", d3), ("act", d4), ("first", d5), ("key", keyT d1 d2 d3 d4 d5)] : List (Str × D)).lookup ("key" : Str) = some (keyT d1 d2 d3 d4 d5) := by kernel_rfl
theorem look_rec (i : Nat) (M : Mem) : look "mark" (recF i) M = .ok (markD i) M ∧ look "stamp" (recF i) M = .ok (.int (row i).2.2.2.1) M ∧ look "after" (recF i) M = .ok (markO (aft i)) M ∧ look "act" (recF i) M = .ok (.tup [.str "undo"]) M ∧ look "first" (recF i) M = .ok .non M := ⟨by kernel_rfl, by kernel_rfl, by kernel_rfl, by kernel_rfl, by kernel_rfl⟩
theorem un_ok {g : D → Mem → Mi.R D} {x : ME} {sl : Sl} {m m1 : Mem} {d : D} (h : x sl m = .ok d m1) : mUn g x sl m = g d m1 := by
  unfold mUn
  rw [h]
  rfl
theorem round_ok {ns : List Int} {k : Int} (hk : 0 ≤ k) (hk2 : k < 100) (hn : ns.length ≤ 63) (t : Mem) (s2 s5 s6 s7 s8 s9 s10 s11 s12 s13 s14 s15 s16 : Option D) :
    ∃ t' x5 x6 x7 x8 x9 x10 x11 x12 x13, rdB [some (.scr (ns.map .int)), some (.ref 0), s2, some (.lst RR), some (.int k), s5, s6, s7, s8, s9, s10, s11, s12, s13, s14, s15, s16] (M0 ++ t) = .next [some (.scr (ns.map .int)), some (.ref 0), s2, some (.lst RR), some (.int k), x5, x6, x7, x8, x9, x10, x11, x12, x13, s14, s15, s16] (M0 ++ t') := by
  generalize hS : some (D.scr (ns.map .int)) = S
  generalize hm : M0 ++ t = m
  obtain ⟨a, b, e0, hb, hb2⟩ := draws_ok (m := m) hk hk2 hn
  -- draws
  have b0 : (nAsg 5 (mCall 2 r__law_draws (mCons (mVar 0) (mCons (mVar 4) mNil)))) [S, some (.ref 0), s2, some (.lst RR), some (.int k), s5, s6, s7, s8, s9, s10, s11, s12, s13, s14, s15, s16] m = .next [S, some (.ref 0), s2, some (.lst RR), some (.int k), some (.ref m.length), s6, s7, s8, s9, s10, s11, s12, s13, s14, s15, s16] (m ++ [.lst [.int a, .int b]]) := by
    have v0 : mVar 0 [S, some (.ref 0), s2, some (.lst RR), some (.int k), s5, s6, s7, s8, s9, s10, s11, s12, s13, s14, s15, s16] m = .ok (.scr (ns.map .int)) m := by rw [← hS]; rfl
    exact asg_ok ((call_ok (n := 2) (cons_ok v0 (one_ok rfl)) rfl).trans e0)
  have b1 : (nPar 6 7 (mCons (mCB gListN (mCons (mVar 3) mNil)) (mCons (mLstN mNil) mNil))) [S, some (.ref 0), s2, some (.lst RR), some (.int k), some (.ref m.length), s6, s7, s8, s9, s10, s11, s12, s13, s14, s15, s16] (m ++ [.lst [.int a, .int b]]) = .next [S, some (.ref 0), s2, some (.lst RR), some (.int k), some (.ref m.length), some (.ref (m.length + 1)), some (.ref (m.length + 2)), s8, s9, s10, s11, s12, s13, s14, s15, s16] (m ++ IS a b (List.range 11) []) := by
    have z : (nPar 6 7 (mCons (mCB gListN (mCons (mVar 3) mNil)) (mCons (mLstN mNil) mNil))) [S, some (.ref 0), s2, some (.lst RR), some (.int k), some (.ref m.length), s6, s7, s8, s9, s10, s11, s12, s13, s14, s15, s16] (m ++ [.lst [.int a, .int b]]) = .next [S, some (.ref 0), s2, some (.lst RR), some (.int k), some (.ref m.length), some (.ref (m ++ [MO.lst [.int a, .int b]]).length), some (.ref ((m ++ [MO.lst [.int a, .int b]]) ++ [MO.lst RR]).length), s8, s9, s10, s11, s12, s13, s14, s15, s16] (((m ++ [.lst [.int a, .int b]]) ++ [.lst RR]) ++ [.lst []]) := rfl
    rw [z, List.length_append, List.length_append, List.length_append, List.append_assoc, List.append_assoc]
    rfl
  have H0 : Half (List.range 11) [] := ⟨fun j hj => List.mem_range.mp hj, fun j hj => (nomatch hj), fun j hj => .inl (List.mem_range.mpr hj)⟩
  obtain ⟨a1, b1', so, x8, e1, c0, c1, H1, l1, l2⟩ := inner_ok S (some (.ref 0)) s2 (some (.lst RR)) (some (.int k)) s9 s10 s11 s12 s13 s14 s15 s16 (rngD 11) (List.range 11) [] a b s8 rfl hb hb2 H0 (by decide) (fun z => by cases z) (m := m)
  have l3 : so.length ≤ 60 := by
    rw [List.length_range] at l1
    simp at l1
    omega
  have b2 : (nFor (iR (mCons (mCB gLenW (mCons (mVar 3) mNil)) mNil)) (gSet 8) (nSeq (nDrop (mMt (selB isL gAppend) (mVar 7) (mCons (mMt (selB isL gPopU) (mVar 6) (mCons (mCall 2 r__law_draw (mCons (mVar 5) (mCons (mCB gLenW (mCons (mVar 6) mNil)) mNil))) mNil)) mNil))) (nIf (mTest (mBin (gOr gEq (gOr (gEqO (tabOf tl) 4 r_Record___eq__ false) (gSame false))) (mCall 2 r__law_draw (mCons (mVar 5) (mCons (mC (.int 3)) mNil))) (mC (.int 0)))) (nDrop (mMt (selB isL gAppend) (mVar 7) (mCons (mBin gIxU (mVar 7) (mC (.int 0))) mNil))) nNil))) [S, some (.ref 0), s2, some (.lst RR), some (.int k), some (.ref m.length), some (.ref (m.length + 1)), some (.ref (m.length + 2)), s8, s9, s10, s11, s12, s13, s14, s15, s16] (m ++ IS a b (List.range 11) []) = .next [S, some (.ref 0), s2, some (.lst RR), some (.int k), some (.ref m.length), some (.ref (m.length + 1)), some (.ref (m.length + 2)), x8, s9, s10, s11, s12, s13, s14, s15, s16] (m ++ IS a1 b1' [] so) := e1
  -- saved
  have b3 : (nAsg 9 (mCB gListN (mCons (mVar 7) mNil))) [S, some (.ref 0), s2, some (.lst RR), some (.int k), some (.ref m.length), some (.ref (m.length + 1)), some (.ref (m.length + 2)), x8, s9, s10, s11, s12, s13, s14, s15, s16] (m ++ IS a1 b1' [] so) = .next [S, some (.ref 0), s2, some (.lst RR), some (.int k), some (.ref m.length), some (.ref (m.length + 1)), some (.ref (m.length + 2)), x8, some (.ref (m.length + 3)), s10, s11, s12, s13, s14, s15, s16] (m ++ [.lst [.int a1, .int b1'], .lst [], .lst (so.map rf), .lst (so.map rf)]) := by
    have g : gListN [.ref (m.length + 2)] (m ++ IS a1 b1' [] so) = .ok (.ref (m.length + 3)) (m ++ [.lst [.int a1, .int b1'], .lst [], .lst (so.map rf), .lst (so.map rf)]) := by
      have i1 : itemsOf (m ++ IS a1 b1' [] so) (.ref (m.length + 2)) = some (so.map rf) := by
        unfold itemsOf
        dsimp only
        rw [at2]
      unfold gListN
      dsimp only
      rw [i1]
      show Mi.R.ok (D.ref (m ++ IS a1 b1' [] so).length) _ = _
      rw [List.length_append, List.append_assoc]
      rfl
    exact asg_ok ((cb_ok (one_ok rfl)).trans g)
  generalize hsl : [S, some (D.ref 0), s2, some (D.lst RR), some (D.int k), some (.ref m.length), some (.ref (m.length + 1)), some (.ref (m.length + 2)), x8, some (.ref (m.length + 3)), s10, s11, s12, s13, s14, s15, s16] = sl at b3
  have M2e : m ++ [.lst [.int a1, .int b1'], .lst [], .lst (so.map rf), .lst (so.map rf)] = M0 ++ (t ++ [.lst [.int a1, .int b1'], .lst [], .lst (so.map rf), .lst (so.map rf)]) := by rw [← hm, List.append_assoc]
  -- the order
  have b4 : (nIf (mOr (mTest (lendE 12 (mBin (gOr gNe (gOr (gEqO (tabOf tl) 4 r_Record___eq__ true) (gSame true))) (mLc (iU (mCall 2 r_records_in_order (mCons (mVar 1) (mCons (mVar 7) mNil)))) [10] (gSet 10) mYes (mUn (gFld [4] "mark") (mVar 10))) (mCall 0 r__law_due mNil)))) (mTest (mBin (gOr gNe (gOr (gEqO (tabOf tl) 4 r_Record___eq__ true) (gSame true))) (mVar 7) (mVar 9)))) (nRet (mC (.bl false))) nNil) sl (m ++ [.lst [.int a1, .int b1'], .lst [], .lst (so.map rf), .lst (so.map rf)]) = .next sl (m ++ [.lst [.int a1, .int b1'], .lst [], .lst (so.map rf), .lst (so.map rf)]) := by
    have q1 := ask_ok (t := t ++ [.lst [.int a1, .int b1'], .lst [], .lst (so.map rf), .lst (so.map rf)]) (sl := sl) (a := m.length + 2) (so := so) (by rw [← hsl]; rfl) (by rw [← hsl]; rfl) (by rw [← hsl]; rfl) (by rw [← M2e]; exact at2) H1 l3
    rw [← M2e] at q1
    have v7 : ∀ M, mVar 7 sl M = .ok (.ref (m.length + 2)) M := fun M => by rw [← hsl]; rfl
    have v9 : ∀ M, mVar 9 sl M = .ok (.ref (m.length + 3)) M := fun M => by rw [← hsl]; rfl
    have q2 : mBin (gOr gNe (gOr (gEqO (tabOf tl) 4 r_Record___eq__ true) (gSame true))) (mVar 7) (mVar 9) sl (m ++ [.lst [.int a1, .int b1'], .lst [], .lst (so.map rf), .lst (so.map rf)]) = .ok (.bl false) (m ++ [.lst [.int a1, .int b1'], .lst [], .lst (so.map rf), .lst (so.map rf)]) := by
      rw [bin_ok (v7 _) (v9 _)]
      exact ne_same at2 (by simp)
    rw [if_f (or_ff (test_ok q1) (test_ok q2))]
    rfl
  -- one of them
  have sp : 0 < so.length := List.length_pos_iff.mpr l2
  obtain ⟨d, a2, b2', e2, d0, d1, c2, c3⟩ := draw_ok (m := m ++ [.lst [.int a1, .int b1'], .lst [], .lst (so.map rf), .lst (so.map rf)]) (n := m.length) (u := so.length) at0 c0 c1 (by omega) (by omega)
  rw [st0] at e2
  have hd : d.toNat < so.length := by omega
  obtain ⟨i, hi⟩ : ∃ i, so[d.toNat]? = some i := ⟨so[d.toNat], List.getElem?_eq_getElem hd⟩
  have i11 : i < 11 := H1.ls i (List.mem_of_getElem? hi)
  generalize hM3 : m ++ [.lst [.int a2, .int b2'], .lst [], .lst (so.map rf), .lst (so.map rf)] = M3 at e2
  have M3e : M3 = M0 ++ (t ++ [.lst [.int a2, .int b2'], .lst [], .lst (so.map rf), .lst (so.map rf)]) := by rw [← hM3, ← hm, List.append_assoc]
  have ins3 : ∀ r : Mem, (M3 ++ r)[7 + i]? = some (.ins 4 (recF i)) := fun r => by
    rw [M3e, List.append_assoc]
    exact ins_rf _ i11
  have b5 : (nAsg 10 (mBin gIxU (mVar 7) (mCall 2 r__law_draw (mCons (mVar 5) (mCons (mCB gLenW (mCons (mVar 7) mNil)) mNil))))) sl (m ++ [.lst [.int a1, .int b1'], .lst [], .lst (so.map rf), .lst (so.map rf)]) = .next (sl.set 10 (some (rf i))) M3 := by
    have v5 : ∀ M, mVar 5 sl M = .ok (.ref m.length) M := fun M => by rw [← hsl]; rfl
    have v7 : ∀ M, mVar 7 sl M = .ok (.ref (m.length + 2)) M := fun M => by rw [← hsl]; rfl
    have lenE : gLenW [.ref (m.length + 2)] (m ++ [.lst [.int a1, .int b1'], .lst [], .lst (so.map rf), .lst (so.map rf)]) = .ok (.int so.length) (m ++ [.lst [.int a1, .int b1'], .lst [], .lst (so.map rf), .lst (so.map rf)]) := by
      show gLenM [.ref (m.length + 2)] _ = _
      unfold gLenM Mi.listOf
      dsimp only
      rw [at2]
      show Mi.R.ok (D.int (so.map rf).length) _ = _
      rw [List.length_map]
    have ix : gIxU (.ref (m.length + 2)) (.int d) M3 = .ok (rf i) M3 := by
      rw [← hM3]
      refine ix_ref at2 ?_
      show (ixN (so.map rf).length d).bind (fun j => (so.map rf)[j]?) = _
      rw [show ixN (so.map rf).length d = some d.toNat by unfold ixN; rw [List.length_map, if_pos d0, if_pos d1], Option.bind_some, List.getElem?_map, hi]
      rfl
    exact asg_ok ((bin_ok (v7 _) ((call_ok (n := 2) (cons_ok (v5 _) (one_ok ((cb_ok (one_ok (v7 _))).trans lenE))) rfl).trans e2)).trans ix)
  have s10e : sl.set 10 (some (rf i)) = [S, some (D.ref 0), s2, some (D.lst RR), some (D.int k), some (.ref m.length), some (.ref (m.length + 1)), some (.ref (m.length + 2)), x8, some (.ref (m.length + 3)), some (rf i), s11, s12, s13, s14, s15, s16] := by rw [← hsl]; rfl
  rw [s10e] at b5
  -- its parts
  have ins0 : M3[7 + i]? = some (.ins 4 (recF i)) := by simpa using ins3 []
  have fl : ∀ f, gFld [4] f (rf i) M3 = look f (recF i) M3 := fun f => fld_at ins0 [4] rfl f
  obtain ⟨f1, f2, f3, f4, f5⟩ := look_rec i M3
  have b6 : (nAsg 11 (mLst (mCons (mUn (gFld [4] "mark") (mVar 10)) (mCons (mUn (gFld [4] "stamp") (mVar 10)) (mCons (mUn (gFld [4] "after") (mVar 10)) (mCons (mUn (gFld [4] "act") (mVar 10)) (mCons (mUn (gFld [4] "first") (mVar 10)) mNil))))))) [S, some (D.ref 0), s2, some (D.lst RR), some (D.int k), some (.ref m.length), some (.ref (m.length + 1)), some (.ref (m.length + 2)), x8, some (.ref (m.length + 3)), some (rf i), s11, s12, s13, s14, s15, s16] M3 = .next [S, some (D.ref 0), s2, some (D.lst RR), some (D.int k), some (.ref m.length), some (.ref (m.length + 1)), some (.ref (m.length + 2)), x8, some (.ref (m.length + 3)), some (rf i), some (.lst [markD i, .int (row i).2.2.2.1, markO (aft i), .tup [.str "undo"], .non]), s12, s13, s14, s15, s16] M3 := by
    refine asg_ok ?_
    have g := fun f => un_ok (g := gFld [4] f) (x := mVar 10) (sl := [S, some (D.ref 0), s2, some (D.lst RR), some (D.int k), some (.ref m.length), some (.ref (m.length + 1)), some (.ref (m.length + 2)), x8, some (.ref (m.length + 3)), some (rf i), s11, s12, s13, s14, s15, s16]) (m := M3) (m1 := M3) (d := rf i) rfl
    unfold mLst
    rw [cons_ok ((g _).trans ((fl _).trans f1)) (cons_ok ((g _).trans ((fl _).trans f2)) (cons_ok ((g _).trans ((fl _).trans f3)) (cons_ok ((g _).trans ((fl _).trans f4)) (one_ok ((g _).trans ((fl _).trans f5))))))]
    rfl
  generalize hP : D.lst [markD i, .int (row i).2.2.2.1, markO (aft i), .tup [.str "undo"], .non] = P at b6
  have pt : ∀ (M : Mem), gIxU P (.int 0) M = .ok (markD i) M ∧ gIxU P (.int 1) M = .ok (.int (row i).2.2.2.1) M ∧ gIxU P (.int 2) M = .ok (markO (aft i)) M ∧ gIxU P (.int 3) M = .ok (.tup [.str "undo"]) M ∧ gIxU P (.int 4) M = .ok .non M := fun M => by
    rw [← hP]
    exact ⟨by kernel_rfl, by kernel_rfl, by kernel_rfl, by kernel_rfl, by kernel_rfl⟩
  have b7 : (nAsg 12 (mMake 4 6 r_Record___init__ (mCons (mBin gIxU (mVar 11) (mC (.int 0))) (mCons (mBin gIxU (mVar 11) (mC (.int 1))) (mCons (mBin gIxU (mVar 11) (mC (.int 2))) (mCons (mBin gIxU (mVar 11) (mC (.int 3))) (mCons (mBin gIxU (mVar 11) (mC (.int 4))) mNil))))))) [S, some (D.ref 0), s2, some (D.lst RR), some (D.int k), some (.ref m.length), some (.ref (m.length + 1)), some (.ref (m.length + 2)), x8, some (.ref (m.length + 3)), some (rf i), some P, s12, s13, s14, s15, s16] M3 = .next [S, some (D.ref 0), s2, some (D.lst RR), some (D.int k), some (.ref m.length), some (.ref (m.length + 1)), some (.ref (m.length + 2)), x8, some (.ref (m.length + 3)), some (rf i), some P, some (.ref M3.length), s13, s14, s15, s16] (M3 ++ [insR (markD i) (.int (row i).2.2.2.1) (markO (aft i)) (.tup [.str "undo"]) .non]) := by
    obtain ⟨p0, p1, p2, p3, p4⟩ := pt M3
    refine asg_ok (make_ok ?_)
    exact cons_ok ((bin_ok rfl rfl).trans p0) (cons_ok ((bin_ok rfl rfl).trans p1) (cons_ok ((bin_ok rfl rfl).trans p2) (cons_ok ((bin_ok rfl rfl).trans p3) (one_ok ((bin_ok rfl rfl).trans p4)))))
  generalize hM4 : M3 ++ [insR (markD i) (.int (row i).2.2.2.1) (markO (aft i)) (.tup [.str "undo"]) .non] = M4 at b7
  have M4l : M4.length = M3.length + 1 := by rw [← hM4, List.length_append]; rfl
  have b8 : (nAsg 13 (mMake 4 6 r_Record___init__ (mCons (mBin gIxU (mVar 11) (mC (.int 0))) (mCons (mBin gAdd (mBin gIxU (mVar 11) (mC (.int 1))) (mC (.int 1))) (mCons (mBin gIxU (mVar 11) (mC (.int 2))) (mCons (mBin gIxU (mVar 11) (mC (.int 3))) (mCons (mBin gIxU (mVar 11) (mC (.int 4))) mNil))))))) [S, some (D.ref 0), s2, some (D.lst RR), some (D.int k), some (.ref m.length), some (.ref (m.length + 1)), some (.ref (m.length + 2)), x8, some (.ref (m.length + 3)), some (rf i), some P, some (.ref M3.length), s13, s14, s15, s16] M4 = .next [S, some (D.ref 0), s2, some (D.lst RR), some (D.int k), some (.ref m.length), some (.ref (m.length + 1)), some (.ref (m.length + 2)), x8, some (.ref (m.length + 3)), some (rf i), some P, some (.ref M3.length), some (.ref (M3.length + 1)), s14, s15, s16] (M4 ++ [insR (markD i) (.int ((row i).2.2.2.1 + 1)) (markO (aft i)) (.tup [.str "undo"]) .non]) := by
    obtain ⟨p0, p1, p2, p3, p4⟩ := pt M4
    rw [← M4l]
    refine asg_ok (make_ok ?_)
    exact cons_ok ((bin_ok rfl rfl).trans p0) (cons_ok ((bin_ok ((bin_ok rfl rfl).trans p1) rfl).trans (add_ok _)) (cons_ok ((bin_ok rfl rfl).trans p2) (cons_ok ((bin_ok rfl rfl).trans p3) (one_ok ((bin_ok rfl rfl).trans p4)))))
  have M5e : M4 ++ [insR (markD i) (.int ((row i).2.2.2.1 + 1)) (markO (aft i)) (.tup [.str "undo"]) .non] = M3 ++ [insR (markD i) (.int (row i).2.2.2.1) (markO (aft i)) (.tup [.str "undo"]) .non, insR (markD i) (.int ((row i).2.2.2.1 + 1)) (markO (aft i)) (.tup [.str "undo"]) .non] := by rw [← hM4, List.append_assoc]; rfl
  rw [M5e] at b8
  obtain ⟨h1, h2, h3, h4, h5, h6⟩ := k_shp i i11
  generalize hM5 : M3 ++ [insR (markD i) (.int (row i).2.2.2.1) (markO (aft i)) (.tup [.str "undo"]) .non, insR (markD i) (.int ((row i).2.2.2.1 + 1)) (markO (aft i)) (.tup [.str "undo"]) .non] = M5 at b8
  generalize hs2 : [S, some (D.ref 0), s2, some (D.lst RR), some (D.int k), some (.ref m.length), some (.ref (m.length + 1)), some (.ref (m.length + 2)), x8, some (.ref (m.length + 3)), some (rf i), some P, some (.ref M3.length), some (.ref (M3.length + 1)), s14, s15, s16] = sl2 at b8
  have w10 : ∀ M, mVar 10 sl2 M = .ok (.ref (7 + i)) M := fun M => by rw [← hs2]; rfl
  have w11 : ∀ M, mVar 11 sl2 M = .ok P M := fun M => by rw [← hs2]; rfl
  have w12 : ∀ M, mVar 12 sl2 M = .ok (.ref M3.length) M := fun M => by rw [← hs2]; rfl
  have w13 : ∀ M, mVar 13 sl2 M = .ok (.ref (M3.length + 1)) M := fun M => by rw [← hs2]; rfl
  have i5 : M5[7 + i]? = some (.ins 4 (recF i)) := by rw [← hM5]; exact ins3 _
  have b9 : (nIf (mOr (mTest (mBin (gOr gNe (gOr (gEqO (tabOf tl) 4 r_Record___eq__ true) (gSame true))) (mVar 10) (mVar 12))) (mTest (mBin (gOr gEq (gOr (gEqO (tabOf tl) 4 r_Record___eq__ false) (gSame false))) (mVar 10) (mVar 13)))) (nRet (mC (.bl false))) nNil) sl2 M5 = .next sl2 M5 := by
    have q1 : mBin (gOr gNe (gOr (gEqO (tabOf tl) 4 r_Record___eq__ true) (gSame true))) (mVar 10) (mVar 12) sl2 M5 = .ok (.bl false) M5 := by
      rw [bin_ok (w10 _) (w12 _), ne_refs]
      refine or_ok ?_
      rw [eqO_ok i5 (by rw [← hM5]; exact at0) (key_rec i) (key_ins _ _ _ _ _) h1 h1, h4]
      rfl
    have q2 : mBin (gOr gEq (gOr (gEqO (tabOf tl) 4 r_Record___eq__ false) (gSame false))) (mVar 10) (mVar 13) sl2 M5 = .ok (.bl false) M5 := by
      rw [bin_ok (w10 _) (w13 _), eq_refs]
      refine or_ok ?_
      rw [eqO_ok i5 (by rw [← hM5]; exact at1) (key_rec i) (key_ins _ _ _ _ _) h1 h2, h5]
      rfl
    rw [if_f (or_ff (test_ok q1) (test_ok q2))]
    rfl
  have b10 : (nIf (mOr (mTest (mBin (gOr gEq (gOr (gEqO (tabOf tl) 4 r_Record___eq__ false) (gSame false))) (mVar 10) (mMake 4 6 r_Record___init__ (mCons (mBin gIxU (mVar 11) (mC (.int 0))) (mCons (mBin gIxU (mVar 11) (mC (.int 1))) (mCons (mBin gIxU (mVar 11) (mC (.int 2))) (mCons (mTup (mCons (mC (.str "redo")) mNil)) (mCons (mC .non) mNil)))))))) (mTest (mBin (gOr gEq (gOr (gEqO (tabOf tl) 4 r_Record___eq__ false) (gSame false))) (mVar 10) (mCB gTuple (mCons (mVar 11) mNil))))) (nRet (mC (.bl false))) nNil) sl2 M5 = .next sl2 (M5 ++ [insR (markD i) (.int (row i).2.2.2.1) (markO (aft i)) (.tup [.str "redo"]) .non]) := by
    obtain ⟨p0, p1, p2, p3, p4⟩ := pt M5
    have mk : mMake 4 6 r_Record___init__ (mCons (mBin gIxU (mVar 11) (mC (.int 0))) (mCons (mBin gIxU (mVar 11) (mC (.int 1))) (mCons (mBin gIxU (mVar 11) (mC (.int 2))) (mCons (mTup (mCons (mC (.str "redo")) mNil)) (mCons (mC .non) mNil))))) sl2 M5 = .ok (.ref M5.length) (M5 ++ [insR (markD i) (.int (row i).2.2.2.1) (markO (aft i)) (.tup [.str "redo"]) .non]) :=
      make_ok (cons_ok ((bin_ok (w11 _) rfl).trans p0) (cons_ok ((bin_ok (w11 _) rfl).trans p1) (cons_ok ((bin_ok (w11 _) rfl).trans p2) (cons_ok rfl (one_ok rfl)))))
    have i6 : (M5 ++ [insR (markD i) (.int (row i).2.2.2.1) (markO (aft i)) (.tup [.str "redo"]) .non])[7 + i]? = some (.ins 4 (recF i)) := at_b i5
    have q1 : mBin (gOr gEq (gOr (gEqO (tabOf tl) 4 r_Record___eq__ false) (gSame false))) (mVar 10) (mMake 4 6 r_Record___init__ (mCons (mBin gIxU (mVar 11) (mC (.int 0))) (mCons (mBin gIxU (mVar 11) (mC (.int 1))) (mCons (mBin gIxU (mVar 11) (mC (.int 2))) (mCons (mTup (mCons (mC (.str "redo")) mNil)) (mCons (mC .non) mNil)))))) sl2 M5 = .ok (.bl false) (M5 ++ [insR (markD i) (.int (row i).2.2.2.1) (markO (aft i)) (.tup [.str "redo"]) .non]) := by
      rw [bin_ok (w10 _) mk, eq_refs]
      refine or_ok ?_
      rw [eqO_ok i6 at0 (key_rec i) (key_ins _ _ _ _ _) h1 h3, h6]
      rfl
    have q2 : mBin (gOr gEq (gOr (gEqO (tabOf tl) 4 r_Record___eq__ false) (gSame false))) (mVar 10) (mCB gTuple (mCons (mVar 11) mNil)) sl2 (M5 ++ [insR (markD i) (.int (row i).2.2.2.1) (markO (aft i)) (.tup [.str "redo"]) .non]) = .ok (.bl false) (M5 ++ [insR (markD i) (.int (row i).2.2.2.1) (markO (aft i)) (.tup [.str "redo"]) .non]) := by
      have tp : mCB gTuple (mCons (mVar 11) mNil) sl2 (M5 ++ [insR (markD i) (.int (row i).2.2.2.1) (markO (aft i)) (.tup [.str "redo"]) .non]) = .ok (.tup [markD i, .int (row i).2.2.2.1, markO (aft i), .tup [.str "undo"], .non]) (M5 ++ [insR (markD i) (.int (row i).2.2.2.1) (markO (aft i)) (.tup [.str "redo"]) .non]) := by
        rw [cb_ok (one_ok (w11 _)), ← hP]
        rfl
      rw [bin_ok (w10 _) tp]
      exact eq_tup i6
    have q : (mOr (mTest (mBin (gOr gEq (gOr (gEqO (tabOf tl) 4 r_Record___eq__ false) (gSame false))) (mVar 10) (mMake 4 6 r_Record___init__ (mCons (mBin gIxU (mVar 11) (mC (.int 0))) (mCons (mBin gIxU (mVar 11) (mC (.int 1))) (mCons (mBin gIxU (mVar 11) (mC (.int 2))) (mCons (mTup (mCons (mC (.str "redo")) mNil)) (mCons (mC .non) mNil)))))))) (mTest (mBin (gOr gEq (gOr (gEqO (tabOf tl) 4 r_Record___eq__ false) (gSame false))) (mVar 10) (mCB gTuple (mCons (mVar 11) mNil))))) sl2 M5 = .ok false (M5 ++ [insR (markD i) (.int (row i).2.2.2.1) (markO (aft i)) (.tup [.str "redo"]) .non]) := by
      unfold mOr
      rw [test_ok q1]
      exact test_ok q2
    rw [if_f q]
    rfl
  refine ⟨t ++ [.lst [.int a2, .int b2'], .lst [], .lst (so.map rf), .lst (so.map rf)] ++ [insR (markD i) (.int (row i).2.2.2.1) (markO (aft i)) (.tup [.str "undo"]) .non, insR (markD i) (.int ((row i).2.2.2.1 + 1)) (markO (aft i)) (.tup [.str "undo"]) .non] ++ [insR (markD i) (.int (row i).2.2.2.1) (markO (aft i)) (.tup [.str "redo"]) .non], some (.ref m.length), some (.ref (m.length + 1)), some (.ref (m.length + 2)), x8, some (.ref (m.length + 3)), some (rf i), some P, some (.ref M3.length), some (.ref (M3.length + 1)), ?_⟩
  unfold rdB
  rw [seq_n b0, seq_n b1, seq_n b2, seq_n b3, seq_n b4, seq_n b5, seq_n b6, seq_n b7, seq_n b8, seq_n b9, b10, ← hs2, ← hM5, M3e]
  congr 1
  first | done | simp only [List.append_assoc]
end K54
end
section
set_option Elab.async false
set_option linter.all false
set_option maxRecDepth 100000
set_option maxHeartbeats 4000000
set_option pp.maxSteps 2000
namespace K54
open PySem PySem.Spec PyProof.Rows L2 Mi MeO MeL
theorem outer_ok {ns : List Int} (hn : ns.length ≤ 63) : ∀ (ks : List Nat) (t : Mem) (s2 s4 s5 s6 s7 s8 s9 s10 s11 s12 s13 s14 s15 s16 : Option D), (∀ k ∈ ks, k < 100) →
    ∃ t' x2 x4 x5 x6 x7 x8 x9 x10 x11 x12 x13 x14 x15 x16, forL (gSet 4) rdB (ks.map fun i : Nat => D.int (0 + (i : Int))) [some (.scr (ns.map .int)), some (.ref 0), s2, some (.lst RR), s4, s5, s6, s7, s8, s9, s10, s11, s12, s13, s14, s15, s16] (M0 ++ t) = .next [some (.scr (ns.map .int)), some (.ref 0), x2, some (.lst RR), x4, x5, x6, x7, x8, x9, x10, x11, x12, x13, x14, x15, x16] (M0 ++ t')
  | [], t, s2, s4, s5, s6, s7, s8, s9, s10, s11, s12, s13, s14, s15, s16, _ => ⟨t, s2, s4, s5, s6, s7, s8, s9, s10, s11, s12, s13, s14, s15, s16, rfl⟩
  | k :: ks, t, s2, s4, s5, s6, s7, s8, s9, s10, s11, s12, s13, s14, s15, s16, h => by
    have hk := h k List.mem_cons_self
    obtain ⟨t1, y5, y6, y7, y8, y9, y10, y11, y12, y13, e⟩ := round_ok (ns := ns) (k := 0 + (k : Int)) (by omega) (by omega) hn t s2 s5 s6 s7 s8 s9 s10 s11 s12 s13 s14 s15 s16
    obtain ⟨t', x2, x4, x5, x6, x7, x8, x9, x10, x11, x12, x13, x14, x15, x16, e2⟩ := outer_ok hn ks t1 s2 (some (.int (0 + (k : Int)))) y5 y6 y7 y8 y9 y10 y11 y12 y13 s14 s15 s16 fun j hj => h j (List.mem_cons_of_mem _ hj)
    refine ⟨t', x2, x4, x5, x6, x7, x8, x9, x10, x11, x12, x13, x14, x15, x16, ?_⟩
    rw [← e2]
    show (match rdB [some (.scr (ns.map .int)), some (.ref 0), s2, some (.lst RR), some (.int (0 + (k : Int))), s5, s6, s7, s8, s9, s10, s11, s12, s13, s14, s15, s16] (M0 ++ t) with
      | .next sl2 m2 => forL (gSet 4) rdB (ks.map fun i : Nat => D.int (0 + (i : Int))) sl2 m2
      | .cont sl2 m2 => forL (gSet 4) rdB (ks.map fun i : Nat => D.int (0 + (i : Int))) sl2 m2
      | .brk sl2 m2 => .next sl2 m2
      | r => r) = _
    rw [e]
theorem seq_assoc (a b c : MS) (sl : Sl) (m : Mem) : nSeq a (nSeq b c) sl m = nSeq (nSeq a b) c sl m := by
  unfold nSeq
  cases a sl m <;> rfl
theorem law_ok (ns : List Int) (hn : ns.length ≤ 63) : ∃ m, r_law [.scr (ns.map .int)] [] = .ok (.bl true) m := by
  rw [r_lw]
  unfold mDef
  have st : slStart ["_law_script", "_law_levels", "_law_rows_here", "_law_records", "_law_k", "_law_draws_here", "_law_left", "_law_some", "_law_turn", "_law_saved", "_law_record", "_law_parts", "_law_same", "_law_other", "_law_mark", "_law_stamp", "_law_after"] [.scr (ns.map .int)] = [some (.scr (ns.map .int)), none, none, none, none, none, none, none, none, none, none, none, none, none, none, none, none] := rfl
  rw [st]
  have p := pre_ok (.scr (ns.map .int))
  unfold lvP at p
  rw [seq_assoc] at p
  obtain ⟨n, hn1, hn2⟩ : ∃ n : Nat, n ≤ 40 ∧ ∀ sl, iR (mCons (mCB gMax2 (mCons (mC (.int 1)) (mCons (mCB gMin2 (mCons (mC (.int 40)) (mCons (mCB gLenW (mCons (mVar 0) mNil)) mNil))) mNil))) mNil) (some (.scr (ns.map .int)) :: sl) M0 = .ok (rngD n) M0 := by
    have z : ∀ x : Int, 0 ≤ x → (if (if x < 40 then x else 40) > 1 then (if x < 40 then x else 40) else 1) = ((max 1 (min 40 x)).toNat : Int) := fun x hx => by
      split <;> split <;> omega
    refine ⟨(max 1 (min 40 (ns.length : Int))).toNat, by omega, fun sl => ?_⟩
    have l : mCB gLenW (mCons (mVar 0) mNil) (some (.scr (ns.map .int)) :: sl) M0 = .ok (.int ns.length) M0 := by
      show Mi.R.ok (D.int (ns.map D.int).length) M0 = _
      rw [List.length_map]
    have l2 : mCB gMin2 (mCons (mC (.int 40)) (mCons (mCB gLenW (mCons (mVar 0) mNil)) mNil)) (some (.scr (ns.map .int)) :: sl) M0 = .ok (.int (if (ns.length : Int) < 40 then (ns.length : Int) else 40)) M0 := by
      rw [cb_ok (cons_ok (d := .int 40) rfl (one_ok l))]
      rfl
    have l3 : mCB gMax2 (mCons (mC (.int 1)) (mCons (mCB gMin2 (mCons (mC (.int 40)) (mCons (mCB gLenW (mCons (mVar 0) mNil)) mNil))) mNil)) (some (.scr (ns.map .int)) :: sl) M0 = .ok (.int ((max 1 (min 40 (ns.length : Int))).toNat : Int)) M0 := by
      rw [cb_ok (cons_ok (d := .int 1) rfl (one_ok l2)), ← z _ (by omega)]
      rfl
    unfold iR
    rw [one_ok l3]
    show (match rngOf [.int ((max 1 (min 40 (ns.length : Int))).toNat : Int)] with
      | some l => Mi.R.ok l M0
      | none => .no) = _
    unfold rngOf
    dsimp only
    rw [if_pos (by omega)]
    rfl
  obtain ⟨t', x2, x4, x5, x6, x7, x8, x9, x10, x11, x12, x13, x14, x15, x16, e⟩ := outer_ok hn (List.range n) [] (some RW) none none none none none none none none none none none none none fun k hk => by have := List.mem_range.mp hk; omega
  rw [List.append_nil] at e
  have f : nFor (iR (mCons (mCB gMax2 (mCons (mC (.int 1)) (mCons (mCB gMin2 (mCons (mC (.int 40)) (mCons (mCB gLenW (mCons (mVar 0) mNil)) mNil))) mNil))) mNil)) (gSet 4) rdB [some (.scr (ns.map .int)), some (.ref 0), some RW, some (.lst RR), none, none, none, none, none, none, none, none, none, none, none, none, none] M0 = .next [some (.scr (ns.map .int)), some (.ref 0), x2, some (.lst RR), x4, x5, x6, x7, x8, x9, x10, x11, x12, x13, x14, x15, x16] (M0 ++ t') := by
    unfold nFor
    rw [hn2]
    exact e
  refine ⟨M0 ++ t', ?_⟩
  rw [seq_assoc, seq_assoc, seq_n p, seq_n f]
  have q : lendE 12 (mBin (gOr gEq (gOr (gEqO (tabOf tl) 4 r_Record___eq__ false) (gSame false))) (mCall 2 r_records_in_order (mCons (mVar 1) (mCons (mLst mNil) mNil))) (mLst mNil)) [some (.scr (ns.map .int)), some (.ref 0), x2, some (.lst RR), x4, x5, x6, x7, x8, x9, x10, x11, x12, x13, x14, x15, x16] (M0 ++ t') = .ok (.bl true) (M0 ++ t') := by
    generalize hsl : [some (D.scr (ns.map .int)), some (D.ref 0), x2, some (.lst RR), x4, x5, x6, x7, x8, x9, x10, x11, x12, x13, x14, x15, x16] = sl
    have f1 : (slF (M0 ++ t') 12 sl)[1]? = some (some LV) := by
      unfold slF
      rw [List.getElem?_map, ← hsl]
      show some (frz (M0 ++ t') 12 (.ref 0)) = _
      rw [frz_lv]
    unfold lendE
    generalize slF (M0 ++ t') 12 sl = F at *
    have v1 : mVar 1 F [] = .ok LV [] := by
      unfold mVar
      rw [f1]
    have c1 : mCall 2 r_records_in_order (mCons (mVar 1) (mCons (mLst mNil) mNil)) F [] = .ok (.lst []) [] := by
      rw [call_ok (n := 2) (cons_ok v1 (one_ok (d := .lst []) rfl)) rfl]
      exact rio_nil []
    rw [bin_ok c1 (e := .lst []) rfl]
    rfl
  unfold nRet
  rw [q]
  rfl
end K54
end
set_option Elab.async false
set_option linter.all false
set_option maxRecDepth 100000
set_option maxHeartbeats 4000000
set_option pp.maxSteps 600
namespace K54
open PySem PySem.Spec PyProof.Rows L2 He MeH MeG MeK Evl MeV MeL MeD MeO Mi LamX
theorem facts {P : Program} {w : World} {K : PySem.W.Frag} {h : Heap} {mg : Str → Option Value} {f : Addr} (X : K.In h) (G : h.Ns mainGlobals mg) (hfa : mg ("law" : Str) = some (.ref f)) (c : SaysY fb fn tf h K) :
    ∃ fd : FuncData, (∀ (s : Shared) (v : Value), BindsTo s fd ⟨[v], []⟩ [("_law_script", v)]) ∧ ∀ base : Heap, K.In base → base.Ns mainGlobals mg → (∀ p ∈ tf.map (cT K), TabB base mg p.1 p.2) → FnG P w K mg base (L2.CX P w) 9 f fd ["_law_script"] (spM ⟨w, K, L0 K⟩ 1 r_law) := by
  have T : Txt K mg := txt_of X G c
  obtain ⟨fd_is_word, Fd_is_word⟩ := c.x.def_ 0 (d := d_is_word) rfl
  obtain ⟨fd_are_names, Fd_are_names⟩ := c.x.def_ 1 (d := d_are_names) rfl
  obtain ⟨fd_are_pairs, Fd_are_pairs⟩ := c.x.def_ 2 (d := d_are_pairs) rfl
  obtain ⟨fd_record_marks, Fd_record_marks⟩ := c.x.def_ 3 (d := d_record_marks) rfl
  obtain ⟨fd_sibling_key, Fd_sibling_key⟩ := c.x.def_ 4 (d := d_sibling_key) rfl
  obtain ⟨fd_records_in_order, Fd_records_in_order⟩ := c.x.def_ 5 (d := d_records_in_order) rfl
  obtain ⟨fd__law_draws, Fd__law_draws⟩ := c.x.def_ 6 (d := d__law_draws) rfl
  obtain ⟨fd__law_draw, Fd__law_draw⟩ := c.x.def_ 7 (d := d__law_draw) rfl
  obtain ⟨fd__law_rows, Fd__law_rows⟩ := c.x.def_ 8 (d := d__law_rows) rfl
  obtain ⟨fd__law_due, Fd__law_due⟩ := c.x.def_ 9 (d := d__law_due) rfl
  obtain ⟨fd_law, Fd_law⟩ := c.x.def_ 10 (d := d_law) rfl
  obtain ⟨fe_InvalidLevels, Fe_InvalidLevels⟩ := c.x.def_ 11 (d := e_InvalidLevels) rfl
  obtain ⟨fe_InvalidLevel, Fe_InvalidLevel⟩ := c.x.def_ 12 (d := e_InvalidLevel) rfl
  obtain ⟨fe_BadRecords, Fe_BadRecords⟩ := c.x.def_ 13 (d := e_BadRecords) rfl
  obtain ⟨fd_Levels___init__, Fd_Levels___init__⟩ := c.x.def_ 14 (d := f_Levels___init__) rfl
  obtain ⟨fd_Levels_names, Fd_Levels_names⟩ := c.x.def_ 15 (d := f_Levels_names) rfl
  obtain ⟨fd_Levels_check, Fd_Levels_check⟩ := c.x.def_ 16 (d := f_Levels_check) rfl
  obtain ⟨fd_Levels_above, Fd_Levels_above⟩ := c.x.def_ 17 (d := f_Levels_above) rfl
  obtain ⟨fd_Record___init__, Fd_Record___init__⟩ := c.x.def_ 18 (d := f_Record___init__) rfl
  obtain ⟨fd_Record___eq__, Fd_Record___eq__⟩ := c.x.def_ 19 (d := f_Record___eq__) rfl
  have e := hfa.symm.trans T.g_law
  cases e
  have b := FunD.bindsA (ps := ["_law_script"]) Fd_law fun _ _ _ _ _ _ us hl => match us, hl with | [_], _ => rfl
  refine ⟨fd_law, fun s v => b s [v] rfl, fun base kin ns tb => ?_⟩
  have TB : TabB base mg (cT K ("records_in_order", none)).1 (cT K ("records_in_order", none)).2 := tb _ (List.mem_map.mpr ⟨_, List.mem_cons_self, rfl⟩)
  have B_InvalidLevels : ∀ {X : Cx}, X.K = K → L2.Binds X.K fe_InvalidLevels ["self", "value"] [] := fun e => by
    rw [e]
    exact Fe_InvalidLevels.bindsN fun _ _ _ _ _ _ us hl => match us, hl with | [_, _], _ => rfl
  have G_InvalidLevels : ∀ {X : Cx}, X.prog = P → X.w = w → X.K = K → X.mg = mg → X.base = base → FnOk X.prog X.w X.K X.mg X.base CX0 1 (ma K (ga K "InvalidLevels") "__init__") fe_InvalidLevels ["self", "value"] (MeE.spI1 (ga K "InvalidLevels") "value") := by
    intro X h1 h2 h3 h4 h5
    rw [h1, h2, h3, h4, h5]
    exact ok_InvalidLevels Fe_InvalidLevels T
  have B_InvalidLevel : ∀ {X : Cx}, X.K = K → L2.Binds X.K fe_InvalidLevel ["self", "value"] [] := fun e => by
    rw [e]
    exact Fe_InvalidLevel.bindsN fun _ _ _ _ _ _ us hl => match us, hl with | [_, _], _ => rfl
  have G_InvalidLevel : ∀ {X : Cx}, X.prog = P → X.w = w → X.K = K → X.mg = mg → X.base = base → FnOk X.prog X.w X.K X.mg X.base CX0 1 (ma K (ga K "InvalidLevel") "__init__") fe_InvalidLevel ["self", "value"] (MeE.spI1 (ga K "InvalidLevel") "value") := by
    intro X h1 h2 h3 h4 h5
    rw [h1, h2, h3, h4, h5]
    exact ok_InvalidLevel Fe_InvalidLevel T
  have B_BadRecords : ∀ {X : Cx}, X.K = K → L2.Binds X.K fe_BadRecords ["self", "value"] [] := fun e => by
    rw [e]
    exact Fe_BadRecords.bindsN fun _ _ _ _ _ _ us hl => match us, hl with | [_, _], _ => rfl
  have G_BadRecords : ∀ {X : Cx}, X.prog = P → X.w = w → X.K = K → X.mg = mg → X.base = base → FnOk X.prog X.w X.K X.mg X.base CX0 1 (ma K (ga K "BadRecords") "__init__") fe_BadRecords ["self", "value"] (MeE.spI1 (ga K "BadRecords") "value") := by
    intro X h1 h2 h3 h4 h5
    rw [h1, h2, h3, h4, h5]
    exact ok_BadRecords Fe_BadRecords T
  have C_is_word : ∀ {X : Cx}, X.prog = P → X.w = w → X.K = K → X.mg = mg → X.base = base → Cal X ⟨w, K, L0 K⟩ "is_word" 1 (ga K "is_word") fd_is_word ["thing"] r_is_word := by
    intro X h1 h2 h3 h4 h5
    exact ⟨by rw [h1, h2, h3, h4, h5]; exact k_is_word Fd_is_word T , by rw [h4]; exact T.g_is_word, by rw [h3]; exact Fd_is_word.kp, by rw [h3]; exact Fd_is_word.bindsN fun _ _ _ _ _ _ us hl => match us, hl with | [_], _ => rfl⟩
  have C_are_names : ∀ {X : Cx}, X.prog = P → X.w = w → X.K = K → X.mg = mg → X.base = base → Cal X ⟨w, K, L0 K⟩ "are_names" 2 (ga K "are_names") fd_are_names ["names"] r_are_names := by
    intro X h1 h2 h3 h4 h5
    exact ⟨by rw [h1, h2, h3, h4, h5]; exact k_are_names Fd_are_names T C_is_word, by rw [h4]; exact T.g_are_names, by rw [h3]; exact Fd_are_names.kp, by rw [h3]; exact Fd_are_names.bindsN fun _ _ _ _ _ _ us hl => match us, hl with | [_], _ => rfl⟩
  have C_are_pairs : ∀ {X : Cx}, X.prog = P → X.w = w → X.K = K → X.mg = mg → X.base = base → Cal X ⟨w, K, L0 K⟩ "are_pairs" 1 (ga K "are_pairs") fd_are_pairs ["names", "pairs"] r_are_pairs := by
    intro X h1 h2 h3 h4 h5
    exact ⟨by rw [h1, h2, h3, h4, h5]; exact k_are_pairs Fd_are_pairs T , by rw [h4]; exact T.g_are_pairs, by rw [h3]; exact Fd_are_pairs.kp, by rw [h3]; exact Fd_are_pairs.bindsN fun _ _ _ _ _ _ us hl => match us, hl with | [_, _], _ => rfl⟩
  have C_Levels_names : ∀ {X : Cx}, X.prog = P → X.w = w → X.K = K → X.mg = mg → X.base = base → CalM X ⟨w, K, L0 K⟩ 3 "names" 1 (ma K (ga K "Levels") "names") fd_Levels_names ["self"] r_Levels_names := by
    intro X h1 h2 h3 h4 h5
    exact ⟨by rw [h1, h2, h3, h4, h5]; exact k_Levels_names Fd_Levels_names T , by rw [h3]; exact T.cl_Levels, by rw [h3]; exact T.mt_Levels_names, by rw [h3]; exact Fd_Levels_names.bindsN fun _ _ _ _ _ _ us hl => match us, hl with | [_], _ => rfl⟩
  have C_Levels_check : ∀ {X : Cx}, X.prog = P → X.w = w → X.K = K → X.mg = mg → X.base = base → CalM X ⟨w, K, L0 K⟩ 3 "check" 3 (ma K (ga K "Levels") "check") fd_Levels_check ["self", "level"] r_Levels_check := by
    intro X h1 h2 h3 h4 h5
    exact ⟨by rw [h1, h2, h3, h4, h5]; exact k_Levels_check Fd_Levels_check T G_InvalidLevel B_InvalidLevel, by rw [h3]; exact T.cl_Levels, by rw [h3]; exact T.mt_Levels_check, by rw [h3]; exact Fd_Levels_check.bindsN fun _ _ _ _ _ _ us hl => match us, hl with | [_, _], _ => rfl⟩
  have C_Levels_above : ∀ {X : Cx}, X.prog = P → X.w = w → X.K = K → X.mg = mg → X.base = base → CalM X ⟨w, K, L0 K⟩ 3 "above" 4 (ma K (ga K "Levels") "above") fd_Levels_above ["self", "one", "other"] r_Levels_above := by
    intro X h1 h2 h3 h4 h5
    exact ⟨by rw [h1, h2, h3, h4, h5]; exact k_Levels_above Fd_Levels_above T C_Levels_check, by rw [h3]; exact T.cl_Levels, by rw [h3]; exact T.mt_Levels_above, by rw [h3]; exact Fd_Levels_above.bindsN fun _ _ _ _ _ _ us hl => match us, hl with | [_, _, _], _ => rfl⟩
  have C_mk_Record : ∀ {X : Cx}, X.prog = P → X.w = w → X.K = K → X.mg = mg → X.base = base → CalC X ⟨w, K, L0 K⟩ 4 "Record" 1 (ma K (ga K "Record") "__init__") fd_Record___init__ ["self", "mark", "stamp", "after", "act", "first"] r_Record___init__ := by
    intro X h1 h2 h3 h4 h5
    exact ⟨by rw [h1, h2, h3, h4, h5]; exact k_Record___init__ Fd_Record___init__ T , by rw [h3]; exact T.mk_Record, by rw [h4]; exact T.g_Record, by rw [h3]; exact Fd_Record___init__.bindsN fun _ _ _ _ _ _ us hl => match us, hl with | [_, _, _, _, _, _], _ => rfl⟩
  have EQ : ∀ {X : Cx}, X.prog = P → X.w = w → X.K = K → X.mg = mg → X.base = base → EqC X (L0 K) (tabOf tl) 4 1 (ma K (ga K "Record") "__eq__") fd_Record___eq__ ["self", "other"] r_Record___eq__ := by
    intro X h1 h2 h3 h4 h5
    refine ⟨by rw [h1, h2, h3, h4, h5, show cX X (L0 K) = ⟨w, K, L0 K⟩ by unfold cX; rw [h2, h3]]; exact k_Record___eq__ Fd_Record___eq__ T , rfl, by rw [h3]; exact Fd_Record___eq__.bindsN fun _ _ _ _ _ _ us hl => match us, hl with | [_, _], _ => rfl, by rw [h3]; exact T.mt_Record___eq__.at_, by rw [h3]; exact T.mt_Record___eq__.fn, by rw [h3]; exact T.ne_Record, by rw [h3]; exact own4 T, fun t b e => ?_⟩
    have m := tabOf_mem e
    rw [h3]
    simp only [tl, List.mem_cons, List.not_mem_nil, or_false] at m
    rcases m with z | z | z | z | z | z <;> cases z
    · exact T.nf_Record_Record
    · exact T.nf_Record_tuple
  have C_sibling_key : ∀ {X : Cx}, X.prog = P → X.w = w → X.K = K → X.mg = mg → X.base = base → Cal X ⟨w, K, L0 K⟩ "sibling_key" 2 (ga K "sibling_key") fd_sibling_key ["levels", "record"] r_sibling_key := by
    intro X h1 h2 h3 h4 h5
    exact ⟨by rw [h1, h2, h3, h4, h5]; exact k_sibling_key Fd_sibling_key T C_Levels_names, by rw [h4]; exact T.g_sibling_key, by rw [h3]; exact Fd_sibling_key.kp, by rw [h3]; exact Fd_sibling_key.bindsN fun _ _ _ _ _ _ us hl => match us, hl with | [_, _], _ => rfl⟩
  have C_mk_Levels : ∀ {X : Cx}, X.prog = P → X.w = w → X.K = K → X.mg = mg → X.base = base → CalC X ⟨w, K, L0 K⟩ 3 "Levels" 4 (ma K (ga K "Levels") "__init__") fd_Levels___init__ ["self", "names", "pairs"] r_Levels___init__ := by
    intro X h1 h2 h3 h4 h5
    exact ⟨by rw [h1, h2, h3, h4, h5]; exact k_Levels___init__ Fd_Levels___init__ T C_are_names C_are_pairs G_InvalidLevels B_InvalidLevels, by rw [h3]; exact T.mk_Levels, by rw [h4]; exact T.g_Levels, by rw [h3]; exact (by
      obtain ⟨ds, hv, hb⟩ := FunD.binds1 (ps := ["self", "names", "pairs"]) Fd_Levels___init__ 3 1 (by simp [DefD.dvs, f_Levels___init__]) rfl fun _ _ _ _ _ _ _ us its hl hi => match us, its, hl, hi with | [_, _, _], [_], _, _ => ⟨_, rfl, rfl⟩
      cases hv
      exact hb)⟩
  have C_record_marks : ∀ {X : Cx}, X.prog = P → X.w = w → X.K = K → X.mg = mg → X.base = base → Cal X ⟨w, K, L0 K⟩ "record_marks" 5 (ga K "record_marks") fd_record_marks ["levels", "records"] r_record_marks := by
    intro X h1 h2 h3 h4 h5
    exact ⟨by rw [h1, h2, h3, h4, h5]; exact k_record_marks Fd_record_marks T C_Levels_above G_BadRecords B_BadRecords EQ, by rw [h4]; exact T.g_record_marks, by rw [h3]; exact Fd_record_marks.kp, by rw [h3]; exact Fd_record_marks.bindsN fun _ _ _ _ _ _ us hl => match us, hl with | [_, _], _ => rfl⟩
  have C_records_in_order : ∀ {X : Cx}, X.prog = P → X.w = w → X.K = K → X.mg = mg → X.base = base → Cal X ⟨w, K, L0 K⟩ "records_in_order" 7 (ga K "records_in_order") fd_records_in_order ["levels", "records"] r_records_in_order := by
    intro X h1 h2 h3 h4 h5
    exact ⟨by rw [h1, h2, h3, h4, h5]; exact k_records_in_order Fd_records_in_order T TB C_record_marks C_sibling_key, by rw [h4]; exact T.g_records_in_order, by rw [h3]; exact Fd_records_in_order.kp, by rw [h3]; exact Fd_records_in_order.bindsN fun _ _ _ _ _ _ us hl => match us, hl with | [_, _], _ => rfl⟩
  have C__law_draws : ∀ {X : Cx}, X.prog = P → X.w = w → X.K = K → X.mg = mg → X.base = base → Cal X ⟨w, K, L0 K⟩ "_law_draws" 1 (ga K "_law_draws") fd__law_draws ["_law_script", "_law_k"] r__law_draws := by
    intro X h1 h2 h3 h4 h5
    exact ⟨by rw [h1, h2, h3, h4, h5]; exact k__law_draws Fd__law_draws T , by rw [h4]; exact T.g__law_draws, by rw [h3]; exact Fd__law_draws.kp, by rw [h3]; exact Fd__law_draws.bindsN fun _ _ _ _ _ _ us hl => match us, hl with | [_, _], _ => rfl⟩
  have C__law_draw : ∀ {X : Cx}, X.prog = P → X.w = w → X.K = K → X.mg = mg → X.base = base → Cal X ⟨w, K, L0 K⟩ "_law_draw" 1 (ga K "_law_draw") fd__law_draw ["_law_draws_here", "_law_upto"] r__law_draw := by
    intro X h1 h2 h3 h4 h5
    exact ⟨by rw [h1, h2, h3, h4, h5]; exact k__law_draw Fd__law_draw T , by rw [h4]; exact T.g__law_draw, by rw [h3]; exact Fd__law_draw.kp, by rw [h3]; exact Fd__law_draw.bindsN fun _ _ _ _ _ _ us hl => match us, hl with | [_, _], _ => rfl⟩
  have C__law_rows : ∀ {X : Cx}, X.prog = P → X.w = w → X.K = K → X.mg = mg → X.base = base → Cal X ⟨w, K, L0 K⟩ "_law_rows" 1 (ga K "_law_rows") fd__law_rows [] r__law_rows := by
    intro X h1 h2 h3 h4 h5
    exact ⟨by rw [h1, h2, h3, h4, h5]; exact k__law_rows Fd__law_rows T , by rw [h4]; exact T.g__law_rows, by rw [h3]; exact Fd__law_rows.kp, by rw [h3]; exact Fd__law_rows.bindsN fun _ _ _ _ _ _ us hl => match us, hl with | [], _ => rfl⟩
  have C__law_due : ∀ {X : Cx}, X.prog = P → X.w = w → X.K = K → X.mg = mg → X.base = base → Cal X ⟨w, K, L0 K⟩ "_law_due" 1 (ga K "_law_due") fd__law_due [] r__law_due := by
    intro X h1 h2 h3 h4 h5
    exact ⟨by rw [h1, h2, h3, h4, h5]; exact k__law_due Fd__law_due T , by rw [h4]; exact T.g__law_due, by rw [h3]; exact Fd__law_due.kp, by rw [h3]; exact Fd__law_due.bindsN fun _ _ _ _ _ _ us hl => match us, hl with | [], _ => rfl⟩
  exact k_law Fd_law T C__law_draws C__law_draw C__law_rows C__law_due C_records_in_order C_mk_Levels C_mk_Record EQ
end K54
open PySem PySem.W PySem.Calls PyProof.Rows
theorem PySem.Challenge.cw_maskededits_k54_records_in_order_holds : PySem.Challenge.rw_maskededits_k54_records_in_order.Holds := by
  w_on; o_law
  refine HandSHeadRun.head_any (r := OpenLaw.row PySem.Challenge.rw_maskededits_k54_records_in_order) (q := view (OpenLaw.row PySem.Challenge.rw_maskededits_k54_records_in_order).prog [24]) (H := K54.hk) (ob := K54.ob) (M := 12000) (loose := ["_wall", "MaskError", "InvalidLevels", "InvalidLevel", "BadRecords", "LETTERS", "MOST_LETTERS", "MOST_LEVELS", "is_word", "are_names", "are_pairs", "Levels", "Record", "record_marks", "sibling_key", "records_in_order", "_law_draws", "_law_draw", "_law_rows", "_law_due"]) (d := HandSHeadRun.topDef (OpenLaw.row PySem.Challenge.rw_maskededits_k54_records_in_order).prog 24) (kwd := []) K54.ob_eq
    (by kernel_rfl) (fun s => by kernel_rfl) K54.run (by kernel_rfl) (by kernel_rfl) (by kernel_rfl) (by rfl) (by first | assumption | decide +kernel) (by decide +kernel) ⟨rfl, rfl, rfl, rfl, rfl, by decide +kernel⟩ ?hw ?hc
  case hw => w_witness2
  case hc =>
    refine MeL.walk_ofGE (l := PySem.Challenge.rw_maskededits_k54_records_in_order) (n := 63) (k := 9) (x := "_law_script") (CX := fun w => L2.CX (PySem.Challenge.rw_maskededits_k54_records_in_order).prog w) rfl (by decide) (by kernel_rfl) ⟨rfl, by decide, by decide⟩ ?F (fun _ _ _ _ _ z => by
      obtain ⟨_, _, _, _, _, _, _, _, _, _, _, _, hE⟩ := z
      exact hE)
    intro w mg fa h Y G hmg0
    obtain ⟨K, KX, c⟩ := Y
    have hmg : mg ("law" : PySem.Str) = some (.ref fa) := by
      have e : (HandSHeadRun.topDef (OpenLaw.row PySem.Challenge.rw_maskededits_k54_records_in_order).prog 24).name = ("law" : PySem.Str) := by kernel_rfl
      rw [← e]
      exact hmg0
    obtain ⟨fd, hb, hF⟩ := K54.facts (P := (PySem.Challenge.rw_maskededits_k54_records_in_order).prog) (w := w) KX G hmg c
    refine ⟨K, KX, fd, K54.tf.map (He.cT K), _, ⟨?_, ?_, ?_⟩, hb, ?_, hF⟩
    · intro p hp
      obtain ⟨d, hd, rfl⟩ := List.mem_map.mp hp
      exact c.empty d hd
    · intro p hp
      obtain ⟨d, hd, rfl⟩ := List.mem_map.mp hp
      exact c.out d hd
    · intro p hp
      obtain ⟨d, hd, rfl⟩ := List.mem_map.mp hp
      exact PySem.W.codeHd_of_K KX (c.hd d hd)
    · intro H a ns hl _ ht hS
      refine Mi.end_M (T := K54.T0 K) rfl rfl (fun p hp => ?_) hS (K54.law_ok ns hl)
      rw [List.mem_singleton.mp hp]
      exact ht _ (List.mem_map.mpr ⟨_, List.mem_cons_self, rfl⟩)
#print axioms PySem.Challenge.cw_maskededits_k54_records_in_order_holds
