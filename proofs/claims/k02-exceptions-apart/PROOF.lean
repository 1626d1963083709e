import PyProof.Rows.All
import Wide.All
import OpenK.AllK
import Wide.FinOn
import PyProof.EqAt
import PyProof.EqKinds
import PyProof.TupleCall
import KE.KTryMore
import KE.KExcInit
import HandS.Base
import HandS.Call
import HandS.List
import HandS.Ends
import HandS.Exc
import HandS.ExcInit
import KE.KExcIs
import HandS.ExcField
import HandS.IsInst
import HandS.ClsMeth
import HandS.Defaults
import HandS.MakeKw
import HandS.MakeKwOnly
import HandS.Dict
import HandS.HeadEnd
import HandS.Lambda
import KE.KStateDown
import HandS.More
import HandS.Words
import HandS.WordsExc
import HandS.Head0
import HandS.Head1
import HandS.Head2
import HandS.HeadHook1
import HandS.HeadHook2
import HandS.ForMost
import HandS.Evl
import HandS.Walk
import KE.KLam
import HandS.Comp
import HandS.Text
import HandS.Codes
import HandS.TryOnly
import HandS.EndBits
import HandS.EndTab
import PyProof.CodeObj
import HandS.Wide
import PyProof.Rows.StrJoinMade
import PySem.Challenge.RW_maskededits_k02_exceptions_apart
set_option Elab.async false
set_option linter.all false
set_option maxRecDepth 100000
set_option maxHeartbeats 4000000
/-! own error classes over ValueError, KeyError, RuntimeError: made by place or by name, stored to. What KE.KExcPX shows of classes over one base (call_own, init_base, exc_osa, osa_old) for keywords and for KeyError too; its proofs were followed. -/
namespace PySem
namespace MeX
open Builtin Builtin.ObjectAttr
/-- an error's __init__ -/
structure XIni (IB initId : String) : Prop where
  entry : entryFor table initId = some Builtin.«BaseException.__init__»
  split : splitId initId = some (IB, "__init__")
  kind : builtinKind initId = some .slot
  row : Manifest.signature? initId = some ⟨.positional, "*", IB, .self, [⟨"args", .varPos, false⟩]⟩
  noStar : (IB != "*") = true
  plain : plainId initId = true
theorem ini_KeyError : XIni "KeyError" "KeyError.__init__" where
  entry := entryFor_alias (id' := "BaseException.__init__") (by rw [fastTable_eq_tree]; kernel_rfl) (by first | rfl | decide +kernel) (by decide +kernel) (by rw [fastTable_eq_tree]; kernel_rfl)
  split := by kernel_rfl
  kind := by kernel_rfl
  row := by kernel_rfl
  noStar := by decide +kernel
  plain := by decide +kernel
theorem ini_of {B n i : String} (F : ExcCallFacts B n i) : XIni B i := ⟨F.initEntry, F.initSplit, F.initKind, F.initRow, F.noStar, F.init.plain⟩
structure XBase (NB newId IB initId : String) (bt : List Value) : Prop where
  new : ∃ i bm, ExcBaseFacts NB newId i bm
  ini : XIni IB initId
  cN : bt.contains (.type NB) = true
  cI : bt.contains (.type IB) = true
  cA : bt.contains (.type "AttributeError") = false
  cM : bt.contains (.type "NameError") = false
  cO : bt.contains (.type "object") = true
  ne : bt.isEmpty = false
  pass : ∀ self : Value, refuseLoop self "__setattr__" bt = pure ()
abbrev tVE : List Value := [.type "ValueError", .type "Exception", .type "BaseException", .type "object"]
abbrev tKE : List Value := [.type "KeyError", .type "LookupError", .type "Exception", .type "BaseException", .type "object"]
abbrev tRE : List Value := [.type "RuntimeError", .type "Exception", .type "BaseException", .type "object"]
theorem baseVE : XBase "ValueError" "ValueError.__new__" "ValueError" "ValueError.__init__" tVE :=
  ⟨⟨_, _, F.excBase_ValueError⟩, ini_of F.excBase_ValueError.toExcCallFacts, by decide +kernel, by decide +kernel, by decide +kernel, by decide +kernel, by decide +kernel, rfl, fun self => by kernel_rfl⟩
theorem baseRE : XBase "RuntimeError" "RuntimeError.__new__" "RuntimeError" "RuntimeError.__init__" tRE :=
  ⟨⟨_, _, F.excBase_RuntimeError⟩, ini_of F.excBase_RuntimeError.toExcCallFacts, by decide +kernel, by decide +kernel, by decide +kernel, by decide +kernel, by decide +kernel, rfl, fun self => by kernel_rfl⟩
theorem baseKE : XBase "LookupError" "LookupError.__new__" "KeyError" "KeyError.__init__" tKE :=
  ⟨⟨_, _, F.excBase_LookupError⟩, ini_KeyError, by decide +kernel, by decide +kernel, by decide +kernel, by decide +kernel, by decide +kernel, rfl, fun self => by kernel_rfl⟩
theorem refs_has (X : String) (bt : List Value) : ∀ cs : List Addr, (cs.map Value.ref ++ bt).contains (.type X) = bt.contains (.type X)
  | [] => rfl
  | c :: cs => by
    rw [List.map_cons, List.cons_append, List.contains_cons, refs_has X bt cs]
    rfl
theorem refs_pass (self : Value) (bt : List Value) : ∀ cs : List Addr, refuseLoop self "__setattr__" (cs.map Value.ref ++ bt) = refuseLoop self "__setattr__" bt
  | [] => rfl
  | c :: cs => by
    rw [List.map_cons, List.cons_append, refuseLoop_ref]
    exact refs_pass self bt cs
abbrev excO (C t : Addr) : Obj := { cls := .ref C, data := .fields #[.ref t, .none, .none, .none, .bool false, .none] }
section
variable {M : Model} {A : Around} {E : Value → Shared → Prop} {h : Heap} {g : Array GenState} {d : Drawn} {t : Nat} {os : OsState}
variable {nm q : Str} {C N : Addr} {bs bt : List Value} {cs : List Addr} {hdct : Bool} {sn : List Str} {sub : List Value} {ab : Bool} {col : Option Bool} {dd : Option Addr} {k0 k1 k2 k3 k5 : Option Value} {NB newId IB initId : String}
theorem check_new (F : XBase NB newId IB initId bt) {rest : List Value} {kw : List (Str × Value)} {Q : Unit → Shared → Prop}
    (hC : h.get? C = some (excClassObj nm q C N bs (cs.map Value.ref ++ bt) hdct sn sub ab col dd k0 k1 k2 k3 k5 newId)) (hq : Q () ⟨h, g, d, t, os⟩) : wpAny M A (checkBuiltinCall newId ⟨.ref C :: rest, kw⟩) Q E ⟨h, g, d, t, os⟩ := by
  obtain ⟨i0, b0, G⟩ := F.new
  have hcont : (Value.ref C :: (cs.map Value.ref ++ bt)).contains (.type NB) = true := by rw [List.contains_cons, refs_has, F.cN, Bool.or_true]
  have hstar := G.noStar
  simp only [checkBuiltinCall, G.newKind, G.newSplit, G.newRow]
  repeat (first | refine wpAny_loadPart_at hC ?_ | (refine wpAny_isSubtype_exc hC ?_; rw [hcont]) | refine wpAny_staticBase_exc hC ?_ | refine wpAny_madeBy_exc hC ?_ | simp only [bne_self_eq_false, Bool.false_eq_true, if_false] | wp_step)
  exact hq
theorem check_init (F : XBase NB newId IB initId bt) {e : Addr} {oe : Obj} {rest : List Value} {Q : Unit → Shared → Prop}
    (hC : h.get? C = some (excClassObj nm q C N bs (cs.map Value.ref ++ bt) hdct sn sub ab col dd k0 k1 k2 k3 k5 newId)) (he : h.get? e = some oe) (hcls : oe.cls = .ref C) (hq : Q () ⟨h, g, d, t, os⟩) :
    wpAny M A (checkBuiltinCall initId ⟨.ref e :: rest, []⟩) Q E ⟨h, g, d, t, os⟩ := by
  have hcB : (Value.ref C :: (cs.map Value.ref ++ bt)).contains (.type IB) = true := by rw [List.contains_cons, refs_has, F.cI, Bool.or_true]
  have hshort := F.ini.noStar
  simp only [checkBuiltinCall, F.ini.kind, F.ini.split, F.ini.row]
  repeat (first | (with_reducible refine wpAny_loadPart_at he ?_; rw [hcls]) | with_reducible refine wpAny_loadPart_at hC ?_ | (with_reducible refine wpAny_isSubtype_exc hC ?_; rw [hcB]) | wp_step)
  refine wpAny_onRaise ?_
  rw [show ∀ (a b : String) (n : Nat), Bind.check ⟨.positional, "*", IB, .self, [⟨"args", .varPos, false⟩]⟩ a b n (List.map (fun x => x.fst) ({ pos := Value.ref e :: rest } : Args).kw) = pure () from
    fun a b n => check_star_args _ _ _ _ _ _]
  exact wpAny_pure hq
end
section
variable {prog : Program} {w : World} {A : Around} {E : Value → Shared → Prop} {R : Result → Shared → Prop} {h : Heap} {g : Array GenState} {d : Drawn} {t : Nat} {os : OsState}
variable {nm q : Str} {C N : Addr} {bs bt : List Value} {cs : List Addr} {hdct : Bool} {sn : List Str} {sub : List Value} {ab : Bool} {col : Option Bool} {dd : Option Addr} {k0 k1 k2 k3 k5 : Option Value} {NB newId IB initId : String}
theorem new_ (F : XBase NB newId IB initId bt) {rest : List Value} {kw : List (Str × Value)}
    (hC : h.get? C = some (excClassObj nm q C N bs (cs.map Value.ref ++ bt) hdct sn sub ab col dd k0 k1 k2 k3 k5 newId))
    (hq : R (.ok (.ret (.ref (h.objs.size + 1)))) ⟨(h.push { cls := .type "tuple", data := .seq rest.toArray }).push
      { cls := .ref C, data := .fields #[.ref h.objs.size, .none, .none, .none, .bool false, .none] }, g, d, t, os⟩) (hrest : rest.length ≤ sizeLine) :
    codeAny (model prog w) A (.builtin newId ⟨.ref C :: rest, kw⟩) R ⟨h, g, d, t, os⟩ := by
  obtain ⟨i0, b0, G⟩ := F.new
  have hends := G.ends
  have hcB : (Value.ref C :: (cs.map Value.ref ++ bt)).contains (.type NB) = true := by rw [List.contains_cons, refs_has, F.cN, Bool.or_true]
  have hcA : (Value.ref C :: (cs.map Value.ref ++ bt)).contains (.type "AttributeError") = false := by rw [List.contains_cons, refs_has, F.cA]; rfl
  have hcN : (Value.ref C :: (cs.map Value.ref ++ bt)).contains (.type "NameError") = false := by rw [List.contains_cons, refs_has, F.cM]; rfl
  refine codeAny_builtinAt G.entry ?_
  unfold Builtin.«BaseException.__new__»
  refine wpAt_bind ?_
  show wpAt _ _ _ (stack >>= _) _ _ _
  refine wpAt_bind (wpAt_stack fun p below => wpAt_of_wpAny ?_)
  wp_walk
  refine wpAt_of_wpAny ?_
  rw [G.owner]
  repeat (first | with_reducible refine wpAny_madeHere_exc G.canon hC ?_ | with_reducible refine wpAny_loadPart_at hC ?_ | (with_reducible refine wpAny_isSubtype_exc hC ?_; first | rw [hcB] | rw [hcA] | rw [hcN]) | wp_step)
  show R _ _
  rw [Heap.size_push]
  exact hq
theorem type_call (F : XBase NB newId IB initId bt) {rest : List Value} {kw : List (Str × Value)} {fI : Addr} {Q : Fin → Shared → Prop}
    (hC : h.get? C = some (excClassObj nm q C N bs (cs.map Value.ref ++ bt) hdct sn sub ab col dd k0 k1 k2 k3 k5 newId))
    (hi : W.Looks (model prog w) h (typeLookup (.ref C) "__init__") (some (.ref fI))) (hb : ∀ self, W.Looks (model prog w) h (bindSpecial (.ref fI) self) (.ref fI, [self])) (hrest : rest.length ≤ sizeLine)
    (hq : codeAny (model prog w) A (.call (.ref fI) ⟨.ref (h.objs.size + 1) :: rest, kw⟩)
      (fun r s' => match r with | .ok (.ret v) => v = .none ∧ Q (.done (.ret (.ref (h.objs.size + 1)))) s' | .ok _ => False | .error e => E e s')
      ⟨(h.push (W.kdv_tup rest)).push (excO C h.objs.size), g, d, t, os⟩) :
    wpAny (model prog w) A (Builtin.«type.__call__» ⟨.ref C :: rest, kw⟩) Q E ⟨h, g, d, t, os⟩ := by
  obtain ⟨i0, b0, G⟩ := id F.new
  repeat (first | with_reducible refine wpAny_loadPart_at hC ?_ | with_reducible refine wpAny_madeBy_exc hC ?_ | wp_step)
  refine codeAny_call_builtin_code (Code.quiet_builtin _ G.quiet) (check_new F hC ?_)
  refine new_ F hC ?_ hrest
  show wpAny _ _ _ _ _ _
  have k : ∀ b o, h.get? b = some o → ((h.push (W.kdv_tup rest)).push (excO C h.objs.size)).get? b = some o := fun b o e => Heap.get?_push_of_some _ (Heap.get?_push_of_some _ e)
  have hC₁ := k _ _ hC
  have hget : ((h.push (W.kdv_tup rest)).push (excO C h.objs.size)).get? (h.objs.size + 1) = some (excO C h.objs.size) := by heap_get
  have hcC : (Value.ref C :: (cs.map Value.ref ++ bt)).contains (.ref C) = true := by simp
  have i1 := hi.keeps k
  have b1 := (hb (.ref (h.objs.size + 1))).keeps k
  unfold isInstance
  repeat (first | with_reducible refine wpAny_loadPart_at hget ?_ | (with_reducible refine wpAny_isSubtype_exc hC₁ ?_; rw [hcC]) | wp_step)
  show wpAny _ _ (typeLookup (.ref C) _) _ _ _
  refine i1.at ?_
  refine wpAny_holding (wpAny_bind (b1.at ?_))
  refine wpAny_bind (wpAny_call (codeAny_mono hq fun r s' z => ?_))
  rcases r with e | (v | _ | _ | _) <;> first | exact z | exact z.elim | skip
  obtain ⟨rfl, z⟩ := z
  first
    | exact wpAny_pure (wpAny_pure z)
    | (wp_walk; exact z)
theorem check_tc {M : Model} {rest : List Value} {kw : List (Str × Value)} {Q : Unit → Shared → Prop} (hC : h.get? C = some (excClassObj nm q C N bs (cs.map Value.ref ++ bt) hdct sn sub ab col dd k0 k1 k2 k3 k5 newId))
    (hq : Q () ⟨h, g, d, t, os⟩) : wpAny M A (checkBuiltinCall "type.__call__" ⟨.ref C :: rest, kw⟩) Q E ⟨h, g, d, t, os⟩ := by
  have f3 := tc_sub
  have hT : (⟨h, g, d, t, os⟩ : Shared).TypeIs (.ref C) "type" := ⟨_, hC, rfl⟩
  simp only [checkBuiltinCall, tc_kind, tc_split]
  repeat (any_goals (first | assumption | with_reducible refine wpAny_loadPart_at hC ?_ | with_reducible refine wpAny_onRaise ?_ | with_reducible refine wpAny_map ?_ | wp_step))
theorem call_x (F : XBase NB newId IB initId bt) {rest : List Value} {kw : List (Str × Value)} {fI : Addr}
    (hC : h.get? C = some (excClassObj nm q C N bs (cs.map Value.ref ++ bt) hdct sn sub ab col dd k0 k1 k2 k3 k5 newId))
    (hi : W.Looks (model prog w) h (typeLookup (.ref C) "__init__") (some (.ref fI))) (hb : ∀ self, W.Looks (model prog w) h (bindSpecial (.ref fI) self) (.ref fI, [self])) (hrest : rest.length ≤ sizeLine)
    (hq : codeAny (model prog w) (A.under (.builtin "type.__call__" ⟨.ref C :: rest, kw⟩)) (.call (.ref fI) ⟨.ref (h.objs.size + 1) :: rest, kw⟩) (W.InitBack (h.objs.size + 1) R)
      ⟨(h.push (W.kdv_tup rest)).push (excO C h.objs.size), g, d, t, os⟩) :
    codeAny (model prog w) A (.call (.ref C) ⟨rest, kw⟩) R ⟨h, g, d, t, os⟩ := by
  have f1 := tc_lookup
  have f2 := tc_bind (.ref C)
  have hTy : (⟨h, g, d, t, os⟩ : Shared).TypeIs (.ref C) "type" := ⟨_, hC, rfl⟩
  refine codeAny_of_tree ?_
  show wpAny _ _ (callAny (.ref C) _) _ _ _
  repeat (any_goals (first | assumption | with_reducible refine wpAny_loadPart_at hC ?_ | wp_step))
  refine ⟨rfl, ?_⟩
  refine codeAny_call_builtin_at (Code.quiet_builtin _ (by decide +kernel)) entry_typeCall (check_tc hC (type_call F hC hi hb hrest ?_))
  refine codeAny_mono hq fun r s' z => ?_
  rcases r with e | (v | _ | _ | _) <;> exact z
/-- B.__init__(e, ..) -/
theorem init_x (F : XBase NB newId IB initId bt) {e t0 : Addr} {rest : List Value}
    (hC : h.get? C = some (excClassObj nm q C N bs (cs.map Value.ref ++ bt) hdct sn sub ab col dd k0 k1 k2 k3 k5 newId)) (he : h.get? e = some (excO C t0)) (hrest : rest.length ≤ sizeLine)
    (hq : ∀ h' t1, (∀ b o, b ≠ e → h.get? b = some o → h'.get? b = some o) → h'.get? e = some (excO C t1) → R (.ok (.ret .none)) ⟨h', g, d, t, os⟩) :
    codeAny (model prog w) A (.call (.builtin initId) ⟨.ref e :: rest, []⟩) R ⟨h, g, d, t, os⟩ := by
  refine codeAny_call_builtin F.ini.plain F.ini.entry (check_init F hC he rfl ?_)
  wp_walk
  refine hq _ h.objs.size (fun b o hb ho => ?_) ?_
  · rw [Heap.get?_update_other _ _ (Ne.symm hb)]
    exact Heap.get?_push_of_some _ ho
  · rw [Heap.get?_update_self _ (Heap.get?_push_of_some _ he) rfl]
    rfl
end
section
variable {prog : Program} {w : World} {A : Around} {E : Value → Shared → Prop} {R : Result → Shared → Prop} {hp : Heap} {g : Array GenState} {d : Drawn} {t : Nat} {os : OsState}
/-- the first field of an error -/
theorem osa_new {K : W.Frag} {NB newId IB initId : String} {bt : List Value} {cs : List Addr} (F : XBase NB newId IB initId bt) {name : Str} {tk : Tok} {v : Value} {x C : Addr} {fv : Array Value} {cd : ClassData}
    (X : K.In hp) (hx : hp.get? x = some { cls := .ref C, data := .fields fv }) (hcd : W.clsIn K C = some cd) (hm : cd.mro = .ref C :: (cs.map Value.ref ++ bt)) (hh : cd.hasDict = true) (ha : W.findIn K (.ref C) name = some none)
    (hq : ∀ h' tk' dx, (∀ b o, b ≠ x → hp.get? b = some o → h'.get? b = some o) → hp.objs.size ≤ dx → dx ≠ x → h'.get? x = some { cls := .ref C, dict := some dx, data := .fields fv } →
      h'.Ns1 dx (fun y => if y = name then some v else none) → R (.ok (.ret .none)) ⟨h', g, d, tk', os⟩) :
    codeAny (model prog w) A (.call (.builtin "object.__setattr__") ⟨[.ref x, .str name tk, v], []⟩) R ⟨hp, g, d, t, os⟩ := by
  have I : W.InstAt hp x { cls := .ref C, data := .fields fv } C none := ⟨hx, rfl, rfl, trivial⟩
  have SF := PySem.F.store_object
  have ne : cd.mro.isEmpty = false := by rw [hm]; rfl
  have hob : cd.mro.contains (.type "object") = true := by
    rw [hm, List.contains_cons, refs_has, F.cO, Bool.or_true]
  have hxs : x ≠ hp.objs.size := Nat.ne_of_lt (Heap.lt_size hx)
  have sub : W.Looks (model prog w) hp (isInstance (.ref x) (.type "object")) true := I.type.andThen (W.looks_mroIn X (by unfold W.mroIn; rw [hcd, Option.bind_some, if_neg (by rw [ne]; decide), hob]))
  refine codeAny_call_builtin SF.slot.plain SF.entry (@W.check_slot (model prog w) _ _ ⟨hp, g, d, t, os⟩ "object.__setattr__" "object" "__setattr__" (.ref x) [.str name tk, v] [] _ SF.kind SF.split sub (SF.args (.ref x) (.str name tk) v) ?_)
  have hmr : W.Looks (model prog w) hp (mroOf (.ref C)) cd.mro := (W.looks_clsIn X hcd).andThen .now
  have L3 : W.Looks (model prog w) hp (storeTaker? none) none := .now
  have hcls : W.Looks (model prog w) hp (classData C) cd := W.looks_clsIn X hcd
  rw [W.osa_eq, refuse_eq]
  refine wpAny_bind (wpAny_bind (I.type.at (wpAny_bind (hmr.at ?_))))
  rw [hm, refuseLoop_ref, refs_pass, F.pass]
  refine wpAny_pure (wpAny_bind (I.type.at (wpAny_bind ((W.looks_findIn X ha).at (wpAny_bind (L3.at ?_))))))
  show wpAny _ _ (storeInOwnDict (.ref x) (.ref C) (.str name tk) name v false) _ _ _
  obtain ⟨nm, bs, mro, ns, qn, hd, sn, sb, ab, col, del⟩ := cd
  dsimp only at hh
  subst hh
  unfold storeInOwnDict ownDictForStores
  repeat (first | with_reducible refine HandSPX.store_in_new ?_ ?_ | with_reducible refine wpAny_loadPart_at hx ?_ | with_reducible refine hcls.at ?_ | wp_step)
  · exact ⟨_, #[], _, (Heap.get?_update_ne _ _ _ _ hxs.symm).trans (Heap.get?_push_at rfl rfl), rfl, fun e he => absurd he (by simp), fun _ => rfl⟩
  · intro h' tk' hn' hs
    have hx₁ : (hp.push { cls := .type "dict", data := .dict #[] }).get? x = some { cls := .ref C, data := .fields fv } := Heap.get?_push_of_some _ hx
    refine hq h' tk' hp.objs.size (fun b o hb ho => ?_) (Nat.le_refl _) hxs.symm ?_ hn'
    · exact (hs.2 b (Nat.ne_of_lt (Heap.lt_size ho))).trans ((Heap.get?_update_ne _ _ _ _ hb).trans (Heap.get?_push_of_some _ ho))
    · exact (hs.2 x hxs).trans (Heap.get?_update_self _ hx₁ rfl)
/-- a further field -/
theorem osa_old {K : W.Frag} {NB newId IB initId : String} {bt : List Value} {cs : List Addr} (F : XBase NB newId IB initId bt) {name : Str} {tk : Tok} {v : Value} {x C dx : Addr} {fv : Array Value} {cd : ClassData} {m0 : Str → Option Value} {nl : List Str}
    (X : K.In hp) (hx : hp.get? x = some { cls := .ref C, dict := some dx, data := .fields fv }) (hns : hp.Ns1 dx m0) (hw : Within m0 nl) (hz : nl.length ≤ 1000) (hcd : W.clsIn K C = some cd) (hm : cd.mro = .ref C :: (cs.map Value.ref ++ bt)) (hh : cd.hasDict = true)
    (ha : W.findIn K (.ref C) name = some none)
    (hq : ∀ h' tk', (∀ b o, b ≠ dx → hp.get? b = some o → h'.get? b = some o) → h'.Ns1 dx (fun y => if y = name then some v else m0 y) → R (.ok (.ret .none)) ⟨h', g, d, tk', os⟩) :
    codeAny (model prog w) A (.call (.builtin "object.__setattr__") ⟨[.ref x, .str name tk, v], []⟩) R ⟨hp, g, d, t, os⟩ := by
  obtain ⟨oD, esD, epD, hoD, hdD, _⟩ := hns.count hw
  have I : W.InstAt hp x { cls := .ref C, dict := some dx, data := .fields fv } C (some oD) := ⟨hx, rfl, rfl, hoD⟩
  have SF := PySem.F.store_object
  have ne : cd.mro.isEmpty = false := by rw [hm]; rfl
  have hob : cd.mro.contains (.type "object") = true := by
    rw [hm, List.contains_cons, refs_has, F.cO, Bool.or_true]
  have sub : W.Looks (model prog w) hp (isInstance (.ref x) (.type "object")) true := I.type.andThen (W.looks_mroIn X (by unfold W.mroIn; rw [hcd, Option.bind_some, if_neg (by rw [ne]; decide), hob]))
  refine codeAny_call_builtin SF.slot.plain SF.entry (@W.check_slot (model prog w) _ _ ⟨hp, g, d, t, os⟩ "object.__setattr__" "object" "__setattr__" (.ref x) [.str name tk, v] [] _ SF.kind SF.split sub (SF.args (.ref x) (.str name tk) v) ?_)
  have hmr : W.Looks (model prog w) hp (mroOf (.ref C)) cd.mro := (W.looks_clsIn X hcd).andThen .now
  have L3 : W.Looks (model prog w) hp (storeTaker? none) none := .now
  have hcls : W.Looks (model prog w) hp (classData C) cd := W.looks_clsIn X hcd
  rw [W.osa_eq, refuse_eq]
  refine wpAny_bind (wpAny_bind (I.type.at (wpAny_bind (hmr.at ?_))))
  rw [hm, refuseLoop_ref, refs_pass, F.pass]
  refine wpAny_pure (wpAny_bind (I.type.at (wpAny_bind ((W.looks_findIn X ha).at (wpAny_bind (L3.at ?_))))))
  show wpAny _ _ (storeInOwnDict (.ref x) (.ref C) (.str name tk) name v false) _ _ _
  obtain ⟨nm, bs, mro, ns, qn, hd, sn, sb, ab, col, del⟩ := cd
  dsimp only at hh
  subst hh
  unfold storeInOwnDict ownDictForStores
  repeat (first | with_reducible refine PySem.OEX.store_in_old hns hw hz ?_ | with_reducible refine wpAny_loadPart_at hx ?_ | with_reducible refine hcls.at ?_ | wp_step)
  intro h' tk' hn' hs
  exact hq h' tk' (fun b o hb ho => (hs.2 b hb).trans ho) hn'
end
end MeX
end PySem
set_option Elab.async false
set_option linter.all false
set_option maxRecDepth 100000
set_option maxHeartbeats 4000000
/-! the same as rules of HandS; what HandS.ExcInit shows of one base (its proofs were followed) for three bases, keywords and further fields -/
namespace MeH
open PySem PySem.Spec PyProof.Rows L2
/-- an own error class; ini: the name of its base's __init__ -/
structure XCls (K : PySem.W.Frag) (C : Addr) (ini : String) : Prop where
  cls : ∃ (NB newId IB : String) (bt : List Value) (cs : List Addr) (nm q : Str) (N : Addr) (bs : List Value) (sn : List Str) (sub : List Value) (ab : Bool) (col : Option Bool) (dd : Option Addr) (k0 k1 k2 k3 k5 : Option Value),
    MeX.XBase NB newId IB ini bt ∧ K.lookup C = some (excClassObj nm q C N bs (cs.map Value.ref ++ bt) true sn sub ab col dd k0 k1 k2 k3 k5 newId)
  sa : PySem.W.findIn K (.ref C) "__setattr__" = some (some (.builtin "object.__setattr__"))
  kC : PySem.W.keepIn K (.ref C) = true
  ga : PySem.W.findIn K (.ref C) "__getattribute__" = some (some (.builtin "BaseException.__getattribute__"))
  gt : PySem.W.findIn K (.ref C) "__getattr__" = some none
  su : PySem.W.subIn K (.ref C) (.type "BaseException") = some true
  hd : PySem.W.hasDictIn K C = true
  ca : PySem.W.findIn K (.ref C) "__class__" = some (some (.builtin "object.__class__"))
  sp : PySem.W.specialIn K (.builtin "object.__class__") "__get__" = some (some (.builtin "getset_descriptor.__get__"))
  tk : PySem.W.takesIn K (.builtin "object.__class__") = some true
  mo : PySem.W.mroIn K C (.type "object") = some true
section
variable {X : Cx} {pins : List (Addr × Obj)} {σ : L2.St} {H : Hp} {s : Shared} {a C dx : Addr} {ini : String} {f : Str} {y : V} {u : Value} {fs : List (Str × V)} {Q : Unit → Shared → Prop} {E : Value → Shared → Prop} {A : Around}
theorem xst_new (T : XCls X.K C ini) (I : Inv X pins σ H s) (e : H a = some (exo a C none)) (hno : PySem.W.findIn X.K (.ref C) f = some none) (ry : RelV y u)
    (h : ∀ dx s', H dx = none → dx ≠ a → Inv X pins σ (upd (upd H dx (exd dx [(f, y)])) a (exo a C (some dx))) s' → Q () s') : wpAny (model X.prog X.w) A (setAttr (.ref a) f u) Q E s := by
  obtain ⟨NB, newId, IB, bt, cs, nm, q, N, bs, sn, sub, ab, col, dd, k0, k1, k2, k3, k5, FB, hC⟩ := T.cls
  have hcl : PySem.W.clsIn X.K C = some { name := nm, bases := bs, mro := .ref C :: (cs.map Value.ref ++ bt), ns := N, qualname := q, hasDict := true, slotNames := sn, subclasses := sub, abstract := ab, collection := col, hasDel := false } := by unfold PySem.W.clsIn; rw [hC] <;> rfl
  obtain ⟨t1, ho⟩ := exo_at I.hok e
  obtain ⟨hp, g, d, t, os⟩ := s
  refine PySem.W.set_plain I.kIn (ox := { cls := .ref C, dict := none, data := .fields #[.ref t1, .none, .none, .none, .bool false, .none] }) (od := none) ⟨ho, rfl, rfl, trivial⟩ T.sa ?_
  refine MeX.osa_new FB I.kIn ho hcl rfl rfl hno (fun h' tk' dx k dn dne hx hn => ?_)
  have hnd : H dx = none := I.hok.fresh dn
  have nd : ∀ {b : Addr} {o : Obj}, hp.get? b = some o → b ≠ dx := fun {b o} q => Nat.ne_of_lt (Nat.lt_of_lt_of_le (Heap.lt_size q) dn)
  have na : ∀ {b : Addr}, H b = none → b ≠ a := fun {b} n z => by
    rw [z, e] at n
    cases n
  have Un1 : Un X.fs [] H (upd (upd H dx (exd dx [(f, y)])) a (exo a C (some dx))) hp h' := {
    keep := fun b o q n _ _ => k b o (na n) q
    slot := fun b o q n _ _ => ⟨o.slots, k b o (na n) q⟩
    free := fun b o q n _ => by rw [upd_ne (na n), upd_ne (nd q)]; exact n
    there := fun b o q _ => by
      by_cases hb : b = a
      · exact ⟨_, by rw [hb]; exact hx⟩
      · exact ⟨o, k b o hb q⟩
    tups := fun b xs q => by rw [upd_ne (at_ne e q exo_tup), upd_ne (ne_of_none q hnd)]; exact q
    frzs := fun b o v q => by rw [upd_ne (at_ne e q exo_frz), upd_ne (ne_of_none q hnd)]; exact q
    tbls := fun b ps q => ⟨#[], by rw [upd_ne (at_ne e q exo_tbl), upd_ne (ne_of_none q hnd), q]; simp⟩ }
  refine h dx _ hnd dne (I.un (t' := tk') Un1 fun b o q => ?_)
  by_cases hb : b = a
  · subst hb
    rw [upd_same] at q
    cases q
    exact exo_ok hx
  · rw [upd_ne hb] at q
    by_cases hd : b = dx
    · subst hd
      rw [upd_same] at q
      cases q
      exact exd_ok hn (relO_put (fs := []) ry fun g => True.intro)
    · rw [upd_ne hd] at q
      exact (I.hok b o q).stay (fun c v hc z => k c v (by
          rcases hc with hc | hc
          · rw [hc]
            exact hb
          · exact at_ne e hc exo_own) z)
        (fun c hc => by rw [upd_ne (at_ne e hc exo_own), upd_ne (ne_of_none hc hnd)]; exact hc) (fun c xs hc => by rw [upd_ne (at_ne e hc exo_tup), upd_ne (ne_of_none hc hnd)]; exact hc)
theorem xst_old (T : XCls X.K C ini) (I : Inv X pins σ H s) (e : H a = some (exo a C (some dx))) (ed : H dx = some (exd dx fs)) (hl : fs.length ≤ 900) (hno : PySem.W.findIn X.K (.ref C) f = some none) (ry : RelV y u)
    (h : ∀ s', Inv X pins σ (upd H dx (exd dx ((f, y) :: fs))) s' → Q () s') : wpAny (model X.prog X.w) A (setAttr (.ref a) f u) Q E s := by
  obtain ⟨NB, newId, IB, bt, cs, nm, q, N, bs, sn, sub, ab, col, dd, k0, k1, k2, k3, k5, FB, hC⟩ := T.cls
  have hcl : PySem.W.clsIn X.K C = some { name := nm, bases := bs, mro := .ref C :: (cs.map Value.ref ++ bt), ns := N, qualname := q, hasDict := true, slotNames := sn, subclasses := sub, abstract := ab, collection := col, hasDel := false } := by unfold PySem.W.clsIn; rw [hC] <;> rfl
  obtain ⟨t1, ho⟩ := exo_at I.hok e
  obtain ⟨mA, hns, rel⟩ := exd_at I.hok ed
  have hw := within_of rel
  obtain ⟨hp, g, d, t, os⟩ := s
  obtain ⟨oD, _, _, hoD, _, _⟩ := hns.count hw
  refine PySem.W.set_plain I.kIn (ox := { cls := .ref C, dict := some dx, data := .fields #[.ref t1, .none, .none, .none, .bool false, .none] }) (od := some oD) ⟨ho, rfl, rfl, hoD⟩ T.sa ?_
  refine MeX.osa_old FB I.kIn ho hns hw (by rw [List.length_map]; omega) hcl rfl rfl hno (fun h' tk' k hn => ?_)
  have hd : ∃ o, h'.get? dx = some o := by
    obtain ⟨o, _, _, e', _⟩ := hn
    exact ⟨o, e'⟩
  exact h _ (I.write (t' := tk') (x := dx) (e := dx) (o := exd dx ((f, y) :: fs)) (by rw [ed]; exact True.intro) (.inl rfl) k hd (exd_ok hn (relO_put ry rel)))
theorem xinit_ok {us : List Value} {Q : Value → Shared → Prop} (T : XCls X.K C ini) (I : Inv X pins σ H s) (e : H a = some (exo a C none)) (hl : us.length ≤ sizeLine) (h : ∀ s', Inv X pins σ H s' → Q .none s') :
    wpAny (model X.prog X.w) A (call (.builtin ini) (.ref a :: us)) Q E s := by
  obtain ⟨NB, newId, IB, bt, cs, nm, q, N, bs, sn, sub, ab, col, dd, k0, k1, k2, k3, k5, FB, hC⟩ := T.cls
  obtain ⟨t1, ho⟩ := exo_at I.hok e
  obtain ⟨hp, g, d, t, os⟩ := s
  refine wpAny_call (MeX.init_x FB (I.kIn _ _ hC) ho hl fun h' t2 k hx => ?_)
  have J := I.write (t' := t) (x := a) (e := a) (o := exo a C none) (by rw [e]; exact True.intro) (.inl rfl) k ⟨_, hx⟩ (exo_ok hx)
  have eu : upd H a (exo a C none) = H := by
    funext b
    by_cases hb : b = a
    · rw [hb, upd_same, e]
    · rw [upd_ne hb]
  rw [eu] at J
  exact h _ J
end
/-- B.__init__(self, ..) -/
def tXini (K : PySem.W.Frag) (ini : String) (ta : TA) : TE := fun σ H Q => ta σ H fun vs H1 => ∃ (a C : Addr) (ws : List V), vs = .ref a :: ws ∧ ws.length ≤ 1000 ∧ XCls K C ini ∧ H1 a = some (exo a C none) ∧ Q .non H1
/-- self.f = e -/
def tXst (K : PySem.W.Frag) (f : Str) (to te : TE) : TS := fun D σ H => te σ H fun y H1 => to σ H1 fun x H2 => ∃ (a C : Addr) (ini : String), x = .ref a ∧ XCls K C ini ∧ PySem.W.findIn K (.ref C) f = some none ∧
  ((H2 a = some (exo a C none) ∧ ∀ dx, H2 dx = none → dx ≠ a → D.nx σ (upd (upd H2 dx (exd dx [(f, y)])) a (exo a C (some dx)))) ∨
    ∃ (dx : Addr) (fs : List (Str × V)), H2 a = some (exo a C (some dx)) ∧ H2 dx = some (exd dx fs) ∧ fs.length ≤ 900 ∧ D.nx σ (upd H2 dx (exd dx ((f, y) :: fs))))
/-- e.f of an error that has its dict -/
def tXfl (K : PySem.W.Frag) (f : Str) (to : TE) : TE := fun σ H Q => to σ H fun x H1 => ∃ (a C : Addr) (ini : String) (dx : Addr) (fs : List (Str × V)) (v : V), x = .ref a ∧ XCls K C ini ∧ PySem.W.findIn K (.ref C) f = some none ∧
  H1 a = some (exo a C (some dx)) ∧ H1 dx = some (exd dx fs) ∧ fs.lookup f = some v ∧ Q v H1
/-- C(e, .., k = v, ..) as a value -/
def tXmk (C : Addr) (n m : Nat) (sp : Sp) (gV : List V → List V → List V) (E : XK) (t tk : TA) : TE := fun σ H Q => t σ H fun vs H1 => tk σ H1 fun zs H2 => vs.length = n ∧ zs.length = m ∧ n ≤ 1000 ∧
  ∀ a, H2 a = none → sp (gV (.ref a :: vs) zs) (upd H2 a (exo a C none)) (fun v H3 => v = .non ∧ Q (.ref a) H3) E
/-- isinstance(e, c), e an error that stands in H -/
def rXis (K : PySem.W.Frag) : List V → Hp → VK → Prop := fun xs H Q => ∃ (a C : Addr) (ini : String) (d : Option Addr) (c : V) (u : Value) (b : Bool), xs = [.ref a, c] ∧ ClsV c u ∧ XCls K C ini ∧ H a = some (exo a C d) ∧ (∀ dx, d = some dx → ∃ fs, H dx = some (exd dx fs)) ∧
  PySem.W.kitOne K (.ref C) u = some b ∧ Q (.bl b) H
section
variable {X : Cx} {o e : Expr} {es : List Expr} {to te : TE} {ta : TA} {f : Str} {p p' p1 p2 pos : Pos} {ini : String}
theorem ps_xst (ho : PE X o to) (he : PE X e te) (hs : swapsWith e (some (.Attribute o f p')) pos.line X.env = pure false := by rfl) : PS X (.Assign [.Attribute o f p'] e pos) (tXst X.K f to te) := by
  refine ⟨fun pins s σ H D I h => ?_⟩
  refine plainObj_wpAny_Assign_Attribute (thn (he.run pins s σ H _ I h) fun v s1 ⟨y, H1, I1, r1, q1⟩ => thn (ho.run pins s1 σ H1 _ I1 q1) fun u s2 ⟨x, H2, I2, r2, a, C, ini, ex, T, hno, q⟩ => ?_) hs
  subst ex
  obtain rfl : u = Value.ref a := r2
  rcases q with ⟨ea, q⟩ | ⟨dx, fs, ea, ed, hl, q⟩
  · exact xst_new T I2 ea hno r1 fun dx s' n ne J => ⟨σ, _, J, q dx n ne⟩
  · exact xst_old T I2 ea ed hl hno r1 fun s' J => ⟨σ, _, J, q⟩
/-- the base a built-in class -/
theorem pe_xiniB {B : Str} {Bn : String} {pl : Sem Bool} (hg : Gl X B) (hm : X.mg B = none) (hv : bootBuiltins B = some (.type Bn)) (ht : typeOf (.type Bn) = pure (.type "type")) (hst : Manifest.isStub Bn = false)
    (vV : PySem.W.findCls X.K (.type Bn) (.type "type") "__init__" = some (.val (.builtin ini))) (hh : PySem.W.handedIn (.builtin ini) = true) (ha : PA X (e :: es) ta) (hn : B ≠ "__name__" := by decide) (hdb : (B == ("__debug__" : Str)) = false := by decide)
    (hc : eval (.Call (.Attribute (.Name B p1) "__init__" p2) (e :: es) [] pos) X.env = (do
      let ov ← eval (.Name B p1) X.env
      standAt p2.atName
      let (f, first) ← holding [ov] (getMethod ov "__init__" pl)
      callWith pos f first (backTo pos (starEach (e :: es) X.env)) (backToKw pos (keywordEach [] X.env))) := by rfl)
    (he : starEach (e :: es) X.env = (false, eval e X.env) :: starEach es X.env := by rfl) (hpl : (backTo pos (starEach es X.env)).any (·.1) = false := by rfl) :
    PE X (.Call (.Attribute (.Name B p1) "__init__" p2) (e :: es) [] pos) (tXini X.K ini ta) := by
  refine ⟨fun pins s σ H Q I h => ?_⟩
  refine PySem.W.methodCall_KW (ld_blt I hg hm hv ?_ hn hdb) hc
  obtain ⟨m, fr⟩ := I.fr
  refine PySem.W.method_type fr I.ok.mod.kin ht hst vV hh ?_
  show wpAny _ _ (callWith pos (Value.builtin ini) [] (backTo pos (starEach (e :: es) X.env)) []) _ _ _
  refine PyProof.Rows.callWith_method1 (thn (ha.run pos pins _ σ H _ (I.tok _) h) fun us s1 ⟨vs, H1, I1, r1, a, C, ws, ev, hl, T, ea, q⟩ => ?_) he hpl
  subst ev
  cases r1 with
  | @cons _ u0 _ ur ra rw' =>
    obtain rfl : u0 = Value.ref a := ra
    have hlen : ur.length ≤ sizeLine := by
      rw [← Paired.length rw', sizeLine_eq]
      omega
    exact xinit_ok T I1 ea hlen fun s' J => ⟨.non, H1, J, rfl, q⟩
/-- the base an own class -/
theorem pe_xiniC {B : Str} {CB : Addr} {mc : Value} {pl : Sem Bool} (hg : Gl X B) (hm : X.mg B = some (.ref CB)) (rd : PySem.W.readsIn X.K CB mc = true) (ga : PySem.W.specialIn X.K (.ref CB) "__getattribute__" = some (some (.builtin "type.__getattribute__")))
    (vV : PySem.W.findCls X.K (.ref CB) mc "__init__" = some (.val (.builtin ini))) (hh : PySem.W.handedIn (.builtin ini) = true) (ha : PA X (e :: es) ta) (hdb : (B == ("__debug__" : Str)) = false := by decide)
    (hc : eval (.Call (.Attribute (.Name B p1) "__init__" p2) (e :: es) [] pos) X.env = (do
      let ov ← eval (.Name B p1) X.env
      standAt p2.atName
      let (f, first) ← holding [ov] (getMethod ov "__init__" pl)
      callWith pos f first (backTo pos (starEach (e :: es) X.env)) (backToKw pos (keywordEach [] X.env))) := by rfl)
    (he : starEach (e :: es) X.env = (false, eval e X.env) :: starEach es X.env := by rfl) (hpl : (backTo pos (starEach es X.env)).any (·.1) = false := by rfl) :
    PE X (.Call (.Attribute (.Name B p1) "__init__" p2) (e :: es) [] pos) (tXini X.K ini ta) := by
  refine ⟨fun pins s σ H Q I h => ?_⟩
  refine PySem.W.methodCall_KW (ld_glob I hg hm ?_ hdb) hc
  refine PySem.W.method_cls I.kIn ga (PySem.W.cls_value I.kIn rd vV hh ?_)
  show wpAny _ _ (callWith pos (Value.builtin ini) [] (backTo pos (starEach (e :: es) X.env)) []) _ _ _
  refine PyProof.Rows.callWith_method1 (thn (ha.run pos pins _ σ H _ (I.tok _) h) fun us s1 ⟨vs, H1, I1, r1, a, C, ws, ev, hl, T, ea, q⟩ => ?_) he hpl
  subst ev
  cases r1 with
  | @cons _ u0 _ ur ra rw' =>
    obtain rfl : u0 = Value.ref a := ra
    have hlen : ur.length ≤ sizeLine := by
      rw [← Paired.length rw', sizeLine_eq]
      omega
    exact xinit_ok T I1 ea hlen fun s' J => ⟨.non, H1, J, rfl, q⟩
theorem exo_inst {pins : List (Addr × Obj)} {σ : L2.St} {H : Hp} {s : Shared} {a C : Addr} {d : Option Addr} (I : Inv X pins σ H s) (e : H a = some (exo a C d)) (hd : ∀ dx, d = some dx → ∃ fs, H dx = some (exd dx fs)) :
    ∃ ox od, PySem.W.InstAt s.heap a ox C od := by
  obtain ⟨t1, ho⟩ := exo_at I.hok e
  cases d with
  | none => exact ⟨_, none, ho, rfl, rfl, trivial⟩
  | some dx =>
    obtain ⟨fs, ed⟩ := hd dx rfl
    obtain ⟨mA, hns, rel⟩ := exd_at I.hok ed
    obtain ⟨od, hod, _⟩ := lookIn_ns hns
    exact ⟨_, some od, ho, rfl, rfl, hod⟩
theorem pe_xfl (ho : PE X o to) (hb : attributeBase o f X.env (eval o X.env) = eval o X.env := by rfl) : PE X (.Attribute o f pos) (tXfl X.K f to) := by
  refine ⟨fun pins s σ H Q I h => ?_⟩
  refine attr_of hb (thn (ho.run pins s σ H _ I h) fun u s1 ⟨x, H1, I1, rx, a, C, ini, dx, fs, v, ex, T, hno, ea, ed, l, q⟩ => ?_)
  subst ex
  obtain rfl : u = Value.ref a := rx
  obtain ⟨t1, hoa⟩ := exo_at I1.hok ea
  obtain ⟨mA, hns, hr⟩ := exd_at I1.hok ed
  obtain ⟨od, hod, hl⟩ := lookIn_ns hns
  obtain ⟨w', hu, ru⟩ := RelO.some_of (v := v) (o := mA f) (by rw [← l]; exact hr f)
  have J : PySem.W.InstAt s1.heap a { cls := .ref C, dict := some dx, data := .fields #[.ref t1, .none, .none, .none, .bool false, .none] } C (some od) := ⟨hoa, rfl, rfl, hod⟩
  exact HandSPX.exc_get I1.kIn J T.ga T.gt T.su (PySem.W.findObj_own T.hd hno rfl (by rw [hl, hu])) (handed_of ru) ⟨v, H1, I1.tok _, ru, q⟩
theorem call_xis : CallR X (.builtin "isinstance") (rXis X.K) := by
  intro pins s σ H xs us Q I r h
  obtain ⟨a, C, ini, d, c, u, b, rfl, k, T, ea, ed, e, q⟩ := h
  obtain ⟨u1, u2, rfl, r1, r2⟩ := vals2 r
  have e2 := k.eq r2
  subst e2
  obtain rfl : u1 = Value.ref a := r1
  obtain ⟨ox, od, J⟩ := exo_inst I ea ed
  obtain ⟨cd, hcd, _⟩ := PySem.W.any_some T.hd
  exact PySem.W.kia_one (PySem.W.kitx_exc (by rw [hcd]; rfl) T.ga T.gt T.su T.ca T.sp T.tk T.mo) I.kIn J e (fun z => nomatch z) fun tk => ⟨.bl b, H, I.tok tk, rfl, q⟩
end
section
variable {X : Cx} {CX : CXT} {k n : Nat} {fI C : Addr} {fd : FuncData} {ps ks : List Str} {sp : Sp} {E : XK} {x : Str} {p pos : Pos} {e : Expr} {es : List Expr} {kws : List Keyword} {t tk : TA} {g : List Value → List Value → List Value} {gV : List V → List V → List V} {ini : String}
theorem run_xmk {pins : List (Addr × Obj)} {σ : L2.St} {H : Hp} {s : Shared} {Q : VK} {us ws : List Value} {vs zs : List V} (T : XCls X.K C ini) (iC : PySem.W.findIn X.K (.ref C) "__init__" = some (some (.ref fI))) (tI : PySem.W.typeIn X.K (.ref fI) = some (.type "function"))
    (F1 : FnOk X.prog X.w X.K X.mg X.base CX k fI fd ps sp) (hr : Room (k + 1) X.A) (hb : KBn X.K fd ps (n + 1) ks g gV) (hx : Passes CX X E) (I : Inv X pins σ H s) (r : Vals vs us) (rz : Vals zs ws) (l1 : vs.length = n) (l2 : zs.length = ks.length) (hn : n ≤ 1000)
    (h : ∀ a, H a = none → sp (gV (.ref a :: vs) zs) (upd H a (exo a C none)) (fun v H2 => v = .non ∧ Q (.ref a) H2) E) :
    wpAny (model X.prog X.w) X.A (call (.ref C) us (ks.zip ws)) (EP X pins σ Q) X.xe s := by
  obtain ⟨NB, newId, IB, bt, cs, nm, q, N, bs, sn, sub, ab, col, dd, k0, k1, k2, k3, k5, FB, hC⟩ := T.cls
  obtain ⟨hp, g0, dr, tk, os⟩ := s
  have hsz : hp.objs.size ≤ hp.objs.size + 1 := Nat.le_succ _
  have hq := h (hp.objs.size + 1) (I.hok.fresh hsz)
  have kk : ∀ b o, hp.get? b = some o → ((hp.push (PySem.W.kdv_tup us)).push (MeX.excO C hp.objs.size)).get? b = some o := fun b o e => Heap.get?_push_of_some _ (Heap.get?_push_of_some _ e)
  have hget : ((hp.push (PySem.W.kdv_tup us)).push (MeX.excO C hp.objs.size)).get? (hp.objs.size + 1) = some (MeX.excO C hp.objs.size) := by heap_get
  have I2 : Inv X pins σ (upd H (hp.objs.size + 1) (exo (hp.objs.size + 1) C none)) ⟨(hp.push (PySem.W.kdv_tup us)).push (MeX.excO C hp.objs.size), g0, dr, tk, os⟩ :=
    I.laid (t' := tk) (a := hp.objs.size + 1) (o := exo (hp.objs.size + 1) C none) (h' := (hp.push (PySem.W.kdv_tup us)).push (MeX.excO C hp.objs.size)) kk hsz (exo_ok hget)
  have r1 : Vals (V.ref (hp.objs.size + 1) :: vs) (Value.ref (hp.objs.size + 1) :: us) := .cons rfl r
  have r2 := hb.rel r1 rz
  have e1 : (Value.ref (hp.objs.size + 1) :: us).length = n + 1 := r1.length.symm.trans (congrArg Nat.succ l1)
  have e2 : ws.length = ks.length := rz.length.symm.trans l2
  have hus : us.length ≤ sizeLine := by
    rw [← Paired.length r, sizeLine_eq]
    omega
  refine wpAny_call (MeX.call_x FB (I.kIn _ _ hC) (PySem.W.looks_findIn I.kIn iC) (fun self => PySem.W.bind_fn I.kIn self tI) hus
    (codeAny_mono (F1.run _ X.stack _ _ ⟨Value.ref (hp.objs.size + 1) :: us, ks.zip ws⟩ (g (Value.ref (hp.objs.size + 1) :: us) ws) _ _ E (hr.make C us (ks.zip ws)) (I2.env0.make C us (ks.zip ws)) (hb.to _ (Value.ref (hp.objs.size + 1) :: us) ws I2.kIn e1 e2) r2 hq) fun r s' hq' => ?_))
  cases r with
  | error er => exact hx pins σ _ _ er s' I2 hq'
  | ok fl =>
    cases fl with
    | ret u =>
      obtain ⟨v, H', I3, rv, ev, q3⟩ := I2.after hq'
      subst ev
      exact ⟨rv, ⟨V.ref (hp.objs.size + 1), H', I3, rfl, q3⟩⟩
    | next => exact False.elim hq'
    | brk => exact False.elim hq'
    | cont => exact False.elim hq'
/-- C(e, ..) -/
theorem pe_xmk (T : XCls X.K C ini) (iC : PySem.W.findIn X.K (.ref C) "__init__" = some (some (.ref fI))) (tI : PySem.W.typeIn X.K (.ref fI) = some (.type "function"))
    (F1 : FnOk X.prog X.w X.K X.mg X.base CX k fI fd ps sp) (hr : Room (k + 1) X.A) (hb : KBn X.K fd ps (n + 1) [] g gV) (hx : Passes CX X E) (hg : Gl X x) (hm : X.mg x = some (.ref C)) (ha : PA X (e :: es) t)
    (hdb : (x == ("__debug__" : Str)) = false := by decide) (he : starEach (e :: es) X.env = (false, eval e X.env) :: starEach es X.env := by rfl) (hpl : (backTo pos (starEach es X.env)).any (·.1) = false := by rfl) :
    PE X (.Call (.Name x p) (e :: es) [] pos) (tXmk C n 0 sp gV E t tNil) := by
  refine ⟨fun pins s σ H Q I h => ?_⟩
  refine wpAny_Call_Name_kw (ld_glob I hg hm ?_ hdb)
  refine PySem.W.callWith_K (h₀ := X.base) I.ok.mod.kin T.kC (thn (ha.run pos pins s σ H _ I h) fun us s1 ⟨vs, H1, I1, r1, l1, l2, hn, q⟩ => ⟨I1.kIn, ?_⟩) he hpl
  exact run_xmk (ks := []) (ws := []) (zs := []) T iC tI F1 hr hb hx I1 r1 .nil l1 rfl hn q
/-- C() -/
theorem pe_xmk0 (T : XCls X.K C ini) (iC : PySem.W.findIn X.K (.ref C) "__init__" = some (some (.ref fI))) (tI : PySem.W.typeIn X.K (.ref fI) = some (.type "function"))
    (F1 : FnOk X.prog X.w X.K X.mg X.base CX k fI fd ps sp) (hr : Room (k + 1) X.A) (hb : KBn X.K fd ps 1 [] g gV) (hx : Passes CX X E) (hg : Gl X x) (hm : X.mg x = some (.ref C))
    (hdb : (x == ("__debug__" : Str)) = false := by decide) : PE X (.Call (.Name x p) [] [] pos) (tXmk C 0 0 sp gV E tNil tNil) := by
  refine ⟨fun pins s σ H Q I h => ?_⟩
  refine wpAny_Call_Name_kw (ld_glob I hg hm ?_ hdb)
  obtain ⟨l1, l2, hn, q⟩ := h
  exact PySem.W.callWith_K0 I.kIn T.kC (run_xmk (ks := []) (us := []) (ws := []) (vs := []) (zs := []) T iC tI F1 hr hb hx I .nil .nil rfl rfl hn q)
/-- C(k = v, ..) -/
theorem pe_xmkK (T : XCls X.K C ini) (iC : PySem.W.findIn X.K (.ref C) "__init__" = some (some (.ref fI))) (tI : PySem.W.typeIn X.K (.ref fI) = some (.type "function"))
    (F1 : FnOk X.prog X.w X.K X.mg X.base CX k fI fd ps sp) (hr : Room (k + 1) X.A) (hb : KBn X.K fd ps 1 ks g gV) (hx : Passes CX X E) (hg : Gl X x) (hm : X.mg x = some (.ref C)) (hkw : PK X kws tk)
    (hall : (backToKw pos (keywordEach kws X.env)).all (·.1.isSome) = true := by rfl) (hks : (backToKw pos (keywordEach kws X.env)).filterMap (·.1) = ks := by rfl) (hdb : (x == ("__debug__" : Str)) = false := by decide)
    (hpl : ((backTo pos (starEach [] X.env)).any (·.1) || (backToKw pos (keywordEach kws X.env)).any (·.1.isNone)) = false := by rfl) :
    PE X (.Call (.Name x p) [] kws pos) (tXmk C 0 ks.length sp gV E tNil tk) := by
  refine ⟨fun pins s σ H Q I h => ?_⟩
  refine wpAny_Call_Name_kw (ld_glob I hg hm ?_ hdb)
  refine PySem.W.callWith_KW0 (h₀ := X.base) I.ok.mod.kin T.kC hall ?_ hpl
  refine thn (hkw.run pos pins s σ H _ I h) fun ws s2 ⟨zs, H2, I2, rz, l1, l2, hn, q2⟩ => ⟨I2.kIn, ?_⟩
  rw [hks]
  exact run_xmk (us := []) (vs := []) T iC tI F1 hr hb hx I2 .nil rz rfl l2 hn q2
end
end MeH
set_option Elab.async false
set_option linter.all false
set_option maxRecDepth 100000
set_option maxHeartbeats 4000000
/-! a def that may ask repr of made things: nothing of repr runs around it (guards) -/
namespace MeG
open PySem PySem.Spec PyProof.Rows L2
/-- the def at f keeps the promise sp wherever no repr runs around -/
structure FnG (P : Program) (w : World) (K : PySem.W.Frag) (mg : Str → Option Value) (base : Heap) (CX : CXT) (k : Nat) (f : Addr) (fd : FuncData) (ps : List Str) (sp : Sp) : Prop where
  len : ∀ vs H Q E, sp vs H Q E → vs.length = ps.length
  run : ∀ (A : Around) (outer : List Env) (s : Shared) (H : Hp) (args : Args) (us : List Value) (vs : List V) (Q : VK) (E : XK), A.guards = some [] →
    Room k A → Env0 P w K mg base A outer s H → BindsTo s fd args (ps.zip us) → Vals vs us → sp vs H Q E → codeAny (model P w) A (.call (.ref f) args) (CR CX outer P w H s Q E) s
section
variable {P : Program} {w : World} {K : PySem.W.Frag} {mg : Str → Option Value} {base : Heap} {x qual : Str} {params : Arguments} {body : List Stmt} {scope : Scope} {dvs : List V} {kws : List (Str × V)} {f : Addr} {fd : FuncData}
theorem FnG.of {CX : CXT} {k : Nat} {ps : List Str} {sp : Sp} (F : FnOk P w K mg base CX k f fd ps sp) : FnG P w K mg base CX k f fd ps sp where
  len := F.len
  run := fun A outer s H args us vs Q E _ => F.run A outer s H args us vs Q E
/-- from its body: HandS.Lambda's run_ofS, at these surroundings -/
theorem okG {CX : CXT} {N ps : List Str} {k : Nat} {sp : Sp} (F : FunD K x qual params body scope dvs kws f fd) (S : FnScope N ps scope) (len : ∀ vs H Q E, sp vs H Q E → vs.length = ps.length)
    (hbody : ∀ (cdv : Value) (A : Around) (outer : List Env) (s : Shared) (H : Hp) (vs : List V) (Q : VK) (E : XK), (A.deeper (envOfC qual scope s.heap.objs.size f cdv)).guards = some [] → Room k (A.deeper (envOfC qual scope s.heap.objs.size f cdv)) → sp vs H Q E →
      ∃ t, PSs (cxOf CX P w K mg base N qual scope f cdv A outer s H E) body t ∧ t { nx := fun _ H' => Q .non H', rt := Q } (start N vs) H) : FnG P w K mg base CX (k + 1) f fd ps sp := by
  obtain ⟨_, _, _, _, _, _, _, cdv, _, _, e, lk, hcd, _⟩ := F.ex
  subst e
  exact ⟨len, fun A outer s H args us vs Q E g room env bind vals want => LamX.run_ofS lk hcd S room env bind vals (len _ _ _ _ want) fun room' => hbody cdv A outer s H vs Q E g room' want⟩
end
section
variable {X : Cx} {CX : CXT} {k : Nat} {f : Addr} {fd : FuncData} {ps : List Str} {sp : Sp} {dvs : List V} {ds : List Value} {E : XK} {x : Str} {p pos : Pos} {e : Expr} {es : List Expr} {t : TA}
/-- such a def, called with values -/
theorem run_fnG {pins : List (Addr × Obj)} {σ : L2.St} {H : Hp} {s : Shared} {Q : VK} {us : List Value} {vs : List V} (F : FnG X.prog X.w X.K X.mg X.base CX k f fd ps sp) (hgd : X.A.guards = some []) (room : Room k X.A) (bind : Binds X.K fd ps ds) (dfl : Vals dvs ds) (out : Passes CX X E)
    (I : Inv X pins σ H s) (vals : Vals vs us) (want : sp (vs ++ dvs) H Q E) : wpAny (model X.prog X.w) X.A (call (.ref f) us) (EP X pins σ Q) X.xe s := by
  have both := vals.append dfl
  have count : (us ++ ds).length = ps.length := both.length.symm.trans (F.len _ _ _ _ want)
  have go := F.run X.A X.stack s H ⟨us, []⟩ (us ++ ds) (vs ++ dvs) Q E hgd room I.env0 (bind s us I.kIn count) both want
  refine wpAny_call (codeAny_mono go fun r s' h => ?_)
  match r, h with
  | .ok (.ret _), h => exact I.after h
  | .error e, h => exact out pins σ H s e s' I h
theorem pe_callG (F : FnG X.prog X.w X.K X.mg X.base CX k f fd ps sp) (hgd : X.A.guards = some []) (room : Room k X.A) (hg : Gl X x) (hm : X.mg x = some (.ref f)) (hk : PySem.W.keepIn X.K (.ref f) = true) (bind : Binds X.K fd ps ds) (dfl : Vals dvs ds) (out : Passes CX X E)
    (ha : PA X (e :: es) t) (hdb : (x == ("__debug__" : Str)) = false := by decide) (one : starEach (e :: es) X.env = (false, eval e X.env) :: starEach es X.env := by rfl) (plain : (backTo pos (starEach es X.env)).any (·.1) = false := by rfl) :
    PE X (.Call (.Name x p) (e :: es) [] pos) (tCall sp dvs E t) :=
  ⟨fun pins s σ H _ I h => wpAny_Call_Name_kw (ld_glob I hg hm (PySem.W.callWith_K I.ok.mod.kin hk (thn (ha.run pos pins s σ H _ I h) fun _ _ ⟨_, _, I1, r, q⟩ => ⟨I1.kIn, run_fnG F hgd room bind dfl out I1 r q⟩) one plain) hdb)⟩
end

/-! ### repr over data at any depth, dicts too -/
/-- the written part knows sys.modules, a dict -/
def SysK (K : PySem.W.Frag) : Prop := ∃ o, K.lookup sysModules = some o ∧ o.cls = .type "dict"
theorem notin_app {x : Addr} {as bs : List Addr} (h1 : x ∉ as) (h2 : x ∉ bs) : x ∉ as ++ bs := fun z => (List.mem_append.mp z).elim h1 h2
def kD : Key → PyData
  | .inl i => .int i
  | .inr x => .str x
mutual
inductive Dd (K : PySem.W.Frag) (H : Hp) : V → PyData → Prop
  | non : Dd K H .non .none
  | bl (b : Bool) : Dd K H (.bl b) (.bool b)
  | int (i : Int) : Dd K H (.int i) (.int i)
  | str (x : Str) : Dd K H (.str x) (.str x)
  | lst {a : Addr} {xs : List V} {ds : List PyData} : SqL K H a xs → DdAll K H xs ds → Dd K H (.ref a) (.list ds)
  | tup {a : Addr} {xs : List V} {ds : List PyData} : SqT K H a xs → DdAll K H xs ds → Dd K H (.ref a) (.tuple ds)
  | dic {a : Addr} {kvs : List (Key × V)} {ds : List (PyData × PyData)} : Rd H a (.dK kvs) → DdKv K H kvs ds → Dd K H (.ref a) (.dict ds)
inductive DdAll (K : PySem.W.Frag) (H : Hp) : List V → List PyData → Prop
  | nil : DdAll K H [] []
  | cons {v : V} {vs : List V} {d : PyData} {ds : List PyData} : Dd K H v d → DdAll K H vs ds → DdAll K H (v :: vs) (d :: ds)
inductive DdKv (K : PySem.W.Frag) (H : Hp) : List (Key × V) → List (PyData × PyData) → Prop
  | nil : DdKv K H [] []
  | cons {k : Key} {v : V} {vs : List (Key × V)} {d : PyData} {ds : List (PyData × PyData)} : Dd K H v d → DdKv K H vs ds → DdKv K H ((k, v) :: vs) ((kD k, d) :: ds)
end
theorem kD_reads {h : Heap} {k : Key} {u : Value} (e : keyIs k u = true) : Reads h u (kD k) [] := by
  rcases keyIs_shape e with ⟨i, t, rfl, rfl⟩ | ⟨x, t, rfl, rfl⟩
  · exact Reads.int i t
  · exact Reads.str x t
theorem keys_reads {P : Program} {w : World} {h : Heap} : ∀ {es : List DictEntry} {kvs : List (Key × Value)}, Pairs (mixKind P w) es kvs → ReadsAll h (es.map (·.key)) (kvs.map fun p => kD p.1) []
  | _, _, .nil => ReadsAll.nil
  | _, _, .cons (es := es) (kvs := kvs) h1 _ h3 => ReadsAll.cons (as := []) (bs := []) (kD_reads h1) (keys_reads h3)
theorem pairs_vals {P : Program} {w : World} : ∀ {es : List DictEntry} {kvs : List (Key × Value)}, Pairs (mixKind P w) es kvs → es.map (·.val) = kvs.map (·.2)
  | _, _, .nil => rfl
  | _, _, .cons (es := es) (kvs := kvs) _ h2 h3 => by
    rw [List.map_cons, List.map_cons, h2, pairs_vals h3]
section
variable {X : Cx} {pins : List (Addr × Obj)} {σ : L2.St} {H : Hp} {s : Shared}
theorem sys_ne (I : Inv X pins σ H s) (S : SysK X.K) {a : Addr} {o : Obj} (e : s.heap.get? a = some o) (hc : o.cls ≠ .type "dict") : sysModules ≠ a := by
  obtain ⟨q, hq, c⟩ := S
  intro z
  have e2 := I.kIn _ _ hq
  rw [z, e] at e2
  cases e2
  exact hc c
mutual
theorem Dd.reads (I : Inv X pins σ H s) (S : SysK X.K) : ∀ (d : PyData) (v : V) (u : Value), Dd X.K H v d → RelV v u → ∃ as, Reads s.heap u d as ∧ sysModules ∉ as
  | .none, _, _, h, r => by
    cases h
    cases r
    exact ⟨_, Reads.none, by simp⟩
  | .bool b, _, _, h, r => by
    cases h
    cases r
    exact ⟨_, Reads.bool b, by simp⟩
  | .int i, _, _, h, r => by
    cases h
    obtain ⟨t, rfl⟩ := r
    exact ⟨_, Reads.int i t, by simp⟩
  | .str x, _, _, h, r => by
    cases h
    obtain ⟨t, rfl⟩ := r
    exact ⟨_, Reads.str x t, by simp⟩
  | .list ds, _, _, h, r => by
    cases h with
    | lst hs ha =>
      cases r
      obtain ⟨its, rv, ⟨o, n, ho, hc, _, hd⟩, _⟩ := I.list hs
      obtain ⟨as, hr, hm⟩ := Dd.readsAll I S ds _ its ha rv
      refine ⟨_, Reads.list ho hc hd hr, ?_⟩
      rw [List.mem_cons]
      rintro (z | z)
      · exact sys_ne I S ho (by rw [hc]; decide) z
      · exact hm z
  | .tuple ds, _, _, h, r => by
    cases h with
    | tup hs ha =>
      cases r
      obtain ⟨its, rv, ⟨o, ho, hc, n, hd⟩, _⟩ := I.tuple hs
      obtain ⟨as, hr, hm⟩ := Dd.readsAll I S ds _ its ha rv
      exact ⟨_, Reads.tuple ho hc hd hr, hm⟩
  | .dict ds, _, _, h, r => by
    cases h with
    | dic hs ha =>
      cases r
      obtain ⟨_, hsy, vs, kv, o, es, ep, ho, hx, hd, _, hp, _⟩ := hs.ok I.hok
      obtain ⟨bs, hr, hm, hk⟩ := Dd.readsKv I S ds _ _ ha kv
      refine ⟨_, Reads.dict (as := []) (bs := bs) ho hx.1 hd ?_ ?_, ?_⟩
      · rw [← hk]
        exact keys_reads hp
      · rw [pairs_vals hp]
        exact hr
      · refine notin_app (fun z => ?_) hm
        rw [← List.mem_singleton.mp z] at hsy
        exact absurd hsy (by decide)
theorem Dd.readsAll (I : Inv X pins σ H s) (S : SysK X.K) : ∀ (ds : List PyData) (vs : List V) (us : List Value), DdAll X.K H vs ds → Vals vs us → ∃ as, ReadsAll s.heap us ds as ∧ sysModules ∉ as
  | [], _, _, h, r => by
    cases h
    cases r
    exact ⟨_, ReadsAll.nil, by simp⟩
  | d :: ds, _, _, h, r => by
    cases h with
    | cons h1 h2 =>
      cases r with
      | cons r1 r2 =>
        obtain ⟨as, q1, m1⟩ := Dd.reads I S d _ _ h1 r1
        obtain ⟨bs, q2, m2⟩ := Dd.readsAll I S ds _ _ h2 r2
        exact ⟨_, ReadsAll.cons q1 q2, notin_app m1 m2⟩
theorem Dd.readsKv (I : Inv X pins σ H s) (S : SysK X.K) : ∀ (ds : List (PyData × PyData)) (vs : List (Key × V)) (us : List (Key × Value)), DdKv X.K H vs ds → KV vs us → ∃ as, ReadsAll s.heap (us.map (·.2)) (ds.map (·.2)) as ∧ sysModules ∉ as ∧ us.map (fun p => kD p.1) = ds.map (·.1)
  | [], _, _, h, r => by
    cases h
    cases r
    exact ⟨_, ReadsAll.nil, by simp, rfl⟩
  | (k, d) :: ds, _, _, h, r => by
    cases h with
    | cons h1 h2 =>
      cases r with
      | @cons _ q _ _ r1 r2 =>
        obtain ⟨qk, qv⟩ := q
        obtain ⟨ek, rv⟩ := r1
        dsimp only at ek rv
        subst ek
        obtain ⟨as, q1, m1⟩ := Dd.reads I S d _ _ h1 rv
        obtain ⟨bs, q2, m2, hk⟩ := Dd.readsKv I S ds _ _ h2 r2
        refine ⟨_, ReadsAll.cons q1 q2, notin_app m1 m2, ?_⟩
        rw [List.map_cons, List.map_cons, hk]
end
end
/-- repr(x) -/
def rRepr (K : PySem.W.Frag) : List V → Hp → VK → Prop := fun xs H Q => ∃ (v : V) (d : PyData), xs = [v] ∧ Dd K H v d ∧ d.showable = true ∧ d.depth ≤ 60 ∧ d.shown.length ≤ sizeLine ∧ Q (.str d.shown) H
theorem call_repr {X : Cx} (hgd : X.A.guards = some []) (hu : X.A.units + 64 < cLine) (S : SysK X.K) : CallR X (.builtin "repr") (rRepr X.K) := by
  intro pins s σ H xs us Q I r h
  obtain ⟨v, d, rfl, hd, hs, hdep, hsz, q⟩ := h
  obtain ⟨u, rfl, rv⟩ := vals1 r
  cases hd with
  | non =>
    cases rv
    exact PySem.P.repr_of_none ⟨.str _, H, I.tok _, ⟨_, rfl⟩, q⟩
  | bl b =>
    cases rv
    refine PySem.P.repr_of_bool ⟨.str _, H, I.tok _, ⟨_, rfl⟩, ?_⟩
    cases b <;> exact q
  | int i =>
    obtain ⟨t, rfl⟩ := rv
    exact PySem.P.repr_of_int (of_decide_eq_true hs) ⟨.str _, H, I.tok _, ⟨_, rfl⟩, q⟩
  | str x =>
    obtain ⟨t, rfl⟩ := rv
    exact PySem.P.repr_of_str ⟨.str _, H, I.tok _, ⟨_, rfl⟩, q⟩ hsz
  | lst h1 h2 =>
    obtain ⟨as, r1, m1⟩ := Dd.reads I S _ _ _ (Dd.lst h1 h2) rv
    cases rv
    exact repr_of_reads' r1 hs (fun _ => m1) hgd (by omega) (fun _ _ e => e) (fun h' u tk hk => ⟨.str _, H, I.kept (t' := tk) hk, ⟨_, rfl⟩, q⟩) hsz
  | tup h1 h2 =>
    obtain ⟨as, r1, m1⟩ := Dd.reads I S _ _ _ (Dd.tup h1 h2) rv
    cases rv
    exact repr_of_reads' r1 hs (fun _ => m1) hgd (by omega) (fun _ _ e => e) (fun h' u tk hk => ⟨.str _, H, I.kept (t' := tk) hk, ⟨_, rfl⟩, q⟩) hsz
  | dic h1 h2 =>
    obtain ⟨as, r1, m1⟩ := Dd.reads I S _ _ _ (Dd.dic h1 h2) rv
    cases rv
    exact repr_of_reads' r1 hs (fun _ => m1) hgd (by omega) (fun _ _ e => e) (fun h' u tk hk => ⟨.str _, H, I.kept (t' := tk) hk, ⟨_, rfl⟩, q⟩) hsz
end MeG
set_option Elab.async false
set_option linter.all false
set_option maxRecDepth 100000
set_option maxHeartbeats 4000000
/-! the head's facts, with own error classes -/
namespace MeK
open PySem PySem.Spec PyProof.Rows L2 He MeH MeG
def refsB (bt : List Value) : List Value → Bool
  | .ref _ :: r => refsB bt r
  | l => l == bt
theorem refsB_ok {bt : List Value} : ∀ l : List Value, refsB bt l = true → ∃ cs : List Addr, l = cs.map Value.ref ++ bt
  | [], e => ⟨[], beq_iff_eq.mp e⟩
  | .ref c :: r, e => by
    obtain ⟨cs, q⟩ := refsB_ok r e
    exact ⟨c :: cs, by rw [q]; rfl⟩
  | .none :: _, e => ⟨[], beq_iff_eq.mp e⟩
  | .ellipsis :: _, e => ⟨[], beq_iff_eq.mp e⟩
  | .notImplemented :: _, e => ⟨[], beq_iff_eq.mp e⟩
  | .bool _ :: _, e => ⟨[], beq_iff_eq.mp e⟩
  | .int _ _ :: _, e => ⟨[], beq_iff_eq.mp e⟩
  | .float _ _ :: _, e => ⟨[], beq_iff_eq.mp e⟩
  | .str _ _ :: _, e => ⟨[], beq_iff_eq.mp e⟩
  | .bytes _ _ :: _, e => ⟨[], beq_iff_eq.mp e⟩
  | .type _ :: _, e => ⟨[], beq_iff_eq.mp e⟩
  | .builtin _ :: _, e => ⟨[], beq_iff_eq.mp e⟩
def objB (K : PySem.W.Frag) (C : Addr) (bt : List Value) (newId : String) : Bool := match K.lookup C with
  | some ⟨.type "type", _, .cls cd, sl⟩ => (match cd.mro, sl.toList with
    | .ref C' :: bm, [_, _, _, _, some (.builtin n), _] => C' == C && n == newId && !cd.hasDel && cd.hasDict && refsB bt bm
    | _, _ => false)
  | _ => false
theorem objB_ok {K : PySem.W.Frag} {C : Addr} {bt : List Value} {newId : String} (q : objB K C bt newId = true) :
    ∃ (cs : List Addr) (nm qn : Str) (N : Addr) (bs : List Value) (sn : List Str) (sub : List Value) (ab : Bool) (col : Option Bool) (dd : Option Addr) (k0 k1 k2 k3 k5 : Option Value),
      K.lookup C = some (excClassObj nm qn C N bs (cs.map Value.ref ++ bt) true sn sub ab col dd k0 k1 k2 k3 k5 newId) := by
  unfold objB at q
  split at q
  · rename_i dd cd sl ho
    split at q
    · rename_i C' bm k0 k1 k2 k3 n k5 hm hs
      simp only [Bool.and_eq_true, beq_iff_eq, Bool.not_eq_true'] at q
      obtain ⟨⟨⟨⟨rfl, rfl⟩, hdel⟩, hdi⟩, ht⟩ := q
      obtain ⟨cs, rfl⟩ := refsB_ok _ ht
      obtain ⟨nm, bs, mro, ns, qn, hd, sn, sub, ab, col, del⟩ := cd
      dsimp only at hm hdel hdi
      subst hm hdel hdi
      have hsl : sl = #[k0, k1, k2, k3, some (.builtin n), k5] := by
        obtain ⟨l⟩ := sl
        simp only at hs
        rw [hs]
      subst hsl
      exact ⟨cs, nm, qn, ns, bs, sn, sub, ab, col, dd, k0, k1, k2, k3, k5, ho⟩
    · cases q
  · cases q
/-- the three bases -/
inductive Bk where
  | ve | ke | re
def Bk.bt : Bk → List Value
  | .ve => MeX.tVE
  | .ke => MeX.tKE
  | .re => MeX.tRE
def Bk.newId : Bk → String
  | .ve => "ValueError.__new__"
  | .ke => "LookupError.__new__"
  | .re => "RuntimeError.__new__"
def Bk.ini : Bk → String
  | .ve => "ValueError.__init__"
  | .ke => "KeyError.__init__"
  | .re => "RuntimeError.__init__"
theorem Bk.ok : ∀ b : Bk, ∃ NB IB, MeX.XBase NB b.newId IB b.ini b.bt
  | .ve => ⟨_, _, MeX.baseVE⟩
  | .ke => ⟨_, _, MeX.baseKE⟩
  | .re => ⟨_, _, MeX.baseRE⟩
def oo (a b : Option Bool) : Bool := decide (a = b)
def valB (o : Option PySem.W.CFound) (u : Value) : Bool := match o with
  | some (.val v) => v == u
  | _ => false
theorem valB_ok {o : Option PySem.W.CFound} {u : Value} (h : valB o u = true) : o = some (.val u) := by
  unfold valB at h
  split at h
  · rename_i v
    rw [beq_iff_eq.mp h]
  · cases h
/-- facts by names -/
inductive Fb where
  | fa (f : Fa)
  | xcls (x : Str) (b : Bk)
  | xinit (x : Str)
  | iniC (x : Str) (b : Bk)
  | iniT (T : String) (b : Bk)
  | kit (x y : Str) (r : Bool)
  | kitT (x : Str) (T : String) (r : Bool)
  | sys
def Fb.ok (K : PySem.W.Frag) : Fb → Bool
  | .fa f => f.ok K
  | .xcls x b => objB K (ga K x) b.bt b.newId && (eqO (PySem.W.findIn K (.ref (ga K x)) "__setattr__") (some (some (.builtin "object.__setattr__"))) && (PySem.W.keepIn K (.ref (ga K x)) &&
      (eqO (PySem.W.findIn K (.ref (ga K x)) "__getattribute__") (some (some (.builtin "BaseException.__getattribute__"))) && (eqO (PySem.W.findIn K (.ref (ga K x)) "__getattr__") (some none) &&
      (oo (PySem.W.subIn K (.ref (ga K x)) (.type "BaseException")) (some true) && (PySem.W.hasDictIn K (ga K x) && (eqO (PySem.W.findIn K (.ref (ga K x)) "__class__") (some (some (.builtin "object.__class__"))) &&
      (eqO (PySem.W.specialIn K (.builtin "object.__class__") "__get__") (some (some (.builtin "getset_descriptor.__get__"))) && (oo (PySem.W.takesIn K (.builtin "object.__class__")) (some true) && oo (PySem.W.mroIn K (ga K x) (.type "object")) (some true))))))))))
  | .xinit x => eqO (PySem.W.findIn K (.ref (ga K x)) "__init__") (some (some (.ref (ma K (ga K x) "__init__")))) && decide (PySem.W.typeIn K (.ref (ma K (ga K x) "__init__")) = some (.type "function"))
  | .iniC x b => PySem.W.readsIn K (ga K x) (.type "type") && (eqO (PySem.W.specialIn K (.ref (ga K x)) "__getattribute__") (some (some (.builtin "type.__getattribute__"))) && valB (PySem.W.findCls K (.ref (ga K x)) (.type "type") "__init__") (.builtin b.ini))
  | .iniT T b => valB (PySem.W.findCls K (.type T) (.type "type") "__init__") (.builtin b.ini)
  | .kit x y r => oo (PySem.W.kitOne K (.ref (ga K x)) (.ref (ga K y))) (some r)
  | .kitT x T r => oo (PySem.W.kitOne K (.ref (ga K x)) (.type T)) (some r)
  | .sys => (match K.lookup sysModules with
    | some o => o.cls == .type "dict"
    | none => false)
section
variable {K : PySem.W.Frag} {x y : Str}
theorem xcls_ok {b : Bk} (c : (Fb.xcls x b).ok K = true) : XCls K (ga K x) b.ini := by
  obtain ⟨c1, c⟩ := ba c
  obtain ⟨c2, c⟩ := ba c
  obtain ⟨c3, c⟩ := ba c
  obtain ⟨c4, c⟩ := ba c
  obtain ⟨c5, c⟩ := ba c
  obtain ⟨c6, c⟩ := ba c
  obtain ⟨c7, c⟩ := ba c
  obtain ⟨c8, c⟩ := ba c
  obtain ⟨c9, c⟩ := ba c
  obtain ⟨c10, c11⟩ := ba c
  obtain ⟨NB, IB, F⟩ := b.ok
  obtain ⟨cs, nm, qn, N, bs, sn, sub, ab, col, dd, k0, k1, k2, k3, k5, ho⟩ := objB_ok c1
  exact ⟨⟨NB, b.newId, IB, b.bt, cs, nm, qn, N, bs, sn, sub, ab, col, dd, k0, k1, k2, k3, k5, F, ho⟩, eqO_ok c2, c3, eqO_ok c4, eqO_ok c5, of_decide_eq_true c6, c7, eqO_ok c8, eqO_ok c9, of_decide_eq_true c10, of_decide_eq_true c11⟩
theorem xinit_ok (c : (Fb.xinit x).ok K = true) : PySem.W.findIn K (.ref (ga K x)) "__init__" = some (some (.ref (ma K (ga K x) "__init__"))) ∧ PySem.W.typeIn K (.ref (ma K (ga K x) "__init__")) = some (.type "function") := by
  obtain ⟨c1, c2⟩ := ba c
  exact ⟨eqO_ok c1, of_decide_eq_true c2⟩
theorem iniC_ok {b : Bk} (c : (Fb.iniC x b).ok K = true) : PySem.W.readsIn K (ga K x) (.type "type") = true ∧ PySem.W.specialIn K (.ref (ga K x)) "__getattribute__" = some (some (.builtin "type.__getattribute__")) ∧
    PySem.W.findCls K (.ref (ga K x)) (.type "type") "__init__" = some (.val (.builtin b.ini)) := by
  obtain ⟨c1, c⟩ := ba c
  obtain ⟨c2, c3⟩ := ba c
  exact ⟨c1, eqO_ok c2, valB_ok c3⟩
theorem iniT_ok {T : String} {b : Bk} (c : (Fb.iniT T b).ok K = true) : PySem.W.findCls K (.type T) (.type "type") "__init__" = some (.val (.builtin b.ini)) := valB_ok c
theorem kit_ok {r : Bool} (c : (Fb.kit x y r).ok K = true) : PySem.W.kitOne K (.ref (ga K x)) (.ref (ga K y)) = some r := of_decide_eq_true c
theorem kitT_ok {T : String} {r : Bool} (c : (Fb.kitT x T r).ok K = true) : PySem.W.kitOne K (.ref (ga K x)) (.type T) = some r := of_decide_eq_true c
theorem sys_ok (c : Fb.sys.ok K = true) : SysK K := by
  have c2 : (match K.lookup sysModules with
    | some o => o.cls == .type "dict"
    | none => false) = true := c
  cases e : K.lookup sysModules with
  | none =>
    rw [e] at c2
    cases c2
  | some o =>
    rw [e] at c2
    exact ⟨o, e, beq_iff_eq.mp c2⟩
end
/-! ### the Hook -/
def asX (g : Addr → Option Obj) (n : Nat) : List Addr := sysModules :: cStatics :: asD g n
def obsX (fb : List Fb) (fn : List DefD) (K : PySem.W.Frag) : AlD := ((fb.all fun f => f.ok K) && fn.all fun d => d.ok K, fn.map fun d => fnW K d.at_)
def SaysX (fb : List Fb) (fn : List DefD) (K : PySem.W.Frag) : Prop := obsX fb fn K = valD fn
def obsXG (n : Nat) (fb : List Fb) (fn : List DefD) (g : Addr → Option Obj) : AlD := obsX fb fn (frG g (asX g n))
def hookX (n : Nat) (fb : List Fb) (fn : List DefD) : PySem.W.Hook where
  α := AlD
  obs := fun s => obsXG n fb fn s.heap.get?
  val := fun _ => valD fn
  says := fun _ h => ∃ K : PySem.W.Frag, K.In h ∧ SaysX fb fn K
  of := fun _ _ e => ⟨_, frG_in, e⟩
  keeps := fun _ _ _ ⟨K, hK, c⟩ k => ⟨K, PySem.W.Frag.In.keeps hK k, c⟩
theorem obsXG_eq {n : Nat} {fb : List Fb} {fn : List DefD} {g : Addr → Option Obj} {s : Shared} (h : ∀ a, g a = s.heap.get? a) : obsXG n fb fn g = (hookX n fb fn).obs s := by
  have e : g = s.heap.get? := funext h
  rw [e] <;> rfl
section
variable {fb : List Fb} {fn : List DefD} {K : PySem.W.Frag}
theorem SaysX.fact (c : SaysX fb fn K) {f : Fb} (h : f ∈ fb) : f.ok K = true := by
  have c1 := (ba (show ((fb.all fun f => f.ok K) && fn.all fun d => d.ok K) = true from congrArg (fun z : AlD => z.1) c)).1
  exact List.all_eq_true.mp c1 f h
theorem SaysX.def_ (c : SaysX fb fn K) (i : Nat) {d : DefD} (h : fn[i]? = some d := by rfl) : ∃ fd, FunD K d.name d.qual d.params d.body d.scope (d.dvs K) (d.kws K) (fAd K d.at_) fd := by
  have c2 := (ba (show ((fb.all fun f => f.ok K) && fn.all fun d => d.ok K) = true from congrArg (fun z : AlD => z.1) c)).2
  have e : fn.map (fun d => fnW K d.at_) = fn.map DefD.val := congrArg (fun z : AlD => z.2) c
  have e2 : (fn.map fun d => fnW K d.at_)[i]? = (fn.map DefD.val)[i]? := by rw [e]
  rw [List.getElem?_map, List.getElem?_map, h] at e2
  exact DefD.funD (Option.some.inj e2) (List.all_eq_true.mp c2 d (List.mem_of_getElem? h))
end
end MeK
set_option Elab.async false
set_option linter.all false
set_option maxRecDepth 100000
set_option maxHeartbeats 4000000
/-! what an expression gives, by a word that stays true while the heap grows -/
namespace MeE
open PySem L2 Evl MeH MeG
abbrev VP := V → Hp → Prop
def Mono (P : VP) : Prop := ∀ v H H', Ex H H' → P v H → P v H'
def Gets (te : TE) (σ : L2.St) (H : Hp) (P : VP) : Prop := ∀ H1, Ex H H1 → ∀ Q : VK, (∀ v H2, Ex H1 H2 → P v H2 → Q v H2) → te σ H1 Q
def GetsA (ta : TA) (σ : L2.St) (H : Hp) (P : List V → Hp → Prop) : Prop := ∀ H1, Ex H H1 → ∀ Q : List V → Hp → Prop, (∀ vs H2, Ex H1 H2 → P vs H2 → Q vs H2) → ta σ H1 Q
def Is (w : V) : VP := fun v _ => v = w
def All : List VP → List V → Hp → Prop
  | [], [], _ => True
  | P :: Ps, v :: vs, H => P v H ∧ All Ps vs H
  | _, _, _ => False
def MonoL (Ps : List VP) : Prop := ∀ P ∈ Ps, Mono P
def Lst (Ps : List VP) : VP := fun v H => ∃ (p : Addr) (xs : List V), v = .ref p ∧ H p = some (.lst xs) ∧ All Ps xs H
def Tup (Ps : List VP) : VP := fun v H => ∃ (p : Addr) (xs : List V), v = .ref p ∧ H p = some (.tup xs) ∧ All Ps xs H
theorem mono_is (w : V) : Mono (Is w) := fun _ _ _ _ h => h
theorem monoL_nil : MonoL [] := fun _ h => nomatch h
theorem monoL_cons {P : VP} {Ps : List VP} (h : Mono P) (hs : MonoL Ps) : MonoL (P :: Ps) := fun R hR => (List.mem_cons.mp hR).elim (fun e => e ▸ h) (hs R)
theorem monoL_app {Ps Rs : List VP} (h : MonoL Ps) (hs : MonoL Rs) : MonoL (Ps ++ Rs) := fun R hR => (List.mem_append.mp hR).elim (h R) (hs R)
theorem All.up {H H' : Hp} (e : Ex H H') : ∀ {Ps : List VP} {vs : List V}, MonoL Ps → All Ps vs H → All Ps vs H'
  | [], [], _, _ => trivial
  | [], _ :: _, _, h => h.elim
  | _ :: _, [], _, h => h.elim
  | P :: Ps, v :: vs, m, h => ⟨m P List.mem_cons_self v H H' e h.1, All.up e (fun R hR => m R (List.mem_cons_of_mem _ hR)) h.2⟩
theorem All.len {H : Hp} : ∀ {Ps : List VP} {vs : List V}, All Ps vs H → vs.length = Ps.length
  | [], [], _ => rfl
  | [], _ :: _, h => h.elim
  | _ :: _, [], h => h.elim
  | _ :: _, _ :: _, h => congrArg Nat.succ (All.len h.2)
theorem All.app {H : Hp} : ∀ {Ps Rs : List VP} {vs ws : List V}, All Ps vs H → All Rs ws H → All (Ps ++ Rs) (vs ++ ws) H
  | [], _, [], _, _, h => h
  | [], _, _ :: _, _, h, _ => h.elim
  | _ :: _, _, [], _, h, _ => h.elim
  | _ :: _, _, _ :: _, _, h, k => ⟨h.1, All.app h.2 k⟩
theorem All.get {H : Hp} : ∀ {Ps : List VP} {vs : List V} {i : Nat} {v : V}, All Ps vs H → vs[i]? = some v → ∃ P, Ps[i]? = some P ∧ P v H
  | [], [], _, _, _, e => by simp at e
  | [], _ :: _, _, _, h, _ => h.elim
  | _ :: _, [], _, _, h, _ => h.elim
  | P :: _, w :: _, 0, v, h, e => by
    have e' : w = v := by simpa using e
    exact ⟨P, rfl, e' ▸ h.1⟩
  | _ :: Ps, _ :: vs, i + 1, v, h, e => by
    obtain ⟨R, h1, h2⟩ := All.get (i := i) h.2 (by simpa using e)
    exact ⟨R, by simpa using h1, h2⟩
theorem mono_lst {Ps : List VP} (m : MonoL Ps) : Mono (Lst Ps) := fun _ _ _ e ⟨p, xs, h1, h2, h3⟩ => ⟨p, xs, h1, e _ _ h2, h3.up e m⟩
theorem mono_tup {Ps : List VP} (m : MonoL Ps) : Mono (Tup Ps) := fun _ _ _ e ⟨p, xs, h1, h2, h3⟩ => ⟨p, xs, h1, e _ _ h2, h3.up e m⟩
section
variable {K : PySem.W.Frag} {σ : L2.St} {H H' : Hp} {ta tb te : TE} {P P' R : VP} {r : R2}
theorem Gets.up (e : Ex H H') (h : Gets te σ H P) : Gets te σ H' P := fun H1 a Q q => h H1 (e.trans a) Q q
theorem Gets.imp (h : Gets te σ H P) (k : ∀ v H1, Ex H H1 → P v H1 → R v H1) : Gets te σ H R := fun H1 a Q q => h H1 a Q fun v H2 e p => q v H2 e (k v H2 (a.trans e) p)
theorem Gets.ev {v : V} (h : Gets te σ H (Is v)) : Ev te σ H v := fun H1 a Q q => h H1 a Q fun w H2 e p => by
  have p' : w = v := p
  rw [p']
  exact q H2 e
theorem Ev.gets {v : V} (h : Ev te σ H v) : Gets te σ H (Is v) := fun H1 a Q q => h H1 a Q fun H2 e => q v H2 e rfl
theorem g_var {i : Nat} {v : V} (h : σ[i]? = some (some v)) : Gets (tVar i) σ H (Is v) := Ev.gets (ev_var h)
theorem g_varP {i : Nat} {v : V} (h : σ[i]? = some (some v)) (m : Mono P) (p : P v H) : Gets (tVar i) σ H P := fun H1 a Q q => ⟨v, h, q v H1 (Ex.refl H1) (m _ _ _ a p)⟩
theorem g_c {v : V} : Gets (tC v) σ H (Is v) := Ev.gets ev_c
theorem g_op (ha : Gets ta σ H P) (hb : Gets tb σ H P') (m : Mono P) (hr : ∀ x y H1, Ex H H1 → P x H1 → P' y H1 → ∀ Q : VK, (∀ z H2, Ex H1 H2 → R z H2 → Q z H2) → r x y H1 Q) : Gets (tOp r ta tb) σ H R := fun H1 e Q q =>
  ha H1 e _ fun x H2 e2 px => hb H2 (e.trans e2) _ fun y H3 e3 py => hr x y H3 ((e.trans e2).trans e3) (m _ _ _ e3 px) py Q fun z H4 e4 pz => q z H4 ((e2.trans e3).trans e4) pz
theorem ga_nil : GetsA tNil σ H (All []) := fun H1 _ _ q => q [] H1 (Ex.refl H1) trivial
theorem ga_cons {tr : TA} {Ps : List VP} (h : Gets te σ H P) (m : Mono P) (hr : GetsA tr σ H (All Ps)) : GetsA (tCons te tr) σ H (All (P :: Ps)) := fun H1 e Q q =>
  h H1 e _ fun v H2 e2 p => hr H2 (e.trans e2) _ fun vs H3 e3 ps => q _ H3 (e2.trans e3) ⟨m _ _ _ e3 p, ps⟩
theorem g_lst {t : TA} {Ps : List VP} (h : GetsA t σ H (All Ps)) (m : MonoL Ps) (hl : Ps.length ≤ 1000) : Gets (tLst t) σ H (Lst Ps) := fun H1 e Q q =>
  h H1 e _ fun vs H2 e2 ps => ⟨by rw [ps.len]; exact sz_of (by omega), fun p hp => q _ _ (e2.trans (Ex.new hp)) ⟨p, vs, rfl, upd_same, ps.up (Ex.new hp) m⟩⟩
theorem g_tup {t : TA} {Ps : List VP} (h : GetsA t σ H (All Ps)) (m : MonoL Ps) (hl : Ps.length ≤ 1000) : Gets (tTup t) σ H (Tup Ps) := fun H1 e Q q =>
  h H1 e _ fun vs H2 e2 ps => ⟨by rw [ps.len]; exact sz_of (by omega), fun p hp => q _ _ (e2.trans (Ex.new hp)) ⟨p, vs, rfl, upd_same, ps.up (Ex.new hp) m⟩⟩
theorem g_cat {Ps Rs : List VP} (ha : Gets ta σ H (Lst Ps)) (hb : Gets tb σ H (Lst Rs)) (m : MonoL Ps) (m' : MonoL Rs) (hl : Ps.length + Rs.length ≤ 1000) : Gets (tOp rCat ta tb) σ H (Lst (Ps ++ Rs)) :=
  g_op ha hb (mono_lst m) fun x y H1 e px py Q q => by
    obtain ⟨p, xs, rfl, hp, ax⟩ := px
    obtain ⟨b, ys, rfl, hb', ay⟩ := py
    exact ⟨p, b, xs, ys, rfl, rfl, hp, hb', by rw [ax.len, ay.len]; exact sz_of (by omega), fun c hc => q _ _ (Ex.new hc) ⟨c, xs ++ ys, rfl, upd_same, (ax.app ay).up (Ex.new hc) (monoL_app m m')⟩⟩
/-- a call by values -/
theorem g_cb {rr : List V → Hp → VK → Prop} {t : TA} {Ps : List VP} (h : GetsA t σ H (All Ps)) (hr : ∀ vs H1, Ex H H1 → All Ps vs H1 → ∀ Q : VK, (∀ z H2, Ex H1 H2 → R z H2 → Q z H2) → rr vs H1 Q) : Gets (tCB rr t) σ H R := fun H1 e Q q =>
  h H1 e _ fun vs H2 e2 ps => hr vs H2 (e.trans e2) ps Q fun z H3 e3 pz => q z H3 (e2.trans e3) pz
/-- a call of a def -/
theorem g_call {sp : Sp} {dvs : List V} {E : XK} {t : TA} {Ps : List VP} (h : GetsA t σ H (All Ps)) (hr : ∀ vs H1, Ex H H1 → All Ps vs H1 → ∀ Q : VK, (∀ z H2, Ex H1 H2 → R z H2 → Q z H2) → sp (vs ++ dvs) H1 Q E) : Gets (tCall sp dvs E t) σ H R := fun H1 e Q q =>
  h H1 e _ fun vs H2 e2 ps => hr vs H2 (e.trans e2) ps Q fun z H3 e3 pz => q z H3 (e2.trans e3) pz
theorem all1 {A : VP} {vs : List V} (h : All [A] vs H) : ∃ a, vs = [a] ∧ A a H := by
  match vs, h with
  | [a], h => exact ⟨a, rfl, h.1⟩
theorem all2 {A B : VP} {vs : List V} (h : All [A, B] vs H) : ∃ a b, vs = [a, b] ∧ A a H ∧ B b H := by
  match vs, h with
  | [a, b], h => exact ⟨a, b, rfl, h.1, h.2.1⟩
theorem all3 {A B C : VP} {vs : List V} (h : All [A, B, C] vs H) : ∃ a b c, vs = [a, b, c] ∧ A a H ∧ B b H ∧ C c H := by
  match vs, h with
  | [a, b, c], h => exact ⟨a, b, c, rfl, h.1, h.2.1, h.2.2.1⟩
theorem et_g {b : Bool} (h : Gets te σ H (Is (.bl b))) : EvT (tTest te) σ H b := et_test h.ev
theorem etB_g {b : Bool} (h : Gets te σ H (Is (.bl b))) : EvT (tB te) σ H b := et_B h.ev
/-! statements -/
variable {D : Ends} {tu tw tz : TS}
theorem w_asg {i : Nat} (h : Gets te σ H P) (k : ∀ v H1, Ex H H1 → P v H1 → D.nx (σ.set i (some v)) H1) : tAsg te (gName i) D σ H := h H (Ex.refl H) _ k
theorem w_ret (h : Gets te σ H P) (k : ∀ v H1, Ex H H1 → P v H1 → D.rt v H1) : tRet te D σ H := h H (Ex.refl H) _ k
theorem w_drop (h : Gets te σ H P) (k : ∀ v H1, Ex H H1 → P v H1 → D.nx σ H1) : tDrop te D σ H := h H (Ex.refl H) _ k
end
/-! ### errors as values -/
def XV (C : Addr) (fs : List (Str × V)) : VP := fun v H => ∃ a dx, v = .ref a ∧ H a = some (exo a C (some dx)) ∧ H dx = some (exd dx fs)
theorem mono_xv (C : Addr) (fs : List (Str × V)) : Mono (XV C fs) := fun _ _ _ e ⟨a, dx, h1, h2, h3⟩ => ⟨a, dx, h1, e _ _ h2, e _ _ h3⟩
/-- __init__ that stores one field -/
def spI1 (C : Addr) (f : Str) : Sp := fun vs H Q _ => ∃ (a : Addr) (v : V), vs = [.ref a, v] ∧ H a = some (exo a C none) ∧ ∀ dx, H dx = none → dx ≠ a → Q .non (upd (upd H dx (exd dx [(f, v)])) a (exo a C (some dx)))
def spI2 (C : Addr) (f f2 : Str) : Sp := fun vs H Q _ => ∃ (a : Addr) (v w : V), vs = [.ref a, v, w] ∧ H a = some (exo a C none) ∧ ∀ dx, H dx = none → dx ≠ a → Q .non (upd (upd H dx (exd dx [(f2, w), (f, v)])) a (exo a C (some dx)))
def spI0 (C : Addr) : Sp := fun vs H Q _ => ∃ (a : Addr), vs = [.ref a] ∧ H a = some (exo a C none) ∧ Q .non H
/-- an error without a dict -/
def X0 (C : Addr) : VP := fun v H => ∃ a, v = .ref a ∧ H a = some (exo a C none)
theorem mono_x0 (C : Addr) : Mono (X0 C) := fun _ _ _ e ⟨a, h1, h2⟩ => ⟨a, h1, e _ _ h2⟩
theorem ex_made {H H2 : Hp} {a dx C : Addr} {fs : List (Str × V)} (ha : H a = none) (hd : upd H a (exo a C none) dx = none) (hne : dx ≠ a) :
    Ex H (upd (upd (upd H a (exo a C none)) dx (exd dx fs)) a (exo a C (some dx))) := fun b o e => by
  have nb : b ≠ a := ne_of_none e ha
  have nd : b ≠ dx := ne_of_none e (by rw [upd_ne hne] at hd; exact hd)
  rw [upd_ne nb, upd_ne nd, upd_ne nb]
  exact e
section
variable {σ : L2.St} {H : Hp} {C : Addr} {E : XK} {t tk : TA} {f f2 : Str} {v w : V}
/-- C(e): by place -/
theorem g_x1 {gV : List V → List V → List V} (ht : GetsA t σ H (All [Is v])) (hg : ∀ a : Addr, gV [.ref a, v] [] = [.ref a, v]) : Gets (tXmk C 1 0 (spI1 C f) gV E t tNil) σ H (XV C [(f, v)]) := fun H1 e Q q =>
  ht H1 e _ fun vs H2 e2 ps => by
    obtain ⟨z, rfl, pz⟩ := all1 ps
    have pz' : z = v := pz
    subst pz'
    refine ⟨rfl, rfl, by decide, fun a ha => ?_⟩
    rw [hg a]
    exact ⟨a, z, rfl, upd_same, fun dx hd hne => ⟨rfl, q _ _ (e2.trans (ex_made (H2 := H2) ha hd hne)) ⟨a, dx, rfl, upd_same, by rw [upd_ne hne, upd_same]⟩⟩⟩
/-- C(k = e): by name -/
theorem g_x1k {gV : List V → List V → List V} (ht : GetsA tk σ H (All [Is v])) (hg : ∀ a : Addr, gV [.ref a] [v] = [.ref a, v]) : Gets (tXmk C 0 1 (spI1 C f) gV E tNil tk) σ H (XV C [(f, v)]) := fun H1 e Q q =>
  ht H1 e _ fun vs H2 e2 ps => by
    obtain ⟨z, rfl, pz⟩ := all1 ps
    have pz' : z = v := pz
    subst pz'
    refine ⟨rfl, rfl, by decide, fun a ha => ?_⟩
    rw [hg a]
    exact ⟨a, z, rfl, upd_same, fun dx hd hne => ⟨rfl, q _ _ (e2.trans (ex_made (H2 := H2) ha hd hne)) ⟨a, dx, rfl, upd_same, by rw [upd_ne hne, upd_same]⟩⟩⟩
theorem g_x2 {gV : List V → List V → List V} (ht : GetsA t σ H (All [Is v, Is w])) (hg : ∀ a : Addr, gV [.ref a, v, w] [] = [.ref a, v, w]) : Gets (tXmk C 2 0 (spI2 C f f2) gV E t tNil) σ H (XV C [(f2, w), (f, v)]) := fun H1 e Q q =>
  ht H1 e _ fun vs H2 e2 ps => by
    obtain ⟨z, z2, rfl, pz, pw⟩ := all2 ps
    have pz' : z = v := pz
    have pw' : z2 = w := pw
    subst pz' pw'
    refine ⟨rfl, rfl, by decide, fun a ha => ?_⟩
    rw [hg a]
    exact ⟨a, z, z2, rfl, upd_same, fun dx hd hne => ⟨rfl, q _ _ (e2.trans (ex_made (H2 := H2) ha hd hne)) ⟨a, dx, rfl, upd_same, by rw [upd_ne hne, upd_same]⟩⟩⟩
theorem g_x2k {gV : List V → List V → List V} {p q0 : V} (ht : GetsA tk σ H (All [Is p, Is q0])) (hg : ∀ a : Addr, gV [.ref a] [p, q0] = [.ref a, v, w]) : Gets (tXmk C 0 2 (spI2 C f f2) gV E tNil tk) σ H (XV C [(f2, w), (f, v)]) := fun H1 e Q q =>
  ht H1 e _ fun vs H2 e2 ps => by
    obtain ⟨z, z2, rfl, pz, pw⟩ := all2 ps
    have pz' : z = p := pz
    have pw' : z2 = q0 := pw
    subst pz' pw'
    refine ⟨rfl, rfl, by decide, fun a ha => ?_⟩
    rw [hg a]
    exact ⟨a, v, w, rfl, upd_same, fun dx hd hne => ⟨rfl, q _ _ (e2.trans (ex_made (H2 := H2) ha hd hne)) ⟨a, dx, rfl, upd_same, by rw [upd_ne hne, upd_same]⟩⟩⟩
theorem g_x0 {gV : List V → List V → List V} (hg : ∀ a : Addr, gV [.ref a] [] = [.ref a]) : Gets (tXmk C 0 0 (spI0 C) gV E tNil tNil) σ H (X0 C) := fun H1 e Q q => by
  refine ⟨rfl, rfl, by decide, fun a ha => ?_⟩
  rw [hg a]
  exact ⟨a, rfl, upd_same, rfl, q _ _ (Ex.new ha) ⟨a, rfl, upd_same⟩⟩
/-- e.f -/
theorem g_xfl {K : PySem.W.Frag} {ini : String} {to : TE} {fs : List (Str × V)} (ho : Gets to σ H (XV C fs)) (T : XCls K C ini) (hno : PySem.W.findIn K (.ref C) f = some none) (hl : fs.lookup f = some v) : Gets (tXfl K f to) σ H (Is v) := fun H1 e Q q =>
  ho H1 e _ fun x H2 e2 ⟨a, dx, h1, h2, h3⟩ => ⟨a, C, ini, dx, fs, v, h1, T, hno, h2, h3, hl, q v H2 e2 rfl⟩
/-- an error of the class C, with a dict or without -/
def XA (C : Addr) : VP := fun v H => ∃ (a : Addr) (d : Option Addr), v = .ref a ∧ H a = some (exo a C d) ∧ ∀ dx, d = some dx → ∃ fs, H dx = some (exd dx fs)
theorem mono_xa (C : Addr) : Mono (XA C) := fun _ _ _ e ⟨a, d, h1, h2, h3⟩ => ⟨a, d, h1, e _ _ h2, fun dx q => let ⟨fs, r⟩ := h3 dx q; ⟨fs, e _ _ r⟩⟩
theorem xa_of {fs : List (Str × V)} {x : V} (h : XV C fs x H) : XA C x H := by
  obtain ⟨a, dx, h1, h2, h3⟩ := h
  refine ⟨a, some dx, h1, h2, fun d q => ?_⟩
  cases q
  exact ⟨fs, h3⟩
theorem xa_of0 {x : V} (h : X0 C x H) : XA C x H := by
  obtain ⟨a, h1, h2⟩ := h
  exact ⟨a, none, h1, h2, fun d q => nomatch q⟩
/-- isinstance(e, c) -/
theorem g_xis {K : PySem.W.Frag} {ini : String} {te : TE} {c : V} {u : Value} {b : Bool} (he : Gets te σ H (XA C)) (T : XCls K C ini) (hc : ClsV c u) (hk : PySem.W.kitOne K (.ref C) u = some b) : Gets (tCB (rXis K) (tCons te (tCons (tC c) tNil))) σ H (Is (.bl b)) := fun H1 e Q q =>
  he H1 e _ fun x H2 e2 ⟨a, d, h1, h2, h3⟩ => by
    subst h1
    exact ⟨a, C, ini, d, c, u, b, rfl, hc, T, h2, h3, hk, q _ H2 e2 rfl⟩
end
end MeE
set_option Elab.async false
set_option linter.all false
set_option maxRecDepth 100000
set_option maxHeartbeats 4000000
/-! data at any depth, items by place, equality, repr, loops, over the words of MeE -/
namespace MeE
open PySem L2 Evl MeH MeG
variable {K : PySem.W.Frag}
def DP (K : PySem.W.Frag) (d : PyData) : VP := fun v H => Dp K H v d
def DV (K : PySem.W.Frag) (d : PyData) : VP := fun v H => Dd K H v d
mutual
theorem Dp.up {H H' : Hp} (e : Ex H H') : ∀ {v : V} {d : PyData}, Dp K H v d → Dp K H' v d
  | _, _, .non => .non
  | _, _, .bl b => .bl b
  | _, _, .int i => .int i
  | _, _, .str x => .str x
  | _, _, .lst h k => .lst (ex_l e h) (DpAll.up e k)
  | _, _, .tup h k => .tup (ex_t e h) (DpAll.up e k)
theorem DpAll.up {H H' : Hp} (e : Ex H H') : ∀ {vs : List V} {ds : List PyData}, DpAll K H vs ds → DpAll K H' vs ds
  | _, _, .nil => .nil
  | _, _, .cons h k => .cons (Dp.up e h) (DpAll.up e k)
end
mutual
theorem Dd.up {H H' : Hp} (e : Ex H H') : ∀ {v : V} {d : PyData}, Dd K H v d → Dd K H' v d
  | _, _, .non => .non
  | _, _, .bl b => .bl b
  | _, _, .int i => .int i
  | _, _, .str x => .str x
  | _, _, .lst h k => .lst (ex_l e h) (DdAll.up e k)
  | _, _, .tup h k => .tup (ex_t e h) (DdAll.up e k)
  | _, _, .dic h k => .dic (ex_rd e h) (DdKv.up e k)
theorem DdAll.up {H H' : Hp} (e : Ex H H') : ∀ {vs : List V} {ds : List PyData}, DdAll K H vs ds → DdAll K H' vs ds
  | _, _, .nil => .nil
  | _, _, .cons h k => .cons (Dd.up e h) (DdAll.up e k)
theorem DdKv.up {H H' : Hp} (e : Ex H H') : ∀ {vs : List (Key × V)} {ds : List (PyData × PyData)}, DdKv K H vs ds → DdKv K H' vs ds
  | _, _, .nil => .nil
  | _, _, .cons h k => .cons (Dd.up e h) (DdKv.up e k)
end
theorem mono_dp (d : PyData) : Mono (DP K d) := fun _ _ _ e h => Dp.up e h
theorem mono_dv (d : PyData) : Mono (DV K d) := fun _ _ _ e h => Dd.up e h
theorem mono_dps (ds : List PyData) : MonoL (ds.map (DP K)) := fun R hR => by
  obtain ⟨d, _, rfl⟩ := List.mem_map.mp hR
  exact mono_dp d
theorem mono_dvs (ds : List PyData) : MonoL (ds.map (DV K)) := fun R hR => by
  obtain ⟨d, _, rfl⟩ := List.mem_map.mp hR
  exact mono_dv d
theorem dp_all {H : Hp} : ∀ {ds : List PyData} {xs : List V}, All (ds.map (DP K)) xs H → DpAll K H xs ds
  | [], [], _ => .nil
  | [], _ :: _, h => h.elim
  | _ :: _, [], h => h.elim
  | _ :: _, _ :: _, h => .cons h.1 (dp_all h.2)
theorem dv_all {H : Hp} : ∀ {ds : List PyData} {xs : List V}, All (ds.map (DV K)) xs H → DdAll K H xs ds
  | [], [], _ => .nil
  | [], _ :: _, h => h.elim
  | _ :: _, [], h => h.elim
  | _ :: _, _ :: _, h => .cons h.1 (dv_all h.2)
theorem dp_lst {H : Hp} {ds : List PyData} {v : V} (h : Lst (ds.map (DP K)) v H) : DP K (.list ds) v H := by
  obtain ⟨p, xs, rfl, h2, h3⟩ := h
  exact .lst (sq_of h2) (dp_all h3)
theorem dv_lst {H : Hp} {ds : List PyData} {v : V} (h : Lst (ds.map (DV K)) v H) : DV K (.list ds) v H := by
  obtain ⟨p, xs, rfl, h2, h3⟩ := h
  exact .lst (sq_of h2) (dv_all h3)
theorem dv_tup {H : Hp} {ds : List PyData} {v : V} (h : Tup (ds.map (DV K)) v H) : DV K (.tuple ds) v H := by
  obtain ⟨p, xs, rfl, h2, h3⟩ := h
  exact .tup (st_of h2) (dv_all h3)
theorem dp_ints {H : Hp} : ∀ ns : List Int, DpAll K H (ns.map V.int) (ns.map PyData.int)
  | [] => .nil
  | n :: ns => .cons (.int n) (dp_ints ns)
theorem dp_bls {H : Hp} : ∀ bs : List Bool, DpAll K H (bs.map V.bl) (bs.map PyData.bool)
  | [] => .nil
  | b :: bs => .cons (.bl b) (dp_bls bs)
section
variable {σ : L2.St} {H : Hp} {ta tb te : TE} {P R : VP}
theorem gd_nil : GetsA tNil σ H (All (([] : List PyData).map (DP K))) := ga_nil
theorem gd_cons {d : PyData} {ds : List PyData} {tr : TA} (h : Gets te σ H (DP K d)) (hr : GetsA tr σ H (All (ds.map (DP K)))) : GetsA (tCons te tr) σ H (All ((d :: ds).map (DP K))) := ga_cons h (mono_dp d) hr
theorem gd_lst {ds : List PyData} {t : TA} (h : GetsA t σ H (All (ds.map (DP K)))) (hl : ds.length ≤ 1000) : Gets (tLst t) σ H (DP K (.list ds)) :=
  (g_lst h (mono_dps ds) (by rw [List.length_map]; exact hl)).imp fun v H1 _ p => dp_lst p
theorem gd_int {i : Int} : Gets (tC (.int i)) σ H (DP K (.int i)) := fun H1 e Q q => q _ H1 (Ex.refl H1) (Dp.int i)
theorem gd_bl {b : Bool} : Gets (tC (.bl b)) σ H (DP K (.bool b)) := fun H1 e Q q => q _ H1 (Ex.refl H1) (Dp.bl b)
theorem gd_of {v : V} {d : PyData} (h : Gets te σ H (Is v)) (k : ∀ H1, Ex H H1 → Dp K H1 v d) : Gets te σ H (DP K d) := h.imp fun w H1 e p => by
  have p' : w = v := p
  rw [p']
  exact k H1 e
/-- xs[j] -/
theorem g_ix {Ps : List VP} {j : Nat} (ha : Gets ta σ H (Lst Ps)) (m : MonoL Ps) (hb : Gets tb σ H (Is (.int (j : Nat)))) (hj : Ps[j]? = some P) : Gets (tOp (rIxL K) ta tb) σ H P :=
  g_op ha hb (mono_lst m) fun x y H1 e px py Q q => by
    obtain ⟨p, xs, rfl, hp, ax⟩ := px
    have py' : y = .int (j : Nat) := py
    subst py'
    have hlt : j < xs.length := by
      rw [ax.len]
      exact (List.getElem?_eq_some_iff.mp hj).1
    obtain ⟨P', h1, h2⟩ := ax.get (List.getElem?_eq_getElem hlt)
    rw [hj] at h1
    cases h1
    exact ⟨p, xs, (j : Nat), xs[j], rfl, rfl, sq_of hp, atI_nat (List.getElem?_eq_getElem hlt), q _ H1 (Ex.refl H1) h2⟩
theorem g_neD {d e : PyData} (ha : Gets ta σ H (DP K d)) (hb : Gets tb σ H (DP K e)) (hd : SeqAt.shaped d = true) (he : SeqAt.shaped e = true) : Gets (tOp (rNeD K) ta tb) σ H (Is (.bl (!PyData.eqv d e))) :=
  g_op ha hb (mono_dp d) fun x y H1 _ px py Q q => ⟨d, e, px, py, hd, he, q _ H1 (Ex.refl H1) rfl⟩
theorem g_eqD {d e : PyData} (ha : Gets ta σ H (DP K d)) (hb : Gets tb σ H (DP K e)) (hd : SeqAt.shaped d = true) (he : SeqAt.shaped e = true) : Gets (tOp (rEqD K) ta tb) σ H (Is (.bl (PyData.eqv d e))) :=
  g_op ha hb (mono_dp d) fun x y H1 _ px py Q q => ⟨d, e, px, py, hd, he, q _ H1 (Ex.refl H1) rfl⟩
theorem eqv_shaped {d : PyData} (h : SeqAt.shaped d = true) : PyData.eqv d d = true := SeqAt.eqv_refl d (SeqAt.canLay_of_shaped h)
theorem g_ne {x y : V} (ha : Gets ta σ H (Is x)) (hb : Gets tb σ H (Is y)) (hs : scal x y = true) : Gets (tOp rNe ta tb) σ H (Is (.bl (!decide (x = y)))) := Ev.gets (ev_op ha.ev hb.ev (rv_ne hs))
/-- repr(e) -/
theorem g_repr {d : PyData} (h : Gets te σ H (DV K d)) (hs : d.showable = true) (hd : d.depth ≤ 60) (hl : d.shown.length ≤ sizeLine) : Gets (tCB (rRepr K) (tCons te tNil)) σ H (Is (.str d.shown)) := fun H1 e Q q =>
  h H1 e _ fun v H2 e2 p => ⟨v, d, rfl, p, hs, hd, hl, q _ H2 e2 rfl⟩
theorem g_rep {Ps : List VP} {k : Nat} (ha : Gets ta σ H (Lst Ps)) (m : MonoL Ps) (hb : Gets tb σ H (Is (.int (k : Nat)))) (hk : k ≤ 100) (hl : Ps.length ≤ 100) : Gets (tOp rRep ta tb) σ H (Lst (List.replicate k Ps).flatten) :=
  g_op ha hb (mono_lst m) fun x y H1 e px py Q q => by
    obtain ⟨p, xs, rfl, hp, ax⟩ := px
    have py' : y = .int (k : Nat) := py
    subst py'
    have al : ∀ n : Nat, All (List.replicate n Ps).flatten (List.replicate n xs).flatten H1 := fun n => by
      induction n with
      | zero => exact trivial
      | succ n ih =>
        rw [List.replicate_succ, List.replicate_succ, List.flatten_cons, List.flatten_cons]
        exact ax.app ih
    have ml : ∀ n : Nat, MonoL (List.replicate n Ps).flatten := fun n => by
      induction n with
      | zero => exact monoL_nil
      | succ n ih =>
        rw [List.replicate_succ, List.flatten_cons]
        exact monoL_app m ih
    have hz : xs.length * k ≤ 100 * 100 := Nat.mul_le_mul (by rw [ax.len]; exact hl) hk
    have hsz : sizeLine = 16777216 := sizeLine_eq
    exact ⟨p, (k : Nat), xs, rfl, rfl, hp, by omega, by omega, by rw [Int.toNat_natCast]; omega, fun c hc => q _ _ (Ex.new hc) ⟨c, _, rfl, upd_same, by rw [Int.toNat_natCast]; exact (al k).up (Ex.new hc) (ml k)⟩⟩
/-! loops over a new list, over its places -/
variable {D : Ends} {tu : TS} {g : TG} {tl : TE}
theorem w_forL {Ps : List VP} (h : Gets tl σ H (Lst Ps)) (m : MonoL Ps) (S : Nat → L2.St → Prop) (h0 : S 0 σ)
    (hs : ∀ i x P σ' H', Ex H H' → Ps[i]? = some P → P x H' → S i σ' → ∀ N : L2.St → Hp → Prop, (∀ σ3 H3, Ex H' H3 → S (i + 1) σ3 → N σ3 H3) → g x σ' H' fun σ2 H2 => tu { D with nx := N, ct := N, bk := D.nx } σ2 H2)
    (hd : ∀ σ' H', Ex H H' → S Ps.length σ' → D.nx σ' H') : tFor (iList K tl) g tu D σ H :=
  h H (Ex.refl H) _ fun v H1 e1 ⟨p, xs, hv, hp, ax⟩ => by
    subst hv
    refine ⟨p, rfl, ⟨xs, sq_of hp⟩, for_list (xs := xs) (fun i σ' H' => Ex H1 H' ∧ S i σ') ⟨Ex.refl H1, h0⟩ (fun i σ' H' _ q => sq_of (q.1 _ _ hp)) (fun i x σ' H' hx q => ?_) fun σ' H' q => hd σ' H' (e1.trans q.1) (by rw [← ax.len]; exact q.2)⟩
    obtain ⟨P, h1, h2⟩ := (ax.up q.1 m).get hx
    exact hs i x P σ' H' (e1.trans q.1) h1 h2 q.2 _ fun σ3 H3 e3 s3 => ⟨q.1.trans e3, s3⟩
/-- over a list that stands -/
theorem w_forV {a : Addr} {xs : List V} (h : Gets tl σ H (Is (.ref a))) (hx : SqL K H a xs) (S : Nat → L2.St → Prop) (h0 : S 0 σ)
    (hs : ∀ i x σ' H', Ex H H' → xs[i]? = some x → S i σ' → ∀ N : L2.St → Hp → Prop, (∀ σ3 H3, Ex H' H3 → S (i + 1) σ3 → N σ3 H3) → g x σ' H' fun σ2 H2 => tu { D with nx := N, ct := N, bk := D.nx } σ2 H2)
    (hd : ∀ σ' H', Ex H H' → S xs.length σ' → D.nx σ' H') : tFor (iList K tl) g tu D σ H :=
  h H (Ex.refl H) _ fun v H1 e1 hv => by
    have hv' : v = .ref a := hv
    subst hv'
    refine ⟨a, rfl, ⟨xs, ex_l e1 hx⟩, for_list (xs := xs) (fun i σ' H' => Ex H1 H' ∧ S i σ') ⟨Ex.refl H1, h0⟩ (fun i σ' H' _ q => ex_l (e1.trans q.1) hx) (fun i x σ' H' hx' q => ?_) fun σ' H' q => hd σ' H' (e1.trans q.1) q.2⟩
    exact hs i x σ' H' (e1.trans q.1) hx' q.2 _ fun σ3 H3 e3 s3 => ⟨q.1.trans e3, s3⟩
/-- for i, x in enumerate(l), l a list that stands -/
theorem w_forE {t : TA} {a : Addr} {xs : List V} (h : GetsA t σ H (All [Is (.ref a)])) (hx : SqL K H a xs) (S : Nat → L2.St → Prop) (h0 : S 0 σ)
    (hs : ∀ i x T σ' H', Ex H H' → xs[i]? = some x → H' T = some (.tup [.int (i : Nat), x]) → S i σ' → ∀ N : L2.St → Hp → Prop, (∀ σ3 H3, Ex H' H3 → S (i + 1) σ3 → N σ3 H3) → g (.ref T) σ' H' fun σ2 H2 => tu { D with nx := N, ct := N, bk := D.nx } σ2 H2)
    (hd : ∀ σ' H', Ex H H' → S xs.length σ' → D.nx σ' H') : tFor (iEnum K t) g tu D σ H :=
  h H (Ex.refl H) _ fun vs H1 e1 ps => by
    obtain ⟨v, rfl, hv⟩ := all1 ps
    have hv' : v = .ref a := hv
    subst hv'
    refine ⟨a, xs, rfl, ex_l e1 hx, for_it walk_enum (fun i σ' H' => Ex H1 H' ∧ S i σ') ⟨Ex.refl H1, h0⟩ (fun i σ' H' _ q => ex_l (e1.trans q.1) hx) (fun i x σ' H' H'' hi q y => ?_) fun σ' H' q => hd σ' H' (e1.trans q.1) q.2⟩
    obtain ⟨T, i', x', rfl, hT, rfl, ei, ex⟩ := y
    have ei' : i' = .int (i : Nat) := (Option.some.inj ei).symm
    subst ei'
    exact hs i x' T σ' _ ((e1.trans q.1).trans (Ex.new hT)) ex upd_same q.2 _ fun σ3 H3 e3 s3 => ⟨(q.1.trans (Ex.new hT)).trans e3, s3⟩
/-- for i in range(n) -/
theorem w_forR {ta : TA} {j : Nat} {n : Int} (h : EvA ta σ H [.int n]) (hn : 0 ≤ n ∧ n ≤ 100000) (S : Nat → L2.St → Prop) (h0 : S 0 σ)
    (hs : ∀ (i : Nat) σ' H', Ex H H' → (i : Int) < n → S i σ' → ∀ N : L2.St → Hp → Prop, (∀ σ3 H3, Ex H' H3 → S (i + 1) σ3 → N σ3 H3) → tu { D with nx := N, ct := N, bk := D.nx } (σ'.set j (some (.int (i : Int)))) H')
    (hd : ∀ σ' H', Ex H H' → S n.toNat σ' → D.nx σ' H') : tFor (iRng1 ta) (gName j) tu D σ H :=
  s_forR1 h hn (fun i σ' H' => Ex H H' ∧ S i σ') (fun H1 e => ⟨e, h0⟩) (fun i σ' H' hi q => hs i σ' H' q.1 hi q.2 _ fun σ3 H3 e3 s3 => ⟨q.1.trans e3, s3⟩) fun σ' H' q => hd σ' H' q.1 q.2
end
end MeE
set_option Elab.async false
set_option linter.all false
set_option maxRecDepth 100000
set_option maxHeartbeats 4000000
/-! lambdas as values that the heap knows; a def read at the place of its call; the end with tables and guards -/
namespace MeL
open PySem PySem.Spec PyProof.Rows L2 LamX MeG
/-- at f: a lambda -/
def LamO (f c' : Addr) (q : Str) (params : Arguments) (body : Expr) (scope : Scope) (cl : List (Str × Addr)) : HO :=
  .ext fun h => ∃ pm ctv : Value, h.get? f = some (PySem.W.kla_obj "<lambda>" q params body scope cl pm c' ctv)
theorem lamO_ok {P : Program} {w : World} {H : Hp} {h : Heap} {f c' : Addr} {q : Str} {params : Arguments} {body : Expr} {scope : Scope} {cl : List (Str × Addr)} {pm ctv : Value}
    (e : h.get? f = some (PySem.W.kla_obj "<lambda>" q params body scope cl pm c' ctv)) : ObjOk P w H h f (LamO f c' q params body scope cl) :=
  ⟨⟨pm, ctv, e⟩, ⟨_, e⟩, fun h1 h2 ⟨pm, ctv, z⟩ k => ⟨pm, ctv, k _ z⟩⟩
theorem lamO_tbl {f c' : Addr} {q : Str} {params : Arguments} {body : Expr} {scope : Scope} {cl : List (Str × Addr)} (ps : Array Value) : LamO f c' q params body scope cl ≠ .tbl ps := fun z => by
  unfold LamO at z
  cases z
/-- lambda: body -/
def tLamV (T : List (Addr × Str)) (q : Str) (params : Arguments) (body : Expr) (scope : Scope) (cl : List (Str × Addr)) : TE := fun _ H Q => Tabs T H ∧
  ∀ (f c' : Addr) (H1 : Hp), H f = none → ExtN H H1 → Tabs T H1 → H1 f = some (LamO f c' q params body scope cl) → H1 c' = some (CodeO c' q) → Q (.ref f) H1
/-- a row is written behind a table: its code object at c' is told from now on -/
abbrev rowOf (pos : Pos) (c' : Addr) : Array Value := #[rawInt pos.line, rawInt pos.col, .ref c']
theorem row_in {q : Str} {pos : Pos} {c' P : Addr} {ps : Array Value} {H H1 : Hp} (ok : TriplesOk ps.toList) (old : ∀ (p : Pos) (cv : Value), codeAmong p ps.toList = some cv → ∃ c, cv = .ref c ∧ H c = some (CodeO c q)) (e : ExtN H H1)
    (hP : H1 P = some (.tbl (ps ++ rowOf pos c'))) (hc : H1 c' = some (CodeO c' q)) : TabS H1 P q := by
  have list : (ps ++ rowOf pos c').toList = ps.toList ++ [rawInt pos.line, rawInt pos.col, .ref c'] := Array.toList_append
  refine ⟨_, hP, list ▸ PySem.TriplesOk_snoc _ _ _ _ ok, fun p cv found => ?_⟩
  rcases among_app ps.toList ok (list ▸ found) with was | new
  · obtain ⟨c, h1, h2⟩ := old p cv was
    exact ⟨c, h1, e _ _ h2 codeO_ne⟩
  · exact ⟨c', new, hc⟩
theorem tabS_stays {H H1 : Hp} {P : Addr} {q : Str} (t : TabS H P q) (e : ExtN H H1) (same : H1 P = H P) : TabS H1 P q := by
  obtain ⟨ps, h1, h2, h3⟩ := t
  refine ⟨ps, same.trans h1, h2, fun p cv found => ?_⟩
  obtain ⟨c, h4, h5⟩ := h3 p cv found
  exact ⟨c, h4, e _ _ h5 codeO_ne⟩
section
variable {X : Cx} {pins : List (Addr × Obj)} {σ : L2.St} {H : Hp} {s : Shared}
/-- the function's object is laid upon a state in which its code object stands -/
theorem lam_laid {T : List (Addr × Str)} {params : Arguments} {body : Expr} {scope : Scope} {cl : List (Str × Addr)} {q : Str} {H1 : Hp} {h1 : Heap} {tk : Nat} {c' : Addr} {pm ctv : Value} {Q : VK} (I : Inv X pins σ H1 { s with heap := h1, toks := tk }) (e : ExtN H H1) (tabs : Tabs T H1) (hc : H1 c' = some (CodeO c' q))
    (new : H h1.objs.size = none) (want : ∀ (f c' : Addr) (H1 : Hp), H f = none → ExtN H H1 → Tabs T H1 → H1 f = some (LamO f c' q params body scope cl) → H1 c' = some (CodeO c' q) → Q (.ref f) H1) :
    EP X pins σ Q (.ref h1.objs.size) { s with heap := h1.push (PySem.W.kla_obj "<lambda>" q params body scope cl pm c' ctv), toks := tk } := by
  have free1 : H1 h1.objs.size = none := I.hok.fresh (Nat.le_refl _)
  have more : ∀ b o, H1 b = some o → upd H1 h1.objs.size (LamO h1.objs.size c' q params body scope cl) b = some o := fun b o h => (upd_ne (ne_of_none h free1)).trans h
  have I2 := I.laid (t' := tk) (a := h1.objs.size) (o := LamO h1.objs.size c' q params body scope cl) (h' := h1.push (PySem.W.kla_obj "<lambda>" q params body scope cl pm c' ctv)) (fun _ _ h => Heap.get?_push_of_some _ h) (Nat.le_refl _) (lamO_ok (Heap.get?_push_size _ rfl))
  exact ⟨.ref h1.objs.size, _, I2, rfl, want _ c' _ new (e.trans (ExtN.of more)) (tabs.ext more) upd_same (more _ _ hc)⟩
theorem pe_lam {T : List (Addr × Str)} {c P : Addr} {params : Arguments} {body : Expr} {scope : Scope} {pos : Pos} (TB : TabB X.base X.mg c P) (hcode : X.env.code = .ref c)
    (hm : (P, X.env.qual ++ "<lambda>") ∈ T) (hu : ∀ p ∈ T, p.1 = P → p.2 = X.env.qual ++ "<lambda>") (hdef : defaultsOf params X.env = ([], [])) (L : LamS X.env.scope scope) :
    PE X (.Lambda params body scope pos) (tLamV T (X.env.qual ++ "<lambda>") params body scope (cloFrom X.env.cells scope.names [])) where
  run := fun pins s σ H Q I ⟨tabs, want⟩ => by
    obtain ⟨ps, inP, ok, old⟩ := tabs _ hm
    have obP := I.hok P _ inP
    have ns := I.mod.glob.keeps I.bk
    apply PySem.W.kla_eval hdef
    cases found : codeAmong pos ps.toList with
    | some cv =>
      obtain ⟨c', rfl, inC⟩ := old pos cv found
      exact PySem.W.kla_makeFunctionHit (ps := ps) (closure_ok (L.has I.ok)) I.ok.glob ns hcode (TB.code.keeps I.bk) obP ok found (TB.bm.keeps I.bk) fun ctv h1 tk kept grown => lam_laid (I.kept (t' := tk) kept) (ExtN.refl H) tabs inC (I.hok.fresh grown) want
    | none =>
      refine PySem.W.kla_makeFunction (ps := ps) (closure_ok (L.has I.ok)) I.ok.glob ns hcode (TB.code.keeps I.bk) obP ok found TB.gP (TB.bm.keeps I.bk) fun cv ctv h1 tk kept above below isCode row => ?_
      obtain ⟨c', oc, fs, tq, same, ob, dat, nm⟩ := isCode
      cases same
      have newC : H cv = none := I.hok.fresh above
      have apart : P ≠ cv := ne_of_none inP newC
      have I1 := inv_table (t' := tk) (more := rowOf pos cv) I inP kept row above ⟨oc, fs, tq, ob, dat, nm⟩
      have e1 : ExtN H (upd (upd H P (.tbl (ps ++ rowOf pos cv))) cv (CodeO cv (X.env.qual ++ "<lambda>"))) := fun b o h no => by
        have n1 : b ≠ P := fun z => no ps (Option.some.inj (h.symm.trans (z ▸ inP)))
        exact (upd_ne (ne_of_none h newC)).trans ((upd_ne n1).trans h)
      refine lam_laid I1 e1 (fun p hp => ?_) upd_same (I.hok.fresh (Nat.le_trans above (Nat.le_of_lt below))) want
      by_cases hb : p.1 = P
      · rw [hu p hp hb, hb]
        exact row_in ok old e1 ((upd_ne apart).trans upd_same) upd_same
      · have at1 : H p.1 ≠ none := fun z => by
          obtain ⟨qs, h2, _⟩ := tabs p hp
          exact nomatch z.symm.trans h2
        exact tabS_stays (tabs p hp) e1 ((upd_ne (fun z : p.1 = cv => at1 (by rw [z]; exact newC))).trans (upd_ne hb))
/-- x(), in the def that got the lambda of X: that def entered at s -/
def tActK (i : Nat) (q : Str) (params : Arguments) (body : Expr) (scope : Scope) (cl : List (Str × Addr)) (σ : L2.St) (W : WX) (tl : XK → TE) : TE := fun σZ HZ Q =>
  ∃ f c' : Addr, σZ[i]? = some (some (.ref f)) ∧ HZ f = some (LamO f c' q params body scope cl) ∧ HZ c' = some (CodeO c' q) ∧ tl (fun cls d H' => W cls d σZ H') σ HZ Q
/-- a lambda of X runs, called from frames above: its body's reading is asked at X's slots -/
theorem lam_run {A : Around} {outer : List Env} {s1 : Shared} {HZ : Hp} {params : Arguments} {body : Expr} {scope : Scope} {k : Nat} {f c' : Addr} {E : XK} {te : TE} {Q : VK} (I : Inv X pins σ H s) (L : LamS X.env.scope scope)
    (hbind : ∀ (q : Str) (cl : List (Str × Addr)) (pm cv ctv : Value), bindArgs (PySem.W.kla_fn "<lambda>" q params body scope cl pm cv ctv) ⟨[], []⟩ = pure []) (room : Room (k + 1) A) (env : Env0 X.prog X.w X.K X.mg X.base A outer s1 HZ) (lim : s1.heap.NoLimit) (un : Un (frs X.stack) [] H HZ s.heap s1.heap)
    (inF : HZ f = some (LamO f c' (X.env.qual ++ "<lambda>") params body scope (cloFrom X.env.cells scope.names []))) (inC : HZ c' = some (CodeO c' (X.env.qual ++ "<lambda>"))) (hbody : Room k (A.deeper (lamEnv X scope s1.heap.objs.size f c')) → PE (lamCx X A outer s1 HZ E scope f c') body te) (want : te σ HZ Q) :
    codeAny (model X.prog X.w) A (.call (.ref f) ⟨[], []⟩) (CR (L2.CX X.prog X.w) outer X.prog X.w HZ s1 Q E) s1 := by
  obtain ⟨⟨pm, ctv, obF⟩, _⟩ := env.hok f _ inF
  obtain ⟨⟨oc, fs, tq, obC, dat, nm⟩, _⟩ := env.hok c' _ inC
  apply PySem.W.kla_callFunE room.depth obF rfl L.co L.gen rfl ⟨c', oc, fs, tq, rfl, obC, dat, nm⟩
  rw [hbind]
  refine wpAny_pure (wpAny_newFunctionEnv (fun y hy => (L.own y hy).2) (fun y hy => nomatch hy) (fun h1 ns but => ⟨lim.fresh _ but, ?_⟩) L.kind)
  have start := lam_start2 (A := A) (E := E) (f := f) (c' := c') (tk := s1.toks + ([] : List (Str × Value)).length) I L env room.hd un ns fun b o h => but.extBut b o (Nat.ne_of_lt (Heap.lt_size h)) (Heap.get?_push_of_some _ h)
  have go := (hbody (room.deeper _)).run [] _ _ HZ Q start want
  exact PySem.W.kla_codeExpr (wpAny_mono go (fun _ _ ⟨v, H2, J, rel, h⟩ => ⟨v, H2, J.os, J.bare, J.base, J.hok, rel, h⟩) fun _ _ h => h)
theorem pe_actK {CXg : CXT} {Eg : XK} {Ng : List Str} {qg : Str} {sg : Scope} {g : Addr} {cdg : Value} {params : Arguments} {body : Expr} {scope : Scope} {k i : Nat} {a : Str} {pn : List (Addr × Obj)} {xe : Value → Shared → Prop} {W : WX} {tl : XK → TE} {p1 p2 : Pos}
    (I : Inv X pins σ H s) (L : LamS X.env.scope scope)
    (hbind : ∀ (q : Str) (cl : List (Str × Addr)) (pm cv ctv : Value), bindArgs (PySem.W.kla_fn "<lambda>" q params body scope cl pm cv ctv) ⟨[], []⟩ = pure [])
    (tk : Takes ((cxOf CXg X.prog X.w X.K X.mg X.base Ng qg sg g cdg X.A X.stack s H Eg).tr pn xe) W) (hr : Room (k + 1) (X.A.deeper (envOfC qg sg s.heap.objs.size g cdg)))
    (hbody : ∀ (E : XK) (A : Around) (outer : List Env) (s : Shared) (H : Hp) (f c' : Addr), A.guards = X.A.guards → Room k (A.deeper (lamEnv X scope s.heap.objs.size f c')) → PE (lamCx X A outer s H E scope f c') body (tl E))
    (slot : Ng[i]? = some a) (seen : Vis sg a) (nodbg : (a == ("__debug__" : Str)) = false := by decide) (nodct : (a == ("__classdict__" : Str)) = false := by decide) :
    PE ((cxOf CXg X.prog X.w X.K X.mg X.base Ng qg sg g cdg X.A X.stack s H Eg).tr pn xe) (.Call (.Name a p1) [] [] p2) (tActK i (X.env.qual ++ "<lambda>") params body scope (cloFrom X.env.cells scope.names []) σ W tl) where
  run := fun pinsZ sZ σZ HZ Q IZ ⟨f, c', at_, inF, inC, want⟩ => by
    have name := (pe_var (X := (cxOf CXg X.prog X.w X.K X.mg X.base Ng qg sg g cdg X.A X.stack s H Eg).tr pn xe) (pos := p1) slot seen nodbg nodct).run pinsZ sZ σZ HZ (fun v H1 => v = .ref f ∧ H1 = HZ) IZ ⟨_, at_, rfl, rfl⟩
    refine wpAny_Call_Name_kw (thn name fun u s1 ⟨v, H1, I1, rel, ev, eH⟩ => ?_)
    subst ev eH
    have eu : u = Value.ref f := rel
    subst eu
    obtain ⟨⟨_, _, obF⟩, _⟩ := I1.hok f _ inF
    have go := lam_run (E := fun cls d H' => W cls d σZ H') I L hbind hr I1.env0 I1.nolimit I1.base inF inC (hbody _ (X.A.deeper (envOfC qg sg s.heap.objs.size g cdg)) _ s1 H1 f c' rfl) want
    refine PySem.W.callWith_F0 ⟨_, _, _, _, obF⟩ (wpAny_call (codeAny_mono go fun r s2 h => ?_))
    match r, h with
    | .ok (.ret _), h => exact I1.after h
    | .error e, h => exact tk e s2 (XE.of_call I1 (W := W) (fun _ _ _ h => h) h)
/-- x(e, ..), x's body read here: TT, what it makes of the values -/
def tIn (TT : L2.St → List V → Hp → VK → Prop) (n : Nat) (ta : TA) : TE := fun σ H Q => ta σ H fun vs H1 => vs.length = n ∧ TT σ vs H1 Q
theorem pe_callIn {TT : L2.St → List V → Hp → VK → Prop} {x : Str} {g : Addr} {k : Nat} {pg : Arguments} {bg : List Stmt} {sg : Scope} {fd : FuncData} {Ng ps : List Str} {e : Expr} {es : List Expr} {ta : TA} {p pos : Pos} (F : FunD X.K x x pg bg sg [] [] g fd)
    (hg : Gl X x) (hm : X.mg x = some (.ref g)) (hk : PySem.W.keepIn X.K (.ref g) = true) (hb : L2.Binds X.K fd ps []) (Sg : FnScope Ng ps sg) (hr : Room (k + 1) X.A)
    (hG : ∀ (cdv : Value) (pins : List (Addr × Obj)) (s : Shared) (σ : L2.St) (H : Hp) (vs : List V) (Q : VK), Inv X pins σ H s → Room k (X.A.deeper (envOfC x sg s.heap.objs.size g cdv)) → vs.length = ps.length → TT σ vs H Q →
      ∃ t, PSs (cxOf L2.CX0 X.prog X.w X.K X.mg X.base Ng x sg g cdv X.A X.stack s H L2.E0) bg t ∧ t { nx := fun _ H' => Q .non H', rt := Q } (L2.start Ng vs) H)
    (ha : PA X (e :: es) ta) (hdb : (x == ("__debug__" : Str)) = false := by decide) (he : starEach (e :: es) X.env = (false, eval e X.env) :: starEach es X.env := by rfl) (hpl : (backTo pos (starEach es X.env)).any (·.1) = false := by rfl) :
    PE X (.Call (.Name x p) (e :: es) [] pos) (tIn TT ps.length ta) := by
  refine ⟨fun pins s σ H Q I h => wpAny_Call_Name_kw (ld_glob I hg hm ?_ hdb)⟩
  refine PySem.W.callWith_K I.ok.mod.kin hk (thn (ha.run pos pins s σ H _ I h) fun us s1 ⟨vs, H1, I1, vals, count, want⟩ => ⟨I1.kIn, ?_⟩) he hpl
  obtain ⟨_, _, _, _, _, _, _, cdv, _, _, e, lk, hcd, _⟩ := F.ex
  subst e
  have bind := hb s1 us I1.kIn (by rw [List.append_nil, ← vals.length, count])
  rw [List.append_nil] at bind
  have go := run_ofS (CX := L2.CX0) (E := L2.E0) (Q := Q) lk hcd Sg hr I1.env0 bind vals count fun room => hG cdv pins s1 σ H1 vs Q I1 room count want
  refine wpAny_call (codeAny_mono go fun r s2 h => ?_)
  match r, h with
  | .ok (.ret _), h => exact I1.after h
end
end MeL
set_option Elab.async false
set_option linter.all false
set_option maxRecDepth 100000
set_option maxHeartbeats 4000000
/-! the end: a law that makes lambdas and asks repr; its tables may be none at all -/
namespace MeL
open PySem PySem.Spec PyProof.Rows L2 LamX MeG
def emptyO : Obj := { cls := .none, data := .fields #[] }
def scriptO (vs : List Value) : Obj := { cls := .type "list", data := .seq vs.toArray }
/-- the tables of the law and its script, as the abstract heap tells them; a script of the written part is not told -/
def begH (K : PySem.W.Frag) (cs : List (Addr × Addr)) (a : Addr) (vs : List Value) (ns : List Int) : Hp := fun b =>
  if b ∈ cs.map Prod.snd then some (.tbl #[]) else if b = a ∧ K.lookup a = none then some (.frz (scriptO vs) (.lst (ns.map V.int))) else none
/-- what holds where the law is called -/
structure Beg (K : PySem.W.Frag) (mg : Str → Option Value) (cs : List (Addr × Addr)) (a : Addr) (vs : List Value) (ns : List Int) (s : Shared) : Prop where
  kin : K.In s.heap
  main : s.heap.Ns mainGlobals mg
  blt : ∃ mb : Str → Option Value, s.heap.Ns builtinsNs mb ∧ ∀ x : Str, x ≠ "__name__" → mb x = bootBuiltins x
  lim : s.heap.NoLimit
  gens : s.gens = #[]
  tab : ∀ p ∈ cs, s.heap.get? p.2 = some emptyO
  out : ∀ p ∈ cs, K.lookup p.2 = none
  code : ∀ p ∈ cs, PySem.W.CodeHd s.heap p.1 p.2
  bmod : ∃ (m : Addr) (o : Obj), mg "__builtins__" = some (.ref m) ∧ m ≠ builtinsNs ∧ s.heap.get? m = some o ∧ o.cls = .type "module" ∧ o.dict = some builtinsNs ∧ o.data = .plain
  scr : s.heap.get? a = some (scriptO vs)
  num : IntsAre vs ns
  size : ns.length ≤ sizeLine
section
variable {K : PySem.W.Frag} {mg : Str → Option Value} {cs : List (Addr × Addr)} {a : Addr} {vs : List Value} {ns : List Int} {s : Shared}
theorem Beg.tabAt (B : Beg K mg cs a vs ns s) {b : Addr} (h : b ∈ cs.map Prod.snd) : s.heap.get? b = some emptyO ∧ K.lookup b = none := by
  obtain ⟨p, hp, rfl⟩ := List.mem_map.mp h
  exact ⟨B.tab p hp, B.out p hp⟩
theorem Beg.apart (B : Beg K mg cs a vs ns s) : a ∉ cs.map Prod.snd := fun h => by
  have h1 := (B.tabAt h).1
  rw [B.scr] at h1
  have h2 : (scriptO vs).cls = emptyO.cls := congrArg Obj.cls (Option.some.inj h1)
  cases h2
theorem begH_tab {b : Addr} (h : b ∈ cs.map Prod.snd) : begH K cs a vs ns b = some (.tbl #[]) := by
  unfold begH
  exact if_pos h
theorem begH_scr (B : Beg K mg cs a vs ns s) (h : K.lookup a = none) : begH K cs a vs ns a = some (.frz (scriptO vs) (.lst (ns.map V.int))) := by
  unfold begH
  rw [if_neg B.apart, if_pos ⟨rfl, h⟩]
/-- only these are told -/
theorem begH_some {b : Addr} {o : HO} (h : begH K cs a vs ns b = some o) : (b ∈ cs.map Prod.snd ∧ o = .tbl #[]) ∨ (b = a ∧ K.lookup a = none ∧ o = .frz (scriptO vs) (.lst (ns.map V.int))) := by
  unfold begH at h
  split at h
  · rename_i h1
    exact .inl ⟨h1, (Option.some.inj h).symm⟩
  · split at h
    · rename_i h2
      exact .inr ⟨h2.1, h2.2, (Option.some.inj h).symm⟩
    · cases h
theorem Beg.ok (B : Beg K mg cs a vs ns s) (P : Program) (w : World) : HOk P w (begH K cs a vs ns) s.heap := fun b o h => by
  rcases begH_some h with ⟨h1, rfl⟩ | ⟨rfl, _, rfl⟩
  · exact (B.tabAt h1).1
  · refine ⟨B.scr, ?_, vs, _, vals_ints B.num, B.scr⟩
    rw [List.length_map]
    exact B.size
/-- a thing that is neither a list nor an empty table isn't told -/
theorem Beg.free (B : Beg K mg cs a vs ns s) {b : Addr} {o : Obj} (h : s.heap.get? b = some o) (h1 : ∀ xs n, o.data ≠ .seq xs n) (h2 : o.data ≠ .fields #[]) : begH K cs a vs ns b = none := by
  cases q : begH K cs a vs ns b with
  | none => rfl
  | some u =>
    rcases begH_some q with ⟨h3, _⟩ | ⟨rfl, _, _⟩
    · have h4 := (B.tabAt h3).1
      rw [h] at h4
      exact absurd (congrArg Obj.data (Option.some.inj h4)) h2
    · have h4 := B.scr
      rw [h] at h4
      exact absurd (congrArg Obj.data (Option.some.inj h4)) (h1 _ _)
/-- the ground under the law: all that isn't told -/
abbrev Beg.base (_ : Beg K mg cs a vs ns s) : Heap := hidT s.heap (begH K cs a vs ns)
theorem Beg.low (B : Beg K mg cs a vs ns s) {b : Addr} {o : Obj} (h : s.heap.get? b = some o) (h1 : ∀ xs n, o.data ≠ .seq xs n) (h2 : o.data ≠ .fields #[]) : B.base.get? b = some o := hidT_get h (B.free h h1 h2)
theorem Beg.lowNs (B : Beg K mg cs a vs ns s) {b : Addr} {m : Str → Option Value} (h : s.heap.Ns b m) : B.base.Ns b m := by
  obtain ⟨o, es, ep, h1, h2, h3⟩ := h
  refine ⟨o, es, ep, B.low h1 (fun xs n z => ?_) fun z => ?_, h2, h3⟩ <;> exact nomatch h2.symm.trans z
theorem Beg.lowK (B : Beg K mg cs a vs ns s) : K.In B.base := fun b o h => by
  refine hidT_get (B.kin b o h) ?_
  cases q : begH K cs a vs ns b with
  | none => rfl
  | some u =>
    rcases begH_some q with ⟨h3, _⟩ | ⟨rfl, h3, _⟩
    · exact nomatch h.symm.trans (B.tabAt h3).2
    · exact nomatch h.symm.trans h3
theorem Beg.mod (B : Beg K mg cs a vs ns s) : L2.Mod K mg B.base where
  kin := B.lowK
  glob := B.lowNs B.main
  blt := let ⟨mb, h1, h2⟩ := B.blt; ⟨mb, B.lowNs h1, h2⟩
  nolimit := let ⟨mc, h1, h2⟩ := B.lim; ⟨mc, B.lowNs h1, h2⟩
theorem Beg.tables (B : Beg K mg cs a vs ns s) : ∀ p ∈ cs, TabB B.base mg p.1 p.2 := fun p hp => by
  have ht := B.tab p hp
  have noMain : mainGlobals ≠ p.2 := fun z => by
    obtain ⟨o, es, ep, h1, h2, _⟩ := B.main
    rw [z, ht] at h1
    cases Option.some.inj h1
    exact nomatch h2
  refine { code := ?_, bm := ?_, gP := noMain }
  · obtain ⟨o, us, file, tf, flags, tg, inF, text, tt, e1, r1, r2, r3, rest⟩ := B.code p hp
    refine ⟨o, us, file, tf, flags, tg, inF, text, tt, B.low e1 (fun xs n z => nomatch r2.symm.trans z) (fun z => ?_), r1, r2, r3, rest⟩
    have z2 : us = #[] := Data.fields.inj (r2.symm.trans z)
    rw [z2] at r3
    simp at r3
  · obtain ⟨m, o, b1, b2, b3, b4, b5, b6⟩ := B.bmod
    refine ⟨m, o, b1, b2, fun z => ?_, fun z => ?_, B.low b3 (fun xs n z => nomatch b6.symm.trans z) (fun z => nomatch b6.symm.trans z), b4, b5, b6⟩
    · obtain ⟨o', es, ep, h1, h2, _⟩ := B.main
      rw [← z, b3] at h1
      cases Option.some.inj h1
      exact nomatch b6.symm.trans h2
    · rw [z, ht] at b3
      cases Option.some.inj b3
      exact nomatch b6
theorem Beg.env (B : Beg K mg cs a vs ns s) (P : Program) (w : World) : Env0 P w K mg B.base callerA [] s (begH K cs a vs ns) where
  frames := rfl
  mod := B.mod
  bs := fun _ _ h => of_hidT h
  bsz := Nat.le_of_eq (hidT_size _ _)
  funs := trivial
  frf := fun _ h => nomatch (show _ ∈ ([] : List Addr) from h)
  hok := B.ok P w
  bare := .of_eq B.gens
theorem Beg.script (B : Beg K mg cs a vs ns s) : SqL K (begH K cs a vs ns) a (ns.map V.int) := by
  cases q : K.lookup a with
  | none => exact .inl (.inr ⟨_, begH_scr B q⟩)
  | some o =>
    have h1 := B.kin a o q
    rw [B.scr] at h1
    cases Option.some.inj h1
    have h2 := B.num.length
    refine .inr ⟨_, vs.toArray, _, q, rfl, rfl, rfl, ?_, vals_ints B.num⟩
    rw [List.size_toArray, h2]
    exact B.size
/-- behind the law: all that stood is as it was, tables may have grown -/
theorem Beg.stands (B : Beg K mg cs a vs ns s) {P : Program} {w : World} {H' : Hp} {s' : Shared} (un : Un (frs []) [] (begH K cs a vs ns) H' s.heap s'.heap) (hok : HOk P w H' s'.heap) : OldK s.heap s'.heap := by
  have told : ∀ b o, s.heap.get? b = some o → (∃ p ∈ cs, p.2 = b ∧ o = emptyO ∧ ∃ more : Array Value, s'.heap.get? b = some { cls := .none, data := .fields more }) ∨ s'.heap.get? b = some o := fun b o h => by
    cases q : begH K cs a vs ns b with
    | none => exact .inr (un.keep b o h q (fun z => nomatch (show b ∈ ([] : List Addr) from z)) (fun z => nomatch z))
    | some u =>
      rcases begH_some q with ⟨h1, rfl⟩ | ⟨rfl, _, rfl⟩
      · obtain ⟨p, hp, rfl⟩ := List.mem_map.mp h1
        obtain ⟨more, h2⟩ := un.tbls _ _ q
        have h3 := B.tab p hp
        rw [h] at h3
        exact .inl ⟨p, hp, rfl, Option.some.inj h3, _, hok _ _ h2⟩
      · have h3 := B.scr
        rw [h] at h3
        cases Option.some.inj h3
        exact .inr (hok _ _ (un.frzs _ _ _ q)).1
  constructor
  · intro b o h
    rcases told b o h with ⟨p, hp, rfl, rfl, more, h2⟩ | h2
    · exact .inr (.inl ⟨((B.code p hp).tab (B.tab p hp)).isCodeTable, rfl, #[], more, rfl, by rw [Array.empty_append]; exact h2⟩)
    · exact .inl h2
  · intro b o h
    rcases told b o h with ⟨_, _, _, _, more, h2⟩ | h2
    · exact ⟨_, h2⟩
    · exact ⟨o, h2⟩
/-- the law's call, from its promise -/
theorem Beg.call (B : Beg K mg cs a vs ns s) {P : Program} {w : World} {CX : CXT} {k : Nat} {fa : Addr} {fd : FuncData} {x : Str} {sp : Sp} (F : FnG P w K mg B.base CX k fa fd [x] sp) (hr : Room k callerA) (hbind : ∀ (s : Shared) (u : Value), BindsTo s fd ⟨[u], []⟩ [(x, u)])
    (hsp : sp [.ref a] (begH K cs a vs ns) (fun v _ => v = .bl true) fun _ _ _ => False) (hCX : ∀ H e s', CX [] H s (fun _ _ _ => False) e s' → False) :
    codeAny (model P w) callerA (.call (.ref fa) ⟨[.ref a], []⟩) (fun r s' => r = .ok (.ret (.bool true)) ∧ OldK s.heap s'.heap ∧ s'.os = s.os ∧ AllBare s'.gens) s := by
  have go := F.run callerA [] s (begH K cs a vs ns) ⟨[.ref a], []⟩ [.ref a] [.ref a] _ _ rfl hr (B.env P w) (hbind s (.ref a)) (.cons rfl .nil) hsp
  refine codeAny_mono go fun r s' h => ?_
  match r, h with
  | .error e, h => exact (hCX _ e s' h).elim
  | .ok (.ret u), h =>
    obtain ⟨v, H', h1, h2, un, hok, h3, h4⟩ := h
    have h4' : v = .bl true := h4
    rw [h4'] at h3
    have h5 : u = Value.bool true := h3
    exact ⟨by rw [h5], B.stands un hok, h1, h2⟩
end
/-- what is to be shown of the law at the head's heap -/
def LawAtG (l : PySem.W.OpenLaw) (w : World) (K : PySem.W.Frag) (CX : CXT) (k n : Nat) (x : Str) (mg : Str → Option Value) (fa : Addr) (h : Heap) : Prop :=
  ∃ (fd : FuncData) (cs : List (Addr × Addr)) (sp : Sp), ((∀ p ∈ cs, h.get? p.2 = some emptyO) ∧ (∀ p ∈ cs, K.lookup p.2 = none) ∧ ∀ p ∈ cs, PySem.W.CodeHd h p.1 p.2) ∧ (∀ (s : Shared) (u : Value), BindsTo s fd ⟨[u], []⟩ [(x, u)]) ∧
    (∀ (H : Hp) (a : Addr) (ns : List Int), ns.length ≤ n → (∀ z ∈ ns, Builtin.Int.intBits z ≤ 1048576) → (∀ p ∈ cs, H p.2 = some (.tbl #[])) → SqL K H a (ns.map V.int) → sp [.ref a] H (fun v _ => v = .bl true) fun _ _ _ => False) ∧
    ∀ base : Heap, K.In base → base.Ns mainGlobals mg → (∀ p ∈ cs, TabB base mg p.1 p.2) → FnG l.prog w K mg base CX k fa fd [x] sp
theorem walk_ofGE {l : PySem.W.OpenLaw} {n k : Nat} {q : Program} {loose : List Str} {XP : (Str → Option Value) → Heap → Prop} {YP : World → Heap → Prop} {d : DefRec} {CX : World → CXT} {x : Str} (most : l.most = some n) (few : n ≤ sizeLine) (plain : d.params.defaults = []) (room : Room k callerA)
    (F : ∀ (w : World) (mg : Str → Option Value) (fa : Addr) (h : Heap), YP w h → h.Ns mainGlobals mg → mg d.name = some (.ref fa) → ∃ K : PySem.W.Frag, K.In h ∧ LawAtG l w K (CX w) k n x mg fa h)
    (shut : ∀ (w : World) (H : Hp) (s : Shared) (e : Value) (s' : Shared), CX w [] H s (fun _ _ _ => False) e s' → False) : PySem.W.WalkO q loose XP YP l.row.toRowW d [] (fun f vs => PySem.call f vs) :=
  Att.attach_callB most plain fun w _ s mg mb fa _ _ _ _ a vs ns G Y _ _ _ hmg scr num len bits gens => by
    obtain ⟨K, kin, fd, cs, sp, ⟨t1, t2, t3⟩, hb, hsp, hF⟩ := F w mg fa _ Y G.T.g hmg
    have B : Beg K mg cs a vs ns s := ⟨kin, G.T.g, ⟨mb, G.T.b, G.T.builtins⟩, G.T.nolimit, gens, t1, t2, t3, G.T.bmain, scr, num, Nat.le_trans len few⟩
    exact B.call (hF _ B.lowK (B.lowNs B.main) B.tables) room hb (hsp _ a ns len bits (fun p hp => begH_tab (List.mem_map.mpr ⟨p, hp, rfl⟩)) B.script) fun H e s' => shut w H s e s'
end MeL
set_option Elab.async false
set_option linter.all false
set_option maxRecDepth 100000
set_option maxHeartbeats 0
namespace K02
open PySem PySem.Spec PyProof.Rows L2 He MeH MeG MeK
def top (i : Nat) : Stmt := PySem.Challenge.pw_maskededits_k02_exceptions_apart.main.body.getD i (.Pass ⟨0, 0, 0, 0⟩)

abbrev s_law_pool : Stmt := top 24
abbrev s_law_take : Stmt := top 25
abbrev s_law_at : Stmt := top 26
abbrev s_law_value_kinds : Stmt := top 27
abbrev s_law_all_kinds : Stmt := top 28
abbrev s_law_by_place : Stmt := top 29
abbrev s_law_by_name : Stmt := top 30
abbrev s_law_bases : Stmt := top 31
abbrev slaw : Stmt := top 32
abbrev iInvalidLevels : Stmt := inClass (top 2) 0
abbrev iInvalidLevel : Stmt := inClass (top 3) 0
abbrev iInvalidName : Stmt := inClass (top 4) 0
abbrev iInvalidNumber : Stmt := inClass (top 5) 0
abbrev iInvalidText : Stmt := inClass (top 6) 0
abbrev iInvalidQuery : Stmt := inClass (top 8) 0
abbrev iInvalidView : Stmt := inClass (top 9) 0
abbrev iInvalidMoment : Stmt := inClass (top 10) 0
abbrev iInvalidEdit : Stmt := inClass (top 11) 0
abbrev iBadRecords : Stmt := inClass (top 15) 0
abbrev iInvalidRights : Stmt := inClass (top 19) 0
abbrev iInvalidLine : Stmt := inClass (top 20) 0
abbrev iNoFault : Stmt := inClass (top 12) 0
abbrev iNotSeen : Stmt := inClass (top 13) 0
abbrev iNoOffer : Stmt := inClass (top 18) 0
abbrev iNoRight : Stmt := inClass (top 16) 0
abbrev iSameUser : Stmt := inClass (top 17) 0
abbrev iInvalidScript : Stmt := inClass (top 7) 0
abbrev iRefused : Stmt := inClass (top 14) 0
abbrev iClosed : Stmt := inClass (top 21) 0
abbrev iNoServer : Stmt := inClass (top 22) 0
def d_law_pool : DefD := ⟨("_law_pool", none), "_law_pool", "_law_pool", defArgs s_law_pool, defBody s_law_pool, defScope s_law_pool, [], []⟩
def d_law_take : DefD := ⟨("_law_take", none), "_law_take", "_law_take", defArgs s_law_take, defBody s_law_take, defScope s_law_take, [], []⟩
def d_law_at : DefD := ⟨("_law_at", none), "_law_at", "_law_at", defArgs s_law_at, defBody s_law_at, defScope s_law_at, [], []⟩
def d_law_value_kinds : DefD := ⟨("_law_value_kinds", none), "_law_value_kinds", "_law_value_kinds", defArgs s_law_value_kinds, defBody s_law_value_kinds, defScope s_law_value_kinds, [], []⟩
def d_law_all_kinds : DefD := ⟨("_law_all_kinds", none), "_law_all_kinds", "_law_all_kinds", defArgs s_law_all_kinds, defBody s_law_all_kinds, defScope s_law_all_kinds, [], []⟩
def d_law_by_place : DefD := ⟨("_law_by_place", none), "_law_by_place", "_law_by_place", defArgs s_law_by_place, defBody s_law_by_place, defScope s_law_by_place, [], []⟩
def d_law_by_name : DefD := ⟨("_law_by_name", none), "_law_by_name", "_law_by_name", defArgs s_law_by_name, defBody s_law_by_name, defScope s_law_by_name, [], []⟩
def d_law_bases : DefD := ⟨("_law_bases", none), "_law_bases", "_law_bases", defArgs s_law_bases, defBody s_law_bases, defScope s_law_bases, [], []⟩
def dlaw : DefD := ⟨("law", none), "law", "law", defArgs slaw, defBody slaw, defScope slaw, [], []⟩
def eInvalidLevels : DefD := ⟨("InvalidLevels", some "__init__"), "__init__", "InvalidLevels.__init__", defArgs iInvalidLevels, defBody iInvalidLevels, defScope iInvalidLevels, [], []⟩
def eInvalidLevel : DefD := ⟨("InvalidLevel", some "__init__"), "__init__", "InvalidLevel.__init__", defArgs iInvalidLevel, defBody iInvalidLevel, defScope iInvalidLevel, [], []⟩
def eInvalidName : DefD := ⟨("InvalidName", some "__init__"), "__init__", "InvalidName.__init__", defArgs iInvalidName, defBody iInvalidName, defScope iInvalidName, [], []⟩
def eInvalidNumber : DefD := ⟨("InvalidNumber", some "__init__"), "__init__", "InvalidNumber.__init__", defArgs iInvalidNumber, defBody iInvalidNumber, defScope iInvalidNumber, [], []⟩
def eInvalidText : DefD := ⟨("InvalidText", some "__init__"), "__init__", "InvalidText.__init__", defArgs iInvalidText, defBody iInvalidText, defScope iInvalidText, [], []⟩
def eInvalidQuery : DefD := ⟨("InvalidQuery", some "__init__"), "__init__", "InvalidQuery.__init__", defArgs iInvalidQuery, defBody iInvalidQuery, defScope iInvalidQuery, [], []⟩
def eInvalidView : DefD := ⟨("InvalidView", some "__init__"), "__init__", "InvalidView.__init__", defArgs iInvalidView, defBody iInvalidView, defScope iInvalidView, [], []⟩
def eInvalidMoment : DefD := ⟨("InvalidMoment", some "__init__"), "__init__", "InvalidMoment.__init__", defArgs iInvalidMoment, defBody iInvalidMoment, defScope iInvalidMoment, [], []⟩
def eInvalidEdit : DefD := ⟨("InvalidEdit", some "__init__"), "__init__", "InvalidEdit.__init__", defArgs iInvalidEdit, defBody iInvalidEdit, defScope iInvalidEdit, [], []⟩
def eBadRecords : DefD := ⟨("BadRecords", some "__init__"), "__init__", "BadRecords.__init__", defArgs iBadRecords, defBody iBadRecords, defScope iBadRecords, [], []⟩
def eInvalidRights : DefD := ⟨("InvalidRights", some "__init__"), "__init__", "InvalidRights.__init__", defArgs iInvalidRights, defBody iInvalidRights, defScope iInvalidRights, [], []⟩
def eInvalidLine : DefD := ⟨("InvalidLine", some "__init__"), "__init__", "InvalidLine.__init__", defArgs iInvalidLine, defBody iInvalidLine, defScope iInvalidLine, [], []⟩
def eNoFault : DefD := ⟨("NoFault", some "__init__"), "__init__", "NoFault.__init__", defArgs iNoFault, defBody iNoFault, defScope iNoFault, [], []⟩
def eNotSeen : DefD := ⟨("NotSeen", some "__init__"), "__init__", "NotSeen.__init__", defArgs iNotSeen, defBody iNotSeen, defScope iNotSeen, [], []⟩
def eNoOffer : DefD := ⟨("NoOffer", some "__init__"), "__init__", "NoOffer.__init__", defArgs iNoOffer, defBody iNoOffer, defScope iNoOffer, [], []⟩
def eNoRight : DefD := ⟨("NoRight", some "__init__"), "__init__", "NoRight.__init__", defArgs iNoRight, defBody iNoRight, defScope iNoRight, [], []⟩
def eSameUser : DefD := ⟨("SameUser", some "__init__"), "__init__", "SameUser.__init__", defArgs iSameUser, defBody iSameUser, defScope iSameUser, [], []⟩
def eInvalidScript : DefD := ⟨("InvalidScript", some "__init__"), "__init__", "InvalidScript.__init__", defArgs iInvalidScript, defBody iInvalidScript, defScope iInvalidScript, [], []⟩
def eRefused : DefD := ⟨("Refused", some "__init__"), "__init__", "Refused.__init__", defArgs iRefused, defBody iRefused, defScope iRefused, [], []⟩
def eClosed : DefD := ⟨("Closed", some "__init__"), "__init__", "Closed.__init__", defArgs iClosed, defBody iClosed, defScope iClosed, [], []⟩
def eNoServer : DefD := ⟨("NoServer", some "__init__"), "__init__", "NoServer.__init__", defArgs iNoServer, defBody iNoServer, defScope iNoServer, [], []⟩
def fn : List DefD := [d_law_pool, d_law_take, d_law_at, d_law_value_kinds, d_law_all_kinds, d_law_by_place, d_law_by_name, d_law_bases, dlaw, eInvalidLevels, eInvalidLevel, eInvalidName, eInvalidNumber, eInvalidText, eInvalidQuery, eInvalidView, eInvalidMoment, eInvalidEdit, eBadRecords, eInvalidRights, eInvalidLine, eNoFault, eNotSeen, eNoOffer, eNoRight, eSameUser, eInvalidScript, eRefused, eClosed, eNoServer]
def kinds : List Str := ["InvalidLevels", "InvalidLevel", "InvalidName", "InvalidNumber", "InvalidText", "InvalidQuery", "InvalidView", "InvalidMoment", "InvalidEdit", "BadRecords", "InvalidRights", "InvalidLine", "NoFault", "NotSeen", "NoOffer", "NoRight", "SameUser", "InvalidScript", "Refused", "Closed", "NoServer"]
def nm (i : Nat) : Str := kinds.getD i ""
def bk (i : Nat) : Bk := if i < 13 then .ve else if i < 15 then .ke else if i < 17 then .re else if i = 17 then .ve else .re
def fl (i : Nat) : List Str := if i < 17 then ["value"] else if i = 17 then ["at"] else if i = 18 then ["word", "value"] else []
def clsF (x : Str) (b : Bk) (fs : List Str) : List Fb := [.fa (.glo x), .xcls x b, .xinit x] ++ fs.map (fun f => .fa (.noat x f))
def isV : Bk → Bool
  | .ve => true
  | _ => false
def isK : Bk → Bool
  | .ke => true
  | _ => false
def isR : Bk → Bool
  | .re => true
  | _ => false
def basF (x : Str) (b : Bk) : List Fb := [.kit x "MaskError" (isV b), .kitT x "ValueError" (isV b), .kitT x "KeyError" (isK b), .kitT x "RuntimeError" (isR b)]
def kitF : List Fb := (List.range 21).flatMap fun i => (List.range 21).map fun j => .kit (nm i) (nm j) (i == j)
def frees : List Str := ["KeyError", "RuntimeError", "ValueError", "isinstance", "range", "max", "min", "len", "repr", "enumerate"]
def glos : List Str := ["_law_pool", "_law_take", "_law_at", "_law_value_kinds", "_law_all_kinds", "_law_by_place", "_law_by_name", "_law_bases", "law"]
def fb : List Fb := [.sys, .fa (.glo "MaskError"), .iniC "MaskError" .ve, .iniT "KeyError" .ke, .iniT "RuntimeError" .re]
  ++ frees.map (fun x => .fa (.free x)) ++ glos.map (fun x => .fa (.glo x))
  ++ (List.range 21).flatMap (fun i => clsF (nm i) (bk i) (fl i) ++ basF (nm i) (bk i)) ++ kitF
/-! what follows from the facts -/
section
variable {K : PySem.W.Frag} {h : Heap} {mg : Str → Option Value}
theorem mem_c {i : Nat} (hi : i < 21) {f : Fb} (hf : f ∈ clsF (nm i) (bk i) (fl i) ++ basF (nm i) (bk i)) : f ∈ fb :=
  List.mem_append_left _ (List.mem_append_right _ (List.mem_flatMap.mpr ⟨i, List.mem_range.mpr hi, hf⟩))
theorem mem_k {i j : Nat} (hi : i < 21) (hj : j < 21) : Fb.kit (nm i) (nm j) (i == j) ∈ fb :=
  List.mem_append_right _ (List.mem_flatMap.mpr ⟨i, List.mem_range.mpr hi, List.mem_map.mpr ⟨j, List.mem_range.mpr hj, rfl⟩⟩)
theorem mem_f {x : Str} (hx : x ∈ frees) : Fb.fa (.free x) ∈ fb :=
  List.mem_append_left _ (List.mem_append_left _ (List.mem_append_left _ (List.mem_append_right _ (List.mem_map.mpr ⟨x, hx, rfl⟩))))
theorem mem_g {x : Str} (hx : x ∈ glos) : Fb.fa (.glo x) ∈ fb :=
  List.mem_append_left _ (List.mem_append_left _ (List.mem_append_right _ (List.mem_map.mpr ⟨x, hx, rfl⟩)))
theorem mem_0 {f : Fb} (hf : f ∈ [Fb.sys, .fa (.glo "MaskError"), .iniC "MaskError" .ve, .iniT "KeyError" .ke, .iniT "RuntimeError" .re]) : f ∈ fb :=
  List.mem_append_left _ (List.mem_append_left _ (List.mem_append_left _ (List.mem_append_left _ hf)))
abbrev Cl (K : PySem.W.Frag) (i : Nat) : Addr := ga K (nm i)
structure Txt (K : PySem.W.Frag) (mg : Str → Option Value) : Prop where
  cls : ∀ i, i < 21 → XCls K (Cl K i) (bk i).ini
  mgc : ∀ i, i < 21 → mg (nm i) = some (.ref (Cl K i))
  ini : ∀ i, i < 21 → PySem.W.findIn K (.ref (Cl K i)) "__init__" = some (some (.ref (ma K (Cl K i) "__init__"))) ∧ PySem.W.typeIn K (.ref (ma K (Cl K i) "__init__")) = some (.type "function")
  no : ∀ i, i < 21 → ∀ f ∈ fl i, PySem.W.findIn K (.ref (Cl K i)) f = some none
  kit : ∀ i j, i < 21 → j < 21 → PySem.W.kitOne K (.ref (Cl K i)) (.ref (Cl K j)) = some (i == j)
  kM : ∀ i, i < 21 → PySem.W.kitOne K (.ref (Cl K i)) (.ref (ga K "MaskError")) = some (isV (bk i))
  kV : ∀ i, i < 21 → PySem.W.kitOne K (.ref (Cl K i)) (.type "ValueError") = some (isV (bk i))
  kK : ∀ i, i < 21 → PySem.W.kitOne K (.ref (Cl K i)) (.type "KeyError") = some (isK (bk i))
  kR : ∀ i, i < 21 → PySem.W.kitOne K (.ref (Cl K i)) (.type "RuntimeError") = some (isR (bk i))
  sys : SysK K
  mgM : mg "MaskError" = some (.ref (ga K "MaskError"))
  iM : PySem.W.readsIn K (ga K "MaskError") (.type "type") = true ∧ PySem.W.specialIn K (.ref (ga K "MaskError")) "__getattribute__" = some (some (.builtin "type.__getattribute__")) ∧ PySem.W.findCls K (.ref (ga K "MaskError")) (.type "type") "__init__" = some (.val (.builtin "ValueError.__init__"))
  iK : PySem.W.findCls K (.type "KeyError") (.type "type") "__init__" = some (.val (.builtin "KeyError.__init__"))
  iR : PySem.W.findCls K (.type "RuntimeError") (.type "type") "__init__" = some (.val (.builtin "RuntimeError.__init__"))
  free : ∀ x ∈ frees, mg x = none
  glo : ∀ x ∈ glos, mg x = some (.ref (ga K x))
theorem txt_of (X : K.In h) (G : h.Ns mainGlobals mg) (c : SaysX fb fn K) : Txt K mg where
  cls := fun i hi => xcls_ok (c.fact (mem_c hi (by simp [clsF])))
  mgc := fun i hi => glo_ok X G (c.fact (mem_c hi (f := .fa (.glo (nm i))) (by simp [clsF])))
  ini := fun i hi => xinit_ok (c.fact (mem_c hi (by simp [clsF])))
  no := fun i hi f hf => noat_ok (c.fact (mem_c hi (f := .fa (.noat (nm i) f)) (by simp [clsF, hf])))
  kit := fun i j hi hj => kit_ok (c.fact (mem_k hi hj))
  kM := fun i hi => kit_ok (c.fact (mem_c hi (by simp [basF])))
  kV := fun i hi => kitT_ok (c.fact (mem_c hi (by simp [basF])))
  kK := fun i hi => kitT_ok (c.fact (mem_c hi (by simp [basF])))
  kR := fun i hi => kitT_ok (c.fact (mem_c hi (by simp [basF])))
  sys := sys_ok (c.fact (mem_0 (by simp)))
  mgM := glo_ok X G (c.fact (mem_0 (f := .fa (.glo "MaskError")) (by simp)))
  iM := iniC_ok (b := .ve) (c.fact (mem_0 (by simp)))
  iK := iniT_ok (b := .ke) (c.fact (mem_0 (by simp)))
  iR := iniT_ok (b := .re) (c.fact (mem_0 (by simp)))
  free := fun x hx => free_ok X G (c.fact (mem_f hx))
  glo := fun x hx => glo_ok X G (c.fact (mem_g hx))
end

abbrev R : PySem.W.OpenRow := PySem.W.OpenLaw.row PySem.Challenge.rw_maskededits_k02_exceptions_apart
abbrev hk : PySem.W.Hook := hookX 5 fb fn
def ob (s : PySem.W.SharedT) : AlD := obsXG 5 fb fn (HandSHeadRun.getT s)
theorem ob_eq (s : PySem.W.SharedT) : ob s = hk.obs s.abs := obsXG_eq (HandSHeadRun.getT_eq s)
theorem run (w : World) : HandSHeadRun.RunEq R (PySem.W.view R.prog [32]) hk ob 8000 ["MaskError", "InvalidLevels", "InvalidLevel", "InvalidName", "InvalidNumber", "InvalidText", "InvalidScript", "InvalidQuery", "InvalidView", "InvalidMoment", "InvalidEdit", "NoFault", "NotSeen", "Refused", "BadRecords", "NoRight", "SameUser", "NoOffer", "InvalidRights", "InvalidLine", "Closed", "NoServer", "_law_pool", "_law_take", "_law_at", "_law_value_kinds", "_law_all_kinds", "_law_by_place", "_law_by_name", "_law_bases"] w := by
  intro os
  kernel_rfl
end K02
set_option Elab.async false
set_option linter.all false
set_option maxRecDepth 100000
set_option maxHeartbeats 4000000
namespace K02
open PySem PySem.Spec PyProof.Rows L2 He MeH MeG MeK MeE
theorem typT (T : String) (h : typeOf (.type T) = pure (.type "type")) : typeOf (.type T) = pure (.type "type") := h
theorem ty_KE : typeOf (.type "KeyError") = pure (.type "type") := by kernel_rfl
theorem ty_RE : typeOf (.type "RuntimeError") = pure (.type "type") := by kernel_rfl
theorem bo_KE : bootBuiltins "KeyError" = some (.type "KeyError") := by decide +kernel
theorem bo_RE : bootBuiltins "RuntimeError" = some (.type "RuntimeError") := by decide +kernel
theorem ha_VE : PySem.W.handedIn (.builtin "ValueError.__init__") = true := by decide +kernel
theorem ha_KE : PySem.W.handedIn (.builtin "KeyError.__init__") = true := by decide +kernel
theorem ha_RE : PySem.W.handedIn (.builtin "RuntimeError.__init__") = true := by decide +kernel
abbrev FD (K : PySem.W.Frag) (d : DefD) (f : Addr) (fd : FuncData) : Prop := FunD K d.name d.qual d.params d.body d.scope [] [] f fd
section
variable {P : Program} {w : World} {K : PySem.W.Frag} {mg : Str → Option Value} {base : Heap} {f : Addr} {fd : FuncData}

theorem sc_InvalidLevels : FnScope ["self", "value"] ["self", "value"] (defScope iInvalidLevels) := ⟨rfl, rfl, rfl, by decide +kernel, rfl, by decide +kernel, by decide +kernel⟩
theorem ok_InvalidLevels (F : FD K eInvalidLevels f fd) (T : Txt K mg) : FnOk P w K mg base CX0 1 f fd ["self", "value"] (spI1 (Cl K 0) "value") := by
  refine F.ok sc_InvalidLevels (fun vs H Q E h => ?_) (fun cdv A outer s H vs Q E hr h => ?_)
  · obtain ⟨a, v, rfl, _⟩ := h
    rfl
  · obtain ⟨a, v, rfl, ha, k⟩ := h
    refine ⟨_, PSs.nox (pss_cons (ps_expr (pe_xiniC rfl T.mgM T.iM.1 T.iM.2.1 T.iM.2.2 ha_VE (pa_cons (pv 0) (pa_cons (pv 1) pa_nil)))) (pss_one (ps_xst (pv 0) (pv 1)))), ?_⟩
    exact ⟨_, rfl, _, rfl, a, Cl K 0, _, rfl, by simp, T.cls 0 (by decide), ha, _, rfl, _, rfl, a, Cl K 0, _, rfl, T.cls 0 (by decide), T.no 0 (by decide) "value" (by simp [fl]), .inl ⟨ha, fun dx hd hne => k dx hd hne⟩⟩
theorem sc_InvalidLevel : FnScope ["self", "value"] ["self", "value"] (defScope iInvalidLevel) := ⟨rfl, rfl, rfl, by decide +kernel, rfl, by decide +kernel, by decide +kernel⟩
theorem ok_InvalidLevel (F : FD K eInvalidLevel f fd) (T : Txt K mg) : FnOk P w K mg base CX0 1 f fd ["self", "value"] (spI1 (Cl K 1) "value") := by
  refine F.ok sc_InvalidLevel (fun vs H Q E h => ?_) (fun cdv A outer s H vs Q E hr h => ?_)
  · obtain ⟨a, v, rfl, _⟩ := h
    rfl
  · obtain ⟨a, v, rfl, ha, k⟩ := h
    refine ⟨_, PSs.nox (pss_cons (ps_expr (pe_xiniC rfl T.mgM T.iM.1 T.iM.2.1 T.iM.2.2 ha_VE (pa_cons (pv 0) (pa_cons (pv 1) pa_nil)))) (pss_one (ps_xst (pv 0) (pv 1)))), ?_⟩
    exact ⟨_, rfl, _, rfl, a, Cl K 1, _, rfl, by simp, T.cls 1 (by decide), ha, _, rfl, _, rfl, a, Cl K 1, _, rfl, T.cls 1 (by decide), T.no 1 (by decide) "value" (by simp [fl]), .inl ⟨ha, fun dx hd hne => k dx hd hne⟩⟩
theorem sc_InvalidName : FnScope ["self", "value"] ["self", "value"] (defScope iInvalidName) := ⟨rfl, rfl, rfl, by decide +kernel, rfl, by decide +kernel, by decide +kernel⟩
theorem ok_InvalidName (F : FD K eInvalidName f fd) (T : Txt K mg) : FnOk P w K mg base CX0 1 f fd ["self", "value"] (spI1 (Cl K 2) "value") := by
  refine F.ok sc_InvalidName (fun vs H Q E h => ?_) (fun cdv A outer s H vs Q E hr h => ?_)
  · obtain ⟨a, v, rfl, _⟩ := h
    rfl
  · obtain ⟨a, v, rfl, ha, k⟩ := h
    refine ⟨_, PSs.nox (pss_cons (ps_expr (pe_xiniC rfl T.mgM T.iM.1 T.iM.2.1 T.iM.2.2 ha_VE (pa_cons (pv 0) (pa_cons (pv 1) pa_nil)))) (pss_one (ps_xst (pv 0) (pv 1)))), ?_⟩
    exact ⟨_, rfl, _, rfl, a, Cl K 2, _, rfl, by simp, T.cls 2 (by decide), ha, _, rfl, _, rfl, a, Cl K 2, _, rfl, T.cls 2 (by decide), T.no 2 (by decide) "value" (by simp [fl]), .inl ⟨ha, fun dx hd hne => k dx hd hne⟩⟩
theorem sc_InvalidNumber : FnScope ["self", "value"] ["self", "value"] (defScope iInvalidNumber) := ⟨rfl, rfl, rfl, by decide +kernel, rfl, by decide +kernel, by decide +kernel⟩
theorem ok_InvalidNumber (F : FD K eInvalidNumber f fd) (T : Txt K mg) : FnOk P w K mg base CX0 1 f fd ["self", "value"] (spI1 (Cl K 3) "value") := by
  refine F.ok sc_InvalidNumber (fun vs H Q E h => ?_) (fun cdv A outer s H vs Q E hr h => ?_)
  · obtain ⟨a, v, rfl, _⟩ := h
    rfl
  · obtain ⟨a, v, rfl, ha, k⟩ := h
    refine ⟨_, PSs.nox (pss_cons (ps_expr (pe_xiniC rfl T.mgM T.iM.1 T.iM.2.1 T.iM.2.2 ha_VE (pa_cons (pv 0) (pa_cons (pv 1) pa_nil)))) (pss_one (ps_xst (pv 0) (pv 1)))), ?_⟩
    exact ⟨_, rfl, _, rfl, a, Cl K 3, _, rfl, by simp, T.cls 3 (by decide), ha, _, rfl, _, rfl, a, Cl K 3, _, rfl, T.cls 3 (by decide), T.no 3 (by decide) "value" (by simp [fl]), .inl ⟨ha, fun dx hd hne => k dx hd hne⟩⟩
theorem sc_InvalidText : FnScope ["self", "value"] ["self", "value"] (defScope iInvalidText) := ⟨rfl, rfl, rfl, by decide +kernel, rfl, by decide +kernel, by decide +kernel⟩
theorem ok_InvalidText (F : FD K eInvalidText f fd) (T : Txt K mg) : FnOk P w K mg base CX0 1 f fd ["self", "value"] (spI1 (Cl K 4) "value") := by
  refine F.ok sc_InvalidText (fun vs H Q E h => ?_) (fun cdv A outer s H vs Q E hr h => ?_)
  · obtain ⟨a, v, rfl, _⟩ := h
    rfl
  · obtain ⟨a, v, rfl, ha, k⟩ := h
    refine ⟨_, PSs.nox (pss_cons (ps_expr (pe_xiniC rfl T.mgM T.iM.1 T.iM.2.1 T.iM.2.2 ha_VE (pa_cons (pv 0) (pa_cons (pv 1) pa_nil)))) (pss_one (ps_xst (pv 0) (pv 1)))), ?_⟩
    exact ⟨_, rfl, _, rfl, a, Cl K 4, _, rfl, by simp, T.cls 4 (by decide), ha, _, rfl, _, rfl, a, Cl K 4, _, rfl, T.cls 4 (by decide), T.no 4 (by decide) "value" (by simp [fl]), .inl ⟨ha, fun dx hd hne => k dx hd hne⟩⟩
theorem sc_InvalidQuery : FnScope ["self", "value"] ["self", "value"] (defScope iInvalidQuery) := ⟨rfl, rfl, rfl, by decide +kernel, rfl, by decide +kernel, by decide +kernel⟩
theorem ok_InvalidQuery (F : FD K eInvalidQuery f fd) (T : Txt K mg) : FnOk P w K mg base CX0 1 f fd ["self", "value"] (spI1 (Cl K 5) "value") := by
  refine F.ok sc_InvalidQuery (fun vs H Q E h => ?_) (fun cdv A outer s H vs Q E hr h => ?_)
  · obtain ⟨a, v, rfl, _⟩ := h
    rfl
  · obtain ⟨a, v, rfl, ha, k⟩ := h
    refine ⟨_, PSs.nox (pss_cons (ps_expr (pe_xiniC rfl T.mgM T.iM.1 T.iM.2.1 T.iM.2.2 ha_VE (pa_cons (pv 0) (pa_cons (pv 1) pa_nil)))) (pss_one (ps_xst (pv 0) (pv 1)))), ?_⟩
    exact ⟨_, rfl, _, rfl, a, Cl K 5, _, rfl, by simp, T.cls 5 (by decide), ha, _, rfl, _, rfl, a, Cl K 5, _, rfl, T.cls 5 (by decide), T.no 5 (by decide) "value" (by simp [fl]), .inl ⟨ha, fun dx hd hne => k dx hd hne⟩⟩
theorem sc_InvalidView : FnScope ["self", "value"] ["self", "value"] (defScope iInvalidView) := ⟨rfl, rfl, rfl, by decide +kernel, rfl, by decide +kernel, by decide +kernel⟩
theorem ok_InvalidView (F : FD K eInvalidView f fd) (T : Txt K mg) : FnOk P w K mg base CX0 1 f fd ["self", "value"] (spI1 (Cl K 6) "value") := by
  refine F.ok sc_InvalidView (fun vs H Q E h => ?_) (fun cdv A outer s H vs Q E hr h => ?_)
  · obtain ⟨a, v, rfl, _⟩ := h
    rfl
  · obtain ⟨a, v, rfl, ha, k⟩ := h
    refine ⟨_, PSs.nox (pss_cons (ps_expr (pe_xiniC rfl T.mgM T.iM.1 T.iM.2.1 T.iM.2.2 ha_VE (pa_cons (pv 0) (pa_cons (pv 1) pa_nil)))) (pss_one (ps_xst (pv 0) (pv 1)))), ?_⟩
    exact ⟨_, rfl, _, rfl, a, Cl K 6, _, rfl, by simp, T.cls 6 (by decide), ha, _, rfl, _, rfl, a, Cl K 6, _, rfl, T.cls 6 (by decide), T.no 6 (by decide) "value" (by simp [fl]), .inl ⟨ha, fun dx hd hne => k dx hd hne⟩⟩
theorem sc_InvalidMoment : FnScope ["self", "value"] ["self", "value"] (defScope iInvalidMoment) := ⟨rfl, rfl, rfl, by decide +kernel, rfl, by decide +kernel, by decide +kernel⟩
theorem ok_InvalidMoment (F : FD K eInvalidMoment f fd) (T : Txt K mg) : FnOk P w K mg base CX0 1 f fd ["self", "value"] (spI1 (Cl K 7) "value") := by
  refine F.ok sc_InvalidMoment (fun vs H Q E h => ?_) (fun cdv A outer s H vs Q E hr h => ?_)
  · obtain ⟨a, v, rfl, _⟩ := h
    rfl
  · obtain ⟨a, v, rfl, ha, k⟩ := h
    refine ⟨_, PSs.nox (pss_cons (ps_expr (pe_xiniC rfl T.mgM T.iM.1 T.iM.2.1 T.iM.2.2 ha_VE (pa_cons (pv 0) (pa_cons (pv 1) pa_nil)))) (pss_one (ps_xst (pv 0) (pv 1)))), ?_⟩
    exact ⟨_, rfl, _, rfl, a, Cl K 7, _, rfl, by simp, T.cls 7 (by decide), ha, _, rfl, _, rfl, a, Cl K 7, _, rfl, T.cls 7 (by decide), T.no 7 (by decide) "value" (by simp [fl]), .inl ⟨ha, fun dx hd hne => k dx hd hne⟩⟩
theorem sc_InvalidEdit : FnScope ["self", "value"] ["self", "value"] (defScope iInvalidEdit) := ⟨rfl, rfl, rfl, by decide +kernel, rfl, by decide +kernel, by decide +kernel⟩
theorem ok_InvalidEdit (F : FD K eInvalidEdit f fd) (T : Txt K mg) : FnOk P w K mg base CX0 1 f fd ["self", "value"] (spI1 (Cl K 8) "value") := by
  refine F.ok sc_InvalidEdit (fun vs H Q E h => ?_) (fun cdv A outer s H vs Q E hr h => ?_)
  · obtain ⟨a, v, rfl, _⟩ := h
    rfl
  · obtain ⟨a, v, rfl, ha, k⟩ := h
    refine ⟨_, PSs.nox (pss_cons (ps_expr (pe_xiniC rfl T.mgM T.iM.1 T.iM.2.1 T.iM.2.2 ha_VE (pa_cons (pv 0) (pa_cons (pv 1) pa_nil)))) (pss_one (ps_xst (pv 0) (pv 1)))), ?_⟩
    exact ⟨_, rfl, _, rfl, a, Cl K 8, _, rfl, by simp, T.cls 8 (by decide), ha, _, rfl, _, rfl, a, Cl K 8, _, rfl, T.cls 8 (by decide), T.no 8 (by decide) "value" (by simp [fl]), .inl ⟨ha, fun dx hd hne => k dx hd hne⟩⟩
theorem sc_BadRecords : FnScope ["self", "value"] ["self", "value"] (defScope iBadRecords) := ⟨rfl, rfl, rfl, by decide +kernel, rfl, by decide +kernel, by decide +kernel⟩
theorem ok_BadRecords (F : FD K eBadRecords f fd) (T : Txt K mg) : FnOk P w K mg base CX0 1 f fd ["self", "value"] (spI1 (Cl K 9) "value") := by
  refine F.ok sc_BadRecords (fun vs H Q E h => ?_) (fun cdv A outer s H vs Q E hr h => ?_)
  · obtain ⟨a, v, rfl, _⟩ := h
    rfl
  · obtain ⟨a, v, rfl, ha, k⟩ := h
    refine ⟨_, PSs.nox (pss_cons (ps_expr (pe_xiniC rfl T.mgM T.iM.1 T.iM.2.1 T.iM.2.2 ha_VE (pa_cons (pv 0) (pa_cons (pv 1) pa_nil)))) (pss_one (ps_xst (pv 0) (pv 1)))), ?_⟩
    exact ⟨_, rfl, _, rfl, a, Cl K 9, _, rfl, by simp, T.cls 9 (by decide), ha, _, rfl, _, rfl, a, Cl K 9, _, rfl, T.cls 9 (by decide), T.no 9 (by decide) "value" (by simp [fl]), .inl ⟨ha, fun dx hd hne => k dx hd hne⟩⟩
theorem sc_InvalidRights : FnScope ["self", "value"] ["self", "value"] (defScope iInvalidRights) := ⟨rfl, rfl, rfl, by decide +kernel, rfl, by decide +kernel, by decide +kernel⟩
theorem ok_InvalidRights (F : FD K eInvalidRights f fd) (T : Txt K mg) : FnOk P w K mg base CX0 1 f fd ["self", "value"] (spI1 (Cl K 10) "value") := by
  refine F.ok sc_InvalidRights (fun vs H Q E h => ?_) (fun cdv A outer s H vs Q E hr h => ?_)
  · obtain ⟨a, v, rfl, _⟩ := h
    rfl
  · obtain ⟨a, v, rfl, ha, k⟩ := h
    refine ⟨_, PSs.nox (pss_cons (ps_expr (pe_xiniC rfl T.mgM T.iM.1 T.iM.2.1 T.iM.2.2 ha_VE (pa_cons (pv 0) (pa_cons (pv 1) pa_nil)))) (pss_one (ps_xst (pv 0) (pv 1)))), ?_⟩
    exact ⟨_, rfl, _, rfl, a, Cl K 10, _, rfl, by simp, T.cls 10 (by decide), ha, _, rfl, _, rfl, a, Cl K 10, _, rfl, T.cls 10 (by decide), T.no 10 (by decide) "value" (by simp [fl]), .inl ⟨ha, fun dx hd hne => k dx hd hne⟩⟩
theorem sc_InvalidLine : FnScope ["self", "value"] ["self", "value"] (defScope iInvalidLine) := ⟨rfl, rfl, rfl, by decide +kernel, rfl, by decide +kernel, by decide +kernel⟩
theorem ok_InvalidLine (F : FD K eInvalidLine f fd) (T : Txt K mg) : FnOk P w K mg base CX0 1 f fd ["self", "value"] (spI1 (Cl K 11) "value") := by
  refine F.ok sc_InvalidLine (fun vs H Q E h => ?_) (fun cdv A outer s H vs Q E hr h => ?_)
  · obtain ⟨a, v, rfl, _⟩ := h
    rfl
  · obtain ⟨a, v, rfl, ha, k⟩ := h
    refine ⟨_, PSs.nox (pss_cons (ps_expr (pe_xiniC rfl T.mgM T.iM.1 T.iM.2.1 T.iM.2.2 ha_VE (pa_cons (pv 0) (pa_cons (pv 1) pa_nil)))) (pss_one (ps_xst (pv 0) (pv 1)))), ?_⟩
    exact ⟨_, rfl, _, rfl, a, Cl K 11, _, rfl, by simp, T.cls 11 (by decide), ha, _, rfl, _, rfl, a, Cl K 11, _, rfl, T.cls 11 (by decide), T.no 11 (by decide) "value" (by simp [fl]), .inl ⟨ha, fun dx hd hne => k dx hd hne⟩⟩
theorem sc_NoFault : FnScope ["self", "value"] ["self", "value"] (defScope iNoFault) := ⟨rfl, rfl, rfl, by decide +kernel, rfl, by decide +kernel, by decide +kernel⟩
theorem ok_NoFault (F : FD K eNoFault f fd) (T : Txt K mg) : FnOk P w K mg base CX0 1 f fd ["self", "value"] (spI1 (Cl K 12) "value") := by
  refine F.ok sc_NoFault (fun vs H Q E h => ?_) (fun cdv A outer s H vs Q E hr h => ?_)
  · obtain ⟨a, v, rfl, _⟩ := h
    rfl
  · obtain ⟨a, v, rfl, ha, k⟩ := h
    refine ⟨_, PSs.nox (pss_cons (ps_expr (pe_xiniC rfl T.mgM T.iM.1 T.iM.2.1 T.iM.2.2 ha_VE (pa_cons (pv 0) (pa_cons (pv 1) pa_nil)))) (pss_one (ps_xst (pv 0) (pv 1)))), ?_⟩
    exact ⟨_, rfl, _, rfl, a, Cl K 12, _, rfl, by simp, T.cls 12 (by decide), ha, _, rfl, _, rfl, a, Cl K 12, _, rfl, T.cls 12 (by decide), T.no 12 (by decide) "value" (by simp [fl]), .inl ⟨ha, fun dx hd hne => k dx hd hne⟩⟩
theorem sc_NotSeen : FnScope ["self", "value"] ["self", "value"] (defScope iNotSeen) := ⟨rfl, rfl, rfl, by decide +kernel, rfl, by decide +kernel, by decide +kernel⟩
theorem ok_NotSeen (F : FD K eNotSeen f fd) (T : Txt K mg) : FnOk P w K mg base CX0 1 f fd ["self", "value"] (spI1 (Cl K 13) "value") := by
  refine F.ok sc_NotSeen (fun vs H Q E h => ?_) (fun cdv A outer s H vs Q E hr h => ?_)
  · obtain ⟨a, v, rfl, _⟩ := h
    rfl
  · obtain ⟨a, v, rfl, ha, k⟩ := h
    refine ⟨_, PSs.nox (pss_cons (ps_expr (pe_xiniB rfl (T.free "KeyError" (by simp [frees])) bo_KE ty_KE (by decide +kernel) T.iK ha_KE (pa_cons (pv 0) (pa_cons (pv 1) pa_nil)))) (pss_one (ps_xst (pv 0) (pv 1)))), ?_⟩
    exact ⟨_, rfl, _, rfl, a, Cl K 13, _, rfl, by simp, T.cls 13 (by decide), ha, _, rfl, _, rfl, a, Cl K 13, _, rfl, T.cls 13 (by decide), T.no 13 (by decide) "value" (by simp [fl]), .inl ⟨ha, fun dx hd hne => k dx hd hne⟩⟩
theorem sc_NoOffer : FnScope ["self", "value"] ["self", "value"] (defScope iNoOffer) := ⟨rfl, rfl, rfl, by decide +kernel, rfl, by decide +kernel, by decide +kernel⟩
theorem ok_NoOffer (F : FD K eNoOffer f fd) (T : Txt K mg) : FnOk P w K mg base CX0 1 f fd ["self", "value"] (spI1 (Cl K 14) "value") := by
  refine F.ok sc_NoOffer (fun vs H Q E h => ?_) (fun cdv A outer s H vs Q E hr h => ?_)
  · obtain ⟨a, v, rfl, _⟩ := h
    rfl
  · obtain ⟨a, v, rfl, ha, k⟩ := h
    refine ⟨_, PSs.nox (pss_cons (ps_expr (pe_xiniB rfl (T.free "KeyError" (by simp [frees])) bo_KE ty_KE (by decide +kernel) T.iK ha_KE (pa_cons (pv 0) (pa_cons (pv 1) pa_nil)))) (pss_one (ps_xst (pv 0) (pv 1)))), ?_⟩
    exact ⟨_, rfl, _, rfl, a, Cl K 14, _, rfl, by simp, T.cls 14 (by decide), ha, _, rfl, _, rfl, a, Cl K 14, _, rfl, T.cls 14 (by decide), T.no 14 (by decide) "value" (by simp [fl]), .inl ⟨ha, fun dx hd hne => k dx hd hne⟩⟩
theorem sc_NoRight : FnScope ["self", "value"] ["self", "value"] (defScope iNoRight) := ⟨rfl, rfl, rfl, by decide +kernel, rfl, by decide +kernel, by decide +kernel⟩
theorem ok_NoRight (F : FD K eNoRight f fd) (T : Txt K mg) : FnOk P w K mg base CX0 1 f fd ["self", "value"] (spI1 (Cl K 15) "value") := by
  refine F.ok sc_NoRight (fun vs H Q E h => ?_) (fun cdv A outer s H vs Q E hr h => ?_)
  · obtain ⟨a, v, rfl, _⟩ := h
    rfl
  · obtain ⟨a, v, rfl, ha, k⟩ := h
    refine ⟨_, PSs.nox (pss_cons (ps_expr (pe_xiniB rfl (T.free "RuntimeError" (by simp [frees])) bo_RE ty_RE (by decide +kernel) T.iR ha_RE (pa_cons (pv 0) (pa_cons (pv 1) pa_nil)))) (pss_one (ps_xst (pv 0) (pv 1)))), ?_⟩
    exact ⟨_, rfl, _, rfl, a, Cl K 15, _, rfl, by simp, T.cls 15 (by decide), ha, _, rfl, _, rfl, a, Cl K 15, _, rfl, T.cls 15 (by decide), T.no 15 (by decide) "value" (by simp [fl]), .inl ⟨ha, fun dx hd hne => k dx hd hne⟩⟩
theorem sc_SameUser : FnScope ["self", "value"] ["self", "value"] (defScope iSameUser) := ⟨rfl, rfl, rfl, by decide +kernel, rfl, by decide +kernel, by decide +kernel⟩
theorem ok_SameUser (F : FD K eSameUser f fd) (T : Txt K mg) : FnOk P w K mg base CX0 1 f fd ["self", "value"] (spI1 (Cl K 16) "value") := by
  refine F.ok sc_SameUser (fun vs H Q E h => ?_) (fun cdv A outer s H vs Q E hr h => ?_)
  · obtain ⟨a, v, rfl, _⟩ := h
    rfl
  · obtain ⟨a, v, rfl, ha, k⟩ := h
    refine ⟨_, PSs.nox (pss_cons (ps_expr (pe_xiniB rfl (T.free "RuntimeError" (by simp [frees])) bo_RE ty_RE (by decide +kernel) T.iR ha_RE (pa_cons (pv 0) (pa_cons (pv 1) pa_nil)))) (pss_one (ps_xst (pv 0) (pv 1)))), ?_⟩
    exact ⟨_, rfl, _, rfl, a, Cl K 16, _, rfl, by simp, T.cls 16 (by decide), ha, _, rfl, _, rfl, a, Cl K 16, _, rfl, T.cls 16 (by decide), T.no 16 (by decide) "value" (by simp [fl]), .inl ⟨ha, fun dx hd hne => k dx hd hne⟩⟩
theorem sc_InvalidScript : FnScope ["self", "at"] ["self", "at"] (defScope iInvalidScript) := ⟨rfl, rfl, rfl, by decide +kernel, rfl, by decide +kernel, by decide +kernel⟩
theorem ok_InvalidScript (F : FD K eInvalidScript f fd) (T : Txt K mg) : FnOk P w K mg base CX0 1 f fd ["self", "at"] (spI1 (Cl K 17) "at") := by
  refine F.ok sc_InvalidScript (fun vs H Q E h => ?_) (fun cdv A outer s H vs Q E hr h => ?_)
  · obtain ⟨a, v, rfl, _⟩ := h
    rfl
  · obtain ⟨a, v, rfl, ha, k⟩ := h
    refine ⟨_, PSs.nox (pss_cons (ps_expr (pe_xiniC rfl T.mgM T.iM.1 T.iM.2.1 T.iM.2.2 ha_VE (pa_cons (pv 0) (pa_cons (pv 1) pa_nil)))) (pss_one (ps_xst (pv 0) (pv 1)))), ?_⟩
    exact ⟨_, rfl, _, rfl, a, Cl K 17, _, rfl, by simp, T.cls 17 (by decide), ha, _, rfl, _, rfl, a, Cl K 17, _, rfl, T.cls 17 (by decide), T.no 17 (by decide) "at" (by simp [fl]), .inl ⟨ha, fun dx hd hne => k dx hd hne⟩⟩
theorem sc_Refused : FnScope ["self", "word", "value"] ["self", "word", "value"] (defScope iRefused) := ⟨rfl, rfl, rfl, by decide +kernel, rfl, by decide +kernel, by decide +kernel⟩
theorem ok_Refused (F : FD K eRefused f fd) (T : Txt K mg) : FnOk P w K mg base CX0 1 f fd ["self", "word", "value"] (spI2 (Cl K 18) "word" "value") := by
  refine F.ok sc_Refused (fun vs H Q E h => ?_) (fun cdv A outer s H vs Q E hr h => ?_)
  · obtain ⟨a, v, w, rfl, _⟩ := h
    rfl
  · obtain ⟨a, v, w, rfl, ha, k⟩ := h
    refine ⟨_, PSs.nox (pss_cons (ps_expr (pe_xiniB rfl (T.free "RuntimeError" (by simp [frees])) bo_RE ty_RE (by decide +kernel) T.iR ha_RE (pa_cons (pv 0) (pa_cons (pv 1) (pa_cons (pv 2) pa_nil))))) (pss_cons (ps_xst (pv 0) (pv 1)) (pss_one (ps_xst (pv 0) (pv 2))))), ?_⟩
    refine ⟨_, rfl, _, rfl, _, rfl, a, Cl K 18, _, rfl, by simp, T.cls 18 (by decide), ha, _, rfl, _, rfl, a, Cl K 18, _, rfl, T.cls 18 (by decide), T.no 18 (by decide) "word" (by simp [fl]), .inl ⟨ha, fun dx hd hne => ?_⟩⟩
    refine ⟨_, rfl, _, rfl, a, Cl K 18, _, rfl, T.cls 18 (by decide), T.no 18 (by decide) "value" (by simp [fl]), .inr ⟨dx, _, upd_same, by rw [upd_ne hne, upd_same], by simp, ?_⟩⟩
    have e : upd (upd (upd H dx (exd dx [("word", v)])) a (exo a (Cl K 18) (some dx))) dx (exd dx [("value", w), ("word", v)]) = upd (upd H dx (exd dx [("value", w), ("word", v)])) a (exo a (Cl K 18) (some dx)) := by
      funext b
      by_cases h1 : b = dx
      · rw [h1, upd_same, upd_ne hne, upd_same]
      · rw [upd_ne h1]
        by_cases h2 : b = a
        · rw [h2, upd_same, upd_same]
        · rw [upd_ne h2, upd_ne h2, upd_ne h1, upd_ne h1]
    show Q V.non (upd (upd (upd H dx (exd dx [("word", v)])) a (exo a (Cl K 18) (some dx))) dx (exd dx [("value", w), ("word", v)]))
    rw [e]
    exact k dx hd hne
theorem sc_Closed : FnScope ["self"] ["self"] (defScope iClosed) := ⟨rfl, rfl, rfl, by decide +kernel, rfl, by decide +kernel, by decide +kernel⟩
theorem ok_Closed (F : FD K eClosed f fd) (T : Txt K mg) : FnOk P w K mg base CX0 1 f fd ["self"] (spI0 (Cl K 19)) := by
  refine F.ok sc_Closed (fun vs H Q E h => ?_) (fun cdv A outer s H vs Q E hr h => ?_)
  · obtain ⟨a, rfl, _⟩ := h
    rfl
  · obtain ⟨a, rfl, ha, k⟩ := h
    refine ⟨_, PSs.nox (pss_one (ps_expr (pe_xiniB rfl (T.free "RuntimeError" (by simp [frees])) bo_RE ty_RE (by decide +kernel) T.iR ha_RE (pa_cons (pv 0) (pa_cons pe_str pa_nil))))), ?_⟩
    exact ⟨_, rfl, a, Cl K 19, _, rfl, by simp, T.cls 19 (by decide), ha, k⟩
theorem sc_NoServer : FnScope ["self"] ["self"] (defScope iNoServer) := ⟨rfl, rfl, rfl, by decide +kernel, rfl, by decide +kernel, by decide +kernel⟩
theorem ok_NoServer (F : FD K eNoServer f fd) (T : Txt K mg) : FnOk P w K mg base CX0 1 f fd ["self"] (spI0 (Cl K 20)) := by
  refine F.ok sc_NoServer (fun vs H Q E h => ?_) (fun cdv A outer s H vs Q E hr h => ?_)
  · obtain ⟨a, rfl, _⟩ := h
    rfl
  · obtain ⟨a, rfl, ha, k⟩ := h
    refine ⟨_, PSs.nox (pss_one (ps_expr (pe_xiniB rfl (T.free "RuntimeError" (by simp [frees])) bo_RE ty_RE (by decide +kernel) T.iR ha_RE (pa_cons (pv 0) (pa_cons pe_str pa_nil))))), ?_⟩
    exact ⟨_, rfl, a, Cl K 20, _, rfl, by simp, T.cls 20 (by decide), ha, k⟩
end
end K02
set_option Elab.async false
set_option linter.all false
set_option maxRecDepth 100000
set_option maxHeartbeats 4000000
namespace K02
open PySem PySem.Spec PyProof.Rows L2 He MeH MeG MeK MeE Evl
theorem bo_isi : bootBuiltins "isinstance" = some (.builtin "isinstance") := by decide +kernel
theorem bo_VE : bootBuiltins "ValueError" = some (.type "ValueError") := by decide +kernel
/-! binding -/
theorem kbn {K : PySem.W.Frag} {x qual : Str} {params : Arguments} {body : List Stmt} {scope : Scope} {f : Addr} {fd : FuncData} {ps ks : List Str} {n : Nat} {g : List Value → List Value → List Value} {gV : List V → List V → List V} (F : FunD K x qual params body scope [] [] f fd)
    (h : ∀ (kV doc pm : Value) (an : Option Addr) (cdv ct : Value) (us ws : List Value), us.length = n → ws.length = ks.length → bindArgs (PySem.W.fnOf x qual params body scope .none kV doc pm an cdv ct) ⟨us, ks.zip ws⟩ = pure (ps.zip (g us ws)))
    (rel : ∀ {vs : List V} {us : List Value} {zs : List V} {ws : List Value}, Vals vs us → Vals zs ws → Vals (gV vs zs) (g us ws)) : KBn K fd ps n ks g gV := by
  obtain ⟨oc, od, dV, kV, doc, pm, an, cdv, ct, osl, rfl, lk, hcd, hD, hK⟩ := F.ex
  rcases hD with ⟨_, rfl⟩ | ⟨e, _⟩
  · exact ⟨fun s us ws _ l1 l2 => .of_eq (h kV doc pm an cdv ct us ws l1 l2), rel⟩
  · exact absurd rfl e
theorem vals_snoc {vs : List V} {us : List Value} {v : V} {u : Value} (r : Vals vs us) (q : RelV v u) : Vals (vs ++ [v]) (us ++ [u]) := r.append (.cons q .nil)
theorem vals_rev : ∀ {vs : List V} {us : List Value}, Vals vs us → Vals vs.reverse us.reverse
  | _, _, .nil => .nil
  | _, _, .cons q r => by
    rw [List.reverse_cons, List.reverse_cons]
    exact vals_snoc (vals_rev r) q
/-! the mathematics: kinds as truth values -/
def kb (i n : Nat) : List Bool := (List.range n).map fun j => i == j
theorem all_bl {H : Hp} : ∀ {bs : List Bool} {xs : List V}, All (bs.map fun b => Is (.bl b)) xs H → xs = bs.map V.bl
  | [], [], _ => rfl
  | [], _ :: _, h => h.elim
  | _ :: _, [], h => h.elim
  | b :: bs, x :: xs, h => by
    have h1 : x = .bl b := h.1
    rw [h1, all_bl h.2, List.map_cons]
theorem kb_at : ∀ i, i < 21 → ((List.range 21).filter fun j => (kb i 21).getD j false) = [i] := by decide
/-! promises -/
def RetX (xs : List V) (H : Hp) (Q : VK) : Prop := ∀ p H2, Ex H H2 → H2 p = some (.lst xs) → Q (.ref p) H2
def spAt (K : PySem.W.Frag) : Sp := fun vs H Q _ => ∃ (l : Addr) (bs : List Bool), vs = [.ref l] ∧ SqL K H l (bs.map V.bl) ∧ bs.length ≤ 100 ∧ RetX (((List.range bs.length).filter fun j => bs.getD j false).map fun j => V.int (j : Nat)) H Q
def spVK (K : PySem.W.Frag) (n : Nat) : Sp := fun vs H Q _ => ∃ (v : V) (i : Nat), vs = [v] ∧ i < 21 ∧ XA (Cl K i) v H ∧ RetX ((kb i n).map V.bl) H Q
def spBy (K : PySem.W.Frag) : Sp := fun vs H Q _ => ∃ (v : V), vs = [v] ∧ ∀ u H', Ex H H' → Lst ((List.range 17).map fun j => XV (Cl K j) [("value", v)]) u H' → Q u H'
def spBases (K : PySem.W.Frag) : Sp := fun vs H Q _ => ∃ (v : V) (i : Nat), vs = [v] ∧ i < 21 ∧ XA (Cl K i) v H ∧ RetX ([isV (bk i), isV (bk i), isK (bk i), isR (bk i)].map V.bl) H Q
def spTake : Sp := fun vs H Q _ => ∃ (p : Addr) (a b sd : Int), vs = [.ref p, .int sd] ∧ H p = some (.lst [.int a, .int b]) ∧ 0 < sd ∧ sd < 1073741824 ∧ 0 ≤ b ∧ b < 4294967296 ∧
  ∀ n a' b' : Int, 0 ≤ n → n < sd → 0 ≤ b' → b' < 4294967296 → Q (.int n) (upd H p (.lst [.int a', .int b']))
def spPool (K : PySem.W.Frag) : Sp := fun vs H Q _ => ∃ (l : Addr) (ns : List Int) (k : Nat), vs = [.ref l, .int (k : Int)] ∧ SqL K H l (ns.map V.int) ∧ k < 100 ∧ ∀ (p : Addr) (a b : Int), H p = none → 0 ≤ b → b < 4294967296 → Q (.ref p) (upd H p (.lst [.int a, .int b]))
theorem lst_bl {bs : List Bool} {Ps : List VP} (e : Ps = bs.map fun b => Is (.bl b)) {v : V} {H : Hp} (h : Lst Ps v H) : ∃ p, v = .ref p ∧ H p = some (.lst (bs.map V.bl)) := by
  subst e
  obtain ⟨p, xs, h1, h2, h3⟩ := h
  rw [all_bl h3] at h2
  exact ⟨p, h1, h2⟩
section
variable {P : Program} {w : World} {K : PySem.W.Frag} {mg : Str → Option Value} {base : Heap} {f : Addr} {fd : FuncData}
theorem mono_bl (l : List Bool) : MonoL (l.map fun b => Is (.bl b)) := fun R hR => by
  obtain ⟨b, _, rfl⟩ := List.mem_map.mp hR
  exact mono_is _
def AllB (bs : List Bool) : List V → Hp → Prop := All (bs.map fun b => Is (.bl b))
def LB (bs : List Bool) : VP := Lst (bs.map fun b => Is (.bl b))
theorem mono_lb (bs : List Bool) : Mono (LB bs) := mono_lst (mono_bl bs)
section
variable {σ : L2.St} {H : Hp} {ta tb te : TE}
theorem gb_nil : GetsA tNil σ H (AllB []) := ga_nil
theorem gb_cons {b : Bool} {bs : List Bool} {tr : TA} (h : Gets te σ H (Is (.bl b))) (hr : GetsA tr σ H (AllB bs)) : GetsA (tCons te tr) σ H (AllB (b :: bs)) := ga_cons h (mono_is _) hr
theorem g_lb {t : TA} {bs : List Bool} (h : GetsA t σ H (AllB bs)) (hl : bs.length ≤ 1000) : Gets (tLst t) σ H (LB bs) := g_lst h (mono_bl bs) (by rw [List.length_map]; exact hl)
theorem g_catB {bs cs : List Bool} (ha : Gets ta σ H (LB bs)) (hb : Gets tb σ H (LB cs)) (hl : bs.length + cs.length ≤ 1000) : Gets (tOp rCat ta tb) σ H (LB (bs ++ cs)) := by
  have h := g_cat ha hb (mono_bl bs) (mono_bl cs) (by rw [List.length_map, List.length_map]; exact hl)
  unfold LB
  rw [List.map_append]
  exact h
theorem bl_all {H : Hp} : ∀ bs : List Bool, All (bs.map fun b => Is (.bl b)) (bs.map V.bl) H
  | [] => trivial
  | _ :: bs => ⟨rfl, bl_all bs⟩
theorem lb_at {bs : List Bool} {v : V} (h : LB bs v H) : ∃ p, v = .ref p ∧ H p = some (.lst (bs.map V.bl)) := by
  obtain ⟨p, xs, h1, h2, h3⟩ := h
  rw [all_bl h3] at h2
  exact ⟨p, h1, h2⟩
end
/-! _law_at -/
theorem sc_at : FnScope ["_law_kinds", "_law_k"] ["_law_kinds"] (defScope s_law_at) := ⟨rfl, rfl, rfl, by decide +kernel, rfl, by decide +kernel, by decide +kernel⟩
theorem ok_at (F : FD K d_law_at f fd) (T : Txt K mg) : FnOk P w K mg base CX0 1 f fd ["_law_kinds"] (spAt K) := by
  refine F.ok sc_at (fun vs H Q E h => ?_) (fun cdv A outer s H vs Q E hr h => ?_)
  · obtain ⟨l, bs, rfl, _⟩ := h
    rfl
  · obtain ⟨l, bs, rfl, hl, hn, k⟩ := h
    refine ⟨_, PSs.nox (pss_one (ps_ret (pe_lc (own := [("_law_k", 1)]) (g := gName 1) (tt := tB (tOp (rIxL K) (tVar 0) (tVar 1))) rfl sc_at.nd (pi_range1 rfl (T.free "range" (by simp [frees])) (pa_cons (pe_callB call_len_seq (by rfl) (T.free "len" (by simp [frees])) PySem.boot_len (pa_cons (pv 0) pa_nil)) pa_nil))
      (blkOk_by (own := [("_law_k", 1)]) (N := ["_law_kinds", "_law_k"]) (sc := defScope s_law_at) (by decide +kernel)) (fun _ _ _ _ _ => pg_name (i := 1) sc_at.nd rfl (Or.inl rfl)) (fun _ _ _ _ _ => pts_one (pt_val (pe_ix ix_list (pv 0) (pv 1) (fun _ _ => rfl)))) (fun _ _ _ _ _ => pv 1)))), ?_⟩
    have hlen : ((bs.map V.bl).length : Int) = (bs.length : Int) := by rw [List.length_map]
    refine s_retL (el_lcR1 (n := (bs.length : Int)) (fun j => bs.getD j false) (fun j => V.int (j : Nat)) (ea_cons (ev_is (ev_len (ev_var rfl) hl) (by rw [hlen])) ea_nil) (by omega) (fun _ => rfl) (fun i H1 e1 hi => ?_) (fun i H1 e1 hi _ => ev_var rfl)) (fun p H1 hp e1 h1 => ?_)
    · refine et_B (ev_op (ev_var (i := 0) rfl) (ev_var (i := 1) rfl) (rv_ixL (xs := bs.map V.bl) (ex_l e1 hl) ?_))
      have hi' : i < bs.length := by omega
      have e2 : (bs.map V.bl)[i]? = some (V.bl (bs.getD i false)) := by
        rw [List.getElem?_map, List.getD_eq_getElem?_getD, List.getElem?_eq_getElem hi']
        rfl
      exact atI_nat e2
    · refine k p H1 e1 ?_
      rw [h1]
      show some (HO.lst (given bs.length _ _)) = _
      rfl

/-! _law_value_kinds -/
theorem sc_vk : FnScope ["_law_e", "_law_kinds"] ["_law_e"] (defScope s_law_value_kinds) := ⟨rfl, rfl, rfl, by decide +kernel, rfl, by decide +kernel, by decide +kernel⟩
theorem ok_vk (F : FD K d_law_value_kinds f fd) (T : Txt K mg) : FnOk P w K mg base CX0 1 f fd ["_law_e"] (spVK K 17) := by
  refine F.ok sc_vk (fun vs H Q E h => ?_) (fun cdv A outer s H vs Q E hr h => ?_)
  · obtain ⟨v, i, rfl, _⟩ := h
    rfl
  · obtain ⟨v, i, rfl, hi, hx, k⟩ := h
    refine ⟨_, PSs.nox (pss_cons (ps_set (i := 1) sc_vk.nd rfl (Or.inl rfl) (pe_lst (pa_cons (pe_callB call_xis (by rfl) (T.free "isinstance" (by simp [frees])) bo_isi (pa_cons (pv 0) (pa_cons (pe_glob (v := .ref (Cl K 0)) rfl (T.mgc 0 (by decide)) rfl) pa_nil))) (pa_cons (pe_callB call_xis (by rfl) (T.free "isinstance" (by simp [frees])) bo_isi (pa_cons (pv 0) (pa_cons (pe_glob (v := .ref (Cl K 1)) rfl (T.mgc 1 (by decide)) rfl) pa_nil))) (pa_cons (pe_callB call_xis (by rfl) (T.free "isinstance" (by simp [frees])) bo_isi (pa_cons (pv 0) (pa_cons (pe_glob (v := .ref (Cl K 2)) rfl (T.mgc 2 (by decide)) rfl) pa_nil))) pa_nil)))))
      (pss_cons (ps_set (i := 1) sc_vk.nd rfl (Or.inl rfl) (pe_op op_cat (pv 1) (pe_lst (pa_cons (pe_callB call_xis (by rfl) (T.free "isinstance" (by simp [frees])) bo_isi (pa_cons (pv 0) (pa_cons (pe_glob (v := .ref (Cl K 3)) rfl (T.mgc 3 (by decide)) rfl) pa_nil))) (pa_cons (pe_callB call_xis (by rfl) (T.free "isinstance" (by simp [frees])) bo_isi (pa_cons (pv 0) (pa_cons (pe_glob (v := .ref (Cl K 4)) rfl (T.mgc 4 (by decide)) rfl) pa_nil))) (pa_cons (pe_callB call_xis (by rfl) (T.free "isinstance" (by simp [frees])) bo_isi (pa_cons (pv 0) (pa_cons (pe_glob (v := .ref (Cl K 5)) rfl (T.mgc 5 (by decide)) rfl) pa_nil))) pa_nil))))))
      (pss_cons (ps_set (i := 1) sc_vk.nd rfl (Or.inl rfl) (pe_op op_cat (pv 1) (pe_lst (pa_cons (pe_callB call_xis (by rfl) (T.free "isinstance" (by simp [frees])) bo_isi (pa_cons (pv 0) (pa_cons (pe_glob (v := .ref (Cl K 6)) rfl (T.mgc 6 (by decide)) rfl) pa_nil))) (pa_cons (pe_callB call_xis (by rfl) (T.free "isinstance" (by simp [frees])) bo_isi (pa_cons (pv 0) (pa_cons (pe_glob (v := .ref (Cl K 7)) rfl (T.mgc 7 (by decide)) rfl) pa_nil))) (pa_cons (pe_callB call_xis (by rfl) (T.free "isinstance" (by simp [frees])) bo_isi (pa_cons (pv 0) (pa_cons (pe_glob (v := .ref (Cl K 8)) rfl (T.mgc 8 (by decide)) rfl) pa_nil))) pa_nil))))))
      (pss_cons (ps_set (i := 1) sc_vk.nd rfl (Or.inl rfl) (pe_op op_cat (pv 1) (pe_lst (pa_cons (pe_callB call_xis (by rfl) (T.free "isinstance" (by simp [frees])) bo_isi (pa_cons (pv 0) (pa_cons (pe_glob (v := .ref (Cl K 9)) rfl (T.mgc 9 (by decide)) rfl) pa_nil))) (pa_cons (pe_callB call_xis (by rfl) (T.free "isinstance" (by simp [frees])) bo_isi (pa_cons (pv 0) (pa_cons (pe_glob (v := .ref (Cl K 10)) rfl (T.mgc 10 (by decide)) rfl) pa_nil))) (pa_cons (pe_callB call_xis (by rfl) (T.free "isinstance" (by simp [frees])) bo_isi (pa_cons (pv 0) (pa_cons (pe_glob (v := .ref (Cl K 11)) rfl (T.mgc 11 (by decide)) rfl) pa_nil))) pa_nil))))))
      (pss_cons (ps_set (i := 1) sc_vk.nd rfl (Or.inl rfl) (pe_op op_cat (pv 1) (pe_lst (pa_cons (pe_callB call_xis (by rfl) (T.free "isinstance" (by simp [frees])) bo_isi (pa_cons (pv 0) (pa_cons (pe_glob (v := .ref (Cl K 12)) rfl (T.mgc 12 (by decide)) rfl) pa_nil))) (pa_cons (pe_callB call_xis (by rfl) (T.free "isinstance" (by simp [frees])) bo_isi (pa_cons (pv 0) (pa_cons (pe_glob (v := .ref (Cl K 13)) rfl (T.mgc 13 (by decide)) rfl) pa_nil))) (pa_cons (pe_callB call_xis (by rfl) (T.free "isinstance" (by simp [frees])) bo_isi (pa_cons (pv 0) (pa_cons (pe_glob (v := .ref (Cl K 14)) rfl (T.mgc 14 (by decide)) rfl) pa_nil))) (pa_cons (pe_callB call_xis (by rfl) (T.free "isinstance" (by simp [frees])) bo_isi (pa_cons (pv 0) (pa_cons (pe_glob (v := .ref (Cl K 15)) rfl (T.mgc 15 (by decide)) rfl) pa_nil))) pa_nil)))))))
      (pss_one (ps_ret (pe_op op_cat (pv 1) (pe_lst (pa_cons (pe_callB call_xis (by rfl) (T.free "isinstance" (by simp [frees])) bo_isi (pa_cons (pv 0) (pa_cons (pe_glob (v := .ref (Cl K 16)) rfl (T.mgc 16 (by decide)) rfl) pa_nil))) pa_nil)))))))))), ?_⟩
    refine w_asg (P := LB [i == 0, i == 1, i == 2]) (g_lb (bs := [i == 0, i == 1, i == 2]) (gb_cons (g_xis (g_varP rfl (mono_xa _) hx) (T.cls i hi) (ClsV.own _) (T.kit i 0 hi (by decide))) (gb_cons (g_xis (g_varP rfl (mono_xa _) hx) (T.cls i hi) (ClsV.own _) (T.kit i 1 hi (by decide))) (gb_cons (g_xis (g_varP rfl (mono_xa _) hx) (T.cls i hi) (ClsV.own _) (T.kit i 2 hi (by decide))) gb_nil))) (by simp)) (fun v1 H1 e1 p1 => ?_)
    refine w_asg (P := LB [i == 0, i == 1, i == 2, i == 3, i == 4, i == 5]) (g_catB (g_varP (P := LB [i == 0, i == 1, i == 2]) rfl (mono_lb _) p1) (g_lb (bs := [i == 3, i == 4, i == 5]) (gb_cons (g_xis (g_varP rfl (mono_xa _) (mono_xa _ _ _ _ e1 hx)) (T.cls i hi) (ClsV.own _) (T.kit i 3 hi (by decide))) (gb_cons (g_xis (g_varP rfl (mono_xa _) (mono_xa _ _ _ _ e1 hx)) (T.cls i hi) (ClsV.own _) (T.kit i 4 hi (by decide))) (gb_cons (g_xis (g_varP rfl (mono_xa _) (mono_xa _ _ _ _ e1 hx)) (T.cls i hi) (ClsV.own _) (T.kit i 5 hi (by decide))) gb_nil))) (by simp)) (by simp)) (fun v2 H2 e2 p2 => ?_)
    refine w_asg (P := LB [i == 0, i == 1, i == 2, i == 3, i == 4, i == 5, i == 6, i == 7, i == 8]) (g_catB (g_varP (P := LB [i == 0, i == 1, i == 2, i == 3, i == 4, i == 5]) rfl (mono_lb _) p2) (g_lb (bs := [i == 6, i == 7, i == 8]) (gb_cons (g_xis (g_varP rfl (mono_xa _) (mono_xa _ _ _ _ (e1.trans e2) hx)) (T.cls i hi) (ClsV.own _) (T.kit i 6 hi (by decide))) (gb_cons (g_xis (g_varP rfl (mono_xa _) (mono_xa _ _ _ _ (e1.trans e2) hx)) (T.cls i hi) (ClsV.own _) (T.kit i 7 hi (by decide))) (gb_cons (g_xis (g_varP rfl (mono_xa _) (mono_xa _ _ _ _ (e1.trans e2) hx)) (T.cls i hi) (ClsV.own _) (T.kit i 8 hi (by decide))) gb_nil))) (by simp)) (by simp)) (fun v3 H3 e3 p3 => ?_)
    refine w_asg (P := LB [i == 0, i == 1, i == 2, i == 3, i == 4, i == 5, i == 6, i == 7, i == 8, i == 9, i == 10, i == 11]) (g_catB (g_varP (P := LB [i == 0, i == 1, i == 2, i == 3, i == 4, i == 5, i == 6, i == 7, i == 8]) rfl (mono_lb _) p3) (g_lb (bs := [i == 9, i == 10, i == 11]) (gb_cons (g_xis (g_varP rfl (mono_xa _) (mono_xa _ _ _ _ ((e1.trans e2).trans e3) hx)) (T.cls i hi) (ClsV.own _) (T.kit i 9 hi (by decide))) (gb_cons (g_xis (g_varP rfl (mono_xa _) (mono_xa _ _ _ _ ((e1.trans e2).trans e3) hx)) (T.cls i hi) (ClsV.own _) (T.kit i 10 hi (by decide))) (gb_cons (g_xis (g_varP rfl (mono_xa _) (mono_xa _ _ _ _ ((e1.trans e2).trans e3) hx)) (T.cls i hi) (ClsV.own _) (T.kit i 11 hi (by decide))) gb_nil))) (by simp)) (by simp)) (fun v4 H4 e4 p4 => ?_)
    refine w_asg (P := LB [i == 0, i == 1, i == 2, i == 3, i == 4, i == 5, i == 6, i == 7, i == 8, i == 9, i == 10, i == 11, i == 12, i == 13, i == 14, i == 15]) (g_catB (g_varP (P := LB [i == 0, i == 1, i == 2, i == 3, i == 4, i == 5, i == 6, i == 7, i == 8, i == 9, i == 10, i == 11]) rfl (mono_lb _) p4) (g_lb (bs := [i == 12, i == 13, i == 14, i == 15]) (gb_cons (g_xis (g_varP rfl (mono_xa _) (mono_xa _ _ _ _ (((e1.trans e2).trans e3).trans e4) hx)) (T.cls i hi) (ClsV.own _) (T.kit i 12 hi (by decide))) (gb_cons (g_xis (g_varP rfl (mono_xa _) (mono_xa _ _ _ _ (((e1.trans e2).trans e3).trans e4) hx)) (T.cls i hi) (ClsV.own _) (T.kit i 13 hi (by decide))) (gb_cons (g_xis (g_varP rfl (mono_xa _) (mono_xa _ _ _ _ (((e1.trans e2).trans e3).trans e4) hx)) (T.cls i hi) (ClsV.own _) (T.kit i 14 hi (by decide))) (gb_cons (g_xis (g_varP rfl (mono_xa _) (mono_xa _ _ _ _ (((e1.trans e2).trans e3).trans e4) hx)) (T.cls i hi) (ClsV.own _) (T.kit i 15 hi (by decide))) gb_nil)))) (by simp)) (by simp)) (fun v5 H5 e5 p5 => ?_)
    refine w_ret (P := LB [i == 0, i == 1, i == 2, i == 3, i == 4, i == 5, i == 6, i == 7, i == 8, i == 9, i == 10, i == 11, i == 12, i == 13, i == 14, i == 15, i == 16]) (g_catB (g_varP (P := LB [i == 0, i == 1, i == 2, i == 3, i == 4, i == 5, i == 6, i == 7, i == 8, i == 9, i == 10, i == 11, i == 12, i == 13, i == 14, i == 15]) rfl (mono_lb _) p5) (g_lb (bs := [i == 16]) (gb_cons (g_xis (g_varP rfl (mono_xa _) (mono_xa _ _ _ _ ((((e1.trans e2).trans e3).trans e4).trans e5) hx)) (T.cls i hi) (ClsV.own _) (T.kit i 16 hi (by decide))) gb_nil) (by simp)) (by simp)) (fun v6 H6 e6 p6 => ?_)
    obtain ⟨p, rfl, h2⟩ := lb_at p6
    exact k p _ (((((e1.trans e2).trans e3).trans e4).trans e5).trans e6) h2
end
end K02
set_option Elab.async false
set_option linter.all false
set_option maxRecDepth 100000
set_option maxHeartbeats 4000000
namespace K02
open PySem PySem.Spec PyProof.Rows L2 He MeH MeG MeK MeE Evl
section
variable {P : Program} {w : World} {K : PySem.W.Frag} {mg : Str → Option Value} {base : Heap} {f : Addr} {fd : FuncData}
/-! _law_all_kinds -/
theorem sc_ak : FnScope ["_law_e", "_law_kinds"] ["_law_e"] (defScope s_law_all_kinds) := ⟨rfl, rfl, rfl, by decide +kernel, rfl, by decide +kernel, by decide +kernel⟩
theorem ok_ak {fV : Addr} {fdV : FuncData} (F : FD K d_law_all_kinds f fd) (T : Txt K mg) (FV : FD K d_law_value_kinds fV fdV) (gV : mg "_law_value_kinds" = some (.ref fV)) : FnOk P w K mg base CX0 2 f fd ["_law_e"] (spVK K 21) := by
  have GV : FnOk P w K mg base CX0 1 fV fdV ["_law_e"] (spVK K 17) := ok_vk FV T
  have bV : Binds K fdV ["_law_e"] [] := FV.bindsN fun _ _ _ _ _ _ us hl => match us, hl with | [_], _ => rfl
  refine F.ok sc_ak (fun vs H Q E h => ?_) (fun cdv A outer s H vs Q E hr h => ?_)
  · obtain ⟨v, i, rfl, _⟩ := h
    rfl
  · obtain ⟨v, i, rfl, hi, hx, k⟩ := h
    refine ⟨_, PSs.nox (pss_cons (ps_set (i := 1) sc_ak.nd rfl (Or.inl rfl) (pe_op op_cat (pe_call GV hr rfl gV FV.kp bV .nil pass0 (pa_cons (pv 0) pa_nil)) (pe_lst (pa_cons (pe_callB call_xis (by rfl) (T.free "isinstance" (by simp [frees])) bo_isi (pa_cons (pv 0) (pa_cons (pe_glob (v := .ref (Cl K 17)) rfl (T.mgc 17 (by decide)) rfl) pa_nil))) (pa_cons (pe_callB call_xis (by rfl) (T.free "isinstance" (by simp [frees])) bo_isi (pa_cons (pv 0) (pa_cons (pe_glob (v := .ref (Cl K 18)) rfl (T.mgc 18 (by decide)) rfl) pa_nil))) (pa_cons (pe_callB call_xis (by rfl) (T.free "isinstance" (by simp [frees])) bo_isi (pa_cons (pv 0) (pa_cons (pe_glob (v := .ref (Cl K 19)) rfl (T.mgc 19 (by decide)) rfl) pa_nil))) pa_nil))))))
      (pss_one (ps_ret (pe_op op_cat (pv 1) (pe_lst (pa_cons (pe_callB call_xis (by rfl) (T.free "isinstance" (by simp [frees])) bo_isi (pa_cons (pv 0) (pa_cons (pe_glob (v := .ref (Cl K 20)) rfl (T.mgc 20 (by decide)) rfl) pa_nil))) pa_nil)))))), ?_⟩
    have g17 : ∀ H1, Ex H H1 → XA (Cl K i) v H1 := fun H1 e => mono_xa _ _ _ _ e hx
    refine w_asg (P := LB (kb i 17 ++ [i == 17, i == 18, i == 19])) (g_catB (bs := kb i 17) (g_call (Ps := [XA (Cl K i)]) (ga_cons (g_varP rfl (mono_xa _) hx) (mono_xa _) ga_nil) fun vs H1 e1 ps Q1 q1 => ?_) (g_lb (bs := [i == 17, i == 18, i == 19]) (gb_cons (g_xis (g_varP rfl (mono_xa _) hx) (T.cls i hi) (ClsV.own _) (T.kit i 17 hi (by decide))) (gb_cons (g_xis (g_varP rfl (mono_xa _) hx) (T.cls i hi) (ClsV.own _) (T.kit i 18 hi (by decide))) (gb_cons (g_xis (g_varP rfl (mono_xa _) hx) (T.cls i hi) (ClsV.own _) (T.kit i 19 hi (by decide))) gb_nil))) (by simp)) (by simp [kb])) (fun v1 H1 e1 p1 => ?_)
    · obtain ⟨z, rfl, hz⟩ := all1 ps
      exact ⟨z, i, rfl, hi, hz, fun p H2 e2 h2 => q1 _ H2 e2 ⟨p, _, rfl, h2, bl_all _⟩⟩
    refine w_ret (P := LB ((kb i 17 ++ [i == 17, i == 18, i == 19]) ++ [i == 20])) (g_catB (g_varP rfl (mono_lb _) p1) (g_lb (bs := [i == 20]) (gb_cons (g_xis (g_varP rfl (mono_xa _) (mono_xa _ _ _ _ e1 hx)) (T.cls i hi) (ClsV.own _) (T.kit i 20 hi (by decide))) gb_nil) (by simp)) (by simp [kb])) (fun v2 H2 e2 p2 => ?_)
    obtain ⟨p, rfl, h2⟩ := lb_at p2
    refine k p _ (e1.trans e2) ?_
    rw [h2]
    rfl
/-! _law_bases -/
theorem sc_ba : FnScope ["_law_e"] ["_law_e"] (defScope s_law_bases) := ⟨rfl, rfl, rfl, by decide +kernel, rfl, by decide +kernel, by decide +kernel⟩
theorem ok_ba (F : FD K d_law_bases f fd) (T : Txt K mg) : FnOk P w K mg base CX0 1 f fd ["_law_e"] (spBases K) := by
  refine F.ok sc_ba (fun vs H Q E h => ?_) (fun cdv A outer s H vs Q E hr h => ?_)
  · obtain ⟨v, i, rfl, _⟩ := h
    rfl
  · obtain ⟨v, i, rfl, hi, hx, k⟩ := h
    refine ⟨_, PSs.nox (pss_one (ps_ret (pe_lst (pa_cons (pe_callB call_xis (by rfl) (T.free "isinstance" (by simp [frees])) bo_isi (pa_cons (pv 0) (pa_cons (pe_glob (v := .ref (ga K "MaskError")) rfl T.mgM rfl) pa_nil))) (pa_cons (pe_callB call_xis (by rfl) (T.free "isinstance" (by simp [frees])) bo_isi (pa_cons (pv 0) (pa_cons (pe_bltn (v := .ty "ValueError") (by rfl) (T.free "ValueError" (by simp [frees])) bo_VE rfl) pa_nil))) (pa_cons (pe_callB call_xis (by rfl) (T.free "isinstance" (by simp [frees])) bo_isi (pa_cons (pv 0) (pa_cons (pe_bltn (v := .ty "KeyError") (by rfl) (T.free "KeyError" (by simp [frees])) bo_KE rfl) pa_nil))) (pa_cons (pe_callB call_xis (by rfl) (T.free "isinstance" (by simp [frees])) bo_isi (pa_cons (pv 0) (pa_cons (pe_bltn (v := .ty "RuntimeError") (by rfl) (T.free "RuntimeError" (by simp [frees])) bo_RE rfl) pa_nil))) pa_nil))))))), ?_⟩
    refine w_ret (P := LB [isV (bk i), isV (bk i), isK (bk i), isR (bk i)]) (g_lb (gb_cons (g_xis (g_varP rfl (mono_xa _) hx) (T.cls i hi) (ClsV.own _) (T.kM i hi)) (gb_cons (g_xis (g_varP rfl (mono_xa _) hx) (T.cls i hi) (ClsV.ty _) (T.kV i hi)) (gb_cons (g_xis (g_varP rfl (mono_xa _) hx) (T.cls i hi) (ClsV.ty _) (T.kK i hi)) (gb_cons (g_xis (g_varP rfl (mono_xa _) hx) (T.cls i hi) (ClsV.ty _) (T.kR i hi)) gb_nil)))) (by simp)) (fun v1 H1 e1 p1 => ?_)
    obtain ⟨p, rfl, h2⟩ := lb_at p1
    exact k p _ e1 h2
/-! lists of errors -/
def LX (K : PySem.W.Frag) (v : V) (js : List Nat) : VP := Lst (js.map fun j => XV (Cl K j) [("value", v)])
def AllX (K : PySem.W.Frag) (v : V) (js : List Nat) : List V → Hp → Prop := All (js.map fun j => XV (Cl K j) [("value", v)])
theorem mono_xs (K : PySem.W.Frag) (v : V) (js : List Nat) : MonoL (js.map fun j => XV (Cl K j) [("value", v)]) := fun R hR => by
  obtain ⟨j, _, rfl⟩ := List.mem_map.mp hR
  exact mono_xv _ _
section
variable {σ : L2.St} {H : Hp} {ta tb te : TE} {v : V}
theorem gx_nil : GetsA tNil σ H (AllX K v []) := ga_nil
theorem gx_cons {j : Nat} {js : List Nat} {tr : TA} (h : Gets te σ H (XV (Cl K j) [("value", v)])) (hr : GetsA tr σ H (AllX K v js)) : GetsA (tCons te tr) σ H (AllX K v (j :: js)) := ga_cons h (mono_xv _ _) hr
theorem g_lx {t : TA} {js : List Nat} (h : GetsA t σ H (AllX K v js)) (hl : js.length ≤ 1000) : Gets (tLst t) σ H (LX K v js) := g_lst h (mono_xs K v js) (by rw [List.length_map]; exact hl)
theorem g_catX {js ks : List Nat} (ha : Gets ta σ H (LX K v js)) (hb : Gets tb σ H (LX K v ks)) (hl : js.length + ks.length ≤ 1000) : Gets (tOp rCat ta tb) σ H (LX K v (js ++ ks)) := by
  have h := g_cat ha hb (mono_xs K v js) (mono_xs K v ks) (by rw [List.length_map, List.length_map]; exact hl)
  unfold LX
  rw [List.map_append]
  exact h
end
/-- the __init__ of a class, with its bindings -/
def Ini1 (P : Program) (w : World) (K : PySem.W.Frag) (mg : Str → Option Value) (base : Heap) (j : Nat) (fld : Str) : Prop := ∃ fd, FnOk P w K mg base CX0 1 (ma K (Cl K j) "__init__") fd ["self", fld] (spI1 (Cl K j) fld) ∧
  KBn K fd ["self", fld] 2 [] (fun us _ => us) (fun vs _ => vs) ∧ KBn K fd ["self", fld] 1 [fld] (fun us ws => us ++ ws) (fun vs zs => vs ++ zs)

/-! _law_by_place -/
theorem sc_bp : FnScope ["_law_one", "_law_found"] ["_law_one"] (defScope s_law_by_place) := ⟨rfl, rfl, rfl, by decide +kernel, rfl, by decide +kernel, by decide +kernel⟩
theorem ok_bp (F : FD K d_law_by_place f fd) (T : Txt K mg) (I : ∀ j, j < 17 → Ini1 P w K mg base j "value") : FnOk P w K mg base CX0 3 f fd ["_law_one"] (spBy K) := by
  obtain ⟨fd0, G0, B0, C0⟩ := I 0 (by decide)
  obtain ⟨fd1, G1, B1, C1⟩ := I 1 (by decide)
  obtain ⟨fd2, G2, B2, C2⟩ := I 2 (by decide)
  obtain ⟨fd3, G3, B3, C3⟩ := I 3 (by decide)
  obtain ⟨fd4, G4, B4, C4⟩ := I 4 (by decide)
  obtain ⟨fd5, G5, B5, C5⟩ := I 5 (by decide)
  obtain ⟨fd6, G6, B6, C6⟩ := I 6 (by decide)
  obtain ⟨fd7, G7, B7, C7⟩ := I 7 (by decide)
  obtain ⟨fd8, G8, B8, C8⟩ := I 8 (by decide)
  obtain ⟨fd9, G9, B9, C9⟩ := I 9 (by decide)
  obtain ⟨fd10, G10, B10, C10⟩ := I 10 (by decide)
  obtain ⟨fd11, G11, B11, C11⟩ := I 11 (by decide)
  obtain ⟨fd12, G12, B12, C12⟩ := I 12 (by decide)
  obtain ⟨fd13, G13, B13, C13⟩ := I 13 (by decide)
  obtain ⟨fd14, G14, B14, C14⟩ := I 14 (by decide)
  obtain ⟨fd15, G15, B15, C15⟩ := I 15 (by decide)
  obtain ⟨fd16, G16, B16, C16⟩ := I 16 (by decide)
  refine F.ok sc_bp (fun vs H Q E h => ?_) (fun cdv A outer s H vs Q E hr h => ?_)
  · obtain ⟨v, rfl, _⟩ := h
    rfl
  · obtain ⟨v, rfl, k⟩ := h
    refine ⟨_, PSs.nox (pss_cons (ps_set (i := 1) sc_bp.nd rfl (Or.inl rfl) (pe_lst (pa_cons (pe_xmk (T.cls 0 (by decide)) (T.ini 0 (by decide)).1 (T.ini 0 (by decide)).2 G0 hr B0 pass0 rfl (T.mgc 0 (by decide)) (pa_cons (pv 0) pa_nil)) (pa_cons (pe_xmk (T.cls 1 (by decide)) (T.ini 1 (by decide)).1 (T.ini 1 (by decide)).2 G1 hr B1 pass0 rfl (T.mgc 1 (by decide)) (pa_cons (pv 0) pa_nil)) (pa_cons (pe_xmk (T.cls 2 (by decide)) (T.ini 2 (by decide)).1 (T.ini 2 (by decide)).2 G2 hr B2 pass0 rfl (T.mgc 2 (by decide)) (pa_cons (pv 0) pa_nil)) (pa_cons (pe_xmk (T.cls 3 (by decide)) (T.ini 3 (by decide)).1 (T.ini 3 (by decide)).2 G3 hr B3 pass0 rfl (T.mgc 3 (by decide)) (pa_cons (pv 0) pa_nil)) (pa_cons (pe_xmk (T.cls 4 (by decide)) (T.ini 4 (by decide)).1 (T.ini 4 (by decide)).2 G4 hr B4 pass0 rfl (T.mgc 4 (by decide)) (pa_cons (pv 0) pa_nil)) pa_nil)))))))
      (pss_cons (ps_set (i := 1) sc_bp.nd rfl (Or.inl rfl) (pe_op op_cat (pv 1) (pe_lst (pa_cons (pe_xmk (T.cls 5 (by decide)) (T.ini 5 (by decide)).1 (T.ini 5 (by decide)).2 G5 hr B5 pass0 rfl (T.mgc 5 (by decide)) (pa_cons (pv 0) pa_nil)) (pa_cons (pe_xmk (T.cls 6 (by decide)) (T.ini 6 (by decide)).1 (T.ini 6 (by decide)).2 G6 hr B6 pass0 rfl (T.mgc 6 (by decide)) (pa_cons (pv 0) pa_nil)) (pa_cons (pe_xmk (T.cls 7 (by decide)) (T.ini 7 (by decide)).1 (T.ini 7 (by decide)).2 G7 hr B7 pass0 rfl (T.mgc 7 (by decide)) (pa_cons (pv 0) pa_nil)) (pa_cons (pe_xmk (T.cls 8 (by decide)) (T.ini 8 (by decide)).1 (T.ini 8 (by decide)).2 G8 hr B8 pass0 rfl (T.mgc 8 (by decide)) (pa_cons (pv 0) pa_nil)) (pa_cons (pe_xmk (T.cls 9 (by decide)) (T.ini 9 (by decide)).1 (T.ini 9 (by decide)).2 G9 hr B9 pass0 rfl (T.mgc 9 (by decide)) (pa_cons (pv 0) pa_nil)) pa_nil))))))))
      (pss_cons (ps_set (i := 1) sc_bp.nd rfl (Or.inl rfl) (pe_op op_cat (pv 1) (pe_lst (pa_cons (pe_xmk (T.cls 10 (by decide)) (T.ini 10 (by decide)).1 (T.ini 10 (by decide)).2 G10 hr B10 pass0 rfl (T.mgc 10 (by decide)) (pa_cons (pv 0) pa_nil)) (pa_cons (pe_xmk (T.cls 11 (by decide)) (T.ini 11 (by decide)).1 (T.ini 11 (by decide)).2 G11 hr B11 pass0 rfl (T.mgc 11 (by decide)) (pa_cons (pv 0) pa_nil)) (pa_cons (pe_xmk (T.cls 12 (by decide)) (T.ini 12 (by decide)).1 (T.ini 12 (by decide)).2 G12 hr B12 pass0 rfl (T.mgc 12 (by decide)) (pa_cons (pv 0) pa_nil)) (pa_cons (pe_xmk (T.cls 13 (by decide)) (T.ini 13 (by decide)).1 (T.ini 13 (by decide)).2 G13 hr B13 pass0 rfl (T.mgc 13 (by decide)) (pa_cons (pv 0) pa_nil)) (pa_cons (pe_xmk (T.cls 14 (by decide)) (T.ini 14 (by decide)).1 (T.ini 14 (by decide)).2 G14 hr B14 pass0 rfl (T.mgc 14 (by decide)) (pa_cons (pv 0) pa_nil)) pa_nil))))))))
      (pss_one (ps_ret (pe_op op_cat (pv 1) (pe_lst (pa_cons (pe_xmk (T.cls 15 (by decide)) (T.ini 15 (by decide)).1 (T.ini 15 (by decide)).2 G15 hr B15 pass0 rfl (T.mgc 15 (by decide)) (pa_cons (pv 0) pa_nil)) (pa_cons (pe_xmk (T.cls 16 (by decide)) (T.ini 16 (by decide)).1 (T.ini 16 (by decide)).2 G16 hr B16 pass0 rfl (T.mgc 16 (by decide)) (pa_cons (pv 0) pa_nil)) pa_nil))))))))), ?_⟩
    refine w_asg (P := LX K v [0, 1, 2, 3, 4]) (g_lx (js := [0, 1, 2, 3, 4]) (gx_cons (j := 0) (g_x1 (ga_cons (g_var rfl) (mono_is _) ga_nil) (fun _ => rfl)) (gx_cons (j := 1) (g_x1 (ga_cons (g_var rfl) (mono_is _) ga_nil) (fun _ => rfl)) (gx_cons (j := 2) (g_x1 (ga_cons (g_var rfl) (mono_is _) ga_nil) (fun _ => rfl)) (gx_cons (j := 3) (g_x1 (ga_cons (g_var rfl) (mono_is _) ga_nil) (fun _ => rfl)) (gx_cons (j := 4) (g_x1 (ga_cons (g_var rfl) (mono_is _) ga_nil) (fun _ => rfl)) gx_nil))))) (by simp)) (fun v1 H1 e1 p1 => ?_)
    refine w_asg (P := LX K v [0, 1, 2, 3, 4, 5, 6, 7, 8, 9]) (g_catX (g_varP (P := LX K v [0, 1, 2, 3, 4]) rfl (mono_lst (mono_xs K v _)) p1) (g_lx (js := [5, 6, 7, 8, 9]) (gx_cons (j := 5) (g_x1 (ga_cons (g_var rfl) (mono_is _) ga_nil) (fun _ => rfl)) (gx_cons (j := 6) (g_x1 (ga_cons (g_var rfl) (mono_is _) ga_nil) (fun _ => rfl)) (gx_cons (j := 7) (g_x1 (ga_cons (g_var rfl) (mono_is _) ga_nil) (fun _ => rfl)) (gx_cons (j := 8) (g_x1 (ga_cons (g_var rfl) (mono_is _) ga_nil) (fun _ => rfl)) (gx_cons (j := 9) (g_x1 (ga_cons (g_var rfl) (mono_is _) ga_nil) (fun _ => rfl)) gx_nil))))) (by simp)) (by simp)) (fun v2 H2 e2 p2 => ?_)
    refine w_asg (P := LX K v [0, 1, 2, 3, 4, 5, 6, 7, 8, 9, 10, 11, 12, 13, 14]) (g_catX (g_varP (P := LX K v [0, 1, 2, 3, 4, 5, 6, 7, 8, 9]) rfl (mono_lst (mono_xs K v _)) p2) (g_lx (js := [10, 11, 12, 13, 14]) (gx_cons (j := 10) (g_x1 (ga_cons (g_var rfl) (mono_is _) ga_nil) (fun _ => rfl)) (gx_cons (j := 11) (g_x1 (ga_cons (g_var rfl) (mono_is _) ga_nil) (fun _ => rfl)) (gx_cons (j := 12) (g_x1 (ga_cons (g_var rfl) (mono_is _) ga_nil) (fun _ => rfl)) (gx_cons (j := 13) (g_x1 (ga_cons (g_var rfl) (mono_is _) ga_nil) (fun _ => rfl)) (gx_cons (j := 14) (g_x1 (ga_cons (g_var rfl) (mono_is _) ga_nil) (fun _ => rfl)) gx_nil))))) (by simp)) (by simp)) (fun v3 H3 e3 p3 => ?_)
    refine w_ret (P := LX K v [0, 1, 2, 3, 4, 5, 6, 7, 8, 9, 10, 11, 12, 13, 14, 15, 16]) (g_catX (g_varP (P := LX K v [0, 1, 2, 3, 4, 5, 6, 7, 8, 9, 10, 11, 12, 13, 14]) rfl (mono_lst (mono_xs K v _)) p3) (g_lx (js := [15, 16]) (gx_cons (j := 15) (g_x1 (ga_cons (g_var rfl) (mono_is _) ga_nil) (fun _ => rfl)) (gx_cons (j := 16) (g_x1 (ga_cons (g_var rfl) (mono_is _) ga_nil) (fun _ => rfl)) gx_nil)) (by simp)) (by simp)) (fun v4 H4 e4 p4 => ?_)
    exact k _ _ (((e1.trans e2).trans e3).trans e4) p4
/-! _law_by_name -/
theorem sc_bn : FnScope ["_law_one", "_law_found"] ["_law_one"] (defScope s_law_by_name) := ⟨rfl, rfl, rfl, by decide +kernel, rfl, by decide +kernel, by decide +kernel⟩
theorem ok_bn (F : FD K d_law_by_name f fd) (T : Txt K mg) (I : ∀ j, j < 17 → Ini1 P w K mg base j "value") : FnOk P w K mg base CX0 3 f fd ["_law_one"] (spBy K) := by
  obtain ⟨fd0, G0, B0, C0⟩ := I 0 (by decide)
  obtain ⟨fd1, G1, B1, C1⟩ := I 1 (by decide)
  obtain ⟨fd2, G2, B2, C2⟩ := I 2 (by decide)
  obtain ⟨fd3, G3, B3, C3⟩ := I 3 (by decide)
  obtain ⟨fd4, G4, B4, C4⟩ := I 4 (by decide)
  obtain ⟨fd5, G5, B5, C5⟩ := I 5 (by decide)
  obtain ⟨fd6, G6, B6, C6⟩ := I 6 (by decide)
  obtain ⟨fd7, G7, B7, C7⟩ := I 7 (by decide)
  obtain ⟨fd8, G8, B8, C8⟩ := I 8 (by decide)
  obtain ⟨fd9, G9, B9, C9⟩ := I 9 (by decide)
  obtain ⟨fd10, G10, B10, C10⟩ := I 10 (by decide)
  obtain ⟨fd11, G11, B11, C11⟩ := I 11 (by decide)
  obtain ⟨fd12, G12, B12, C12⟩ := I 12 (by decide)
  obtain ⟨fd13, G13, B13, C13⟩ := I 13 (by decide)
  obtain ⟨fd14, G14, B14, C14⟩ := I 14 (by decide)
  obtain ⟨fd15, G15, B15, C15⟩ := I 15 (by decide)
  obtain ⟨fd16, G16, B16, C16⟩ := I 16 (by decide)
  refine F.ok sc_bn (fun vs H Q E h => ?_) (fun cdv A outer s H vs Q E hr h => ?_)
  · obtain ⟨v, rfl, _⟩ := h
    rfl
  · obtain ⟨v, rfl, k⟩ := h
    refine ⟨_, PSs.nox (pss_cons (ps_set (i := 1) sc_bn.nd rfl (Or.inl rfl) (pe_lst (pa_cons (pe_xmkK (T.cls 0 (by decide)) (T.ini 0 (by decide)).1 (T.ini 0 (by decide)).2 G0 hr C0 pass0 rfl (T.mgc 0 (by decide)) (pk_cons (pv 0) pk_nil)) (pa_cons (pe_xmkK (T.cls 1 (by decide)) (T.ini 1 (by decide)).1 (T.ini 1 (by decide)).2 G1 hr C1 pass0 rfl (T.mgc 1 (by decide)) (pk_cons (pv 0) pk_nil)) (pa_cons (pe_xmkK (T.cls 2 (by decide)) (T.ini 2 (by decide)).1 (T.ini 2 (by decide)).2 G2 hr C2 pass0 rfl (T.mgc 2 (by decide)) (pk_cons (pv 0) pk_nil)) (pa_cons (pe_xmkK (T.cls 3 (by decide)) (T.ini 3 (by decide)).1 (T.ini 3 (by decide)).2 G3 hr C3 pass0 rfl (T.mgc 3 (by decide)) (pk_cons (pv 0) pk_nil)) pa_nil))))))
      (pss_cons (ps_set (i := 1) sc_bn.nd rfl (Or.inl rfl) (pe_op op_cat (pv 1) (pe_lst (pa_cons (pe_xmkK (T.cls 4 (by decide)) (T.ini 4 (by decide)).1 (T.ini 4 (by decide)).2 G4 hr C4 pass0 rfl (T.mgc 4 (by decide)) (pk_cons (pv 0) pk_nil)) (pa_cons (pe_xmkK (T.cls 5 (by decide)) (T.ini 5 (by decide)).1 (T.ini 5 (by decide)).2 G5 hr C5 pass0 rfl (T.mgc 5 (by decide)) (pk_cons (pv 0) pk_nil)) (pa_cons (pe_xmkK (T.cls 6 (by decide)) (T.ini 6 (by decide)).1 (T.ini 6 (by decide)).2 G6 hr C6 pass0 rfl (T.mgc 6 (by decide)) (pk_cons (pv 0) pk_nil)) pa_nil))))))
      (pss_cons (ps_set (i := 1) sc_bn.nd rfl (Or.inl rfl) (pe_op op_cat (pv 1) (pe_lst (pa_cons (pe_xmkK (T.cls 7 (by decide)) (T.ini 7 (by decide)).1 (T.ini 7 (by decide)).2 G7 hr C7 pass0 rfl (T.mgc 7 (by decide)) (pk_cons (pv 0) pk_nil)) (pa_cons (pe_xmkK (T.cls 8 (by decide)) (T.ini 8 (by decide)).1 (T.ini 8 (by decide)).2 G8 hr C8 pass0 rfl (T.mgc 8 (by decide)) (pk_cons (pv 0) pk_nil)) (pa_cons (pe_xmkK (T.cls 9 (by decide)) (T.ini 9 (by decide)).1 (T.ini 9 (by decide)).2 G9 hr C9 pass0 rfl (T.mgc 9 (by decide)) (pk_cons (pv 0) pk_nil)) pa_nil))))))
      (pss_cons (ps_set (i := 1) sc_bn.nd rfl (Or.inl rfl) (pe_op op_cat (pv 1) (pe_lst (pa_cons (pe_xmkK (T.cls 10 (by decide)) (T.ini 10 (by decide)).1 (T.ini 10 (by decide)).2 G10 hr C10 pass0 rfl (T.mgc 10 (by decide)) (pk_cons (pv 0) pk_nil)) (pa_cons (pe_xmkK (T.cls 11 (by decide)) (T.ini 11 (by decide)).1 (T.ini 11 (by decide)).2 G11 hr C11 pass0 rfl (T.mgc 11 (by decide)) (pk_cons (pv 0) pk_nil)) (pa_cons (pe_xmkK (T.cls 12 (by decide)) (T.ini 12 (by decide)).1 (T.ini 12 (by decide)).2 G12 hr C12 pass0 rfl (T.mgc 12 (by decide)) (pk_cons (pv 0) pk_nil)) (pa_cons (pe_xmkK (T.cls 13 (by decide)) (T.ini 13 (by decide)).1 (T.ini 13 (by decide)).2 G13 hr C13 pass0 rfl (T.mgc 13 (by decide)) (pk_cons (pv 0) pk_nil)) pa_nil)))))))
      (pss_one (ps_ret (pe_op op_cat (pv 1) (pe_lst (pa_cons (pe_xmkK (T.cls 14 (by decide)) (T.ini 14 (by decide)).1 (T.ini 14 (by decide)).2 G14 hr C14 pass0 rfl (T.mgc 14 (by decide)) (pk_cons (pv 0) pk_nil)) (pa_cons (pe_xmkK (T.cls 15 (by decide)) (T.ini 15 (by decide)).1 (T.ini 15 (by decide)).2 G15 hr C15 pass0 rfl (T.mgc 15 (by decide)) (pk_cons (pv 0) pk_nil)) (pa_cons (pe_xmkK (T.cls 16 (by decide)) (T.ini 16 (by decide)).1 (T.ini 16 (by decide)).2 G16 hr C16 pass0 rfl (T.mgc 16 (by decide)) (pk_cons (pv 0) pk_nil)) pa_nil))))))))))), ?_⟩
    refine w_asg (P := LX K v [0, 1, 2, 3]) (g_lx (js := [0, 1, 2, 3]) (gx_cons (j := 0) (g_x1k (ga_cons (g_var rfl) (mono_is _) ga_nil) (fun _ => rfl)) (gx_cons (j := 1) (g_x1k (ga_cons (g_var rfl) (mono_is _) ga_nil) (fun _ => rfl)) (gx_cons (j := 2) (g_x1k (ga_cons (g_var rfl) (mono_is _) ga_nil) (fun _ => rfl)) (gx_cons (j := 3) (g_x1k (ga_cons (g_var rfl) (mono_is _) ga_nil) (fun _ => rfl)) gx_nil)))) (by simp)) (fun v1 H1 e1 p1 => ?_)
    refine w_asg (P := LX K v [0, 1, 2, 3, 4, 5, 6]) (g_catX (g_varP (P := LX K v [0, 1, 2, 3]) rfl (mono_lst (mono_xs K v _)) p1) (g_lx (js := [4, 5, 6]) (gx_cons (j := 4) (g_x1k (ga_cons (g_var rfl) (mono_is _) ga_nil) (fun _ => rfl)) (gx_cons (j := 5) (g_x1k (ga_cons (g_var rfl) (mono_is _) ga_nil) (fun _ => rfl)) (gx_cons (j := 6) (g_x1k (ga_cons (g_var rfl) (mono_is _) ga_nil) (fun _ => rfl)) gx_nil))) (by simp)) (by simp)) (fun v2 H2 e2 p2 => ?_)
    refine w_asg (P := LX K v [0, 1, 2, 3, 4, 5, 6, 7, 8, 9]) (g_catX (g_varP (P := LX K v [0, 1, 2, 3, 4, 5, 6]) rfl (mono_lst (mono_xs K v _)) p2) (g_lx (js := [7, 8, 9]) (gx_cons (j := 7) (g_x1k (ga_cons (g_var rfl) (mono_is _) ga_nil) (fun _ => rfl)) (gx_cons (j := 8) (g_x1k (ga_cons (g_var rfl) (mono_is _) ga_nil) (fun _ => rfl)) (gx_cons (j := 9) (g_x1k (ga_cons (g_var rfl) (mono_is _) ga_nil) (fun _ => rfl)) gx_nil))) (by simp)) (by simp)) (fun v3 H3 e3 p3 => ?_)
    refine w_asg (P := LX K v [0, 1, 2, 3, 4, 5, 6, 7, 8, 9, 10, 11, 12, 13]) (g_catX (g_varP (P := LX K v [0, 1, 2, 3, 4, 5, 6, 7, 8, 9]) rfl (mono_lst (mono_xs K v _)) p3) (g_lx (js := [10, 11, 12, 13]) (gx_cons (j := 10) (g_x1k (ga_cons (g_var rfl) (mono_is _) ga_nil) (fun _ => rfl)) (gx_cons (j := 11) (g_x1k (ga_cons (g_var rfl) (mono_is _) ga_nil) (fun _ => rfl)) (gx_cons (j := 12) (g_x1k (ga_cons (g_var rfl) (mono_is _) ga_nil) (fun _ => rfl)) (gx_cons (j := 13) (g_x1k (ga_cons (g_var rfl) (mono_is _) ga_nil) (fun _ => rfl)) gx_nil)))) (by simp)) (by simp)) (fun v4 H4 e4 p4 => ?_)
    refine w_ret (P := LX K v [0, 1, 2, 3, 4, 5, 6, 7, 8, 9, 10, 11, 12, 13, 14, 15, 16]) (g_catX (g_varP (P := LX K v [0, 1, 2, 3, 4, 5, 6, 7, 8, 9, 10, 11, 12, 13]) rfl (mono_lst (mono_xs K v _)) p4) (g_lx (js := [14, 15, 16]) (gx_cons (j := 14) (g_x1k (ga_cons (g_var rfl) (mono_is _) ga_nil) (fun _ => rfl)) (gx_cons (j := 15) (g_x1k (ga_cons (g_var rfl) (mono_is _) ga_nil) (fun _ => rfl)) (gx_cons (j := 16) (g_x1k (ga_cons (g_var rfl) (mono_is _) ga_nil) (fun _ => rfl)) gx_nil))) (by simp)) (by simp)) (fun v5 H5 e5 p5 => ?_)
    exact k _ _ ((((e1.trans e2).trans e3).trans e4).trans e5) p5
end
end K02
set_option Elab.async false
set_option linter.all false
set_option maxRecDepth 100000
set_option maxHeartbeats 4000000
namespace K02
open PySem PySem.Spec PyProof.Rows L2 He MeH MeG MeK MeE Evl
section
variable {P : Program} {w : World} {K : PySem.W.Frag} {mg : Str → Option Value} {base : Heap} {f : Addr} {fd : FuncData}
theorem b48 {b : Int} (h0 : 0 ≤ b) (h1 : b < 4294967296) : CMul b 48271 := .inr ⟨by decide, by decide⟩
theorem bsq {b : Int} (h0 : 0 ≤ b) (h1 : b < 4294967296) : CMul b b := .inl ⟨by omega, by omega⟩
theorem md_lo (a m : Int) (h : 0 < m) : 0 ≤ a % m := Int.emod_nonneg a (by omega)
theorem md_hi (a m : Int) (h : 0 < m) : a % m < m := Int.emod_lt_of_pos a h
theorem md_32 (a : Int) : 0 ≤ a % 2147483647 ∧ a % 2147483647 < 4294967296 := ⟨md_lo _ _ (by decide), Int.lt_trans (md_hi _ _ (by decide)) (by decide)⟩
theorem q47 : (0 : Int) < 2147483647 := by decide
theorem q29 : (0 : Int) < 2147483629 := by decide
theorem q87 : (0 : Int) < 2147483587 := by decide
theorem pl1 (a : Int) : 0 ≤ a % 2147483587 + 1 ∧ a % 2147483587 + 1 < 4294967296 := by
  have h1 := md_lo a 2147483587 q87
  have h2 := md_hi a 2147483587 q87
  omega
/-! _law_take -/
theorem sc_tk : FnScope ["_law_pool_here", "_law_sides", "_law_found"] ["_law_pool_here", "_law_sides"] (defScope s_law_take) := ⟨rfl, rfl, rfl, by decide +kernel, rfl, by decide +kernel, by decide +kernel⟩
theorem ok_tk (F : FD K d_law_take f fd) : FnOk P w K mg base CX0 1 f fd ["_law_pool_here", "_law_sides"] spTake := by
  refine F.ok sc_tk (fun vs H Q E h => ?_) (fun cdv A outer s H vs Q E hr h => ?_)
  · obtain ⟨p, a, b, sd, rfl, _⟩ := h
    rfl
  · obtain ⟨p, a, b, sd, rfl, hp, s0, s1, b0, b1, k⟩ := h
    refine ⟨_, PSs.nox (pss_cons (ps_if (pt_cmpR op_gt (pe_ix ix_list (pv 0) pe_int (fun _ _ => rfl)) pe_int (nomark _))
        (pss_cons (ps_set (i := 2) sc_tk.nd rfl (Or.inl rfl) (pe_op op_mod (pe_ix ix_list (pv 0) pe_int (fun _ _ => rfl)) (pv 1)))
          (pss_cons (ps_asg (pe_op op_fdiv (pe_ix ix_list (pv 0) pe_int (fun _ _ => rfl)) (pv 1)) (pg_sub (pv 0) pe_int set_list))
            (pss_one (ps_ret (pv 2))))) pss_nil)
      (pss_cons (ps_asg (pe_op op_mod (pe_op op_add (pe_op op_mul (pe_ix ix_list (pv 0) pe_int (fun _ _ => rfl)) pe_int) pe_int) pe_int) (pg_sub (pv 0) pe_int set_list))
        (pss_one (ps_ret (pe_op op_mod (pe_op op_fdiv (pe_op op_mod (pe_op op_mul (pe_ix ix_list (pv 0) pe_int (fun _ _ => rfl)) (pe_ix ix_list (pv 0) pe_int (fun _ _ => rfl))) pe_int) pe_int) (pv 1)))))), ?_⟩
    refine ⟨_, rfl, p, _, 0, .int a, rfl, rfl, SqL.of hp, rfl, a, 0, rfl, rfl, _, rfl, ite2 (fun ha => ?_) (fun ha => ?_)⟩
    · refine ⟨_, rfl, p, _, 0, .int a, rfl, rfl, SqL.of hp, rfl, _, rfl, a, sd, rfl, rfl, s0, ?_⟩
      refine ⟨_, rfl, p, _, 0, .int a, rfl, rfl, SqL.of hp, rfl, _, rfl, a, sd, rfl, rfl, ⟨s0, s1⟩, _, rfl, p, _, 0, 0, rfl, rfl, hp, rfl, _, rfl, ?_⟩
      exact k _ _ _ (md_lo a sd s0) (md_hi a sd s0) b0 b1
    · refine ⟨_, rfl, p, _, 1, .int b, rfl, rfl, SqL.of hp, rfl, b, 48271, rfl, rfl, b48 b0 b1, _, 11, rfl, rfl, _, 2147483647, rfl, rfl, q47, _, rfl, p, _, 1, 1, rfl, rfl, hp, rfl, ?_⟩
      obtain ⟨c0, c1⟩ := md_32 (b * 48271 + 11)
      have hp1 : upd H p (.lst [.int a, .int ((b * 48271 + 11) % 2147483647)]) p = some (.lst [.int a, .int ((b * 48271 + 11) % 2147483647)]) := upd_same
      refine ⟨_, rfl, p, _, 1, .int ((b * 48271 + 11) % 2147483647), rfl, rfl, SqL.of hp1, rfl, _, rfl, p, _, 1, .int ((b * 48271 + 11) % 2147483647), rfl, rfl, SqL.of hp1, rfl, _, _, rfl, rfl, bsq c0 c1, _, 2147483629, rfl, rfl, q29, _, 64, rfl, rfl, ⟨by decide, by decide⟩, _, rfl, _, sd, rfl, rfl, s0, ?_⟩
      exact k _ a _ (md_lo _ sd s0) (md_hi _ sd s0) c0 c1
/-! _law_pool -/
theorem sc_po : FnScope ["_law_script", "_law_k", "_law_cell", "_law_seed"] ["_law_script", "_law_k"] (defScope s_law_pool) := ⟨rfl, rfl, rfl, by decide +kernel, rfl, by decide +kernel, by decide +kernel⟩
theorem ok_po (F : FD K d_law_pool f fd) (T : Txt K mg) : FnOk P w K mg base CX0 1 f fd ["_law_script", "_law_k"] (spPool K) := by
  refine F.ok sc_po (fun vs H Q E h => ?_) (fun cdv A outer s H vs Q E hr h => ?_)
  · obtain ⟨l, ns, kk, rfl, _⟩ := h
    rfl
  · obtain ⟨l, ns, kk, rfl, hl, hk, k⟩ := h
    refine ⟨_, PSs.nox (pss_cons (ps_set (i := 2) sc_po.nd rfl (Or.inl rfl) pe_int)
      (pss_cons (ps_if (pt_cmpR op_lt (pv 1) (pe_callB call_len_seq (by rfl) (T.free "len" (by simp [frees])) PySem.boot_len (pa_cons (pv 0) pa_nil)) (nomark _)) (pss_one (ps_set (i := 2) sc_po.nd rfl (Or.inl rfl) (pe_ix ix_list (pv 0) (pv 1) (fun _ _ => rfl)))) pss_nil)
      (pss_cons (ps_set (i := 3) sc_po.nd rfl (Or.inl rfl) (pe_op op_mod (pe_op op_mul (pe_op op_add (pe_op op_add (pe_op op_mod (pv 2) pe_int) (pe_op op_mul (pe_op op_mul pe_int (pv 1)) (pv 1))) pe_int) pe_int) pe_int))
      (pss_cons (ps_if (pt_cmpR op_lt (pv 2) (pe_op op_pow pe_int pe_int) (nomark _)) (pss_one (ps_set (i := 2) sc_po.nd rfl (Or.inl rfl) pe_int)) pss_nil)
      (pss_one (ps_ret (pe_lst (pa_cons (pv 2) (pa_cons (pe_op op_add (pe_op op_mod (pe_op op_mul (pv 3) (pv 3)) pe_int) pe_int) pa_nil))))))))), ?_⟩
    refine ⟨_, rfl, _, rfl, l, _, rfl, .inl hl, (kk : Int), _, rfl, rfl, _, rfl, ?_⟩
    have kl : -(2 ^ 64) < (kk : Int) ∧ (kk : Int) < 2 ^ 64 := ⟨by omega, by omega⟩
    refine ite2 (fun h1 => ?ya) (fun h1 => ?no)
    case' ya =>
      have h2 : kk < ns.length := by
        have h3 := of_decide_eq_true h1
        rw [List.length_map] at h3
        omega
      have e2 : (ns.map V.int)[kk]? = some (V.int (ns[kk]'h2)) := by
        rw [List.getElem?_map, List.getElem?_eq_getElem h2]
        rfl
      refine ⟨_, rfl, _, rfl, l, _, (kk : Int), _, rfl, rfl, hl, atI_nat e2, ?_⟩
    all_goals
      refine ⟨_, rfl, _, 2147483629, rfl, rfl, q29, _, rfl, 7919, (kk : Int), rfl, rfl, .inr kl, _, rfl, _, (kk : Int), rfl, rfl, .inr kl, _, _, rfl, rfl, _, 13, rfl, rfl, _, 48271, rfl, rfl, .inr ⟨by decide, by decide⟩, _, 2147483647, rfl, rfl, q47, ?_⟩
      refine ⟨_, rfl, 10, 18, rfl, rfl, ⟨by decide, by decide, by decide⟩, _, _, rfl, rfl, _, rfl, ?_⟩
      refine ite2 (fun _ => ?_) (fun _ => ?_)
    all_goals refine ⟨_, rfl, _, rfl, _, rfl, _, _, rfl, rfl, bsq (md_32 _).1 (md_32 _).2, _, 2147483587, rfl, rfl, q87, _, 1, rfl, rfl, by show 2 ≤ sizeLine; decide, fun p hp => ?_⟩
    all_goals exact k p _ _ hp (pl1 _).1 (pl1 _).2
end
end K02
set_option Elab.async false
set_option linter.all false
set_option maxRecDepth 100000
set_option maxHeartbeats 8000000
set_option pp.maxSteps 600
set_option pp.deepTerms false
namespace K02
open PySem PySem.Spec PyProof.Rows L2 He MeH MeG MeK MeE Evl
/-! the eight values -/
def Good (d : PyData) : Prop := d.showable = true ∧ d.depth ≤ 10 ∧ d.shown.length ≤ 1000
theorem listText2 (a b : Str) : (listText [a, b]).length = 4 + a.length + b.length := by
  unfold listText textFrom textFrom textFrom
  simp only [strLen_append]
  have h1 : (("[" : Str)).length = 1 := by decide
  have h2 : (("]" : Str)).length = 1 := by decide
  have h3 : (Str.ofString (if 0 > 0 then ", " else "" : String)).length = 0 := by decide
  have h4 : (Str.ofString (if 0 + 1 > 0 then ", " else "" : String)).length = 2 := by decide
  omega
theorem good_pair {d : PyData} (h : Good d) : (PyData.list [.str "name", d]).showable = true ∧ (PyData.list [.str "name", d]).depth ≤ 60 ∧ (PyData.list [.str "name", d]).shown.length ≤ sizeLine := by
  obtain ⟨h1, h2, h3⟩ := h
  refine ⟨?_, ?_, ?_⟩
  · show (true && (d.showable && true)) = true
    rw [h1]
    rfl
  · have e : (PyData.list [.str "name", d]).depth = max (PyData.str "name").depth (max d.depth 0) + 1 := rfl
    have e2 : (PyData.str "name").depth = 0 := rfl
    rw [e, e2]
    omega
  · show (listText [reprText "name", d.shown]).length ≤ sizeLine
    rw [listText2]
    have e3 : (reprText "name").length = 6 := by decide +kernel
    rw [e3, sizeLine_eq]
    omega
theorem good_sz {d : PyData} (h : Good d) : d.shown.length ≤ sizeLine := Nat.le_trans h.2.2 (by rw [sizeLine_eq]; decide)
def vals8 (n : Int) : List PyData := [.none, .int n, .tuple [.tuple [.str "low", .str "", .int 1]], .list [.int 1], .str "a b", .bool true, .int (-7), .dict []]
theorem good_int {n : Int} (h0 : 0 ≤ n) (h1 : n < 1000000000) : Good (.int n) := by
  have h2 : (Str.ofString (toString n)).length ≤ 9 := toString_length_le h0 (by decide) (by omega)
  refine ⟨decide_eq_true ?_, Nat.zero_le _, Nat.le_trans h2 (by decide)⟩
  have h3 : n.natAbs < 2 ^ 30 := by omega
  by_cases hz : n.natAbs = 0
  · rw [hz]
    decide
  · have h4 : n.natAbs.log2 < 30 := (Nat.log2_lt hz).mpr h3
    omega
theorem good8 {n : Int} (h0 : 0 ≤ n) (h1 : n < 1000000000) : ∀ d ∈ vals8 n, Good d := by
  intro d hd
  simp only [vals8, List.mem_cons, List.not_mem_nil, or_false] at hd
  rcases hd with rfl | rfl | rfl | rfl | rfl | rfl | rfl | rfl
  · exact ⟨by decide, by decide, by decide +kernel⟩
  · exact good_int h0 h1
  · exact ⟨by decide, by decide, by decide +kernel⟩
  · exact ⟨by decide, by decide, by decide +kernel⟩
  · exact ⟨by decide, by decide, by decide +kernel⟩
  · exact ⟨by decide, by decide, by decide +kernel⟩
  · exact ⟨by decide, by decide, by decide +kernel⟩
  · exact ⟨by decide, by decide, by decide +kernel⟩
/-! tables -/
def baseL : List Int := [0, 0, 0, 0, 0, 0, 0, 0, 0, 0, 0, 0, 0, 1, 1, 2, 2]
def dueL : List (List Bool) := [[true, true, false, false], [false, false, true, false], [false, false, false, true]]
theorem due_at : ∀ i, i < 17 → ∃ b : Nat, baseL[i]? = some (b : Int) ∧ dueL[b]? = some [isV (bk i), isV (bk i), isK (bk i), isR (bk i)] := by
  intro i hi
  match i, hi with

  | 0, _ => exact ⟨0, rfl, rfl⟩
  | 1, _ => exact ⟨0, rfl, rfl⟩
  | 2, _ => exact ⟨0, rfl, rfl⟩
  | 3, _ => exact ⟨0, rfl, rfl⟩
  | 4, _ => exact ⟨0, rfl, rfl⟩
  | 5, _ => exact ⟨0, rfl, rfl⟩
  | 6, _ => exact ⟨0, rfl, rfl⟩
  | 7, _ => exact ⟨0, rfl, rfl⟩
  | 8, _ => exact ⟨0, rfl, rfl⟩
  | 9, _ => exact ⟨0, rfl, rfl⟩
  | 10, _ => exact ⟨0, rfl, rfl⟩
  | 11, _ => exact ⟨0, rfl, rfl⟩
  | 12, _ => exact ⟨0, rfl, rfl⟩
  | 13, _ => exact ⟨1, rfl, rfl⟩
  | 14, _ => exact ⟨1, rfl, rfl⟩
  | 15, _ => exact ⟨2, rfl, rfl⟩
  | 16, _ => exact ⟨2, rfl, rfl⟩
  | n + 17, h => omega
/-- a def that is called -/
structure Cal (P : Program) (w : World) (K : PySem.W.Frag) (mg : Str → Option Value) (base : Heap) (x : Str) (k : Nat) (ps : List Str) (sp : Sp) : Prop where
  ex : ∃ f fd, mg x = some (.ref f) ∧ PySem.W.keepIn K (.ref f) = true ∧ Binds K fd ps [] ∧ FnOk P w K mg base CX0 k f fd ps sp
def Ini2 (P : Program) (w : World) (K : PySem.W.Frag) (mg : Str → Option Value) (base : Heap) : Prop := ∃ fd, FnOk P w K mg base CX0 1 (ma K (Cl K 18) "__init__") fd ["self", "word", "value"] (spI2 (Cl K 18) "word" "value") ∧
  KBn K fd ["self", "word", "value"] 3 [] (fun us _ => us) (fun vs _ => vs) ∧ KBn K fd ["self", "word", "value"] 1 ["word", "value"] (fun us ws => us ++ ws) (fun vs zs => vs ++ zs) ∧ KBn K fd ["self", "word", "value"] 1 ["value", "word"] (fun us ws => us ++ ws.reverse) (fun vs zs => vs ++ zs.reverse)
def Ini0 (P : Program) (w : World) (K : PySem.W.Frag) (mg : Str → Option Value) (base : Heap) (j : Nat) : Prop := ∃ fd, FnOk P w K mg base CX0 1 (ma K (Cl K j) "__init__") fd ["self"] (spI0 (Cl K j)) ∧ KBn K fd ["self"] 1 [] (fun us _ => us) (fun vs _ => vs)
def spLaw (K : PySem.W.Frag) : Sp := fun vs H Q _ => ∃ (a : Addr) (ns : List Int), vs = [.ref a] ∧ SqL K H a (ns.map V.int) ∧ ns.length ≤ 63 ∧ ∀ H', Q (.bl true) H'
/-- a loop over a list display that changes an older list on its way; H: the heap without that list -/
theorem w_forL0 {K : PySem.W.Frag} {σ : L2.St} {H Hs : Hp} {D : Ends} {tu : TS} {g : TG} {tl : TE} {Ps : List VP} (h : ∀ Q : VK, (∀ v H1, Ex H H1 → Lst Ps v H1 → Q v H1) → tl σ Hs Q) (m : MonoL Ps) (S : Nat → L2.St → Prop) (h0 : S 0 σ)
    (hs : ∀ i x P σ' H', Ex H H' → Ps[i]? = some P → P x H' → S i σ' → ∀ N : L2.St → Hp → Prop, (∀ σ3 H3, Ex H' H3 → S (i + 1) σ3 → N σ3 H3) → g x σ' H' fun σ2 H2 => tu { D with nx := N, ct := N, bk := D.nx } σ2 H2)
    (hd : ∀ σ' H', Ex H H' → S Ps.length σ' → D.nx σ' H') : tFor (iList K tl) g tu D σ Hs :=
  h _ fun v H1 e1 ⟨p, xs, hv, hp, ax⟩ => by
    subst hv
    refine ⟨p, rfl, ⟨xs, sq_of hp⟩, for_list (xs := xs) (fun i σ' H' => Ex H1 H' ∧ S i σ') ⟨Ex.refl H1, h0⟩ (fun i σ' H' _ q => sq_of (q.1 _ _ hp)) (fun i x σ' H' hx q => ?_) fun σ' H' q => hd σ' H' (e1.trans q.1) (by rw [← ax.len]; exact q.2)⟩
    obtain ⟨P, h1, h2⟩ := (ax.up q.1 m).get hx
    exact hs i x P σ' H' (e1.trans q.1) h1 h2 q.2 _ fun σ3 H3 e3 s3 => ⟨q.1.trans e3, s3⟩
/-- the slots: script; others as they are -/
def Sh (l : Addr) (σ : L2.St) : Prop := ∃ o1 o2 o3 o4 o5 o6 o7 o8 : Option V, σ = [some (.ref l), o1, o2, o3, o4, o5, o6, o7, o8, none, none]
def Sh3 (l : Addr) (one : V) (σ : L2.St) : Prop := ∃ o1 o2 o4 o5 o6 o7 o8 : Option V, σ = [some (.ref l), o1, o2, some one, o4, o5, o6, o7, o8, none, none]
def Sh4 (l : Addr) (one fo : V) (σ : L2.St) : Prop := ∃ o1 o2 o5 o6 o7 o8 : Option V, σ = [some (.ref l), o1, o2, some one, some fo, o5, o6, o7, o8, none, none]
section
variable {P : Program} {w : World} {K : PySem.W.Frag} {mg : Str → Option Value} {base : Heap} {f : Addr} {fd : FuncData}
/-- what _law_at(_law_all_kinds(e)) gives -/
theorem g_kinds {σ : L2.St} {H : Hp} {te : TE} {i : Nat} (hi : i < 21) (he : Gets te σ H (XA (Cl K i))) : Gets (tCall (spAt K) [] E0 (tCons (tCall (spVK K 21) [] E0 (tCons te tNil)) tNil)) σ H (DP K (.list [.int (i : Nat)])) := by
  refine g_call (Ps := [LB (kb i 21)]) (ga_cons (g_call (Ps := [XA (Cl K i)]) (ga_cons he (mono_xa _) ga_nil) fun vs H1 e1 ps Q q => ?_) (mono_lb _) ga_nil) fun vs H1 e1 ps Q q => ?_
  · obtain ⟨v, rfl, hv⟩ := all1 ps
    exact ⟨v, i, rfl, hi, hv, fun p H2 e2 h2 => q _ H2 e2 ⟨p, _, rfl, h2, bl_all _⟩⟩
  · obtain ⟨v, rfl, hv⟩ := all1 ps
    obtain ⟨p, rfl, hp⟩ := lb_at hv
    refine ⟨p, kb i 21, rfl, sq_of hp, by simp [kb], fun r H2 e2 h2 => q _ H2 e2 ?_⟩
    have hl : (kb i 21).length = 21 := by simp [kb]
    rw [hl, kb_at i hi] at h2
    exact Dp.lst (sq_of h2) (dp_ints [(i : Int)])
theorem g_bases {σ : L2.St} {H : Hp} {te : TE} {i : Nat} (hi : i < 21) (he : Gets te σ H (XA (Cl K i))) : Gets (tCall (spBases K) [] E0 (tCons te tNil)) σ H (DP K (.list ([isV (bk i), isV (bk i), isK (bk i), isR (bk i)].map PyData.bool))) :=
  g_call (Ps := [XA (Cl K i)]) (ga_cons he (mono_xa _) ga_nil) fun vs H1 e1 ps Q q => by
    obtain ⟨v, rfl, hv⟩ := all1 ps
    exact ⟨v, i, rfl, hi, hv, fun p H2 e2 h2 => q _ H2 e2 (Dp.lst (sq_of h2) (dp_bls _))⟩
def GV (K : PySem.W.Frag) : VP := fun v H => ∃ d, Good d ∧ Dd K H v d
theorem mono_gv : Mono (GV K) := fun _ _ _ e ⟨d, h1, h2⟩ => ⟨d, h1, Dd.up e h2⟩
section
variable {σ : L2.St} {H : Hp} {ta tb te : TE} {tt tt2 tt3 : TT}
theorem gv_nil : GetsA tNil σ H (All (([] : List PyData).map (DV K))) := ga_nil
theorem gv_cons {d : PyData} {ds : List PyData} {tr : TA} (h : Gets te σ H (DV K d)) (hr : GetsA tr σ H (All (ds.map (DV K)))) : GetsA (tCons te tr) σ H (All ((d :: ds).map (DV K))) := ga_cons h (mono_dv d) hr
theorem gv_lst {ds : List PyData} {t : TA} (h : GetsA t σ H (All (ds.map (DV K)))) (hl : ds.length ≤ 1000) : Gets (tLst t) σ H (DV K (.list ds)) :=
  (g_lst h (mono_dvs ds) (by rw [List.length_map]; exact hl)).imp fun v H1 _ p => dv_lst p
theorem gv_tup {ds : List PyData} {t : TA} (h : GetsA t σ H (All (ds.map (DV K)))) (hl : ds.length ≤ 1000) : Gets (tTup t) σ H (DV K (.tuple ds)) :=
  (g_tup h (mono_dvs ds) (by rw [List.length_map]; exact hl)).imp fun v H1 _ p => dv_tup p
theorem gv_int {i : Int} : Gets (tC (.int i)) σ H (DV K (.int i)) := fun H1 e Q q => q _ H1 (Ex.refl H1) (Dd.int i)
theorem gv_str {x : Str} : Gets (tC (.str x)) σ H (DV K (.str x)) := fun H1 e Q q => q _ H1 (Ex.refl H1) (Dd.str x)
theorem gv_bl {b : Bool} : Gets (tC (.bl b)) σ H (DV K (.bool b)) := fun H1 e Q q => q _ H1 (Ex.refl H1) (Dd.bl b)
theorem gv_neg {i : Int} : Gets (tUn (rU fun i => .int (-i)) (tC (.int i))) σ H (DV K (.int (-i))) := fun H1 e Q q => ⟨i, rfl, q _ H1 (Ex.refl H1) (Dd.int (-i))⟩
theorem gv_dic : Gets tDNewK σ H (DV K (.dict [])) := fun H1 e Q q d hd => q _ _ (Ex.new hd) (Dd.dic (Rd.of upd_same) .nil)
theorem gv_of {v : V} {d : PyData} (h : Gets te σ H (Is v)) (k : Dd K H v d) : Gets te σ H (DV K d) := h.imp fun w H1 e p => by
  have p' : w = v := p
  rw [p']
  exact Dd.up e k
theorem gv_good {d : PyData} (h : Gets te σ H (DV K d)) (g : Good d) : Gets te σ H (GV K) := h.imp fun v H1 _ p => ⟨d, g, p⟩
theorem g_neS {x : V} (ha : Gets ta σ H (Is x)) (hb : Gets tb σ H (Is x)) (hs : scal x x = true) : EvT (tTest (tOp rNe ta tb)) σ H false := et_is (et_g (g_ne ha hb hs)) (by simp)
theorem g_neDs {d : PyData} (ha : Gets ta σ H (DP K d)) (hb : Gets tb σ H (DP K d)) (hd : SeqAt.shaped d = true) : EvT (tTest (tOp (rNeD K) ta tb)) σ H false := et_is (et_g (g_neD ha hb hd hd)) (by rw [eqv_shaped hd]; rfl)
theorem a_name {i : Nat} {D : Ends} (h : te σ H fun v H1 => D.nx (σ.set i (some v)) H1) : tAsg te (gName i) D σ H := h
theorem g_name {i : Nat} {v : V} {Q : L2.St → Hp → Prop} (h : Q (σ.set i (some v)) H) : gName i v σ H Q := h
theorem q_asgG {i : Nat} {P : VP} {D : Ends} {tz : TS} (h : Gets te σ H P) (k : ∀ v H1, Ex H H1 → P v H1 → tz D (σ.set i (some v)) H1) : tSeq (tAsg te (gName i)) tz D σ H := h H (Ex.refl H) _ k
theorem not_yes (h : Gets te σ H (Is (.bl true))) : EvT (tNot (tB te)) σ H false := et_not (a := true) (etB_g h)
theorem or_no (h1 : EvT tt σ H false) (h2 : EvT tt2 σ H false) : EvT (tOr tt tt2) σ H false := et_or h1 fun _ => h2
end
theorem lx_get {α : Type} {f : Nat → α} {n i : Nat} {P : α} (h : ((List.range n).map f)[i]? = some P) : i < n ∧ P = f i := by
  rw [List.getElem?_map] at h
  cases e : (List.range n)[i]? with
  | none =>
    rw [e] at h
    cases h
  | some j =>
    rw [e] at h
    have h1 := List.getElem?_eq_some_iff.mp e
    obtain ⟨h2, h3⟩ := h1
    rw [List.length_range] at h2
    rw [List.getElem_range] at h3
    refine ⟨h2, ?_⟩
    rw [h3]
    exact (Option.some.inj h).symm
theorem fl_val {i : Nat} (h : i < 17) : ("value" : Str) ∈ fl i := by
  unfold fl
  rw [if_pos h]
  exact List.mem_singleton.mpr rfl
theorem sh43 {l : Addr} {one fo : V} {σ : L2.St} (h : Sh4 l one fo σ) : Sh3 l one σ := by
  obtain ⟨o1, o2, o5, o6, o7, o8, rfl⟩ := h
  exact ⟨_, _, _, _, _, _, _, rfl⟩
theorem sh30 {l : Addr} {one : V} {σ : L2.St} (h : Sh3 l one σ) : Sh l σ := by
  obtain ⟨o1, o2, o4, o5, o6, o7, o8, rfl⟩ := h
  exact ⟨_, _, _, _, _, _, _, _, rfl⟩
theorem shI (i : Int) : SeqAt.shaped (.list [.int i]) = true := rfl
theorem shB (a b c d : Bool) : SeqAt.shaped (.list ([a, b, c, d].map PyData.bool)) = true := rfl
theorem g_eqT {σ : L2.St} {H : Hp} {ta tb : TE} {d : PyData} (ha : Gets ta σ H (DP K d)) (hb : Gets tb σ H (DP K d)) (hd : SeqAt.shaped d = true) : Gets (tOp (rEqD K) ta tb) σ H (Is (.bl true)) := by
  have h := g_eqD ha hb hd hd
  rw [eqv_shaped hd] at h
  exact h
theorem mono_base : MonoL (baseL.map fun n => Is (.int n)) := fun R hR => by
  obtain ⟨b, _, rfl⟩ := List.mem_map.mp hR
  exact mono_is _
theorem mono_due : MonoL (dueL.map fun bs => DP K (.list (bs.map PyData.bool))) := fun R hR => by
  obtain ⟨b, _, rfl⟩ := List.mem_map.mp hR
  exact mono_dp _
theorem mono_i4 : MonoL [Is (.int 1), Is (.int 1), Is (.int 2), Is (.int 2)] := monoL_cons (mono_is _) (monoL_cons (mono_is _) (monoL_cons (mono_is _) (monoL_cons (mono_is _) monoL_nil)))
theorem mono_i13 : MonoL (List.replicate 13 [Is (.int 0)]).flatten := fun R hR => by
  obtain ⟨xs, h1, h2⟩ := List.mem_flatten.mp hR
  rw [List.eq_of_mem_replicate h1] at h2
  rw [List.mem_singleton.mp h2]
  exact mono_is _
theorem lk_word {one : V} : ([("value", one), ("word", .str "name")] : List (Str × V)).lookup ("word" : Str) = some (V.str "name") := by
  have h : ((("word" : Str) == ("value" : Str))) = false := by decide
  simp [List.lookup, h]
theorem lk_value {one : V} : ([("value", one), ("word", .str "name")] : List (Str × V)).lookup ("value" : Str) = some one := by simp [List.lookup]
theorem sc_law : FnScope ["_law_script", "_law_k", "_law_pool_here", "_law_one", "_law_found", "_law_spot", "_law_e", "_law_base", "_law_due", "_law_some", "_law_bases_here"] ["_law_script"] (defScope slaw) := ⟨rfl, rfl, rfl, by decide +kernel, rfl, by decide +kernel, by decide +kernel⟩

theorem ok_law (F : FD K dlaw f fd) (T : Txt K mg) (cP : Cal P w K mg base "_law_pool" 1 ["_law_script", "_law_k"] (spPool K)) (cT : Cal P w K mg base "_law_take" 1 ["_law_pool_here", "_law_sides"] spTake)
    (cA : Cal P w K mg base "_law_at" 1 ["_law_kinds"] (spAt K)) (cK : Cal P w K mg base "_law_all_kinds" 2 ["_law_e"] (spVK K 21)) (cS : Cal P w K mg base "_law_bases" 1 ["_law_e"] (spBases K))
    (cB : Cal P w K mg base "_law_by_place" 3 ["_law_one"] (spBy K)) (cN : Cal P w K mg base "_law_by_name" 3 ["_law_one"] (spBy K)) (i17 : Ini1 P w K mg base 17 "at") (i18 : Ini2 P w K mg base) (i19 : Ini0 P w K mg base 19) (i20 : Ini0 P w K mg base 20) :
    FnG P w K mg base CX0 4 f fd ["_law_script"] (spLaw K) := by
  obtain ⟨fP, fdP, mP, kP, bP, GP⟩ := cP.ex
  obtain ⟨fT, fdT, mT, kT, bT, GT⟩ := cT.ex
  obtain ⟨fA, fdA, mA, kA, bA, GA⟩ := cA.ex
  obtain ⟨fK, fdK, mK, kK, bK, GK⟩ := cK.ex
  obtain ⟨fS, fdS, mS, kS, bS, GS⟩ := cS.ex
  obtain ⟨fB, fdB, mB, kB, bB, GB⟩ := cB.ex
  obtain ⟨fN, fdN, mN, kN, bN, GN⟩ := cN.ex
  obtain ⟨fd17, G17, B17, C17⟩ := i17
  obtain ⟨fd18, G18, B18, C18, D18⟩ := i18
  obtain ⟨fd19, G19, B19⟩ := i19
  obtain ⟨fd20, G20, B20⟩ := i20
  refine okG F sc_law (fun vs H Q E h => ?_) (fun cdv A outer s H vs Q E hgd hr h => ?_)
  · obtain ⟨a, ns, rfl, _⟩ := h
    rfl
  · obtain ⟨l, ns, rfl, hl, hn, k⟩ := h
    refine ⟨_, PSs.nox (pss_cons (ps_for PassesOwn.never rfl (pi_range1 rfl (T.free "range" (by simp [frees])) (pa_cons (pe_callB (call_max2 rfl) (by rfl) (T.free "max" (by simp [frees])) boot_max (pa_cons pe_int (pa_cons (pe_callB (call_min2 rfl) (by rfl) (T.free "min" (by simp [frees])) boot_min (pa_cons (pe_callB call_len_seq (by rfl) (T.free "len" (by simp [frees])) PySem.boot_len (pa_cons (pv 0) pa_nil)) (pa_cons pe_int pa_nil))) pa_nil))) pa_nil)) (pg_name (i := 1) sc_law.nd rfl (Or.inl rfl)) (pss_cons (ps_set (i := 2) sc_law.nd rfl (Or.inl rfl) (pe_call GP (hr.mono (by decide)) rfl mP kP bP .nil pass0 (pa_cons (pv 0) (pa_cons (pv 1) pa_nil)))) (pss_one (ps_for PassesOwn.never rfl (pi_list (pe_lst (pa_cons pe_non (pa_cons (pe_call GT (hr.mono (by decide)) rfl mT kT bT .nil pass0 (pa_cons (pv 2) (pa_cons (pe_op op_pow pe_int pe_int) pa_nil))) (pa_cons (pe_tup (pa_cons (pe_tup (pa_cons pe_str (pa_cons pe_str (pa_cons pe_int pa_nil)))) pa_nil)) (pa_cons (pe_lst (pa_cons pe_int pa_nil)) (pa_cons pe_str (pa_cons pe_bl (pa_cons (pe_un un_neg pe_int) (pa_cons pe_dnewK pa_nil)))))))))) (pg_name (i := 3) sc_law.nd rfl (Or.inl rfl)) (pss_cons (ps_for PassesOwn.never rfl (pi_list (pe_lst (pa_cons (pe_call GB (hr.mono (by decide)) rfl mB kB bB .nil pass0 (pa_cons (pv 3) pa_nil)) (pa_cons (pe_call GN (hr.mono (by decide)) rfl mN kN bN .nil pass0 (pa_cons (pv 3) pa_nil)) pa_nil)))) (pg_name (i := 4) sc_law.nd rfl (Or.inl rfl)) (pss_one (ps_for PassesOwn.never rfl (pi_enum rfl (T.free "enumerate" (by simp [frees])) (pa_cons (pv 4) pa_nil)) (pg_tup rfl (pgs_cons (pg_name (i := 5) sc_law.nd rfl (Or.inl rfl)) (pgs_cons (pg_name (i := 6) sc_law.nd rfl (Or.inl rfl)) pgs_nil))) (pss_cons (ps_if (PW.pt (pw_or (pt_cmpR op_ne (pe_callB (call_repr hgd hr.units T.sys) (by rfl) (T.free "repr" (by simp [frees])) boot_repr (pa_cons (pe_xfl (pv 6)) pa_nil)) (pe_callB (call_repr hgd hr.units T.sys) (by rfl) (T.free "repr" (by simp [frees])) boot_repr (pa_cons (pv 3) pa_nil)) (nomark _)) (pw_or1 (pt_cmpR (op_neD hr.units) (pe_call GA (hr.mono (by decide)) rfl mA kA bA .nil pass0 (pa_cons (pe_call GK (hr.mono (by decide)) rfl mK kK bK .nil pass0 (pa_cons (pv 6) pa_nil)) pa_nil)) (pe_lst (pa_cons (pv 5) pa_nil)) (nomark _))))) (pss_one (ps_ret pe_bl)) pss_nil) (pss_cons (ps_set (i := 7) sc_law.nd rfl (Or.inl rfl) (pe_op op_cat (pe_op op_rep (pe_lst (pa_cons pe_int pa_nil)) pe_int) (pe_lst (pa_cons pe_int (pa_cons pe_int (pa_cons pe_int (pa_cons pe_int pa_nil))))))) (pss_cons (ps_set (i := 8) sc_law.nd rfl (Or.inl rfl) (pe_lst (pa_cons (pe_lst (pa_cons pe_bl (pa_cons pe_bl (pa_cons pe_bl (pa_cons pe_bl pa_nil))))) (pa_cons (pe_lst (pa_cons pe_bl (pa_cons pe_bl (pa_cons pe_bl (pa_cons pe_bl pa_nil))))) (pa_cons (pe_lst (pa_cons pe_bl (pa_cons pe_bl (pa_cons pe_bl (pa_cons pe_bl pa_nil))))) pa_nil))))) (pss_one (ps_if (pt_cmpR (op_neD hr.units) (pe_call GS (hr.mono (by decide)) rfl mS kS bS .nil pass0 (pa_cons (pv 6) pa_nil)) (pe_ix ix_list (pv 8) (pe_ix ix_list (pv 7) (pv 5) (fun _ _ => rfl)) (fun _ _ => rfl)) (nomark _)) (pss_one (ps_ret pe_bl)) pss_nil)))))))) (pss_cons (ps_for PassesOwn.never rfl (pi_list (pe_lst (pa_cons (pe_xmk (T.cls 17 (by decide)) (T.ini 17 (by decide)).1 (T.ini 17 (by decide)).2 G17 (hr.mono (by decide)) B17 pass0 rfl (T.mgc 17 (by decide)) (pa_cons (pv 3) pa_nil)) (pa_cons (pe_xmkK (T.cls 17 (by decide)) (T.ini 17 (by decide)).1 (T.ini 17 (by decide)).2 G17 (hr.mono (by decide)) C17 pass0 rfl (T.mgc 17 (by decide)) (pk_cons (pv 3) pk_nil)) pa_nil)))) (pg_name (i := 6) sc_law.nd rfl (Or.inl rfl)) (pss_one (ps_if (PW.pt (pw_or (pt_cmpR op_ne (pe_callB (call_repr hgd hr.units T.sys) (by rfl) (T.free "repr" (by simp [frees])) boot_repr (pa_cons (pe_xfl (pv 6)) pa_nil)) (pe_callB (call_repr hgd hr.units T.sys) (by rfl) (T.free "repr" (by simp [frees])) boot_repr (pa_cons (pv 3) pa_nil)) (nomark _)) (pw_or (pt_cmpR (op_neD hr.units) (pe_call GA (hr.mono (by decide)) rfl mA kA bA .nil pass0 (pa_cons (pe_call GK (hr.mono (by decide)) rfl mK kK bK .nil pass0 (pa_cons (pv 6) pa_nil)) pa_nil)) (pe_lst (pa_cons pe_int pa_nil)) (nomark _)) (pw_or1 (pt_not (pt_val (pe_callB call_xis (by rfl) (T.free "isinstance" (by simp [frees])) bo_isi (pa_cons (pv 6) (pa_cons (pe_glob (v := .ref (ga K "MaskError")) rfl T.mgM rfl) pa_nil))))))))) (pss_one (ps_ret pe_bl)) pss_nil))) (pss_one (ps_for PassesOwn.never rfl (pi_list (pe_lst (pa_cons (pe_xmk (T.cls 18 (by decide)) (T.ini 18 (by decide)).1 (T.ini 18 (by decide)).2 G18 (hr.mono (by decide)) B18 pass0 rfl (T.mgc 18 (by decide)) (pa_cons pe_str (pa_cons (pv 3) pa_nil))) (pa_cons (pe_xmkK (T.cls 18 (by decide)) (T.ini 18 (by decide)).1 (T.ini 18 (by decide)).2 G18 (hr.mono (by decide)) C18 pass0 rfl (T.mgc 18 (by decide)) (pk_cons pe_str (pk_cons (pv 3) pk_nil))) (pa_cons (pe_xmkK (T.cls 18 (by decide)) (T.ini 18 (by decide)).1 (T.ini 18 (by decide)).2 G18 (hr.mono (by decide)) D18 pass0 rfl (T.mgc 18 (by decide)) (pk_cons (pv 3) (pk_cons pe_str pk_nil))) pa_nil))))) (pg_name (i := 6) sc_law.nd rfl (Or.inl rfl)) (pss_cons (ps_if (PW.pt (pw_or (pt_cmpR op_ne (pe_callB (call_repr hgd hr.units T.sys) (by rfl) (T.free "repr" (by simp [frees])) boot_repr (pa_cons (pe_lst (pa_cons (pe_xfl (pv 6)) (pa_cons (pe_xfl (pv 6)) pa_nil))) pa_nil)) (pe_callB (call_repr hgd hr.units T.sys) (by rfl) (T.free "repr" (by simp [frees])) boot_repr (pa_cons (pe_lst (pa_cons pe_str (pa_cons (pv 3) pa_nil))) pa_nil)) (nomark _)) (pw_or1 (pt_cmpR (op_neD hr.units) (pe_call GA (hr.mono (by decide)) rfl mA kA bA .nil pass0 (pa_cons (pe_call GK (hr.mono (by decide)) rfl mK kK bK .nil pass0 (pa_cons (pv 6) pa_nil)) pa_nil)) (pe_lst (pa_cons pe_int pa_nil)) (nomark _))))) (pss_one (ps_ret pe_bl)) pss_nil) (pss_one (ps_if (pt_cmpR (op_neD hr.units) (pe_call GS (hr.mono (by decide)) rfl mS kS bS .nil pass0 (pa_cons (pv 6) pa_nil)) (pe_lst (pa_cons pe_bl (pa_cons pe_bl (pa_cons pe_bl (pa_cons pe_bl pa_nil))))) (nomark _)) (pss_one (ps_ret pe_bl)) pss_nil))))))))))) (pss_cons (ps_set (i := 9) sc_law.nd rfl (Or.inl rfl) (pe_lst (pa_cons (pe_call GA (hr.mono (by decide)) rfl mA kA bA .nil pass0 (pa_cons (pe_call GK (hr.mono (by decide)) rfl mK kK bK .nil pass0 (pa_cons (pe_xmk0 (T.cls 19 (by decide)) (T.ini 19 (by decide)).1 (T.ini 19 (by decide)).2 G19 (hr.mono (by decide)) B19 pass0 rfl (T.mgc 19 (by decide))) pa_nil)) pa_nil)) (pa_cons (pe_call GA (hr.mono (by decide)) rfl mA kA bA .nil pass0 (pa_cons (pe_call GK (hr.mono (by decide)) rfl mK kK bK .nil pass0 (pa_cons (pe_xmk0 (T.cls 20 (by decide)) (T.ini 20 (by decide)).1 (T.ini 20 (by decide)).2 G20 (hr.mono (by decide)) B20 pass0 rfl (T.mgc 20 (by decide))) pa_nil)) pa_nil)) pa_nil)))) (pss_cons (ps_set (i := 10) sc_law.nd rfl (Or.inl rfl) (pe_lst (pa_cons (pe_call GS (hr.mono (by decide)) rfl mS kS bS .nil pass0 (pa_cons (pe_xmk0 (T.cls 19 (by decide)) (T.ini 19 (by decide)).1 (T.ini 19 (by decide)).2 G19 (hr.mono (by decide)) B19 pass0 rfl (T.mgc 19 (by decide))) pa_nil)) (pa_cons (pe_call GS (hr.mono (by decide)) rfl mS kS bS .nil pass0 (pa_cons (pe_xmk0 (T.cls 20 (by decide)) (T.ini 20 (by decide)).1 (T.ini 20 (by decide)).2 G20 (hr.mono (by decide)) B20 pass0 rfl (T.mgc 20 (by decide))) pa_nil)) pa_nil)))) (pss_one (ps_ret (pe_and (pe_cmpR (op_eqD hr.units) (pv 9) (pe_lst (pa_cons (pe_lst (pa_cons pe_int pa_nil)) (pa_cons (pe_lst (pa_cons pe_int pa_nil)) pa_nil))) (nomark _)) (pe_one (pe_cmpR (op_eqD hr.units) (pv 10) (pe_op op_rep (pe_lst (pa_cons (pe_lst (pa_cons pe_bl (pa_cons pe_bl (pa_cons pe_bl (pa_cons pe_bl pa_nil))))) pa_nil)) pe_int) (nomark _))))))))), ?_⟩
    have hL : ((ns.map V.int).length : Int) ≤ 63 := by
      rw [List.length_map]
      omega
    refine w_forR (ea_cons (ev_cb (ea_cons ev_c (ea_cons (ev_cb (ea_cons (ev_len (ev_var rfl) hl) (ea_cons ev_c ea_nil)) (fun H1 _ Q q => ⟨_, _, rfl, q H1 (Ex.refl H1)⟩)) ea_nil)) (fun H1 _ Q q => ⟨_, _, rfl, q H1 (Ex.refl H1)⟩)) ea_nil) (by constructor <;> (split <;> split <;> omega)) (fun _ => Sh l) ⟨none, none, none, none, none, none, none, none, rfl⟩ ?turn ?done
    case turn =>
      intro i σ' H' e hi hS N hN
      obtain ⟨o1, o2, o3, o4, o5, o6, o7, o8, rfl⟩ := hS
      have hi2 : i < 100 := by
        have : (i : Int) < 100 := Int.lt_of_lt_of_le hi (by split <;> split <;> omega)
        omega
      refine a_name (te := tCall (spPool K) [] E0 (tCons (tVar 0) (tCons (tVar 1) tNil))) ?_
      refine ⟨_, rfl, _, rfl, l, ns, i, rfl, ex_l e hl, hi2, fun p a b hp b0 b1 => ?_⟩
      dsimp only
      show tFor _ _ _ _ [some (V.ref l), some (V.int (i : Int)), some (V.ref p), o3, o4, o5, o6, o7, o8, none, none] (upd H' p (.lst [.int a, .int b]))
      refine w_forL0 (K := K) (H := H') (Ps := List.replicate 8 (GV K)) (fun Q q => ?lst) (fun R hR => (List.eq_of_mem_replicate hR) ▸ mono_gv) (fun _ => Sh l) ⟨_, _, _, _, _, _, _, _, rfl⟩ ?each ?dn
      case dn => exact fun σ3 H3 e3 s3 => hN σ3 H3 e3 s3
      case lst =>
        refine ⟨.ref p, rfl, 10, 9, rfl, rfl, ⟨by decide, by decide, by decide⟩, p, a, b, 1000000000, rfl, upd_same, by decide, by decide, b0, b1, fun n a' b' n0 n1 _ _ => ?_⟩
        refine (ga_cons (gv_good (K := K) (d := .tuple [.tuple [.str "low", .str "", .int 1]]) (gv_tup (gv_cons (gv_tup (gv_cons gv_str (gv_cons gv_str (gv_cons gv_int gv_nil))) (by simp)) gv_nil) (by simp)) (good8 n0 n1 _ (by simp [vals8]))) mono_gv
          (ga_cons (gv_good (K := K) (gv_lst (gv_cons gv_int gv_nil) (by simp)) (good8 n0 n1 _ (by simp [vals8]))) mono_gv
          (ga_cons (gv_good (K := K) gv_str (good8 n0 n1 _ (by simp [vals8]))) mono_gv
          (ga_cons (gv_good (K := K) gv_bl (good8 n0 n1 _ (by simp [vals8]))) mono_gv
          (ga_cons (gv_good (K := K) gv_neg (good8 n0 n1 _ (by simp [vals8]))) mono_gv
          (ga_cons (gv_good (K := K) gv_dic (good8 n0 n1 _ (by simp [vals8]))) mono_gv ga_nil)))))) _ (Ex.refl _) _ (fun xs H4 e4 ps => ?_)
        have hx : xs.length = 6 := ps.len
        refine ⟨?_, fun c hc => ?_⟩
        · show (V.non :: V.int n :: xs).length ≤ sizeLine
          rw [List.length_cons, List.length_cons, hx]
          decide
        · have eH : Ex H' H4 := (Ex.mut (Ex.new hp) hp).trans e4
          refine q _ _ (eH.trans (Ex.new hc)) ⟨c, _, rfl, upd_same, ⟨.none, good8 n0 n1 _ (by simp [vals8]), Dd.non⟩, ⟨.int n, good_int n0 n1, Dd.int n⟩, ?_⟩
          exact ps.up (Ex.new hc) (monoL_cons mono_gv (monoL_cons mono_gv (monoL_cons mono_gv (monoL_cons mono_gv (monoL_cons mono_gv (monoL_cons mono_gv monoL_nil))))))
      case each =>
        intro j one R σ1 H1 e1 hR hone hS N1 hN1
        have hRe : R = GV K := List.eq_of_mem_replicate (List.mem_of_getElem? hR)
        subst hRe
        obtain ⟨d, hd, hv⟩ := hone
        obtain ⟨p1, p2, p3, p4, p5, p6, p7, p8, rfl⟩ := hS
        refine g_name ?_
        dsimp only
        show tSeq _ _ _ [some (V.ref l), p1, p2, some one, p4, p5, p6, p7, p8, none, none] H1
        have dv : ∀ H9, Ex H1 H9 → Dd K H9 one d := fun H9 e9 => Dd.up e9 hv
        have mX : MonoL [LX K one (List.range 17), LX K one (List.range 17)] := monoL_cons (mono_lst (mono_xs K one _)) (monoL_cons (mono_lst (mono_xs K one _)) monoL_nil)
        refine w_forL (K := K) (Ps := [LX K one (List.range 17), LX K one (List.range 17)]) (g_lst (ga_cons (g_call (Ps := [Is one]) (ga_cons (g_var rfl) (mono_is _) ga_nil) fun vs H2 e2 ps Q q => ?b1) (mono_lst (mono_xs K one _)) (ga_cons (g_call (Ps := [Is one]) (ga_cons (g_var rfl) (mono_is _) ga_nil) fun vs H2 e2 ps Q q => ?b2) (mono_lst (mono_xs K one _)) ga_nil)) mX (by simp)) mX (fun _ => Sh3 l one) ⟨_, _, _, _, _, _, _, rfl⟩ ?t1 ?d1
        case b1 =>
          obtain ⟨z, rfl, hz⟩ := all1 ps
          have hz' : z = one := hz
          subst hz'
          exact ⟨z, rfl, fun u H3 e3 h3 => q u H3 e3 h3⟩
        case b2 =>
          obtain ⟨z, rfl, hz⟩ := all1 ps
          have hz' : z = one := hz
          subst hz'
          exact ⟨z, rfl, fun u H3 e3 h3 => q u H3 e3 h3⟩
        case t1 =>
          intro i2 fo R2 σ2 H2 e2 hR2 hfo hS2 N2 hN2
          have hRe2 : R2 = LX K one (List.range 17) := by
            have z := List.mem_of_getElem? hR2
            simpa using z
          subst hRe2
          obtain ⟨pf, xs, rfl, hpf, ax⟩ := hfo
          obtain ⟨q1, q2, q4, q5, q6, q7, q8, rfl⟩ := hS2
          refine g_name ?_
          dsimp only
          show tFor _ _ _ _ [some (V.ref l), q1, q2, some one, some (V.ref pf), q5, q6, q7, q8, none, none] H2
          refine w_forE (K := K) (a := pf) (xs := xs) (ga_cons (g_var rfl) (mono_is _) ga_nil) (sq_of hpf) (fun _ => Sh4 l one (.ref pf)) ⟨_, _, _, _, _, _, rfl⟩ ?t2 ?d2
          case d2 => exact fun σ3 H3 e3 s3 => hN2 σ3 H3 e3 (sh43 s3)
          case t2 =>
            intro i3 x T3 σ3 H3 e3 hx hT hS3 N3 hN3
            obtain ⟨P3, hP3, hx3⟩ := (ax.up e3 (mono_xs K one _)).get hx
            obtain ⟨hi17, rfl⟩ := lx_get hP3
            have hi21 : i3 < 21 := Nat.lt_trans hi17 (by decide)
            obtain ⟨r1, r2, r5, r6, r7, r8, rfl⟩ := hS3
            refine ⟨T3, [.int (i3 : Nat), x], rfl, st_of hT, rfl, .int (i3 : Nat), [x], rfl, x, [], rfl, rfl, ?_⟩
            dsimp only
            show tSeq _ _ _ [some (V.ref l), r1, r2, some one, some (V.ref pf), some (V.int (i3 : Nat)), some x, r7, r8, none, none] H3
            have e13 : Ex H1 H3 := e2.trans e3
            refine q_when (b := false) (or_no (g_neS (g_repr (d := d) (gv_of (g_xfl (g_varP rfl (mono_xv _ _) hx3) (T.cls i3 hi21) (T.no i3 hi21 "value" (fl_val hi17)) rfl) (dv _ e13)) hd.1 (Nat.le_trans hd.2.1 (by decide)) (good_sz hd)) (g_repr (d := d) (gv_of (g_var rfl) (dv _ e13)) hd.1 (Nat.le_trans hd.2.1 (by decide)) (good_sz hd)) rfl)
              (g_neDs (g_kinds hi21 (g_varP rfl (mono_xa _) (xa_of hx3))) (gd_lst (gd_cons (gd_of (g_var rfl) (fun _ _ => Dp.int _)) gd_nil) (by simp)) (shI _))) (fun h => nomatch h) (fun _ H4 e4 => ?_)
            refine q_asgG (P := Lst (baseL.map fun n => Is (.int n))) (g_cat (g_rep (k := 13) (g_lst (ga_cons g_c (mono_is _) ga_nil) (monoL_cons (mono_is _) monoL_nil) (by simp)) (monoL_cons (mono_is _) monoL_nil) g_c (by decide) (by simp)) (g_lst (ga_cons g_c (mono_is _) (ga_cons g_c (mono_is _) (ga_cons g_c (mono_is _) (ga_cons g_c (mono_is _) ga_nil)))) mono_i4 (by simp)) mono_i13 mono_i4 (by simp)) (fun v5 H5 e5 p5 => ?_)
            refine q_asgG (P := Lst (dueL.map fun bs => DP K (.list (bs.map PyData.bool)))) (g_lst (Ps := dueL.map fun bs => DP K (.list (bs.map PyData.bool))) (ga_cons (gd_lst (gd_cons gd_bl (gd_cons gd_bl (gd_cons gd_bl (gd_cons gd_bl gd_nil)))) (by simp)) (mono_dp _) (ga_cons (gd_lst (gd_cons gd_bl (gd_cons gd_bl (gd_cons gd_bl (gd_cons gd_bl gd_nil)))) (by simp)) (mono_dp _) (ga_cons (gd_lst (gd_cons gd_bl (gd_cons gd_bl (gd_cons gd_bl (gd_cons gd_bl gd_nil)))) (by simp)) (mono_dp _) ga_nil))) mono_due (by simp [dueL])) (fun v6 H6 e6 p6 => ?_)
            obtain ⟨bn, hb1, hb2⟩ := due_at i3 hi17
            refine s_when (b := false) (g_neDs (g_bases hi21 (g_varP rfl (mono_xa _) (mono_xa _ _ _ _ ((e4.trans e5).trans e6) (xa_of hx3)))) (g_ix (j := bn) (g_varP rfl (mono_lst mono_due) p6) mono_due (g_ix (j := i3) (g_varP rfl (mono_lst mono_base) (mono_lst mono_base _ _ _ e6 p5)) mono_base (g_var rfl) (by rw [List.getElem?_map, hb1]; rfl)) (by rw [List.getElem?_map, hb2]; rfl)) (shB _ _ _ _)) (fun h => nomatch h) (fun _ H7 e7 => ?_)
            exact hN3 _ _ (((e4.trans e5).trans e6).trans e7) ⟨_, _, _, _, _, _, rfl⟩
        case d1 =>
          intro σ2 H2 e2 hS2
          obtain ⟨q1, q2, q4, q5, q6, q7, q8, rfl⟩ := hS2
          show tSeq _ _ _ [some (V.ref l), q1, q2, some one, q4, q5, q6, q7, q8, none, none] H2
          have m17 : MonoL [XV (Cl K 17) [("at", one)], XV (Cl K 17) [("at", one)]] := monoL_cons (mono_xv _ _) (monoL_cons (mono_xv _ _) monoL_nil)
          refine w_forL (K := K) (Ps := [XV (Cl K 17) [("at", one)], XV (Cl K 17) [("at", one)]]) (g_lst (ga_cons (g_x1 (gV := fun vs _ => vs) (ga_cons (g_var rfl) (mono_is _) ga_nil) (fun _ => rfl)) (mono_xv _ _) (ga_cons (g_x1k (gV := fun vs zs => vs ++ zs) (ga_cons (g_var rfl) (mono_is _) ga_nil) (fun _ => rfl)) (mono_xv _ _) ga_nil)) m17 (by simp)) m17 (fun _ => Sh3 l one) ⟨_, _, _, _, _, _, _, rfl⟩ ?t4 ?d4
          case t4 =>
            intro i3 x R3 σ3 H3 e3 hR3 hx3 hS3 N3 hN3
            have hRe3 : R3 = XV (Cl K 17) [("at", one)] := by
              have z := List.mem_of_getElem? hR3
              simpa using z
            subst hRe3
            obtain ⟨r1, r2, r4, r5, r6, r7, r8, rfl⟩ := hS3
            refine g_name ?_
            dsimp only
            show tIfS _ _ _ _ [some (V.ref l), r1, r2, some one, r4, r5, some x, r7, r8, none, none] H3
            have e13 : Ex H1 H3 := e2.trans e3
            refine s_when (b := false) (or_no (g_neS (g_repr (d := d) (gv_of (g_xfl (g_varP rfl (mono_xv _ _) hx3) (T.cls 17 (by decide)) (T.no 17 (by decide) "at" (by simp [fl])) rfl) (dv _ e13)) hd.1 (Nat.le_trans hd.2.1 (by decide)) (good_sz hd)) (g_repr (d := d) (gv_of (g_var rfl) (dv _ e13)) hd.1 (Nat.le_trans hd.2.1 (by decide)) (good_sz hd)) rfl)
              (or_no (g_neDs (g_kinds (i := 17) (by decide) (g_varP rfl (mono_xa _) (xa_of hx3))) (gd_lst (gd_cons gd_int gd_nil) (by simp)) (shI _)) (not_yes (g_xis (g_varP rfl (mono_xa _) (xa_of hx3)) (T.cls 17 (by decide)) (ClsV.own _) (T.kM 17 (by decide)))))) (fun h => nomatch h) (fun _ H7 e7 => ?_)
            exact hN3 _ _ e7 ⟨_, _, _, _, _, _, _, rfl⟩
          case d4 =>
            intro σ3 H3 e3 hS3
            obtain ⟨r1, r2, r4, r5, r6, r7, r8, rfl⟩ := hS3
            dsimp only
            show tFor _ _ _ _ [some (V.ref l), r1, r2, some one, r4, r5, r6, r7, r8, none, none] H3
            have m18 : MonoL [XV (Cl K 18) [("value", one), ("word", .str "name")], XV (Cl K 18) [("value", one), ("word", .str "name")], XV (Cl K 18) [("value", one), ("word", .str "name")]] := monoL_cons (mono_xv _ _) (monoL_cons (mono_xv _ _) (monoL_cons (mono_xv _ _) monoL_nil))
            refine w_forL (K := K) (Ps := [XV (Cl K 18) [("value", one), ("word", .str "name")], XV (Cl K 18) [("value", one), ("word", .str "name")], XV (Cl K 18) [("value", one), ("word", .str "name")]]) (g_lst (ga_cons (g_x2 (gV := fun vs _ => vs) (ga_cons g_c (mono_is _) (ga_cons (g_var rfl) (mono_is _) ga_nil)) (fun _ => rfl)) (mono_xv _ _) (ga_cons (g_x2k (gV := fun vs zs => vs ++ zs) (ga_cons g_c (mono_is _) (ga_cons (g_var rfl) (mono_is _) ga_nil)) (fun _ => rfl)) (mono_xv _ _) (ga_cons (g_x2k (gV := fun vs zs => vs ++ zs.reverse) (ga_cons (g_var rfl) (mono_is _) (ga_cons g_c (mono_is _) ga_nil)) (fun _ => rfl)) (mono_xv _ _) ga_nil))) m18 (by simp)) m18 (fun _ => Sh3 l one) ⟨_, _, _, _, _, _, _, rfl⟩ ?t5 ?d5
            case d5 => exact fun σ4 H4 e4 s4 => hN1 σ4 H4 ((e2.trans e3).trans e4) (sh30 s4)
            case t5 =>
              intro i4 x R4 σ4 H4 e4 hR4 hx4 hS4 N4 hN4
              have hRe4 : R4 = XV (Cl K 18) [("value", one), ("word", .str "name")] := by
                have z := List.mem_of_getElem? hR4
                simpa using z
              subst hRe4
              obtain ⟨t1, t2, t4, t5, t6, t7, t8, rfl⟩ := hS4
              refine g_name ?_
              dsimp only
              show tSeq _ _ _ [some (V.ref l), t1, t2, some one, t4, t5, some x, t7, t8, none, none] H4
              have e14 : Ex H1 H4 := (e2.trans e3).trans e4
              obtain ⟨gp1, gp2, gp3⟩ := good_pair hd
              refine q_when (b := false) (or_no (g_neS (g_repr (d := .list [.str "name", d]) (gv_lst (gv_cons (gv_of (g_xfl (g_varP rfl (mono_xv _ _) hx4) (T.cls 18 (by decide)) (T.no 18 (by decide) "word" (by simp [fl])) (v := .str "name") lk_word) (Dd.str _)) (gv_cons (gv_of (g_xfl (g_varP rfl (mono_xv _ _) hx4) (T.cls 18 (by decide)) (T.no 18 (by decide) "value" (by simp [fl])) (v := one) lk_value) (dv _ e14)) gv_nil)) (by simp)) gp1 gp2 gp3) (g_repr (d := .list [.str "name", d]) (gv_lst (gv_cons gv_str (gv_cons (gv_of (g_var rfl) (dv _ e14)) gv_nil)) (by simp)) gp1 gp2 gp3) rfl)
                (g_neDs (g_kinds (i := 18) (by decide) (g_varP rfl (mono_xa _) (xa_of hx4))) (gd_lst (gd_cons gd_int gd_nil) (by simp)) (shI _))) (fun h => nomatch h) (fun _ H5 e5 => ?_)
              refine s_when (b := false) (g_neDs (g_bases (i := 18) (by decide) (g_varP rfl (mono_xa _) (mono_xa _ _ _ _ e5 (xa_of hx4)))) (gd_lst (gd_cons gd_bl (gd_cons gd_bl (gd_cons gd_bl (gd_cons gd_bl gd_nil)))) (by simp)) (shB _ _ _ _)) (fun h => nomatch h) (fun _ H7 e7 => ?_)
              exact hN4 _ _ (e5.trans e7) ⟨_, _, _, _, _, _, _, rfl⟩
    case done =>
      intro σ' H' e hS
      obtain ⟨o1, o2, o3, o4, o5, o6, o7, o8, rfl⟩ := hS
      show tSeq _ _ _ [some (V.ref l), o1, o2, o3, o4, o5, o6, o7, o8, none, none] H'
      have x0 : ∀ (j : Nat) (σ : L2.St) (H9 : Hp), Gets (tXmk (Cl K j) 0 0 (spI0 (Cl K j)) (fun vs _ => vs) E0 tNil tNil) σ H9 (XA (Cl K j)) := fun j σ H9 => (g_x0 (fun _ => rfl)).imp fun v H8 _ p => xa_of0 p
      refine q_asgG (P := DP K (.list [.list [.int 19], .list [.int 20]])) (gd_lst (gd_cons (g_kinds (i := 19) (by decide) (x0 19 _ _)) (gd_cons (g_kinds (i := 20) (by decide) (x0 20 _ _)) gd_nil)) (by simp)) (fun v5 H5 e5 p5 => ?_)
      refine q_asgG (P := DP K (.list [.list ([false, false, false, true].map PyData.bool), .list ([false, false, false, true].map PyData.bool)])) (gd_lst (gd_cons (g_bases (i := 19) (by decide) (x0 19 _ _)) (gd_cons (g_bases (i := 20) (by decide) (x0 20 _ _)) gd_nil)) (by simp)) (fun v6 H6 e6 p6 => ?_)
      refine w_ret (P := Is (.bl true)) (Ev.gets (ev_andV (a := true) (b := true) (Gets.ev (g_eqT (d := .list [.list [.int 19], .list [.int 20]]) (g_varP rfl (mono_dp _) (mono_dp _ _ _ _ e6 p5)) (gd_lst (gd_cons (gd_lst (gd_cons gd_int gd_nil) (by simp)) (gd_cons (gd_lst (gd_cons gd_int gd_nil) (by simp)) gd_nil)) (by simp)) rfl)) (fun _ => Gets.ev (g_eqT (d := .list [.list ([false, false, false, true].map PyData.bool), .list ([false, false, false, true].map PyData.bool)]) (g_varP rfl (mono_dp _) p6) ((g_rep (k := 2) (g_lst (ga_cons (gd_lst (gd_cons gd_bl (gd_cons gd_bl (gd_cons gd_bl (gd_cons gd_bl gd_nil)))) (by simp)) (mono_dp _) ga_nil) (monoL_cons (mono_dp _) monoL_nil) (by simp)) (monoL_cons (mono_dp _) monoL_nil) g_c (by decide) (by simp)).imp fun v H8 _ p => dp_lst p) rfl)))) (fun v7 H7 e7 p7 => ?_)
      have p7' : v7 = .bl true := p7
      subst p7'
      exact k _
end
end K02
set_option Elab.async false
set_option linter.all false
set_option maxRecDepth 100000
set_option maxHeartbeats 8000000
namespace K02
open PySem PySem.Spec PyProof.Rows L2 He MeH MeG MeK MeE Evl
theorem facts {P : Program} {w : World} {K : PySem.W.Frag} {h : Heap} {mg : Str → Option Value} {f : Addr} (X : K.In h) (G : h.Ns mainGlobals mg) (hfa : mg ("law" : Str) = some (.ref f)) (c : SaysX fb fn K) :
    ∃ fd : FuncData, (∀ (s : Shared) (v : Value), BindsTo s fd ⟨[v], []⟩ [("_law_script", v)]) ∧ ∀ base : Heap, K.In base → base.Ns mainGlobals mg → FnG P w K mg base CX0 4 f fd ["_law_script"] (spLaw K) := by
  have T : Txt K mg := txt_of X G c
  obtain ⟨fd_law_pool, F_law_pool⟩ := c.def_ 0 (d := d_law_pool) rfl
  obtain ⟨fd_law_take, F_law_take⟩ := c.def_ 1 (d := d_law_take) rfl
  obtain ⟨fd_law_at, F_law_at⟩ := c.def_ 2 (d := d_law_at) rfl
  obtain ⟨fd_law_value_kinds, F_law_value_kinds⟩ := c.def_ 3 (d := d_law_value_kinds) rfl
  obtain ⟨fd_law_all_kinds, F_law_all_kinds⟩ := c.def_ 4 (d := d_law_all_kinds) rfl
  obtain ⟨fd_law_by_place, F_law_by_place⟩ := c.def_ 5 (d := d_law_by_place) rfl
  obtain ⟨fd_law_by_name, F_law_by_name⟩ := c.def_ 6 (d := d_law_by_name) rfl
  obtain ⟨fd_law_bases, F_law_bases⟩ := c.def_ 7 (d := d_law_bases) rfl
  obtain ⟨fdlaw, Flaw⟩ := c.def_ 8 (d := dlaw) rfl
  obtain ⟨fe0, E0⟩ := c.def_ 9 (d := eInvalidLevels) rfl
  obtain ⟨fe1, E1⟩ := c.def_ 10 (d := eInvalidLevel) rfl
  obtain ⟨fe2, E2⟩ := c.def_ 11 (d := eInvalidName) rfl
  obtain ⟨fe3, E3⟩ := c.def_ 12 (d := eInvalidNumber) rfl
  obtain ⟨fe4, E4⟩ := c.def_ 13 (d := eInvalidText) rfl
  obtain ⟨fe5, E5⟩ := c.def_ 14 (d := eInvalidQuery) rfl
  obtain ⟨fe6, E6⟩ := c.def_ 15 (d := eInvalidView) rfl
  obtain ⟨fe7, E7⟩ := c.def_ 16 (d := eInvalidMoment) rfl
  obtain ⟨fe8, E8⟩ := c.def_ 17 (d := eInvalidEdit) rfl
  obtain ⟨fe9, E9⟩ := c.def_ 18 (d := eBadRecords) rfl
  obtain ⟨fe10, E10⟩ := c.def_ 19 (d := eInvalidRights) rfl
  obtain ⟨fe11, E11⟩ := c.def_ 20 (d := eInvalidLine) rfl
  obtain ⟨fe12, E12⟩ := c.def_ 21 (d := eNoFault) rfl
  obtain ⟨fe13, E13⟩ := c.def_ 22 (d := eNotSeen) rfl
  obtain ⟨fe14, E14⟩ := c.def_ 23 (d := eNoOffer) rfl
  obtain ⟨fe15, E15⟩ := c.def_ 24 (d := eNoRight) rfl
  obtain ⟨fe16, E16⟩ := c.def_ 25 (d := eSameUser) rfl
  obtain ⟨fe17, E17⟩ := c.def_ 26 (d := eInvalidScript) rfl
  obtain ⟨fe18, E18⟩ := c.def_ 27 (d := eRefused) rfl
  obtain ⟨fe19, E19⟩ := c.def_ 28 (d := eClosed) rfl
  obtain ⟨fe20, E20⟩ := c.def_ 29 (d := eNoServer) rfl
  have e := hfa.symm.trans (T.glo "law" (by simp [glos]))
  cases e
  have b := FunD.bindsA (ps := ["_law_script"]) Flaw fun _ _ _ _ _ _ us hl => match us, hl with | [_], _ => rfl
  refine ⟨fdlaw, fun s v => b s [v] rfl, fun base _ _ => ?_⟩
  have I0 : Ini1 P w K mg base 0 "value" := ⟨fe0, ok_InvalidLevels E0 T, kbn E0 (fun _ _ _ _ _ _ us ws l1 l2 => match us, ws, l1, l2 with | [_, _], [], _, _ => rfl) (fun r _ => r), kbn E0 (fun _ _ _ _ _ _ us ws l1 l2 => match us, ws, l1, l2 with | [_], [_], _, _ => rfl) (fun r r2 => r.append r2)⟩
  have I1 : Ini1 P w K mg base 1 "value" := ⟨fe1, ok_InvalidLevel E1 T, kbn E1 (fun _ _ _ _ _ _ us ws l1 l2 => match us, ws, l1, l2 with | [_, _], [], _, _ => rfl) (fun r _ => r), kbn E1 (fun _ _ _ _ _ _ us ws l1 l2 => match us, ws, l1, l2 with | [_], [_], _, _ => rfl) (fun r r2 => r.append r2)⟩
  have I2 : Ini1 P w K mg base 2 "value" := ⟨fe2, ok_InvalidName E2 T, kbn E2 (fun _ _ _ _ _ _ us ws l1 l2 => match us, ws, l1, l2 with | [_, _], [], _, _ => rfl) (fun r _ => r), kbn E2 (fun _ _ _ _ _ _ us ws l1 l2 => match us, ws, l1, l2 with | [_], [_], _, _ => rfl) (fun r r2 => r.append r2)⟩
  have I3 : Ini1 P w K mg base 3 "value" := ⟨fe3, ok_InvalidNumber E3 T, kbn E3 (fun _ _ _ _ _ _ us ws l1 l2 => match us, ws, l1, l2 with | [_, _], [], _, _ => rfl) (fun r _ => r), kbn E3 (fun _ _ _ _ _ _ us ws l1 l2 => match us, ws, l1, l2 with | [_], [_], _, _ => rfl) (fun r r2 => r.append r2)⟩
  have I4 : Ini1 P w K mg base 4 "value" := ⟨fe4, ok_InvalidText E4 T, kbn E4 (fun _ _ _ _ _ _ us ws l1 l2 => match us, ws, l1, l2 with | [_, _], [], _, _ => rfl) (fun r _ => r), kbn E4 (fun _ _ _ _ _ _ us ws l1 l2 => match us, ws, l1, l2 with | [_], [_], _, _ => rfl) (fun r r2 => r.append r2)⟩
  have I5 : Ini1 P w K mg base 5 "value" := ⟨fe5, ok_InvalidQuery E5 T, kbn E5 (fun _ _ _ _ _ _ us ws l1 l2 => match us, ws, l1, l2 with | [_, _], [], _, _ => rfl) (fun r _ => r), kbn E5 (fun _ _ _ _ _ _ us ws l1 l2 => match us, ws, l1, l2 with | [_], [_], _, _ => rfl) (fun r r2 => r.append r2)⟩
  have I6 : Ini1 P w K mg base 6 "value" := ⟨fe6, ok_InvalidView E6 T, kbn E6 (fun _ _ _ _ _ _ us ws l1 l2 => match us, ws, l1, l2 with | [_, _], [], _, _ => rfl) (fun r _ => r), kbn E6 (fun _ _ _ _ _ _ us ws l1 l2 => match us, ws, l1, l2 with | [_], [_], _, _ => rfl) (fun r r2 => r.append r2)⟩
  have I7 : Ini1 P w K mg base 7 "value" := ⟨fe7, ok_InvalidMoment E7 T, kbn E7 (fun _ _ _ _ _ _ us ws l1 l2 => match us, ws, l1, l2 with | [_, _], [], _, _ => rfl) (fun r _ => r), kbn E7 (fun _ _ _ _ _ _ us ws l1 l2 => match us, ws, l1, l2 with | [_], [_], _, _ => rfl) (fun r r2 => r.append r2)⟩
  have I8 : Ini1 P w K mg base 8 "value" := ⟨fe8, ok_InvalidEdit E8 T, kbn E8 (fun _ _ _ _ _ _ us ws l1 l2 => match us, ws, l1, l2 with | [_, _], [], _, _ => rfl) (fun r _ => r), kbn E8 (fun _ _ _ _ _ _ us ws l1 l2 => match us, ws, l1, l2 with | [_], [_], _, _ => rfl) (fun r r2 => r.append r2)⟩
  have I9 : Ini1 P w K mg base 9 "value" := ⟨fe9, ok_BadRecords E9 T, kbn E9 (fun _ _ _ _ _ _ us ws l1 l2 => match us, ws, l1, l2 with | [_, _], [], _, _ => rfl) (fun r _ => r), kbn E9 (fun _ _ _ _ _ _ us ws l1 l2 => match us, ws, l1, l2 with | [_], [_], _, _ => rfl) (fun r r2 => r.append r2)⟩
  have I10 : Ini1 P w K mg base 10 "value" := ⟨fe10, ok_InvalidRights E10 T, kbn E10 (fun _ _ _ _ _ _ us ws l1 l2 => match us, ws, l1, l2 with | [_, _], [], _, _ => rfl) (fun r _ => r), kbn E10 (fun _ _ _ _ _ _ us ws l1 l2 => match us, ws, l1, l2 with | [_], [_], _, _ => rfl) (fun r r2 => r.append r2)⟩
  have I11 : Ini1 P w K mg base 11 "value" := ⟨fe11, ok_InvalidLine E11 T, kbn E11 (fun _ _ _ _ _ _ us ws l1 l2 => match us, ws, l1, l2 with | [_, _], [], _, _ => rfl) (fun r _ => r), kbn E11 (fun _ _ _ _ _ _ us ws l1 l2 => match us, ws, l1, l2 with | [_], [_], _, _ => rfl) (fun r r2 => r.append r2)⟩
  have I12 : Ini1 P w K mg base 12 "value" := ⟨fe12, ok_NoFault E12 T, kbn E12 (fun _ _ _ _ _ _ us ws l1 l2 => match us, ws, l1, l2 with | [_, _], [], _, _ => rfl) (fun r _ => r), kbn E12 (fun _ _ _ _ _ _ us ws l1 l2 => match us, ws, l1, l2 with | [_], [_], _, _ => rfl) (fun r r2 => r.append r2)⟩
  have I13 : Ini1 P w K mg base 13 "value" := ⟨fe13, ok_NotSeen E13 T, kbn E13 (fun _ _ _ _ _ _ us ws l1 l2 => match us, ws, l1, l2 with | [_, _], [], _, _ => rfl) (fun r _ => r), kbn E13 (fun _ _ _ _ _ _ us ws l1 l2 => match us, ws, l1, l2 with | [_], [_], _, _ => rfl) (fun r r2 => r.append r2)⟩
  have I14 : Ini1 P w K mg base 14 "value" := ⟨fe14, ok_NoOffer E14 T, kbn E14 (fun _ _ _ _ _ _ us ws l1 l2 => match us, ws, l1, l2 with | [_, _], [], _, _ => rfl) (fun r _ => r), kbn E14 (fun _ _ _ _ _ _ us ws l1 l2 => match us, ws, l1, l2 with | [_], [_], _, _ => rfl) (fun r r2 => r.append r2)⟩
  have I15 : Ini1 P w K mg base 15 "value" := ⟨fe15, ok_NoRight E15 T, kbn E15 (fun _ _ _ _ _ _ us ws l1 l2 => match us, ws, l1, l2 with | [_, _], [], _, _ => rfl) (fun r _ => r), kbn E15 (fun _ _ _ _ _ _ us ws l1 l2 => match us, ws, l1, l2 with | [_], [_], _, _ => rfl) (fun r r2 => r.append r2)⟩
  have I16 : Ini1 P w K mg base 16 "value" := ⟨fe16, ok_SameUser E16 T, kbn E16 (fun _ _ _ _ _ _ us ws l1 l2 => match us, ws, l1, l2 with | [_, _], [], _, _ => rfl) (fun r _ => r), kbn E16 (fun _ _ _ _ _ _ us ws l1 l2 => match us, ws, l1, l2 with | [_], [_], _, _ => rfl) (fun r r2 => r.append r2)⟩
  have I17 : Ini1 P w K mg base 17 "at" := ⟨fe17, ok_InvalidScript E17 T, kbn E17 (fun _ _ _ _ _ _ us ws l1 l2 => match us, ws, l1, l2 with | [_, _], [], _, _ => rfl) (fun r _ => r), kbn E17 (fun _ _ _ _ _ _ us ws l1 l2 => match us, ws, l1, l2 with | [_], [_], _, _ => rfl) (fun r r2 => r.append r2)⟩
  have II : ∀ j, j < 17 → Ini1 P w K mg base j "value" := fun j hj => match j, hj with
    | 0, _ => I0
    | 1, _ => I1
    | 2, _ => I2
    | 3, _ => I3
    | 4, _ => I4
    | 5, _ => I5
    | 6, _ => I6
    | 7, _ => I7
    | 8, _ => I8
    | 9, _ => I9
    | 10, _ => I10
    | 11, _ => I11
    | 12, _ => I12
    | 13, _ => I13
    | 14, _ => I14
    | 15, _ => I15
    | 16, _ => I16
    | n + 17, hn => absurd hn (by omega)
  have I18 : Ini2 P w K mg base := ⟨fe18, ok_Refused E18 T, kbn E18 (fun _ _ _ _ _ _ us ws l1 l2 => match us, ws, l1, l2 with | [_, _, _], [], _, _ => rfl) (fun r _ => r), kbn E18 (fun _ _ _ _ _ _ us ws l1 l2 => match us, ws, l1, l2 with | [_], [_, _], _, _ => rfl) (fun r r2 => r.append r2),
    kbn E18 (fun _ _ _ _ _ _ us ws l1 l2 => match us, ws, l1, l2 with | [_], [_, _], _, _ => rfl) (fun r r2 => r.append (vals_rev r2))⟩
  have I19 : Ini0 P w K mg base 19 := ⟨fe19, ok_Closed E19 T, kbn E19 (fun _ _ _ _ _ _ us ws l1 l2 => match us, ws, l1, l2 with | [_], [], _, _ => rfl) (fun r _ => r)⟩
  have I20 : Ini0 P w K mg base 20 := ⟨fe20, ok_NoServer E20 T, kbn E20 (fun _ _ _ _ _ _ us ws l1 l2 => match us, ws, l1, l2 with | [_], [], _, _ => rfl) (fun r _ => r)⟩
  exact ok_law Flaw T ⟨_, _, T.glo _ (by simp [glos]), F_law_pool.kp, F_law_pool.bindsN fun _ _ _ _ _ _ us hl => match us, hl with | [_, _], _ => rfl, ok_po F_law_pool T⟩
    ⟨_, _, T.glo _ (by simp [glos]), F_law_take.kp, F_law_take.bindsN fun _ _ _ _ _ _ us hl => match us, hl with | [_, _], _ => rfl, ok_tk F_law_take⟩
    ⟨_, _, T.glo _ (by simp [glos]), F_law_at.kp, F_law_at.bindsN fun _ _ _ _ _ _ us hl => match us, hl with | [_], _ => rfl, ok_at F_law_at T⟩
    ⟨_, _, T.glo _ (by simp [glos]), F_law_all_kinds.kp, F_law_all_kinds.bindsN fun _ _ _ _ _ _ us hl => match us, hl with | [_], _ => rfl, ok_ak F_law_all_kinds T F_law_value_kinds (T.glo _ (by simp [glos]))⟩
    ⟨_, _, T.glo _ (by simp [glos]), F_law_bases.kp, F_law_bases.bindsN fun _ _ _ _ _ _ us hl => match us, hl with | [_], _ => rfl, ok_ba F_law_bases T⟩
    ⟨_, _, T.glo _ (by simp [glos]), F_law_by_place.kp, F_law_by_place.bindsN fun _ _ _ _ _ _ us hl => match us, hl with | [_], _ => rfl, ok_bp F_law_by_place T II⟩
    ⟨_, _, T.glo _ (by simp [glos]), F_law_by_name.kp, F_law_by_name.bindsN fun _ _ _ _ _ _ us hl => match us, hl with | [_], _ => rfl, ok_bn F_law_by_name T II⟩
    I17 I18 I19 I20
end K02
open PySem PySem.W PySem.Calls PyProof.Rows
theorem PySem.Challenge.cw_maskededits_k02_exceptions_apart_holds : PySem.Challenge.rw_maskededits_k02_exceptions_apart.Holds := by
  w_on; o_law
  refine HandSHeadRun.head_any (r := OpenLaw.row PySem.Challenge.rw_maskededits_k02_exceptions_apart) (q := view (OpenLaw.row PySem.Challenge.rw_maskededits_k02_exceptions_apart).prog [32]) (H := K02.hk) (ob := K02.ob) (M := 8000) (loose := ["MaskError", "InvalidLevels", "InvalidLevel", "InvalidName", "InvalidNumber", "InvalidText", "InvalidScript", "InvalidQuery", "InvalidView", "InvalidMoment", "InvalidEdit", "NoFault", "NotSeen", "Refused", "BadRecords", "NoRight", "SameUser", "NoOffer", "InvalidRights", "InvalidLine", "Closed", "NoServer", "_law_pool", "_law_take", "_law_at", "_law_value_kinds", "_law_all_kinds", "_law_by_place", "_law_by_name", "_law_bases"]) (d := HandSHeadRun.topDef (OpenLaw.row PySem.Challenge.rw_maskededits_k02_exceptions_apart).prog 32) (kwd := []) K02.ob_eq
    (by kernel_rfl) (fun s => by kernel_rfl) K02.run (by kernel_rfl) (by kernel_rfl) (by kernel_rfl) (by rfl) (by first | assumption | decide +kernel) (by decide +kernel) ⟨rfl, rfl, rfl, rfl, rfl, by decide +kernel⟩ ?hw ?hc
  case hw => w_witness2
  case hc =>
    refine MeL.walk_ofGE (l := PySem.Challenge.rw_maskededits_k02_exceptions_apart) (n := 63) (k := 4) (x := "_law_script") (CX := fun _ => L2.CX0) rfl (by decide) (by kernel_rfl) ⟨rfl, by decide, by decide⟩ ?F (fun _ _ _ _ _ z => z)
    intro w mg fa h Y G hmg0
    obtain ⟨K, KX, c⟩ := Y
    have hmg : mg ("law" : PySem.Str) = some (.ref fa) := by
      have e : (HandSHeadRun.topDef (OpenLaw.row PySem.Challenge.rw_maskededits_k02_exceptions_apart).prog 32).name = ("law" : PySem.Str) := by kernel_rfl
      rw [← e]
      exact hmg0
    obtain ⟨fd, hb, hF⟩ := K02.facts (P := (PySem.Challenge.rw_maskededits_k02_exceptions_apart).prog) (w := w) KX G hmg c
    exact ⟨K, KX, fd, [], K02.spLaw K, ⟨(fun _ h => nomatch h), (fun _ h => nomatch h), (fun _ h => nomatch h)⟩, hb, fun H a ns hl _ _ hS => ⟨a, ns, rfl, hS, hl, fun _ => rfl⟩, fun base kin ns _ => hF base kin ns⟩
#print axioms PySem.Challenge.cw_maskededits_k02_exceptions_apart_holds
