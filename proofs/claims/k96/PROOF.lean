import PyProof.Rows.All
import Wide.All
import OpenK.AllK
import Wide.FinOn
import KE.KStateDown
import HandS.Base
import HandS.Call
import HandS.Exc
import HandS.ExcOwn
import HandS.Defaults
import KE.KExcSuper
import HandS.ExcSuper
import HandS.ExcInit
import HandS.ExcIs
import HandS.IsInst
import HandS.Words
import HandS.Head0
import HandS.Head1
import HandS.Head2
import HandS.HeadEnd
import HandS.HeadHook1
import HandS.HeadHook2
import HandS.List
import HandS.Comp
import HandS.Iter
import HandS.Text
import HandS.Wide
import HandS.WordsExc
import HandS.Deep
import HandS.DeepEq
import HandS.TryOnly
import HandS.TryMany
import KE.DataEq
import HandS.SetFor
import PySem.Challenge.RW_markedblocks_k96_errors_made
set_option Elab.async false
set_option linter.all false
set_option maxRecDepth 100000
set_option maxHeartbeats 4000000
/-! Own exception classes over a built-in one, whose __init__ says super().__init__(text) and stores its parameters. Part A: the making, at the library's level. -/
namespace PySem
namespace Er
open PySem.W PySem.Calls PyProof.Rows PySem.HandSPX
section
variable {M : Model} {A : Around} {E : Value → Shared → Prop} {h : Heap} {g : Array GenState} {d : Drawn} {t : Nat} {os : OsState}
variable {nm q : Str} {C N : Addr} {bs bm bmB : List Value} {hdct : Bool} {sn : List Str} {sub : List Value} {ab : Bool} {col : Option Bool} {dd : Option Addr} {k0 k1 k2 k3 k5 : Option Value} {B newId initId : String}

theorem check_new_kw (F : ExcBaseFacts B newId initId bmB) (hT : ∀ X : String, bm.contains (.type X) = bmB.contains (.type X)) {rest : List Value} {kw : List (Str × Value)} {Q : Unit → Shared → Prop}
    (hC : h.get? C = some (excClassObj nm q C N bs bm hdct sn sub ab col dd k0 k1 k2 k3 k5 newId)) (hq : Q () ⟨h, g, d, t, os⟩) : wpAny M A (checkBuiltinCall newId ⟨.ref C :: rest, kw⟩) Q E ⟨h, g, d, t, os⟩ := by
  have hcont : (Value.ref C :: bm).contains (.type B) = true := by rw [List.contains_cons, hT, F.hasB, Bool.or_true]
  have hstar := F.noStar
  simp only [checkBuiltinCall, F.newKind, F.newSplit, F.newRow]
  repeat (first | refine wpAny_loadPart_at hC ?_ | (refine wpAny_isSubtype_exc hC ?_; rw [hcont]) | refine wpAny_staticBase_exc hC ?_ | refine wpAny_madeBy_exc hC ?_ | simp only [bne_self_eq_false, Bool.false_eq_true, if_false] | wp_step)
  exact hq
theorem check_type_call_kw {rest : List Value} {kw : List (Str × Value)} {Q : Unit → Shared → Prop} (hC : h.get? C = some (excClassObj nm q C N bs bm hdct sn sub ab col dd k0 k1 k2 k3 k5 newId))
    (hq : Q () ⟨h, g, d, t, os⟩) : wpAny M A (checkBuiltinCall "type.__call__" ⟨.ref C :: rest, kw⟩) Q E ⟨h, g, d, t, os⟩ := by
  have f3 := tc_sub
  have hT : (⟨h, g, d, t, os⟩ : Shared).TypeIs (.ref C) "type" := ⟨_, hC, rfl⟩
  simp only [checkBuiltinCall, tc_kind, tc_split]
  repeat (any_goals (first | assumption | with_reducible refine wpAny_loadPart_at hC ?_ | with_reducible refine wpAny_onRaise ?_ | with_reducible refine wpAny_map ?_ | wp_step))
end
section
variable {prog : Program} {w : World} {A : Around} {E : Value → Shared → Prop} {R : Result → Shared → Prop} {h : Heap} {g : Array GenState} {d : Drawn} {t : Nat} {os : OsState}
variable {nm q : Str} {C N : Addr} {bs bm bmB : List Value} {hdct : Bool} {sn : List Str} {sub : List Value} {ab : Bool} {col : Option Bool} {dd : Option Addr} {k0 k1 k2 k3 k5 : Option Value} {B newId initId : String}

theorem new_kw (F : ExcBaseFacts B newId initId bmB) (hT : ∀ X : String, bm.contains (.type X) = bmB.contains (.type X)) {rest : List Value} {kw : List (Str × Value)}
    (hC : h.get? C = some (excClassObj nm q C N bs bm hdct sn sub ab col dd k0 k1 k2 k3 k5 newId))
    (hq : R (.ok (.ret (.ref (h.objs.size + 1)))) ⟨(h.push { cls := .type "tuple", data := .seq rest.toArray }).push
      { cls := .ref C, data := .fields #[.ref h.objs.size, .none, .none, .none, .bool false, .none] }, g, d, t, os⟩) (hrest : rest.length ≤ sizeLine) :
    codeAny (model prog w) A (.builtin newId ⟨.ref C :: rest, kw⟩) R ⟨h, g, d, t, os⟩ := by
  have hends := F.ends
  have hcB : (Value.ref C :: bm).contains (.type B) = true := by rw [List.contains_cons, hT, F.hasB, Bool.or_true]
  have hcA : (Value.ref C :: bm).contains (.type "AttributeError") = false := by rw [List.contains_cons, hT, F.noAttr]; rfl
  have hcN : (Value.ref C :: bm).contains (.type "NameError") = false := by rw [List.contains_cons, hT, F.noName]; rfl
  refine codeAny_builtinAt F.entry ?_
  unfold Builtin.«BaseException.__new__»
  refine wpAt_bind ?_
  show wpAt _ _ _ (stack >>= _) _ _ _
  refine wpAt_bind (wpAt_stack fun p below => wpAt_of_wpAny ?_)
  wp_walk
  refine wpAt_of_wpAny ?_
  rw [F.owner]
  repeat (first | with_reducible refine wpAny_madeHere_exc F.canon hC ?_ | with_reducible refine wpAny_loadPart_at hC ?_ | (with_reducible refine wpAny_isSubtype_exc hC ?_; first | rw [hcB] | rw [hcA] | rw [hcN]) | wp_step)
  show R _ _
  rw [Heap.size_push]
  exact hq

theorem type_call_kw (F : ExcBaseFacts B newId initId bmB) (hT : ∀ X : String, bm.contains (.type X) = bmB.contains (.type X)) {rest : List Value} {kw : List (Str × Value)} {fI : Addr} {Q : Fin → Shared → Prop}
    (hC : h.get? C = some (excClassObj nm q C N bs bm hdct sn sub ab col dd k0 k1 k2 k3 k5 newId))
    (hi : W.Looks (model prog w) h (typeLookup (.ref C) "__init__") (some (.ref fI))) (hb : ∀ self, W.Looks (model prog w) h (bindSpecial (.ref fI) self) (.ref fI, [self])) (hrest : rest.length ≤ sizeLine)
    (hq : codeAny (model prog w) A (.call (.ref fI) ⟨.ref (h.objs.size + 1) :: rest, kw⟩)
      (fun r s' => match r with | .ok (.ret v) => v = .none ∧ Q (.done (.ret (.ref (h.objs.size + 1)))) s' | .ok _ => False | .error e => E e s')
      ⟨(h.push (W.kdv_tup rest)).push (excO C h.objs.size), g, d, t, os⟩) :
    wpAny (model prog w) A (Builtin.«type.__call__» ⟨.ref C :: rest, kw⟩) Q E ⟨h, g, d, t, os⟩ := by
  repeat (first | with_reducible refine wpAny_loadPart_at hC ?_ | with_reducible refine wpAny_madeBy_exc hC ?_ | wp_step)
  refine codeAny_call_builtin_code (Code.quiet_builtin _ F.quiet) (check_new_kw F hT hC ?_)
  refine new_kw F hT hC ?_ hrest
  show wpAny _ _ _ _ _ _
  have k : ∀ b o, h.get? b = some o → ((h.push (W.kdv_tup rest)).push (excO C h.objs.size)).get? b = some o := fun b o e => Heap.get?_push_of_some _ (Heap.get?_push_of_some _ e)
  have hC₁ := k _ _ hC
  have hget : ((h.push (W.kdv_tup rest)).push (excO C h.objs.size)).get? (h.objs.size + 1) = some (excO C h.objs.size) := by heap_get
  have hcC : (Value.ref C :: bm).contains (.ref C) = true := by simp
  have i1 := hi.keeps k
  have b1 := (hb (.ref (h.objs.size + 1))).keeps k
  unfold isInstance
  repeat (first | with_reducible refine wpAny_loadPart_at hget ?_ | (with_reducible refine wpAny_isSubtype_exc hC₁ ?_; rw [hcC]) | wp_step)
  show wpAny _ _ (typeLookup (.ref C) _) _ _ _
  refine i1.at ?_
  refine wpAny_holding (wpAny_bind (b1.at ?_))
  refine wpAny_bind (wpAny_call (codeAny_mono hq fun r s' z => ?_))
  rcases r with e | (v | _ | _ | _) <;> first | exact z | exact z.elim | skip
  obtain ⟨rfl, z⟩ := z
  first
    | exact wpAny_pure (wpAny_pure z)
    | (wp_walk; exact z)

theorem call_kw (F : ExcBaseFacts B newId initId bmB) (hT : ∀ X : String, bm.contains (.type X) = bmB.contains (.type X)) {rest : List Value} {kw : List (Str × Value)} {fI : Addr}
    (hC : h.get? C = some (excClassObj nm q C N bs bm hdct sn sub ab col dd k0 k1 k2 k3 k5 newId))
    (hi : W.Looks (model prog w) h (typeLookup (.ref C) "__init__") (some (.ref fI))) (hb : ∀ self, W.Looks (model prog w) h (bindSpecial (.ref fI) self) (.ref fI, [self])) (hrest : rest.length ≤ sizeLine)
    (hq : codeAny (model prog w) (A.under (.builtin "type.__call__" ⟨.ref C :: rest, kw⟩)) (.call (.ref fI) ⟨.ref (h.objs.size + 1) :: rest, kw⟩) (W.InitBack (h.objs.size + 1) R)
      ⟨(h.push (W.kdv_tup rest)).push (excO C h.objs.size), g, d, t, os⟩) :
    codeAny (model prog w) A (.call (.ref C) ⟨rest, kw⟩) R ⟨h, g, d, t, os⟩ := by
  have f1 := tc_lookup
  have f2 := tc_bind (.ref C)
  have hTy : (⟨h, g, d, t, os⟩ : Shared).TypeIs (.ref C) "type" := ⟨_, hC, rfl⟩
  refine codeAny_of_tree ?_
  show wpAny _ _ (callAny (.ref C) _) _ _ _
  repeat (any_goals (first | assumption | with_reducible refine wpAny_loadPart_at hC ?_ | wp_step))
  refine ⟨rfl, ?_⟩
  refine codeAny_call_builtin_at (Code.quiet_builtin _ (by decide +kernel)) entry_typeCall (check_type_call_kw hC (type_call_kw F hT hC hi hb hrest ?_))
  refine codeAny_mono hq fun r s' z => ?_
  rcases r with e | (v | _ | _ | _) <;> exact z
end
end Er
end PySem

set_option Elab.async false
set_option linter.all false
set_option maxRecDepth 100000
set_option maxHeartbeats 4000000
/-! Part B: the body of such an __init__. -/
namespace PySem
namespace Er
open PySem.W PySem.Calls PyProof.Rows PySem.HandSPX
open Builtin Builtin.ObjectAttr

/-- self.f = f, one after another -/
inductive IsStores : List Stmt → List Str → Prop where
  | nil : IsStores [] []
  | cons {f : Str} {p1 p2 p3 p4 : Pos} {r : List Stmt} {fs : List Str} (h : IsStores r fs) : IsStores (.Assign [.Attribute (.Name "self" p1) f p2] (.Name f p3) p4 :: r) (f :: fs)

/-- what the written part says of the class -/
structure ErK (prog : Program) (K : Frag) (B newId initId : String) (bmB : List Value) (C : Addr) : Prop where
  init : excInitIn K C bmB newId = true
  over : excOver K C bmB = true
  hd : hasDictIn K C = true
  sa : findIn K (.ref C) "__setattr__" = some (some (.builtin "object.__setattr__"))
  kC : keepIn K (.ref C) = true

section
variable {prog : Program} {w : World} {A : Around} {E : Value → Shared → Prop} {s : Shared} {K : Frag} {B newId initId : String} {bmB : List Value} {C x : Addr}

/-- the first store: the dict is made -/
theorem set_new (SF : StoreFacts B bmB "object.__setattr__" "object") (T : ErK prog K B newId initId bmB C) {t0 : Addr} {f : Str} {v : Value} {Q : Unit → Shared → Prop} (X : K.In s.heap) (hx : s.heap.get? x = some (excO C t0)) (hno : findIn K (.ref C) f = some none)
    (hq : ∀ h' tk dx, (∀ b o, b ≠ x → s.heap.get? b = some o → h'.get? b = some o) → s.heap.objs.size ≤ dx → dx ≠ x → h'.get? x = some { cls := .ref C, dict := some dx, data := .fields #[.ref t0, .none, .none, .none, .bool false, .none] } →
      h'.Ns1 dx (fun y => if y = f then some v else none) → Q () { s with heap := h', toks := tk }) : wpAny (model prog w) A (setAttr (.ref x) f v) Q E s := by
  have ht : takerIn K C f = some none := by unfold takerIn; rw [hno]; rfl
  obtain ⟨hp, g, d, t, os⟩ := s
  have hxs : x ≠ hp.objs.size := Nat.ne_of_lt (Heap.lt_size hx)
  refine W.set_plain X (ox := excO C t0) (od := none) ⟨hx, rfl, rfl, trivial⟩ T.sa ?_
  refine osa_openX (od := none) SF X ⟨hx, rfl, rfl, trivial⟩ T.over ht fun b => ?_
  obtain ⟨cd, hc, hd'⟩ := any_some T.hd
  have hcls : W.Looks (model prog w) hp (classData C) cd := W.looks_clsIn X hc
  obtain ⟨nm, bs, mro, ns, qn, hd, sn, sb, ab, col, del⟩ := cd
  dsimp only at hd'
  subst hd'
  show wpAny _ _ (storeInOwnDict (.ref x) (.ref C) (.str f t) f v b) _ _ _
  unfold storeInOwnDict ownDictForStores
  repeat (first | with_reducible refine store_in_new ?_ ?_ | with_reducible refine wpAny_loadPart_at hx ?_ | with_reducible refine hcls.at ?_ | wp_step)
  · exact ⟨_, #[], _, (Heap.get?_update_ne _ _ _ _ hxs.symm).trans (Heap.get?_push_at rfl rfl), rfl, fun e he => absurd he (by simp), fun _ => rfl⟩
  · intro h' tk' hn' hs
    have hx₁ : (hp.push { cls := .type "dict", data := .dict #[] }).get? x = some (excO C t0) := Heap.get?_push_of_some _ hx
    refine hq h' tk' hp.objs.size (fun b o hb ho => ?_) (Nat.le_refl _) hxs.symm ?_ hn'
    · exact (hs.2 b (Nat.ne_of_lt (Heap.lt_size ho))).trans ((Heap.get?_update_ne _ _ _ _ hb).trans (Heap.get?_push_of_some _ ho))
    · exact (hs.2 x hxs).trans (Heap.get?_update_self _ hx₁ rfl)
/-- a further store -/
theorem set_old (SF : StoreFacts B bmB "object.__setattr__" "object") (T : ErK prog K B newId initId bmB C) {dx : Addr} {fv : Array Value} {f : Str} {v : Value} {m0 : Str → Option Value} {nl : List Str} {Q : Unit → Shared → Prop} (X : K.In s.heap)
    (hx : s.heap.get? x = some { cls := .ref C, dict := some dx, data := .fields fv }) (hns : s.heap.Ns1 dx m0) (hw : Within m0 nl) (hz : nl.length ≤ 1000) (hno : findIn K (.ref C) f = some none)
    (hq : ∀ h' tk, (∀ b o, b ≠ dx → s.heap.get? b = some o → h'.get? b = some o) → h'.Ns1 dx (fun y => if y = f then some v else m0 y) → Q () { s with heap := h', toks := tk }) : wpAny (model prog w) A (setAttr (.ref x) f v) Q E s := by
  have ht : takerIn K C f = some none := by unfold takerIn; rw [hno]; rfl
  obtain ⟨hp, g, d, t, os⟩ := s
  obtain ⟨oD, esD, epD, hoD, hdD, _⟩ := hns.count hw
  have I : W.InstAt hp x { cls := .ref C, dict := some dx, data := .fields fv } C (some oD) := ⟨hx, rfl, rfl, hoD⟩
  refine W.set_plain X I T.sa ?_
  refine osa_openX (od := some oD) SF X I T.over ht fun b => ?_
  obtain ⟨cd, hc, hd'⟩ := any_some T.hd
  have hcls : W.Looks (model prog w) hp (classData C) cd := W.looks_clsIn X hc
  obtain ⟨nm, bs, mro, ns, qn, hd, sn, sb, ab, col, del⟩ := cd
  dsimp only at hd'
  subst hd'
  show wpAny _ _ (storeInOwnDict (.ref x) (.ref C) (.str f t) f v b) _ _ _
  unfold storeInOwnDict ownDictForStores
  repeat (first | with_reducible refine ESX.store_in_old hns hw hz ?_ | with_reducible refine wpAny_loadPart_at hx ?_ | with_reducible refine hcls.at ?_ | wp_step)
  intro h' tk' hn' hs
  exact hq h' tk' (fun b o hb ho => (hs.2 b hb).trans ho) hn'

/-- the map of the stored names -/
def storedM (m : Str → Option Value) : List Str → (Str → Option Value) → (Str → Option Value)
  | [], m0 => m0
  | f :: fs, m0 => storedM m fs (fun y => if y = f then m f else m0 y)
theorem stores_old (SF : StoreFacts B bmB "object.__setattr__" "object") (T : ErK prog K B newId initId bmB C) {env : Env} {m : Str → Option Value} {dx : Addr} {fv : Array Value}
    (hk : env.scope.kind = .function) (hself : env.kindOf "self" = some .local) (mself : m "self" = some (.ref x)) :
    ∀ {body : List Stmt} {fs : List Str} {nl : List Str} {s : Shared} {m0 : Str → Option Value} {Q : Flow → Shared → Prop}, IsStores body fs → (∀ f ∈ fs, env.kindOf f = some .local ∧ (∃ v, m f = some v) ∧ findIn K (.ref C) f = some none ∧ (f == ("__debug__" : Str)) = false) →
      K.In s.heap → s.heap.Ns env.locals m → env.locals ≠ dx → s.heap.get? x = some { cls := .ref C, dict := some dx, data := .fields fv } → x ≠ dx → s.heap.Ns1 dx m0 → Within m0 nl → nl.length + fs.length ≤ 1000 →
      (∀ b o, K.lookup b = some o → b ≠ dx) →
      (∀ h' tk, (∀ b o, b ≠ dx → s.heap.get? b = some o → h'.get? b = some o) → h'.Ns1 dx (storedM m fs m0) → Q .next { s with heap := h', toks := tk }) →
      wpAny (model prog w) A (execs body env) Q E s := by
  intro body fs nl s m0 Q hb
  induction hb generalizing nl s m0 Q with
  | nil =>
    intro hf X hn hne hx hxd hns hw hz hK hq
    exact wpAny_execs_nil (hq s.heap s.toks (fun _ _ _ e => e) hns)
  | @cons f p1 p2 p3 p4 r fs hb ih =>
    intro hf X hn hne hx hxd hns hw hz hK hq
    obtain ⟨k1, ⟨v, hv⟩, hno, hdb⟩ := hf f List.mem_cons_self
    refine wpAny_execs_cons (plainObj_wpAny_Assign_Attribute ?_)
    refine wpAny_Name (wpAny_loadName_local hk k1 hn hv ?_) hdb
    refine wpAny_Name (wpAny_loadName_local hk hself hn mself ?_)
    refine set_old SF T X hx hns hw (by rw [List.length_cons] at hz; omega) hno fun h' tk k hn' => ?_
    have X' : K.In h' := fun b o e => k b o (hK b o e) (X b o e)
    refine ih (nl := f :: nl) (fun g hg => hf g (List.mem_cons_of_mem _ hg)) X' ?_ hne (k _ _ hxd hx) hxd hn' (Within.cons f v hw) (by rw [List.length_cons] at hz ⊢; omega) hK fun h2 tk2 k2 hn2 => ?_
    · obtain ⟨o, es, ep, ho, r'⟩ := hn
      exact ⟨o, es, ep, k _ _ hne ho, r'⟩
    · refine hq h2 tk2 (fun b o hb e => k2 b o hb (k b o hb e)) ?_
      have e : (fun y => if y = f then some v else m0 y) = (fun y => if y = f then m f else m0 y) := by rw [hv]
      rw [e] at hn2
      exact hn2
/-- all of them, from an exception that has no dict -/
theorem stores_new (SF : StoreFacts B bmB "object.__setattr__" "object") (T : ErK prog K B newId initId bmB C) {env : Env} {m : Str → Option Value} {t0 : Addr}
    (hk : env.scope.kind = .function) (hself : env.kindOf "self" = some .local) (mself : m "self" = some (.ref x)) {body : List Stmt} {f : Str} {fs : List Str} {Q : Flow → Shared → Prop} (hb : IsStores body (f :: fs))
    (hf : ∀ g ∈ f :: fs, env.kindOf g = some .local ∧ (∃ v, m g = some v) ∧ findIn K (.ref C) g = some none ∧ (g == ("__debug__" : Str)) = false)
    (X : K.In s.heap) (hn : s.heap.Ns env.locals m) (hx : s.heap.get? x = some (excO C t0)) (hKx : ∀ o, K.lookup x ≠ some o) (hz : fs.length ≤ 900) (hLx : env.locals ≠ x)
    (hq : ∀ h' tk dx, (∀ b o, b ≠ x → s.heap.get? b = some o → h'.get? b = some o) → s.heap.objs.size ≤ dx → dx ≠ x → h'.get? x = some { cls := .ref C, dict := some dx, data := .fields #[.ref t0, .none, .none, .none, .bool false, .none] } →
      h'.Ns1 dx (storedM m (f :: fs) fun _ => none) → Q .next { s with heap := h', toks := tk }) :
    wpAny (model prog w) A (execs body env) Q E s := by
  cases hb with
  | cons hb =>
    obtain ⟨k1, ⟨v, hv⟩, hno, hdb⟩ := hf f List.mem_cons_self
    refine wpAny_execs_cons (plainObj_wpAny_Assign_Attribute ?_)
    refine wpAny_Name (wpAny_loadName_local hk k1 hn hv ?_) hdb
    refine wpAny_Name (wpAny_loadName_local hk hself hn mself ?_)
    refine set_new SF T X hx hno fun h' tk dx k hd hne hx' hn' => ?_
    have lt : ∀ {b : Addr} {o : Obj}, s.heap.get? b = some o → b ≠ dx := fun {b o} e => Nat.ne_of_lt (Nat.lt_of_lt_of_le (Heap.lt_size e) hd)
    have hKb : ∀ b o, K.lookup b = some o → b ≠ x := fun b o e z => hKx o (by rw [← z]; exact e)
    have X' : K.In h' := fun b o e => k b o (hKb b o e) (X b o e)
    refine stores_old (nl := [f]) SF T hk hself mself hb (fun g hg => hf g (List.mem_cons_of_mem _ hg)) X' ?_ (by
      obtain ⟨o, es, ep, ho, r'⟩ := hn
      exact lt ho) hx' (Ne.symm hne) hn' (Within.cons f v Within.nil) (by rw [List.length_cons, List.length_nil]; omega) (fun b o e => lt (X b o e)) fun h2 tk2 k2 hn2 => ?_
    · obtain ⟨o, es, ep, ho, r'⟩ := hn
      exact ⟨o, es, ep, k _ _ hLx ho, r'⟩
    · refine hq h2 tk2 dx (fun b o hb e => k2 b o (lt e) (k b o hb e)) hd hne (k2 _ _ (Ne.symm hne) hx') ?_
      have e : (fun y => if y = f then some v else none) = (fun y => if y = f then m f else (none : Option Value)) := by rw [hv]
      rw [e] at hn2
      exact hn2
end
end Er
end PySem

set_option Elab.async false
set_option linter.all false
set_option maxRecDepth 100000
set_option maxHeartbeats 4000000
/-! Part C: the whole __init__, the whole making. -/
namespace PySem
namespace Er
open PySem.W PySem.Calls PyProof.Rows PySem.HandSPX
section
variable {prog : Program} {w : World} {A : Around} {E : Value → Shared → Prop} {h : Heap} {g : Array GenState} {d : Drawn} {t : Nat} {os : OsState}
variable {nm q : Str} {C N : Addr} {bs bm bmB : List Value} {hdct : Bool} {sn : List Str} {sub : List Value} {ab : Bool} {col : Option Bool} {dd : Option Addr} {k0 k1 k2 k3 k5 : Option Value} {B newId initId : String}
theorem bw_call (F : ExcBaseFacts B newId initId bmB) {u e t0 : Addr} {rest : List Value} {Q : Value → Shared → Prop}
    (hC : h.get? C = some (excClassObj nm q C N bs bm hdct sn sub ab col dd k0 k1 k2 k3 k5 newId)) (he : h.get? e = some (excO C t0)) (hu : h.get? u = some (kxs_mw initId e)) (hrest : rest.length ≤ sizeLine)
    (hq : ∀ h' t1, (∀ b o, b ≠ e → h.get? b = some o → h'.get? b = some o) → h'.get? e = some (excO C t1) → Q .none ⟨h', g, d, t, os⟩) :
    wpAny (model prog w) A (call (.ref u) rest) Q E ⟨h, g, d, t, os⟩ := by
  refine wpAny_call (codeAny_of_tree ?_)
  show wpAny _ A.in1 (callAny (.ref u) ⟨rest, []⟩) _ _ _
  simp only [callAny]
  refine wpAny_bind (wpAny_load hu ?_)
  simp only [kxs_mw, show (Value.type "method-wrapper" == Value.type "method" || Value.type "method-wrapper" == Value.type "builtin_function_or_method" || Value.type "method-wrapper" == Value.type "method-wrapper") = true by decide, if_true]
  refine W.KFB.if_so (by decide) ?_
  refine wpAny_bind (check_bound_init F.toExcCallFacts hC he rfl ?_)
  refine wpAny_bind (wpAny_pure (wpAny_pure ?_))
  refine ⟨plainId_quiet F.init.plain _, codeAny_builtin F.initEntry ?_⟩
  rw [Around.under_plainId F.init.plain _]
  wp_walk
  refine hq _ h.objs.size (fun b o hb ho => ?_) ?_
  · rw [Heap.get?_update_other _ _ (Ne.symm hb)]
    exact Heap.get?_push_of_some _ ho
  · rw [Heap.get?_update_self _ (Heap.get?_push_of_some _ he) rfl]
    rfl
end

/-- the __init__ of such a class, as it stands in the written part -/
structure ErI (prog : Program) (K : Frag) (initId : String) (C fI : Addr) (ps : List Str) (fd : FuncData) : Prop where
  ex : ∃ (qual : Str) (params : Arguments) (body : List Stmt) (scope : Scope) (dV kV doc pm : Value) (an : Option Addr) (cda : Addr) (ct : Value) (cc : Addr) (oc : Value) (od : Option Addr) (osl : Array (Option Value)) (stores : List Stmt) (msg : Str) (j : Nat) (p0 p1 p2 p3 p4 p5 : Pos) (ap : Pos) (an2 : Option Expr) (rest : List Arg),
    fd = ksFn "__init__" qual params body scope dV kV doc pm an (.ref cda) ct cc ∧ K.lookup fI = some ⟨oc, od, .func fd, osl⟩ ∧ codeIn K (.ref cda) qual = true ∧
    body = .Expr (.Call (.Attribute (.Call (.Name "super" p0) [] [] p1) "__init__" p2) [.Constant (.str msg) j p3] [] p4) p5 :: stores ∧ IsStores stores ps ∧
    params.posonlyargs ++ params.args = ⟨"self", an2, ap⟩ :: rest ∧
    scope.kind = .function ∧ scope.isCoroutine = false ∧ scope.isGenerator = false ∧ scope.names.lookup ("super" : Str) = some .globalImplicit ∧ scope.names.lookup ("__class__" : Str) = some .free ∧ scope.names.lookup ("self" : Str) = some .local ∧
    (∀ x ∈ scope.names, x.2 ≠ .cell) ∧ (∀ p ∈ ps, scope.names.lookup p = some .local ∧ findIn K (.ref C) p = some none ∧ (p == ("__debug__" : Str)) = false) ∧
    (∃ (ccl : Value) (cdd : Option Addr) (vs : Array Value) (ccs : Array (Option Value)) (file : Str) (tf : Tok), K.lookup cda = some ⟨ccl, cdd, .fields vs, ccs⟩ ∧ vs[2]? = some (.str file tf) ∧ ((prog.main.file : Str) == file) = true) ∧
    (∃ (cl : Value) (cld : Option Addr) (csl : Array (Option Value)), K.lookup cc = some ⟨cl, cld, .cell (some (.ref C)), csl⟩) ∧
    mroIn K C (.ref C) = some true ∧ ks_superIn K C C "__init__" = some (some (.builtin initId)) ∧ nsIn K cStatics "thirdparty.any" = some none ∧ nsIn K mainGlobals "super" = some none ∧
    (∀ L : Addr, ∃ pl : Sem Bool, eval (.Call (.Attribute (.Call (.Name "super" p0) [] [] p1) "__init__" p2) [.Constant (.str msg) j p3] [] p4) (ksEnv qual scope L fI (.ref cda) cc) = (do
      let ov ← attributeBase (.Call (.Name "super" p0) [] [] p1) "__init__" (ksEnv qual scope L fI (.ref cda) cc) (eval (.Call (.Name "super" p0) [] [] p1) (ksEnv qual scope L fI (.ref cda) cc))
      standAt p2.atName
      let (f, first) ← holding [ov] (getMethod ov "__init__" pl)
      callWith p4 f first (backTo p4 (starEach [.Constant (.str msg) j p3] (ksEnv qual scope L fI (.ref cda) cc))) [])) ∧
    (∀ L : Addr, interactive (ksEnv qual scope L fI (.ref cda) cc) = false ∧ swapsWith (.Call (.Attribute (.Call (.Name "super" p0) [] [] p1) "__init__" p2) [.Constant (.str msg) j p3] [] p4) none p5.line (ksEnv qual scope L fI (.ref cda) cc) = pure false)
  nd : (("self" : Str) :: ps).Nodup
  ne : ps ≠ []
  few : ps.length ≤ 900

section
variable {prog : Program} {w : World} {A : Around} {K : Frag} {B newId initId : String} {bmB : List Value} {C x fI : Addr} {ps : List Str} {fd : FuncData} {hp : Heap} {g : Array GenState} {d : Drawn} {t : Nat} {os : OsState} {R : Result → Shared → Prop}
theorem lookup_rev_zip {ps : List Str} {us : List Value} (nd : ps.Nodup) {i : Nat} {p : Str} {u : Value} (hp : ps[i]? = some p) (hu : us[i]? = some u) : (ps.zip us).reverse.lookup p = some u := by
  induction ps generalizing us i with
  | nil => simp at hp
  | cons a ps ih =>
    cases us with
    | nil => simp at hu
    | cons v us =>
      rw [List.zip_cons_cons, List.reverse_cons, List.lookup_append]
      cases i with
      | zero =>
        have e1 : a = p := by simpa using hp
        have e2 : v = u := by simpa using hu
        subst e1 e2
        have no : ((ps.zip us).reverse).lookup a = none := by
          rw [List.lookup_eq_none_iff]
          intro z hz
          have hm := List.of_mem_zip (List.mem_reverse.mp hz)
          have nm := (List.nodup_cons.mp nd).1
          simp only [beq_eq_false_iff_ne, bne_iff_ne, ne_eq, beq_iff_eq, Bool.not_eq_true]
          first
            | exact fun e => nm (by rw [e]; exact hm.1)
            | exact beq_eq_false_iff_ne.mpr fun e => nm (by rw [e]; exact hm.1)
        rw [no]
        simp [List.lookup]
      | succ i =>
        rw [ih (List.nodup_cons.mp nd).2 (by simpa using hp) (by simpa using hu)]
        rfl

/-- the body: what it leaves -/
theorem er_init (FB : ExcBaseFacts B newId initId bmB) (KF : KxsFacts B initId) (SF : StoreFacts B bmB "object.__setattr__" "object") (T : ErK prog K B newId initId bmB C) (TI : ErI prog K initId C fI ps fd) (hB : subIn K (.ref C) (.type B) = some true)
    (htop : (prog.main.scope.names.lookup ("super" : Str)).isSome = false) {mg mb : Str → Option Value} (X : K.In hp) (hG : hp.Ns mainGlobals mg) (hBl : hp.Ns builtinsNs mb) (hmb : mb "super" = some (.type "super")) (hlim : hp.NoLimit)
    {t0 : Addr} (hx : hp.get? x = some (excO C t0)) (hKx : ∀ o, K.lookup x ≠ some o) (hroom : A.depth < recursionLimit) {us : List Value} {args : Args} (hl : us.length = ps.length) (hbind : BindsTo ⟨hp, g, d, t, os⟩ fd args ((("self" : Str) :: ps).zip (.ref x :: us)))
    (hq : ∀ h' tk dx t1, (∀ b o, b ≠ x → hp.get? b = some o → h'.get? b = some o) → hp.objs.size ≤ dx → dx ≠ x → h'.get? x = some { cls := .ref C, dict := some dx, data := .fields #[.ref t1, .none, .none, .none, .bool false, .none] } →
      h'.Ns1 dx (storedM (fun y => ((("self" : Str) :: ps).zip (Value.ref x :: us)).reverse.lookup y) ps fun _ => none) → R (.ok (.ret .none)) ⟨h', g, d, tk, os⟩) :
    codeAny (model prog w) A (.call (.ref fI) args) R ⟨hp, g, d, t, os⟩ := by
  obtain ⟨nm, N', qn, bs, bm, hdct, sn, sub, ab, col, dd, k0, k1, k2, k3, k5, hC, hT⟩ := excInit_of X T.init
  obtain ⟨qual, params, body, scope, dV, kV, doc, pm, an, cda, ct, cc, oc, od, osl, stores, msg, j, p0, p1, p2, p3, p4, p5, ap, an2, rest, rfl, lk, hcd, rfl, hst, hpar, hk, hco, hgen, hks, hkc, hself, hcell, hps, ⟨ccl, cdd, vs, ccs, file, tf, lcd, hvs, hfile⟩, ⟨cl, cld, csl, lcc⟩, hsub, hsup, hthird, hsuper, hev, hsw⟩ := TI.ex
  have hI : W.InstAt hp x (excO C t0) C none := ⟨hx, rfl, rfl, trivial⟩
  have mself : ((("self" : Str) :: ps).zip (Value.ref x :: us)).reverse.lookup ("self" : Str) = some (.ref x) := lookup_rev_zip (i := 0) TI.nd rfl rfl
  refine ks_codeAny_call_defAt (fd := ksFn "__init__" qual params _ scope dV kV doc pm an (.ref cda) ct cc) (binds := (("self" : Str) :: ps).zip (.ref x :: us)) hroom (X _ _ lk) rfl hlim (codeRec_of X hcd) rfl hbind hcell (fun y hy => ?_) (fun h₁ hns hk₁ => ?_) hco hgen hk
  · rcases List.mem_cons.mp (List.of_mem_zip hy).1 with e | e
    · rw [e]; exact hself
    · exact (hps _ e).1
  · have X₁ : K.In h₁ := X.keeps hk₁
    have hx₁ := hk₁ _ _ hx
    have hC₁ := hk₁ _ _ hC
    obtain ⟨pl, hpl⟩ := hev hp.objs.size
    refine ks_wpAt_execs_cons (ks_wpAt_Expr_any (ks_wpAt_MethodCall (pl := pl) ?_ hpl) (hsw _).1 (hsw _).2)
    have hlk : ∃ cdD, clsIn K C = some cdD := by
      cases e : clsIn K C with
      | some cd => exact ⟨cd, rfl⟩
      | none => unfold mroIn at hsub; rw [e] at hsub; cases hsub
    obtain ⟨cdD, hcl⟩ := hlk
    obtain ⟨oD, hD1, hD2⟩ : ∃ oD, h₁.get? C = some oD ∧ oD.data = .cls cdD := by
      unfold clsIn at hcl
      split at hcl
      · rename_i c d cd' sl ho
        cases hcl
        exact ⟨_, X₁ _ _ ho, rfl⟩
      · cases hcl
    have hG₁ : h₁.Ns mainGlobals mg := hG.keeps hk₁
    have hB₁ : h₁.Ns builtinsNs mb := hBl.keeps hk₁
    refine ks_wpAt_super_base (env := ksEnv qual scope hp.objs.size fI (.ref cda) cc) hks hkc rfl rfl (X₁ _ _ lk) rfl (by show (params.posonlyargs ++ params.args).head? = some _; rw [hpar]; rfl) rfl (X₁ _ _ lcd) rfl hvs hfile htop ?_
    refine ks_loadName_global hk hks (loadGlobal_builtin (env := ksEnv qual scope hp.objs.size fI (.ref cda) cc) hG₁ (mg_none_of X hG hsuper) hB₁ hmb ⟨rfl, ?_⟩)
    refine wpAny_loadName_free hk hkc rfl ⟨_, X₁ _ _ lcc, rfl⟩ ?_
    refine wpAny_loadName_local hk hself hns mself ?_
    refine ks_wpAny_isType_cls hD1 hD2 ⟨rfl, ?_⟩
    refine ks_wpAny_call_super hD1 hD2 hx₁ rfl (fun c e => by cases e) (looks_mroIn X₁ hsub) (fun h₂ hso hk₂ => ?_)
    have X₂ : K.In h₂ := X₁.keeps hk₂
    have hx₂ := hk₂ _ _ hx₁
    have hI₂ : W.InstAt h₂ x (excO C t0) C none := ⟨hx₂, rfl, rfl, trivial⟩
    have hsup' : alongIn K "__init__" ((cdD.mro.dropWhile (· != .ref C)).drop 1) = some (some (.builtin initId)) := by
      unfold ks_superIn at hsup
      rw [hcl] at hsup
      exact hsup
    refine kxs_getMethod KF hso (looks_opaque X₂ hthird) (l₀ := cdD.mro) ?_ rfl X₂ hsup' (hI₂.type.andThen (looks_subIn X₂ hB)) (ks_ne X₂ hI₂ hcl) (by decide) ?_
    · exact fun A Q E s k q => wpAny_bind ((looks_clsIn X₂ hcl) A _ E s k (wpAny_pure q))
    have hu : (h₂.push (kxs_mw initId x)).get? h₂.objs.size = some (kxs_mw initId x) := Heap.get?_push_at rfl rfl
    refine kxs_callWith (i := initId) (x := x) rfl (evalArgs_plain ?_)
    show wpAny _ _ (spliced ((false, eval (.Constant (.str msg) j p3) (ksEnv qual scope hp.objs.size fI (.ref cda) cc)) :: [])) _ _ _
    refine Calls.spliced_cons (Calls.Constant_str (Calls.spliced_nil ⟨hu, ?_⟩))
    have k3 : ∀ b o, h₁.get? b = some o → (h₂.push (kxs_mw initId x)).get? b = some o := fun b o e => Heap.get?_push_of_some _ (hk₂ _ _ e)
    refine bw_call FB (k3 _ _ hC₁) (k3 _ _ hx₁) hu (by show 1 ≤ sizeLine; rw [sizeLine_eq]; decide) fun h₄ t1 k4 hx4 => ?_
    refine wpAt_of_wpAny ?_
    have k5 : ∀ b o, b ≠ x → h₁.get? b = some o → h₄.get? b = some o := fun b o hb e => k4 b o hb (k3 b o e)
    have X4 : K.In h₄ := fun b o e => k5 b o (fun z => hKx o (by rw [← z]; exact e)) (X₁ b o e)
    have hLx : hp.objs.size ≠ x := Nat.ne_of_gt (Heap.lt_size hx)
    have hns4 : h₄.Ns hp.objs.size (fun y => ((("self" : Str) :: ps).zip (Value.ref x :: us)).reverse.lookup y) := by
      obtain ⟨o, es, ep, ho, r'⟩ := hns
      exact ⟨o, es, ep, k5 _ _ hLx ho, r'⟩
    have kp : ∀ b o, b ≠ x → hp.get? b = some o → h₄.get? b = some o := fun b o hb e => k5 b o hb (hk₁ b o e)
    have szs : hp.objs.size ≤ h₄.objs.size := by
      obtain ⟨o, es, ep, ho, r'⟩ := hns4
      exact Nat.le_of_lt (Heap.lt_size ho)
    cases ps with
    | nil => exact absurd rfl TI.ne
    | cons f fs =>
      have hf : ∀ g' ∈ f :: fs, (ksEnv qual scope hp.objs.size fI (.ref cda) cc).kindOf g' = some .local ∧ (∃ v, ((("self" : Str) :: f :: fs).zip (Value.ref x :: us)).reverse.lookup g' = some v) ∧ findIn K (.ref C) g' = some none ∧ (g' == ("__debug__" : Str)) = false := fun g' hg' => by
        obtain ⟨q1, q2, q3⟩ := hps g' hg'
        obtain ⟨i, hi, e⟩ := List.mem_iff_getElem.mp hg'
        refine ⟨q1, ⟨us[i]'(by rw [hl]; exact hi), lookup_rev_zip (i := i + 1) TI.nd ?_ ?_⟩, q2, q3⟩
        · rw [List.getElem?_cons_succ, List.getElem?_eq_getElem hi, e]
        · rw [List.getElem?_cons_succ, List.getElem?_eq_getElem (by rw [hl]; exact hi)]
      refine wpAny_mono (stores_new (env := ksEnv qual scope hp.objs.size fI (.ref cda) cc) (m := fun y => ((("self" : Str) :: f :: fs).zip (Value.ref x :: us)).reverse.lookup y) (E := fun _ _ => False)
        (Q := fun fl s' => fl = .next ∧ R (.ok (.ret .none)) s') SF T hk hself mself hst hf X4 hns4 hx4 hKx (by have := TI.few; rw [List.length_cons] at this; omega) hLx
        (fun h' tk dx k6 hd hne hx6 hn6 => ⟨rfl, ?_⟩)) (fun fl s' z => ?_) (fun _ _ z => z.elim)
      · exact hq h' tk dx t1 (fun b o hb e => k6 b o hb (kp b o hb e)) (Nat.le_trans szs hd) hne hx6 hn6
      · obtain ⟨rfl, z⟩ := z
        exact z
end
end Er
end PySem

set_option Elab.async false
set_option linter.all false
set_option maxRecDepth 100000
set_option maxHeartbeats 4000000
/-! Part D: the rules of the hand layer. -/
namespace L2
open PySem PySem.Spec PyProof.Rows

/-- the whole of an own error class: at C, over the built-in B, its __init__ at fI with the parameters ps -/
structure ErT (P : Program) (K : PySem.W.Frag) (C fI : Addr) (fd : FuncData) (ps : List Str) : Prop where
  ex : ∃ (B newId initId : String) (bmB : List Value), ExcBaseFacts B newId initId bmB ∧ PySem.W.KxsFacts B initId ∧ StoreFacts B bmB "object.__setattr__" "object" ∧ Er.ErK P K B newId initId bmB C ∧ Er.ErI P K initId C fI ps fd ∧ PySem.W.subIn K (.ref C) (.type B) = some true
  htop : (P.main.scope.names.lookup ("super" : Str)).isSome = false
  iC : PySem.W.findIn K (.ref C) "__init__" = some (some (.ref fI))
  tI : PySem.W.isFn K (.ref fI) = true
  kC : PySem.W.keepIn K (.ref C) = true
  exC : PySem.W.subIn K (.ref C) (.type "BaseException") = some true
  tyC : PySem.W.typeIn K (.ref C) = some (.type "type")
  isC : ExcC K C

/-- how a call of the class binds: n values and keywords named ks; g puts them in the parameters' order -/
structure ErBind (K : PySem.W.Frag) (fd : FuncData) (ps : List Str) (n : Nat) (ks : List Str) (g : List Value → List Value → List Value) (gV : List V → List V → List V) : Prop where
  to : ∀ (s : Shared) (self : Value) (us ws : List Value), K.In s.heap → us.length = n → ws.length = ks.length → (g us ws).length = ps.length ∧ BindsTo s fd ⟨self :: us, ks.zip ws⟩ ((("self" : Str) :: ps).zip (self :: g us ws))
  rel : ∀ {vs : List V} {us : List Value} {zs : List V} {ws : List Value}, Vals vs us → Vals zs ws → Vals (gV vs zs) (g us ws)

/-- the map of the stores is what the pairs say -/
theorem stored_some {m : Str → Option Value} : ∀ {ps : List Str} {m0 : Str → Option Value} {y : Str}, y ∈ ps → ps.Nodup → Er.storedM m ps m0 y = m y ∨ False
  | [], _, _, h, _ => by cases h
  | f :: fs, m0, y, h, nd => by
    left
    have key : ∀ {fs : List Str} {m0 : Str → Option Value}, y ∉ fs → Er.storedM m fs m0 y = m0 y := by
      intro fs
      induction fs with
      | nil => intro m0 _; rfl
      | cons g gs ih =>
        intro m0 hn
        show Er.storedM m gs (fun z => if z = g then m g else m0 z) y = m0 y
        rw [ih fun z => hn (List.mem_cons_of_mem _ z)]
        exact if_neg fun e => hn (by rw [e]; exact List.mem_cons_self)
    show Er.storedM m fs (fun z => if z = f then m f else m0 z) y = m y
    by_cases hf : y ∈ fs
    · rcases stored_some (m0 := fun z => if z = f then m f else m0 z) hf (List.nodup_cons.mp nd).2 with e | e
      · exact e
      · exact e.elim
    · rw [key hf]
      rcases List.mem_cons.mp h with e | e
      · subst e; exact if_pos rfl
      · exact absurd e hf
theorem stored_none {m : Str → Option Value} {y : Str} : ∀ {ps : List Str} {m0 : Str → Option Value}, y ∉ ps → Er.storedM m ps m0 y = m0 y := by
  intro fs
  induction fs with
  | nil => intro m0 _; rfl
  | cons g gs ih =>
    intro m0 hn
    show Er.storedM m gs (fun z => if z = g then m g else m0 z) y = m0 y
    rw [ih fun z => hn (List.mem_cons_of_mem _ z)]
    exact if_neg fun e => hn (by rw [e]; exact List.mem_cons_self)
theorem lookup_zip_some {β : Type} {ps : List Str} {vs : List β} (nd : ps.Nodup) {i : Nat} {p : Str} {v : β} (hp : ps[i]? = some p) (hv : vs[i]? = some v) : (ps.zip vs).lookup p = some v := by
  induction ps generalizing vs i with
  | nil => simp at hp
  | cons a ps ih =>
    cases vs with
    | nil => simp at hv
    | cons b vs =>
      rw [List.zip_cons_cons]
      cases i with
      | zero =>
        have e1 : a = p := by simpa using hp
        have e2 : b = v := by simpa using hv
        subst e1 e2
        simp [List.lookup]
      | succ i =>
        have hp' : ps[i]? = some p := by simpa using hp
        have ne : (p == a) = false := beq_eq_false_iff_ne.mpr fun e => (List.nodup_cons.mp nd).1 (by rw [← e]; exact List.mem_of_getElem? hp')
        simp only [List.lookup, ne]
        exact ih (List.nodup_cons.mp nd).2 hp' (by simpa using hv)
theorem lookup_zip_none {β : Type} {ps : List Str} {vs : List β} {p : Str} (h : p ∉ ps) : (ps.zip vs).lookup p = none := by
  induction ps generalizing vs with
  | nil => rfl
  | cons a ps ih =>
    cases vs with
    | nil => rfl
    | cons b vs =>
      have ne : (p == a) = false := beq_eq_false_iff_ne.mpr fun e => h (by rw [e]; exact List.mem_cons_self)
      rw [List.zip_cons_cons]
      simp only [List.lookup, ne]
      exact ih fun z => h (List.mem_cons_of_mem _ z)
theorem stored_rel {ps : List Str} {us : List Value} {vs : List V} {x : Value} (nd : (("self" : Str) :: ps).Nodup) (hl : us.length = ps.length) (r : Vals vs us) (y : Str) :
    RelO ((ps.zip vs).lookup y) (Er.storedM (fun y => ((("self" : Str) :: ps).zip (x :: us)).reverse.lookup y) ps (fun _ => none) y) := by
  by_cases h : y ∈ ps
  · obtain ⟨i, hi, e⟩ := List.mem_iff_getElem.mp h
    have hp : ps[i]? = some y := by rw [List.getElem?_eq_getElem hi, e]
    have hv : i < vs.length := by rw [r.length, hl]; exact hi
    obtain ⟨u, hu, ru⟩ := r.get (i := i) (x := vs[i]) (List.getElem?_eq_getElem hv)
    rcases stored_some (m := fun y => ((("self" : Str) :: ps).zip (x :: us)).reverse.lookup y) (m0 := fun _ => none) h (List.nodup_cons.mp nd).2 with q | q
    · rw [q, lookup_zip_some (List.nodup_cons.mp nd).2 hp (List.getElem?_eq_getElem hv)]
      show RelO _ (((("self" : Str) :: ps).zip (x :: us)).reverse.lookup y)
      rw [Er.lookup_rev_zip (i := i + 1) (u := u) nd (by rw [List.getElem?_cons_succ]; exact hp) (by rw [List.getElem?_cons_succ]; exact hu)]
      exact ru
    · exact q.elim
  · rw [stored_none h, lookup_zip_none h]
    exact True.intro

/-- C(.., k = v, ..): a new error at a, its dict at dx -/
def tEr (C : Addr) (ps : List Str) (n m : Nat) (gV : List V → List V → List V) (t tk : TA) : TE := fun σ H Q => t σ H fun vs H1 => tk σ H1 fun zs H2 => vs.length = n ∧ zs.length = m ∧ n ≤ 1000 ∧
  ∀ a dx, H2 a = none → H2 dx = none → dx ≠ a → Q (.ref a) (upd (upd H2 dx (.xd (ps.zip (gV vs zs)))) a (exo a C (some dx)))

section
variable {X : Cx} {C fI : Addr} {fd : FuncData} {ps ks : List Str} {n : Nat} {g : List Value → List Value → List Value} {gV : List V → List V → List V} {x : Str} {p pos : Pos} {e : Expr} {es : List Expr} {kws : List Keyword} {t tk : TA}
/-- the making, at the level of the model: what stands behind it -/
theorem er_make {pins : List (Addr × Obj)} {σ : St} {H : Hp} {s : Shared} {us ws : List Value} {vs zs : List V} {Q : Value → Shared → Prop} {E : Value → Shared → Prop} (T : ErT X.prog X.K C fI fd ps) (hd : X.A.depth + 1 < recursionLimit) (hb : ErBind X.K fd ps n ks g gV)
    (I : Inv X pins σ H s) (r : Vals vs us) (rz : Vals zs ws) (l1 : vs.length = n) (l2 : zs.length = ks.length) (hn : n ≤ 1000)
    (h : ∀ h' tk a dx t1 mA, s.heap.objs.size ≤ a → s.heap.objs.size ≤ dx → dx ≠ a → (∀ b o, s.heap.get? b = some o → h'.get? b = some o) → h'.get? a = some { cls := .ref C, dict := some dx, data := .fields #[.ref t1, .none, .none, .none, .bool false, .none] } →
      h'.Ns1 dx mA → (∀ f, RelO ((ps.zip (gV vs zs)).lookup f) (mA f)) → Q (.ref a) { s with heap := h', toks := tk }) :
    wpAny (model X.prog X.w) X.A (call (.ref C) us (ks.zip ws)) Q E s := by
  obtain ⟨B, newId, initId, bmB, FB, KF, SF, TK, TI, hB⟩ := T.ex
  obtain ⟨nm, N, qn, bs, bm, hdct, sn, sub, ab, col, dd, k0, k1, k2, k3, k5, hC, hT⟩ := PySem.W.excInit_of I.kIn TK.init
  have kIn := I.kIn
  have hlim := I.nolimit
  have glob := I.mod.glob.keeps I.bk
  obtain ⟨mb, hb1, hb2⟩ := I.mod.blt
  have hb1' := hb1.keeps I.bk
  obtain ⟨hp, g', d, tk, os⟩ := s
  have k : ∀ b o, hp.get? b = some o → ((hp.push (PySem.W.kdv_tup us)).push (PySem.HandSPX.excO C hp.objs.size)).get? b = some o := fun b o e => Heap.get?_push_of_some _ (Heap.get?_push_of_some _ e)
  have hget : ((hp.push (PySem.W.kdv_tup us)).push (PySem.HandSPX.excO C hp.objs.size)).get? (hp.objs.size + 1) = some (PySem.HandSPX.excO C hp.objs.size) := by heap_get
  have hnx : ∀ o, X.K.lookup (hp.objs.size + 1) ≠ some o := fun o e => by
    have z : hp.get? (hp.objs.size + 1) = some o := kIn _ _ e
    exact absurd (Nat.lt_of_succ_lt (Heap.lt_size z)) (Nat.lt_irrefl _)
  have lu : us.length = n := r.length.symm.trans l1
  have lw : ws.length = ks.length := rz.length.symm.trans l2
  obtain ⟨lg, bt⟩ := hb.to ⟨(hp.push (PySem.W.kdv_tup us)).push (PySem.HandSPX.excO C hp.objs.size), g', d, tk, os⟩ (.ref (hp.objs.size + 1)) us ws (kIn.keeps k) lu lw
  have rg := hb.rel r rz
  refine wpAny_call (Er.call_kw FB hT hC (PySem.W.looks_findIn kIn T.iC) (fun self => PySem.W.bind_fn kIn self (beq_iff_eq.mp T.tI)) (by rw [lu, sizeLine_eq]; omega) ?_)
  refine Er.er_init (us := g us ws) FB KF SF TK TI hB T.htop (kIn.keeps k) (glob.keeps k) (hb1'.keeps k) ((hb2 _ (by decide)).trans PyProof.Rows.Boot.«super») (hlim.keeps k) hget hnx ?_ lg bt (fun h' tk' dx t1 k' hd' hne hx' hn' => ?_)
  · rw [make_depth]
    exact hd
  · have old : ∀ b o, hp.get? b = some o → h'.get? b = some o := fun b o e => k' b o (Nat.ne_of_lt (Nat.lt_succ_of_lt (Heap.lt_size e))) (k b o e)
    have z : hp.objs.size + 1 + 1 ≤ dx := by
      have q := hd'
      rw [Heap.size_push, Heap.size_push] at q
      exact q
    exact ⟨rfl, h h' tk' (hp.objs.size + 1) dx t1 _ (Nat.le_succ _) (Nat.le_trans (Nat.le_trans (Nat.le_succ _) (Nat.le_succ _)) z) hne old hx' hn' fun f => stored_rel TI.nd lg rg f⟩

/-- two new objects laid and tracked: an error's dict, the error -/
theorem er_laid {pins : List (Addr × Obj)} {σ : St} {H : Hp} {s : Shared} {h' : Heap} {tk : Nat} {a dx C t1 : Addr} {fs : List (Str × V)} {mA : Str → Option Value} (I : Inv X pins σ H s) (ha : s.heap.objs.size ≤ a) (hd : s.heap.objs.size ≤ dx) (hne : dx ≠ a)
    (k : ∀ b o, s.heap.get? b = some o → h'.get? b = some o) (hx : h'.get? a = some { cls := .ref C, dict := some dx, data := .fields #[.ref t1, .none, .none, .none, .bool false, .none] }) (hn : h'.Ns1 dx mA) (r : ∀ f, RelO (fs.lookup f) (mA f)) :
    Inv X pins σ (upd (upd H dx (.xd fs)) a (exo a C (some dx))) { s with heap := h', toks := tk } := by
  have na : H a = none := I.hok.fresh ha
  have nd : H dx = none := I.hok.fresh hd
  have nA : ∀ {b : Addr} {o : Obj}, s.heap.get? b = some o → b ≠ a := fun {b o} e => Nat.ne_of_lt (Nat.lt_of_lt_of_le (Heap.lt_size e) ha)
  have nD : ∀ {b : Addr} {o : Obj}, s.heap.get? b = some o → b ≠ dx := fun {b o} e => Nat.ne_of_lt (Nat.lt_of_lt_of_le (Heap.lt_size e) hd)
  have up : ∀ {b : Addr} {o : HO}, H b = some o → upd (upd H dx (.xd fs)) a (exo a C (some dx)) b = some o := fun {b o} e => by rw [upd_ne (ne_of_none e na), upd_ne (ne_of_none e nd)]; exact e
  have U : Un X.fs [] H (upd (upd H dx (.xd fs)) a (exo a C (some dx))) s.heap h' := {
    keep := fun b o q _ _ _ => k b o q
    slot := fun b o q _ _ _ => ⟨o.slots, k b o q⟩
    free := fun b o q n _ => by rw [upd_ne (nA q), upd_ne (nD q)]; exact n
    there := fun b o q _ => ⟨o, k b o q⟩
    tups := fun b xs q => up q
    frzs := fun b o v q => up q
    tbls := fun b ps q => ⟨#[], by rw [up q]; simp⟩ }
  refine I.un (t' := tk) U fun b o q => ?_
  by_cases hb : b = a
  · subst hb
    rw [upd_same] at q
    cases q
    exact exo_ok hx
  · rw [upd_ne hb] at q
    by_cases hd : b = dx
    · subst hd
      rw [upd_same] at q
      cases q
      exact ⟨mA, hn, r⟩
    · rw [upd_ne hd] at q
      exact (I.hok b o q).stay (fun c v _ z => k c v z) (fun c z => up z) fun c xs z => up z
theorem run_er {pins : List (Addr × Obj)} {σ : St} {H : Hp} {s : Shared} {us ws : List Value} {vs zs : List V} {Q : VK} (T : ErT X.prog X.K C fI fd ps) (hd : X.A.depth + 1 < recursionLimit) (hb : ErBind X.K fd ps n ks g gV)
    (I : Inv X pins σ H s) (r : Vals vs us) (rz : Vals zs ws) (l1 : vs.length = n) (l2 : zs.length = ks.length) (hn : n ≤ 1000)
    (h : ∀ a dx, H a = none → H dx = none → dx ≠ a → Q (.ref a) (upd (upd H dx (.xd (ps.zip (gV vs zs)))) a (exo a C (some dx)))) :
    wpAny (model X.prog X.w) X.A (call (.ref C) us (ks.zip ws)) (EP X pins σ Q) X.xe s :=
  er_make T hd hb I r rz l1 l2 hn fun h' tk a dx t1 mA h1 h2 h3 k hx hns rel =>
    ⟨.ref a, _, er_laid I h1 h2 h3 k hx hns rel, rfl, h a dx (I.hok.fresh h1) (I.hok.fresh h2) h3⟩
/-- C(e, ..) -/
theorem pe_er (T : ErT X.prog X.K C fI fd ps) (hd : X.A.depth + 1 < recursionLimit) (hb : ErBind X.K fd ps n [] g gV) (hg : Gl X x) (hm : X.mg x = some (.ref C)) (ha : PA X (e :: es) t) (hdb : (x == ("__debug__" : Str)) = false := by decide)
    (he : starEach (e :: es) X.env = (false, eval e X.env) :: starEach es X.env := by rfl) (hpl : (backTo pos (starEach es X.env)).any (·.1) = false := by rfl) : PE X (.Call (.Name x p) (e :: es) [] pos) (tEr C ps n 0 gV t tNil) := by
  refine ⟨fun pins s σ H Q I h => ?_⟩
  refine wpAny_Call_Name_kw (ld_glob I hg hm ?_ hdb)
  refine PySem.W.callWith_K (h₀ := X.base) I.ok.mod.kin T.kC (thn (ha.run pos pins s σ H _ I h) fun us s1 ⟨vs, H1, I1, r, l1, _, hn, q⟩ => ⟨I1.kIn, ?_⟩) he hpl
  exact run_er (ws := []) T hd hb I1 r .nil l1 rfl hn q
/-- C(k = v, ..) -/
theorem pe_erK0 (T : ErT X.prog X.K C fI fd ps) (hd : X.A.depth + 1 < recursionLimit) (hb : ErBind X.K fd ps 0 ks g gV) (hg : Gl X x) (hm : X.mg x = some (.ref C)) (hkw : PK X kws tk)
    (hall : (backToKw pos (keywordEach kws X.env)).all (·.1.isSome) = true := by rfl) (hks : (backToKw pos (keywordEach kws X.env)).filterMap (·.1) = ks := by rfl) (hdb : (x == ("__debug__" : Str)) = false := by decide)
    (hpl : ((backTo pos (starEach [] X.env)).any (·.1) || (backToKw pos (keywordEach kws X.env)).any (·.1.isNone)) = false := by rfl) :
    PE X (.Call (.Name x p) [] kws pos) (tEr C ps 0 ks.length gV tNil tk) := by
  refine ⟨fun pins s σ H Q I h => ?_⟩
  refine wpAny_Call_Name_kw (ld_glob I hg hm ?_ hdb)
  refine PySem.W.callWith_KW0 (h₀ := X.base) I.ok.mod.kin T.kC hall ?_ hpl
  refine thn (hkw.run pos pins s σ H _ I h) fun ws s2 ⟨zs, H2, I2, rz, _, l2, _, q2⟩ => ⟨I2.kIn, ?_⟩
  rw [hks]
  exact run_er (us := []) (vs := []) T hd hb I2 .nil rz rfl l2 (Nat.zero_le _) q2
/-- e.f of an error that is held as a value -/
def tErF (K : PySem.W.Frag) (f : Str) (te : TE) : TE := fun σ H Q => te σ H fun x H1 => ∃ (a C dx : Addr) (fs : List (Str × V)) (v : V), x = .ref a ∧ H1 a = some (exo a C (some dx)) ∧ H1 dx = some (.xd fs) ∧ ExcC K C ∧ PySem.W.findIn K (.ref C) f = some none ∧ fs.lookup f = some v ∧ Q v H1
theorem pe_erF {f : Str} {te : TE} (he : PE X e te) (hb : attributeBase e f X.env (eval e X.env) = eval e X.env := by rfl) : PE X (.Attribute e f pos) (tErF X.K f te) := by
  refine ⟨fun pins s σ H Q I h => ?_⟩
  refine attr_of hb (thn (he.run pins s σ H _ I h) fun u s1 hh => ?_)
  obtain ⟨x, H1, I1, rx, a, C, dx, fs, v, ex, ea, ed, T, hno, l, q⟩ := hh
  subst ex
  obtain rfl : u = Value.ref a := rx
  obtain ⟨t1, ho⟩ := exo_at I1.hok ea
  obtain ⟨mA, hns, hr⟩ := (show ObjOk X.prog X.w H1 s1.heap dx (.xd fs) from I1.hok dx _ ed)
  obtain ⟨od, hod, hl⟩ := lookIn_ns hns
  obtain ⟨u, hu, ru⟩ := RelO.some_of (v := v) (o := mA f) (by rw [← l]; exact hr f)
  have J : PySem.W.InstAt s1.heap a { cls := .ref C, dict := some dx, data := .fields #[.ref t1, .none, .none, .none, .bool false, .none] } C (some od) := ⟨ho, rfl, rfl, hod⟩
  exact HandSPX.exc_get I1.kIn J T.hg T.hk T.hs (PySem.W.findObj_own T.hd hno rfl (by rw [hl, hu])) (handed_of ru) ⟨v, H1, I1.tok _, ru, q⟩
end
end L2

set_option Elab.async false
set_option linter.all false
set_option maxRecDepth 100000
set_option maxHeartbeats 4000000
/-! Part E: isinstance of an error that is held as a value. -/
namespace PySem.W
open PySem PySem.Spec PySem.Calls PyProof.Rows
section
variable {prog : Program} {w : World} {A : Around} {E : Value → Shared → Prop} {s : Shared} {K : Frag} {x D : Addr} {ox : Obj} {od : Option Obj}
theorem er_findObj {C : Addr} {name : Str} {a g : Value} (hc : (clsIn K C).isSome = true) (ha : findIn K (.ref C) name = some (some a)) (hg : specialIn K a "__get__" = some (some g)) (ht : takesIn K a = some true) : findObj K C od name = some (.bind g a) := by
  obtain ⟨cd, hc⟩ := Option.isSome_iff_exists.mp hc
  unfold findObj
  rw [hc, Option.bind_some, ha, Option.bind_some]
  simp [hg, ht]
theorem er_class {Q : Option Value → Shared → Prop} (hga : findIn K (.ref D) "__getattribute__" = some (some (.builtin "BaseException.__getattribute__"))) (hgt : findIn K (.ref D) "__getattr__" = some none) (hsub : subIn K (.ref D) (.type "BaseException") = some true)
    (hdct : hasDictIn K D = true) (ha : findIn K (.ref D) "__class__" = some (some (.builtin "object.__class__")))
    (hn : specialIn K (.builtin "object.__class__") "__get__" = some (some (.builtin "getset_descriptor.__get__"))) (htk : takesIn K (.builtin "object.__class__") = some true) (hm : mroIn K D (.type "object") = some true)
    (X : K.In s.heap) (I : InstAt s.heap x ox D od) (h : Q (some (.ref D)) { s with toks := s.toks + 1 }) : wpAny (model prog w) A (getAttr? (.ref x) "__class__") Q E s := by
  have hf : findObj K D od "__class__" = some (.bind (.builtin "getset_descriptor.__get__") (.builtin "object.__class__")) := er_findObj (by obtain ⟨cd, hc, _⟩ := any_some hdct; rw [hc]; rfl) ha hn htk
  obtain ⟨hp, g, d, t, os⟩ := s
  have L0 := I.type (M := model prog w)
  have L1 := looks_findIn (M := model prog w) X hga
  have L2 := looks_findIn (M := model prog w) X hgt
  have L3 := looks_find (M := model prog w) X I hf
  have sub : Looks (model prog w) hp (isInstance (.ref x) (.type "BaseException")) true := L0.andThen (looks_subIn X hsub)
  have hx0 : (false && onTheHeap (Value.builtin "BaseException.__getattribute__")) = false := rfl
  have hx2 : (Value.builtin "BaseException.__getattribute__" == Value.builtin "object.__getattribute__") = false := by decide +kernel
  have hx1 : (onTheHeap (Value.ref D) && Value.builtin "BaseException.__getattribute__" == Value.builtin "object.__getattribute__") = false := by rw [hx2]; rfl
  unfold getAttr? getAttrBy? getAttrBy
  refine wpAny_bind (wpAny_mkText (wpAny_bind (wpAny_attempt (wpAny_holding (wpAny_bind (L0.at (wpAny_bind (L1.at ?_))))))))
  show wpAny _ _ (if (onTheHeap (Value.ref D) && Value.builtin "BaseException.__getattribute__" == Value.builtin "object.__getattribute__") = true then _ else _) _ _ _
  rw [hx1, if_neg Bool.false_ne_true]
  unfold getAttrByItsOwn hookBefore
  refine wpAny_bind ?_
  rw [if_pos (show onTheHeap (Value.ref D) = true from rfl)]
  refine L2.at ?_
  refine wpAny_bind (wpAny_attempt (wpAny_holding ?_))
  unfold callGetattribute
  rw [hx0, if_neg Bool.false_ne_true]
  unfold boundAndCalled
  rw [PySem.F.excAttr_ValueError.ga.bind (.ref x)]
  refine wpAny_bind (wpAny_pure ?_)
  show wpAny _ _ (call (.builtin "BaseException.__getattribute__") [.ref x, .str "__class__" t]) _ _ _
  refine wpAny_call (codeAny_call_builtin PySem.F.excAttr_ValueError.ga.plain PySem.F.entry_bexc_ga ?_)
  refine @check_slot (model prog w) _ _ ⟨hp, g, d, t + 1, os⟩ "BaseException.__getattribute__" "BaseException" "__getattribute__" (.ref x) [.str "__class__" t] [] _ (by decide +kernel) (by decide +kernel) sub (PySem.F.args_bexc_ga (.ref x) (.str "__class__" t)) ?_
  unfold Builtin.«object.__getattribute__»
  refine wpAny_bind (wpAny_of_eq (a := ((Value.ref x : Value), [Value.str "__class__" t])) (by first | rfl | (simp only [slotArgs]; rfl)) ?_)
  refine wpAny_bind (wpAny_pure (wpAny_bind (L0.at (wpAny_bind (L3.at ?_)))))
  show wpAny _ _ (holding [Value.builtin "object.__class__"] (call (.builtin "getset_descriptor.__get__") [.builtin "object.__class__", .ref x, .ref D]) >>= ret) _ _ _
  refine wpAny_bind (wpAny_holding (wpAny_call (class_get (s := ⟨hp, g, d, t + 1, os⟩) (ox := ox) (od := od) X I hm ?_)))
  refine wpAny_pure ?_
  show wpAny _ _ (handedOut (.ref D)) _ _ _
  rw [handedOut_of (v := .ref D) rfl]
  first
    | exact wpAny_pure (wpAny_pure h)
    | exact wpAny_pure h
    | exact wpAny_pure (wpAny_bind (wpAny_pure (wpAny_pure h)))
theorem er_kitx (hga : findIn K (.ref D) "__getattribute__" = some (some (.builtin "BaseException.__getattribute__"))) (hgt : findIn K (.ref D) "__getattr__" = some none) (hsub : subIn K (.ref D) (.type "BaseException") = some true) (hdct : hasDictIn K D = true) (ha : findIn K (.ref D) "__class__" = some (some (.builtin "object.__class__")))
    (hn : specialIn K (.builtin "object.__class__") "__get__" = some (some (.builtin "getset_descriptor.__get__"))) (htk : takesIn K (.builtin "object.__class__") = some true) (hm : mroIn K D (.type "object") = some true) :
    KitX K (.ref x) (.ref D) (fun h => ∃ ox od, InstAt h x ox D od) where
  ty := fun _ _ _ ⟨_, _, I⟩ => I.type
  it := fun _ _ X _ => by
    obtain ⟨cdD, hcD, _⟩ := any_some hdct
    unfold clsIn at hcD
    split at hcD
    · rename_i c' d' cd' sl' ho
      intro A' Q' E' s' k q
      unfold isType loadHead
      exact wpAny_bind (wpAny_loadPart (k _ _ (X _ _ ho)) (wpAny_pure q))
    · cases hcD
  ne := fun h tp dd its n sl X htp => by
    obtain ⟨cdD, hcD, _⟩ := any_some hdct
    refine Bool.eq_false_iff.mpr fun q => ?_
    have e : D = tp := Value.ref.inj (beq_iff_eq.mp q)
    subst e
    unfold clsIn at hcD
    split at hcD
    · rename_i c' d' cd' sl' ho
      have z := (X _ _ ho).symm.trans htp
      cases z
    · cases hcD
  ca := fun X ⟨_, _, I⟩ k => er_class hga hgt hsub hdct ha hn htk hm X I k
end
end PySem.W
namespace L2
open PySem PySem.Spec PyProof.Rows
/-- isinstance(e, c), e an error that is held as a value -/
def rIsErr (K : PySem.W.Frag) : List V → Hp → VK → Prop := fun xs H Q => ∃ (a D dx : Addr) (fs : List (Str × V)) (c : V) (cv : Value) (b : Bool), xs = [.ref a, c] ∧ H a = some (exo a D (some dx)) ∧ H dx = some (.xd fs) ∧ ExcC K D ∧ ClsV c cv ∧ PySem.W.kitOne K (.ref D) cv = some b ∧ Q (.bl b) H
theorem call_isErr {X : Cx} : CallR X (.builtin "isinstance") (rIsErr X.K) := by
  intro pins s σ H xs us Q I r h
  obtain ⟨a, D, dx, fs, c, cv, b, rfl, ea, ed, C, hcv, e, q⟩ := h
  obtain ⟨u1, u2, rfl, r1, r2⟩ := vals2 r
  cases (show u1 = Value.ref a from r1)
  have ec := hcv.eq r2
  subst ec
  obtain ⟨t1, ho⟩ := exo_at I.hok ea
  obtain ⟨mA, ⟨od, es, ep, hod, _⟩, _⟩ := (show ObjOk X.prog X.w H s.heap dx (.xd fs) from I.hok dx _ ed)
  exact PySem.W.kia_one (PySem.W.er_kitx C.hg C.hk C.hs C.hd C.ha C.hn C.ht C.hm) I.kIn ⟨{ cls := .ref D, dict := some dx, data := .fields #[.ref t1, .none, .none, .none, .bool false, .none] }, some od, ho, rfl, rfl, hod⟩ e (fun z => nomatch z) fun tk => ⟨.bl b, H, I.kept (t' := tk) fun _ _ z => z, rfl, q⟩
end L2

set_option Elab.async false
set_option linter.all false
set_option maxRecDepth 100000
set_option maxHeartbeats 2000000
/-! A Hook of one's own: functions (with their closures' names) and any truths of the written part. -/
namespace Hm
open PySem PySem.Spec PyProof.Rows L2 He
abbrev FnX : Type := Option (Str × Str × Arguments × FuncBody × Scope × Addr × List Str × Addr)
def fnX (K : PySem.W.Frag) (a : Addr) : FnX := match K.lookup a with
  | some ⟨_, _, .func fd, _⟩ => some (fd.name, fd.qualname, fd.params, fd.body, fd.scope, fd.globals, fd.closure.map (·.1), fd.builtins)
  | _ => none
structure DefX where
  at_ : PySem.W.Frag → Addr
  name : Str
  qual : Str
  params : Arguments
  body : List Stmt
  scope : Scope
  dfl : List Dv := []
  kwd : List (Str × Dv) := []
  clo : List Str := []
def DefX.val (d : DefX) : FnX := some (d.name, d.qual, d.params, .stmts d.body, d.scope, mainGlobals, d.clo, builtinsNs)
def DefX.dvs (K : PySem.W.Frag) (d : DefX) : List V := d.dfl.map (Dv.v K)
def DefX.kws (K : PySem.W.Frag) (d : DefX) : List (Str × V) := d.kwd.map fun q => (q.1, q.2.v K)
def DefX.ok (K : PySem.W.Frag) (d : DefX) : Bool := PySem.W.keepIn K (.ref (d.at_ K)) && (match K.lookup (d.at_ K) with
  | some ⟨_, _, .func fd, _⟩ => PySem.W.codeIn K fd.code d.qual && (dflB K fd.defaults (d.dvs K) && kwdB K fd.kwdefaults (d.kws K))
  | _ => false)
theorem DefX.parts {K : PySem.W.Frag} {d : DefX} (e : fnX K (d.at_ K) = d.val) (c : d.ok K = true) : ∃ oc od osl dV kV doc pm an cdv ct clo, clo.map (·.1) = d.clo ∧
    K.lookup (d.at_ K) = some ⟨oc, od, .func (PySem.W.fnX d.name d.qual d.params d.body d.scope clo dV kV doc pm an cdv ct), osl⟩ ∧ PySem.W.codeIn K cdv d.qual = true ∧ DflV K dV (d.dvs K) ∧ KwdV K kV (d.kws K) ∧ PySem.W.keepIn K (.ref (d.at_ K)) = true := by
  obtain ⟨kp, c2⟩ := ba c
  unfold fnX at e
  cases q : K.lookup (d.at_ K) with
  | none =>
    rw [q] at c2
    cases c2
  | some o =>
    obtain ⟨oc, od, dt, osl⟩ := o
    rw [q] at c2 e
    cases dt with
    | func fd =>
      obtain ⟨n1, n2, n3, n4, n5, n6, n7, n8, n9, n10, n11, n12, n13, n14, n15⟩ := fd
      have e2 : (some (n1, n2, n3, n4, n5, n6, n7.map (·.1), n15) : FnX) = some (d.name, d.qual, d.params, .stmts d.body, d.scope, mainGlobals, d.clo, builtinsNs) := e
      simp only [Option.some.injEq, Prod.mk.injEq] at e2
      obtain ⟨h1, h2, h3, h4, h5, h6, h7, h8⟩ := e2
      subst h1 h2 h3 h4 h5 h6 h8
      have c3 : (PySem.W.codeIn K n13 d.qual && (dflB K n8 (d.dvs K) && kwdB K n9 (d.kws K))) = true := c2
      obtain ⟨k1, k2⟩ := ba c3
      obtain ⟨k3, k4⟩ := ba k2
      exact ⟨oc, od, osl, n8, n9, n10, n11, n12, n13, n14, n7, h7, rfl, k1, dflB_ok k3, kwdB_ok k4, kp⟩
    | _ => cases c2
theorem DefX.funD {K : PySem.W.Frag} {d : DefX} (e : fnX K (d.at_ K) = d.val) (c : d.ok K = true) (hc : d.clo = []) : ∃ fd, FunD K d.name d.qual d.params d.body d.scope (d.dvs K) (d.kws K) (d.at_ K) fd := by
  obtain ⟨oc, od, osl, dV, kV, doc, pm, an, cdv, ct, clo, h0, h1, h2, h3, h4, h5⟩ := DefX.parts e c
  rw [hc] at h0
  have e0 : clo = [] := List.map_eq_nil_iff.mp h0
  subst e0
  exact ⟨_, ⟨oc, od, dV, kV, doc, pm, an, cdv, ct, osl, rfl, h1, h2, h3, h4⟩, h5⟩
/-! ### the Hook -/
def asM (g : Addr → Option Obj) : Nat → List Addr
  | 0 => [mainGlobals, cStatics]
  | n + 1 => growD g (asM g n)
abbrev AlM : Type := Bool × List FnX
def obsM (fs : List (PySem.W.Frag → Bool)) (fn : List DefX) (K : PySem.W.Frag) : AlM := ((fs.all fun f => f K) && fn.all fun d => d.ok K, fn.map fun d => fnX K (d.at_ K))
def valM (fn : List DefX) : AlM := (true, fn.map DefX.val)
def SaysM (fs : List (PySem.W.Frag → Bool)) (fn : List DefX) (K : PySem.W.Frag) : Prop := obsM fs fn K = valM fn
def obsMG (n : Nat) (fs : List (PySem.W.Frag → Bool)) (fn : List DefX) (g : Addr → Option Obj) : AlM := obsM fs fn (frG g (asM g n))
def hookM (n : Nat) (fs : List (PySem.W.Frag → Bool)) (fn : List DefX) : PySem.W.Hook where
  α := AlM
  obs := fun s => obsMG n fs fn s.heap.get?
  val := fun _ => valM fn
  says := fun _ h => ∃ K : PySem.W.Frag, K.In h ∧ SaysM fs fn K
  of := fun _ _ e => ⟨_, frG_in, e⟩
  keeps := fun _ _ _ ⟨K, hK, c⟩ k => ⟨K, PySem.W.Frag.In.keeps hK k, c⟩
theorem obsMG_eq {n : Nat} {fs : List (PySem.W.Frag → Bool)} {fn : List DefX} {g : Addr → Option Obj} {s : Shared} (h : ∀ a, g a = s.heap.get? a) : obsMG n fs fn g = (hookM n fs fn).obs s := by
  have e : g = s.heap.get? := funext h
  rw [e] <;> rfl
section
variable {fs : List (PySem.W.Frag → Bool)} {fn : List DefX} {K : PySem.W.Frag}
theorem SaysM.fact (c : SaysM fs fn K) (i : Nat) {f : PySem.W.Frag → Bool} (h : fs[i]? = some f := by rfl) : f K = true := by
  have c1 := (ba (show ((fs.all fun f => f K) && fn.all fun d => d.ok K) = true from congrArg (fun z : AlM => z.1) c)).1
  exact List.all_eq_true.mp c1 f (List.mem_of_getElem? h)
theorem SaysM.parts (c : SaysM fs fn K) (i : Nat) {d : DefX} (h : fn[i]? = some d := by rfl) : fnX K (d.at_ K) = d.val ∧ d.ok K = true := by
  have c2 := (ba (show ((fs.all fun f => f K) && fn.all fun d => d.ok K) = true from congrArg (fun z : AlM => z.1) c)).2
  have e : fn.map (fun d => fnX K (d.at_ K)) = fn.map DefX.val := congrArg (fun z : AlM => z.2) c
  have e2 : (fn.map fun d => fnX K (d.at_ K))[i]? = (fn.map DefX.val)[i]? := by rw [e]
  rw [List.getElem?_map, List.getElem?_map, h] at e2
  exact ⟨Option.some.inj e2, List.all_eq_true.mp c2 d (List.mem_of_getElem? h)⟩
theorem SaysM.def_ (c : SaysM fs fn K) (i : Nat) {d : DefX} (h : fn[i]? = some d := by rfl) (hc : d.clo = [] := by rfl) : ∃ fd, FunD K d.name d.qual d.params d.body d.scope (d.dvs K) (d.kws K) (d.at_ K) fd :=
  DefX.funD (c.parts i h).1 (c.parts i h).2 hc
end
/-! ### an error class -/
def eqV (a b : Option Value) : Bool := decide (a = b)
def isE (K : PySem.W.Frag) (C : Addr) : Bool := eqO (PySem.W.findIn K (.ref C) "__getattribute__") (some (some (.builtin "BaseException.__getattribute__"))) && (eqO (PySem.W.findIn K (.ref C) "__getattr__") (some none) &&
  (decide (PySem.W.subIn K (.ref C) (.type "BaseException") = some true) && (PySem.W.hasDictIn K C && (eqO (PySem.W.findIn K (.ref C) "__class__") (some (some (.builtin "object.__class__"))) &&
  (eqO (PySem.W.specialIn K (.builtin "object.__class__") "__get__") (some (some (.builtin "getset_descriptor.__get__"))) && (decide (PySem.W.takesIn K (.builtin "object.__class__") = some true) && decide (PySem.W.mroIn K C (.type "object") = some true)))))))
theorem isE_ok {K : PySem.W.Frag} {C : Addr} (h : isE K C = true) : ExcC K C := by
  obtain ⟨h1, h⟩ := ba h
  obtain ⟨h2, h⟩ := ba h
  obtain ⟨h3, h⟩ := ba h
  obtain ⟨h4, h⟩ := ba h
  obtain ⟨h5, h⟩ := ba h
  obtain ⟨h6, h⟩ := ba h
  obtain ⟨h7, h8⟩ := ba h
  exact ⟨eqO_ok h1, eqO_ok h2, of_decide_eq_true h3, h4, eqO_ok h5, eqO_ok h6, of_decide_eq_true h7, of_decide_eq_true h8⟩
def cellB (K : PySem.W.Frag) (f C : Addr) : Bool := match K.lookup f with
  | some ⟨_, _, .func fd, _⟩ => (match fd.closure with
    | [(_, cc)] => (match K.lookup cc with
      | some ⟨_, _, .cell (some (.ref D)), _⟩ => decide (D = C)
      | _ => false)
    | _ => false)
  | _ => false
def fileB (K : PySem.W.Frag) (f : Addr) (file : Str) : Bool := match K.lookup f with
  | some ⟨_, _, .func fd, _⟩ => (match fd.code with
    | .ref c => (match K.lookup c with
      | some ⟨_, _, .fields vs, _⟩ => (match (vs[2]? : Option Value) with
        | some (Value.str x _) => file == x
        | _ => false)
      | _ => false)
    | _ => false)
  | _ => false
/-- all that is asked of the written part for the error class x over B -/
def erB (file : Str) (x : Str) (B newId initId : String) (bmB : List Value) (ps : List Str) (K : PySem.W.Frag) : Bool :=
  (PySem.W.excInitIn K (ga K x) bmB newId && (PySem.W.excOver K (ga K x) bmB && (eqO (PySem.W.findIn K (.ref (ga K x)) "__setattr__") (some (some (.builtin "object.__setattr__"))) && (PySem.W.keepIn K (.ref (ga K x)) && isE K (ga K x))))) &&
  ((decide (PySem.W.subIn K (.ref (ga K x)) (.type B) = some true) && (eqO (PySem.W.findIn K (.ref (ga K x)) "__init__") (some (some (.ref (ma K (ga K x) "__init__")))) && (PySem.W.isFn K (.ref (ma K (ga K x) "__init__")) && decide (PySem.W.typeIn K (.ref (ga K x)) = some (.type "type"))))) &&
  ((decide (PySem.W.mroIn K (ga K x) (.ref (ga K x)) = some true) && (eqO (PySem.W.ks_superIn K (ga K x) (ga K x) "__init__") (some (some (.builtin initId))) && (eqO (PySem.W.nsIn K cStatics "thirdparty.any") (some none) && eqO (PySem.W.nsIn K mainGlobals "super") (some none)))) &&
  (cellB K (ma K (ga K x) "__init__") (ga K x) && (fileB K (ma K (ga K x) "__init__") file && ps.all fun p => eqO (PySem.W.findIn K (.ref (ga K x)) p) (some none)))))
/-- what the text of such an __init__ is -/
structure ErSyn (params : Arguments) (body : List Stmt) (scope : Scope) (qual : Str) (ps : List Str) : Prop where
  ex : ∃ (stores : List Stmt) (msg : Str) (j : Nat) (p0 p1 p2 p3 p4 p5 : Pos) (ap : Pos) (an2 : Option Expr) (rest : List Arg),
    body = .Expr (.Call (.Attribute (.Call (.Name "super" p0) [] [] p1) "__init__" p2) [.Constant (.str msg) j p3] [] p4) p5 :: stores ∧ Er.IsStores stores ps ∧
    params.posonlyargs ++ params.args = ⟨"self", an2, ap⟩ :: rest ∧
    (∀ (fI cda cc L : Addr), ∃ pl : Sem Bool, eval (.Call (.Attribute (.Call (.Name "super" p0) [] [] p1) "__init__" p2) [.Constant (.str msg) j p3] [] p4) (PySem.W.ksEnv qual scope L fI (.ref cda) cc) = (do
      let ov ← attributeBase (.Call (.Name "super" p0) [] [] p1) "__init__" (PySem.W.ksEnv qual scope L fI (.ref cda) cc) (eval (.Call (.Name "super" p0) [] [] p1) (PySem.W.ksEnv qual scope L fI (.ref cda) cc))
      standAt p2.atName
      let (f, first) ← holding [ov] (getMethod ov "__init__" pl)
      callWith p4 f first (backTo p4 (starEach [.Constant (.str msg) j p3] (PySem.W.ksEnv qual scope L fI (.ref cda) cc))) [])) ∧
    (∀ (fI cda cc L : Addr), interactive (PySem.W.ksEnv qual scope L fI (.ref cda) cc) = false ∧ swapsWith (.Call (.Attribute (.Call (.Name "super" p0) [] [] p1) "__init__" p2) [.Constant (.str msg) j p3] [] p4) none p5.line (PySem.W.ksEnv qual scope L fI (.ref cda) cc) = pure false)
  kind : scope.kind = .function
  co : scope.isCoroutine = false
  gen : scope.isGenerator = false
  ks : scope.names.lookup ("super" : Str) = some .globalImplicit
  kc : scope.names.lookup ("__class__" : Str) = some .free
  self : scope.names.lookup ("self" : Str) = some .local
  cell : ∀ x ∈ scope.names, x.2 ≠ .cell
  loc : ∀ p ∈ ps, scope.names.lookup p = some .local ∧ (p == ("__debug__" : Str)) = false
  nd : (("self" : Str) :: ps).Nodup
  ne : ps ≠ []
  few : ps.length ≤ 900
theorem er_of {P : Program} {K : PySem.W.Frag} {x : Str} {B newId initId : String} {bmB : List Value} {ps : List Str} {d : DefX} (FB : ExcBaseFacts B newId initId bmB) (KF : PySem.W.KxsFacts B initId) (SF : StoreFacts B bmB "object.__setattr__" "object")
    (hb : erB P.main.file x B newId initId bmB ps K = true) (e : fnX K (d.at_ K) = d.val) (c : d.ok K = true) (hat : d.at_ K = ma K (ga K x) "__init__") (hnm : d.name = "__init__") (hclo : d.clo = ([("__class__" : Str)] : List Str)) (S : ErSyn d.params d.body d.scope d.qual ps)
    (htop : (P.main.scope.names.lookup ("super" : Str)).isSome = false) :
    ∃ cc dV kV doc pm an cdv ct, ErT P K (ga K x) (ma K (ga K x) "__init__") (PySem.W.fnX d.name d.qual d.params d.body d.scope [("__class__", cc)] dV kV doc pm an cdv ct) ps ∧ DflV K dV (d.dvs K) ∧ KwdV K kV (d.kws K) := by
  obtain ⟨oc, od, osl, dV, kV, doc, pm, an, cdv, ct, clo, h0, h1, h2, h3, h4, h5⟩ := DefX.parts e c
  rw [hclo] at h0
  obtain ⟨⟨y, cc⟩, rfl⟩ : ∃ q, clo = [q] := by
    have l := congrArg List.length h0
    rw [List.length_map] at l
    match clo, l with
    | [q], _ => exact ⟨q, rfl⟩
  have hy : y = ("__class__" : Str) := (List.cons.inj h0).1
  subst hy
  obtain ⟨g1, g2⟩ := ba hb
  obtain ⟨g2, g3⟩ := ba g2
  obtain ⟨g3, g4⟩ := ba g3
  obtain ⟨a1, g1⟩ := ba g1
  obtain ⟨a2, g1⟩ := ba g1
  obtain ⟨a3, g1⟩ := ba g1
  obtain ⟨a4, a5⟩ := ba g1
  obtain ⟨b1, g2⟩ := ba g2
  obtain ⟨b2, g2⟩ := ba g2
  obtain ⟨b3, b4⟩ := ba g2
  obtain ⟨c1, g3⟩ := ba g3
  obtain ⟨c2, g3⟩ := ba g3
  obtain ⟨c3, c4⟩ := ba g3
  obtain ⟨d1, g4⟩ := ba g4
  obtain ⟨d2, d3⟩ := ba g4
  have E := isE_ok a5
  rw [hat] at h1
  obtain ⟨cda, rfl⟩ : ∃ c, cdv = .ref c := by
    cases cdv with
    | ref c => exact ⟨c, rfl⟩
    | _ => cases h2
  have hcell : ∃ (cl : Value) (cld : Option Addr) (csl : Array (Option Value)), K.lookup cc = some ⟨cl, cld, .cell (some (.ref (ga K x))), csl⟩ := by
    unfold cellB at d1
    rw [h1] at d1
    have d1' : (match K.lookup cc with
      | some ⟨_, _, .cell (some (.ref D)), _⟩ => decide (D = ga K x)
      | _ => false) = true := d1
    split at d1'
    · rename_i cl cld D csl q
      have eD : D = ga K x := of_decide_eq_true d1'
      rw [eD] at q
      exact ⟨_, _, _, q⟩
    · cases d1'
  have hfile : ∃ (ccl : Value) (cdd : Option Addr) (vs : Array Value) (ccs : Array (Option Value)) (file : Str) (tf : Tok), K.lookup cda = some ⟨ccl, cdd, .fields vs, ccs⟩ ∧ vs[2]? = some (.str file tf) ∧ ((P.main.file : Str) == file) = true := by
    unfold fileB at d2
    rw [h1] at d2
    have d2' : (match K.lookup cda with
      | some ⟨_, _, .fields vs, _⟩ => (match (vs[2]? : Option Value) with
        | some (Value.str x _) => P.main.file == x
        | _ => false)
      | _ => false) = true := d2
    split at d2'
    · rename_i vs ccs q
      split at d2'
      · rename_i z tf q2
        exact ⟨_, _, _, _, z, tf, q, q2, d2'⟩
      · cases d2'
    · cases d2'
  obtain ⟨stores, msg, j, p0, p1, p2, p3, p4, p5, ap, an2, rest, s1, s2, s3, s4, s5⟩ := S.ex
  refine ⟨cc, dV, kV, doc, pm, an, .ref cda, ct, ⟨⟨B, newId, initId, bmB, FB, KF, SF, ⟨a1, a2, E.hd, eqO_ok a3, a4⟩, ⟨⟨d.qual, d.params, d.body, d.scope, dV, kV, doc, pm, an, cda, ct, cc, oc, od, osl, stores, msg, j, p0, p1, p2, p3, p4, p5, ap, an2, rest, ?_, h1, h2, s1, s2, s3,
    S.kind, S.co, S.gen, S.ks, S.kc, S.self, S.cell, fun p hp => ⟨(S.loc p hp).1, eqO_ok (List.all_eq_true.mp d3 p hp), (S.loc p hp).2⟩, hfile, hcell, of_decide_eq_true c1, eqO_ok c2, eqO_ok c3, eqO_ok c4, fun L => s4 _ _ _ L, fun L => s5 _ _ _ L⟩, S.nd, S.ne, S.few⟩, of_decide_eq_true b1⟩, htop, eqO_ok b2, b3, a4, E.hs, of_decide_eq_true b4, E⟩, h3, h4⟩
  rw [hnm]
end Hm

set_option Elab.async false
set_option linter.all false
set_option maxRecDepth 100000
set_option maxHeartbeats 2000000
/-! Part F: how calls of error classes bind; function objects by their addresses. -/
namespace L2
open PySem PySem.Spec PyProof.Rows He Hm
def fdOf (K : PySem.W.Frag) (a : Addr) : FuncData := match K.lookup a with
  | some ⟨_, _, .func fd, _⟩ => fd
  | _ => default
theorem fdOf_eq {K : PySem.W.Frag} {a : Addr} {oc : Value} {od : Option Addr} {fd : FuncData} {sl : Array (Option Value)} (h : K.lookup a = some ⟨oc, od, .func fd, sl⟩) : fdOf K a = fd := by
  unfold fdOf
  rw [h]
theorem funD_of {K : PySem.W.Frag} {x qual : Str} {params : Arguments} {body : List Stmt} {scope : Scope} {dvs : List V} {kws : List (Str × V)} {f : Addr} (h : ∃ fd, FunD K x qual params body scope dvs kws f fd) : FunD K x qual params body scope dvs kws f (fdOf K f) := by
  obtain ⟨fd, F⟩ := h
  obtain ⟨oc, od, dV, kV, doc, pm, an, cdv, ct, osl, e, lk, _⟩ := F.ex
  rw [fdOf_eq lk]
  exact F
def pick {α : Type} (d : α) (is : List Nat) (l : List α) : List α := is.map fun i => l.getD i d
theorem Vals.getD {xs : List V} {us : List Value} (r : Vals xs us) (i : Nat) : RelV (xs.getD i .non) (us.getD i .none) := by
  cases h : xs[i]? with
  | some x =>
    obtain ⟨u, hu, ru⟩ := r.get h
    simp only [List.getD_eq_getElem?_getD, h, hu, Option.getD_some]
    exact ru
  | none =>
    have h2 := r.none_of h
    simp only [List.getD_eq_getElem?_getD, h, h2, Option.getD_none]
    rfl
theorem Vals.pick {xs : List V} {us : List Value} (r : Vals xs us) : ∀ is : List Nat, Vals (pick .non is xs) (pick .none is us)
  | [] => .nil
  | i :: is => .cons (r.getD i) (Vals.pick r is)
abbrev gP (is : List Nat) (ds : List Value) : List Value → List Value → List Value := fun us ws => pick .none is (us ++ ws ++ ds)
abbrev gPV (is : List Nat) (dvs : List V) : List V → List V → List V := fun vs zs => pick .non is (vs ++ zs ++ dvs)
theorem erBind_0 {K : PySem.W.Frag} {fd : FuncData} {ps ks : List Str} {n : Nat} {is : List Nat} (hl : is.length = ps.length)
    (h : ∀ (self : Value) (us ws : List Value), us.length = n → ws.length = ks.length → bindArgs fd ⟨self :: us, ks.zip ws⟩ = pure ((("self" : Str) :: ps).zip (self :: gP is [] us ws))) : ErBind K fd ps n ks (gP is []) (gPV is []) :=
  ⟨fun s self us ws _ l1 l2 => ⟨by show (List.map _ is).length = _; rw [List.length_map, hl], .of_eq (h self us ws l1 l2)⟩, fun r rz => Vals.pick ((r.append rz).append .nil) is⟩
theorem erBind_d {K : PySem.W.Frag} {fd : FuncData} {ps ks : List Str} {n : Nat} {is : List Nat} {T : Addr} (hl : is.length = ps.length) (hT : fd.defaults = .ref T) (hD : DflV K fd.defaults [.non])
    (h : ∀ (self : Value) (us ws : List Value), us.length = n → ws.length = ks.length → ∃ k, bindArgs fd ⟨self :: us, ks.zip ws⟩ = seqItems? (.ref T) >>= k ∧ k (some [Value.none].toArray) = pure ((("self" : Str) :: ps).zip (self :: gP is [.none] us ws))) :
    ErBind K fd ps n ks (gP is [.none]) (gPV is [.non]) := by
  rw [hT] at hD
  rcases hD with ⟨e, _⟩ | ⟨_, T', o, its, m, eT, lT, oT, rT⟩
  · cases e
  · cases eT
    have e1 : its = [Value.none] := by
      cases rT with
      | cons r t => cases t; cases r; rfl
    subst e1
    refine ⟨fun s self us ws X l1 l2 => ⟨by show (List.map _ is).length = _; rw [List.length_map, hl], BindsTo.of_looks fun M => ?_⟩, fun r rz => Vals.pick ((r.append rz).append (.cons (show RelV .non Value.none from rfl) .nil)) is⟩
    obtain ⟨k, e1, e2⟩ := h self us ws l1 l2
    rw [e1]
    exact looks_items X lT oT (.of_pure e2)
end L2
namespace L2
open PySem PySem.Spec PyProof.Rows
theorem ErT.fd_eq {P : Program} {K : PySem.W.Frag} {C fI : Addr} {fd : FuncData} {ps : List Str} (h : ErT P K C fI fd ps) : fdOf K fI = fd := by
  obtain ⟨B, newId, initId, bmB, _, _, _, _, TI, _⟩ := h.ex
  obtain ⟨qual, params, body, scope, dV, kV, doc, pm, an, cda, ct, cc, oc, od, osl, stores, msg, j, p0, p1, p2, p3, p4, p5, ap, an2, rest, rfl, lk, _⟩ := TI.ex
  exact fdOf_eq lk
theorem ErT.fd {P : Program} {K : PySem.W.Frag} {C fI : Addr} {fd : FuncData} {ps : List Str} (h : ErT P K C fI fd ps) : ErT P K C fI (fdOf K fI) ps := by
  rw [h.fd_eq]
  exact h
end L2

set_option Elab.async false
set_option linter.all false
set_option maxRecDepth 100000
set_option maxHeartbeats 2000000
/-! The pot of draws: a list [script's ints, int, int, int], told as one thing that draws leave as it is. -/
namespace L2
open PySem PySem.Spec PyProof.Rows
def PotO (p l : Addr) : HO := .ext fun h => ∃ (i c n : Int) (t1 t2 t3 : Tok) (k : Nat), h.get? p = some { cls := .type "list", data := .seq [Value.ref l, .int i t1, .int c t2, .int n t3].toArray k }
theorem PotO_ok {P : Program} {w : World} {H : Hp} {h : Heap} {p l : Addr} {i c n : Int} {t1 t2 t3 : Tok} {k : Nat} (e : h.get? p = some { cls := .type "list", data := .seq [Value.ref l, .int i t1, .int c t2, .int n t3].toArray k }) : ObjOk P w H h p (PotO p l) :=
  ⟨⟨i, c, n, t1, t2, t3, k, e⟩, ⟨_, e⟩, fun h1 h2 z q => by
    obtain ⟨i, c, n, t1, t2, t3, k, e⟩ := z
    exact ⟨i, c, n, t1, t2, t3, k, q _ e⟩⟩
theorem PotO_own {p l x : Addr} : PotO p l ≠ .own x := fun z => by
  have z' : HO.ext _ = HO.own x := z
  cases z'
theorem PotO_tup {p l : Addr} {xs : List V} : PotO p l ≠ .tup xs := fun z => by
  have z' : HO.ext _ = HO.tup xs := z
  cases z'
abbrev potL (l : Addr) (i c n : Int) : HO := .lst [.ref l, .int i, .int c, .int n]
theorem potL_at {P : Program} {w : World} {H : Hp} {h : Heap} {p l : Addr} {i c n : Int} (x : ObjOk P w H h p (potL l i c n)) : ∃ (t1 t2 t3 : Tok) (k : Nat), h.get? p = some { cls := .type "list", data := .seq [Value.ref l, .int i t1, .int c t2, .int n t3].toArray k } := by
  obtain ⟨_, its, k, r, e⟩ := x
  cases r with
  | cons r1 r => cases r with
    | cons r2 r => cases r with
      | cons r3 r => cases r with
        | cons r4 r =>
          cases r
          cases r1
          obtain ⟨t1, rfl⟩ := r2
          obtain ⟨t2, rfl⟩ := r3
          obtain ⟨t3, rfl⟩ := r4
          exact ⟨t1, t2, t3, k, e⟩
/-- the abstract heap may be read anew at p, from u to u', none of them an own dict or a tuple -/
theorem HOk.reseal {P : Program} {w : World} {H : Hp} {h : Heap} {p : Addr} {u u' : HO} (ok : HOk P w H h) (hp : H p = some u) (hu : ∀ x, u ≠ .own x) (ht : ∀ xs, u ≠ .tup xs) (new : ObjOk P w (upd H p u') h p u') : HOk P w (upd H p u') h := fun b o e => by
  by_cases hb : b = p
  · subst hb
    rw [upd_same] at e
    cases e
    exact new
  · rw [upd_ne hb] at e
    refine (ok b o e).stay (fun c v _ q => q) (fun c q => ?_) fun c xs q => ?_
    · rw [upd_ne (fun z => by rw [z, hp] at q; exact hu _ (Option.some.inj q))]; exact q
    · rw [upd_ne (fun z => by rw [z, hp] at q; exact ht _ (Option.some.inj q))]; exact q
theorem Env0.reseal {P : Program} {w : World} {K : PySem.W.Frag} {mg : Str → Option Value} {base : Heap} {A : Around} {outer : List Env} {s : Shared} {H : Hp} {p : Addr} {u u' : HO} (e : Env0 P w K mg base A outer s H) (hp : H p = some u) (ok : HOk P w (upd H p u') s.heap) :
    Env0 P w K mg base A outer s (upd H p u') :=
  have np : ∀ b, H b = none → b ≠ p := fun b n z => by rw [z, hp] at n; cases n
  ⟨e.frames, e.mod, fun b o q => ⟨(e.bs b o q).1, by rw [upd_ne (np b (e.bs b o q).2)]; exact (e.bs b o q).2⟩, e.bsz, e.funs, fun b hb => by rw [upd_ne (np b (e.frf b hb))]; exact e.frf b hb, ok, e.bare⟩
theorem upd_id {H : Hp} {p : Addr} {u : HO} (h : H p = some u) : upd H p u = H := by
  funext b
  by_cases hb : b = p
  · rw [hb, upd_same, h]
  · rw [upd_ne hb]

/-- the pot of draws at p -/
def Pot (K : PySem.W.Frag) (H : Hp) (p : Addr) : Prop := ∃ l ns, H p = some (PotO p l) ∧ SqL K H l (ns.map V.int) ∧ ns ≠ [] ∧ ns.length ≤ 64
theorem Pot.same {K : PySem.W.Frag} {H H' : Hp} {p : Addr} (h : Pot K H p) (s : Same H H') : Pot K H' p := by
  obtain ⟨l, ns, h1, h2, h3, h4⟩ := h
  exact ⟨l, ns, s _ _ h1, s.seq h2, h3, h4⟩
/-- a draw, over the opened pot -/
def spDraw1 (K : PySem.W.Frag) : Sp := fun vs H Q _ => ∃ (p l : Addr) (many i c n : Int) (ns : List Int), vs = [.ref p, .int many] ∧ H p = some (potL l i c n) ∧ SqL K H l (ns.map V.int) ∧ p ≠ l ∧ ns ≠ [] ∧ ns.length ≤ 64 ∧ 0 < many ∧ many < 2 ^ 100 ∧
  ∀ d i' c' n', 0 ≤ d → d < many → Q (.int d) (upd H p (potL l i' c' n'))
/-- a draw -/
def spDraw (K : PySem.W.Frag) : Sp := fun vs H Q _ => ∃ (p : Addr) (many : Int), vs = [.ref p, .int many] ∧ Pot K H p ∧ 0 < many ∧ many < 2 ^ 100 ∧ ∀ d, 0 ≤ d → d < many → Q (.int d) H
theorem Rd.ne {H : Hp} {a b : Addr} {u v : HO} (h : H a = some u) (r : Rd H b v) (h1 : u ≠ v) (h2 : ∀ o w, u ≠ .frz o w) : a ≠ b := fun z => by
  subst z
  rcases r with r | ⟨o, r⟩
  · rw [h] at r; exact h1 (Option.some.inj r)
  · rw [h] at r; exact h2 _ _ (Option.some.inj r)
theorem PotO_lst {p l : Addr} {xs : List V} : PotO p l ≠ .lst xs := fun z => by
  have z' : HO.ext _ = HO.lst xs := z
  cases z'
theorem PotO_frz {p l : Addr} {o : Obj} {u : HO} : PotO p l ≠ .frz o u := fun z => by
  have z' : HO.ext _ = HO.frz o u := z
  cases z'
theorem draw_seal {P : Program} {w : World} {K : PySem.W.Frag} {mg : Str → Option Value} {base : Heap} {CX : CXT} {k : Nat} {f : Addr} {fd : FuncData} {ps : List Str} (F : FnOk P w K mg base CX k f fd ps (spDraw1 K)) (hps : ps.length = 2)
    (hE : ∀ outer H H1 s (E E1 : XK) e s', CX outer H1 s E1 e s' → CX outer H s E e s') : FnOk P w K mg base CX k f fd ps (spDraw K) := by
  refine ⟨fun vs H Q E h => ?_, fun A outer s H args us vs Q E hr e0 hb hv hsp => ?_⟩
  · obtain ⟨p, many, rfl, _⟩ := h
    exact hps.symm
  · obtain ⟨p, many, rfl, ⟨l, ns, hp, hl, hne, hlen⟩, h0, h100, q⟩ := hsp
    obtain ⟨⟨i, c, n, t1, t2, t3, k0, e1⟩, _, _⟩ := e0.hok p _ hp
    have new : ObjOk P w (upd H p (potL l i c n)) s.heap p (potL l i c n) := ⟨by show 4 ≤ sizeLine; rw [sizeLine_eq]; decide, _, k0, .cons rfl (.cons ⟨t1, rfl⟩ (.cons ⟨t2, rfl⟩ (.cons ⟨t3, rfl⟩ .nil))), e1⟩
    have ok1 := e0.hok.reseal hp (fun _ => PotO_own) (fun _ => PotO_tup) new
    have e01 := e0.reseal hp ok1
    have npl : p ≠ l := by
      rcases hl with hl | ⟨o, its, m, hk, hc, _⟩
      · exact hl.ne hp PotO_lst (fun _ _ => PotO_frz)
      · intro z
        have := (e0.bs l o (e0.mod.kin l o hk)).2
        rw [← z, hp] at this
        cases this
    have hl1 : SqL K (upd H p (potL l i c n)) l (ns.map V.int) := by
      rcases hl with (hl | ⟨o, hl⟩) | hl
      · exact .inl (.inl (by rw [upd_ne npl.symm]; exact hl))
      · exact .inl (.inr ⟨o, by rw [upd_ne npl.symm]; exact hl⟩)
      · exact .inr hl
    refine codeAny_mono (F.run A outer s (upd H p (potL l i c n)) args us [.ref p, .int many] (fun v H' => ∃ d i' c' n', 0 ≤ d ∧ d < many ∧ v = .int d ∧ H' = upd (upd H p (potL l i c n)) p (potL l i' c' n')) E hr e01 hb hv
      ⟨p, l, many, i, c, n, ns, rfl, upd_same, hl1, npl, hne, hlen, h0, h100, fun d i' c' n' a b => ⟨d, i', c', n', a, b, rfl, rfl⟩⟩) fun r s' hq => ?_
    cases r with
    | error e => exact hE outer H _ s E E e s' hq
    | ok fl =>
      cases fl with
      | ret u =>
        obtain ⟨v, H', os, bare, un, hok, rv, d, i', c', n', d0, d1, rfl, rfl⟩ := hq
        rw [upd_upd] at un hok
        have np : ∀ b, H b = none → b ≠ p := fun b nn z => by rw [z, hp] at nn; cases nn
        have up : ∀ b, H b = none → upd H p (potL l i c n) b = none := fun b nn => by rw [upd_ne (np b nn)]; exact nn
        refine ⟨.int d, H, os, bare, ⟨fun b o q1 nn hf hx => un.keep b o q1 (up b nn) hf hx, fun b o q1 nn hf hx => un.slot b o q1 (up b nn) hf hx, fun b o q1 nn hx => nn, fun b o q1 hx => un.there b o q1 hx, fun b xs q1 => q1, fun b o u q1 => q1, fun b ps q1 => ⟨#[], by rw [q1]; simp⟩⟩, ?_, rv, q d d0 d1⟩
        obtain ⟨t1', t2', t3', k1, e2⟩ := potL_at (hok p _ upd_same)
        have back := hok.reseal (u' := PotO p l) upd_same (fun x z => by cases z) (fun xs z => by cases z) (PotO_ok e2)
        rw [upd_upd, upd_id hp] at back
        exact back
      | next => exact False.elim hq
      | brk => exact False.elim hq
      | cont => exact False.elim hq
end L2

set_option Elab.async false
set_option linter.all false
set_option maxRecDepth 100000
set_option maxHeartbeats 2000000
/-! == and != of plain data (texts of any signs); things as the law draws them. -/
namespace L2
open PySem PySem.Spec PyProof.Rows
def rEqP (K : PySem.W.Frag) (neg : Bool) : R2 := fun x y H Q => ∃ d e, Dp K H x d ∧ Dp K H y e ∧ d.plain = true ∧ e.plain = true ∧ d.depth ≤ 64 ∧ Q (.bl (xor neg (PyData.eqv d e))) H
section
variable {X : Cx}
theorem op_eqP (hu : X.A.units + 64 < cLine) : OpR X (compareOp .Eq) (rEqP X.K false) := by
  intro pins s σ H x y v u Q I rx ry h
  obtain ⟨d, e, hd, he, sd, se, dd, q⟩ := h
  obtain ⟨as, r1⟩ := Dp.reads I d x v hd rx
  obtain ⟨bs, r2⟩ := Dp.reads I e y u he ry
  exact SeqAt.eq_plain r1 r2 sd se (Nat.lt_of_le_of_lt (Nat.add_le_add_left (Nat.le_trans (Nat.min_le_left _ _) dd) _) hu) ⟨.bl _, H, I, rfl, by simpa using q⟩
theorem op_neP (hu : X.A.units + 64 < cLine) : OpR X (compareOp .NotEq) (rEqP X.K true) := by
  intro pins s σ H x y v u Q I rx ry h
  obtain ⟨d, e, hd, he, sd, se, dd, q⟩ := h
  obtain ⟨as, r1⟩ := Dp.reads I d x v hd rx
  obtain ⟨bs, r2⟩ := Dp.reads I e y u he ry
  exact SeqAt.ne_plain r1 r2 sd se (Nat.lt_of_le_of_lt (Nat.add_le_add_left (Nat.le_trans (Nat.min_le_left _ _) dd) _) hu) ⟨.bl _, H, I, rfl, by simpa using q⟩
end
theorem Same.seqT {K : PySem.W.Frag} {H H' : Hp} {a : Addr} {xs : List V} (e : Same H H') (h : SqT K H a xs) : SqT K H' a xs := by
  rcases h with h | h
  · rcases h with h | ⟨o, h⟩
    · exact .inl (.inl (e _ _ h))
    · exact .inl (.inr ⟨o, e _ _ h⟩)
  · exact .inr h
mutual
theorem Dp.same {K : PySem.W.Frag} {H H' : Hp} (e : Same H H') : ∀ {v : V} {d : PyData}, Dp K H v d → Dp K H' v d
  | _, _, .non => .non
  | _, _, .bl b => .bl b
  | _, _, .int b => .int b
  | _, _, .str b => .str b
  | _, _, .lst h k => .lst (e.seq h) (DpAll.same e k)
  | _, _, .tup h k => .tup (e.seqT h) (DpAll.same e k)
theorem DpAll.same {K : PySem.W.Frag} {H H' : Hp} (e : Same H H') : ∀ {v : List V} {d : List PyData}, DpAll K H v d → DpAll K H' v d
  | _, _, .nil => .nil
  | _, _, .cons h k => .cons (Dp.same e h) (DpAll.same e k)
end
end L2

set_option Elab.async false
set_option linter.all false
set_option maxRecDepth 100000
set_option maxHeartbeats 2000000
namespace L2
open PySem PySem.Spec PyProof.Rows
theorem Un.reseal {fs ex : List Addr} {H H' : Hp} {h h' : Heap} {p : Addr} {u u' : HO} (un : Un fs ex H H' h h') (hp : H' p = some u) (ht : ∀ xs, u ≠ .tup xs) (hf : ∀ o v, u ≠ .frz o v) (hb : ∀ ps, u ≠ .tbl ps) : Un fs ex H (upd H' p u') h h' :=
  have ne : ∀ {b o}, H' b = some o → u ≠ o → b ≠ p := fun q n z => by rw [z, hp] at q; exact n (Option.some.inj q)
  ⟨un.keep, un.slot, fun b o q1 n hx => by
      have z := un.free b o q1 n hx
      rw [upd_ne (fun z2 => by rw [z2, hp] at z; cases z)]; exact z, un.there,
    fun b xs q => by have z := un.tups b xs q; rw [upd_ne (ne z (ht xs))]; exact z,
    fun b o v q => by have z := un.frzs b o v q; rw [upd_ne (ne z (hf o v))]; exact z,
    fun b ps q => by obtain ⟨more, z⟩ := un.tbls b ps q; exact ⟨more, by rw [upd_ne (ne z (hb _))]; exact z⟩⟩
theorem Same.new {H : Hp} {l : Addr} {o : HO} (h : H l = none) : Same H (upd H l o) := fun b u e => by rw [upd_ne (ne_of_none e h)]; exact e
/-- the pot's making: opened, and sealed -/
def spPot1 (K : PySem.W.Frag) : Sp := fun vs H Q _ => ∃ (a : Addr) (ns : List Int), vs = [.ref a] ∧ SqL K H a (ns.map V.int) ∧ ns.length ≤ 63 ∧ ∀ p l H1 ns', Same H H1 → H1 p = none → H1 l = some (.lst (ns'.map V.int)) → ns' ≠ [] → ns'.length ≤ 64 → Q (.ref p) (upd H1 p (potL l 0 0 0))
def spPot (K : PySem.W.Frag) : Sp := fun vs H Q _ => ∃ (a : Addr) (ns : List Int), vs = [.ref a] ∧ SqL K H a (ns.map V.int) ∧ ns.length ≤ 63 ∧ ∀ p H', Same H H' → H p = none → Pot K H' p → Q (.ref p) H'
theorem pot_seal {P : Program} {w : World} {K : PySem.W.Frag} {mg : Str → Option Value} {base : Heap} {CX : CXT} {k : Nat} {f : Addr} {fd : FuncData} {ps : List Str} (F : FnOk P w K mg base CX k f fd ps (spPot1 K)) :
    FnOk P w K mg base CX k f fd ps (spPot K) := by
  refine ⟨fun vs H Q E h => ?_, fun A outer s H args us vs Q E hr e0 hb hv hsp => ?_⟩
  · obtain ⟨a, ns, rfl, h1, h2, _⟩ := h
    exact F.len [.ref a] H (fun _ _ => True) E ⟨a, ns, rfl, h1, h2, fun _ _ _ _ _ _ _ _ _ => trivial⟩
  · obtain ⟨a, ns, rfl, h1, h2, q⟩ := hsp
    refine codeAny_mono (F.run A outer s H args us [.ref a] (fun v H' => ∃ p l H1 ns', Same H H1 ∧ H1 p = none ∧ H1 l = some (.lst (ns'.map V.int)) ∧ ns' ≠ [] ∧ ns'.length ≤ 64 ∧ v = .ref p ∧ H' = upd H1 p (potL l 0 0 0)) E hr e0 hb hv
      ⟨a, ns, rfl, h1, h2, fun p l H1 ns' a1 a2 a3 a4 a5 => ⟨p, l, H1, ns', a1, a2, a3, a4, a5, rfl, rfl⟩⟩) fun r s' hq => ?_
    cases r with
    | error e => exact hq
    | ok fl =>
      cases fl with
      | ret u =>
        obtain ⟨v, H', os, bare, un, hok, rv, p, l, H1, ns', b1, b2, b3, b4, b5, rfl, rfl⟩ := hq
        obtain ⟨t1', t2', t3', k1, e2⟩ := potL_at (hok p _ upd_same)
        have back := hok.reseal (u' := PotO p l) upd_same (fun x z => by cases z) (fun xs z => by cases z) (PotO_ok e2)
        have un2 := un.reseal (u' := PotO p l) upd_same (fun x z => by cases z) (fun x y z => by cases z) (fun x z => by cases z)
        rw [upd_upd] at back un2
        have same : Same H (upd H1 p (PotO p l)) := fun b o e => by
          have z := b1 b o e
          rw [upd_ne (ne_of_none z b2)]; exact z
        exact ⟨.ref p, _, os, bare, un2, back, rv, q p _ same (b1.free b2) ⟨l, ns', upd_same, .inl (.inl (by rw [upd_ne (ne_of_none b3 b2)]; exact b3)), b4, b5⟩⟩
      | next => exact False.elim hq
      | brk => exact False.elim hq
      | cont => exact False.elim hq

/-- a thing as the laws of errors draw it -/
inductive Th (H : Hp) : V → PyData → Prop
  | non : Th H .non .none
  | bl (b : Bool) : Th H (.bl b) (.bool b)
  | int (i : Int) : Th H (.int i) (.int i)
  | str (x : Str) : Th H (.str x) (.str x)
  | pr {a : Addr} (i : Int) (x : Str) : H a = some (.tup [.int i, .str x]) → Th H (.ref a) (.tuple [.int i, .str x])
  | ls {a : Addr} (x : Str) : H a = some (.lst [.str x, .non]) → Th H (.ref a) (.list [.str x, .none])
theorem Th.same {H H' : Hp} {v : V} {d : PyData} (e : Same H H') (h : Th H v d) : Th H' v d := by
  cases h with
  | non => exact .non
  | bl b => exact .bl b
  | int i => exact .int i
  | str x => exact .str x
  | pr i x h => exact .pr i x (e _ _ h)
  | ls x h => exact .ls x (e _ _ h)
theorem Th.dp {K : PySem.W.Frag} {H : Hp} {v : V} {d : PyData} (h : Th H v d) : Dp K H v d := by
  cases h with
  | non => exact .non
  | bl b => exact .bl b
  | int i => exact .int i
  | str x => exact .str x
  | pr i x h => exact .tup (SqT.of h) (.cons (.int _) (.cons (.str _) .nil))
  | ls x h => exact .lst (SqL.of h) (.cons (.str _) (.cons .non .nil))
theorem Th.plain {H : Hp} {v : V} {d : PyData} (h : Th H v d) : d.plain = true ∧ d.depth ≤ 2 := by
  cases h <;> refine ⟨rfl, ?_⟩ <;> simp [PyData.depth, PyData.depthAll]
inductive ThAll (H : Hp) : List V → List PyData → Prop
  | nil : ThAll H [] []
  | cons {v : V} {d : PyData} {vs : List V} {ds : List PyData} : Th H v d → ThAll H vs ds → ThAll H (v :: vs) (d :: ds)
theorem ThAll.same {H H' : Hp} (e : Same H H') {v : List V} {d : List PyData} (h : ThAll H v d) : ThAll H' v d := by
  induction h with
  | nil => exact .nil
  | cons a _ ih => exact .cons (a.same e) ih
theorem ThAll.dp {K : PySem.W.Frag} {H : Hp} {v : List V} {d : List PyData} (h : ThAll H v d) : DpAll K H v d := by
  induction h with
  | nil => exact .nil
  | cons a _ ih => exact .cons a.dp ih
theorem ThAll.plain {H : Hp} {v : List V} {d : List PyData} (h : ThAll H v d) : PyData.plainAll d = true ∧ PyData.depthAll d ≤ 2 := by
  induction h with
  | nil => exact ⟨rfl, Nat.zero_le _⟩
  | cons a _ ih =>
    refine ⟨?_, ?_⟩
    · rw [PyData.plainAll, a.plain.1, ih.1]; rfl
    · rw [PyData.depthAll]; exact Nat.max_le.mpr ⟨a.plain.2, ih.2⟩
/-- is the thing a truth value -/
def isB : V → Bool
  | .bl _ => true
  | _ => false
theorem Th.isB {K : PySem.W.Frag} {H : Hp} {v : V} {d : PyData} (h : Th H v d) : ∃ t, TyX K H v t ∧ PySem.W.kitOne K t (.type "bool") = some (L2.isB v) := by
  cases h with
  | non => exact ⟨_, .base .non, by rfl⟩
  | bl b => exact ⟨_, .base (.bl b), by rfl⟩
  | int i => exact ⟨_, .base (.int i), by rfl⟩
  | str x => exact ⟨_, .base (.str x), by rfl⟩
  | pr i x h => exact ⟨_, .base (.tup h), by rfl⟩
  | ls x h => exact ⟨_, .base (.lst h), by rfl⟩
/-- a text drawn -/
def spText (K : PySem.W.Frag) : Sp := fun vs H Q _ => ∃ (p : Addr) (most : Int), vs = [.ref p, .int most] ∧ Pot K H p ∧ 0 ≤ most ∧ most < 2 ^ 20 ∧ ∀ x H', Same H H' → Q (.str x) H'
/-- a thing drawn -/
def spThing (K : PySem.W.Frag) : Sp := fun vs H Q _ => ∃ (p : Addr), vs = [.ref p] ∧ Pot K H p ∧ ∀ v d H', Same H H' → Th H' v d → (∀ b, v = .ref b → H b = none) → Q v H'
theorem Th.upd {H : Hp} {v : V} {d : PyData} {D : Addr} {o : HO} (h : Th H v d) (n : ∀ b, v = .ref b → b ≠ D) : Th (L2.upd H D o) v d := by
  cases h with
  | non => exact .non
  | bl b => exact .bl b
  | int i => exact .int i
  | str x => exact .str x
  | pr i x h => exact .pr i x (by rw [upd_ne (n _ rfl)]; exact h)
  | ls x h => exact .ls x (by rw [upd_ne (n _ rfl)]; exact h)
theorem ThAll.upd {H : Hp} {D : Addr} {o : HO} {vs : List V} {ds : List PyData} (h : ThAll H vs ds) (n : ∀ v ∈ vs, ∀ b, v = .ref b → b ≠ D) : ThAll (L2.upd H D o) vs ds := by
  induction h with
  | nil => exact .nil
  | cons a _ ih => exact .cons (a.upd (n _ List.mem_cons_self)) (ih fun v m => n v (List.mem_cons_of_mem _ m))
theorem ThAll.snoc {H : Hp} {vs : List V} {ds : List PyData} {v : V} {d : PyData} (h : ThAll H vs ds) (a : Th H v d) : ThAll H (vs ++ [v]) (ds ++ [d]) := by
  induction h with
  | nil => exact .cons a .nil
  | cons b _ ih => exact .cons b ih
end L2

set_option Elab.async false
set_option linter.all false
set_option maxRecDepth 100000
set_option maxHeartbeats 2000000
namespace L2
open PySem PySem.Spec PyProof.Rows
def eqb (k : Bool) : Value → Bool
  | .bool b => b == k
  | _ => false
theorem bools_of : ∀ {bs : List Bool} {us : List Value}, Vals (bs.map V.bl) us → us = bs.map Value.bool
  | [], us, r => by
    rw [List.map_nil] at r
    cases r
    rfl
  | b :: bs, us, r => by
    rw [List.map_cons] at r
    cases r with
    | cons r1 r2 =>
      cases r1
      rw [bools_of r2]
      rfl
theorem eqb_count (k : Bool) : ∀ bs : List Bool, (bs.map Value.bool).countP (eqb k) = bs.count k
  | [] => rfl
  | b :: bs => by
    rw [List.map_cons, List.countP_cons, List.count_cons, eqb_count k bs]
    rfl
def rCntB (K : PySem.W.Frag) : V → List V → Hp → VK → Prop := fun x xs H Q => ∃ (p : Addr) (bs : List Bool) (k : Bool), x = .ref p ∧ xs = [.bl k] ∧ SqL K H p (bs.map V.bl) ∧ Q (.int (bs.count k : Nat)) H
theorem mt_lcountB {X : Cx} : MtR X "list.count" (rCntB X.K) := by
  intro pins s σ H x xs v us Q I rx rxs h
  obtain ⟨p, bs, k, rfl, rfl, hs, q⟩ := h
  cases rx
  obtain ⟨u, rfl, ru⟩ := rxs.one
  cases (show u = Value.bool k from ru)
  obtain ⟨its, rv, ⟨⟨cls, dd, data, sl⟩, n, ho, hc, hdn, hd⟩, hlen⟩ := I.list hs
  simp only at hc hd
  subst hc hd
  have hi := bools_of rv
  subst hi
  refine call_meets PySem.F.slot_list_count ⟨_, ho, rfl⟩ PySem.F.entry_list_count (PySem.F.args_list_count_2 _ _)
    (SeqAt.list_countAt p (bs.map Value.bool).toArray n dd sl (.bool k) (eqb k)) ⟨ho, fun y hy => ?_, ?_⟩
  · obtain ⟨b, _, rfl⟩ := List.mem_map.mp (by simpa using hy : y ∈ bs.map Value.bool)
    exact SeqAt.EqAt.bool_bool b k
  · refine ⟨.int (bs.count k : Nat), H, I.tok _, ⟨s.toks, ?_⟩, q⟩
    show Value.int (((bs.map Value.bool).toArray.toList.countP (eqb k) : Nat) : Int) s.toks = Value.int ((bs.count k : Nat) : Int) s.toks
    rw [show (bs.map Value.bool).toArray.toList = bs.map Value.bool from rfl, eqb_count]
end L2

set_option Elab.async false
set_option linter.all false
set_option maxRecDepth 100000
set_option maxHeartbeats 0
namespace K96
open PySem PySem.Spec PyProof.Rows L2 He Hm
def top (i : Nat) : Stmt := PySem.Challenge.pw_markedblocks_k96_errors_made.main.body.getD i (.Pass ⟨0, 0, 0, 0⟩)
def dfn (x : Str) (i : Nat) : DefX := { at_ := fun K => ga K x, name := x, qual := x, params := defArgs (top i), body := defBody (top i), scope := defScope (top i) }
def din (x : Str) (q : Str) (i : Nat) (dfl : List Dv) : DefX := { at_ := fun K => ma K (ga K x) "__init__", name := "__init__", qual := q, params := defArgs (inClass (top i) 0), body := defBody (inClass (top i) 0), scope := defScope (inClass (top i) 0), dfl := dfl, clo := [("__class__" : Str)] }
def fn : List DefX := [dfn "_law_draw" 21,
  dfn "_law_pot" 22,
  dfn "_law_text" 23,
  dfn "_law_thing" 24,
  dfn "_law_made" 25,
  dfn "_law_more_made" 26,
  dfn "_law_named" 27,
  dfn "_law_fields" 28,
  dfn "_law_classes" 29,
  dfn "_law_bases" 30,
  dfn "_law_equal" 31,
  dfn "law" 32,
  din "BadLine" "BadLine.__init__" 1 [],
  din "BadMarks" "BadMarks.__init__" 2 [],
  din "BadPlace" "BadPlace.__init__" 3 [],
  din "BadName" "BadName.__init__" 4 [],
  din "BadText" "BadText.__init__" 5 [],
  din "BadFile" "BadFile.__init__" 6 [],
  din "BadTool" "BadTool.__init__" 7 [],
  din "BadMachine" "BadMachine.__init__" 8 [],
  din "NoName" "NoName.__init__" 9 [],
  din "NoStep" "NoStep.__init__" 10 [],
  din "NoRun" "NoRun.__init__" 11 [],
  din "NoStrict" "NoStrict.__init__" 12 [],
  din "TooHeavy" "TooHeavy.__init__" 13 [],
  din "TooMany" "TooMany.__init__" 14 [],
  din "Refused" "Refused.__init__" 15 [.non],
  din "Ambiguous" "Ambiguous.__init__" 16 [],
  din "Unlike" "Unlike.__init__" 17 [],
  din "Twice" "Twice.__init__" 18 [],
  din "Stopped" "Stopped.__init__" 19 []]
def bmValueError : List Value := [.type "ValueError", .type "Exception", .type "BaseException", .type "object"]
def bmTypeError : List Value := [.type "TypeError", .type "Exception", .type "BaseException", .type "object"]
def bmLookupError : List Value := [.type "LookupError", .type "Exception", .type "BaseException", .type "object"]
def bmOverflowError : List Value := [.type "OverflowError", .type "ArithmeticError", .type "Exception", .type "BaseException", .type "object"]
def bmRuntimeError : List Value := [.type "RuntimeError", .type "Exception", .type "BaseException", .type "object"]
def clsN : List Str := ["BadLine", "BadMarks", "BadPlace", "BadName", "BadText", "BadFile", "BadTool", "BadMachine", "NoName", "NoStep", "NoRun", "NoStrict", "TooHeavy", "TooMany", "Refused", "Ambiguous", "Unlike", "Twice", "Stopped"]
def btN : List String := ["ValueError", "TypeError", "LookupError", "OverflowError", "RuntimeError"]
def baseOf (k : Nat) : Nat := if k < 5 then 0 else if k < 8 then 1 else if k < 12 then 2 else if k < 14 then 3 else 4
def kitRow (K : PySem.W.Frag) (i : Nat) : Bool := ((List.range 19).all fun j => PySem.W.kitOne K (.ref (ga K (clsN.getD i ""))) (.ref (ga K (clsN.getD j ""))) == some (i == j)) && (List.range 5).all fun j => PySem.W.kitOne K (.ref (ga K (clsN.getD i ""))) (.type (btN.getD j "")) == some (j == baseOf i)
def kitAll (K : PySem.W.Frag) : Bool := (List.range 19).all (kitRow K)
def fa : List (PySem.W.Frag → Bool) := [fun K => (Fa.glo "BadLine").ok K,
  fun K => (Fa.glo "BadMarks").ok K,
  fun K => (Fa.glo "BadPlace").ok K,
  fun K => (Fa.glo "BadName").ok K,
  fun K => (Fa.glo "BadText").ok K,
  fun K => (Fa.glo "BadFile").ok K,
  fun K => (Fa.glo "BadTool").ok K,
  fun K => (Fa.glo "BadMachine").ok K,
  fun K => (Fa.glo "NoName").ok K,
  fun K => (Fa.glo "NoStep").ok K,
  fun K => (Fa.glo "NoRun").ok K,
  fun K => (Fa.glo "NoStrict").ok K,
  fun K => (Fa.glo "TooHeavy").ok K,
  fun K => (Fa.glo "TooMany").ok K,
  fun K => (Fa.glo "Refused").ok K,
  fun K => (Fa.glo "Ambiguous").ok K,
  fun K => (Fa.glo "Unlike").ok K,
  fun K => (Fa.glo "Twice").ok K,
  fun K => (Fa.glo "Stopped").ok K,
  fun K => (Fa.glo "_law_draw").ok K,
  fun K => (Fa.glo "_law_pot").ok K,
  fun K => (Fa.glo "_law_text").ok K,
  fun K => (Fa.glo "_law_thing").ok K,
  fun K => (Fa.glo "_law_made").ok K,
  fun K => (Fa.glo "_law_more_made").ok K,
  fun K => (Fa.glo "_law_named").ok K,
  fun K => (Fa.glo "_law_fields").ok K,
  fun K => (Fa.glo "_law_classes").ok K,
  fun K => (Fa.glo "_law_bases").ok K,
  fun K => (Fa.glo "_law_equal").ok K,
  fun K => (Fa.glo "law").ok K,
  fun K => (Fa.free "len").ok K,
  fun K => (Fa.free "int").ok K,
  fun K => (Fa.free "list").ok K,
  fun K => (Fa.free "range").ok K,
  fun K => (Fa.free "isinstance").ok K,
  fun K => (Fa.free "bool").ok K,
  fun K => (Fa.free "ValueError").ok K,
  fun K => (Fa.free "TypeError").ok K,
  fun K => (Fa.free "LookupError").ok K,
  fun K => (Fa.free "OverflowError").ok K,
  fun K => (Fa.free "RuntimeError").ok K,
  fun K => erB PySem.Challenge.pw_markedblocks_k96_errors_made.main.file "BadLine" "ValueError" "ValueError.__new__" "ValueError.__init__" bmValueError [("line" : Str)] K,
  fun K => erB PySem.Challenge.pw_markedblocks_k96_errors_made.main.file "BadMarks" "ValueError" "ValueError.__new__" "ValueError.__init__" bmValueError [("line" : Str)] K,
  fun K => erB PySem.Challenge.pw_markedblocks_k96_errors_made.main.file "BadPlace" "ValueError" "ValueError.__new__" "ValueError.__init__" bmValueError [("word" : Str)] K,
  fun K => erB PySem.Challenge.pw_markedblocks_k96_errors_made.main.file "BadName" "ValueError" "ValueError.__new__" "ValueError.__init__" bmValueError [("name" : Str)] K,
  fun K => erB PySem.Challenge.pw_markedblocks_k96_errors_made.main.file "BadText" "ValueError" "ValueError.__new__" "ValueError.__init__" bmValueError [("text" : Str)] K,
  fun K => erB PySem.Challenge.pw_markedblocks_k96_errors_made.main.file "BadFile" "TypeError" "TypeError.__new__" "TypeError.__init__" bmTypeError [("index" : Str)] K,
  fun K => erB PySem.Challenge.pw_markedblocks_k96_errors_made.main.file "BadTool" "TypeError" "TypeError.__new__" "TypeError.__init__" bmTypeError [("part" : Str)] K,
  fun K => erB PySem.Challenge.pw_markedblocks_k96_errors_made.main.file "BadMachine" "TypeError" "TypeError.__new__" "TypeError.__init__" bmTypeError [("part" : Str), ("index" : Str)] K,
  fun K => erB PySem.Challenge.pw_markedblocks_k96_errors_made.main.file "NoName" "LookupError" "LookupError.__new__" "LookupError.__init__" bmLookupError [("name" : Str)] K,
  fun K => erB PySem.Challenge.pw_markedblocks_k96_errors_made.main.file "NoStep" "LookupError" "LookupError.__new__" "LookupError.__init__" bmLookupError [("step" : Str)] K,
  fun K => erB PySem.Challenge.pw_markedblocks_k96_errors_made.main.file "NoRun" "LookupError" "LookupError.__new__" "LookupError.__init__" bmLookupError [("read" : Str)] K,
  fun K => erB PySem.Challenge.pw_markedblocks_k96_errors_made.main.file "NoStrict" "LookupError" "LookupError.__new__" "LookupError.__init__" bmLookupError [("name" : Str)] K,
  fun K => erB PySem.Challenge.pw_markedblocks_k96_errors_made.main.file "TooHeavy" "OverflowError" "OverflowError.__new__" "OverflowError.__init__" bmOverflowError [("total" : Str)] K,
  fun K => erB PySem.Challenge.pw_markedblocks_k96_errors_made.main.file "TooMany" "OverflowError" "OverflowError.__new__" "OverflowError.__init__" bmOverflowError [("limit" : Str)] K,
  fun K => erB PySem.Challenge.pw_markedblocks_k96_errors_made.main.file "Refused" "RuntimeError" "RuntimeError.__new__" "RuntimeError.__init__" bmRuntimeError [("name" : Str), ("index" : Str), ("fault" : Str), ("path" : Str), ("cause" : Str)] K,
  fun K => erB PySem.Challenge.pw_markedblocks_k96_errors_made.main.file "Ambiguous" "RuntimeError" "RuntimeError.__new__" "RuntimeError.__init__" bmRuntimeError [("file" : Str)] K,
  fun K => erB PySem.Challenge.pw_markedblocks_k96_errors_made.main.file "Unlike" "RuntimeError" "RuntimeError.__new__" "RuntimeError.__init__" bmRuntimeError [("file" : Str)] K,
  fun K => erB PySem.Challenge.pw_markedblocks_k96_errors_made.main.file "Twice" "RuntimeError" "RuntimeError.__new__" "RuntimeError.__init__" bmRuntimeError [("name" : Str)] K,
  fun K => erB PySem.Challenge.pw_markedblocks_k96_errors_made.main.file "Stopped" "RuntimeError" "RuntimeError.__new__" "RuntimeError.__init__" bmRuntimeError [("number" : Str), ("reason" : Str)] K,
  kitAll]
abbrev R : PySem.W.OpenRow := PySem.W.OpenLaw.row PySem.Challenge.rw_markedblocks_k96_errors_made
abbrev hk : PySem.W.Hook := hookM 4 fa fn
def ob (s : PySem.W.SharedT) : AlM := obsMG 4 fa fn (HandSHeadRun.getT s)
theorem ob_eq (s : PySem.W.SharedT) : ob s = hk.obs s.abs := obsMG_eq (HandSHeadRun.getT_eq s)
def loose : List Str := ["BadLine", "BadMarks", "BadPlace", "BadName", "BadText", "BadFile", "BadTool", "BadMachine", "NoName", "NoStep", "NoRun", "NoStrict", "TooHeavy", "TooMany", "Refused", "Ambiguous", "Unlike", "Twice", "Stopped", "_law_draw", "_law_pot", "_law_text", "_law_thing", "_law_made", "_law_more_made", "_law_named", "_law_fields", "_law_classes", "_law_bases", "_law_equal"]
theorem run (w : World) : HandSHeadRun.RunEq R (PySem.W.view R.prog [32]) hk ob 20000 loose w := by
  intro os
  kernel_rfl
end K96

set_option Elab.async false
set_option linter.all false
set_option maxRecDepth 100000
set_option maxHeartbeats 4000000
namespace K96
open PySem PySem.Spec PyProof.Rows L2 He Hm
structure At (K : PySem.W.Frag) (mg : Str → Option Value) : Prop where
  says : SaysM fa fn K
  mgs : ∀ x v, PySem.W.nsIn K mainGlobals x = some v → mg x = v
section
variable {K : PySem.W.Frag} {mg : Str → Option Value}
theorem g_BadLine (A : At K mg) : mg "BadLine" = some (.ref (ga K "BadLine")) := A.mgs _ _ (eqO_ok (A.says.fact 0))
theorem g_BadMarks (A : At K mg) : mg "BadMarks" = some (.ref (ga K "BadMarks")) := A.mgs _ _ (eqO_ok (A.says.fact 1))
theorem g_BadPlace (A : At K mg) : mg "BadPlace" = some (.ref (ga K "BadPlace")) := A.mgs _ _ (eqO_ok (A.says.fact 2))
theorem g_BadName (A : At K mg) : mg "BadName" = some (.ref (ga K "BadName")) := A.mgs _ _ (eqO_ok (A.says.fact 3))
theorem g_BadText (A : At K mg) : mg "BadText" = some (.ref (ga K "BadText")) := A.mgs _ _ (eqO_ok (A.says.fact 4))
theorem g_BadFile (A : At K mg) : mg "BadFile" = some (.ref (ga K "BadFile")) := A.mgs _ _ (eqO_ok (A.says.fact 5))
theorem g_BadTool (A : At K mg) : mg "BadTool" = some (.ref (ga K "BadTool")) := A.mgs _ _ (eqO_ok (A.says.fact 6))
theorem g_BadMachine (A : At K mg) : mg "BadMachine" = some (.ref (ga K "BadMachine")) := A.mgs _ _ (eqO_ok (A.says.fact 7))
theorem g_NoName (A : At K mg) : mg "NoName" = some (.ref (ga K "NoName")) := A.mgs _ _ (eqO_ok (A.says.fact 8))
theorem g_NoStep (A : At K mg) : mg "NoStep" = some (.ref (ga K "NoStep")) := A.mgs _ _ (eqO_ok (A.says.fact 9))
theorem g_NoRun (A : At K mg) : mg "NoRun" = some (.ref (ga K "NoRun")) := A.mgs _ _ (eqO_ok (A.says.fact 10))
theorem g_NoStrict (A : At K mg) : mg "NoStrict" = some (.ref (ga K "NoStrict")) := A.mgs _ _ (eqO_ok (A.says.fact 11))
theorem g_TooHeavy (A : At K mg) : mg "TooHeavy" = some (.ref (ga K "TooHeavy")) := A.mgs _ _ (eqO_ok (A.says.fact 12))
theorem g_TooMany (A : At K mg) : mg "TooMany" = some (.ref (ga K "TooMany")) := A.mgs _ _ (eqO_ok (A.says.fact 13))
theorem g_Refused (A : At K mg) : mg "Refused" = some (.ref (ga K "Refused")) := A.mgs _ _ (eqO_ok (A.says.fact 14))
theorem g_Ambiguous (A : At K mg) : mg "Ambiguous" = some (.ref (ga K "Ambiguous")) := A.mgs _ _ (eqO_ok (A.says.fact 15))
theorem g_Unlike (A : At K mg) : mg "Unlike" = some (.ref (ga K "Unlike")) := A.mgs _ _ (eqO_ok (A.says.fact 16))
theorem g_Twice (A : At K mg) : mg "Twice" = some (.ref (ga K "Twice")) := A.mgs _ _ (eqO_ok (A.says.fact 17))
theorem g_Stopped (A : At K mg) : mg "Stopped" = some (.ref (ga K "Stopped")) := A.mgs _ _ (eqO_ok (A.says.fact 18))
theorem g__law_draw (A : At K mg) : mg "_law_draw" = some (.ref (ga K "_law_draw")) := A.mgs _ _ (eqO_ok (A.says.fact 19))
theorem g__law_pot (A : At K mg) : mg "_law_pot" = some (.ref (ga K "_law_pot")) := A.mgs _ _ (eqO_ok (A.says.fact 20))
theorem g__law_text (A : At K mg) : mg "_law_text" = some (.ref (ga K "_law_text")) := A.mgs _ _ (eqO_ok (A.says.fact 21))
theorem g__law_thing (A : At K mg) : mg "_law_thing" = some (.ref (ga K "_law_thing")) := A.mgs _ _ (eqO_ok (A.says.fact 22))
theorem g__law_made (A : At K mg) : mg "_law_made" = some (.ref (ga K "_law_made")) := A.mgs _ _ (eqO_ok (A.says.fact 23))
theorem g__law_more_made (A : At K mg) : mg "_law_more_made" = some (.ref (ga K "_law_more_made")) := A.mgs _ _ (eqO_ok (A.says.fact 24))
theorem g__law_named (A : At K mg) : mg "_law_named" = some (.ref (ga K "_law_named")) := A.mgs _ _ (eqO_ok (A.says.fact 25))
theorem g__law_fields (A : At K mg) : mg "_law_fields" = some (.ref (ga K "_law_fields")) := A.mgs _ _ (eqO_ok (A.says.fact 26))
theorem g__law_classes (A : At K mg) : mg "_law_classes" = some (.ref (ga K "_law_classes")) := A.mgs _ _ (eqO_ok (A.says.fact 27))
theorem g__law_bases (A : At K mg) : mg "_law_bases" = some (.ref (ga K "_law_bases")) := A.mgs _ _ (eqO_ok (A.says.fact 28))
theorem g__law_equal (A : At K mg) : mg "_law_equal" = some (.ref (ga K "_law_equal")) := A.mgs _ _ (eqO_ok (A.says.fact 29))
theorem g_law (A : At K mg) : mg "law" = some (.ref (ga K "law")) := A.mgs _ _ (eqO_ok (A.says.fact 30))
theorem n_len (A : At K mg) : mg "len" = none := A.mgs _ _ (eqO_ok (A.says.fact 31))
theorem n_int (A : At K mg) : mg "int" = none := A.mgs _ _ (eqO_ok (A.says.fact 32))
theorem n_list (A : At K mg) : mg "list" = none := A.mgs _ _ (eqO_ok (A.says.fact 33))
theorem n_range (A : At K mg) : mg "range" = none := A.mgs _ _ (eqO_ok (A.says.fact 34))
theorem n_isinstance (A : At K mg) : mg "isinstance" = none := A.mgs _ _ (eqO_ok (A.says.fact 35))
theorem n_bool (A : At K mg) : mg "bool" = none := A.mgs _ _ (eqO_ok (A.says.fact 36))
theorem n_ValueError (A : At K mg) : mg "ValueError" = none := A.mgs _ _ (eqO_ok (A.says.fact 37))
theorem n_TypeError (A : At K mg) : mg "TypeError" = none := A.mgs _ _ (eqO_ok (A.says.fact 38))
theorem n_LookupError (A : At K mg) : mg "LookupError" = none := A.mgs _ _ (eqO_ok (A.says.fact 39))
theorem n_OverflowError (A : At K mg) : mg "OverflowError" = none := A.mgs _ _ (eqO_ok (A.says.fact 40))
theorem n_RuntimeError (A : At K mg) : mg "RuntimeError" = none := A.mgs _ _ (eqO_ok (A.says.fact 41))
theorem F_law_draw (A : At K mg) : FunD K "_law_draw" "_law_draw" (defArgs (top 21)) (defBody (top 21)) (defScope (top 21)) [] [] (ga K "_law_draw") (fdOf K (ga K "_law_draw")) := funD_of (A.says.def_ 0)
theorem F_law_pot (A : At K mg) : FunD K "_law_pot" "_law_pot" (defArgs (top 22)) (defBody (top 22)) (defScope (top 22)) [] [] (ga K "_law_pot") (fdOf K (ga K "_law_pot")) := funD_of (A.says.def_ 1)
theorem F_law_text (A : At K mg) : FunD K "_law_text" "_law_text" (defArgs (top 23)) (defBody (top 23)) (defScope (top 23)) [] [] (ga K "_law_text") (fdOf K (ga K "_law_text")) := funD_of (A.says.def_ 2)
theorem F_law_thing (A : At K mg) : FunD K "_law_thing" "_law_thing" (defArgs (top 24)) (defBody (top 24)) (defScope (top 24)) [] [] (ga K "_law_thing") (fdOf K (ga K "_law_thing")) := funD_of (A.says.def_ 3)
theorem F_law_made (A : At K mg) : FunD K "_law_made" "_law_made" (defArgs (top 25)) (defBody (top 25)) (defScope (top 25)) [] [] (ga K "_law_made") (fdOf K (ga K "_law_made")) := funD_of (A.says.def_ 4)
theorem F_law_more_made (A : At K mg) : FunD K "_law_more_made" "_law_more_made" (defArgs (top 26)) (defBody (top 26)) (defScope (top 26)) [] [] (ga K "_law_more_made") (fdOf K (ga K "_law_more_made")) := funD_of (A.says.def_ 5)
theorem F_law_named (A : At K mg) : FunD K "_law_named" "_law_named" (defArgs (top 27)) (defBody (top 27)) (defScope (top 27)) [] [] (ga K "_law_named") (fdOf K (ga K "_law_named")) := funD_of (A.says.def_ 6)
theorem F_law_fields (A : At K mg) : FunD K "_law_fields" "_law_fields" (defArgs (top 28)) (defBody (top 28)) (defScope (top 28)) [] [] (ga K "_law_fields") (fdOf K (ga K "_law_fields")) := funD_of (A.says.def_ 7)
theorem F_law_classes (A : At K mg) : FunD K "_law_classes" "_law_classes" (defArgs (top 29)) (defBody (top 29)) (defScope (top 29)) [] [] (ga K "_law_classes") (fdOf K (ga K "_law_classes")) := funD_of (A.says.def_ 8)
theorem F_law_bases (A : At K mg) : FunD K "_law_bases" "_law_bases" (defArgs (top 30)) (defBody (top 30)) (defScope (top 30)) [] [] (ga K "_law_bases") (fdOf K (ga K "_law_bases")) := funD_of (A.says.def_ 9)
theorem F_law_equal (A : At K mg) : FunD K "_law_equal" "_law_equal" (defArgs (top 31)) (defBody (top 31)) (defScope (top 31)) [] [] (ga K "_law_equal") (fdOf K (ga K "_law_equal")) := funD_of (A.says.def_ 10)
theorem F_law (A : At K mg) : FunD K "law" "law" (defArgs (top 32)) (defBody (top 32)) (defScope (top 32)) [] [] (ga K "law") (fdOf K (ga K "law")) := funD_of (A.says.def_ 11)
theorem htop : ((PySem.Challenge.pw_markedblocks_k96_errors_made).main.scope.names.lookup ("super" : Str)).isSome = false := by decide +kernel
theorem S_BadLine : ErSyn (defArgs (inClass (top 1) 0)) (defBody (inClass (top 1) 0)) (defScope (inClass (top 1) 0)) "BadLine.__init__" [("line" : Str)] where
  ex := ⟨_, _, _, _, _, _, _, _, _, _, _, _, rfl, by repeat constructor, rfl, fun _ _ _ _ => ⟨_, rfl⟩, fun _ _ _ _ => ⟨rfl, rfl⟩⟩
  kind := rfl
  co := rfl
  gen := rfl
  ks := rfl
  kc := rfl
  self := rfl
  cell := by decide +kernel
  loc := by decide +kernel
  nd := by decide +kernel
  ne := fun z => by cases z
  few := by decide
theorem E_BadLine (A : At K mg) : ∃ cc dV kV doc pm an cdv ct, ErT PySem.Challenge.pw_markedblocks_k96_errors_made K (ga K "BadLine") (ma K (ga K "BadLine") "__init__") (PySem.W.fnX "__init__" "BadLine.__init__" (defArgs (inClass (top 1) 0)) (defBody (inClass (top 1) 0)) (defScope (inClass (top 1) 0)) [("__class__", cc)] dV kV doc pm an cdv ct) [("line" : Str)] ∧ DflV K dV [] ∧ KwdV K kV [] :=
  er_of (d := din "BadLine" "BadLine.__init__" 1 []) F.excBase_ValueError PySem.W.kxs_ValueError F.store_ValueError (A.says.fact 42) (A.says.parts 12).1 (A.says.parts 12).2 rfl rfl rfl S_BadLine htop
theorem ET_BadLine (A : At K mg) : ErT PySem.Challenge.pw_markedblocks_k96_errors_made K (ga K "BadLine") (ma K (ga K "BadLine") "__init__") (fdOf K (ma K (ga K "BadLine") "__init__")) [("line" : Str)] := by
  obtain ⟨cc, dV, kV, doc, pm, an, cdv, ct, h, _, _⟩ := E_BadLine A
  exact h.fd
theorem S_BadMarks : ErSyn (defArgs (inClass (top 2) 0)) (defBody (inClass (top 2) 0)) (defScope (inClass (top 2) 0)) "BadMarks.__init__" [("line" : Str)] where
  ex := ⟨_, _, _, _, _, _, _, _, _, _, _, _, rfl, by repeat constructor, rfl, fun _ _ _ _ => ⟨_, rfl⟩, fun _ _ _ _ => ⟨rfl, rfl⟩⟩
  kind := rfl
  co := rfl
  gen := rfl
  ks := rfl
  kc := rfl
  self := rfl
  cell := by decide +kernel
  loc := by decide +kernel
  nd := by decide +kernel
  ne := fun z => by cases z
  few := by decide
theorem E_BadMarks (A : At K mg) : ∃ cc dV kV doc pm an cdv ct, ErT PySem.Challenge.pw_markedblocks_k96_errors_made K (ga K "BadMarks") (ma K (ga K "BadMarks") "__init__") (PySem.W.fnX "__init__" "BadMarks.__init__" (defArgs (inClass (top 2) 0)) (defBody (inClass (top 2) 0)) (defScope (inClass (top 2) 0)) [("__class__", cc)] dV kV doc pm an cdv ct) [("line" : Str)] ∧ DflV K dV [] ∧ KwdV K kV [] :=
  er_of (d := din "BadMarks" "BadMarks.__init__" 2 []) F.excBase_ValueError PySem.W.kxs_ValueError F.store_ValueError (A.says.fact 43) (A.says.parts 13).1 (A.says.parts 13).2 rfl rfl rfl S_BadMarks htop
theorem ET_BadMarks (A : At K mg) : ErT PySem.Challenge.pw_markedblocks_k96_errors_made K (ga K "BadMarks") (ma K (ga K "BadMarks") "__init__") (fdOf K (ma K (ga K "BadMarks") "__init__")) [("line" : Str)] := by
  obtain ⟨cc, dV, kV, doc, pm, an, cdv, ct, h, _, _⟩ := E_BadMarks A
  exact h.fd
theorem S_BadPlace : ErSyn (defArgs (inClass (top 3) 0)) (defBody (inClass (top 3) 0)) (defScope (inClass (top 3) 0)) "BadPlace.__init__" [("word" : Str)] where
  ex := ⟨_, _, _, _, _, _, _, _, _, _, _, _, rfl, by repeat constructor, rfl, fun _ _ _ _ => ⟨_, rfl⟩, fun _ _ _ _ => ⟨rfl, rfl⟩⟩
  kind := rfl
  co := rfl
  gen := rfl
  ks := rfl
  kc := rfl
  self := rfl
  cell := by decide +kernel
  loc := by decide +kernel
  nd := by decide +kernel
  ne := fun z => by cases z
  few := by decide
theorem E_BadPlace (A : At K mg) : ∃ cc dV kV doc pm an cdv ct, ErT PySem.Challenge.pw_markedblocks_k96_errors_made K (ga K "BadPlace") (ma K (ga K "BadPlace") "__init__") (PySem.W.fnX "__init__" "BadPlace.__init__" (defArgs (inClass (top 3) 0)) (defBody (inClass (top 3) 0)) (defScope (inClass (top 3) 0)) [("__class__", cc)] dV kV doc pm an cdv ct) [("word" : Str)] ∧ DflV K dV [] ∧ KwdV K kV [] :=
  er_of (d := din "BadPlace" "BadPlace.__init__" 3 []) F.excBase_ValueError PySem.W.kxs_ValueError F.store_ValueError (A.says.fact 44) (A.says.parts 14).1 (A.says.parts 14).2 rfl rfl rfl S_BadPlace htop
theorem ET_BadPlace (A : At K mg) : ErT PySem.Challenge.pw_markedblocks_k96_errors_made K (ga K "BadPlace") (ma K (ga K "BadPlace") "__init__") (fdOf K (ma K (ga K "BadPlace") "__init__")) [("word" : Str)] := by
  obtain ⟨cc, dV, kV, doc, pm, an, cdv, ct, h, _, _⟩ := E_BadPlace A
  exact h.fd
theorem S_BadName : ErSyn (defArgs (inClass (top 4) 0)) (defBody (inClass (top 4) 0)) (defScope (inClass (top 4) 0)) "BadName.__init__" [("name" : Str)] where
  ex := ⟨_, _, _, _, _, _, _, _, _, _, _, _, rfl, by repeat constructor, rfl, fun _ _ _ _ => ⟨_, rfl⟩, fun _ _ _ _ => ⟨rfl, rfl⟩⟩
  kind := rfl
  co := rfl
  gen := rfl
  ks := rfl
  kc := rfl
  self := rfl
  cell := by decide +kernel
  loc := by decide +kernel
  nd := by decide +kernel
  ne := fun z => by cases z
  few := by decide
theorem E_BadName (A : At K mg) : ∃ cc dV kV doc pm an cdv ct, ErT PySem.Challenge.pw_markedblocks_k96_errors_made K (ga K "BadName") (ma K (ga K "BadName") "__init__") (PySem.W.fnX "__init__" "BadName.__init__" (defArgs (inClass (top 4) 0)) (defBody (inClass (top 4) 0)) (defScope (inClass (top 4) 0)) [("__class__", cc)] dV kV doc pm an cdv ct) [("name" : Str)] ∧ DflV K dV [] ∧ KwdV K kV [] :=
  er_of (d := din "BadName" "BadName.__init__" 4 []) F.excBase_ValueError PySem.W.kxs_ValueError F.store_ValueError (A.says.fact 45) (A.says.parts 15).1 (A.says.parts 15).2 rfl rfl rfl S_BadName htop
theorem ET_BadName (A : At K mg) : ErT PySem.Challenge.pw_markedblocks_k96_errors_made K (ga K "BadName") (ma K (ga K "BadName") "__init__") (fdOf K (ma K (ga K "BadName") "__init__")) [("name" : Str)] := by
  obtain ⟨cc, dV, kV, doc, pm, an, cdv, ct, h, _, _⟩ := E_BadName A
  exact h.fd
theorem S_BadText : ErSyn (defArgs (inClass (top 5) 0)) (defBody (inClass (top 5) 0)) (defScope (inClass (top 5) 0)) "BadText.__init__" [("text" : Str)] where
  ex := ⟨_, _, _, _, _, _, _, _, _, _, _, _, rfl, by repeat constructor, rfl, fun _ _ _ _ => ⟨_, rfl⟩, fun _ _ _ _ => ⟨rfl, rfl⟩⟩
  kind := rfl
  co := rfl
  gen := rfl
  ks := rfl
  kc := rfl
  self := rfl
  cell := by decide +kernel
  loc := by decide +kernel
  nd := by decide +kernel
  ne := fun z => by cases z
  few := by decide
theorem E_BadText (A : At K mg) : ∃ cc dV kV doc pm an cdv ct, ErT PySem.Challenge.pw_markedblocks_k96_errors_made K (ga K "BadText") (ma K (ga K "BadText") "__init__") (PySem.W.fnX "__init__" "BadText.__init__" (defArgs (inClass (top 5) 0)) (defBody (inClass (top 5) 0)) (defScope (inClass (top 5) 0)) [("__class__", cc)] dV kV doc pm an cdv ct) [("text" : Str)] ∧ DflV K dV [] ∧ KwdV K kV [] :=
  er_of (d := din "BadText" "BadText.__init__" 5 []) F.excBase_ValueError PySem.W.kxs_ValueError F.store_ValueError (A.says.fact 46) (A.says.parts 16).1 (A.says.parts 16).2 rfl rfl rfl S_BadText htop
theorem ET_BadText (A : At K mg) : ErT PySem.Challenge.pw_markedblocks_k96_errors_made K (ga K "BadText") (ma K (ga K "BadText") "__init__") (fdOf K (ma K (ga K "BadText") "__init__")) [("text" : Str)] := by
  obtain ⟨cc, dV, kV, doc, pm, an, cdv, ct, h, _, _⟩ := E_BadText A
  exact h.fd
theorem S_BadFile : ErSyn (defArgs (inClass (top 6) 0)) (defBody (inClass (top 6) 0)) (defScope (inClass (top 6) 0)) "BadFile.__init__" [("index" : Str)] where
  ex := ⟨_, _, _, _, _, _, _, _, _, _, _, _, rfl, by repeat constructor, rfl, fun _ _ _ _ => ⟨_, rfl⟩, fun _ _ _ _ => ⟨rfl, rfl⟩⟩
  kind := rfl
  co := rfl
  gen := rfl
  ks := rfl
  kc := rfl
  self := rfl
  cell := by decide +kernel
  loc := by decide +kernel
  nd := by decide +kernel
  ne := fun z => by cases z
  few := by decide
theorem E_BadFile (A : At K mg) : ∃ cc dV kV doc pm an cdv ct, ErT PySem.Challenge.pw_markedblocks_k96_errors_made K (ga K "BadFile") (ma K (ga K "BadFile") "__init__") (PySem.W.fnX "__init__" "BadFile.__init__" (defArgs (inClass (top 6) 0)) (defBody (inClass (top 6) 0)) (defScope (inClass (top 6) 0)) [("__class__", cc)] dV kV doc pm an cdv ct) [("index" : Str)] ∧ DflV K dV [] ∧ KwdV K kV [] :=
  er_of (d := din "BadFile" "BadFile.__init__" 6 []) F.excBase_TypeError PySem.W.kxs_TypeError F.store_TypeError (A.says.fact 47) (A.says.parts 17).1 (A.says.parts 17).2 rfl rfl rfl S_BadFile htop
theorem ET_BadFile (A : At K mg) : ErT PySem.Challenge.pw_markedblocks_k96_errors_made K (ga K "BadFile") (ma K (ga K "BadFile") "__init__") (fdOf K (ma K (ga K "BadFile") "__init__")) [("index" : Str)] := by
  obtain ⟨cc, dV, kV, doc, pm, an, cdv, ct, h, _, _⟩ := E_BadFile A
  exact h.fd
theorem S_BadTool : ErSyn (defArgs (inClass (top 7) 0)) (defBody (inClass (top 7) 0)) (defScope (inClass (top 7) 0)) "BadTool.__init__" [("part" : Str)] where
  ex := ⟨_, _, _, _, _, _, _, _, _, _, _, _, rfl, by repeat constructor, rfl, fun _ _ _ _ => ⟨_, rfl⟩, fun _ _ _ _ => ⟨rfl, rfl⟩⟩
  kind := rfl
  co := rfl
  gen := rfl
  ks := rfl
  kc := rfl
  self := rfl
  cell := by decide +kernel
  loc := by decide +kernel
  nd := by decide +kernel
  ne := fun z => by cases z
  few := by decide
theorem E_BadTool (A : At K mg) : ∃ cc dV kV doc pm an cdv ct, ErT PySem.Challenge.pw_markedblocks_k96_errors_made K (ga K "BadTool") (ma K (ga K "BadTool") "__init__") (PySem.W.fnX "__init__" "BadTool.__init__" (defArgs (inClass (top 7) 0)) (defBody (inClass (top 7) 0)) (defScope (inClass (top 7) 0)) [("__class__", cc)] dV kV doc pm an cdv ct) [("part" : Str)] ∧ DflV K dV [] ∧ KwdV K kV [] :=
  er_of (d := din "BadTool" "BadTool.__init__" 7 []) F.excBase_TypeError PySem.W.kxs_TypeError F.store_TypeError (A.says.fact 48) (A.says.parts 18).1 (A.says.parts 18).2 rfl rfl rfl S_BadTool htop
theorem ET_BadTool (A : At K mg) : ErT PySem.Challenge.pw_markedblocks_k96_errors_made K (ga K "BadTool") (ma K (ga K "BadTool") "__init__") (fdOf K (ma K (ga K "BadTool") "__init__")) [("part" : Str)] := by
  obtain ⟨cc, dV, kV, doc, pm, an, cdv, ct, h, _, _⟩ := E_BadTool A
  exact h.fd
theorem S_BadMachine : ErSyn (defArgs (inClass (top 8) 0)) (defBody (inClass (top 8) 0)) (defScope (inClass (top 8) 0)) "BadMachine.__init__" [("part" : Str), ("index" : Str)] where
  ex := ⟨_, _, _, _, _, _, _, _, _, _, _, _, rfl, by repeat constructor, rfl, fun _ _ _ _ => ⟨_, rfl⟩, fun _ _ _ _ => ⟨rfl, rfl⟩⟩
  kind := rfl
  co := rfl
  gen := rfl
  ks := rfl
  kc := rfl
  self := rfl
  cell := by decide +kernel
  loc := by decide +kernel
  nd := by decide +kernel
  ne := fun z => by cases z
  few := by decide
theorem E_BadMachine (A : At K mg) : ∃ cc dV kV doc pm an cdv ct, ErT PySem.Challenge.pw_markedblocks_k96_errors_made K (ga K "BadMachine") (ma K (ga K "BadMachine") "__init__") (PySem.W.fnX "__init__" "BadMachine.__init__" (defArgs (inClass (top 8) 0)) (defBody (inClass (top 8) 0)) (defScope (inClass (top 8) 0)) [("__class__", cc)] dV kV doc pm an cdv ct) [("part" : Str), ("index" : Str)] ∧ DflV K dV [] ∧ KwdV K kV [] :=
  er_of (d := din "BadMachine" "BadMachine.__init__" 8 []) F.excBase_TypeError PySem.W.kxs_TypeError F.store_TypeError (A.says.fact 49) (A.says.parts 19).1 (A.says.parts 19).2 rfl rfl rfl S_BadMachine htop
theorem ET_BadMachine (A : At K mg) : ErT PySem.Challenge.pw_markedblocks_k96_errors_made K (ga K "BadMachine") (ma K (ga K "BadMachine") "__init__") (fdOf K (ma K (ga K "BadMachine") "__init__")) [("part" : Str), ("index" : Str)] := by
  obtain ⟨cc, dV, kV, doc, pm, an, cdv, ct, h, _, _⟩ := E_BadMachine A
  exact h.fd
theorem S_NoName : ErSyn (defArgs (inClass (top 9) 0)) (defBody (inClass (top 9) 0)) (defScope (inClass (top 9) 0)) "NoName.__init__" [("name" : Str)] where
  ex := ⟨_, _, _, _, _, _, _, _, _, _, _, _, rfl, by repeat constructor, rfl, fun _ _ _ _ => ⟨_, rfl⟩, fun _ _ _ _ => ⟨rfl, rfl⟩⟩
  kind := rfl
  co := rfl
  gen := rfl
  ks := rfl
  kc := rfl
  self := rfl
  cell := by decide +kernel
  loc := by decide +kernel
  nd := by decide +kernel
  ne := fun z => by cases z
  few := by decide
theorem E_NoName (A : At K mg) : ∃ cc dV kV doc pm an cdv ct, ErT PySem.Challenge.pw_markedblocks_k96_errors_made K (ga K "NoName") (ma K (ga K "NoName") "__init__") (PySem.W.fnX "__init__" "NoName.__init__" (defArgs (inClass (top 9) 0)) (defBody (inClass (top 9) 0)) (defScope (inClass (top 9) 0)) [("__class__", cc)] dV kV doc pm an cdv ct) [("name" : Str)] ∧ DflV K dV [] ∧ KwdV K kV [] :=
  er_of (d := din "NoName" "NoName.__init__" 9 []) F.excBase_LookupError PySem.W.kxs_LookupError F.store_LookupError (A.says.fact 50) (A.says.parts 20).1 (A.says.parts 20).2 rfl rfl rfl S_NoName htop
theorem ET_NoName (A : At K mg) : ErT PySem.Challenge.pw_markedblocks_k96_errors_made K (ga K "NoName") (ma K (ga K "NoName") "__init__") (fdOf K (ma K (ga K "NoName") "__init__")) [("name" : Str)] := by
  obtain ⟨cc, dV, kV, doc, pm, an, cdv, ct, h, _, _⟩ := E_NoName A
  exact h.fd
theorem S_NoStep : ErSyn (defArgs (inClass (top 10) 0)) (defBody (inClass (top 10) 0)) (defScope (inClass (top 10) 0)) "NoStep.__init__" [("step" : Str)] where
  ex := ⟨_, _, _, _, _, _, _, _, _, _, _, _, rfl, by repeat constructor, rfl, fun _ _ _ _ => ⟨_, rfl⟩, fun _ _ _ _ => ⟨rfl, rfl⟩⟩
  kind := rfl
  co := rfl
  gen := rfl
  ks := rfl
  kc := rfl
  self := rfl
  cell := by decide +kernel
  loc := by decide +kernel
  nd := by decide +kernel
  ne := fun z => by cases z
  few := by decide
theorem E_NoStep (A : At K mg) : ∃ cc dV kV doc pm an cdv ct, ErT PySem.Challenge.pw_markedblocks_k96_errors_made K (ga K "NoStep") (ma K (ga K "NoStep") "__init__") (PySem.W.fnX "__init__" "NoStep.__init__" (defArgs (inClass (top 10) 0)) (defBody (inClass (top 10) 0)) (defScope (inClass (top 10) 0)) [("__class__", cc)] dV kV doc pm an cdv ct) [("step" : Str)] ∧ DflV K dV [] ∧ KwdV K kV [] :=
  er_of (d := din "NoStep" "NoStep.__init__" 10 []) F.excBase_LookupError PySem.W.kxs_LookupError F.store_LookupError (A.says.fact 51) (A.says.parts 21).1 (A.says.parts 21).2 rfl rfl rfl S_NoStep htop
theorem ET_NoStep (A : At K mg) : ErT PySem.Challenge.pw_markedblocks_k96_errors_made K (ga K "NoStep") (ma K (ga K "NoStep") "__init__") (fdOf K (ma K (ga K "NoStep") "__init__")) [("step" : Str)] := by
  obtain ⟨cc, dV, kV, doc, pm, an, cdv, ct, h, _, _⟩ := E_NoStep A
  exact h.fd
theorem S_NoRun : ErSyn (defArgs (inClass (top 11) 0)) (defBody (inClass (top 11) 0)) (defScope (inClass (top 11) 0)) "NoRun.__init__" [("read" : Str)] where
  ex := ⟨_, _, _, _, _, _, _, _, _, _, _, _, rfl, by repeat constructor, rfl, fun _ _ _ _ => ⟨_, rfl⟩, fun _ _ _ _ => ⟨rfl, rfl⟩⟩
  kind := rfl
  co := rfl
  gen := rfl
  ks := rfl
  kc := rfl
  self := rfl
  cell := by decide +kernel
  loc := by decide +kernel
  nd := by decide +kernel
  ne := fun z => by cases z
  few := by decide
theorem E_NoRun (A : At K mg) : ∃ cc dV kV doc pm an cdv ct, ErT PySem.Challenge.pw_markedblocks_k96_errors_made K (ga K "NoRun") (ma K (ga K "NoRun") "__init__") (PySem.W.fnX "__init__" "NoRun.__init__" (defArgs (inClass (top 11) 0)) (defBody (inClass (top 11) 0)) (defScope (inClass (top 11) 0)) [("__class__", cc)] dV kV doc pm an cdv ct) [("read" : Str)] ∧ DflV K dV [] ∧ KwdV K kV [] :=
  er_of (d := din "NoRun" "NoRun.__init__" 11 []) F.excBase_LookupError PySem.W.kxs_LookupError F.store_LookupError (A.says.fact 52) (A.says.parts 22).1 (A.says.parts 22).2 rfl rfl rfl S_NoRun htop
theorem ET_NoRun (A : At K mg) : ErT PySem.Challenge.pw_markedblocks_k96_errors_made K (ga K "NoRun") (ma K (ga K "NoRun") "__init__") (fdOf K (ma K (ga K "NoRun") "__init__")) [("read" : Str)] := by
  obtain ⟨cc, dV, kV, doc, pm, an, cdv, ct, h, _, _⟩ := E_NoRun A
  exact h.fd
theorem S_NoStrict : ErSyn (defArgs (inClass (top 12) 0)) (defBody (inClass (top 12) 0)) (defScope (inClass (top 12) 0)) "NoStrict.__init__" [("name" : Str)] where
  ex := ⟨_, _, _, _, _, _, _, _, _, _, _, _, rfl, by repeat constructor, rfl, fun _ _ _ _ => ⟨_, rfl⟩, fun _ _ _ _ => ⟨rfl, rfl⟩⟩
  kind := rfl
  co := rfl
  gen := rfl
  ks := rfl
  kc := rfl
  self := rfl
  cell := by decide +kernel
  loc := by decide +kernel
  nd := by decide +kernel
  ne := fun z => by cases z
  few := by decide
theorem E_NoStrict (A : At K mg) : ∃ cc dV kV doc pm an cdv ct, ErT PySem.Challenge.pw_markedblocks_k96_errors_made K (ga K "NoStrict") (ma K (ga K "NoStrict") "__init__") (PySem.W.fnX "__init__" "NoStrict.__init__" (defArgs (inClass (top 12) 0)) (defBody (inClass (top 12) 0)) (defScope (inClass (top 12) 0)) [("__class__", cc)] dV kV doc pm an cdv ct) [("name" : Str)] ∧ DflV K dV [] ∧ KwdV K kV [] :=
  er_of (d := din "NoStrict" "NoStrict.__init__" 12 []) F.excBase_LookupError PySem.W.kxs_LookupError F.store_LookupError (A.says.fact 53) (A.says.parts 23).1 (A.says.parts 23).2 rfl rfl rfl S_NoStrict htop
theorem ET_NoStrict (A : At K mg) : ErT PySem.Challenge.pw_markedblocks_k96_errors_made K (ga K "NoStrict") (ma K (ga K "NoStrict") "__init__") (fdOf K (ma K (ga K "NoStrict") "__init__")) [("name" : Str)] := by
  obtain ⟨cc, dV, kV, doc, pm, an, cdv, ct, h, _, _⟩ := E_NoStrict A
  exact h.fd
theorem S_TooHeavy : ErSyn (defArgs (inClass (top 13) 0)) (defBody (inClass (top 13) 0)) (defScope (inClass (top 13) 0)) "TooHeavy.__init__" [("total" : Str)] where
  ex := ⟨_, _, _, _, _, _, _, _, _, _, _, _, rfl, by repeat constructor, rfl, fun _ _ _ _ => ⟨_, rfl⟩, fun _ _ _ _ => ⟨rfl, rfl⟩⟩
  kind := rfl
  co := rfl
  gen := rfl
  ks := rfl
  kc := rfl
  self := rfl
  cell := by decide +kernel
  loc := by decide +kernel
  nd := by decide +kernel
  ne := fun z => by cases z
  few := by decide
theorem E_TooHeavy (A : At K mg) : ∃ cc dV kV doc pm an cdv ct, ErT PySem.Challenge.pw_markedblocks_k96_errors_made K (ga K "TooHeavy") (ma K (ga K "TooHeavy") "__init__") (PySem.W.fnX "__init__" "TooHeavy.__init__" (defArgs (inClass (top 13) 0)) (defBody (inClass (top 13) 0)) (defScope (inClass (top 13) 0)) [("__class__", cc)] dV kV doc pm an cdv ct) [("total" : Str)] ∧ DflV K dV [] ∧ KwdV K kV [] :=
  er_of (d := din "TooHeavy" "TooHeavy.__init__" 13 []) F.excBase_OverflowError PySem.W.kxs_OverflowError F.store_OverflowError (A.says.fact 54) (A.says.parts 24).1 (A.says.parts 24).2 rfl rfl rfl S_TooHeavy htop
theorem ET_TooHeavy (A : At K mg) : ErT PySem.Challenge.pw_markedblocks_k96_errors_made K (ga K "TooHeavy") (ma K (ga K "TooHeavy") "__init__") (fdOf K (ma K (ga K "TooHeavy") "__init__")) [("total" : Str)] := by
  obtain ⟨cc, dV, kV, doc, pm, an, cdv, ct, h, _, _⟩ := E_TooHeavy A
  exact h.fd
theorem S_TooMany : ErSyn (defArgs (inClass (top 14) 0)) (defBody (inClass (top 14) 0)) (defScope (inClass (top 14) 0)) "TooMany.__init__" [("limit" : Str)] where
  ex := ⟨_, _, _, _, _, _, _, _, _, _, _, _, rfl, by repeat constructor, rfl, fun _ _ _ _ => ⟨_, rfl⟩, fun _ _ _ _ => ⟨rfl, rfl⟩⟩
  kind := rfl
  co := rfl
  gen := rfl
  ks := rfl
  kc := rfl
  self := rfl
  cell := by decide +kernel
  loc := by decide +kernel
  nd := by decide +kernel
  ne := fun z => by cases z
  few := by decide
theorem E_TooMany (A : At K mg) : ∃ cc dV kV doc pm an cdv ct, ErT PySem.Challenge.pw_markedblocks_k96_errors_made K (ga K "TooMany") (ma K (ga K "TooMany") "__init__") (PySem.W.fnX "__init__" "TooMany.__init__" (defArgs (inClass (top 14) 0)) (defBody (inClass (top 14) 0)) (defScope (inClass (top 14) 0)) [("__class__", cc)] dV kV doc pm an cdv ct) [("limit" : Str)] ∧ DflV K dV [] ∧ KwdV K kV [] :=
  er_of (d := din "TooMany" "TooMany.__init__" 14 []) F.excBase_OverflowError PySem.W.kxs_OverflowError F.store_OverflowError (A.says.fact 55) (A.says.parts 25).1 (A.says.parts 25).2 rfl rfl rfl S_TooMany htop
theorem ET_TooMany (A : At K mg) : ErT PySem.Challenge.pw_markedblocks_k96_errors_made K (ga K "TooMany") (ma K (ga K "TooMany") "__init__") (fdOf K (ma K (ga K "TooMany") "__init__")) [("limit" : Str)] := by
  obtain ⟨cc, dV, kV, doc, pm, an, cdv, ct, h, _, _⟩ := E_TooMany A
  exact h.fd
theorem S_Refused : ErSyn (defArgs (inClass (top 15) 0)) (defBody (inClass (top 15) 0)) (defScope (inClass (top 15) 0)) "Refused.__init__" [("name" : Str), ("index" : Str), ("fault" : Str), ("path" : Str), ("cause" : Str)] where
  ex := ⟨_, _, _, _, _, _, _, _, _, _, _, _, rfl, by repeat constructor, rfl, fun _ _ _ _ => ⟨_, rfl⟩, fun _ _ _ _ => ⟨rfl, rfl⟩⟩
  kind := rfl
  co := rfl
  gen := rfl
  ks := rfl
  kc := rfl
  self := rfl
  cell := by decide +kernel
  loc := by decide +kernel
  nd := by decide +kernel
  ne := fun z => by cases z
  few := by decide
theorem E_Refused (A : At K mg) : ∃ cc dV kV doc pm an cdv ct, ErT PySem.Challenge.pw_markedblocks_k96_errors_made K (ga K "Refused") (ma K (ga K "Refused") "__init__") (PySem.W.fnX "__init__" "Refused.__init__" (defArgs (inClass (top 15) 0)) (defBody (inClass (top 15) 0)) (defScope (inClass (top 15) 0)) [("__class__", cc)] dV kV doc pm an cdv ct) [("name" : Str), ("index" : Str), ("fault" : Str), ("path" : Str), ("cause" : Str)] ∧ DflV K dV [.non] ∧ KwdV K kV [] :=
  er_of (d := din "Refused" "Refused.__init__" 15 [.non]) F.excBase_RuntimeError PySem.W.kxs_RuntimeError F.store_RuntimeError (A.says.fact 56) (A.says.parts 26).1 (A.says.parts 26).2 rfl rfl rfl S_Refused htop
theorem ET_Refused (A : At K mg) : ErT PySem.Challenge.pw_markedblocks_k96_errors_made K (ga K "Refused") (ma K (ga K "Refused") "__init__") (fdOf K (ma K (ga K "Refused") "__init__")) [("name" : Str), ("index" : Str), ("fault" : Str), ("path" : Str), ("cause" : Str)] := by
  obtain ⟨cc, dV, kV, doc, pm, an, cdv, ct, h, _, _⟩ := E_Refused A
  exact h.fd
theorem S_Ambiguous : ErSyn (defArgs (inClass (top 16) 0)) (defBody (inClass (top 16) 0)) (defScope (inClass (top 16) 0)) "Ambiguous.__init__" [("file" : Str)] where
  ex := ⟨_, _, _, _, _, _, _, _, _, _, _, _, rfl, by repeat constructor, rfl, fun _ _ _ _ => ⟨_, rfl⟩, fun _ _ _ _ => ⟨rfl, rfl⟩⟩
  kind := rfl
  co := rfl
  gen := rfl
  ks := rfl
  kc := rfl
  self := rfl
  cell := by decide +kernel
  loc := by decide +kernel
  nd := by decide +kernel
  ne := fun z => by cases z
  few := by decide
theorem E_Ambiguous (A : At K mg) : ∃ cc dV kV doc pm an cdv ct, ErT PySem.Challenge.pw_markedblocks_k96_errors_made K (ga K "Ambiguous") (ma K (ga K "Ambiguous") "__init__") (PySem.W.fnX "__init__" "Ambiguous.__init__" (defArgs (inClass (top 16) 0)) (defBody (inClass (top 16) 0)) (defScope (inClass (top 16) 0)) [("__class__", cc)] dV kV doc pm an cdv ct) [("file" : Str)] ∧ DflV K dV [] ∧ KwdV K kV [] :=
  er_of (d := din "Ambiguous" "Ambiguous.__init__" 16 []) F.excBase_RuntimeError PySem.W.kxs_RuntimeError F.store_RuntimeError (A.says.fact 57) (A.says.parts 27).1 (A.says.parts 27).2 rfl rfl rfl S_Ambiguous htop
theorem ET_Ambiguous (A : At K mg) : ErT PySem.Challenge.pw_markedblocks_k96_errors_made K (ga K "Ambiguous") (ma K (ga K "Ambiguous") "__init__") (fdOf K (ma K (ga K "Ambiguous") "__init__")) [("file" : Str)] := by
  obtain ⟨cc, dV, kV, doc, pm, an, cdv, ct, h, _, _⟩ := E_Ambiguous A
  exact h.fd
theorem S_Unlike : ErSyn (defArgs (inClass (top 17) 0)) (defBody (inClass (top 17) 0)) (defScope (inClass (top 17) 0)) "Unlike.__init__" [("file" : Str)] where
  ex := ⟨_, _, _, _, _, _, _, _, _, _, _, _, rfl, by repeat constructor, rfl, fun _ _ _ _ => ⟨_, rfl⟩, fun _ _ _ _ => ⟨rfl, rfl⟩⟩
  kind := rfl
  co := rfl
  gen := rfl
  ks := rfl
  kc := rfl
  self := rfl
  cell := by decide +kernel
  loc := by decide +kernel
  nd := by decide +kernel
  ne := fun z => by cases z
  few := by decide
theorem E_Unlike (A : At K mg) : ∃ cc dV kV doc pm an cdv ct, ErT PySem.Challenge.pw_markedblocks_k96_errors_made K (ga K "Unlike") (ma K (ga K "Unlike") "__init__") (PySem.W.fnX "__init__" "Unlike.__init__" (defArgs (inClass (top 17) 0)) (defBody (inClass (top 17) 0)) (defScope (inClass (top 17) 0)) [("__class__", cc)] dV kV doc pm an cdv ct) [("file" : Str)] ∧ DflV K dV [] ∧ KwdV K kV [] :=
  er_of (d := din "Unlike" "Unlike.__init__" 17 []) F.excBase_RuntimeError PySem.W.kxs_RuntimeError F.store_RuntimeError (A.says.fact 58) (A.says.parts 28).1 (A.says.parts 28).2 rfl rfl rfl S_Unlike htop
theorem ET_Unlike (A : At K mg) : ErT PySem.Challenge.pw_markedblocks_k96_errors_made K (ga K "Unlike") (ma K (ga K "Unlike") "__init__") (fdOf K (ma K (ga K "Unlike") "__init__")) [("file" : Str)] := by
  obtain ⟨cc, dV, kV, doc, pm, an, cdv, ct, h, _, _⟩ := E_Unlike A
  exact h.fd
theorem S_Twice : ErSyn (defArgs (inClass (top 18) 0)) (defBody (inClass (top 18) 0)) (defScope (inClass (top 18) 0)) "Twice.__init__" [("name" : Str)] where
  ex := ⟨_, _, _, _, _, _, _, _, _, _, _, _, rfl, by repeat constructor, rfl, fun _ _ _ _ => ⟨_, rfl⟩, fun _ _ _ _ => ⟨rfl, rfl⟩⟩
  kind := rfl
  co := rfl
  gen := rfl
  ks := rfl
  kc := rfl
  self := rfl
  cell := by decide +kernel
  loc := by decide +kernel
  nd := by decide +kernel
  ne := fun z => by cases z
  few := by decide
theorem E_Twice (A : At K mg) : ∃ cc dV kV doc pm an cdv ct, ErT PySem.Challenge.pw_markedblocks_k96_errors_made K (ga K "Twice") (ma K (ga K "Twice") "__init__") (PySem.W.fnX "__init__" "Twice.__init__" (defArgs (inClass (top 18) 0)) (defBody (inClass (top 18) 0)) (defScope (inClass (top 18) 0)) [("__class__", cc)] dV kV doc pm an cdv ct) [("name" : Str)] ∧ DflV K dV [] ∧ KwdV K kV [] :=
  er_of (d := din "Twice" "Twice.__init__" 18 []) F.excBase_RuntimeError PySem.W.kxs_RuntimeError F.store_RuntimeError (A.says.fact 59) (A.says.parts 29).1 (A.says.parts 29).2 rfl rfl rfl S_Twice htop
theorem ET_Twice (A : At K mg) : ErT PySem.Challenge.pw_markedblocks_k96_errors_made K (ga K "Twice") (ma K (ga K "Twice") "__init__") (fdOf K (ma K (ga K "Twice") "__init__")) [("name" : Str)] := by
  obtain ⟨cc, dV, kV, doc, pm, an, cdv, ct, h, _, _⟩ := E_Twice A
  exact h.fd
theorem S_Stopped : ErSyn (defArgs (inClass (top 19) 0)) (defBody (inClass (top 19) 0)) (defScope (inClass (top 19) 0)) "Stopped.__init__" [("number" : Str), ("reason" : Str)] where
  ex := ⟨_, _, _, _, _, _, _, _, _, _, _, _, rfl, by repeat constructor, rfl, fun _ _ _ _ => ⟨_, rfl⟩, fun _ _ _ _ => ⟨rfl, rfl⟩⟩
  kind := rfl
  co := rfl
  gen := rfl
  ks := rfl
  kc := rfl
  self := rfl
  cell := by decide +kernel
  loc := by decide +kernel
  nd := by decide +kernel
  ne := fun z => by cases z
  few := by decide
theorem E_Stopped (A : At K mg) : ∃ cc dV kV doc pm an cdv ct, ErT PySem.Challenge.pw_markedblocks_k96_errors_made K (ga K "Stopped") (ma K (ga K "Stopped") "__init__") (PySem.W.fnX "__init__" "Stopped.__init__" (defArgs (inClass (top 19) 0)) (defBody (inClass (top 19) 0)) (defScope (inClass (top 19) 0)) [("__class__", cc)] dV kV doc pm an cdv ct) [("number" : Str), ("reason" : Str)] ∧ DflV K dV [] ∧ KwdV K kV [] :=
  er_of (d := din "Stopped" "Stopped.__init__" 19 []) F.excBase_RuntimeError PySem.W.kxs_RuntimeError F.store_RuntimeError (A.says.fact 60) (A.says.parts 30).1 (A.says.parts 30).2 rfl rfl rfl S_Stopped htop
theorem ET_Stopped (A : At K mg) : ErT PySem.Challenge.pw_markedblocks_k96_errors_made K (ga K "Stopped") (ma K (ga K "Stopped") "__init__") (fdOf K (ma K (ga K "Stopped") "__init__")) [("number" : Str), ("reason" : Str)] := by
  obtain ⟨cc, dV, kV, doc, pm, an, cdv, ct, h, _, _⟩ := E_Stopped A
  exact h.fd
end
end K96

set_option Elab.async false
set_option linter.all false
set_option maxRecDepth 100000
set_option maxHeartbeats 4000000
namespace K96
open PySem PySem.Spec PyProof.Rows L2 He Hm
section
variable {K : PySem.W.Frag} {mg : Str → Option Value}
theorem B_BadLine (A : At K mg) : ErBind K (fdOf K (ma K (ga K "BadLine") "__init__")) [("line" : Str)] 1 [] (gP [0] []) (gPV [0] []) := by
  obtain ⟨cc, dV, kV, doc, pm, an, cdv, ct, h, hD, _⟩ := E_BadLine A
  rw [h.fd_eq]
  rcases hD with ⟨_, rfl⟩ | ⟨e, _⟩
  · exact erBind_0 rfl fun self us ws l1 l2 => match us, ws, l1, l2 with | [_], [], _, _ => rfl
  · exact absurd rfl e
theorem BK_BadLine (A : At K mg) : ErBind K (fdOf K (ma K (ga K "BadLine") "__init__")) [("line" : Str)] 0 [("line" : Str)] (gP [0] []) (gPV [0] []) := by
  obtain ⟨cc, dV, kV, doc, pm, an, cdv, ct, h, hD, _⟩ := E_BadLine A
  rw [h.fd_eq]
  rcases hD with ⟨_, rfl⟩ | ⟨e, _⟩
  · exact erBind_0 rfl fun self us ws l1 l2 => match us, ws, l1, l2 with | [], [_], _, _ => rfl
  · exact absurd rfl e
theorem B_BadMarks (A : At K mg) : ErBind K (fdOf K (ma K (ga K "BadMarks") "__init__")) [("line" : Str)] 1 [] (gP [0] []) (gPV [0] []) := by
  obtain ⟨cc, dV, kV, doc, pm, an, cdv, ct, h, hD, _⟩ := E_BadMarks A
  rw [h.fd_eq]
  rcases hD with ⟨_, rfl⟩ | ⟨e, _⟩
  · exact erBind_0 rfl fun self us ws l1 l2 => match us, ws, l1, l2 with | [_], [], _, _ => rfl
  · exact absurd rfl e
theorem BK_BadMarks (A : At K mg) : ErBind K (fdOf K (ma K (ga K "BadMarks") "__init__")) [("line" : Str)] 0 [("line" : Str)] (gP [0] []) (gPV [0] []) := by
  obtain ⟨cc, dV, kV, doc, pm, an, cdv, ct, h, hD, _⟩ := E_BadMarks A
  rw [h.fd_eq]
  rcases hD with ⟨_, rfl⟩ | ⟨e, _⟩
  · exact erBind_0 rfl fun self us ws l1 l2 => match us, ws, l1, l2 with | [], [_], _, _ => rfl
  · exact absurd rfl e
theorem B_BadPlace (A : At K mg) : ErBind K (fdOf K (ma K (ga K "BadPlace") "__init__")) [("word" : Str)] 1 [] (gP [0] []) (gPV [0] []) := by
  obtain ⟨cc, dV, kV, doc, pm, an, cdv, ct, h, hD, _⟩ := E_BadPlace A
  rw [h.fd_eq]
  rcases hD with ⟨_, rfl⟩ | ⟨e, _⟩
  · exact erBind_0 rfl fun self us ws l1 l2 => match us, ws, l1, l2 with | [_], [], _, _ => rfl
  · exact absurd rfl e
theorem BK_BadPlace (A : At K mg) : ErBind K (fdOf K (ma K (ga K "BadPlace") "__init__")) [("word" : Str)] 0 [("word" : Str)] (gP [0] []) (gPV [0] []) := by
  obtain ⟨cc, dV, kV, doc, pm, an, cdv, ct, h, hD, _⟩ := E_BadPlace A
  rw [h.fd_eq]
  rcases hD with ⟨_, rfl⟩ | ⟨e, _⟩
  · exact erBind_0 rfl fun self us ws l1 l2 => match us, ws, l1, l2 with | [], [_], _, _ => rfl
  · exact absurd rfl e
theorem B_BadName (A : At K mg) : ErBind K (fdOf K (ma K (ga K "BadName") "__init__")) [("name" : Str)] 1 [] (gP [0] []) (gPV [0] []) := by
  obtain ⟨cc, dV, kV, doc, pm, an, cdv, ct, h, hD, _⟩ := E_BadName A
  rw [h.fd_eq]
  rcases hD with ⟨_, rfl⟩ | ⟨e, _⟩
  · exact erBind_0 rfl fun self us ws l1 l2 => match us, ws, l1, l2 with | [_], [], _, _ => rfl
  · exact absurd rfl e
theorem BK_BadName (A : At K mg) : ErBind K (fdOf K (ma K (ga K "BadName") "__init__")) [("name" : Str)] 0 [("name" : Str)] (gP [0] []) (gPV [0] []) := by
  obtain ⟨cc, dV, kV, doc, pm, an, cdv, ct, h, hD, _⟩ := E_BadName A
  rw [h.fd_eq]
  rcases hD with ⟨_, rfl⟩ | ⟨e, _⟩
  · exact erBind_0 rfl fun self us ws l1 l2 => match us, ws, l1, l2 with | [], [_], _, _ => rfl
  · exact absurd rfl e
theorem B_BadText (A : At K mg) : ErBind K (fdOf K (ma K (ga K "BadText") "__init__")) [("text" : Str)] 1 [] (gP [0] []) (gPV [0] []) := by
  obtain ⟨cc, dV, kV, doc, pm, an, cdv, ct, h, hD, _⟩ := E_BadText A
  rw [h.fd_eq]
  rcases hD with ⟨_, rfl⟩ | ⟨e, _⟩
  · exact erBind_0 rfl fun self us ws l1 l2 => match us, ws, l1, l2 with | [_], [], _, _ => rfl
  · exact absurd rfl e
theorem BK_BadText (A : At K mg) : ErBind K (fdOf K (ma K (ga K "BadText") "__init__")) [("text" : Str)] 0 [("text" : Str)] (gP [0] []) (gPV [0] []) := by
  obtain ⟨cc, dV, kV, doc, pm, an, cdv, ct, h, hD, _⟩ := E_BadText A
  rw [h.fd_eq]
  rcases hD with ⟨_, rfl⟩ | ⟨e, _⟩
  · exact erBind_0 rfl fun self us ws l1 l2 => match us, ws, l1, l2 with | [], [_], _, _ => rfl
  · exact absurd rfl e
theorem B_BadFile (A : At K mg) : ErBind K (fdOf K (ma K (ga K "BadFile") "__init__")) [("index" : Str)] 1 [] (gP [0] []) (gPV [0] []) := by
  obtain ⟨cc, dV, kV, doc, pm, an, cdv, ct, h, hD, _⟩ := E_BadFile A
  rw [h.fd_eq]
  rcases hD with ⟨_, rfl⟩ | ⟨e, _⟩
  · exact erBind_0 rfl fun self us ws l1 l2 => match us, ws, l1, l2 with | [_], [], _, _ => rfl
  · exact absurd rfl e
theorem BK_BadFile (A : At K mg) : ErBind K (fdOf K (ma K (ga K "BadFile") "__init__")) [("index" : Str)] 0 [("index" : Str)] (gP [0] []) (gPV [0] []) := by
  obtain ⟨cc, dV, kV, doc, pm, an, cdv, ct, h, hD, _⟩ := E_BadFile A
  rw [h.fd_eq]
  rcases hD with ⟨_, rfl⟩ | ⟨e, _⟩
  · exact erBind_0 rfl fun self us ws l1 l2 => match us, ws, l1, l2 with | [], [_], _, _ => rfl
  · exact absurd rfl e
theorem B_BadTool (A : At K mg) : ErBind K (fdOf K (ma K (ga K "BadTool") "__init__")) [("part" : Str)] 1 [] (gP [0] []) (gPV [0] []) := by
  obtain ⟨cc, dV, kV, doc, pm, an, cdv, ct, h, hD, _⟩ := E_BadTool A
  rw [h.fd_eq]
  rcases hD with ⟨_, rfl⟩ | ⟨e, _⟩
  · exact erBind_0 rfl fun self us ws l1 l2 => match us, ws, l1, l2 with | [_], [], _, _ => rfl
  · exact absurd rfl e
theorem BK_BadTool (A : At K mg) : ErBind K (fdOf K (ma K (ga K "BadTool") "__init__")) [("part" : Str)] 0 [("part" : Str)] (gP [0] []) (gPV [0] []) := by
  obtain ⟨cc, dV, kV, doc, pm, an, cdv, ct, h, hD, _⟩ := E_BadTool A
  rw [h.fd_eq]
  rcases hD with ⟨_, rfl⟩ | ⟨e, _⟩
  · exact erBind_0 rfl fun self us ws l1 l2 => match us, ws, l1, l2 with | [], [_], _, _ => rfl
  · exact absurd rfl e
theorem B_BadMachine (A : At K mg) : ErBind K (fdOf K (ma K (ga K "BadMachine") "__init__")) [("part" : Str), ("index" : Str)] 2 [] (gP [0, 1] []) (gPV [0, 1] []) := by
  obtain ⟨cc, dV, kV, doc, pm, an, cdv, ct, h, hD, _⟩ := E_BadMachine A
  rw [h.fd_eq]
  rcases hD with ⟨_, rfl⟩ | ⟨e, _⟩
  · exact erBind_0 rfl fun self us ws l1 l2 => match us, ws, l1, l2 with | [_, _], [], _, _ => rfl
  · exact absurd rfl e
theorem BK_BadMachine (A : At K mg) : ErBind K (fdOf K (ma K (ga K "BadMachine") "__init__")) [("part" : Str), ("index" : Str)] 0 [("index" : Str), ("part" : Str)] (gP [1, 0] []) (gPV [1, 0] []) := by
  obtain ⟨cc, dV, kV, doc, pm, an, cdv, ct, h, hD, _⟩ := E_BadMachine A
  rw [h.fd_eq]
  rcases hD with ⟨_, rfl⟩ | ⟨e, _⟩
  · exact erBind_0 rfl fun self us ws l1 l2 => match us, ws, l1, l2 with | [], [_, _], _, _ => rfl
  · exact absurd rfl e
theorem B_NoName (A : At K mg) : ErBind K (fdOf K (ma K (ga K "NoName") "__init__")) [("name" : Str)] 1 [] (gP [0] []) (gPV [0] []) := by
  obtain ⟨cc, dV, kV, doc, pm, an, cdv, ct, h, hD, _⟩ := E_NoName A
  rw [h.fd_eq]
  rcases hD with ⟨_, rfl⟩ | ⟨e, _⟩
  · exact erBind_0 rfl fun self us ws l1 l2 => match us, ws, l1, l2 with | [_], [], _, _ => rfl
  · exact absurd rfl e
theorem BK_NoName (A : At K mg) : ErBind K (fdOf K (ma K (ga K "NoName") "__init__")) [("name" : Str)] 0 [("name" : Str)] (gP [0] []) (gPV [0] []) := by
  obtain ⟨cc, dV, kV, doc, pm, an, cdv, ct, h, hD, _⟩ := E_NoName A
  rw [h.fd_eq]
  rcases hD with ⟨_, rfl⟩ | ⟨e, _⟩
  · exact erBind_0 rfl fun self us ws l1 l2 => match us, ws, l1, l2 with | [], [_], _, _ => rfl
  · exact absurd rfl e
theorem B_NoStep (A : At K mg) : ErBind K (fdOf K (ma K (ga K "NoStep") "__init__")) [("step" : Str)] 1 [] (gP [0] []) (gPV [0] []) := by
  obtain ⟨cc, dV, kV, doc, pm, an, cdv, ct, h, hD, _⟩ := E_NoStep A
  rw [h.fd_eq]
  rcases hD with ⟨_, rfl⟩ | ⟨e, _⟩
  · exact erBind_0 rfl fun self us ws l1 l2 => match us, ws, l1, l2 with | [_], [], _, _ => rfl
  · exact absurd rfl e
theorem BK_NoStep (A : At K mg) : ErBind K (fdOf K (ma K (ga K "NoStep") "__init__")) [("step" : Str)] 0 [("step" : Str)] (gP [0] []) (gPV [0] []) := by
  obtain ⟨cc, dV, kV, doc, pm, an, cdv, ct, h, hD, _⟩ := E_NoStep A
  rw [h.fd_eq]
  rcases hD with ⟨_, rfl⟩ | ⟨e, _⟩
  · exact erBind_0 rfl fun self us ws l1 l2 => match us, ws, l1, l2 with | [], [_], _, _ => rfl
  · exact absurd rfl e
theorem B_NoRun (A : At K mg) : ErBind K (fdOf K (ma K (ga K "NoRun") "__init__")) [("read" : Str)] 1 [] (gP [0] []) (gPV [0] []) := by
  obtain ⟨cc, dV, kV, doc, pm, an, cdv, ct, h, hD, _⟩ := E_NoRun A
  rw [h.fd_eq]
  rcases hD with ⟨_, rfl⟩ | ⟨e, _⟩
  · exact erBind_0 rfl fun self us ws l1 l2 => match us, ws, l1, l2 with | [_], [], _, _ => rfl
  · exact absurd rfl e
theorem BK_NoRun (A : At K mg) : ErBind K (fdOf K (ma K (ga K "NoRun") "__init__")) [("read" : Str)] 0 [("read" : Str)] (gP [0] []) (gPV [0] []) := by
  obtain ⟨cc, dV, kV, doc, pm, an, cdv, ct, h, hD, _⟩ := E_NoRun A
  rw [h.fd_eq]
  rcases hD with ⟨_, rfl⟩ | ⟨e, _⟩
  · exact erBind_0 rfl fun self us ws l1 l2 => match us, ws, l1, l2 with | [], [_], _, _ => rfl
  · exact absurd rfl e
theorem B_NoStrict (A : At K mg) : ErBind K (fdOf K (ma K (ga K "NoStrict") "__init__")) [("name" : Str)] 1 [] (gP [0] []) (gPV [0] []) := by
  obtain ⟨cc, dV, kV, doc, pm, an, cdv, ct, h, hD, _⟩ := E_NoStrict A
  rw [h.fd_eq]
  rcases hD with ⟨_, rfl⟩ | ⟨e, _⟩
  · exact erBind_0 rfl fun self us ws l1 l2 => match us, ws, l1, l2 with | [_], [], _, _ => rfl
  · exact absurd rfl e
theorem BK_NoStrict (A : At K mg) : ErBind K (fdOf K (ma K (ga K "NoStrict") "__init__")) [("name" : Str)] 0 [("name" : Str)] (gP [0] []) (gPV [0] []) := by
  obtain ⟨cc, dV, kV, doc, pm, an, cdv, ct, h, hD, _⟩ := E_NoStrict A
  rw [h.fd_eq]
  rcases hD with ⟨_, rfl⟩ | ⟨e, _⟩
  · exact erBind_0 rfl fun self us ws l1 l2 => match us, ws, l1, l2 with | [], [_], _, _ => rfl
  · exact absurd rfl e
theorem B_TooHeavy (A : At K mg) : ErBind K (fdOf K (ma K (ga K "TooHeavy") "__init__")) [("total" : Str)] 1 [] (gP [0] []) (gPV [0] []) := by
  obtain ⟨cc, dV, kV, doc, pm, an, cdv, ct, h, hD, _⟩ := E_TooHeavy A
  rw [h.fd_eq]
  rcases hD with ⟨_, rfl⟩ | ⟨e, _⟩
  · exact erBind_0 rfl fun self us ws l1 l2 => match us, ws, l1, l2 with | [_], [], _, _ => rfl
  · exact absurd rfl e
theorem BK_TooHeavy (A : At K mg) : ErBind K (fdOf K (ma K (ga K "TooHeavy") "__init__")) [("total" : Str)] 0 [("total" : Str)] (gP [0] []) (gPV [0] []) := by
  obtain ⟨cc, dV, kV, doc, pm, an, cdv, ct, h, hD, _⟩ := E_TooHeavy A
  rw [h.fd_eq]
  rcases hD with ⟨_, rfl⟩ | ⟨e, _⟩
  · exact erBind_0 rfl fun self us ws l1 l2 => match us, ws, l1, l2 with | [], [_], _, _ => rfl
  · exact absurd rfl e
theorem B_TooMany (A : At K mg) : ErBind K (fdOf K (ma K (ga K "TooMany") "__init__")) [("limit" : Str)] 1 [] (gP [0] []) (gPV [0] []) := by
  obtain ⟨cc, dV, kV, doc, pm, an, cdv, ct, h, hD, _⟩ := E_TooMany A
  rw [h.fd_eq]
  rcases hD with ⟨_, rfl⟩ | ⟨e, _⟩
  · exact erBind_0 rfl fun self us ws l1 l2 => match us, ws, l1, l2 with | [_], [], _, _ => rfl
  · exact absurd rfl e
theorem BK_TooMany (A : At K mg) : ErBind K (fdOf K (ma K (ga K "TooMany") "__init__")) [("limit" : Str)] 0 [("limit" : Str)] (gP [0] []) (gPV [0] []) := by
  obtain ⟨cc, dV, kV, doc, pm, an, cdv, ct, h, hD, _⟩ := E_TooMany A
  rw [h.fd_eq]
  rcases hD with ⟨_, rfl⟩ | ⟨e, _⟩
  · exact erBind_0 rfl fun self us ws l1 l2 => match us, ws, l1, l2 with | [], [_], _, _ => rfl
  · exact absurd rfl e
theorem B_Refused (A : At K mg) : ErBind K (fdOf K (ma K (ga K "Refused") "__init__")) [("name" : Str), ("index" : Str), ("fault" : Str), ("path" : Str), ("cause" : Str)] 5 [] (gP [0, 1, 2, 3, 4] [.none]) (gPV [0, 1, 2, 3, 4] [.non]) := by
  obtain ⟨cc, dV, kV, doc, pm, an, cdv, ct, h, hD, _⟩ := E_Refused A
  rw [h.fd_eq]
  rcases hD with ⟨e, _⟩ | ⟨e, T, o, its, m, rfl, lT, oT, rT⟩
  · cases e
  · exact erBind_d (T := T) rfl rfl (.inr ⟨e, T, o, its, m, rfl, lT, oT, rT⟩) fun self us ws l1 l2 => match us, ws, l1, l2 with | [_, _, _, _, _], [], _, _ => ⟨_, rfl, rfl⟩
theorem BK_Refused (A : At K mg) : ErBind K (fdOf K (ma K (ga K "Refused") "__init__")) [("name" : Str), ("index" : Str), ("fault" : Str), ("path" : Str), ("cause" : Str)] 0 [("cause" : Str), ("path" : Str), ("fault" : Str), ("index" : Str), ("name" : Str)] (gP [4, 3, 2, 1, 0] [.none]) (gPV [4, 3, 2, 1, 0] [.non]) := by
  obtain ⟨cc, dV, kV, doc, pm, an, cdv, ct, h, hD, _⟩ := E_Refused A
  rw [h.fd_eq]
  rcases hD with ⟨e, _⟩ | ⟨e, T, o, its, m, rfl, lT, oT, rT⟩
  · cases e
  · exact erBind_d (T := T) rfl rfl (.inr ⟨e, T, o, its, m, rfl, lT, oT, rT⟩) fun self us ws l1 l2 => match us, ws, l1, l2 with | [], [_, _, _, _, _], _, _ => ⟨_, rfl, rfl⟩
theorem B_Ambiguous (A : At K mg) : ErBind K (fdOf K (ma K (ga K "Ambiguous") "__init__")) [("file" : Str)] 1 [] (gP [0] []) (gPV [0] []) := by
  obtain ⟨cc, dV, kV, doc, pm, an, cdv, ct, h, hD, _⟩ := E_Ambiguous A
  rw [h.fd_eq]
  rcases hD with ⟨_, rfl⟩ | ⟨e, _⟩
  · exact erBind_0 rfl fun self us ws l1 l2 => match us, ws, l1, l2 with | [_], [], _, _ => rfl
  · exact absurd rfl e
theorem BK_Ambiguous (A : At K mg) : ErBind K (fdOf K (ma K (ga K "Ambiguous") "__init__")) [("file" : Str)] 0 [("file" : Str)] (gP [0] []) (gPV [0] []) := by
  obtain ⟨cc, dV, kV, doc, pm, an, cdv, ct, h, hD, _⟩ := E_Ambiguous A
  rw [h.fd_eq]
  rcases hD with ⟨_, rfl⟩ | ⟨e, _⟩
  · exact erBind_0 rfl fun self us ws l1 l2 => match us, ws, l1, l2 with | [], [_], _, _ => rfl
  · exact absurd rfl e
theorem B_Unlike (A : At K mg) : ErBind K (fdOf K (ma K (ga K "Unlike") "__init__")) [("file" : Str)] 1 [] (gP [0] []) (gPV [0] []) := by
  obtain ⟨cc, dV, kV, doc, pm, an, cdv, ct, h, hD, _⟩ := E_Unlike A
  rw [h.fd_eq]
  rcases hD with ⟨_, rfl⟩ | ⟨e, _⟩
  · exact erBind_0 rfl fun self us ws l1 l2 => match us, ws, l1, l2 with | [_], [], _, _ => rfl
  · exact absurd rfl e
theorem BK_Unlike (A : At K mg) : ErBind K (fdOf K (ma K (ga K "Unlike") "__init__")) [("file" : Str)] 0 [("file" : Str)] (gP [0] []) (gPV [0] []) := by
  obtain ⟨cc, dV, kV, doc, pm, an, cdv, ct, h, hD, _⟩ := E_Unlike A
  rw [h.fd_eq]
  rcases hD with ⟨_, rfl⟩ | ⟨e, _⟩
  · exact erBind_0 rfl fun self us ws l1 l2 => match us, ws, l1, l2 with | [], [_], _, _ => rfl
  · exact absurd rfl e
theorem B_Twice (A : At K mg) : ErBind K (fdOf K (ma K (ga K "Twice") "__init__")) [("name" : Str)] 1 [] (gP [0] []) (gPV [0] []) := by
  obtain ⟨cc, dV, kV, doc, pm, an, cdv, ct, h, hD, _⟩ := E_Twice A
  rw [h.fd_eq]
  rcases hD with ⟨_, rfl⟩ | ⟨e, _⟩
  · exact erBind_0 rfl fun self us ws l1 l2 => match us, ws, l1, l2 with | [_], [], _, _ => rfl
  · exact absurd rfl e
theorem BK_Twice (A : At K mg) : ErBind K (fdOf K (ma K (ga K "Twice") "__init__")) [("name" : Str)] 0 [("name" : Str)] (gP [0] []) (gPV [0] []) := by
  obtain ⟨cc, dV, kV, doc, pm, an, cdv, ct, h, hD, _⟩ := E_Twice A
  rw [h.fd_eq]
  rcases hD with ⟨_, rfl⟩ | ⟨e, _⟩
  · exact erBind_0 rfl fun self us ws l1 l2 => match us, ws, l1, l2 with | [], [_], _, _ => rfl
  · exact absurd rfl e
theorem B_Stopped (A : At K mg) : ErBind K (fdOf K (ma K (ga K "Stopped") "__init__")) [("number" : Str), ("reason" : Str)] 2 [] (gP [0, 1] []) (gPV [0, 1] []) := by
  obtain ⟨cc, dV, kV, doc, pm, an, cdv, ct, h, hD, _⟩ := E_Stopped A
  rw [h.fd_eq]
  rcases hD with ⟨_, rfl⟩ | ⟨e, _⟩
  · exact erBind_0 rfl fun self us ws l1 l2 => match us, ws, l1, l2 with | [_, _], [], _, _ => rfl
  · exact absurd rfl e
theorem BK_Stopped (A : At K mg) : ErBind K (fdOf K (ma K (ga K "Stopped") "__init__")) [("number" : Str), ("reason" : Str)] 0 [("reason" : Str), ("number" : Str)] (gP [1, 0] []) (gPV [1, 0] []) := by
  obtain ⟨cc, dV, kV, doc, pm, an, cdv, ct, h, hD, _⟩ := E_Stopped A
  rw [h.fd_eq]
  rcases hD with ⟨_, rfl⟩ | ⟨e, _⟩
  · exact erBind_0 rfl fun self us ws l1 l2 => match us, ws, l1, l2 with | [], [_, _], _, _ => rfl
  · exact absurd rfl e
theorem B4_Refused (A : At K mg) : ErBind K (fdOf K (ma K (ga K "Refused") "__init__")) [("name" : Str), ("index" : Str), ("fault" : Str), ("path" : Str), ("cause" : Str)] 4 [] (gP [0, 1, 2, 3, 4] [.none]) (gPV [0, 1, 2, 3, 4] [.non]) := by
  obtain ⟨cc, dV, kV, doc, pm, an, cdv, ct, h, hD, _⟩ := E_Refused A
  rw [h.fd_eq]
  rcases hD with ⟨e, _⟩ | ⟨e, T, o, its, m, rfl, lT, oT, rT⟩
  · cases e
  · exact erBind_d (T := T) rfl rfl (.inr ⟨e, T, o, its, m, rfl, lT, oT, rT⟩) fun self us ws l1 l2 => match us, ws, l1, l2 with | [_, _, _, _], [], _, _ => ⟨_, rfl, rfl⟩
end
end K96

set_option Elab.async false
set_option linter.all false
set_option maxRecDepth 100000
set_option maxHeartbeats 4000000
namespace K96
open PySem PySem.Spec PyProof.Rows L2 He Hm
section
variable {P : Program} {w : World} {K : PySem.W.Frag} {mg : Str → Option Value} {base : Heap}
theorem sc_law_draw : FnScope [("_law_pot_here" : Str), ("_law_many" : Str), ("_law_cell" : Str), ("_law_mixed" : Str), ("_law_digit" : Str)] [("_law_pot_here" : Str), ("_law_many" : Str)] (defScope (top 21)) := ⟨rfl, rfl, rfl, by decide +kernel, rfl, by decide +kernel, by decide +kernel⟩
theorem ok_draw1 (A : At K mg) : FnOk P w K mg base CX0 1 (ga K "_law_draw") (fdOf K (ga K "_law_draw")) [("_law_pot_here" : Str), ("_law_many" : Str)] (spDraw1 K) := by
  refine (F_law_draw A).ok sc_law_draw (fun vs H Q E h => ?_) (fun cdv A' outer s H vs Q E hr h => ?_)
  · obtain ⟨p, l, many, i, c, n, ns, rfl, _⟩ := h
    rfl
  · obtain ⟨p, l, many, i, c, n, ns, rfl, hp, hl, npl, hne, hlen, h0, h100, q⟩ := h
    refine ⟨_, PSs.nox (pss_cons (ps_asg (pe_op op_add (pe_ix ix_list (pv 0) pe_int (fun _ _ => rfl)) pe_int) (pg_sub (pv 0) pe_int set_list))
 (pss_cons (ps_if (pt_cmpR op_eq (pe_ix ix_list (pv 0) pe_int (fun _ _ => rfl)) pe_int (nomark _)) (pss_cons (ps_set (i := 2) sc_law_draw.nd rfl (by first | exact Or.inl rfl | exact Or.inr rfl) (pe_ix ix_list (pe_ix ix_list (pv 0) pe_int (fun _ _ => rfl)) (pe_op op_mod (pe_callTy call_int1 rfl (n_int A) (by decide +kernel) (pa_cons (pe_ix ix_list (pv 0) pe_int (fun _ _ => rfl)) pa_nil)) (pe_callB call_len_seq rfl (n_len A) (by decide +kernel) (pa_cons (pe_ix ix_list (pv 0) pe_int (fun _ _ => rfl)) pa_nil))) (fun _ _ => rfl)))
 (pss_cons (ps_asg (pe_op op_add (pe_ix ix_list (pv 0) pe_int (fun _ _ => rfl)) pe_int) (pg_sub (pv 0) pe_int set_list))
 (pss_cons (ps_if (pt_cmpR op_lt (pv 2) (pe_op op_pow pe_int pe_int) (nomark _)) (pss_cons (ps_set (i := 3) sc_law_draw.nd rfl (by first | exact Or.inl rfl | exact Or.inr rfl) (pe_op op_mod (pe_callTy call_int1 rfl (n_int A) (by decide +kernel) (pa_cons (pe_op op_add (pe_op op_mul (pv 2) pe_int) (pe_op op_mul (pe_ix ix_list (pv 0) pe_int (fun _ _ => rfl)) pe_int)) pa_nil)) pe_int))
 (pss_cons (ps_set (i := 3) sc_law_draw.nd rfl (by first | exact Or.inl rfl | exact Or.inr rfl) (pe_op op_mod (pe_callTy call_int1 rfl (n_int A) (by decide +kernel) (pa_cons (pe_op op_add (pe_op op_add (pe_op op_mul (pv 3) (pv 3)) (pe_op op_mul (pe_ix ix_list (pv 0) pe_int (fun _ _ => rfl)) pe_int)) pe_int) pa_nil)) pe_int))
 (pss_one (ps_ret (pe_op op_mod (pe_op op_fdiv (pe_callTy call_int1 rfl (n_int A) (by decide +kernel) (pa_cons (pv 3) pa_nil)) pe_int) (pv 1)))))) pss_nil)
 (pss_one (ps_asg (pv 2) (pg_sub (pv 0) pe_int set_list)))))) pss_nil)
 (pss_cons (ps_set (i := 4) sc_law_draw.nd rfl (by first | exact Or.inl rfl | exact Or.inr rfl) (pe_op op_mod (pe_callTy call_int1 rfl (n_int A) (by decide +kernel) (pa_cons (pe_ix ix_list (pv 0) pe_int (fun _ _ => rfl)) pa_nil)) (pv 1)))
 (pss_cons (ps_asg (pe_op op_fdivW (pe_callTy call_int1 rfl (n_int A) (by decide +kernel) (pa_cons (pe_ix ix_list (pv 0) pe_int (fun _ _ => rfl)) pa_nil)) (pv 1)) (pg_sub (pv 0) pe_int set_list))
 (pss_one (ps_ret (pv 4))))))), ?_⟩
    have hl' : ∀ i c n, SqL K (upd H p (potL l i c n)) l (ns.map V.int) := fun i c n => by
      rcases hl with (hl | ⟨o, hl⟩) | hl
      · exact .inl (.inl (by rw [upd_ne npl.symm]; exact hl))
      · exact .inl (.inr ⟨o, by rw [upd_ne npl.symm]; exact hl⟩)
      · exact .inr hl
    have hmany : many.natAbs < 2 ^ 100 := by omega
    -- pot[3] = pot[3] + 1
    refine ⟨_, rfl, p, _, 3, _, rfl, rfl, SqL.of hp, rfl, _, _, rfl, rfl, _, rfl, p, _, 3, 3, rfl, rfl, hp, rfl, ?_⟩
    -- if pot[2] == 0
    refine ⟨_, rfl, p, _, 2, _, rfl, rfl, SqL.of upd_same, rfl, rfl, _, rfl, ?_⟩
    refine ite2 (fun ez => ?_) (fun ez => ?_)
    · -- cell = pot[0][int(pot[1]) % len(pot[0])]
      have hpos : (0 : Int) < ns.length := by have := List.length_pos_iff.mpr hne; omega
      have hm0 := Int.emod_nonneg i (b := (ns.length : Int)) (by omega)
      have hm1 := Int.emod_lt_of_pos i hpos
      obtain ⟨m, hm⟩ := Int.eq_ofNat_of_zero_le hm0
      have hml : m < ns.length := by omega
      refine ⟨_, rfl, p, _, 0, _, rfl, rfl, SqL.of upd_same, rfl, _, rfl, p, _, 1, _, rfl, rfl, SqL.of upd_same, rfl, .inl ⟨_, rfl, _, rfl, p, _, 0, _, rfl, rfl, SqL.of upd_same, rfl, l, _, rfl, .inl (hl' _ _ _), _, _, rfl, rfl, by rw [List.length_map]; exact hpos, l, ns.map V.int, m, _, rfl, by rw [List.length_map]; exact congrArg V.int hm, hl' _ _ _, atI_cell hml, ?_⟩⟩
      -- pot[1] = pot[1] + 1
      refine ⟨_, rfl, p, _, 1, _, rfl, rfl, SqL.of upd_same, rfl, _, _, rfl, rfl, _, rfl, p, _, 1, 1, rfl, rfl, upd_same, rfl, ?_⟩
      -- if cell < 10 ** 18
      refine ⟨_, rfl, _, _, rfl, rfl, ⟨by decide, by decide, by decide⟩, _, _, rfl, rfl, _, rfl, ?_⟩
      refine ite2 (fun ec => ?_) (fun ec => ?_)
      · have hc : cellOf ns m < 10 ^ 18 := of_decide_eq_true ec
        refine ⟨_, rfl, _, _, rfl, rfl, .inr ⟨by decide, by decide⟩, _, rfl, p, _, 3, _, rfl, rfl, SqL.of upd_same, rfl, _, _, rfl, rfl, .inr ⟨by decide, by decide⟩, _, _, rfl, rfl, .inl ⟨_, rfl, _, _, rfl, rfl, by show (0 : Int) < 2147483629; decide, ?_⟩⟩
        refine ⟨_, rfl, _, rfl, _, _, rfl, rfl, .inl ⟨Int.lt_of_lt_of_le (by decide) (Int.emod_nonneg _ (by decide)), Int.lt_trans (Int.emod_lt_of_pos _ (by decide)) (by decide)⟩, _, rfl, p, _, 1, _, rfl, rfl, SqL.of upd_same, rfl, _, _, rfl, rfl, .inr ⟨by decide, by decide⟩, _, _, rfl, rfl, _, _, rfl, rfl, .inl ⟨_, rfl, _, _, rfl, rfl, by show (0 : Int) < 2147483587; decide, ?_⟩⟩
        refine ⟨_, rfl, .inl ⟨_, rfl, _, _, rfl, rfl, ⟨by decide, by decide⟩, _, rfl, _, _, rfl, rfl, h0, ?_⟩⟩
        rw [upd_upd]
        exact q _ _ _ _ (Int.emod_nonneg _ (by omega)) (Int.emod_lt_of_pos _ h0)
      · refine ⟨_, rfl, _, rfl, p, _, 2, 2, rfl, rfl, upd_same, rfl, ?_⟩
        refine ⟨_, rfl, p, _, 2, _, rfl, rfl, SqL.of upd_same, rfl, .inl ⟨_, rfl, _, rfl, _, _, rfl, rfl, h0, ?_⟩⟩
        refine ⟨_, rfl, p, _, 2, _, rfl, rfl, SqL.of upd_same, rfl, .inl ⟨_, rfl, _, rfl, _, _, rfl, rfl, wide_div h0 hmany (by decide) (by decide), _, rfl, p, _, 2, 2, rfl, rfl, upd_same, rfl, _, rfl, ?_⟩⟩
        rw [upd_upd, upd_upd, upd_upd]
        exact q _ _ _ _ (Int.emod_nonneg _ (by omega)) (Int.emod_lt_of_pos _ h0)
    · refine ⟨_, rfl, p, _, 2, _, rfl, rfl, SqL.of upd_same, rfl, .inl ⟨_, rfl, _, rfl, _, _, rfl, rfl, h0, ?_⟩⟩
      refine ⟨_, rfl, p, _, 2, _, rfl, rfl, SqL.of upd_same, rfl, .inl ⟨_, rfl, _, rfl, _, _, rfl, rfl, wide_div h0 hmany (by decide) (by decide), _, rfl, p, _, 2, 2, rfl, rfl, upd_same, rfl, _, rfl, ?_⟩⟩
      rw [upd_upd]
      exact q _ _ _ _ (Int.emod_nonneg _ (by omega)) (Int.emod_lt_of_pos _ h0)
end
end K96

set_option Elab.async false
set_option linter.all false
set_option maxRecDepth 100000
set_option maxHeartbeats 4000000
namespace K96
open PySem PySem.Spec PyProof.Rows L2 He Hm
section
variable {P : Program} {w : World} {K : PySem.W.Frag} {mg : Str → Option Value} {base : Heap}
theorem ok_draw (A : At K mg) : FnOk P w K mg base CX0 1 (ga K "_law_draw") (fdOf K (ga K "_law_draw")) [("_law_pot_here" : Str), ("_law_many" : Str)] (spDraw K) :=
  draw_seal (ok_draw1 A) rfl fun _ _ _ _ _ _ _ _ h => h
theorem b_law_draw (A : At K mg) : Binds K (fdOf K (ga K "_law_draw")) [("_law_pot_here" : Str), ("_law_many" : Str)] [] := FunD.bindsN (ps := [("_law_pot_here" : Str), ("_law_many" : Str)]) (F_law_draw A) fun _ _ _ _ _ _ us hl => match us, hl with | [_, _], _ => rfl
theorem b_law_pot (A : At K mg) : Binds K (fdOf K (ga K "_law_pot")) [("_law_script" : Str)] [] := FunD.bindsN (ps := [("_law_script" : Str)]) (F_law_pot A) fun _ _ _ _ _ _ us hl => match us, hl with | [_], _ => rfl
theorem b_law_text (A : At K mg) : Binds K (fdOf K (ga K "_law_text")) [("_law_pot_here" : Str), ("_law_most" : Str)] [] := FunD.bindsN (ps := [("_law_pot_here" : Str), ("_law_most" : Str)]) (F_law_text A) fun _ _ _ _ _ _ us hl => match us, hl with | [_, _], _ => rfl
theorem b_law_thing (A : At K mg) : Binds K (fdOf K (ga K "_law_thing")) [("_law_pot_here" : Str)] [] := FunD.bindsN (ps := [("_law_pot_here" : Str)]) (F_law_thing A) fun _ _ _ _ _ _ us hl => match us, hl with | [_], _ => rfl
theorem b_law_made (A : At K mg) : Binds K (fdOf K (ga K "_law_made")) [("_law_k" : Str), ("_law_x" : Str), ("_law_y" : Str), ("_law_z" : Str), ("_law_t" : Str)] [] := FunD.bindsN (ps := [("_law_k" : Str), ("_law_x" : Str), ("_law_y" : Str), ("_law_z" : Str), ("_law_t" : Str)]) (F_law_made A) fun _ _ _ _ _ _ us hl => match us, hl with | [_, _, _, _, _], _ => rfl
theorem b_law_more_made (A : At K mg) : Binds K (fdOf K (ga K "_law_more_made")) [("_law_k" : Str), ("_law_x" : Str), ("_law_y" : Str), ("_law_z" : Str), ("_law_t" : Str)] [] := FunD.bindsN (ps := [("_law_k" : Str), ("_law_x" : Str), ("_law_y" : Str), ("_law_z" : Str), ("_law_t" : Str)]) (F_law_more_made A) fun _ _ _ _ _ _ us hl => match us, hl with | [_, _, _, _, _], _ => rfl
theorem b_law_named (A : At K mg) : Binds K (fdOf K (ga K "_law_named")) [("_law_k" : Str), ("_law_x" : Str), ("_law_y" : Str)] [] := FunD.bindsN (ps := [("_law_k" : Str), ("_law_x" : Str), ("_law_y" : Str)]) (F_law_named A) fun _ _ _ _ _ _ us hl => match us, hl with | [_, _, _], _ => rfl
theorem b_law_fields (A : At K mg) : Binds K (fdOf K (ga K "_law_fields")) [("_law_k" : Str), ("_law_e" : Str)] [] := FunD.bindsN (ps := [("_law_k" : Str), ("_law_e" : Str)]) (F_law_fields A) fun _ _ _ _ _ _ us hl => match us, hl with | [_, _], _ => rfl
theorem b_law_classes (A : At K mg) : Binds K (fdOf K (ga K "_law_classes")) [("_law_e" : Str)] [] := FunD.bindsN (ps := [("_law_e" : Str)]) (F_law_classes A) fun _ _ _ _ _ _ us hl => match us, hl with | [_], _ => rfl
theorem b_law_bases (A : At K mg) : Binds K (fdOf K (ga K "_law_bases")) [("_law_e" : Str)] [] := FunD.bindsN (ps := [("_law_e" : Str)]) (F_law_bases A) fun _ _ _ _ _ _ us hl => match us, hl with | [_], _ => rfl
theorem b_law_equal (A : At K mg) : Binds K (fdOf K (ga K "_law_equal")) [("_law_told" : Str), ("_law_due" : Str)] [] := FunD.bindsN (ps := [("_law_told" : Str), ("_law_due" : Str)]) (F_law_equal A) fun _ _ _ _ _ _ us hl => match us, hl with | [_, _], _ => rfl
theorem sc_law_pot : FnScope [("_law_script" : Str)] [("_law_script" : Str)] (defScope (top 22)) := ⟨rfl, rfl, rfl, by decide +kernel, rfl, by decide +kernel, by decide +kernel⟩
theorem ok_pot1 (A : At K mg) : FnOk P w K mg base CX0 1 (ga K "_law_pot") (fdOf K (ga K "_law_pot")) [("_law_script" : Str)] (spPot1 K) := by
  refine (F_law_pot A).ok sc_law_pot (fun vs H Q E h => ?_) (fun cdv A' outer s H vs Q E hr h => ?_)
  · obtain ⟨a, ns, rfl, _⟩ := h
    rfl
  · obtain ⟨a, ns, rfl, hl, hlen, q⟩ := h
    refine ⟨_, PSs.nox (pss_one (ps_ret (pe_lst (pa_cons (pe_op op_cat (pe_callTy call_list_of rfl (n_list A) (by decide +kernel) (pa_cons (pv 0) pa_nil)) (pe_op op_rep (pe_lst (pa_cons pe_int pa_nil)) (pe_callTy call_int1 rfl (n_int A) (by decide +kernel) (pa_cons (pe_cmpR op_eq (pe_callB call_len_seq rfl (n_len A) (by decide +kernel) (pa_cons (pv 0) pa_nil)) pe_int (nomark _)) pa_nil)))) (pa_cons pe_int (pa_cons pe_int (pa_cons pe_int pa_nil))))))), ?_⟩
    have sz : ∀ n, n ≤ 64 → n ≤ sizeLine := fun n h => Nat.le_trans h (by rw [sizeLine_eq]; decide)
    refine ⟨_, rfl, a, _, rfl, .inl hl, fun l1 n1 => ?_⟩
    have s1 := Same.new (o := HO.lst (ns.map V.int)) n1
    refine ⟨sz _ (by decide), fun l2 n2 => ?_⟩
    have s2 := Same.new (o := HO.lst [V.int 0]) n2
    refine ⟨_, rfl, a, _, rfl, .inl ((s1.trans s2).seq hl), rfl, .inr ⟨_, rfl, ?_⟩⟩
    refine ⟨l2, _, _, rfl, rfl, upd_same, ?_, ?_, ?_, fun l3 n3 => ?_⟩
    · split <;> decide
    · split <;> decide
    · refine sz _ ?_
      split <;> decide
    obtain ⟨ns', hne, hlen', e3⟩ : ∃ ns' : List Int, ns' ≠ [] ∧ ns'.length ≤ 64 ∧ ns.map V.int ++ (List.replicate (if decide (V.int ↑((ns.map V.int).length) = V.int 0) = true then (1 : Int) else 0).toNat [V.int 0]).flatten = ns'.map V.int := by
      cases ns with
      | nil => exact ⟨[0], by decide, by decide, by simp⟩
      | cons x xs =>
        refine ⟨x :: xs, by simp, by omega, ?_⟩
        have : ¬ V.int ((((x :: xs).map V.int).length : Nat) : Int) = V.int 0 := fun z => by
          have z := V.int.inj z
          simp only [List.map_cons, List.length_cons] at z
          omega
        rw [decide_eq_false this]
        simp
    refine ⟨l1, l3, _, _, rfl, rfl, (s2.trans (Same.new n3)) _ _ upd_same, upd_same, ?_, fun l4 n4 => ?_⟩
    · have z := congrArg List.length e3
      rw [List.length_append, List.length_map (as := ns')] at z
      rw [z]
      exact sz _ hlen'
    refine ⟨sz 4 (by decide), fun p n5 => ?_⟩
    exact q p l4 _ ns' ((s1.trans s2).trans ((Same.new n3).trans (Same.new n4))) n5 (by rw [upd_same]; exact congrArg (fun z => some (HO.lst z)) e3) hne hlen'

theorem sc_law_text : FnScope [("_law_pot_here" : Str), ("_law_most" : Str), ("_law_signs" : Str), ("_law_size" : Str), ("_law_k" : Str)] [("_law_pot_here" : Str), ("_law_most" : Str)] (defScope (top 23)) := ⟨rfl, rfl, rfl, by decide +kernel, rfl, by decide +kernel, by decide +kernel⟩
theorem ok_text (A : At K mg) : FnOk P w K mg base CX0 2 (ga K "_law_text") (fdOf K (ga K "_law_text")) [("_law_pot_here" : Str), ("_law_most" : Str)] (spText K) := by
  refine (F_law_text A).ok sc_law_text (fun vs H Q E h => ?_) (fun cdv A' outer s H vs Q E hr h => ?_)
  · obtain ⟨p, most, rfl, _⟩ := h
    rfl
  · obtain ⟨p, most, rfl, hp, h0, h1, q⟩ := h
    refine ⟨_, PSs.nox (pss_cons (ps_set (i := 2) sc_law_text.nd rfl (by first | exact Or.inl rfl | exact Or.inr rfl) pe_str)
 (pss_cons (ps_set (i := 3) sc_law_text.nd rfl (by first | exact Or.inl rfl | exact Or.inr rfl) (pe_call (ok_draw A) (hr.mono (by decide)) rfl (g__law_draw A) (F_law_draw A).kp (b_law_draw A) .nil pass0 (pa_cons (pv 0) (pa_cons (pe_op op_add (pv 1) pe_int) pa_nil))))
 (pss_one (ps_ret (pe_join pe_str (pe_lc (own := [(("_law_k" : Str), 4)]) (g := gName 4) rfl sc_law_text.nd (pi_range1 rfl (n_range A) (pa_cons (pv 3) pa_nil)) (blkOk_by (own := [(("_law_k" : Str), 4)]) (N := [("_law_pot_here" : Str), ("_law_most" : Str), ("_law_signs" : Str), ("_law_size" : Str), ("_law_k" : Str)]) (sc := (defScope (top 23))) (by decide +kernel)) (fun _ _ _ _ _ => (pg_name (i := 4) sc_law_text.nd rfl (by first | exact Or.inl rfl | exact Or.inr rfl))) (fun _ _ _ _ _ => pts_nil) (fun _ _ _ _ _ => (pe_ix ix_str (pv 2) (pe_call (ok_draw A) (hr.mono (by decide)) rfl (g__law_draw A) (F_law_draw A).kp (b_law_draw A) .nil pass0 (pa_cons (pv 0) (pa_cons pe_int pa_nil))) (fun _ _ => rfl))))))))), ?_⟩
    refine ⟨_, rfl, _, rfl, _, _, rfl, rfl, p, _, rfl, hp, by omega, by omega, fun d d0 d1 => ?_⟩
    refine ⟨⟨_, rfl⟩, _, rfl, d, rfl, by omega, by omega, fun D hD => lc_range (lo := 0) (n := d.toNat) (fun i H1 => ∃ ys : List Str, ys.length = i ∧ (∀ y ∈ ys, y.length = 1) ∧ H1 = upd H D (.lst (ys.map V.str))) ⟨[], rfl, (fun _ h => nomatch h), rfl⟩ (fun i H1 hi pv => ?_) (fun H1 pv => ?_)⟩
    · obtain ⟨ys, hl, hy, rfl⟩ := pv
      refine ⟨rfl, ⟨_, rfl, _, rfl, p, 94, rfl, hp.same (Same.new hD), by decide, by decide, fun c c0 c1 => ?_⟩⟩
      obtain ⟨m, rfl⟩ := Int.eq_ofNat_of_zero_le c0
      have hm : m < 94 := by omega
      refine ⟨_, _, _, rfl, rfl, Nat.le_trans (by decide : _ ≤ 94) (by rw [sizeLine_eq]; decide), atI_nat (List.getElem?_eq_getElem (by show m < 94; exact hm)), ys.map V.str, upd_same, by rw [List.length_map]; exact Nat.lt_of_lt_of_le (by omega : _ < 2 ^ 20) (by rw [sizeLine_eq]; decide), ys ++ [_], by rw [List.length_append, hl]; rfl, ?_, by rw [upd_upd, List.map_append]; rfl⟩
      intro y h
      rcases List.mem_append.mp h with h | h
      · exact hy y h
      · cases List.mem_singleton.mp h
        rfl
    · obtain ⟨ys, hl, hy, rfl⟩ := pv
      refine ⟨_, D, ys, rfl, rfl, .inl (SqL.of upd_same), ?_, q _ _ (Same.new hD)⟩
      have z : ∀ zs : List Str, (∀ y ∈ zs, y.length = 1) → (zs.map (·.length)).sum = zs.length := fun zs => by
        induction zs with
        | nil => intro _; rfl
        | cons x zs ih =>
          intro h
          rw [List.map_cons, List.sum_cons, ih fun y m => h y (List.mem_cons_of_mem _ m), h x List.mem_cons_self, List.length_cons]
          omega
      rw [z ys hy, hl]
      show d.toNat + d.toNat * 0 ≤ _
      omega

theorem ok_pot (A : At K mg) : FnOk P w K mg base CX0 1 (ga K "_law_pot") (fdOf K (ga K "_law_pot")) [("_law_script" : Str)] (spPot K) := pot_seal (ok_pot1 A)
theorem sc_law_thing : FnScope [("_law_pot_here" : Str), ("_law_kind" : Str)] [("_law_pot_here" : Str)] (defScope (top 24)) := ⟨rfl, rfl, rfl, by decide +kernel, rfl, by decide +kernel, by decide +kernel⟩
theorem ok_thing (A : At K mg) : FnOk P w K mg base CX0 3 (ga K "_law_thing") (fdOf K (ga K "_law_thing")) [("_law_pot_here" : Str)] (spThing K) := by
  refine (F_law_thing A).ok sc_law_thing (fun vs H Q E h => ?_) (fun cdv A' outer s H vs Q E hr h => ?_)
  · obtain ⟨p, rfl, _⟩ := h
    rfl
  · obtain ⟨p, rfl, hp, q⟩ := h
    refine ⟨_, PSs.nox (pss_cons (ps_set (i := 1) sc_law_thing.nd rfl (by first | exact Or.inl rfl | exact Or.inr rfl) (pe_call (ok_draw A) (hr.mono (by decide)) rfl (g__law_draw A) (F_law_draw A).kp (b_law_draw A) .nil pass0 (pa_cons (pv 0) (pa_cons pe_int pa_nil))))
 (pss_cons (ps_if (pt_cmpR op_eq (pv 1) pe_int (nomark _)) (pss_one (ps_ret (pe_op op_sub (pe_call (ok_draw A) (hr.mono (by decide)) rfl (g__law_draw A) (F_law_draw A).kp (b_law_draw A) .nil pass0 (pa_cons (pv 0) (pa_cons (pe_op op_pow pe_int pe_int) pa_nil))) (pe_op op_pow pe_int pe_int)))) pss_nil)
 (pss_cons (ps_if (pt_cmpR op_eq (pv 1) pe_int (nomark _)) (pss_one (ps_ret (pe_call (ok_text A) (hr.mono (by decide)) rfl (g__law_text A) (F_law_text A).kp (b_law_text A) .nil pass0 (pa_cons (pv 0) (pa_cons pe_int pa_nil))))) pss_nil)
 (pss_cons (ps_if (pt_cmpR op_eq (pv 1) pe_int (nomark _)) (pss_one (ps_ret (pe_tup (pa_cons (pe_call (ok_draw A) (hr.mono (by decide)) rfl (g__law_draw A) (F_law_draw A).kp (b_law_draw A) .nil pass0 (pa_cons (pv 0) (pa_cons pe_int pa_nil))) (pa_cons (pe_call (ok_text A) (hr.mono (by decide)) rfl (g__law_text A) (F_law_text A).kp (b_law_text A) .nil pass0 (pa_cons (pv 0) (pa_cons pe_int pa_nil))) pa_nil))))) pss_nil)
 (pss_cons (ps_if (pt_cmpR op_eq (pv 1) pe_int (nomark _)) (pss_one (ps_ret (pe_lst (pa_cons (pe_call (ok_text A) (hr.mono (by decide)) rfl (g__law_text A) (F_law_text A).kp (b_law_text A) .nil pass0 (pa_cons (pv 0) (pa_cons pe_int pa_nil))) (pa_cons pe_non pa_nil))))) pss_nil)
 (pss_one (ps_ret (pe_ix ix_list (pe_lst (pa_cons pe_non (pa_cons pe_bl (pa_cons pe_bl pa_nil)))) (pe_op op_sub (pv 1) pe_int) (fun _ _ => rfl))))))))), ?_⟩
    refine ⟨_, rfl, p, 7, rfl, hp, by decide, by decide, fun k k0 k1 => ?_⟩
    refine ⟨_, rfl, rfl, _, rfl, ite2 (fun _ => ?_) (fun e0 => ?_)⟩
    · refine ⟨_, rfl, _, _, rfl, rfl, ⟨by decide, by decide, by decide⟩, p, _, rfl, hp, by decide, by decide, fun d d0 d1 => ⟨_, _, rfl, rfl, ⟨by decide, by decide, by decide⟩, _, _, rfl, rfl, ?_⟩⟩
      exact q _ _ _ (Same.refl H) (.int _) (fun _ z => nomatch z)
    refine ⟨_, rfl, rfl, _, rfl, ite2 (fun _ => ?_) (fun e1 => ?_)⟩
    · exact ⟨_, rfl, p, 12, rfl, hp, by decide, by decide, fun x H' e => q _ _ _ e (.str x) (fun _ z => nomatch z)⟩
    refine ⟨_, rfl, rfl, _, rfl, ite2 (fun _ => ?_) (fun e2 => ?_)⟩
    · refine ⟨_, rfl, p, 9, rfl, hp, by decide, by decide, fun i i0 i1 => ⟨_, rfl, p, 3, rfl, hp, by decide, by decide, fun x H' e => ?_⟩⟩
      exact ⟨Nat.le_trans (by decide : 2 ≤ 64) (by rw [sizeLine_eq]; decide), fun t nt => q _ _ _ (e.trans (Same.new nt)) (.pr i x upd_same) (fun b z => by cases z; exact e.free nt)⟩
    refine ⟨_, rfl, rfl, _, rfl, ite2 (fun _ => ?_) (fun e3 => ?_)⟩
    · exact ⟨_, rfl, p, 3, rfl, hp, by decide, by decide, fun x H' e => ⟨Nat.le_trans (by decide : 2 ≤ 64) (by rw [sizeLine_eq]; decide), fun t nt => q _ _ _ (e.trans (Same.new nt)) (.ls x upd_same) (fun b z => by cases z; exact e.free nt)⟩⟩
    have f : ∀ j : Int, ¬ decide (V.int k = V.int j) = true → k ≠ j := fun j h z => h (by rw [z]; exact decide_eq_true rfl)
    have f0 := f 0 e0
    have f1 := f 1 e1
    have f2 := f 2 e2
    have f3 := f 3 e3
    obtain ⟨m, rfl⟩ := Int.eq_ofNat_of_zero_le k0
    refine ⟨Nat.le_trans (by decide : 3 ≤ 64) (by rw [sizeLine_eq]; decide), fun l nl => ⟨_, rfl, _, _, rfl, rfl, l, [.non, .bl true, .bl false], (m : Int) - 4, ?_⟩⟩
    have hm : m = 4 ∨ m = 5 ∨ m = 6 := by omega
    rcases hm with rfl | rfl | rfl
    · exact ⟨.non, rfl, rfl, SqL.of upd_same, rfl, q _ _ _ (Same.new nl) .non (fun _ z => nomatch z)⟩
    · exact ⟨.bl true, rfl, rfl, SqL.of upd_same, rfl, q _ _ _ (Same.new nl) (.bl true) (fun _ z => nomatch z)⟩
    · exact ⟨.bl false, rfl, rfl, SqL.of upd_same, rfl, q _ _ _ (Same.new nl) (.bl false) (fun _ z => nomatch z)⟩

end
end K96

set_option Elab.async false
set_option linter.all false
set_option maxRecDepth 100000
set_option maxHeartbeats 4000000
namespace L2
open PySem PySem.Spec PyProof.Rows
theorem ErT.no {P : Program} {K : PySem.W.Frag} {C fI : Addr} {fd : FuncData} {ps : List Str} (h : ErT P K C fI fd ps) : ∀ p ∈ ps, PySem.W.findIn K (.ref C) p = some none := by
  obtain ⟨B, newId, initId, bmB, _, _, _, _, TI, _⟩ := h.ex
  obtain ⟨qual, params, body, scope, dV, kV, doc, pm, an, cda, ct, cc, oc, od, osl, stores, msg, j, p0, p1, p2, p3, p4, p5, ap, an2, rest, rfl, lk, _, _, _, _, _, _, _, _, _, _, _, hp, _⟩ := TI.ex
  exact fun p m => (hp p m).2.1
theorem Room.dd {k : Nat} {A : Around} (r : Room k A) : A.depth + 1 < recursionLimit := by have := r.dp; omega
theorem Same.err {H : Hp} {a dx : Addr} {o1 o2 : HO} (na : H a = none) (nd : H dx = none) : Same H (upd (upd H dx o1) a o2) := fun b u e => by
  rw [upd_ne (ne_of_none e na), upd_ne (ne_of_none e nd)]; exact e
end L2
namespace K96
open PySem PySem.Spec PyProof.Rows L2 He Hm
def psOf (k : Nat) : List Str := ([["line"], ["line"], ["word"], ["name"], ["text"], ["index"], ["part"], ["part", "index"], ["name"], ["step"], ["read"], ["name"], ["total"], ["limit"], ["name", "index", "fault", "path", "cause"], ["file"], ["file"], ["name"], ["number", "reason"]] : List (List Str)).getD k []
def clsAt (K : PySem.W.Frag) (k : Nat) : Addr := ga K (clsN.getD k "")
/-- v is an error of the k-th class with the attributes' values vs -/
def ErrAt (K : PySem.W.Frag) (H : Hp) (v : V) (k : Nat) (vs : List V) : Prop := ∃ a dx, v = .ref a ∧ H a = some (exo a (clsAt K k) (some dx)) ∧ H dx = some (.xd ((psOf k).zip vs))
theorem ErrAt.same {K : PySem.W.Frag} {H H' : Hp} {v : V} {k : Nat} {vs : List V} (h : ErrAt K H v k vs) (e : Same H H') : ErrAt K H' v k vs := by
  obtain ⟨a, dx, r, h1, h2⟩ := h
  exact ⟨a, dx, r, e _ _ h1, e _ _ h2⟩
theorem ErrAt.new {K : PySem.W.Frag} {H : Hp} {a dx C : Addr} {fs : List (Str × V)} (k : Nat) (vs : List V) (ne : dx ≠ a) (hC : C = clsAt K k) (hf : fs = (psOf k).zip vs) : ErrAt K (upd (upd H dx (.xd fs)) a (exo a C (some dx))) (.ref a) k vs := by
  subst hC hf
  exact ⟨a, dx, rfl, upd_same, by rw [upd_ne ne]; exact upd_same⟩
def argsOf (k : Nat) (x y z t : V) : List V := if k = 7 ∨ k = 18 then [x, y] else if k = 14 then [x, y, z, t, .non] else [x]
def nargs (k : Nat) (x y : V) : List V := if k = 7 ∨ k = 18 then [x, y] else if k = 14 then [y, x, y, x, y] else [x]
def spMade (lo hi : Nat) (K : PySem.W.Frag) : Sp := fun vs H Q _ => ∃ (k : Nat) (x y z t : V), vs = [.int k, x, y, z, t] ∧ lo ≤ k ∧ k < hi ∧
  ∀ a r d H', Same H H' → ErrAt K H' a k (argsOf k x y z t) → H' r = some (.tup [a, .ref d]) → H' d = some (.tup (argsOf k x y z t)) → Q (.ref r) H'
def spNamed (K : PySem.W.Frag) : Sp := fun vs H Q _ => ∃ (k : Nat) (x y : V), vs = [.int k, x, y] ∧ k < 19 ∧ ∀ a H', Same H H' → ErrAt K H' a k (nargs k x y) → Q a H'
def spFields (K : PySem.W.Frag) : Sp := fun vs H Q _ => ∃ (k : Nat) (e : V) (ws : List V), vs = [.int k, e] ∧ k < 19 ∧ ErrAt K H e k ws ∧ ws.length = (psOf k).length ∧ ∀ r H', Same H H' → H' r = some (.tup ws) → Q (.ref r) H'
theorem int_ne {k : Nat} {j : Int} (h : ¬ decide (V.int k = V.int j) = true) : (k : Int) ≠ j := fun z => h (decide_eq_true (by rw [z]))
theorem int_eq {k : Nat} {j : Int} (h : decide (V.int k = V.int j) = true) : (k : Int) = j := V.int.inj (of_decide_eq_true h)
theorem sz64 {n : Nat} (h : n ≤ 64) : n ≤ sizeLine := Nat.le_trans h (by rw [sizeLine_eq]; decide)
section
variable {P : Program} {w : World} {K : PySem.W.Frag} {mg : Str → Option Value} {base : Heap}
theorem sc_law_made : FnScope [("_law_k" : Str), ("_law_x" : Str), ("_law_y" : Str), ("_law_z" : Str), ("_law_t" : Str)] [("_law_k" : Str), ("_law_x" : Str), ("_law_y" : Str), ("_law_z" : Str), ("_law_t" : Str)] (defScope (top 25)) := ⟨rfl, rfl, rfl, by decide +kernel, rfl, by decide +kernel, by decide +kernel⟩
theorem ok_made (A : At K mg) : FnOk PySem.Challenge.pw_markedblocks_k96_errors_made w K mg base CX0 1 (ga K "_law_made") (fdOf K (ga K "_law_made")) [("_law_k" : Str), ("_law_x" : Str), ("_law_y" : Str), ("_law_z" : Str), ("_law_t" : Str)] (spMade 0 9 K) := by
  refine (F_law_made A).ok sc_law_made (fun vs H Q E h => ?_) (fun cdv A' outer s H vs Q E hr h => ?_)
  · obtain ⟨k, x, y, z, t, rfl, _⟩ := h
    rfl
  · obtain ⟨k, x, y, z, t0, rfl, hlo, hhi, q⟩ := h
    refine ⟨_, PSs.nox (pss_cons (ps_if (pt_cmpR op_eq (pv 0) pe_int (nomark _)) (pss_one (ps_ret (pe_tup (pa_cons (pe_er (ET_BadLine A) hr.dd (B_BadLine A) rfl (g_BadLine A) (pa_cons (pv 1) pa_nil)) (pa_cons (pe_tup (pa_cons (pv 1) pa_nil)) pa_nil))))) pss_nil)
 (pss_cons (ps_if (pt_cmpR op_eq (pv 0) pe_int (nomark _)) (pss_one (ps_ret (pe_tup (pa_cons (pe_er (ET_BadMarks A) hr.dd (B_BadMarks A) rfl (g_BadMarks A) (pa_cons (pv 1) pa_nil)) (pa_cons (pe_tup (pa_cons (pv 1) pa_nil)) pa_nil))))) pss_nil)
 (pss_cons (ps_if (pt_cmpR op_eq (pv 0) pe_int (nomark _)) (pss_one (ps_ret (pe_tup (pa_cons (pe_er (ET_BadPlace A) hr.dd (B_BadPlace A) rfl (g_BadPlace A) (pa_cons (pv 1) pa_nil)) (pa_cons (pe_tup (pa_cons (pv 1) pa_nil)) pa_nil))))) pss_nil)
 (pss_cons (ps_if (pt_cmpR op_eq (pv 0) pe_int (nomark _)) (pss_one (ps_ret (pe_tup (pa_cons (pe_er (ET_BadName A) hr.dd (B_BadName A) rfl (g_BadName A) (pa_cons (pv 1) pa_nil)) (pa_cons (pe_tup (pa_cons (pv 1) pa_nil)) pa_nil))))) pss_nil)
 (pss_cons (ps_if (pt_cmpR op_eq (pv 0) pe_int (nomark _)) (pss_one (ps_ret (pe_tup (pa_cons (pe_er (ET_BadText A) hr.dd (B_BadText A) rfl (g_BadText A) (pa_cons (pv 1) pa_nil)) (pa_cons (pe_tup (pa_cons (pv 1) pa_nil)) pa_nil))))) pss_nil)
 (pss_cons (ps_if (pt_cmpR op_eq (pv 0) pe_int (nomark _)) (pss_one (ps_ret (pe_tup (pa_cons (pe_er (ET_BadFile A) hr.dd (B_BadFile A) rfl (g_BadFile A) (pa_cons (pv 1) pa_nil)) (pa_cons (pe_tup (pa_cons (pv 1) pa_nil)) pa_nil))))) pss_nil)
 (pss_cons (ps_if (pt_cmpR op_eq (pv 0) pe_int (nomark _)) (pss_one (ps_ret (pe_tup (pa_cons (pe_er (ET_BadTool A) hr.dd (B_BadTool A) rfl (g_BadTool A) (pa_cons (pv 1) pa_nil)) (pa_cons (pe_tup (pa_cons (pv 1) pa_nil)) pa_nil))))) pss_nil)
 (pss_cons (ps_if (pt_cmpR op_eq (pv 0) pe_int (nomark _)) (pss_one (ps_ret (pe_tup (pa_cons (pe_er (ET_BadMachine A) hr.dd (B_BadMachine A) rfl (g_BadMachine A) (pa_cons (pv 1) (pa_cons (pv 2) pa_nil))) (pa_cons (pe_tup (pa_cons (pv 1) (pa_cons (pv 2) pa_nil))) pa_nil))))) pss_nil)
 (pss_one (ps_ret (pe_tup (pa_cons (pe_er (ET_NoName A) hr.dd (B_NoName A) rfl (g_NoName A) (pa_cons (pv 1) pa_nil)) (pa_cons (pe_tup (pa_cons (pv 1) pa_nil)) pa_nil))))))))))))), ?_⟩
    refine ⟨_, rfl, rfl, _, rfl, ite2 (fun e => ?_) (fun e0 => ?_)⟩
    · obtain rfl : k = 0 := by have := int_eq e; omega
      exact ⟨_, rfl, rfl, rfl, by decide, fun a dx na nd ne => ⟨_, rfl, (sz64 (n := 1) (by decide)), fun t nt => ⟨(sz64 (n := 2) (by decide)), fun r nr => q (.ref a) r t _ ((Same.err na nd).trans ((Same.new nt).trans (Same.new nr))) ((ErrAt.new 0 (argsOf 0 x y z t0) ne rfl rfl).same ((Same.new nt).trans (Same.new nr))) upd_same (Same.new nr _ _ upd_same)⟩⟩⟩
    refine ⟨_, rfl, rfl, _, rfl, ite2 (fun e => ?_) (fun e1 => ?_)⟩
    · obtain rfl : k = 1 := by have := int_eq e; omega
      exact ⟨_, rfl, rfl, rfl, by decide, fun a dx na nd ne => ⟨_, rfl, (sz64 (n := 1) (by decide)), fun t nt => ⟨(sz64 (n := 2) (by decide)), fun r nr => q (.ref a) r t _ ((Same.err na nd).trans ((Same.new nt).trans (Same.new nr))) ((ErrAt.new 1 (argsOf 1 x y z t0) ne rfl rfl).same ((Same.new nt).trans (Same.new nr))) upd_same (Same.new nr _ _ upd_same)⟩⟩⟩
    refine ⟨_, rfl, rfl, _, rfl, ite2 (fun e => ?_) (fun e2 => ?_)⟩
    · obtain rfl : k = 2 := by have := int_eq e; omega
      exact ⟨_, rfl, rfl, rfl, by decide, fun a dx na nd ne => ⟨_, rfl, (sz64 (n := 1) (by decide)), fun t nt => ⟨(sz64 (n := 2) (by decide)), fun r nr => q (.ref a) r t _ ((Same.err na nd).trans ((Same.new nt).trans (Same.new nr))) ((ErrAt.new 2 (argsOf 2 x y z t0) ne rfl rfl).same ((Same.new nt).trans (Same.new nr))) upd_same (Same.new nr _ _ upd_same)⟩⟩⟩
    refine ⟨_, rfl, rfl, _, rfl, ite2 (fun e => ?_) (fun e3 => ?_)⟩
    · obtain rfl : k = 3 := by have := int_eq e; omega
      exact ⟨_, rfl, rfl, rfl, by decide, fun a dx na nd ne => ⟨_, rfl, (sz64 (n := 1) (by decide)), fun t nt => ⟨(sz64 (n := 2) (by decide)), fun r nr => q (.ref a) r t _ ((Same.err na nd).trans ((Same.new nt).trans (Same.new nr))) ((ErrAt.new 3 (argsOf 3 x y z t0) ne rfl rfl).same ((Same.new nt).trans (Same.new nr))) upd_same (Same.new nr _ _ upd_same)⟩⟩⟩
    refine ⟨_, rfl, rfl, _, rfl, ite2 (fun e => ?_) (fun e4 => ?_)⟩
    · obtain rfl : k = 4 := by have := int_eq e; omega
      exact ⟨_, rfl, rfl, rfl, by decide, fun a dx na nd ne => ⟨_, rfl, (sz64 (n := 1) (by decide)), fun t nt => ⟨(sz64 (n := 2) (by decide)), fun r nr => q (.ref a) r t _ ((Same.err na nd).trans ((Same.new nt).trans (Same.new nr))) ((ErrAt.new 4 (argsOf 4 x y z t0) ne rfl rfl).same ((Same.new nt).trans (Same.new nr))) upd_same (Same.new nr _ _ upd_same)⟩⟩⟩
    refine ⟨_, rfl, rfl, _, rfl, ite2 (fun e => ?_) (fun e5 => ?_)⟩
    · obtain rfl : k = 5 := by have := int_eq e; omega
      exact ⟨_, rfl, rfl, rfl, by decide, fun a dx na nd ne => ⟨_, rfl, (sz64 (n := 1) (by decide)), fun t nt => ⟨(sz64 (n := 2) (by decide)), fun r nr => q (.ref a) r t _ ((Same.err na nd).trans ((Same.new nt).trans (Same.new nr))) ((ErrAt.new 5 (argsOf 5 x y z t0) ne rfl rfl).same ((Same.new nt).trans (Same.new nr))) upd_same (Same.new nr _ _ upd_same)⟩⟩⟩
    refine ⟨_, rfl, rfl, _, rfl, ite2 (fun e => ?_) (fun e6 => ?_)⟩
    · obtain rfl : k = 6 := by have := int_eq e; omega
      exact ⟨_, rfl, rfl, rfl, by decide, fun a dx na nd ne => ⟨_, rfl, (sz64 (n := 1) (by decide)), fun t nt => ⟨(sz64 (n := 2) (by decide)), fun r nr => q (.ref a) r t _ ((Same.err na nd).trans ((Same.new nt).trans (Same.new nr))) ((ErrAt.new 6 (argsOf 6 x y z t0) ne rfl rfl).same ((Same.new nt).trans (Same.new nr))) upd_same (Same.new nr _ _ upd_same)⟩⟩⟩
    refine ⟨_, rfl, rfl, _, rfl, ite2 (fun e => ?_) (fun e7 => ?_)⟩
    · obtain rfl : k = 7 := by have := int_eq e; omega
      exact ⟨_, rfl, _, rfl, rfl, rfl, by decide, fun a dx na nd ne => ⟨_, rfl, _, rfl, (sz64 (n := 2) (by decide)), fun t nt => ⟨(sz64 (n := 2) (by decide)), fun r nr => q (.ref a) r t _ ((Same.err na nd).trans ((Same.new nt).trans (Same.new nr))) ((ErrAt.new 7 (argsOf 7 x y z t0) ne rfl rfl).same ((Same.new nt).trans (Same.new nr))) upd_same (Same.new nr _ _ upd_same)⟩⟩⟩
    obtain rfl : k = 8 := by have := int_ne e0; have := int_ne e1; have := int_ne e2; have := int_ne e3; have := int_ne e4; have := int_ne e5; have := int_ne e6; have := int_ne e7; omega
    exact ⟨_, rfl, rfl, rfl, by decide, fun a dx na nd ne => ⟨_, rfl, (sz64 (n := 1) (by decide)), fun t nt => ⟨(sz64 (n := 2) (by decide)), fun r nr => q (.ref a) r t _ ((Same.err na nd).trans ((Same.new nt).trans (Same.new nr))) ((ErrAt.new 8 (argsOf 8 x y z t0) ne rfl rfl).same ((Same.new nt).trans (Same.new nr))) upd_same (Same.new nr _ _ upd_same)⟩⟩⟩
theorem sc_law_more_made : FnScope [("_law_k" : Str), ("_law_x" : Str), ("_law_y" : Str), ("_law_z" : Str), ("_law_t" : Str)] [("_law_k" : Str), ("_law_x" : Str), ("_law_y" : Str), ("_law_z" : Str), ("_law_t" : Str)] (defScope (top 26)) := ⟨rfl, rfl, rfl, by decide +kernel, rfl, by decide +kernel, by decide +kernel⟩
theorem ok_more_made (A : At K mg) : FnOk PySem.Challenge.pw_markedblocks_k96_errors_made w K mg base CX0 1 (ga K "_law_more_made") (fdOf K (ga K "_law_more_made")) [("_law_k" : Str), ("_law_x" : Str), ("_law_y" : Str), ("_law_z" : Str), ("_law_t" : Str)] (spMade 9 19 K) := by
  refine (F_law_more_made A).ok sc_law_more_made (fun vs H Q E h => ?_) (fun cdv A' outer s H vs Q E hr h => ?_)
  · obtain ⟨k, x, y, z, t, rfl, _⟩ := h
    rfl
  · obtain ⟨k, x, y, z, t0, rfl, hlo, hhi, q⟩ := h
    refine ⟨_, PSs.nox (pss_cons (ps_if (pt_cmpR op_eq (pv 0) pe_int (nomark _)) (pss_one (ps_ret (pe_tup (pa_cons (pe_er (ET_NoStep A) hr.dd (B_NoStep A) rfl (g_NoStep A) (pa_cons (pv 1) pa_nil)) (pa_cons (pe_tup (pa_cons (pv 1) pa_nil)) pa_nil))))) pss_nil)
 (pss_cons (ps_if (pt_cmpR op_eq (pv 0) pe_int (nomark _)) (pss_one (ps_ret (pe_tup (pa_cons (pe_er (ET_NoRun A) hr.dd (B_NoRun A) rfl (g_NoRun A) (pa_cons (pv 1) pa_nil)) (pa_cons (pe_tup (pa_cons (pv 1) pa_nil)) pa_nil))))) pss_nil)
 (pss_cons (ps_if (pt_cmpR op_eq (pv 0) pe_int (nomark _)) (pss_one (ps_ret (pe_tup (pa_cons (pe_er (ET_NoStrict A) hr.dd (B_NoStrict A) rfl (g_NoStrict A) (pa_cons (pv 1) pa_nil)) (pa_cons (pe_tup (pa_cons (pv 1) pa_nil)) pa_nil))))) pss_nil)
 (pss_cons (ps_if (pt_cmpR op_eq (pv 0) pe_int (nomark _)) (pss_one (ps_ret (pe_tup (pa_cons (pe_er (ET_TooHeavy A) hr.dd (B_TooHeavy A) rfl (g_TooHeavy A) (pa_cons (pv 1) pa_nil)) (pa_cons (pe_tup (pa_cons (pv 1) pa_nil)) pa_nil))))) pss_nil)
 (pss_cons (ps_if (pt_cmpR op_eq (pv 0) pe_int (nomark _)) (pss_one (ps_ret (pe_tup (pa_cons (pe_er (ET_TooMany A) hr.dd (B_TooMany A) rfl (g_TooMany A) (pa_cons (pv 1) pa_nil)) (pa_cons (pe_tup (pa_cons (pv 1) pa_nil)) pa_nil))))) pss_nil)
 (pss_cons (ps_if (pt_cmpR op_eq (pv 0) pe_int (nomark _)) (pss_one (ps_ret (pe_tup (pa_cons (pe_er (ET_Refused A) hr.dd (B4_Refused A) rfl (g_Refused A) (pa_cons (pv 1) (pa_cons (pv 2) (pa_cons (pv 3) (pa_cons (pv 4) pa_nil))))) (pa_cons (pe_tup (pa_cons (pv 1) (pa_cons (pv 2) (pa_cons (pv 3) (pa_cons (pv 4) (pa_cons pe_non pa_nil)))))) pa_nil))))) pss_nil)
 (pss_cons (ps_if (pt_cmpR op_eq (pv 0) pe_int (nomark _)) (pss_one (ps_ret (pe_tup (pa_cons (pe_er (ET_Ambiguous A) hr.dd (B_Ambiguous A) rfl (g_Ambiguous A) (pa_cons (pv 1) pa_nil)) (pa_cons (pe_tup (pa_cons (pv 1) pa_nil)) pa_nil))))) pss_nil)
 (pss_cons (ps_if (pt_cmpR op_eq (pv 0) pe_int (nomark _)) (pss_one (ps_ret (pe_tup (pa_cons (pe_er (ET_Unlike A) hr.dd (B_Unlike A) rfl (g_Unlike A) (pa_cons (pv 1) pa_nil)) (pa_cons (pe_tup (pa_cons (pv 1) pa_nil)) pa_nil))))) pss_nil)
 (pss_cons (ps_if (pt_cmpR op_eq (pv 0) pe_int (nomark _)) (pss_one (ps_ret (pe_tup (pa_cons (pe_er (ET_Twice A) hr.dd (B_Twice A) rfl (g_Twice A) (pa_cons (pv 1) pa_nil)) (pa_cons (pe_tup (pa_cons (pv 1) pa_nil)) pa_nil))))) pss_nil)
 (pss_one (ps_ret (pe_tup (pa_cons (pe_er (ET_Stopped A) hr.dd (B_Stopped A) rfl (g_Stopped A) (pa_cons (pv 1) (pa_cons (pv 2) pa_nil))) (pa_cons (pe_tup (pa_cons (pv 1) (pa_cons (pv 2) pa_nil))) pa_nil)))))))))))))), ?_⟩
    refine ⟨_, rfl, rfl, _, rfl, ite2 (fun e => ?_) (fun e9 => ?_)⟩
    · obtain rfl : k = 9 := by have := int_eq e; omega
      exact ⟨_, rfl, rfl, rfl, by decide, fun a dx na nd ne => ⟨_, rfl, (sz64 (n := 1) (by decide)), fun t nt => ⟨(sz64 (n := 2) (by decide)), fun r nr => q (.ref a) r t _ ((Same.err na nd).trans ((Same.new nt).trans (Same.new nr))) ((ErrAt.new 9 (argsOf 9 x y z t0) ne rfl rfl).same ((Same.new nt).trans (Same.new nr))) upd_same (Same.new nr _ _ upd_same)⟩⟩⟩
    refine ⟨_, rfl, rfl, _, rfl, ite2 (fun e => ?_) (fun e10 => ?_)⟩
    · obtain rfl : k = 10 := by have := int_eq e; omega
      exact ⟨_, rfl, rfl, rfl, by decide, fun a dx na nd ne => ⟨_, rfl, (sz64 (n := 1) (by decide)), fun t nt => ⟨(sz64 (n := 2) (by decide)), fun r nr => q (.ref a) r t _ ((Same.err na nd).trans ((Same.new nt).trans (Same.new nr))) ((ErrAt.new 10 (argsOf 10 x y z t0) ne rfl rfl).same ((Same.new nt).trans (Same.new nr))) upd_same (Same.new nr _ _ upd_same)⟩⟩⟩
    refine ⟨_, rfl, rfl, _, rfl, ite2 (fun e => ?_) (fun e11 => ?_)⟩
    · obtain rfl : k = 11 := by have := int_eq e; omega
      exact ⟨_, rfl, rfl, rfl, by decide, fun a dx na nd ne => ⟨_, rfl, (sz64 (n := 1) (by decide)), fun t nt => ⟨(sz64 (n := 2) (by decide)), fun r nr => q (.ref a) r t _ ((Same.err na nd).trans ((Same.new nt).trans (Same.new nr))) ((ErrAt.new 11 (argsOf 11 x y z t0) ne rfl rfl).same ((Same.new nt).trans (Same.new nr))) upd_same (Same.new nr _ _ upd_same)⟩⟩⟩
    refine ⟨_, rfl, rfl, _, rfl, ite2 (fun e => ?_) (fun e12 => ?_)⟩
    · obtain rfl : k = 12 := by have := int_eq e; omega
      exact ⟨_, rfl, rfl, rfl, by decide, fun a dx na nd ne => ⟨_, rfl, (sz64 (n := 1) (by decide)), fun t nt => ⟨(sz64 (n := 2) (by decide)), fun r nr => q (.ref a) r t _ ((Same.err na nd).trans ((Same.new nt).trans (Same.new nr))) ((ErrAt.new 12 (argsOf 12 x y z t0) ne rfl rfl).same ((Same.new nt).trans (Same.new nr))) upd_same (Same.new nr _ _ upd_same)⟩⟩⟩
    refine ⟨_, rfl, rfl, _, rfl, ite2 (fun e => ?_) (fun e13 => ?_)⟩
    · obtain rfl : k = 13 := by have := int_eq e; omega
      exact ⟨_, rfl, rfl, rfl, by decide, fun a dx na nd ne => ⟨_, rfl, (sz64 (n := 1) (by decide)), fun t nt => ⟨(sz64 (n := 2) (by decide)), fun r nr => q (.ref a) r t _ ((Same.err na nd).trans ((Same.new nt).trans (Same.new nr))) ((ErrAt.new 13 (argsOf 13 x y z t0) ne rfl rfl).same ((Same.new nt).trans (Same.new nr))) upd_same (Same.new nr _ _ upd_same)⟩⟩⟩
    refine ⟨_, rfl, rfl, _, rfl, ite2 (fun e => ?_) (fun e14 => ?_)⟩
    · obtain rfl : k = 14 := by have := int_eq e; omega
      exact ⟨_, rfl, _, rfl, _, rfl, _, rfl, rfl, rfl, by decide, fun a dx na nd ne => ⟨_, rfl, _, rfl, _, rfl, _, rfl, (sz64 (n := 5) (by decide)), fun t nt => ⟨(sz64 (n := 2) (by decide)), fun r nr => q (.ref a) r t _ ((Same.err na nd).trans ((Same.new nt).trans (Same.new nr))) ((ErrAt.new 14 (argsOf 14 x y z t0) ne rfl rfl).same ((Same.new nt).trans (Same.new nr))) upd_same (Same.new nr _ _ upd_same)⟩⟩⟩
    refine ⟨_, rfl, rfl, _, rfl, ite2 (fun e => ?_) (fun e15 => ?_)⟩
    · obtain rfl : k = 15 := by have := int_eq e; omega
      exact ⟨_, rfl, rfl, rfl, by decide, fun a dx na nd ne => ⟨_, rfl, (sz64 (n := 1) (by decide)), fun t nt => ⟨(sz64 (n := 2) (by decide)), fun r nr => q (.ref a) r t _ ((Same.err na nd).trans ((Same.new nt).trans (Same.new nr))) ((ErrAt.new 15 (argsOf 15 x y z t0) ne rfl rfl).same ((Same.new nt).trans (Same.new nr))) upd_same (Same.new nr _ _ upd_same)⟩⟩⟩
    refine ⟨_, rfl, rfl, _, rfl, ite2 (fun e => ?_) (fun e16 => ?_)⟩
    · obtain rfl : k = 16 := by have := int_eq e; omega
      exact ⟨_, rfl, rfl, rfl, by decide, fun a dx na nd ne => ⟨_, rfl, (sz64 (n := 1) (by decide)), fun t nt => ⟨(sz64 (n := 2) (by decide)), fun r nr => q (.ref a) r t _ ((Same.err na nd).trans ((Same.new nt).trans (Same.new nr))) ((ErrAt.new 16 (argsOf 16 x y z t0) ne rfl rfl).same ((Same.new nt).trans (Same.new nr))) upd_same (Same.new nr _ _ upd_same)⟩⟩⟩
    refine ⟨_, rfl, rfl, _, rfl, ite2 (fun e => ?_) (fun e17 => ?_)⟩
    · obtain rfl : k = 17 := by have := int_eq e; omega
      exact ⟨_, rfl, rfl, rfl, by decide, fun a dx na nd ne => ⟨_, rfl, (sz64 (n := 1) (by decide)), fun t nt => ⟨(sz64 (n := 2) (by decide)), fun r nr => q (.ref a) r t _ ((Same.err na nd).trans ((Same.new nt).trans (Same.new nr))) ((ErrAt.new 17 (argsOf 17 x y z t0) ne rfl rfl).same ((Same.new nt).trans (Same.new nr))) upd_same (Same.new nr _ _ upd_same)⟩⟩⟩
    obtain rfl : k = 18 := by have := int_ne e9; have := int_ne e10; have := int_ne e11; have := int_ne e12; have := int_ne e13; have := int_ne e14; have := int_ne e15; have := int_ne e16; have := int_ne e17; omega
    exact ⟨_, rfl, _, rfl, rfl, rfl, by decide, fun a dx na nd ne => ⟨_, rfl, _, rfl, (sz64 (n := 2) (by decide)), fun t nt => ⟨(sz64 (n := 2) (by decide)), fun r nr => q (.ref a) r t _ ((Same.err na nd).trans ((Same.new nt).trans (Same.new nr))) ((ErrAt.new 18 (argsOf 18 x y z t0) ne rfl rfl).same ((Same.new nt).trans (Same.new nr))) upd_same (Same.new nr _ _ upd_same)⟩⟩⟩
theorem sc_law_named : FnScope [("_law_k" : Str), ("_law_x" : Str), ("_law_y" : Str)] [("_law_k" : Str), ("_law_x" : Str), ("_law_y" : Str)] (defScope (top 27)) := ⟨rfl, rfl, rfl, by decide +kernel, rfl, by decide +kernel, by decide +kernel⟩
theorem ok_named (A : At K mg) : FnOk PySem.Challenge.pw_markedblocks_k96_errors_made w K mg base CX0 1 (ga K "_law_named") (fdOf K (ga K "_law_named")) [("_law_k" : Str), ("_law_x" : Str), ("_law_y" : Str)] (spNamed K) := by
  refine (F_law_named A).ok sc_law_named (fun vs H Q E h => ?_) (fun cdv A' outer s H vs Q E hr h => ?_)
  · obtain ⟨k, x, y, rfl, _⟩ := h
    rfl
  · obtain ⟨k, x, y, rfl, hk, q⟩ := h
    refine ⟨_, PSs.nox (pss_cons (ps_if (pt_cmpR op_lt (pv 0) pe_int (nomark _)) (pss_one (ps_ret (pe_ix ix_list (pe_lst (pa_cons (pe_erK0 (ET_BadLine A) hr.dd (BK_BadLine A) rfl (g_BadLine A) (pk_cons (pv 1) pk_nil)) (pa_cons (pe_erK0 (ET_BadMarks A) hr.dd (BK_BadMarks A) rfl (g_BadMarks A) (pk_cons (pv 1) pk_nil)) (pa_cons (pe_erK0 (ET_BadPlace A) hr.dd (BK_BadPlace A) rfl (g_BadPlace A) (pk_cons (pv 1) pk_nil)) (pa_cons (pe_erK0 (ET_BadName A) hr.dd (BK_BadName A) rfl (g_BadName A) (pk_cons (pv 1) pk_nil)) (pa_cons (pe_erK0 (ET_BadText A) hr.dd (BK_BadText A) rfl (g_BadText A) (pk_cons (pv 1) pk_nil)) pa_nil)))))) (pv 0) (fun _ _ => rfl)))) pss_nil)
 (pss_cons (ps_if (pt_cmpR op_lt (pv 0) pe_int (nomark _)) (pss_one (ps_ret (pe_ix ix_list (pe_lst (pa_cons (pe_erK0 (ET_BadFile A) hr.dd (BK_BadFile A) rfl (g_BadFile A) (pk_cons (pv 1) pk_nil)) (pa_cons (pe_erK0 (ET_BadTool A) hr.dd (BK_BadTool A) rfl (g_BadTool A) (pk_cons (pv 1) pk_nil)) (pa_cons (pe_erK0 (ET_BadMachine A) hr.dd (BK_BadMachine A) rfl (g_BadMachine A) (pk_cons (pv 2) (pk_cons (pv 1) pk_nil))) (pa_cons (pe_erK0 (ET_NoName A) hr.dd (BK_NoName A) rfl (g_NoName A) (pk_cons (pv 1) pk_nil)) pa_nil))))) (pe_op op_sub (pv 0) pe_int) (fun _ _ => rfl)))) pss_nil)
 (pss_cons (ps_if (pt_cmpR op_lt (pv 0) pe_int (nomark _)) (pss_one (ps_ret (pe_ix ix_list (pe_lst (pa_cons (pe_erK0 (ET_NoStep A) hr.dd (BK_NoStep A) rfl (g_NoStep A) (pk_cons (pv 1) pk_nil)) (pa_cons (pe_erK0 (ET_NoRun A) hr.dd (BK_NoRun A) rfl (g_NoRun A) (pk_cons (pv 1) pk_nil)) (pa_cons (pe_erK0 (ET_NoStrict A) hr.dd (BK_NoStrict A) rfl (g_NoStrict A) (pk_cons (pv 1) pk_nil)) (pa_cons (pe_erK0 (ET_TooHeavy A) hr.dd (BK_TooHeavy A) rfl (g_TooHeavy A) (pk_cons (pv 1) pk_nil)) (pa_cons (pe_erK0 (ET_TooMany A) hr.dd (BK_TooMany A) rfl (g_TooMany A) (pk_cons (pv 1) pk_nil)) pa_nil)))))) (pe_op op_sub (pv 0) pe_int) (fun _ _ => rfl)))) pss_nil)
 (pss_cons (ps_if (pt_cmpR op_eq (pv 0) pe_int (nomark _)) (pss_one (ps_ret (pe_erK0 (ET_Refused A) hr.dd (BK_Refused A) rfl (g_Refused A) (pk_cons (pv 2) (pk_cons (pv 1) (pk_cons (pv 2) (pk_cons (pv 1) (pk_cons (pv 2) pk_nil)))))))) pss_nil)
 (pss_one (ps_ret (pe_ix ix_list (pe_lst (pa_cons (pe_erK0 (ET_Ambiguous A) hr.dd (BK_Ambiguous A) rfl (g_Ambiguous A) (pk_cons (pv 1) pk_nil)) (pa_cons (pe_erK0 (ET_Unlike A) hr.dd (BK_Unlike A) rfl (g_Unlike A) (pk_cons (pv 1) pk_nil)) (pa_cons (pe_erK0 (ET_Twice A) hr.dd (BK_Twice A) rfl (g_Twice A) (pk_cons (pv 1) pk_nil)) (pa_cons (pe_erK0 (ET_Stopped A) hr.dd (BK_Stopped A) rfl (g_Stopped A) (pk_cons (pv 2) (pk_cons (pv 1) pk_nil))) pa_nil))))) (pe_op op_sub (pv 0) pe_int) (fun _ _ => rfl)))))))), ?_⟩
    refine ⟨_, rfl, _, _, rfl, rfl, _, rfl, ite2 (fun e => ?_) (fun e0 => ?_)⟩
    · have e := of_decide_eq_true e
      refine ⟨_, rfl, rfl, rfl, by decide, fun a0 d0 na0 nd0 ne0 => ⟨_, rfl, rfl, rfl, by decide, fun a1 d1 na1 nd1 ne1 => ⟨_, rfl, rfl, rfl, by decide, fun a2 d2 na2 nd2 ne2 => ⟨_, rfl, rfl, rfl, by decide, fun a3 d3 na3 nd3 ne3 => ⟨_, rfl, rfl, rfl, by decide, fun a4 d4 na4 nd4 ne4 => ⟨(sz64 (n := 5) (by decide)), fun l nl => ?_⟩⟩⟩⟩⟩⟩
      have hk : k = 0 ∨ k = 1 ∨ k = 2 ∨ k = 3 ∨ k = 4 := by omega
      rcases hk with rfl | rfl | rfl | rfl | rfl
      · exact ⟨_, rfl, l, _, 0, _, rfl, rfl, SqL.of upd_same, rfl, q _ _ ((Same.err na0 nd0).trans ((Same.err na1 nd1).trans ((Same.err na2 nd2).trans ((Same.err na3 nd3).trans ((Same.err na4 nd4).trans (Same.new nl)))))) ((ErrAt.new 0 (nargs 0 x y) ne0 rfl rfl).same ((Same.err na1 nd1).trans ((Same.err na2 nd2).trans ((Same.err na3 nd3).trans ((Same.err na4 nd4).trans (Same.new nl))))))⟩
      · exact ⟨_, rfl, l, _, 1, _, rfl, rfl, SqL.of upd_same, rfl, q _ _ ((Same.err na0 nd0).trans ((Same.err na1 nd1).trans ((Same.err na2 nd2).trans ((Same.err na3 nd3).trans ((Same.err na4 nd4).trans (Same.new nl)))))) ((ErrAt.new 1 (nargs 1 x y) ne1 rfl rfl).same ((Same.err na2 nd2).trans ((Same.err na3 nd3).trans ((Same.err na4 nd4).trans (Same.new nl)))))⟩
      · exact ⟨_, rfl, l, _, 2, _, rfl, rfl, SqL.of upd_same, rfl, q _ _ ((Same.err na0 nd0).trans ((Same.err na1 nd1).trans ((Same.err na2 nd2).trans ((Same.err na3 nd3).trans ((Same.err na4 nd4).trans (Same.new nl)))))) ((ErrAt.new 2 (nargs 2 x y) ne2 rfl rfl).same ((Same.err na3 nd3).trans ((Same.err na4 nd4).trans (Same.new nl))))⟩
      · exact ⟨_, rfl, l, _, 3, _, rfl, rfl, SqL.of upd_same, rfl, q _ _ ((Same.err na0 nd0).trans ((Same.err na1 nd1).trans ((Same.err na2 nd2).trans ((Same.err na3 nd3).trans ((Same.err na4 nd4).trans (Same.new nl)))))) ((ErrAt.new 3 (nargs 3 x y) ne3 rfl rfl).same ((Same.err na4 nd4).trans (Same.new nl)))⟩
      · exact ⟨_, rfl, l, _, 4, _, rfl, rfl, SqL.of upd_same, rfl, q _ _ ((Same.err na0 nd0).trans ((Same.err na1 nd1).trans ((Same.err na2 nd2).trans ((Same.err na3 nd3).trans ((Same.err na4 nd4).trans (Same.new nl)))))) ((ErrAt.new 4 (nargs 4 x y) ne4 rfl rfl).same (Same.new nl))⟩
    have e0 : ¬ (k : Int) < 5 := fun z => e0 (decide_eq_true z)
    refine ⟨_, rfl, _, _, rfl, rfl, _, rfl, ite2 (fun e => ?_) (fun e1 => ?_)⟩
    · have e := of_decide_eq_true e
      refine ⟨_, rfl, rfl, rfl, by decide, fun a5 d5 na5 nd5 ne5 => ⟨_, rfl, rfl, rfl, by decide, fun a6 d6 na6 nd6 ne6 => ⟨_, rfl, _, rfl, rfl, rfl, by decide, fun a7 d7 na7 nd7 ne7 => ⟨_, rfl, rfl, rfl, by decide, fun a8 d8 na8 nd8 ne8 => ⟨(sz64 (n := 4) (by decide)), fun l nl => ?_⟩⟩⟩⟩⟩
      have hk : k = 5 ∨ k = 6 ∨ k = 7 ∨ k = 8 := by omega
      rcases hk with rfl | rfl | rfl | rfl
      · exact ⟨_, rfl, _, _, rfl, rfl, l, _, 0, _, rfl, rfl, SqL.of upd_same, rfl, q _ _ ((Same.err na5 nd5).trans ((Same.err na6 nd6).trans ((Same.err na7 nd7).trans ((Same.err na8 nd8).trans (Same.new nl))))) ((ErrAt.new 5 (nargs 5 x y) ne5 rfl rfl).same ((Same.err na6 nd6).trans ((Same.err na7 nd7).trans ((Same.err na8 nd8).trans (Same.new nl)))))⟩
      · exact ⟨_, rfl, _, _, rfl, rfl, l, _, 1, _, rfl, rfl, SqL.of upd_same, rfl, q _ _ ((Same.err na5 nd5).trans ((Same.err na6 nd6).trans ((Same.err na7 nd7).trans ((Same.err na8 nd8).trans (Same.new nl))))) ((ErrAt.new 6 (nargs 6 x y) ne6 rfl rfl).same ((Same.err na7 nd7).trans ((Same.err na8 nd8).trans (Same.new nl))))⟩
      · exact ⟨_, rfl, _, _, rfl, rfl, l, _, 2, _, rfl, rfl, SqL.of upd_same, rfl, q _ _ ((Same.err na5 nd5).trans ((Same.err na6 nd6).trans ((Same.err na7 nd7).trans ((Same.err na8 nd8).trans (Same.new nl))))) ((ErrAt.new 7 (nargs 7 x y) ne7 rfl rfl).same ((Same.err na8 nd8).trans (Same.new nl)))⟩
      · exact ⟨_, rfl, _, _, rfl, rfl, l, _, 3, _, rfl, rfl, SqL.of upd_same, rfl, q _ _ ((Same.err na5 nd5).trans ((Same.err na6 nd6).trans ((Same.err na7 nd7).trans ((Same.err na8 nd8).trans (Same.new nl))))) ((ErrAt.new 8 (nargs 8 x y) ne8 rfl rfl).same (Same.new nl))⟩
    have e1 : ¬ (k : Int) < 9 := fun z => e1 (decide_eq_true z)
    refine ⟨_, rfl, _, _, rfl, rfl, _, rfl, ite2 (fun e => ?_) (fun e2 => ?_)⟩
    · have e := of_decide_eq_true e
      refine ⟨_, rfl, rfl, rfl, by decide, fun a9 d9 na9 nd9 ne9 => ⟨_, rfl, rfl, rfl, by decide, fun a10 d10 na10 nd10 ne10 => ⟨_, rfl, rfl, rfl, by decide, fun a11 d11 na11 nd11 ne11 => ⟨_, rfl, rfl, rfl, by decide, fun a12 d12 na12 nd12 ne12 => ⟨_, rfl, rfl, rfl, by decide, fun a13 d13 na13 nd13 ne13 => ⟨(sz64 (n := 5) (by decide)), fun l nl => ?_⟩⟩⟩⟩⟩⟩
      have hk : k = 9 ∨ k = 10 ∨ k = 11 ∨ k = 12 ∨ k = 13 := by omega
      rcases hk with rfl | rfl | rfl | rfl | rfl
      · exact ⟨_, rfl, _, _, rfl, rfl, l, _, 0, _, rfl, rfl, SqL.of upd_same, rfl, q _ _ ((Same.err na9 nd9).trans ((Same.err na10 nd10).trans ((Same.err na11 nd11).trans ((Same.err na12 nd12).trans ((Same.err na13 nd13).trans (Same.new nl)))))) ((ErrAt.new 9 (nargs 9 x y) ne9 rfl rfl).same ((Same.err na10 nd10).trans ((Same.err na11 nd11).trans ((Same.err na12 nd12).trans ((Same.err na13 nd13).trans (Same.new nl))))))⟩
      · exact ⟨_, rfl, _, _, rfl, rfl, l, _, 1, _, rfl, rfl, SqL.of upd_same, rfl, q _ _ ((Same.err na9 nd9).trans ((Same.err na10 nd10).trans ((Same.err na11 nd11).trans ((Same.err na12 nd12).trans ((Same.err na13 nd13).trans (Same.new nl)))))) ((ErrAt.new 10 (nargs 10 x y) ne10 rfl rfl).same ((Same.err na11 nd11).trans ((Same.err na12 nd12).trans ((Same.err na13 nd13).trans (Same.new nl)))))⟩
      · exact ⟨_, rfl, _, _, rfl, rfl, l, _, 2, _, rfl, rfl, SqL.of upd_same, rfl, q _ _ ((Same.err na9 nd9).trans ((Same.err na10 nd10).trans ((Same.err na11 nd11).trans ((Same.err na12 nd12).trans ((Same.err na13 nd13).trans (Same.new nl)))))) ((ErrAt.new 11 (nargs 11 x y) ne11 rfl rfl).same ((Same.err na12 nd12).trans ((Same.err na13 nd13).trans (Same.new nl))))⟩
      · exact ⟨_, rfl, _, _, rfl, rfl, l, _, 3, _, rfl, rfl, SqL.of upd_same, rfl, q _ _ ((Same.err na9 nd9).trans ((Same.err na10 nd10).trans ((Same.err na11 nd11).trans ((Same.err na12 nd12).trans ((Same.err na13 nd13).trans (Same.new nl)))))) ((ErrAt.new 12 (nargs 12 x y) ne12 rfl rfl).same ((Same.err na13 nd13).trans (Same.new nl)))⟩
      · exact ⟨_, rfl, _, _, rfl, rfl, l, _, 4, _, rfl, rfl, SqL.of upd_same, rfl, q _ _ ((Same.err na9 nd9).trans ((Same.err na10 nd10).trans ((Same.err na11 nd11).trans ((Same.err na12 nd12).trans ((Same.err na13 nd13).trans (Same.new nl)))))) ((ErrAt.new 13 (nargs 13 x y) ne13 rfl rfl).same (Same.new nl))⟩
    have e2 : ¬ (k : Int) < 14 := fun z => e2 (decide_eq_true z)
    refine ⟨_, rfl, rfl, _, rfl, ite2 (fun e => ?_) (fun e3 => ?_)⟩
    · obtain rfl : k = 14 := by have := int_eq e; omega
      exact ⟨_, rfl, _, rfl, _, rfl, _, rfl, _, rfl, rfl, rfl, by decide, fun a dx na nd ne => q _ _ (Same.err na nd) (ErrAt.new 14 (nargs 14 x y) ne rfl rfl)⟩
    · have e3 := int_ne e3
      refine ⟨_, rfl, rfl, rfl, by decide, fun a15 d15 na15 nd15 ne15 => ⟨_, rfl, rfl, rfl, by decide, fun a16 d16 na16 nd16 ne16 => ⟨_, rfl, rfl, rfl, by decide, fun a17 d17 na17 nd17 ne17 => ⟨_, rfl, _, rfl, rfl, rfl, by decide, fun a18 d18 na18 nd18 ne18 => ⟨(sz64 (n := 4) (by decide)), fun l nl => ?_⟩⟩⟩⟩⟩
      have hk : k = 15 ∨ k = 16 ∨ k = 17 ∨ k = 18 := by omega
      rcases hk with rfl | rfl | rfl | rfl
      · exact ⟨_, rfl, _, _, rfl, rfl, l, _, 0, _, rfl, rfl, SqL.of upd_same, rfl, q _ _ ((Same.err na15 nd15).trans ((Same.err na16 nd16).trans ((Same.err na17 nd17).trans ((Same.err na18 nd18).trans (Same.new nl))))) ((ErrAt.new 15 (nargs 15 x y) ne15 rfl rfl).same ((Same.err na16 nd16).trans ((Same.err na17 nd17).trans ((Same.err na18 nd18).trans (Same.new nl)))))⟩
      · exact ⟨_, rfl, _, _, rfl, rfl, l, _, 1, _, rfl, rfl, SqL.of upd_same, rfl, q _ _ ((Same.err na15 nd15).trans ((Same.err na16 nd16).trans ((Same.err na17 nd17).trans ((Same.err na18 nd18).trans (Same.new nl))))) ((ErrAt.new 16 (nargs 16 x y) ne16 rfl rfl).same ((Same.err na17 nd17).trans ((Same.err na18 nd18).trans (Same.new nl))))⟩
      · exact ⟨_, rfl, _, _, rfl, rfl, l, _, 2, _, rfl, rfl, SqL.of upd_same, rfl, q _ _ ((Same.err na15 nd15).trans ((Same.err na16 nd16).trans ((Same.err na17 nd17).trans ((Same.err na18 nd18).trans (Same.new nl))))) ((ErrAt.new 17 (nargs 17 x y) ne17 rfl rfl).same ((Same.err na18 nd18).trans (Same.new nl)))⟩
      · exact ⟨_, rfl, _, _, rfl, rfl, l, _, 3, _, rfl, rfl, SqL.of upd_same, rfl, q _ _ ((Same.err na15 nd15).trans ((Same.err na16 nd16).trans ((Same.err na17 nd17).trans ((Same.err na18 nd18).trans (Same.new nl))))) ((ErrAt.new 18 (nargs 18 x y) ne18 rfl rfl).same (Same.new nl))⟩

theorem sc_law_fields : FnScope [("_law_k" : Str), ("_law_e" : Str)] [("_law_k" : Str), ("_law_e" : Str)] (defScope (top 28)) := ⟨rfl, rfl, rfl, by decide +kernel, rfl, by decide +kernel, by decide +kernel⟩
theorem ok_fields (A : At K mg) : FnOk P w K mg base CX0 1 (ga K "_law_fields") (fdOf K (ga K "_law_fields")) [("_law_k" : Str), ("_law_e" : Str)] (spFields K) := by
  refine (F_law_fields A).ok sc_law_fields (fun vs H Q E h => ?_) (fun cdv A' outer s H vs Q E hr h => ?_)
  · obtain ⟨k, e, ws, rfl, _⟩ := h
    rfl
  · obtain ⟨k, e, ws, rfl, hk, ⟨a, dx, rfl, h1, h2⟩, hl, q⟩ := h
    refine ⟨_, PSs.nox (pss_cons (ps_if (pt_cmpR op_lt (pv 0) pe_int (nomark _)) (pss_one (ps_ret (pe_tup (pa_cons (pe_erF (pv 1) rfl) pa_nil)))) pss_nil)
 (pss_cons (ps_if (pt_cmpR op_eq (pv 0) pe_int (nomark _)) (pss_one (ps_ret (pe_tup (pa_cons (pe_erF (pv 1) rfl) pa_nil)))) pss_nil)
 (pss_cons (ps_if (pt_cmpR op_in_seq (pv 0) (pe_lst (pa_cons pe_int (pa_cons pe_int (pa_cons pe_int (pa_cons pe_int pa_nil))))) rfl) (pss_one (ps_ret (pe_tup (pa_cons (pe_erF (pv 1) rfl) pa_nil)))) pss_nil)
 (pss_cons (ps_if (pt_cmpR op_eq (pv 0) pe_int (nomark _)) (pss_one (ps_ret (pe_tup (pa_cons (pe_erF (pv 1) rfl) pa_nil)))) pss_nil)
 (pss_cons (ps_if (pt_cmpR op_eq (pv 0) pe_int (nomark _)) (pss_one (ps_ret (pe_tup (pa_cons (pe_erF (pv 1) rfl) pa_nil)))) pss_nil)
 (pss_cons (ps_if (pt_cmpR op_eq (pv 0) pe_int (nomark _)) (pss_one (ps_ret (pe_tup (pa_cons (pe_erF (pv 1) rfl) pa_nil)))) pss_nil)
 (pss_cons (ps_if (pt_cmpR op_eq (pv 0) pe_int (nomark _)) (pss_one (ps_ret (pe_tup (pa_cons (pe_erF (pv 1) rfl) (pa_cons (pe_erF (pv 1) rfl) pa_nil))))) pss_nil)
 (pss_cons (ps_if (pt_cmpR op_eq (pv 0) pe_int (nomark _)) (pss_one (ps_ret (pe_tup (pa_cons (pe_erF (pv 1) rfl) pa_nil)))) pss_nil)
 (pss_cons (ps_if (pt_cmpR op_eq (pv 0) pe_int (nomark _)) (pss_one (ps_ret (pe_tup (pa_cons (pe_erF (pv 1) rfl) pa_nil)))) pss_nil)
 (pss_cons (ps_if (pt_cmpR op_lt (pv 0) pe_int (nomark _)) (pss_one (ps_ret (pe_ifExp (pt_cmpR op_eq (pv 0) pe_int (nomark _)) (pe_tup (pa_cons (pe_erF (pv 1) rfl) pa_nil)) (pe_tup (pa_cons (pe_erF (pv 1) rfl) pa_nil))))) pss_nil)
 (pss_cons (ps_if (pt_cmpR op_eq (pv 0) pe_int (nomark _)) (pss_one (ps_ret (pe_tup (pa_cons (pe_erF (pv 1) rfl) (pa_cons (pe_erF (pv 1) rfl) (pa_cons (pe_erF (pv 1) rfl) (pa_cons (pe_erF (pv 1) rfl) (pa_cons (pe_erF (pv 1) rfl) pa_nil)))))))) pss_nil)
 (pss_cons (ps_if (pt_cmpR op_lt (pv 0) pe_int (nomark _)) (pss_one (ps_ret (pe_tup (pa_cons (pe_erF (pv 1) rfl) pa_nil)))) pss_nil)
 (pss_one (ps_ret (pe_tup (pa_cons (pe_erF (pv 1) rfl) (pa_cons (pe_erF (pv 1) rfl) pa_nil))))))))))))))))), ?_⟩
    -- k < 2
    refine ⟨_, rfl, _, _, rfl, rfl, _, rfl, ite2 (fun e => ?_) (fun e0 => ?_)⟩
    · have e := of_decide_eq_true e
      have hk : k = 0 ∨ k = 1 := by omega
      rcases hk with rfl | rfl
      · obtain ⟨w0, rfl⟩ : ∃ w0, ws = [w0] := by
          match ws, hl with
          | [w0], _ => exact ⟨w0, rfl⟩
        have HS := Same.refl H
        exact ⟨_, rfl, a, _, dx, _, _, rfl, HS _ _ h1, HS _ _ h2, (ET_BadLine A).isC, (ET_BadLine A).no "line" (by decide +kernel), rfl, (sz64 (n := 1) (by decide)), fun t nt => q _ _ ((Same.refl H).trans (Same.new nt)) upd_same⟩
      · obtain ⟨w0, rfl⟩ : ∃ w0, ws = [w0] := by
          match ws, hl with
          | [w0], _ => exact ⟨w0, rfl⟩
        have HS := Same.refl H
        exact ⟨_, rfl, a, _, dx, _, _, rfl, HS _ _ h1, HS _ _ h2, (ET_BadMarks A).isC, (ET_BadMarks A).no "line" (by decide +kernel), rfl, (sz64 (n := 1) (by decide)), fun t nt => q _ _ ((Same.refl H).trans (Same.new nt)) upd_same⟩
    have e0 : ¬ (k : Int) < 2 := fun z => e0 (decide_eq_true z)
    refine ⟨_, rfl, rfl, _, rfl, ite2 (fun e => ?_) (fun e1 => ?_)⟩
    · obtain rfl : k = 2 := by have := int_eq e; omega
      obtain ⟨w0, rfl⟩ : ∃ w0, ws = [w0] := by
        match ws, hl with
        | [w0], _ => exact ⟨w0, rfl⟩
      have HS := Same.refl H
      exact ⟨_, rfl, a, _, dx, _, _, rfl, HS _ _ h1, HS _ _ h2, (ET_BadPlace A).isC, (ET_BadPlace A).no "word" (by decide +kernel), rfl, (sz64 (n := 1) (by decide)), fun t nt => q _ _ ((Same.refl H).trans (Same.new nt)) upd_same⟩
    have e1 := int_ne e1
    refine ⟨_, rfl, (sz64 (n := 4) (by decide)), fun l nl => ⟨l, _, rfl, .inl (SqL.of upd_same), rfl, by decide, _, rfl, ?_⟩⟩
    have hin : inV (V.int (k : Int)) [V.int 3, V.int 8, V.int 11, V.int 17] = decide (k = 3 ∨ k = 8 ∨ k = 11 ∨ k = 17) :=
      (by decide +kernel : ∀ k : Nat, k < 19 → inV (V.int (k : Int)) [V.int 3, V.int 8, V.int 11, V.int 17] = decide (k = 3 ∨ k = 8 ∨ k = 11 ∨ k = 17)) k hk
    refine ite2 (fun e => ?_) (fun e2 => ?_)
    · rw [hin] at e
      have e := of_decide_eq_true e
      rcases e with rfl | rfl | rfl | rfl
      · obtain ⟨w0, rfl⟩ : ∃ w0, ws = [w0] := by
          match ws, hl with
          | [w0], _ => exact ⟨w0, rfl⟩
        have HS := Same.new (o := HO.lst [V.int 3, V.int 8, V.int 11, V.int 17]) nl
        exact ⟨_, rfl, a, _, dx, _, _, rfl, HS _ _ h1, HS _ _ h2, (ET_BadName A).isC, (ET_BadName A).no "name" (by decide +kernel), rfl, (sz64 (n := 1) (by decide)), fun t nt => q _ _ ((Same.new (o := HO.lst [V.int 3, V.int 8, V.int 11, V.int 17]) nl).trans (Same.new nt)) upd_same⟩
      · obtain ⟨w0, rfl⟩ : ∃ w0, ws = [w0] := by
          match ws, hl with
          | [w0], _ => exact ⟨w0, rfl⟩
        have HS := Same.new (o := HO.lst [V.int 3, V.int 8, V.int 11, V.int 17]) nl
        exact ⟨_, rfl, a, _, dx, _, _, rfl, HS _ _ h1, HS _ _ h2, (ET_NoName A).isC, (ET_NoName A).no "name" (by decide +kernel), rfl, (sz64 (n := 1) (by decide)), fun t nt => q _ _ ((Same.new (o := HO.lst [V.int 3, V.int 8, V.int 11, V.int 17]) nl).trans (Same.new nt)) upd_same⟩
      · obtain ⟨w0, rfl⟩ : ∃ w0, ws = [w0] := by
          match ws, hl with
          | [w0], _ => exact ⟨w0, rfl⟩
        have HS := Same.new (o := HO.lst [V.int 3, V.int 8, V.int 11, V.int 17]) nl
        exact ⟨_, rfl, a, _, dx, _, _, rfl, HS _ _ h1, HS _ _ h2, (ET_NoStrict A).isC, (ET_NoStrict A).no "name" (by decide +kernel), rfl, (sz64 (n := 1) (by decide)), fun t nt => q _ _ ((Same.new (o := HO.lst [V.int 3, V.int 8, V.int 11, V.int 17]) nl).trans (Same.new nt)) upd_same⟩
      · obtain ⟨w0, rfl⟩ : ∃ w0, ws = [w0] := by
          match ws, hl with
          | [w0], _ => exact ⟨w0, rfl⟩
        have HS := Same.new (o := HO.lst [V.int 3, V.int 8, V.int 11, V.int 17]) nl
        exact ⟨_, rfl, a, _, dx, _, _, rfl, HS _ _ h1, HS _ _ h2, (ET_Twice A).isC, (ET_Twice A).no "name" (by decide +kernel), rfl, (sz64 (n := 1) (by decide)), fun t nt => q _ _ ((Same.new (o := HO.lst [V.int 3, V.int 8, V.int 11, V.int 17]) nl).trans (Same.new nt)) upd_same⟩
    rw [hin] at e2
    have e2 : ¬ (k = 3 ∨ k = 8 ∨ k = 11 ∨ k = 17) := fun z => e2 (decide_eq_true z)
    refine ⟨_, rfl, rfl, _, rfl, ite2 (fun e => ?_) (fun e3 => ?_)⟩
    · obtain rfl : k = 4 := by have := int_eq e; omega
      obtain ⟨w0, rfl⟩ : ∃ w0, ws = [w0] := by
        match ws, hl with
        | [w0], _ => exact ⟨w0, rfl⟩
      have HS := Same.new (o := HO.lst [V.int 3, V.int 8, V.int 11, V.int 17]) nl
      exact ⟨_, rfl, a, _, dx, _, _, rfl, HS _ _ h1, HS _ _ h2, (ET_BadText A).isC, (ET_BadText A).no "text" (by decide +kernel), rfl, (sz64 (n := 1) (by decide)), fun t nt => q _ _ ((Same.new (o := HO.lst [V.int 3, V.int 8, V.int 11, V.int 17]) nl).trans (Same.new nt)) upd_same⟩
    have e3 := int_ne e3
    refine ⟨_, rfl, rfl, _, rfl, ite2 (fun e => ?_) (fun e4 => ?_)⟩
    · obtain rfl : k = 5 := by have := int_eq e; omega
      obtain ⟨w0, rfl⟩ : ∃ w0, ws = [w0] := by
        match ws, hl with
        | [w0], _ => exact ⟨w0, rfl⟩
      have HS := Same.new (o := HO.lst [V.int 3, V.int 8, V.int 11, V.int 17]) nl
      exact ⟨_, rfl, a, _, dx, _, _, rfl, HS _ _ h1, HS _ _ h2, (ET_BadFile A).isC, (ET_BadFile A).no "index" (by decide +kernel), rfl, (sz64 (n := 1) (by decide)), fun t nt => q _ _ ((Same.new (o := HO.lst [V.int 3, V.int 8, V.int 11, V.int 17]) nl).trans (Same.new nt)) upd_same⟩
    have e4 := int_ne e4
    refine ⟨_, rfl, rfl, _, rfl, ite2 (fun e => ?_) (fun e5 => ?_)⟩
    · obtain rfl : k = 6 := by have := int_eq e; omega
      obtain ⟨w0, rfl⟩ : ∃ w0, ws = [w0] := by
        match ws, hl with
        | [w0], _ => exact ⟨w0, rfl⟩
      have HS := Same.new (o := HO.lst [V.int 3, V.int 8, V.int 11, V.int 17]) nl
      exact ⟨_, rfl, a, _, dx, _, _, rfl, HS _ _ h1, HS _ _ h2, (ET_BadTool A).isC, (ET_BadTool A).no "part" (by decide +kernel), rfl, (sz64 (n := 1) (by decide)), fun t nt => q _ _ ((Same.new (o := HO.lst [V.int 3, V.int 8, V.int 11, V.int 17]) nl).trans (Same.new nt)) upd_same⟩
    have e5 := int_ne e5
    refine ⟨_, rfl, rfl, _, rfl, ite2 (fun e => ?_) (fun e6 => ?_)⟩
    · obtain rfl : k = 7 := by have := int_eq e; omega
      obtain ⟨w0, w1, rfl⟩ : ∃ w0 w1, ws = [w0, w1] := by
        match ws, hl with
        | [w0, w1], _ => exact ⟨w0, w1, rfl⟩
      have HS := Same.new (o := HO.lst [V.int 3, V.int 8, V.int 11, V.int 17]) nl
      exact ⟨_, rfl, a, _, dx, _, _, rfl, HS _ _ h1, HS _ _ h2, (ET_BadMachine A).isC, (ET_BadMachine A).no "part" (by decide +kernel), rfl, _, rfl, a, _, dx, _, _, rfl, HS _ _ h1, HS _ _ h2, (ET_BadMachine A).isC, (ET_BadMachine A).no "index" (by decide +kernel), rfl, (sz64 (n := 2) (by decide)), fun t nt => q _ _ ((Same.new (o := HO.lst [V.int 3, V.int 8, V.int 11, V.int 17]) nl).trans (Same.new nt)) upd_same⟩
    have e6 := int_ne e6
    refine ⟨_, rfl, rfl, _, rfl, ite2 (fun e => ?_) (fun e7 => ?_)⟩
    · obtain rfl : k = 9 := by have := int_eq e; omega
      obtain ⟨w0, rfl⟩ : ∃ w0, ws = [w0] := by
        match ws, hl with
        | [w0], _ => exact ⟨w0, rfl⟩
      have HS := Same.new (o := HO.lst [V.int 3, V.int 8, V.int 11, V.int 17]) nl
      exact ⟨_, rfl, a, _, dx, _, _, rfl, HS _ _ h1, HS _ _ h2, (ET_NoStep A).isC, (ET_NoStep A).no "step" (by decide +kernel), rfl, (sz64 (n := 1) (by decide)), fun t nt => q _ _ ((Same.new (o := HO.lst [V.int 3, V.int 8, V.int 11, V.int 17]) nl).trans (Same.new nt)) upd_same⟩
    have e7 := int_ne e7
    refine ⟨_, rfl, rfl, _, rfl, ite2 (fun e => ?_) (fun e8 => ?_)⟩
    · obtain rfl : k = 10 := by have := int_eq e; omega
      obtain ⟨w0, rfl⟩ : ∃ w0, ws = [w0] := by
        match ws, hl with
        | [w0], _ => exact ⟨w0, rfl⟩
      have HS := Same.new (o := HO.lst [V.int 3, V.int 8, V.int 11, V.int 17]) nl
      exact ⟨_, rfl, a, _, dx, _, _, rfl, HS _ _ h1, HS _ _ h2, (ET_NoRun A).isC, (ET_NoRun A).no "read" (by decide +kernel), rfl, (sz64 (n := 1) (by decide)), fun t nt => q _ _ ((Same.new (o := HO.lst [V.int 3, V.int 8, V.int 11, V.int 17]) nl).trans (Same.new nt)) upd_same⟩
    have e8 := int_ne e8
    refine ⟨_, rfl, _, _, rfl, rfl, _, rfl, ite2 (fun e => ?_) (fun e9 => ?_)⟩
    · have e := of_decide_eq_true e
      refine ⟨_, rfl, rfl, _, rfl, ite2 (fun e => ?_) (fun e99 => ?_)⟩
      · obtain rfl : k = 12 := by have := int_eq e; omega
        obtain ⟨w0, rfl⟩ : ∃ w0, ws = [w0] := by
          match ws, hl with
          | [w0], _ => exact ⟨w0, rfl⟩
        have HS := Same.new (o := HO.lst [V.int 3, V.int 8, V.int 11, V.int 17]) nl
        exact ⟨_, rfl, a, _, dx, _, _, rfl, HS _ _ h1, HS _ _ h2, (ET_TooHeavy A).isC, (ET_TooHeavy A).no "total" (by decide +kernel), rfl, (sz64 (n := 1) (by decide)), fun t nt => q _ _ ((Same.new (o := HO.lst [V.int 3, V.int 8, V.int 11, V.int 17]) nl).trans (Same.new nt)) upd_same⟩
      · have e99 := int_ne e99
        obtain rfl : k = 13 := by omega
        obtain ⟨w0, rfl⟩ : ∃ w0, ws = [w0] := by
          match ws, hl with
          | [w0], _ => exact ⟨w0, rfl⟩
        have HS := Same.new (o := HO.lst [V.int 3, V.int 8, V.int 11, V.int 17]) nl
        exact ⟨_, rfl, a, _, dx, _, _, rfl, HS _ _ h1, HS _ _ h2, (ET_TooMany A).isC, (ET_TooMany A).no "limit" (by decide +kernel), rfl, (sz64 (n := 1) (by decide)), fun t nt => q _ _ ((Same.new (o := HO.lst [V.int 3, V.int 8, V.int 11, V.int 17]) nl).trans (Same.new nt)) upd_same⟩
    have e9 : ¬ (k : Int) < 14 := fun z => e9 (decide_eq_true z)
    refine ⟨_, rfl, rfl, _, rfl, ite2 (fun e => ?_) (fun e10 => ?_)⟩
    · obtain rfl : k = 14 := by have := int_eq e; omega
      obtain ⟨w0, w1, w2, w3, w4, rfl⟩ : ∃ w0 w1 w2 w3 w4, ws = [w0, w1, w2, w3, w4] := by
        match ws, hl with
        | [w0, w1, w2, w3, w4], _ => exact ⟨w0, w1, w2, w3, w4, rfl⟩
      have HS := Same.new (o := HO.lst [V.int 3, V.int 8, V.int 11, V.int 17]) nl
      exact ⟨_, rfl, a, _, dx, _, _, rfl, HS _ _ h1, HS _ _ h2, (ET_Refused A).isC, (ET_Refused A).no "name" (by decide +kernel), rfl, _, rfl, a, _, dx, _, _, rfl, HS _ _ h1, HS _ _ h2, (ET_Refused A).isC, (ET_Refused A).no "index" (by decide +kernel), rfl, _, rfl, a, _, dx, _, _, rfl, HS _ _ h1, HS _ _ h2, (ET_Refused A).isC, (ET_Refused A).no "fault" (by decide +kernel), rfl, _, rfl, a, _, dx, _, _, rfl, HS _ _ h1, HS _ _ h2, (ET_Refused A).isC, (ET_Refused A).no "path" (by decide +kernel), rfl, _, rfl, a, _, dx, _, _, rfl, HS _ _ h1, HS _ _ h2, (ET_Refused A).isC, (ET_Refused A).no "cause" (by decide +kernel), rfl, (sz64 (n := 5) (by decide)), fun t nt => q _ _ ((Same.new (o := HO.lst [V.int 3, V.int 8, V.int 11, V.int 17]) nl).trans (Same.new nt)) upd_same⟩
    have e10 := int_ne e10
    refine ⟨_, rfl, _, _, rfl, rfl, _, rfl, ite2 (fun e => ?_) (fun e11 => ?_)⟩
    · have e := of_decide_eq_true e
      have hk : k = 15 ∨ k = 16 := by omega
      rcases hk with rfl | rfl
      · obtain ⟨w0, rfl⟩ : ∃ w0, ws = [w0] := by
          match ws, hl with
          | [w0], _ => exact ⟨w0, rfl⟩
        have HS := Same.new (o := HO.lst [V.int 3, V.int 8, V.int 11, V.int 17]) nl
        exact ⟨_, rfl, a, _, dx, _, _, rfl, HS _ _ h1, HS _ _ h2, (ET_Ambiguous A).isC, (ET_Ambiguous A).no "file" (by decide +kernel), rfl, (sz64 (n := 1) (by decide)), fun t nt => q _ _ ((Same.new (o := HO.lst [V.int 3, V.int 8, V.int 11, V.int 17]) nl).trans (Same.new nt)) upd_same⟩
      · obtain ⟨w0, rfl⟩ : ∃ w0, ws = [w0] := by
          match ws, hl with
          | [w0], _ => exact ⟨w0, rfl⟩
        have HS := Same.new (o := HO.lst [V.int 3, V.int 8, V.int 11, V.int 17]) nl
        exact ⟨_, rfl, a, _, dx, _, _, rfl, HS _ _ h1, HS _ _ h2, (ET_Unlike A).isC, (ET_Unlike A).no "file" (by decide +kernel), rfl, (sz64 (n := 1) (by decide)), fun t nt => q _ _ ((Same.new (o := HO.lst [V.int 3, V.int 8, V.int 11, V.int 17]) nl).trans (Same.new nt)) upd_same⟩
    have e11 : ¬ (k : Int) < 17 := fun z => e11 (decide_eq_true z)
    obtain rfl : k = 18 := by omega
    obtain ⟨w0, w1, rfl⟩ : ∃ w0 w1, ws = [w0, w1] := by
      match ws, hl with
      | [w0, w1], _ => exact ⟨w0, w1, rfl⟩
    have HS := Same.new (o := HO.lst [V.int 3, V.int 8, V.int 11, V.int 17]) nl
    exact ⟨_, rfl, a, _, dx, _, _, rfl, HS _ _ h1, HS _ _ h2, (ET_Stopped A).isC, (ET_Stopped A).no "number" (by decide +kernel), rfl, _, rfl, a, _, dx, _, _, rfl, HS _ _ h1, HS _ _ h2, (ET_Stopped A).isC, (ET_Stopped A).no "reason" (by decide +kernel), rfl, (sz64 (n := 2) (by decide)), fun t nt => q _ _ ((Same.new (o := HO.lst [V.int 3, V.int 8, V.int 11, V.int 17]) nl).trans (Same.new nt)) upd_same⟩

end
end K96

set_option Elab.async false
set_option linter.all false
set_option maxRecDepth 100000
set_option maxHeartbeats 4000000
namespace K96
open PySem PySem.Spec PyProof.Rows L2 He Hm
section
variable {P : Program} {w : World} {K : PySem.W.Frag} {mg : Str → Option Value} {base : Heap}
theorem kit_row (A : At K mg) {i : Nat} (hi : i < 19) : kitRow K i = true := by
  have h : kitAll K = true := A.says.fact 61
  exact List.all_eq_true.mp h i (List.mem_range.mpr hi)
theorem kit_own (A : At K mg) {i : Nat} (hi : i < 19) (j : Nat) (hj : j < 19) : PySem.W.kitOne K (.ref (clsAt K i)) (.ref (clsAt K j)) = some (i == j) := by
  have h := (Bool.and_eq_true_iff.mp (kit_row A hi)).1
  exact eq_of_beq (List.all_eq_true.mp h j (List.mem_range.mpr hj))
theorem kit_base (A : At K mg) {i : Nat} (hi : i < 19) (j : Nat) (hj : j < 5) : PySem.W.kitOne K (.ref (clsAt K i)) (.type (btN.getD j "")) = some (j == baseOf i) := by
  have h := (Bool.and_eq_true_iff.mp (kit_row A hi)).2
  exact eq_of_beq (List.all_eq_true.mp h j (List.mem_range.mpr hj))
theorem exc_at (A : At K mg) : ∀ i : Nat, i < 19 → ExcC K (clsAt K i)
  | 0, _ => (ET_BadLine A).isC
  | 1, _ => (ET_BadMarks A).isC
  | 2, _ => (ET_BadPlace A).isC
  | 3, _ => (ET_BadName A).isC
  | 4, _ => (ET_BadText A).isC
  | 5, _ => (ET_BadFile A).isC
  | 6, _ => (ET_BadTool A).isC
  | 7, _ => (ET_BadMachine A).isC
  | 8, _ => (ET_NoName A).isC
  | 9, _ => (ET_NoStep A).isC
  | 10, _ => (ET_NoRun A).isC
  | 11, _ => (ET_NoStrict A).isC
  | 12, _ => (ET_TooHeavy A).isC
  | 13, _ => (ET_TooMany A).isC
  | 14, _ => (ET_Refused A).isC
  | 15, _ => (ET_Ambiguous A).isC
  | 16, _ => (ET_Unlike A).isC
  | 17, _ => (ET_Twice A).isC
  | 18, _ => (ET_Stopped A).isC
  | _ + 19, h => absurd h (by omega)
def spOf (ans : Nat → Nat) (K : PySem.W.Frag) : Sp := fun vs H Q _ => ∃ (k : Nat) (e : V) (ws : List V), vs = [e] ∧ k < 19 ∧ ErrAt K H e k ws ∧ ∀ r H', Same H H' → H' r = some (.lst [.int (ans k)]) → Q (.ref r) H'
/-- the numbers below n at which the list says so: there is one -/
def picked (n k : Nat) : List V := if k < n then [.int k] else []
theorem picked_step {i k : Nat} : picked (i + 1) k = if (k == i) = true then picked i k ++ [.int (i : Int)] else picked i k := by
  unfold picked
  by_cases h : k = i
  · subst h
    simp
  · rw [if_neg (show ¬ (k == i) = true from fun z => h (by simpa using z))]
    by_cases h2 : k < i
    · rw [if_pos h2, if_pos (by omega)]
    · rw [if_neg h2, if_neg (by omega)]
theorem sc_law_classes : FnScope [("_law_e" : Str), ("_law_ours" : Str), ("_law_k" : Str)] [("_law_e" : Str)] (defScope (top 29)) := ⟨rfl, rfl, rfl, by decide +kernel, rfl, by decide +kernel, by decide +kernel⟩
theorem ok_classes (A : At K mg) : FnOk P w K mg base CX0 1 (ga K "_law_classes") (fdOf K (ga K "_law_classes")) [("_law_e" : Str)] (spOf (fun k => k) K) := by
  refine (F_law_classes A).ok sc_law_classes (fun vs H Q E h => ?_) (fun cdv A' outer s H vs Q E hr h => ?_)
  · obtain ⟨k, e, ws, rfl, _⟩ := h
    rfl
  · obtain ⟨k, e, ws, rfl, hk, ⟨a, dx, rfl, h1, h2⟩, q⟩ := h
    refine ⟨_, PSs.nox (pss_cons (ps_set (i := 1) sc_law_classes.nd rfl (by first | exact Or.inl rfl | exact Or.inr rfl) (pe_lst (pa_cons (pe_callB call_isErr rfl (n_isinstance A) (by decide +kernel) (pa_cons (pv 0) (pa_cons (pe_glob (v := V.ref (ga K "BadLine")) rfl (g_BadLine A) rfl) pa_nil))) (pa_cons (pe_callB call_isErr rfl (n_isinstance A) (by decide +kernel) (pa_cons (pv 0) (pa_cons (pe_glob (v := V.ref (ga K "BadMarks")) rfl (g_BadMarks A) rfl) pa_nil))) (pa_cons (pe_callB call_isErr rfl (n_isinstance A) (by decide +kernel) (pa_cons (pv 0) (pa_cons (pe_glob (v := V.ref (ga K "BadPlace")) rfl (g_BadPlace A) rfl) pa_nil))) (pa_cons (pe_callB call_isErr rfl (n_isinstance A) (by decide +kernel) (pa_cons (pv 0) (pa_cons (pe_glob (v := V.ref (ga K "BadName")) rfl (g_BadName A) rfl) pa_nil))) pa_nil))))))
 (pss_cons (ps_set (i := 1) sc_law_classes.nd rfl (by first | exact Or.inl rfl | exact Or.inr rfl) (pe_op op_cat (pv 1) (pe_lst (pa_cons (pe_callB call_isErr rfl (n_isinstance A) (by decide +kernel) (pa_cons (pv 0) (pa_cons (pe_glob (v := V.ref (ga K "BadText")) rfl (g_BadText A) rfl) pa_nil))) (pa_cons (pe_callB call_isErr rfl (n_isinstance A) (by decide +kernel) (pa_cons (pv 0) (pa_cons (pe_glob (v := V.ref (ga K "BadFile")) rfl (g_BadFile A) rfl) pa_nil))) (pa_cons (pe_callB call_isErr rfl (n_isinstance A) (by decide +kernel) (pa_cons (pv 0) (pa_cons (pe_glob (v := V.ref (ga K "BadTool")) rfl (g_BadTool A) rfl) pa_nil))) pa_nil))))))
 (pss_cons (ps_set (i := 1) sc_law_classes.nd rfl (by first | exact Or.inl rfl | exact Or.inr rfl) (pe_op op_cat (pv 1) (pe_lst (pa_cons (pe_callB call_isErr rfl (n_isinstance A) (by decide +kernel) (pa_cons (pv 0) (pa_cons (pe_glob (v := V.ref (ga K "BadMachine")) rfl (g_BadMachine A) rfl) pa_nil))) (pa_cons (pe_callB call_isErr rfl (n_isinstance A) (by decide +kernel) (pa_cons (pv 0) (pa_cons (pe_glob (v := V.ref (ga K "NoName")) rfl (g_NoName A) rfl) pa_nil))) (pa_cons (pe_callB call_isErr rfl (n_isinstance A) (by decide +kernel) (pa_cons (pv 0) (pa_cons (pe_glob (v := V.ref (ga K "NoStep")) rfl (g_NoStep A) rfl) pa_nil))) (pa_cons (pe_callB call_isErr rfl (n_isinstance A) (by decide +kernel) (pa_cons (pv 0) (pa_cons (pe_glob (v := V.ref (ga K "NoRun")) rfl (g_NoRun A) rfl) pa_nil))) pa_nil)))))))
 (pss_cons (ps_set (i := 1) sc_law_classes.nd rfl (by first | exact Or.inl rfl | exact Or.inr rfl) (pe_op op_cat (pv 1) (pe_lst (pa_cons (pe_callB call_isErr rfl (n_isinstance A) (by decide +kernel) (pa_cons (pv 0) (pa_cons (pe_glob (v := V.ref (ga K "NoStrict")) rfl (g_NoStrict A) rfl) pa_nil))) (pa_cons (pe_callB call_isErr rfl (n_isinstance A) (by decide +kernel) (pa_cons (pv 0) (pa_cons (pe_glob (v := V.ref (ga K "TooHeavy")) rfl (g_TooHeavy A) rfl) pa_nil))) (pa_cons (pe_callB call_isErr rfl (n_isinstance A) (by decide +kernel) (pa_cons (pv 0) (pa_cons (pe_glob (v := V.ref (ga K "TooMany")) rfl (g_TooMany A) rfl) pa_nil))) pa_nil))))))
 (pss_cons (ps_set (i := 1) sc_law_classes.nd rfl (by first | exact Or.inl rfl | exact Or.inr rfl) (pe_op op_cat (pv 1) (pe_lst (pa_cons (pe_callB call_isErr rfl (n_isinstance A) (by decide +kernel) (pa_cons (pv 0) (pa_cons (pe_glob (v := V.ref (ga K "Refused")) rfl (g_Refused A) rfl) pa_nil))) (pa_cons (pe_callB call_isErr rfl (n_isinstance A) (by decide +kernel) (pa_cons (pv 0) (pa_cons (pe_glob (v := V.ref (ga K "Ambiguous")) rfl (g_Ambiguous A) rfl) pa_nil))) (pa_cons (pe_callB call_isErr rfl (n_isinstance A) (by decide +kernel) (pa_cons (pv 0) (pa_cons (pe_glob (v := V.ref (ga K "Unlike")) rfl (g_Unlike A) rfl) pa_nil))) pa_nil))))))
 (pss_cons (ps_set (i := 1) sc_law_classes.nd rfl (by first | exact Or.inl rfl | exact Or.inr rfl) (pe_op op_cat (pv 1) (pe_lst (pa_cons (pe_callB call_isErr rfl (n_isinstance A) (by decide +kernel) (pa_cons (pv 0) (pa_cons (pe_glob (v := V.ref (ga K "Twice")) rfl (g_Twice A) rfl) pa_nil))) (pa_cons (pe_callB call_isErr rfl (n_isinstance A) (by decide +kernel) (pa_cons (pv 0) (pa_cons (pe_glob (v := V.ref (ga K "Stopped")) rfl (g_Stopped A) rfl) pa_nil))) pa_nil)))))
 (pss_one (ps_ret (pe_lc (own := [(("_law_k" : Str), 2)]) (g := gName 2) rfl sc_law_classes.nd (pi_range1 rfl (n_range A) (pa_cons pe_int pa_nil)) (blkOk_by (own := [(("_law_k" : Str), 2)]) (N := [("_law_e" : Str), ("_law_ours" : Str), ("_law_k" : Str)]) (sc := (defScope (top 29))) (by decide +kernel)) (fun _ _ _ _ _ => (pg_name (i := 2) sc_law_classes.nd rfl (by first | exact Or.inl rfl | exact Or.inr rfl))) (fun _ _ _ _ _ => (pts_one (pt_val (pe_ix (show IxR _ (rIxL K) from ix_list) (pv 1) (pv 2) (fun _ _ => rfl))))) (fun _ _ _ _ _ => (pv 2))))))))))), ?_⟩
    refine ⟨_, rfl, a, _, dx, _, _, _, _, rfl, h1, h2, exc_at A k hk, .own _, kit_own A hk 0 (by decide), _, rfl, a, _, dx, _, _, _, _, rfl, h1, h2, exc_at A k hk, .own _, kit_own A hk 1 (by decide), _, rfl, a, _, dx, _, _, _, _, rfl, h1, h2, exc_at A k hk, .own _, kit_own A hk 2 (by decide), _, rfl, a, _, dx, _, _, _, _, rfl, h1, h2, exc_at A k hk, .own _, kit_own A hk 3 (by decide), (sz64 (n := 4) (by decide)), fun l0 n0 => ?_⟩
    have S0 : Same H _ := Same.new (o := HO.lst [V.bl (k == 0), V.bl (k == 1), V.bl (k == 2), V.bl (k == 3)]) n0
    refine ⟨_, rfl, _, rfl, a, _, dx, _, _, _, _, rfl, S0 _ _ h1, S0 _ _ h2, exc_at A k hk, .own _, kit_own A hk 4 (by decide), _, rfl, a, _, dx, _, _, _, _, rfl, S0 _ _ h1, S0 _ _ h2, exc_at A k hk, .own _, kit_own A hk 5 (by decide), _, rfl, a, _, dx, _, _, _, _, rfl, S0 _ _ h1, S0 _ _ h2, exc_at A k hk, .own _, kit_own A hk 6 (by decide), (sz64 (n := 3) (by decide)), fun m0 q0 => ?_⟩
    have T0 := Same.new (o := HO.lst [V.bl (k == 4), V.bl (k == 5), V.bl (k == 6)]) q0
    refine ⟨l0, m0, _, _, rfl, rfl, T0 _ _ upd_same, upd_same, (sz64 (n := 7) (by decide)), fun l1 n1 => ?_⟩
    have S1 := (S0.trans T0).trans (Same.new (o := HO.lst [V.bl (k == 0), V.bl (k == 1), V.bl (k == 2), V.bl (k == 3), V.bl (k == 4), V.bl (k == 5), V.bl (k == 6)]) n1)
    refine ⟨_, rfl, _, rfl, a, _, dx, _, _, _, _, rfl, S1 _ _ h1, S1 _ _ h2, exc_at A k hk, .own _, kit_own A hk 7 (by decide), _, rfl, a, _, dx, _, _, _, _, rfl, S1 _ _ h1, S1 _ _ h2, exc_at A k hk, .own _, kit_own A hk 8 (by decide), _, rfl, a, _, dx, _, _, _, _, rfl, S1 _ _ h1, S1 _ _ h2, exc_at A k hk, .own _, kit_own A hk 9 (by decide), _, rfl, a, _, dx, _, _, _, _, rfl, S1 _ _ h1, S1 _ _ h2, exc_at A k hk, .own _, kit_own A hk 10 (by decide), (sz64 (n := 4) (by decide)), fun m1 q1 => ?_⟩
    have T1 := Same.new (o := HO.lst [V.bl (k == 7), V.bl (k == 8), V.bl (k == 9), V.bl (k == 10)]) q1
    refine ⟨l1, m1, _, _, rfl, rfl, T1 _ _ upd_same, upd_same, (sz64 (n := 11) (by decide)), fun l2 n2 => ?_⟩
    have S2 := (S1.trans T1).trans (Same.new (o := HO.lst [V.bl (k == 0), V.bl (k == 1), V.bl (k == 2), V.bl (k == 3), V.bl (k == 4), V.bl (k == 5), V.bl (k == 6), V.bl (k == 7), V.bl (k == 8), V.bl (k == 9), V.bl (k == 10)]) n2)
    refine ⟨_, rfl, _, rfl, a, _, dx, _, _, _, _, rfl, S2 _ _ h1, S2 _ _ h2, exc_at A k hk, .own _, kit_own A hk 11 (by decide), _, rfl, a, _, dx, _, _, _, _, rfl, S2 _ _ h1, S2 _ _ h2, exc_at A k hk, .own _, kit_own A hk 12 (by decide), _, rfl, a, _, dx, _, _, _, _, rfl, S2 _ _ h1, S2 _ _ h2, exc_at A k hk, .own _, kit_own A hk 13 (by decide), (sz64 (n := 3) (by decide)), fun m2 q2 => ?_⟩
    have T2 := Same.new (o := HO.lst [V.bl (k == 11), V.bl (k == 12), V.bl (k == 13)]) q2
    refine ⟨l2, m2, _, _, rfl, rfl, T2 _ _ upd_same, upd_same, (sz64 (n := 14) (by decide)), fun l3 n3 => ?_⟩
    have S3 := (S2.trans T2).trans (Same.new (o := HO.lst [V.bl (k == 0), V.bl (k == 1), V.bl (k == 2), V.bl (k == 3), V.bl (k == 4), V.bl (k == 5), V.bl (k == 6), V.bl (k == 7), V.bl (k == 8), V.bl (k == 9), V.bl (k == 10), V.bl (k == 11), V.bl (k == 12), V.bl (k == 13)]) n3)
    refine ⟨_, rfl, _, rfl, a, _, dx, _, _, _, _, rfl, S3 _ _ h1, S3 _ _ h2, exc_at A k hk, .own _, kit_own A hk 14 (by decide), _, rfl, a, _, dx, _, _, _, _, rfl, S3 _ _ h1, S3 _ _ h2, exc_at A k hk, .own _, kit_own A hk 15 (by decide), _, rfl, a, _, dx, _, _, _, _, rfl, S3 _ _ h1, S3 _ _ h2, exc_at A k hk, .own _, kit_own A hk 16 (by decide), (sz64 (n := 3) (by decide)), fun m3 q3 => ?_⟩
    have T3 := Same.new (o := HO.lst [V.bl (k == 14), V.bl (k == 15), V.bl (k == 16)]) q3
    refine ⟨l3, m3, _, _, rfl, rfl, T3 _ _ upd_same, upd_same, (sz64 (n := 17) (by decide)), fun l4 n4 => ?_⟩
    have S4 := (S3.trans T3).trans (Same.new (o := HO.lst [V.bl (k == 0), V.bl (k == 1), V.bl (k == 2), V.bl (k == 3), V.bl (k == 4), V.bl (k == 5), V.bl (k == 6), V.bl (k == 7), V.bl (k == 8), V.bl (k == 9), V.bl (k == 10), V.bl (k == 11), V.bl (k == 12), V.bl (k == 13), V.bl (k == 14), V.bl (k == 15), V.bl (k == 16)]) n4)
    refine ⟨_, rfl, _, rfl, a, _, dx, _, _, _, _, rfl, S4 _ _ h1, S4 _ _ h2, exc_at A k hk, .own _, kit_own A hk 17 (by decide), _, rfl, a, _, dx, _, _, _, _, rfl, S4 _ _ h1, S4 _ _ h2, exc_at A k hk, .own _, kit_own A hk 18 (by decide), (sz64 (n := 2) (by decide)), fun m4 q4 => ?_⟩
    have T4 := Same.new (o := HO.lst [V.bl (k == 17), V.bl (k == 18)]) q4
    refine ⟨l4, m4, _, _, rfl, rfl, T4 _ _ upd_same, upd_same, (sz64 (n := 19) (by decide)), fun l5 n5 => ?_⟩
    have S5 := (S4.trans T4).trans (Same.new (o := HO.lst [V.bl (k == 0), V.bl (k == 1), V.bl (k == 2), V.bl (k == 3), V.bl (k == 4), V.bl (k == 5), V.bl (k == 6), V.bl (k == 7), V.bl (k == 8), V.bl (k == 9), V.bl (k == 10), V.bl (k == 11), V.bl (k == 12), V.bl (k == 13), V.bl (k == 14), V.bl (k == 15), V.bl (k == 16), V.bl (k == 17), V.bl (k == 18)]) n5)
    have hb : k < 19 := by
      exact hk
    have hL : ∀ i : Nat, i < 19 → atI ([V.bl (k == 0), V.bl (k == 1), V.bl (k == 2), V.bl (k == 3), V.bl (k == 4), V.bl (k == 5), V.bl (k == 6), V.bl (k == 7), V.bl (k == 8), V.bl (k == 9), V.bl (k == 10), V.bl (k == 11), V.bl (k == 12), V.bl (k == 13), V.bl (k == 14), V.bl (k == 15), V.bl (k == 16), V.bl (k == 17), V.bl (k == 18)] : List V) (0 + (i : Int)) = some (V.bl (k == i)) := fun i hi => by
      rw [Int.zero_add]
      exact atI_nat (match i, hi with
        | 0, _ => rfl
        | 1, _ => rfl
        | 2, _ => rfl
        | 3, _ => rfl
        | 4, _ => rfl
        | 5, _ => rfl
        | 6, _ => rfl
        | 7, _ => rfl
        | 8, _ => rfl
        | 9, _ => rfl
        | 10, _ => rfl
        | 11, _ => rfl
        | 12, _ => rfl
        | 13, _ => rfl
        | 14, _ => rfl
        | 15, _ => rfl
        | 16, _ => rfl
        | 17, _ => rfl
        | 18, _ => rfl
        | _ + 19, h => absurd h (by omega))
    refine ⟨19, rfl, by decide, by decide, fun D hD => lc_range (lo := 0) (n := 19) (fun i H1 => H1 = upd _ D (.lst (picked i (k)))) (by rfl) (fun i H1 hi pv => ?_) (fun H1 pv => ?_)⟩
    · subst pv
      refine ⟨rfl, ⟨_, rfl, _, rfl, l5, _, _, _, rfl, rfl, SqL.of (Same.new hD _ _ upd_same), hL i hi, _, rfl, ?_⟩⟩
      rw [picked_step]
      refine ite2 (fun e => ?_) (fun e => ?_)
      · refine ⟨_, rfl, _, upd_same, ?_, ?_⟩
        · refine Nat.lt_of_le_of_lt (m := 1) ?_ (by rw [sizeLine_eq]; decide)
          unfold picked
          split <;> simp
        · rw [upd_upd, if_pos e, Int.zero_add]
      · rw [if_neg e]
    · subst pv
      refine q _ _ (S5.trans (Same.new hD)) ?_
      rw [upd_same]
      unfold picked
      rw [if_pos hb]
theorem sc_law_bases : FnScope [("_law_e" : Str), ("_law_found" : Str), ("_law_k" : Str)] [("_law_e" : Str)] (defScope (top 30)) := ⟨rfl, rfl, rfl, by decide +kernel, rfl, by decide +kernel, by decide +kernel⟩
theorem ok_bases (A : At K mg) : FnOk P w K mg base CX0 1 (ga K "_law_bases") (fdOf K (ga K "_law_bases")) [("_law_e" : Str)] (spOf (baseOf) K) := by
  refine (F_law_bases A).ok sc_law_bases (fun vs H Q E h => ?_) (fun cdv A' outer s H vs Q E hr h => ?_)
  · obtain ⟨k, e, ws, rfl, _⟩ := h
    rfl
  · obtain ⟨k, e, ws, rfl, hk, ⟨a, dx, rfl, h1, h2⟩, q⟩ := h
    refine ⟨_, PSs.nox (pss_cons (ps_set (i := 1) sc_law_bases.nd rfl (by first | exact Or.inl rfl | exact Or.inr rfl) (pe_lst (pa_cons (pe_callB call_isErr rfl (n_isinstance A) (by decide +kernel) (pa_cons (pv 0) (pa_cons (pe_bltn (v := V.ty "ValueError") rfl (n_ValueError A) (by decide +kernel) rfl) pa_nil))) (pa_cons (pe_callB call_isErr rfl (n_isinstance A) (by decide +kernel) (pa_cons (pv 0) (pa_cons (pe_bltn (v := V.ty "TypeError") rfl (n_TypeError A) (by decide +kernel) rfl) pa_nil))) (pa_cons (pe_callB call_isErr rfl (n_isinstance A) (by decide +kernel) (pa_cons (pv 0) (pa_cons (pe_bltn (v := V.ty "LookupError") rfl (n_LookupError A) (by decide +kernel) rfl) pa_nil))) pa_nil)))))
 (pss_cons (ps_set (i := 1) sc_law_bases.nd rfl (by first | exact Or.inl rfl | exact Or.inr rfl) (pe_op op_cat (pv 1) (pe_lst (pa_cons (pe_callB call_isErr rfl (n_isinstance A) (by decide +kernel) (pa_cons (pv 0) (pa_cons (pe_bltn (v := V.ty "OverflowError") rfl (n_OverflowError A) (by decide +kernel) rfl) pa_nil))) (pa_cons (pe_callB call_isErr rfl (n_isinstance A) (by decide +kernel) (pa_cons (pv 0) (pa_cons (pe_bltn (v := V.ty "RuntimeError") rfl (n_RuntimeError A) (by decide +kernel) rfl) pa_nil))) pa_nil)))))
 (pss_one (ps_ret (pe_lc (own := [(("_law_k" : Str), 2)]) (g := gName 2) rfl sc_law_bases.nd (pi_range1 rfl (n_range A) (pa_cons pe_int pa_nil)) (blkOk_by (own := [(("_law_k" : Str), 2)]) (N := [("_law_e" : Str), ("_law_found" : Str), ("_law_k" : Str)]) (sc := (defScope (top 30))) (by decide +kernel)) (fun _ _ _ _ _ => (pg_name (i := 2) sc_law_bases.nd rfl (by first | exact Or.inl rfl | exact Or.inr rfl))) (fun _ _ _ _ _ => (pts_one (pt_val (pe_ix (show IxR _ (rIxL K) from ix_list) (pv 1) (pv 2) (fun _ _ => rfl))))) (fun _ _ _ _ _ => (pv 2))))))), ?_⟩
    refine ⟨_, rfl, a, _, dx, _, _, _, _, rfl, h1, h2, exc_at A k hk, .ty _, kit_base A hk 0 (by decide), _, rfl, a, _, dx, _, _, _, _, rfl, h1, h2, exc_at A k hk, .ty _, kit_base A hk 1 (by decide), _, rfl, a, _, dx, _, _, _, _, rfl, h1, h2, exc_at A k hk, .ty _, kit_base A hk 2 (by decide), (sz64 (n := 3) (by decide)), fun l0 n0 => ?_⟩
    have S0 : Same H _ := Same.new (o := HO.lst [V.bl (0 == baseOf k), V.bl (1 == baseOf k), V.bl (2 == baseOf k)]) n0
    refine ⟨_, rfl, _, rfl, a, _, dx, _, _, _, _, rfl, S0 _ _ h1, S0 _ _ h2, exc_at A k hk, .ty _, kit_base A hk 3 (by decide), _, rfl, a, _, dx, _, _, _, _, rfl, S0 _ _ h1, S0 _ _ h2, exc_at A k hk, .ty _, kit_base A hk 4 (by decide), (sz64 (n := 2) (by decide)), fun m0 q0 => ?_⟩
    have T0 := Same.new (o := HO.lst [V.bl (3 == baseOf k), V.bl (4 == baseOf k)]) q0
    refine ⟨l0, m0, _, _, rfl, rfl, T0 _ _ upd_same, upd_same, (sz64 (n := 5) (by decide)), fun l1 n1 => ?_⟩
    have S1 := (S0.trans T0).trans (Same.new (o := HO.lst [V.bl (0 == baseOf k), V.bl (1 == baseOf k), V.bl (2 == baseOf k), V.bl (3 == baseOf k), V.bl (4 == baseOf k)]) n1)
    have hb : baseOf k < 5 := by
      unfold baseOf; split <;> (try split) <;> (try split) <;> (try split) <;> omega
    have hL : ∀ i : Nat, i < 5 → atI ([V.bl (0 == baseOf k), V.bl (1 == baseOf k), V.bl (2 == baseOf k), V.bl (3 == baseOf k), V.bl (4 == baseOf k)] : List V) (0 + (i : Int)) = some (V.bl (baseOf k == i)) := fun i hi => by
      rw [Int.zero_add]
      exact atI_nat (match i, hi with
        | 0, _ => congrArg (fun z => some (V.bl z)) (BEq.comm (a := 0) (b := baseOf k))
        | 1, _ => congrArg (fun z => some (V.bl z)) (BEq.comm (a := 1) (b := baseOf k))
        | 2, _ => congrArg (fun z => some (V.bl z)) (BEq.comm (a := 2) (b := baseOf k))
        | 3, _ => congrArg (fun z => some (V.bl z)) (BEq.comm (a := 3) (b := baseOf k))
        | 4, _ => congrArg (fun z => some (V.bl z)) (BEq.comm (a := 4) (b := baseOf k))
        | _ + 5, h => absurd h (by omega))
    refine ⟨5, rfl, by decide, by decide, fun D hD => lc_range (lo := 0) (n := 5) (fun i H1 => H1 = upd _ D (.lst (picked i (baseOf k)))) (by rfl) (fun i H1 hi pv => ?_) (fun H1 pv => ?_)⟩
    · subst pv
      refine ⟨rfl, ⟨_, rfl, _, rfl, l1, _, _, _, rfl, rfl, SqL.of (Same.new hD _ _ upd_same), hL i hi, _, rfl, ?_⟩⟩
      rw [picked_step]
      refine ite2 (fun e => ?_) (fun e => ?_)
      · refine ⟨_, rfl, _, upd_same, ?_, ?_⟩
        · refine Nat.lt_of_le_of_lt (m := 1) ?_ (by rw [sizeLine_eq]; decide)
          unfold picked
          split <;> simp
        · rw [upd_upd, if_pos e, Int.zero_add]
      · rw [if_neg e]
    · subst pv
      refine q _ _ (S1.trans (Same.new hD)) ?_
      rw [upd_same]
      unfold picked
      rw [if_pos hb]
def spEqual (K : PySem.W.Frag) : Sp := fun vs0 H Q _ => ∃ (a b : Addr) (vs : List V) (ds : List PyData), vs0 = [.ref a, .ref b] ∧ H a = some (.tup vs) ∧ H b = some (.tup vs) ∧ ThAll H vs ds ∧ vs.length ≤ 8 ∧ ∀ H', Same H H' → Q (.bl true) H'
theorem _root_.L2.ThAll.get {H : Hp} {vs : List V} {ds : List PyData} (h : ThAll H vs ds) : ∀ {i : Nat} {v : V}, vs[i]? = some v → ∃ d, Th H v d := by
  induction h with
  | nil => intro i v e; cases e
  | cons a _ ih =>
    intro i v e
    cases i with
    | zero => cases e; exact ⟨_, a⟩
    | succ i => exact ih e
theorem dp_bools {K : PySem.W.Frag} {H : Hp} : ∀ vs : List V, DpAll K H (vs.map fun v => V.bl (isB v)) (vs.map fun v => PyData.bool (isB v))
  | [] => .nil
  | _ :: vs => .cons (.bl _) (dp_bools vs)
theorem plain_bools : ∀ vs : List V, PyData.plainAll (vs.map fun v => PyData.bool (isB v)) = true ∧ PyData.depthAll (vs.map fun v => PyData.bool (isB v)) ≤ 1
  | [] => ⟨rfl, Nat.zero_le _⟩
  | v :: vs => ⟨by rw [List.map_cons, PyData.plainAll, (plain_bools vs).1]; rfl, by rw [List.map_cons, PyData.depthAll]; exact Nat.max_le.mpr ⟨by simp [PyData.depth], (plain_bools vs).2⟩⟩
theorem sc_law_equal : FnScope [("_law_told" : Str), ("_law_due" : Str), ("_law_one" : Str)] [("_law_told" : Str), ("_law_due" : Str)] (defScope (top 31)) := ⟨rfl, rfl, rfl, by decide +kernel, rfl, by decide +kernel, by decide +kernel⟩
theorem ok_equal (A : At K mg) : FnOk P w K mg base CX0 1 (ga K "_law_equal") (fdOf K (ga K "_law_equal")) [("_law_told" : Str), ("_law_due" : Str)] (spEqual K) := by
  refine (F_law_equal A).ok sc_law_equal (fun vs H Q E h => ?_) (fun cdv A' outer s H vs Q E hr h => ?_)
  · obtain ⟨a, b, vs, ds, rfl, _⟩ := h
    rfl
  · obtain ⟨a, b, vs, ds, rfl, ha, hb, hT, hl, q⟩ := h
    refine ⟨_, PSs.nox (pss_cons (ps_if (pt_cmpR (op_neP hr.units) (pv 0) (pv 1) (nomark _)) (pss_one (ps_ret pe_bl)) pss_nil)
 (pss_one (ps_ret (pe_cmpR (op_eqP hr.units) (pe_lc (own := [(("_law_one" : Str), 2)]) (g := gName 2) rfl sc_law_equal.nd (pi_tup (pv 0)) (blkOk_by (own := [(("_law_one" : Str), 2)]) (N := [("_law_told" : Str), ("_law_due" : Str), ("_law_one" : Str)]) (sc := (defScope (top 31))) (by decide +kernel)) (fun _ _ _ _ _ => (pg_name (i := 2) sc_law_equal.nd rfl (by first | exact Or.inl rfl | exact Or.inr rfl))) (fun _ _ _ _ _ => pts_nil) (fun _ _ _ _ _ => (pe_callB (show CallR _ _ (rIsi K) from call_isi) rfl (n_isinstance A) (by decide +kernel) (pa_cons (pv 2) (pa_cons (pe_bltn (v := V.ty "bool") rfl (n_bool A) (by decide +kernel) rfl) pa_nil))))) (pe_lc (own := [(("_law_one" : Str), 2)]) (g := gName 2) rfl sc_law_equal.nd (pi_tup (pv 1)) (blkOk_by (own := [(("_law_one" : Str), 2)]) (N := [("_law_told" : Str), ("_law_due" : Str), ("_law_one" : Str)]) (sc := (defScope (top 31))) (by decide +kernel)) (fun _ _ _ _ _ => (pg_name (i := 2) sc_law_equal.nd rfl (by first | exact Or.inl rfl | exact Or.inr rfl))) (fun _ _ _ _ _ => pts_nil) (fun _ _ _ _ _ => (pe_callB (show CallR _ _ (rIsi K) from call_isi) rfl (n_isinstance A) (by decide +kernel) (pa_cons (pv 2) (pa_cons (pe_bltn (v := V.ty "bool") rfl (n_bool A) (by decide +kernel) rfl) pa_nil))))) (nomark _))))), ?_⟩
    refine ⟨_, rfl, _, rfl, _, _, .tup (SqT.of ha) hT.dp, .tup (SqT.of hb) hT.dp, hT.plain.1, hT.plain.1, ?_, _, rfl, ?_⟩
    · rw [PyData.depth]; have := hT.plain.2; omega
    rw [SeqAt.eqv_refl_plain (.tuple ds) hT.plain.1]
    refine iteF ?_
    refine ⟨_, rfl, a, rfl, ⟨_, SqT.of (Same.refl H _ _ ha)⟩, fun D nD => lc_tup (K := K) (a := a) (xs := vs) (fun i H1 => H1 = upd _ D (.lst ((vs.take i).map fun v => V.bl (isB v)))) (by rw [List.take_zero]; rfl) (fun i H1 hi pv => ?_) (fun i x H1 hx pv => ?_) (fun H1 pv => ?_)⟩
    · subst pv
      exact SqT.of (((Same.refl H).trans (Same.new nD)) _ _ ha)
    · subst pv
      obtain ⟨d, hd⟩ := hT.get hx
      obtain ⟨t, ht, hk⟩ := Th.isB (K := K) (hd.same ((Same.refl H).trans (Same.new (o := .lst ((vs.take i).map fun v => V.bl (isB v))) nD)))
      have hi : i < vs.length := (List.getElem?_eq_some_iff.mp hx).1
      refine ⟨rfl, ⟨_, rfl, _, _, _, _, _, rfl, .ty _, ht, hk, _, upd_same, ?_, ?_⟩⟩
      · rw [List.length_map, List.length_take]
        exact Nat.lt_of_le_of_lt (Nat.min_le_right _ _) (Nat.lt_of_le_of_lt hl (by rw [sizeLine_eq]; decide))
      · rw [upd_upd, List.take_succ, hx, List.map_append]
        rfl
    subst pv
    rw [List.take_length]
    have S1 : Same H _ := Same.new (o := .lst (vs.map fun v => V.bl (isB v))) nD
    refine ⟨_, rfl, b, rfl, ⟨_, SqT.of (S1 _ _ hb)⟩, fun E2 nE2 => lc_tup (K := K) (a := b) (xs := vs) (fun i H1 => H1 = upd _ E2 (.lst ((vs.take i).map fun v => V.bl (isB v)))) (by rw [List.take_zero]; rfl) (fun i H1 hi pv => ?_) (fun i x H1 hx pv => ?_) (fun H1 pv => ?_)⟩
    · subst pv
      exact SqT.of (((S1).trans (Same.new nE2)) _ _ hb)
    · subst pv
      obtain ⟨d, hd⟩ := hT.get hx
      obtain ⟨t, ht, hk⟩ := Th.isB (K := K) (hd.same ((S1).trans (Same.new (o := .lst ((vs.take i).map fun v => V.bl (isB v))) nE2)))
      have hi : i < vs.length := (List.getElem?_eq_some_iff.mp hx).1
      refine ⟨rfl, ⟨_, rfl, _, _, _, _, _, rfl, .ty _, ht, hk, _, upd_same, ?_, ?_⟩⟩
      · rw [List.length_map, List.length_take]
        exact Nat.lt_of_le_of_lt (Nat.min_le_right _ _) (Nat.lt_of_le_of_lt hl (by rw [sizeLine_eq]; decide))
      · rw [upd_upd, List.take_succ, hx, List.map_append]
        rfl
    subst pv
    rw [List.take_length]
    refine ⟨.list (vs.map fun v => PyData.bool (isB v)), .list (vs.map fun v => PyData.bool (isB v)), .lst (SqL.of (Same.new nE2 _ _ upd_same)) (dp_bools vs), .lst (SqL.of upd_same) (dp_bools vs), (plain_bools vs).1, (plain_bools vs).1, ?_, ?_⟩
    · rw [PyData.depth]; have := (plain_bools vs).2; omega
    rw [SeqAt.eqv_refl_plain (.list _) (plain_bools vs).1]
    exact q _ (S1.trans (Same.new nE2))
end
end K96

set_option Elab.async false
set_option linter.all false
set_option maxRecDepth 100000
set_option maxHeartbeats 4000000
namespace K96
open PySem PySem.Spec PyProof.Rows L2 He Hm
def spLaw (K : PySem.W.Frag) : Sp := fun vs H Q _ => ∃ (a : Addr) (ns : List Int), vs = [.ref a] ∧ SqL K H a (ns.map V.int) ∧ ns.length ≤ 63 ∧ ∀ H', Q (.bl true) H'
section
variable {P : Program} {w : World} {K : PySem.W.Frag} {mg : Str → Option Value} {base : Heap}
theorem args_len (x y z t : V) : ∀ k : Nat, k < 19 → (argsOf k x y z t).length = (psOf k).length
  | 0, _ => rfl
  | 1, _ => rfl
  | 2, _ => rfl
  | 3, _ => rfl
  | 4, _ => rfl
  | 5, _ => rfl
  | 6, _ => rfl
  | 7, _ => rfl
  | 8, _ => rfl
  | 9, _ => rfl
  | 10, _ => rfl
  | 11, _ => rfl
  | 12, _ => rfl
  | 13, _ => rfl
  | 14, _ => rfl
  | 15, _ => rfl
  | 16, _ => rfl
  | 17, _ => rfl
  | 18, _ => rfl
  | _ + 19, h => absurd h (by omega)
theorem nargs_len (x y : V) : ∀ k : Nat, k < 19 → (nargs k x y).length = (psOf k).length
  | 0, _ => rfl
  | 1, _ => rfl
  | 2, _ => rfl
  | 3, _ => rfl
  | 4, _ => rfl
  | 5, _ => rfl
  | 6, _ => rfl
  | 7, _ => rfl
  | 8, _ => rfl
  | 9, _ => rfl
  | 10, _ => rfl
  | 11, _ => rfl
  | 12, _ => rfl
  | 13, _ => rfl
  | 14, _ => rfl
  | 15, _ => rfl
  | 16, _ => rfl
  | 17, _ => rfl
  | 18, _ => rfl
  | _ + 19, h => absurd h (by omega)
theorem args_th {H : Hp} {x y z t : V} {dx dy dz dt : PyData} (hx : Th H x dx) (hy : Th H y dy) (hz : Th H z dz) (ht : Th H t dt) (k : Nat) : ∃ ds, ThAll H (argsOf k x y z t) ds := by
  unfold argsOf
  split
  · exact ⟨_, .cons hx (.cons hy .nil)⟩
  · split
    · exact ⟨_, .cons hx (.cons hy (.cons hz (.cons ht (.cons .non .nil))))⟩
    · exact ⟨_, .cons hx .nil⟩
theorem nargs_th {H : Hp} {x y : V} {dx dy : PyData} (hx : Th H x dx) (hy : Th H y dy) (k : Nat) : ∃ ds, ThAll H (nargs k x y) ds := by
  unfold nargs
  split
  · exact ⟨_, .cons hx (.cons hy .nil)⟩
  · split
    · exact ⟨_, .cons hy (.cons hx (.cons hy (.cons hx (.cons hy .nil))))⟩
    · exact ⟨_, .cons hx .nil⟩
theorem args_few (x y z t : V) (k : Nat) : (argsOf k x y z t).length ≤ 8 := by
  unfold argsOf
  split
  · exact (by decide : 2 ≤ 8)
  · split
    · exact (by decide : 5 ≤ 8)
    · exact (by decide : 1 ≤ 8)
theorem nargs_few (x y : V) (k : Nat) : (nargs k x y).length ≤ 8 := by
  unfold nargs
  split
  · exact (by decide : 2 ≤ 8)
  · split
    · exact (by decide : 5 ≤ 8)
    · exact (by decide : 1 ≤ 8)
theorem nargs_args (x y z t : V) {k : Nat} (h : k ≠ 14) : nargs k x y = argsOf k x y z t := by
  unfold nargs argsOf
  rw [if_neg h, if_neg h]
theorem nargs_14 (x y : V) : nargs 14 x y = [y, x, y, x, y] := rfl
theorem base_count : ∀ i : Nat, i < 19 → ([decide ((i : Int) ≥ 5), decide ((i : Int) ≥ 8), decide ((i : Int) ≥ 12), decide ((i : Int) ≥ 14)] : List Bool).count true = baseOf i := by decide +kernel
theorem one_depth (i : Int) : (PyData.list [.int i]).depth ≤ 64 := by simp [PyData.depth, PyData.depthAll]
theorem sc_law : FnScope [("_law_script" : Str), ("_law_pot_here" : Str), ("_law_x" : Str), ("_law_y" : Str), ("_law_z" : Str), ("_law_t" : Str), ("_law_turn" : Str), ("_law_k" : Str), ("_law_made_here" : Str), ("_law_due" : Str), ("_law_again" : Str), ("_law_same" : Str), ("_law_base" : Str), ("_law_one" : Str)] [("_law_script" : Str)] (defScope (top 32)) := ⟨rfl, rfl, rfl, by decide +kernel, rfl, by decide +kernel, by decide +kernel⟩
theorem ok_law (A : At K mg) : FnOk PySem.Challenge.pw_markedblocks_k96_errors_made w K mg base CX0 4 (ga K "law") (fdOf K (ga K "law")) [("_law_script" : Str)] (spLaw K) := by
  refine (F_law A).ok sc_law (fun vs H Q E h => ?_) (fun cdv A' outer s H vs Q E hr h => ?_)
  · obtain ⟨a, ns, rfl, _⟩ := h
    rfl
  · obtain ⟨a, ns, rfl, hl, hlen, q⟩ := h
    refine ⟨_, PSs.nox (pss_cons (ps_set (i := 1) sc_law.nd rfl (by first | exact Or.inl rfl | exact Or.inr rfl) (pe_call (ok_pot A) (hr.mono (by decide)) rfl (g__law_pot A) (F_law_pot A).kp (b_law_pot A) .nil pass0 (pa_cons (pv 0) pa_nil)))
 (pss_cons (ps_asg (pe_lc (own := [(("_law_turn" : Str), 6)]) (g := gName 6) rfl sc_law.nd (pi_range1 rfl (n_range A) (pa_cons pe_int pa_nil)) (blkOk_by (own := [(("_law_turn" : Str), 6)]) (N := [("_law_script" : Str), ("_law_pot_here" : Str), ("_law_x" : Str), ("_law_y" : Str), ("_law_z" : Str), ("_law_t" : Str), ("_law_turn" : Str), ("_law_k" : Str), ("_law_made_here" : Str), ("_law_due" : Str), ("_law_again" : Str), ("_law_same" : Str), ("_law_base" : Str), ("_law_one" : Str)]) (sc := (defScope (top 32))) (by decide +kernel)) (fun _ _ _ _ _ => (pg_name (i := 6) sc_law.nd rfl (by first | exact Or.inl rfl | exact Or.inr rfl))) (fun _ _ _ _ _ => pts_nil) (fun _ _ _ _ _ => (pe_call (ok_thing A) (hr.mono (by decide)) rfl (g__law_thing A) (F_law_thing A).kp (b_law_thing A) .nil pass0 (pa_cons (pv 1) pa_nil)))) (pg_lst rfl (pgs_cons (pg_name (i := 2) sc_law.nd rfl (by first | exact Or.inl rfl | exact Or.inr rfl)) (pgs_cons (pg_name (i := 3) sc_law.nd rfl (by first | exact Or.inl rfl | exact Or.inr rfl)) (pgs_cons (pg_name (i := 4) sc_law.nd rfl (by first | exact Or.inl rfl | exact Or.inr rfl)) (pgs_cons (pg_name (i := 5) sc_law.nd rfl (by first | exact Or.inl rfl | exact Or.inr rfl)) pgs_nil))))))
 (pss_cons (ps_for PassesOwn.never rfl (pi_range1 rfl (n_range A) (pa_cons pe_int pa_nil)) (pg_name (i := 7) sc_law.nd rfl (by first | exact Or.inl rfl | exact Or.inr rfl))
 (pss_cons (ps_if (pt_cmpR op_lt (pv 7) pe_int (nomark _)) (pss_one (ps_asg (pe_call (ok_made A) (hr.mono (by decide)) rfl (g__law_made A) (F_law_made A).kp (b_law_made A) .nil pass0 (pa_cons (pv 7) (pa_cons (pv 2) (pa_cons (pv 3) (pa_cons (pv 4) (pa_cons (pv 5) pa_nil)))))) (pg_tup rfl (pgs_cons (pg_name (i := 8) sc_law.nd rfl (by first | exact Or.inl rfl | exact Or.inr rfl)) (pgs_cons (pg_name (i := 9) sc_law.nd rfl (by first | exact Or.inl rfl | exact Or.inr rfl)) pgs_nil))))) (pss_one (ps_asg (pe_call (ok_more_made A) (hr.mono (by decide)) rfl (g__law_more_made A) (F_law_more_made A).kp (b_law_more_made A) .nil pass0 (pa_cons (pv 7) (pa_cons (pv 2) (pa_cons (pv 3) (pa_cons (pv 4) (pa_cons (pv 5) pa_nil)))))) (pg_tup rfl (pgs_cons (pg_name (i := 8) sc_law.nd rfl (by first | exact Or.inl rfl | exact Or.inr rfl)) (pgs_cons (pg_name (i := 9) sc_law.nd rfl (by first | exact Or.inl rfl | exact Or.inr rfl)) pgs_nil))))))
 (pss_cons (ps_set (i := 10) sc_law.nd rfl (by first | exact Or.inl rfl | exact Or.inr rfl) (pe_call (ok_named A) (hr.mono (by decide)) rfl (g__law_named A) (F_law_named A).kp (b_law_named A) .nil pass0 (pa_cons (pv 7) (pa_cons (pv 2) (pa_cons (pv 3) pa_nil)))))
 (pss_cons (ps_set (i := 11) sc_law.nd rfl (by first | exact Or.inl rfl | exact Or.inr rfl) (pv 9))
 (pss_cons (ps_if (pt_cmpR op_eq (pv 7) pe_int (nomark _)) (pss_one (ps_set (i := 11) sc_law.nd rfl (by first | exact Or.inl rfl | exact Or.inr rfl) (pe_tup (pa_cons (pv 3) (pa_cons (pv 2) (pa_cons (pv 3) (pa_cons (pv 2) (pa_cons (pv 3) pa_nil)))))))) pss_nil)
 (pss_cons (ps_if (pt_not (pt_val (pe_call (ok_equal A) (hr.mono (by decide)) rfl (g__law_equal A) (F_law_equal A).kp (b_law_equal A) .nil pass0 (pa_cons (pe_call (ok_fields A) (hr.mono (by decide)) rfl (g__law_fields A) (F_law_fields A).kp (b_law_fields A) .nil pass0 (pa_cons (pv 7) (pa_cons (pv 8) pa_nil))) (pa_cons (pv 9) pa_nil))))) (pss_one (ps_ret pe_bl)) pss_nil)
 (pss_cons (ps_if (pt_not (pt_val (pe_call (ok_equal A) (hr.mono (by decide)) rfl (g__law_equal A) (F_law_equal A).kp (b_law_equal A) .nil pass0 (pa_cons (pe_call (ok_fields A) (hr.mono (by decide)) rfl (g__law_fields A) (F_law_fields A).kp (b_law_fields A) .nil pass0 (pa_cons (pv 7) (pa_cons (pv 10) pa_nil))) (pa_cons (pv 11) pa_nil))))) (pss_one (ps_ret pe_bl)) pss_nil)
 (pss_cons (ps_set (i := 12) sc_law.nd rfl (by first | exact Or.inl rfl | exact Or.inr rfl) (pe_bm PySem.F.plainAttrs_list PySem.F.slot_list_count PySem.F.type_list_count mt_lcountB (pe_lst (pa_cons (pe_cmpR op_ge (pv 7) pe_int (nomark _)) (pa_cons (pe_cmpR op_ge (pv 7) pe_int (nomark _)) (pa_cons (pe_cmpR op_ge (pv 7) pe_int (nomark _)) (pa_cons (pe_cmpR op_ge (pv 7) pe_int (nomark _)) pa_nil))))) (pa_cons pe_bl pa_nil)))
 (pss_one (ps_for PassesOwn.never rfl (pi_list (pe_lst (pa_cons (pv 8) (pa_cons (pv 10) pa_nil)))) (pg_name (i := 13) sc_law.nd rfl (by first | exact Or.inl rfl | exact Or.inr rfl))
 (pss_one (ps_if (PW.pt (pw_or (pt_cmpR (op_neP hr.units) (pe_call (ok_classes A) (hr.mono (by decide)) rfl (g__law_classes A) (F_law_classes A).kp (b_law_classes A) .nil pass0 (pa_cons (pv 13) pa_nil)) (pe_lst (pa_cons (pv 7) pa_nil)) (nomark _)) (pw_or1 (pt_cmpR (op_neP hr.units) (pe_call (ok_bases A) (hr.mono (by decide)) rfl (g__law_bases A) (F_law_bases A).kp (b_law_bases A) .nil pass0 (pa_cons (pv 13) pa_nil)) (pe_lst (pa_cons (pv 12) pa_nil)) (nomark _))))) (pss_one (ps_ret pe_bl)) pss_nil))))))))))))
 (pss_one (ps_ret (pe_cmpR op_notN (pe_erF (pe_er (ET_Refused A) hr.dd (B_Refused A) rfl (g_Refused A) (pa_cons (pv 2) (pa_cons (pv 3) (pa_cons (pv 4) (pa_cons (pv 5) (pa_cons (pv 8) pa_nil)))))) rfl) pe_non (nomark _))))))), ?_⟩
    refine ⟨_, rfl, a, ns, rfl, hl, hlen, fun p H1 s1 np hp => ?_⟩
    refine ⟨4, rfl, by decide, by decide, fun D nD => lc_range (lo := 0) (n := 4) (fun i H2 => ∃ vs ds, vs.length = i ∧ ThAll H2 vs ds ∧ (∀ v ∈ vs, ∀ b, v = .ref b → b ≠ D) ∧ H2 D = some (.lst vs) ∧ Same H1 H2) ⟨[], [], rfl, .nil, (fun _ z => nomatch z), upd_same, Same.new nD⟩ (fun i H2 hi pv => ?_) (fun H2 pv => ?_)⟩
    · obtain ⟨vs, ds, hv, hT, hne, hD, S⟩ := pv
      refine ⟨rfl, ⟨_, rfl, p, rfl, hp.same S, fun v d H3 S3 hd hf => ⟨vs, S3 _ _ hD, ?_, vs ++ [v], ds ++ [d], ?_, ?_, ?_, upd_same, ?_⟩⟩⟩
      · exact Nat.lt_of_lt_of_le (m := 64) (by omega) (sz64 (n := 64) (by decide))
      · rw [List.length_append, hv]; rfl
      · have hvD : ∀ b, v = .ref b → b ≠ D := fun b z z2 => by
          have z3 := hf b z
          rw [z2, hD] at z3
          cases z3
        exact ((hT.same S3).upd hne).snoc (hd.upd hvD)
      · intro u m b z
        rcases List.mem_append.mp m with m | m
        · exact hne u m b z
        · cases List.mem_singleton.mp m
          intro z2
          have z3 := hf b z
          rw [z2, hD] at z3
          cases z3
      · intro b u z
        have z2 : b ≠ D := ne_of_none z nD
        rw [upd_ne z2]
        exact S3 _ _ (S _ _ z)
    obtain ⟨vs, ds, hv, hT, _, hD, S⟩ := pv
    cases hT with
    | nil => cases hv
    | @cons x d1 _ _ hx hT =>
    cases hT with
    | nil => cases hv
    | @cons y d2 _ _ hy hT =>
    cases hT with
    | nil => cases hv
    | @cons z d3 _ _ hz hT =>
    cases hT with
    | nil => cases hv
    | @cons t d4 _ _ ht hT =>
    cases hT with
    | cons => cases hv
    | nil =>
    refine ⟨D, _, rfl, SqL.of hD, rfl, x, _, rfl, y, _, rfl, z, _, rfl, t, _, rfl, rfl, ?_⟩
    -- the loop over the classes
    refine ⟨19, rfl, by decide, by decide, for_range (lo := 0) (n := 19) (fun i σ H' => Same H2 H' ∧ ∃ e6 e7 e8 e9 e10 e11 e12 e13 : Option V, σ = [some (.ref a), some (.ref p), some x, some y, some z, some t, e6, e7, e8, e9, e10, e11, e12, e13] ∧ (0 < i → ∃ b, e8 = some (.ref b)))
      ⟨Same.refl H2, _, _, _, _, _, _, _, _, rfl, fun z => absurd z (by decide)⟩ (fun i σ H3 hi pv => ?_) (fun σ H3 pv => ?_)⟩
    rotate_left
    · obtain ⟨S, e6, e7, e8, e9, e10, e11, e12, e13, rfl, hb⟩ := pv
      obtain ⟨b, rfl⟩ := hb (by decide)
      refine ⟨_, rfl, _, rfl, _, rfl, _, rfl, _, rfl, rfl, rfl, by decide, fun a5 dx na nd ne => ⟨a5, _, dx, _, .ref b, rfl, upd_same, by rw [upd_ne ne]; exact upd_same, (ET_Refused A).isC, (ET_Refused A).no "cause" (by decide +kernel), rfl, rfl, q _⟩⟩
    obtain ⟨S, e6, e7, e8, e9, e10, e11, e12, e13, rfl, hb⟩ := pv
    rw [Int.zero_add]
    refine ⟨_, rfl, _, _, rfl, rfl, _, rfl, ite2 (fun e => ?_) (fun e => ?_)⟩
    · have e : (i : Int) < 9 := of_decide_eq_true e
      refine ⟨_, rfl, _, rfl, _, rfl, _, rfl, _, rfl, i, x, y, z, t, rfl, by omega, by omega, fun m r d H4 S4 hm hr4 hd4 => ⟨r, _, rfl, SqT.of hr4, rfl, _, _, rfl, _, _, rfl, rfl, ?_⟩⟩
      refine ⟨_, rfl, _, rfl, _, rfl, i, x, y, rfl, hi, fun g H5 S5 hg => ?_⟩
      refine ⟨_, rfl, ?_⟩
      refine ⟨_, rfl, rfl, _, rfl, ite2 (fun e => ?CA) (fun e => ?DA)⟩
      case' CA =>
        have e14 : i = 14 := by have := int_eq e; omega
        refine ⟨_, rfl, _, rfl, _, rfl, _, rfl, _, rfl, (sz64 (n := 5) (by decide)), fun u nu => ?_⟩
        have S6 : Same H5 _ := Same.new (o := .tup [y, x, y, x, y]) nu
        have hsm : upd H5 u (.tup [y, x, y, x, y]) u = some (.tup (nargs i x y)) := by rw [e14]; exact upd_same
      case' DA =>
        have e14 : i ≠ 14 := by have := int_ne e; omega
        have S6 := Same.refl H5
        have hsm : H5 d = some (.tup (nargs i x y)) := by rw [nargs_args x y z t e14]; exact S5 _ _ hd4
      all_goals
        -- not equal(fields(k, made_here), due)
        have T5 := S4.trans (S5.trans S6)
        obtain ⟨ds, hds⟩ := args_th hx hy hz ht i
        obtain ⟨ns2, hns⟩ := nargs_th hx hy i
        refine ⟨_, rfl, _, rfl, i, m, _, rfl, hi, (hm.same S5).same S6, args_len x y z t i hi, fun r1 H7 S7 h7 => ⟨_, rfl, r1, d, _, ds, rfl, h7, S7 _ _ (S6 _ _ (S5 _ _ hd4)), hds.same (S.trans (T5.trans S7)), args_few x y z t i, fun H8 S8 => ?_⟩⟩
        refine ⟨_, rfl, iteF ?_⟩
        refine ⟨_, rfl, _, rfl, i, g, _, rfl, hi, ((hg.same S6).same S7).same S8, nargs_len x y i hi, fun r2 H9 S9 h9 => ⟨_, rfl, r2, _, _, ns2, rfl, h9, S9 _ _ (S8 _ _ (S7 _ _ hsm)), hns.same (S.trans (T5.trans (S7.trans (S8.trans S9)))), nargs_few x y i, fun H10 S10 => ?_⟩⟩
        refine ⟨_, rfl, iteF ?_⟩
        -- the base
        refine ⟨_, rfl, _, _, rfl, rfl, _, rfl, _, _, rfl, rfl, _, rfl, _, _, rfl, rfl, _, rfl, _, _, rfl, rfl, (sz64 (n := 4) (by decide)), fun l1 nl1 => ⟨.inl ⟨rfl, _, SqL.of upd_same⟩, ?_⟩⟩
        refine ⟨l1, [decide ((i : Int) ≥ 5), decide ((i : Int) ≥ 8), decide ((i : Int) ≥ 12), decide ((i : Int) ≥ 14)], true, rfl, rfl, SqL.of upd_same, ?_⟩
        rw [show (([decide ((i : Int) ≥ 5), decide ((i : Int) ≥ 8), decide ((i : Int) ≥ 12), decide ((i : Int) ≥ 14)] : List Bool).count true) = baseOf i from base_count i hi]
        -- for one in [made_here, again]
        have S11 := Same.new (o := .lst [V.bl (decide ((i : Int) ≥ 5)), V.bl (decide ((i : Int) ≥ 8)), V.bl (decide ((i : Int) ≥ 12)), V.bl (decide ((i : Int) ≥ 14))]) nl1
        refine ⟨_, rfl, _, rfl, (sz64 (n := 2) (by decide)), fun l2 nl2 => ⟨l2, rfl, ⟨_, SqL.of upd_same⟩, for_list (K := K) (a := l2) (xs := [m, g]) (fun j σ H' => Same H10 H' ∧ H' l2 = some (.lst [m, g]) ∧ ∃ e9 e10 e11 e13 : Option V, σ = [some (.ref a), some (.ref p), some x, some y, some z, some t, e6, some (.int (i : Int)), some m, e9, e10, e11, some (.int (baseOf i : Nat)), e13])
          ⟨S11.trans (Same.new nl2), upd_same, _, _, _, _, rfl⟩ (fun j σ H' _ pv => SqL.of pv.2.1) (fun j one σ H' hx pv => ?_) (fun σ H' pv => ?_)⟩⟩
        rotate_left
        · obtain ⟨S12, _, e9, e10, e11, e13, rfl⟩ := pv
          obtain ⟨ma, _, hmr, _⟩ := hm
          exact ⟨S.trans (T5.trans (S7.trans (S8.trans (S9.trans (S10.trans S12))))), _, _, _, _, _, _, _, _, rfl, fun _ => ⟨ma, by rw [hmr]⟩⟩
        obtain ⟨S12, hl2, e9, e10, e11, e13, rfl⟩ := pv
        obtain ⟨ws, hw⟩ : ∃ ws, ErrAt K H' one i ws := by
          match j, hx with
          | 0, hx => cases hx; exact ⟨_, ((((((hm.same S5).same S6).same S7).same S8).same S9).same S10).same S12⟩
          | 1, hx => cases hx; exact ⟨_, (((((hg.same S6).same S7).same S8).same S9).same S10).same S12⟩
        refine ⟨_, rfl, i, one, ws, rfl, hi, hw, fun r3 H13 S13 h13 => ⟨_, rfl, (sz64 (n := 1) (by decide)), fun l3 nl3 => ⟨.list [.int i], .list [.int i], .lst (SqL.of (Same.new nl3 _ _ h13)) (.cons (.int _) .nil), .lst (SqL.of upd_same) (.cons (.int _) .nil), rfl, rfl, one_depth _, ?_⟩⟩⟩
        rw [SeqAt.eqv_refl_plain (.list [.int (i : Int)]) rfl]
        refine ⟨_, rfl, iteF ?_⟩
        refine ⟨_, rfl, i, one, ws, rfl, hi, (hw.same S13).same (Same.new nl3), fun r4 H14 S14 h14 => ⟨_, rfl, (sz64 (n := 1) (by decide)), fun l4 nl4 => ⟨.list [.int (baseOf i : Nat)], .list [.int (baseOf i : Nat)], .lst (SqL.of (Same.new nl4 _ _ h14)) (.cons (.int _) .nil), .lst (SqL.of upd_same) (.cons (.int _) .nil), rfl, rfl, one_depth _, ?_⟩⟩⟩
        rw [SeqAt.eqv_refl_plain (.list [.int (baseOf i : Nat)]) rfl]
        refine ⟨_, rfl, iteF ?_⟩
        have S15 := S13.trans ((Same.new (o := .lst [V.int (i : Int)]) nl3).trans (S14.trans (Same.new (o := .lst [V.int (baseOf i : Nat)]) nl4)))
        exact ⟨S12.trans S15, S15 _ _ hl2, _, _, _, _, rfl⟩
    · have e : ¬ (i : Int) < 9 := fun z => e (decide_eq_true z)
      refine ⟨_, rfl, _, rfl, _, rfl, _, rfl, _, rfl, i, x, y, z, t, rfl, by omega, by omega, fun m r d H4 S4 hm hr4 hd4 => ⟨r, _, rfl, SqT.of hr4, rfl, _, _, rfl, _, _, rfl, rfl, ?_⟩⟩
      refine ⟨_, rfl, _, rfl, _, rfl, i, x, y, rfl, hi, fun g H5 S5 hg => ?_⟩
      refine ⟨_, rfl, ?_⟩
      refine ⟨_, rfl, rfl, _, rfl, ite2 (fun e => ?CB) (fun e => ?DB)⟩
      case' CB =>
        have e14 : i = 14 := by have := int_eq e; omega
        refine ⟨_, rfl, _, rfl, _, rfl, _, rfl, _, rfl, (sz64 (n := 5) (by decide)), fun u nu => ?_⟩
        have S6 : Same H5 _ := Same.new (o := .tup [y, x, y, x, y]) nu
        have hsm : upd H5 u (.tup [y, x, y, x, y]) u = some (.tup (nargs i x y)) := by rw [e14]; exact upd_same
      case' DB =>
        have e14 : i ≠ 14 := by have := int_ne e; omega
        have S6 := Same.refl H5
        have hsm : H5 d = some (.tup (nargs i x y)) := by rw [nargs_args x y z t e14]; exact S5 _ _ hd4
      all_goals
        -- not equal(fields(k, made_here), due)
        have T5 := S4.trans (S5.trans S6)
        obtain ⟨ds, hds⟩ := args_th hx hy hz ht i
        obtain ⟨ns2, hns⟩ := nargs_th hx hy i
        refine ⟨_, rfl, _, rfl, i, m, _, rfl, hi, (hm.same S5).same S6, args_len x y z t i hi, fun r1 H7 S7 h7 => ⟨_, rfl, r1, d, _, ds, rfl, h7, S7 _ _ (S6 _ _ (S5 _ _ hd4)), hds.same (S.trans (T5.trans S7)), args_few x y z t i, fun H8 S8 => ?_⟩⟩
        refine ⟨_, rfl, iteF ?_⟩
        refine ⟨_, rfl, _, rfl, i, g, _, rfl, hi, ((hg.same S6).same S7).same S8, nargs_len x y i hi, fun r2 H9 S9 h9 => ⟨_, rfl, r2, _, _, ns2, rfl, h9, S9 _ _ (S8 _ _ (S7 _ _ hsm)), hns.same (S.trans (T5.trans (S7.trans (S8.trans S9)))), nargs_few x y i, fun H10 S10 => ?_⟩⟩
        refine ⟨_, rfl, iteF ?_⟩
        -- the base
        refine ⟨_, rfl, _, _, rfl, rfl, _, rfl, _, _, rfl, rfl, _, rfl, _, _, rfl, rfl, _, rfl, _, _, rfl, rfl, (sz64 (n := 4) (by decide)), fun l1 nl1 => ⟨.inl ⟨rfl, _, SqL.of upd_same⟩, ?_⟩⟩
        refine ⟨l1, [decide ((i : Int) ≥ 5), decide ((i : Int) ≥ 8), decide ((i : Int) ≥ 12), decide ((i : Int) ≥ 14)], true, rfl, rfl, SqL.of upd_same, ?_⟩
        rw [show (([decide ((i : Int) ≥ 5), decide ((i : Int) ≥ 8), decide ((i : Int) ≥ 12), decide ((i : Int) ≥ 14)] : List Bool).count true) = baseOf i from base_count i hi]
        -- for one in [made_here, again]
        have S11 := Same.new (o := .lst [V.bl (decide ((i : Int) ≥ 5)), V.bl (decide ((i : Int) ≥ 8)), V.bl (decide ((i : Int) ≥ 12)), V.bl (decide ((i : Int) ≥ 14))]) nl1
        refine ⟨_, rfl, _, rfl, (sz64 (n := 2) (by decide)), fun l2 nl2 => ⟨l2, rfl, ⟨_, SqL.of upd_same⟩, for_list (K := K) (a := l2) (xs := [m, g]) (fun j σ H' => Same H10 H' ∧ H' l2 = some (.lst [m, g]) ∧ ∃ e9 e10 e11 e13 : Option V, σ = [some (.ref a), some (.ref p), some x, some y, some z, some t, e6, some (.int (i : Int)), some m, e9, e10, e11, some (.int (baseOf i : Nat)), e13])
          ⟨S11.trans (Same.new nl2), upd_same, _, _, _, _, rfl⟩ (fun j σ H' _ pv => SqL.of pv.2.1) (fun j one σ H' hx pv => ?_) (fun σ H' pv => ?_)⟩⟩
        rotate_left
        · obtain ⟨S12, _, e9, e10, e11, e13, rfl⟩ := pv
          obtain ⟨ma, _, hmr, _⟩ := hm
          exact ⟨S.trans (T5.trans (S7.trans (S8.trans (S9.trans (S10.trans S12))))), _, _, _, _, _, _, _, _, rfl, fun _ => ⟨ma, by rw [hmr]⟩⟩
        obtain ⟨S12, hl2, e9, e10, e11, e13, rfl⟩ := pv
        obtain ⟨ws, hw⟩ : ∃ ws, ErrAt K H' one i ws := by
          match j, hx with
          | 0, hx => cases hx; exact ⟨_, ((((((hm.same S5).same S6).same S7).same S8).same S9).same S10).same S12⟩
          | 1, hx => cases hx; exact ⟨_, (((((hg.same S6).same S7).same S8).same S9).same S10).same S12⟩
        refine ⟨_, rfl, i, one, ws, rfl, hi, hw, fun r3 H13 S13 h13 => ⟨_, rfl, (sz64 (n := 1) (by decide)), fun l3 nl3 => ⟨.list [.int i], .list [.int i], .lst (SqL.of (Same.new nl3 _ _ h13)) (.cons (.int _) .nil), .lst (SqL.of upd_same) (.cons (.int _) .nil), rfl, rfl, one_depth _, ?_⟩⟩⟩
        rw [SeqAt.eqv_refl_plain (.list [.int (i : Int)]) rfl]
        refine ⟨_, rfl, iteF ?_⟩
        refine ⟨_, rfl, i, one, ws, rfl, hi, (hw.same S13).same (Same.new nl3), fun r4 H14 S14 h14 => ⟨_, rfl, (sz64 (n := 1) (by decide)), fun l4 nl4 => ⟨.list [.int (baseOf i : Nat)], .list [.int (baseOf i : Nat)], .lst (SqL.of (Same.new nl4 _ _ h14)) (.cons (.int _) .nil), .lst (SqL.of upd_same) (.cons (.int _) .nil), rfl, rfl, one_depth _, ?_⟩⟩⟩
        rw [SeqAt.eqv_refl_plain (.list [.int (baseOf i : Nat)]) rfl]
        refine ⟨_, rfl, iteF ?_⟩
        have S15 := S13.trans ((Same.new (o := .lst [V.int (i : Int)]) nl3).trans (S14.trans (Same.new (o := .lst [V.int (baseOf i : Nat)]) nl4)))
        exact ⟨S12.trans S15, S15 _ _ hl2, _, _, _, _, rfl⟩

end
end K96

set_option Elab.async false
set_option linter.all false
set_option maxRecDepth 100000
set_option maxHeartbeats 0
namespace K96
open PySem PySem.Spec PyProof.Rows L2 He Hm
theorem at_of {K : PySem.W.Frag} {h : Heap} {mg : Str → Option Value} (X : K.In h) (G : h.Ns mainGlobals mg) (c : SaysM fa fn K) : At K mg :=
  ⟨c, fun x v e => by
    cases v with
    | none => exact PySem.W.mg_none_of X G e
    | some v => exact PySem.W.mg_of X G e⟩
theorem facts {w : World} {K : PySem.W.Frag} {h : Heap} {mg : Str → Option Value} {f : Addr} (X : K.In h) (G : h.Ns mainGlobals mg) (hfa : mg ("law" : Str) = some (.ref f)) (c : SaysM fa fn K) :
    ∃ fd : FuncData, (∀ (s : Shared) (v : Value), BindsTo s fd ⟨[v], []⟩ [("_law_script", v)]) ∧ ∀ base : Heap, K.In base → base.Ns mainGlobals mg → FnOk PySem.Challenge.pw_markedblocks_k96_errors_made w K mg base CX0 4 f fd ["_law_script"] (spLaw K) := by
  have A := at_of X G c
  have e := hfa.symm.trans (g_law A)
  cases e
  have b := FunD.bindsA (ps := ["_law_script"]) (F_law A) fun _ _ _ _ _ _ us hl => match us, hl with | [_], _ => rfl
  exact ⟨_, fun s v => b s [v] rfl, fun base _ _ => ok_law A⟩
end K96
open PySem PySem.W PySem.Calls PyProof.Rows
theorem PySem.Challenge.cw_markedblocks_k96_errors_made_holds : PySem.Challenge.rw_markedblocks_k96_errors_made.Holds := by
  w_on; o_law
  refine HandSHeadRun.head_any (r := OpenLaw.row PySem.Challenge.rw_markedblocks_k96_errors_made) (q := view (OpenLaw.row PySem.Challenge.rw_markedblocks_k96_errors_made).prog [32]) (H := K96.hk) (ob := K96.ob) (M := 20000) (loose := K96.loose) (d := HandSHeadRun.topDef (OpenLaw.row PySem.Challenge.rw_markedblocks_k96_errors_made).prog 32) (kwd := []) K96.ob_eq
    (by kernel_rfl) (fun s => by kernel_rfl) K96.run (by kernel_rfl) (by kernel_rfl) (by kernel_rfl) (by rfl) (by first | assumption | decide +kernel) (by decide +kernel) ⟨rfl, rfl, rfl, rfl, rfl, by decide +kernel⟩ ?hw ?hc
  case hw => w_witness2
  case hc =>
    refine L2.walk_ofE (l := PySem.Challenge.rw_markedblocks_k96_errors_made) (n := 63) (k := 4) (x := "_law_script") (CX := L2.CX0) rfl (by decide) (by kernel_rfl) ⟨rfl, by decide, by decide⟩ ?F (fun _ _ _ _ z => z)
    intro w mg fa h Y G hmg0
    obtain ⟨K, KX, c⟩ := Y
    have hmg : mg ("law" : PySem.Str) = some (.ref fa) := by
      have e : (HandSHeadRun.topDef (OpenLaw.row PySem.Challenge.rw_markedblocks_k96_errors_made).prog 32).name = ("law" : PySem.Str) := by kernel_rfl
      rw [← e]
      exact hmg0
    obtain ⟨fd, hb, hF⟩ := K96.facts (w := w) KX G hmg c
    exact ⟨K, fd, K96.spLaw K, KX, hb, fun H a ns hl _ hS => ⟨a, ns, rfl, hS, hl, fun _ => rfl⟩, hF⟩

